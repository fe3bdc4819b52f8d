import PyProof.Rows.All
import Wide.All
import OpenK.AllK
import Wide.FinOn
import PySem.PyData
import HandS.ForMost
import HandS.ForExc
import HandS.Deep
import HandS.Gcd
import HandS.Wide
import HandS.IsInst
import HandS.TupAny
import HandS.TupMul
import HandS.Zip
import HandS.Conv
import HandS.Flow
import HandS.Sort
import HandS.CallLocal
import HandS.ExcInit
import HandS.ExcField
import HandS.Style
import KE.GoesEnum
import HandS.Iter
import HandS.More
import KE.KExcInit
import HandS.ForSpec
import HandS.HeadEnd
import HandS.HeadHook1
import HandS.HeadHook2
import HandS.Head2
import HandS.Defaults
import HandS.Head3
import PySem.Challenge.RW_turntold_k06_row_or_chain
set_option Elab.async false
set_option linter.all false
set_option maxRecDepth 100000
set_option maxHeartbeats 4000000
/-! PF, part A: an own small syntax of the Python that the laws use, and its evaluator over plain data. -/
namespace PF
open PySem

/-- data: fz is a list that is never changed (the script), rng a range, fn a def of the text by its number, itr what enumerate, zip .. yield -/
inductive D where
  | non | bl (b : Bool) | int (i : Int) | str (s : Str) | tup (ds : List D) | lst (ds : List D) | fz (ds : List D)
  | rng (lo hi : Int) | fn (k : Nat) | itr (ds : List D)

/-- a result: a value, an own exception of the class k with its number, or nothing that is told -/
inductive R (α : Type) where
  | ok (a : α) | exc (k : Nat) (n : Int) | bad
def R.bind {α β : Type} : R α → (α → R β) → R β
  | .ok a, f => f a
  | .exc k n, _ => .exc k n
  | .bad, _ => .bad
/-- where nothing may be raised -/
def R.calm {α : Type} : R α → R α
  | .ok a => .ok a
  | _ => .bad

/-- a slot: without value, with a value that stays, with a list of its own -/
inductive SV where
  | un | fr (d : D) | own (ds : List D)
abbrev Env := List SV
def Env.get : Env → Nat → SV
  | [], _ => .un
  | x :: _, 0 => x
  | _ :: r, n + 1 => Env.get r n
def wipeE (ρ : Env) : List Nat → Env
  | [] => ρ
  | v :: vs => (wipeE ρ vs).set v .un

inductive BOp where
  | add | sub | mul | fdiv | mod | pow
inductive COp where
  | lt | le | gt | ge | eq | ne | is_ | isnot | in_ | notin
inductive Ty where
  | int | bool | str | tuple | list
inductive Blt where
  | len | tuple | list | rng1 | rng2 | abs | int | any | all | sorted | min2 | max2 | minl | maxl | gcd | str | enum | zip | rng3 | revd
inductive Tg where
  | nm (i : Nat) | tp (ts : List Tg)
inductive E where
  | noE
  | var (i : Nat)
  | int (n : Int) | bl (b : Bool) | non | str (s : Str)
  | tup (es : List E) | lst (es : List E)
  | bin (o : BOp) (a b : E)
  | neg (a : E) | not (a : E)
  | and (a b : E) | or (a b : E)
  | cmp (o : COp) (a b : E)
  | chain (o o' : COp) (a b c : E)
  | ifx (c a b : E)
  | idx (a i : E) | slc (a lo hi : E) | rev (a : E) | stp (a : E) (k : Nat)
  | call (f : Nat) (es : List E) | callv (i : Nat) (es : List E)
  | fnv (f : Nat) | gl (k : Nat)
  | blt (b : Blt) (es : List E)
  | isi (a : E) (cs : List Ty)
  | comp (t : Tg) (it cond elt : E) (ws : List Nat)
  | comp2 (t : Tg) (it : E) (t2 : Tg) (it2 cond elt : E) (ws ws2 : List Nat)
  | index (a x : E)
inductive S where
  | set (i : Nat) (e : E) | own (i : Nat) (e : E) | unp (t : Tg) (e : E) | par (i j : Nat) (a b : E)
  | exp (e : E) | ret (e : E) | retN
  | ite (c : E) (a b : List S)
  | for_ (t : Tg) (it : E) (body : List S)
  | whl (n : Nat) (c : E) (body : List S)
  | aug (i : Nat) (o : BOp) (e : E)
  | app (i : Nat) (e : E) | ins (i : Nat) (k e : E) | ext (i : Nat) (e : E) | sit (i : Nat) (k e : E)
  | rse (k : Nat) (es : List E)
  | tryR (body : List S) (k i : Nat) (j : Option Nat)
  | brk | cnt | pss
  | frz (i : Nat) | fgt (is : List Nat)
structure Fn where
  np : Nat
  ns : Nat
  body : List S
/-- a program: its defs and its constants by number -/
structure Prg where
  fns : Nat → Option Fn
  con : Nat → Option D

/-! ### operations -/
mutual
/-- what == is told of: no range, no def, at most n deep -/
def okD : Nat → D → Bool
  | _, .non => true
  | _, .bl _ => true
  | _, .int _ => true
  | _, .str s => PyData.strOk s
  | n + 1, .tup ds => okDs n ds
  | n + 1, .lst ds => okDs n ds
  | _, _ => false
def okDs : Nat → List D → Bool
  | _, [] => true
  | n, d :: ds => okD n d && okDs n ds
end
mutual
def eqv : D → D → Bool
  | .non, .non => true
  | .bl a, .bl b => a == b
  | .bl a, .int j => (if a then 1 else 0) == j
  | .int i, .bl b => i == (if b then 1 else 0)
  | .int i, .int j => i == j
  | .str x, .str y => x == y
  | .tup xs, .tup ys => eqvs xs ys
  | .lst xs, .lst ys => eqvs xs ys
  | _, _ => false
def eqvs : List D → List D → Bool
  | [], [] => true
  | x :: xs, y :: ys => eqv x y && eqvs xs ys
  | _, _ => false
end
def deep : Nat := 30
def eqR (a b : D) : R Bool := if okD deep a && okD deep b then .ok (eqv a b) else .bad
def inR (x : D) : D → R Bool
  | .lst ds => if okD deep x && okDs deep ds then .ok (ds.any fun z => eqv z x) else .bad
  | .tup ds => if okD deep x && okDs deep ds then .ok (ds.any fun z => eqv z x) else .bad
  | .rng lo hi => match x with
    | .int i => .ok (decide (lo ≤ i ∧ i < hi))
    | _ => .bad
  | _ => .bad
def truth : D → R Bool
  | .non => .ok false
  | .bl b => .ok b
  | .int i => .ok (i != 0)
  | .tup ds => .ok (!ds.isEmpty)
  | .lst ds => .ok (!ds.isEmpty)
  | .fz ds => .ok (!ds.isEmpty)
  | _ => .bad
def big : Nat := 1000000
def mulOk (i j : Int) : Bool := decide (i.natAbs < 2 ^ 64) || decide (j.natAbs < 2 ^ 64) || decide (i.natAbs.log2 + j.natAbs.log2 < 1000000)
def divOk (j : Int) : Bool := (decide (0 < j) && decide (j.natAbs.log2 < 9000)) || (decide (j ≠ 0) && decide (j.natAbs < 1073741824))
def powOk (i j : Int) : Bool := decide (0 ≤ j) && decide (j ≤ 1000000) && decide (i.natAbs < 2 ^ 64)
def binR : BOp → D → D → R D
  | .add, .int i, .int j => .ok (.int (i + j))
  | .add, .tup a, .tup b => if a.length + b.length ≤ big then .ok (.tup (a ++ b)) else .bad
  | .add, .lst a, .lst b => if a.length + b.length ≤ big then .ok (.lst (a ++ b)) else .bad
  | .add, .str a, .str b => if a.length + b.length ≤ big then .ok (.str (a ++ b)) else .bad
  | .sub, .int i, .int j => .ok (.int (i - j))
  | .mul, .int i, .int j => if mulOk i j then .ok (.int (i * j)) else .bad
  | .mul, .tup a, .int k => if !a.isEmpty && decide (2 ≤ k) && decide (k ≤ 1000) && decide (a.length ≤ 1000) then .ok (.tup (List.replicate k.toNat a).flatten) else .bad
  | .fdiv, .int i, .int j => if divOk j then .ok (.int (i.fdiv j)) else .bad
  | .mod, .int i, .int j => if j ≠ 0 then .ok (.int (i.fmod j)) else .bad
  | .pow, .int i, .int j => if powOk i j then .ok (.int (i ^ j.toNat)) else .bad
  | _, _, _ => .bad
def isNon : D → Bool
  | .non => true
  | _ => false
def cmpR : COp → D → D → R Bool
  | .lt, .int i, .int j => .ok (decide (i < j))
  | .le, .int i, .int j => .ok (decide (i ≤ j))
  | .gt, .int i, .int j => .ok (decide (j < i))
  | .ge, .int i, .int j => .ok (decide (j ≤ i))
  | .eq, a, b => eqR a b
  | .ne, a, b => (eqR a b).bind fun c => .ok !c
  | .is_, a, .non => .ok (isNon a)
  | .isnot, a, .non => .ok (!isNon a)
  | .in_, a, b => inR a b
  | .notin, a, b => (inR a b).bind fun c => .ok !c
  | _, _, _ => .bad
def atL (ds : List D) (i : Int) : R D := if 0 ≤ i then (match ds[i.toNat]? with | some d => .ok d | none => .bad) else if -(ds.length : Int) ≤ i then (match ds[(i + ds.length).toNat]? with | some d => .ok d | none => .bad) else .bad
def idxR : D → D → R D
  | .tup ds, .int i => atL ds i
  | .lst ds, .int i => atL ds i
  | .fz ds, .int i => atL ds i
  | _, _ => .bad
def six (n d : Nat) : Option Int → Nat
  | none => d
  | some v => if v < 0 then (v + (n : Int)).toNat else min v.toNat n
def cutL (ds : List D) (lo hi : Option Int) : List D := (ds.drop (six ds.length 0 lo)).take (six ds.length ds.length hi - six ds.length 0 lo)
def slcR : D → Option Int → Option Int → R D
  | .tup ds, lo, hi => .ok (.tup (cutL ds lo hi))
  | .lst ds, lo, hi => .ok (.lst (cutL ds lo hi))
  | _, _, _ => .bad
def stpI (n k : Nat) : List Nat := (List.range ((n + k - 1) / k)).map fun m => k * m
def stpL {α : Type} (k : Nat) (l : List α) : List α := (stpI l.length k).filterMap (l[·]?)
def stpR (k : Nat) : D → R D
  | .lst ds => .ok (.lst (stpL k ds))
  | _ => .bad
def revR : D → R D
  | .lst ds => .ok (.lst ds.reverse)
  | .tup ds => .ok (.tup ds.reverse)
  | _ => .bad
def upL (lo : Int) : Nat → List D
  | 0 => []
  | n + 1 => .int lo :: upL (lo + 1) n
def itemsR : D → R (List D)
  | .lst ds => .ok ds
  | .tup ds => .ok ds
  | .fz ds => .ok ds
  | .itr ds => .ok ds
  | .rng lo hi => if -(2 ^ 62) ≤ lo ∧ lo < 2 ^ 62 ∧ -(2 ^ 62) ≤ hi ∧ hi < 2 ^ 62 then .ok (upL lo (hi - lo).toNat) else .bad
  | _ => .bad
/-- what enumerate takes -/
def seqR : D → R (List D)
  | .tup ds => .ok ds
  | .lst ds => .ok ds
  | _ => .bad
def enumL : Nat → List D → List D
  | _, [] => []
  | n, d :: ds => .tup [.int (n : Int), d] :: enumL (n + 1) ds
def zipL : List D → List D → List D
  | a :: as, b :: bs => .tup [a, b] :: zipL as bs
  | _, _ => []
def stepL (lo st : Int) : Nat → List D
  | 0 => []
  | n + 1 => .int lo :: stepL (lo + st) st n
def boolsR : List D → R (List Bool)
  | [] => .ok []
  | .bl b :: ds => (boolsR ds).bind fun bs => .ok (b :: bs)
  | _ :: _ => .bad
def intsR : List D → R (List Int)
  | [] => .ok []
  | .int b :: ds => (intsR ds).bind fun bs => .ok (b :: bs)
  | _ :: _ => .bad
def tupsR : List D → R (List (List Int))
  | [] => .ok []
  | .tup b :: ds => (intsR b).bind fun b => (tupsR ds).bind fun bs => .ok (b :: bs)
  | _ :: _ => .bad
def lexLe : List Int → List Int → Bool
  | [], _ => true
  | _ :: _, [] => false
  | x :: xs, y :: ys => if x = y then lexLe xs ys else decide (x < y)
def maxL : Int → List Int → Int
  | m, [] => m
  | m, x :: xs => maxL (if m < x then x else m) xs
def minL : Int → List Int → Int
  | m, [] => m
  | m, x :: xs => minL (if x < m then x else m) xs
def bltR : Blt → List D → R D
  | .len, [.tup ds] => .ok (.int ds.length)
  | .len, [.lst ds] => .ok (.int ds.length)
  | .len, [.fz ds] => .ok (.int ds.length)
  | .tuple, [.lst ds] => .ok (.tup ds)
  | .tuple, [.tup ds] => .ok (.tup ds)
  | .list, [.lst ds] => .ok (.lst ds)
  | .list, [.tup ds] => .ok (.lst ds)
  | .rng1, [.int n] => .ok (.rng 0 n)
  | .rng2, [.int m, .int n] => .ok (.rng m n)
  | .abs, [.int i] => .ok (.int (if i < 0 then -i else i))
  | .int, [.int i] => .ok (.int i)
  | .any, [.lst ds] => (boolsR ds).bind fun bs => .ok (.bl (bs.any id))
  | .all, [.lst ds] => (boolsR ds).bind fun bs => .ok (.bl (bs.all id))
  | .sorted, [.lst ds] => (tupsR ds).bind fun ts => .ok (.lst ((ts.mergeSort lexLe).map fun t => .tup (t.map .int)))
  | .min2, [.int i, .int j] => .ok (.int (if j < i then j else i))
  | .max2, [.int i, .int j] => .ok (.int (if i < j then j else i))
  | .minl, [.lst ds] => (intsR ds).bind fun l => match l with | [] => .bad | x :: xs => .ok (.int (minL x xs))
  | .maxl, [.lst ds] => (intsR ds).bind fun l => match l with | [] => .bad | x :: xs => .ok (.int (maxL x xs))
  | .gcd, [.int i, .int j] => .ok (.int (Nat.gcd i.natAbs j.natAbs : Nat))
  | .enum, [d] => (seqR d).bind fun ds => .ok (.itr (enumL 0 ds))
  | .zip, [d, e] => (itemsR d).bind fun ds => (itemsR e).bind fun es => .ok (.itr (zipL ds es))
  | .rng3, [.int a, .int b, .int c] => if c ≠ 0 ∧ c.natAbs < 1073741824 ∧ Builtin.Range.small a b c = true ∧ 0 ≤ Builtin.Range.rangeSize a b c then .ok (.itr (stepL a c (Builtin.Range.rangeSize a b c).toNat)) else .bad
  | .revd, [d] => (itemsR d).bind fun ds => .ok (.itr ds.reverse)
  | _, _ => .bad
def isT : D → Ty → R Bool
  | .non, _ => .ok false
  | .bl _, .int => .ok true
  | .bl _, .bool => .ok true
  | .bl _, _ => .ok false
  | .int _, .int => .ok true
  | .int _, _ => .ok false
  | .str _, .str => .ok true
  | .str _, _ => .ok false
  | .tup _, .tuple => .ok true
  | .tup _, _ => .ok false
  | .lst _, .list => .ok true
  | .lst _, _ => .ok false
  | _, _ => .bad
def isTs (d : D) : List Ty → R Bool
  | [] => .ok false
  | t :: ts => (isT d t).bind fun b => (isTs d ts).bind fun c => .ok (b || c)
/-- the first place of an equal one -/
def idxOf (x : D) : Nat → List D → R Nat
  | _, [] => .bad
  | n, d :: ds => if eqv d x then .ok n else idxOf x (n + 1) ds

mutual
def asg : Tg → D → Env → R Env
  | .nm i, d, ρ => .ok (ρ.set i (.fr d))
  | .tp ts, .tup ds, ρ => asgs ts ds ρ
  | .tp _, _, _ => .bad
def asgs : List Tg → List D → Env → R Env
  | [], [], ρ => .ok ρ
  | t :: ts, d :: ds, ρ => (asg t d ρ).bind (asgs ts ds)
  | _, _, _ => .bad
end
/-- a list comprehension: f gives what an item brings -/
def compL (f : D → R (List D)) : List D → R (List D)
  | [] => .ok []
  | d :: ds => (f d).bind fun x => (compL f ds).bind fun r => .ok (x ++ r)
/-- what one item brings: its value, if the test says so -/
def condL (cond : E) (c : R Bool) (x : R D) : R (List D) := match cond with
  | .noE => x.bind fun x => .ok [x]
  | _ => c.bind fun k => if k = true then x.bind fun x => .ok [x] else .ok []
/-- a list may be read where it stands -/
def brw (ρ : Env) (e : E) (r : R D) : R D := match e with
  | .var i => (match ρ.get i with
    | .fr d => .ok d
    | .own ds => .ok (.lst ds)
    | .un => .bad)
  | _ => r
def optI (e : E) (r : R D) : R (Option Int) := match e with
  | .noE => .ok none
  | _ => r.bind fun d => match d with
    | .int i => .ok (some i)
    | _ => .bad
/-- what is there to be walked alone -/
def itB : Blt → Bool
  | .enum => true
  | .zip => true
  | .rng3 => true
  | .revd => true
  | _ => false
structure Cal where
  call : Nat → List D → R D
  con : Nat → Option D
def optR {α : Type} : Option α → R α
  | some a => .ok a
  | none => .bad

mutual
def ev (C : Cal) (ρ : Env) : E → R D
  | .noE => .bad
  | .var i => (match ρ.get i with
    | .fr d => .ok d
    | _ => .bad)
  | .int n => .ok (.int n)
  | .bl b => .ok (.bl b)
  | .non => .ok .non
  | .str s => .ok (.str s)
  | .tup es => (evs C ρ es).bind fun ds => .ok (.tup ds)
  | .lst es => (evs C ρ es).bind fun ds => .ok (.lst ds)
  | .bin o a b => (brw ρ a (ev C ρ a)).bind fun x => (brw ρ b (ev C ρ b)).bind fun y => binR o x y
  | .neg a => (ev C ρ a).bind fun x => match x with
    | .int i => .ok (.int (-i))
    | _ => .bad
  | .not a => ((brw ρ a (ev C ρ a)).bind truth).bind fun b => .ok (.bl !b)
  | .and a b => (ev C ρ a).bind fun x => (truth x).bind fun c => if c = true then ev C ρ b else .ok x
  | .or a b => (ev C ρ a).bind fun x => (truth x).bind fun c => if c = true then .ok x else ev C ρ b
  | .cmp o a b => (brw ρ a (ev C ρ a)).bind fun x => (brw ρ b (ev C ρ b)).bind fun y => (cmpR o x y).bind fun c => .ok (.bl c)
  | .chain o o' a b c => (brw ρ a (ev C ρ a)).bind fun x => (brw ρ b (ev C ρ b)).bind fun y => (cmpR o x y).bind fun k =>
      if k = true then (brw ρ c (ev C ρ c)).bind fun z => (cmpR o' y z).bind fun k' => .ok (.bl k') else .ok (.bl false)
  | .ifx c a b => ((brw ρ c (ev C ρ c)).bind truth).bind fun k => if k = true then ev C ρ a else ev C ρ b
  | .idx a i => (brw ρ a (ev C ρ a)).bind fun x => (ev C ρ i).bind fun y => idxR x y
  | .slc a lo hi => (brw ρ a (ev C ρ a)).bind fun x => (optI lo (ev C ρ lo)).bind fun l => (optI hi (ev C ρ hi)).bind fun h => slcR x l h
  | .rev a => (brw ρ a (ev C ρ a)).bind revR
  | .stp a k => (brw ρ a (ev C ρ a)).bind (stpR k)
  | .call f es => (evs C ρ es).bind fun ds => C.call f ds
  | .callv i es => (match ρ.get i with
    | .fr (.fn f) => (evs C ρ es).bind fun ds => C.call f ds
    | _ => .bad)
  | .fnv f => .ok (.fn f)
  | .gl k => optR (C.con k)
  | .blt b es => if itB b = true then (evs C ρ es).bind fun ds => (bltR b ds).calm else (evqs C ρ es).bind fun ds => (bltR b ds).calm
  | .isi a cs => (brw ρ a (ev C ρ a)).bind fun x => (isTs x cs).bind fun b => .ok (.bl b)
  | .comp t it cond elt ws => ((brw ρ it (ev C ρ it)).bind itemsR).bind fun ds => (compL (fun d => ((asg t d (wipeE ρ ws)).bind fun ρ1 => condL cond ((brw ρ1 cond (ev C ρ1 cond)).bind truth) (ev C ρ1 elt)).calm) ds).bind fun r => if r.length ≤ big then .ok (.lst r) else .bad
  | .comp2 t it t2 it2 cond elt ws ws2 => ((brw ρ it (ev C ρ it)).bind itemsR).bind fun ds => (compL (fun d => ((asg t d (wipeE ρ ws)).bind fun ρ1 =>
      ((ev C ρ1 it2).bind itemsR).bind fun ds2 => compL (fun d2 => (asg t2 d2 (wipeE ρ1 ws2)).bind fun ρ2 => condL cond ((brw ρ2 cond (ev C ρ2 cond)).bind truth) (ev C ρ2 elt)) ds2).calm) ds).bind fun r => if r.length ≤ big then .ok (.lst r) else .bad
  | .index a x => (brw ρ a (ev C ρ a)).bind fun s => (ev C ρ x).bind fun y => match s with
    | .lst ds => if okD deep y && okDs deep ds then (idxOf y 0 ds).bind fun n => .ok (.int (n : Nat)) else .bad
    | _ => .bad
def evs (C : Cal) (ρ : Env) : List E → R (List D)
  | [] => .ok []
  | e :: es => (ev C ρ e).bind fun d => (evs C ρ es).bind fun ds => .ok (d :: ds)
def evqs (C : Cal) (ρ : Env) : List E → R (List D)
  | [] => .ok []
  | e :: es => (brw ρ e (ev C ρ e)).bind fun d => (evqs C ρ es).bind fun ds => .ok (d :: ds)
end

/-! ### statements -/
inductive O where
  | nx (ρ : Env) | rt (d : D) | bk (ρ : Env) | ct (ρ : Env) | exc (k : Nat) (n : Int) | bad
def R.o {α : Type} : R α → (α → O) → O
  | .ok a, f => f a
  | .exc k n, _ => .exc k n
  | .bad, _ => .bad
def forL (t : Tg) (body : Env → O) : List D → Env → O
  | [], ρ => .nx ρ
  | d :: ds, ρ => (asg t d ρ).o fun ρ1 => match body ρ1 with
    | .nx ρ2 => forL t body ds ρ2
    | .ct ρ2 => forL t body ds ρ2
    | .bk ρ2 => .nx ρ2
    | o => o
def whlL (c : Env → R Bool) (body : Env → O) : Nat → Env → O
  | 0, _ => .bad
  | n + 1, ρ => (c ρ).o fun b => if b = true then (match body ρ with
    | .nx ρ2 => whlL c body n ρ2
    | .ct ρ2 => whlL c body n ρ2
    | .bk ρ2 => .nx ρ2
    | o => o) else .nx ρ
def ownR : SV → R (List D)
  | .own ds => .ok ds
  | _ => .bad
def lstR : D → R (List D)
  | .lst ds => .ok ds
  | _ => .bad
def intR : D → R Int
  | .int i => .ok i
  | _ => .bad
def frzE (ρ : Env) (i : Nat) : Env := match ρ.get i with
  | .own ds => ρ.set i (.fr (.lst ds))
  | _ => ρ
/-- what a suite gives back: the field, or whether it is slot j's number -/
def catO (ρ : Env) (j : Option Nat) (n : Int) : O := match j with
  | none => .rt (.int n)
  | some j => (match ρ.get j with
    | .fr (.int m) => .rt (.bl (n == m))
    | _ => .bad)
def augR (o : BOp) : D → D → R D
  | .int a, .int b => binR o (.int a) (.int b)
  | _, _ => .bad
/-- list.insert, at a place within -/
def insAt (ds : List D) (k : Nat) (d : D) : List D := ds.take k ++ d :: ds.drop k

mutual
def exS (C : Cal) (ρ : Env) : S → O
  | .set i e => (ev C ρ e).o fun d => .nx (ρ.set i (.fr d))
  | .own i e => ((ev C ρ e).bind lstR).o fun ds => .nx (ρ.set i (.own ds))
  | .unp t e => (ev C ρ e).o fun d => (asg t d ρ).o fun ρ1 => .nx ρ1
  | .par i j a b => (ev C ρ a).o fun x => (ev C ρ b).o fun y => .nx ((ρ.set i (.fr x)).set j (.fr y))
  | .exp e => (ev C ρ e).o fun _ => .nx ρ
  | .ret e => (ev C ρ e).o fun d => .rt d
  | .retN => .rt .non
  | .ite c a b => ((brw ρ c (ev C ρ c)).bind truth).o fun k => if k = true then exs C ρ a else exs C ρ b
  | .for_ t it body => ((ev C ρ it).bind itemsR).o fun ds => forL t (fun ρ1 => exs C ρ1 body) ds ρ
  | .whl n c body => whlL (fun ρ1 => (brw ρ1 c (ev C ρ1 c)).bind truth) (fun ρ1 => exs C ρ1 body) n ρ
  | .aug i o e => (match ρ.get i with
    | .fr x => (ev C ρ e).o fun y => (augR o x y).o fun z => .nx (ρ.set i (.fr z))
    | _ => .bad)
  | .app i e => (ownR (ρ.get i)).o fun ds => (ev C ρ e).o fun d => if ds.length < big then .nx (ρ.set i (.own (ds ++ [d]))) else .bad
  | .ins i k e => (ownR (ρ.get i)).o fun ds => ((ev C ρ k).bind intR).o fun n => (ev C ρ e).o fun d => if 0 ≤ n ∧ n ≤ ds.length ∧ ds.length < big then .nx (ρ.set i (.own (insAt ds n.toNat d))) else .bad
  | .ext i e => (ownR (ρ.get i)).o fun ds => ((ev C ρ e).bind lstR).o fun es => if ds.length + es.length < big then .nx (ρ.set i (.own (ds ++ es))) else .bad
  | .sit i k e => (ev C ρ e).o fun d => (ownR (ρ.get i)).o fun ds => ((ev C ρ k).bind intR).o fun n =>
      if 0 ≤ n ∧ n < ds.length then .nx (ρ.set i (.own (ds.set n.toNat d))) else if n < 0 ∧ -(ds.length : Int) ≤ n then .nx (ρ.set i (.own (ds.set (n + ds.length).toNat d))) else .bad
  | .rse k es => (evs C ρ es).o fun ds => (match ds with
    | [.int n] => .exc k n
    | _ => .bad)
  | .tryR body k i j => (match exs C ρ body with
    | .exc k' n => if k' = k then catO ρ j n else .bad
    | o => o)
  | .brk => .bk ρ
  | .cnt => .ct ρ
  | .pss => .nx ρ
  | .frz i => .nx (frzE ρ i)
  | .fgt is => .nx (wipeE ρ is)
def exs (C : Cal) (ρ : Env) : List S → O
  | [] => .nx ρ
  | s :: ss => (match exS C ρ s with
    | .nx ρ1 => exs C ρ1 ss
    | o => o)
end
def startE (ds : List D) (n : Nat) : Env := ds.map SV.fr ++ List.replicate (n - ds.length) SV.un
def O.r : O → R D
  | .nx _ => .ok .non
  | .rt d => .ok d
  | .exc k n => .exc k n
  | _ => .bad
def callF (T : Prg) : Nat → Nat → List D → R D
  | 0, _, _ => .bad
  | n + 1, f, ds => match T.fns f with
    | none => .bad
    | some F => if ds.length = F.np then (exs ⟨callF T n, T.con⟩ (startE ds F.ns) F.body).r else .bad
end PF

/-! PF, part B: how data lie in the abstract heap. -/
namespace PF
open PySem PySem.Spec PyProof.Rows L2

/-- where the defs, the own classes stand; which of these have the field at; how many parameters the defs have -/
structure Wh where
  K : PySem.W.Frag
  fa : Nat → Addr
  ca : Nat → Addr
  xa : Nat → Bool
  np : Nat → Nat
  kn : Nat → Bool

section
variable (Y : Wh)
mutual
inductive Rp (G : Hp) : V → D → Prop
  | non : Rp G .non .non
  | bl (b : Bool) : Rp G (.bl b) (.bl b)
  | int (i : Int) : Rp G (.int i) (.int i)
  | str (s : Str) : Rp G (.str s) (.str s)
  | tup {a : Addr} {vs : List V} {ds : List D} : SqT Y.K G a vs → RpA G vs ds → Rp G (.ref a) (.tup ds)
  | lst {a : Addr} {vs : List V} {ds : List D} : G a = some (.lst vs) → RpA G vs ds → Rp G (.ref a) (.lst ds)
  | fz {a : Addr} {vs : List V} {ds : List D} : SqL Y.K G a vs → RpA G vs ds → Rp G (.ref a) (.fz ds)
  | rng {a : Addr} {lo hi : Int} : G a = some (.rng lo hi) → Rp G (.ref a) (.rng lo hi)
  | fn (k : Nat) (h : Y.kn k = true) : Rp G (.ref (Y.fa k)) (.fn k)
inductive RpA (G : Hp) : List V → List D → Prop
  | nil : RpA G [] []
  | cons {v : V} {vs : List V} {d : D} {ds : List D} : Rp G v d → RpA G vs ds → RpA G (v :: vs) (d :: ds)
end
end

theorem sqT_mono {K : PySem.W.Frag} {G G' : Hp} {a : Addr} {xs : List V} (e : Same G G') (h : SqT K G a xs) : SqT K G' a xs := by
  rcases h with (h | ⟨o, h⟩) | h
  · exact .inl (.inl (e _ _ h))
  · exact .inl (.inr ⟨o, e _ _ h⟩)
  · exact .inr h

section
variable {Y : Wh} {G G' G1 G2 H H' H1 H2 : Hp}
mutual
theorem Rp.mono (e : Same G G') : ∀ {v : V} {d : D}, Rp Y G v d → Rp Y G' v d
  | _, _, .non => .non
  | _, _, .bl b => .bl b
  | _, _, .int i => .int i
  | _, _, .str s => .str s
  | _, _, .tup h r => .tup (sqT_mono e h) (RpA.mono e r)
  | _, _, .lst h r => .lst (e _ _ h) (RpA.mono e r)
  | _, _, .fz h r => .fz (Same.seq e h) (RpA.mono e r)
  | _, _, .rng h => .rng (e _ _ h)
  | _, _, .fn k h => .fn k h
theorem RpA.mono (e : Same G G') : ∀ {vs : List V} {ds : List D}, RpA Y G vs ds → RpA Y G' vs ds
  | _, _, .nil => .nil
  | _, _, .cons r t => .cons (Rp.mono e r) (RpA.mono e t)
end
theorem RpA.length : ∀ {vs : List V} {ds : List D}, RpA Y G vs ds → vs.length = ds.length
  | _, _, .nil => rfl
  | _, _, .cons _ t => by simp [RpA.length t]
theorem RpA.get : ∀ {vs : List V} {ds : List D} {i : Nat} {d : D}, RpA Y G vs ds → ds[i]? = some d → ∃ v, vs[i]? = some v ∧ Rp Y G v d
  | _, _, _, _, .nil, e => by simp at e
  | _, _, 0, _, .cons r _, e => by
    simp at e
    subst e
    exact ⟨_, rfl, r⟩
  | _, _, i + 1, d, .cons _ t, e => by
    obtain ⟨v, h1, h2⟩ := RpA.get (i := i) (d := d) t (by simpa using e)
    exact ⟨v, by simpa using h1, h2⟩
theorem RpA.getV : ∀ {vs : List V} {ds : List D} {i : Nat} {v : V}, RpA Y G vs ds → vs[i]? = some v → ∃ d, ds[i]? = some d ∧ Rp Y G v d
  | _, _, _, _, .nil, e => by simp at e
  | _, _, 0, _, .cons r _, e => by
    simp at e
    subst e
    exact ⟨_, rfl, r⟩
  | _, _, i + 1, v, .cons _ t, e => by
    obtain ⟨d, h1, h2⟩ := RpA.getV (i := i) (v := v) t (by simpa using e)
    exact ⟨d, by simpa using h1, h2⟩
theorem RpA.append : ∀ {vs ws : List V} {ds es : List D}, RpA Y G vs ds → RpA Y G ws es → RpA Y G (vs ++ ws) (ds ++ es)
  | _, _, _, _, .nil, s => s
  | _, _, _, _, .cons r t, s => .cons r (RpA.append t s)
theorem RpA.take : ∀ {vs : List V} {ds : List D} (n : Nat), RpA Y G vs ds → RpA Y G (vs.take n) (ds.take n)
  | _, _, 0, _ => by simpa using RpA.nil
  | _, _, _ + 1, .nil => by simpa using RpA.nil
  | _, _, n + 1, .cons r t => by simpa using RpA.cons r (RpA.take n t)
theorem RpA.drop : ∀ {vs : List V} {ds : List D} (n : Nat), RpA Y G vs ds → RpA Y G (vs.drop n) (ds.drop n)
  | _, _, 0, r => by simpa using r
  | _, _, _ + 1, .nil => by simpa using RpA.nil
  | _, _, n + 1, .cons _ t => by simpa using RpA.drop n t
theorem RpA.set {v : V} {d : D} (r : Rp Y G v d) : ∀ {vs : List V} {ds : List D} (i : Nat), RpA Y G vs ds → RpA Y G (vs.set i v) (ds.set i d)
  | _, _, _, .nil => .nil
  | _, _, 0, .cons _ t => .cons r t
  | _, _, i + 1, .cons q t => .cons q (RpA.set r i t)
theorem RpA.reverse {vs : List V} {ds : List D} (h : RpA Y G vs ds) : RpA Y G vs.reverse ds.reverse := by
  induction h using RpA.rec (motive_1 := fun _ _ _ => True) with
  | nil => exact .nil
  | cons r t _ ih => simpa using RpA.append ih (.cons r .nil)
  | _ => trivial
theorem RpA.rep {vs : List V} {ds : List D} (h : RpA Y G vs ds) : ∀ k : Nat, RpA Y G (List.replicate k vs).flatten (List.replicate k ds).flatten
  | 0 => by simpa using RpA.nil
  | k + 1 => by simpa [List.replicate_succ] using RpA.append h (RpA.rep h k)

/-- the heap grows: all that stood stands; what stays grows by new things alone -/
structure Gr (G H G' H' : Hp) : Prop where
  hh : Same H H'
  gg : Same G G'
  gh : Same G' H'
  nw : ∀ a o, G' a = some o → G a = some o ∨ H a = none
theorem Gr.refl (s : Same G H) : Gr G H G H := ⟨.refl _, .refl _, s, fun _ _ e => .inl e⟩
theorem Gr.trans (x : Gr G H G1 H1) (y : Gr G1 H1 G2 H2) : Gr G H G2 H2 := by
  refine ⟨x.hh.trans y.hh, x.gg.trans y.gg, y.gh, fun a o e => ?_⟩
  rcases y.nw a o e with h | h
  · exact x.nw a o h
  · exact .inr (x.hh.free h)
/-- what neither stays nor is new -/
theorem Gr.keepNone (x : Gr G H G' H') {a : Addr} {o : HO} (h : H a = some o) (g : G a = none) : G' a = none := by
  cases e : G' a with
  | none => rfl
  | some u =>
    rcases x.nw a u e with q | q
    · rw [g] at q; cases q
    · rw [h] at q; cases q
theorem same_new {H : Hp} {p : Addr} {o : HO} (h : H p = none) : Same H (upd H p o) := fun b x e => by
  rw [upd_ne (ne_of_none e h)]
  exact e
theorem same_upd2 {G H : Hp} {p : Addr} {o : HO} (s : Same G H) : Same (upd G p o) (upd H p o) := fun b x e => by
  by_cases hb : b = p
  · subst hb
    rw [upd_same] at e ⊢
    exact e
  · rw [upd_ne hb] at e ⊢
    exact s _ _ e
/-- a new object that stays -/
theorem Gr.new (s : Same G H) {p : Addr} {o : HO} (h : H p = none) : Gr G H (upd G p o) (upd H p o) := by
  refine ⟨same_new h, same_new (s.free h), same_upd2 s, fun a x e => ?_⟩
  by_cases hb : a = p
  · subst hb
    exact .inr h
  · rw [upd_ne hb] at e
    exact .inl e

/-- what may be read where it stands: it stays, or is a list of its own -/
def Br (Y : Wh) (G H : Hp) (v : V) (d : D) : Prop := Rp Y G v d ∨ ∃ (a : Addr) (vs : List V) (ds : List D), v = .ref a ∧ d = .lst ds ∧ H a = some (.lst vs) ∧ G a = none ∧ RpA Y G vs ds
theorem Br.of {v : V} {d : D} (h : Rp Y G v d) : Br Y G H v d := .inl h
theorem Br.mono (g : Gr G H G' H') {v : V} {d : D} (h : Br Y G H v d) : Br Y G' H' v d := by
  rcases h with h | ⟨a, vs, ds, e1, e2, h1, h2, h3⟩
  · exact .inl (h.mono g.gg)
  · exact .inr ⟨a, vs, ds, e1, e2, g.hh _ _ h1, g.keepNone h1 h2, h3.mono g.gg⟩
inductive BrA (Y : Wh) (G H : Hp) : List V → List D → Prop
  | nil : BrA Y G H [] []
  | cons {v : V} {vs : List V} {d : D} {ds : List D} : Br Y G H v d → BrA Y G H vs ds → BrA Y G H (v :: vs) (d :: ds)
theorem BrA.mono (g : Gr G H G' H') : ∀ {vs : List V} {ds : List D}, BrA Y G H vs ds → BrA Y G' H' vs ds
  | _, _, .nil => .nil
  | _, _, .cons r t => .cons (r.mono g) (BrA.mono g t)

abbrev Sl := L2.St
/-- the slots -/
def SlOk (Y : Wh) (G H : Hp) (x : Option (Option V)) : SV → Prop
  | .un => True
  | .fr d => ∃ v, x = some (some v) ∧ Rp Y G v d
  | .own ds => ∃ (a : Addr) (vs : List V), x = some (some (.ref a)) ∧ H a = some (.lst vs) ∧ G a = none ∧ RpA Y G vs ds
theorem SlOk.mono (g : Gr G H G' H') {x : Option (Option V)} : ∀ {s : SV}, SlOk Y G H x s → SlOk Y G' H' x s
  | .un, _ => trivial
  | .fr _, ⟨v, e, r⟩ => ⟨v, e, r.mono g.gg⟩
  | .own _, ⟨a, vs, e, h, n, r⟩ => ⟨a, vs, e, g.hh _ _ h, g.keepNone h n, r.mono g.gg⟩
def isOwn : SV → Bool
  | .own _ => true
  | _ => false
structure EOk (Y : Wh) (G H : Hp) (σ : Sl) (ρ : Env) : Prop where
  len : σ.length = ρ.length
  gh : Same G H
  sl : ∀ i, SlOk Y G H (σ[i]?) (ρ.get i)
  ap : ∀ i j a, i ≠ j → isOwn (ρ.get i) = true → isOwn (ρ.get j) = true → σ[i]? = some (some (.ref a)) → σ[j]? = some (some (.ref a)) → False
theorem EOk.mono {σ : Sl} {ρ : Env} (g : Gr G H G' H') (x : EOk Y G H σ ρ) : EOk Y G' H' σ ρ := ⟨x.len, g.gh, fun i => (x.sl i).mono g, x.ap⟩

/-! ### slots set -/
theorem get_set_self : ∀ {ρ : Env} {i : Nat} {x : SV}, i < ρ.length → Env.get (ρ.set i x) i = x
  | [], _, _, h => by simp at h
  | _ :: _, 0, _, _ => rfl
  | _ :: r, i + 1, x, h => by
    show Env.get (r.set i x) i = x
    exact get_set_self (by simpa using h)
theorem get_set_ne : ∀ {ρ : Env} {i j : Nat} {x : SV}, i ≠ j → Env.get (ρ.set i x) j = Env.get ρ j
  | [], _, _, _, _ => rfl
  | _ :: _, 0, 0, _, h => absurd rfl h
  | _ :: _, 0, j + 1, _, _ => rfl
  | _ :: _, i + 1, 0, _, _ => rfl
  | _ :: r, i + 1, j + 1, x, h => by
    show Env.get (r.set i x) j = Env.get r j
    exact get_set_ne fun e => h (by omega)
theorem get_out : ∀ {ρ : Env} {i : Nat}, ρ.length ≤ i → Env.get ρ i = .un
  | [], _, _ => rfl
  | _ :: _, 0, h => by simp at h
  | _ :: r, i + 1, h => by
    show Env.get r i = _
    exact get_out (by simpa using h)
theorem set_out {ρ : Env} {i : Nat} {x : SV} (h : ρ.length ≤ i) : ρ.set i x = ρ := by
  rw [List.set_eq_of_length_le h]
theorem EOk.setFr {σ : Sl} {ρ : Env} (x : EOk Y G H σ ρ) {i : Nat} {v : V} {d : D} (r : Rp Y G v d) : EOk Y G H (σ.set i (some v)) (ρ.set i (.fr d)) := by
  by_cases hi : i < ρ.length
  · have hs : i < σ.length := by rw [x.len]; exact hi
    refine ⟨by simp [x.len], x.gh, fun j => ?_, fun j k a hne h1 h2 e1 e2 => ?_⟩
    · by_cases hj : i = j
      · subst hj
        rw [get_set_self hi]
        exact ⟨v, by simp [hs], r⟩
      · rw [get_set_ne hj, List.getElem?_set_ne hj]
        exact x.sl j
    · by_cases hj : i = j
      · subst hj
        rw [get_set_self hi] at h1
        cases h1
      · by_cases hk : i = k
        · subst hk
          rw [get_set_self hi] at h2
          cases h2
        · rw [get_set_ne hj] at h1
          rw [get_set_ne hk] at h2
          rw [List.getElem?_set_ne hj] at e1
          rw [List.getElem?_set_ne hk] at e2
          exact x.ap j k a hne h1 h2 e1 e2
  · have hi' : ρ.length ≤ i := by omega
    rw [set_out hi', List.set_eq_of_length_le (by rw [x.len]; exact hi')]
    exact x
theorem EOk.wipe1 {σ : Sl} {ρ : Env} (x : EOk Y G H σ ρ) (i : Nat) (o : Option V) : EOk Y G H (σ.set i o) (ρ.set i .un) := by
  refine ⟨by simp [x.len], x.gh, fun j => ?_, fun j k a hne h1 h2 e1 e2 => ?_⟩
  · by_cases hj : i = j
    · subst hj
      by_cases hi : i < ρ.length
      · rw [get_set_self hi]
        trivial
      · rw [set_out (by omega), get_out (by omega)]
        trivial
    · rw [get_set_ne hj, List.getElem?_set_ne hj]
      exact x.sl j
  · have nj : i ≠ j := fun hj => by
      subst hj
      by_cases hi : i < ρ.length
      · rw [get_set_self hi] at h1
        cases h1
      · rw [set_out (by omega), get_out (by omega)] at h1
        cases h1
    have nk : i ≠ k := fun hj => by
      subst hj
      by_cases hi : i < ρ.length
      · rw [get_set_self hi] at h2
        cases h2
      · rw [set_out (by omega), get_out (by omega)] at h2
        cases h2
    rw [get_set_ne nj] at h1
    rw [get_set_ne nk] at h2
    rw [List.getElem?_set_ne nj] at e1
    rw [List.getElem?_set_ne nk] at e2
    exact x.ap j k a hne h1 h2 e1 e2
theorem EOk.wipe {σ : Sl} {ρ : Env} (x : EOk Y G H σ ρ) : ∀ ws : List Nat, EOk Y G H (wipe σ ws) (wipeE ρ ws)
  | [] => x
  | w :: ws => (EOk.wipe x ws).wipe1 w none
/-- slots forgotten, the state as it is -/
theorem EOk.fgt {σ : Sl} {ρ : Env} (x : EOk Y G H σ ρ) : ∀ ws : List Nat, EOk Y G H σ (wipeE ρ ws)
  | [] => x
  | w :: ws => by
    have y := EOk.fgt x ws
    have z := y.wipe1 w ((σ[w]?).getD none)
    have e : σ.set w ((σ[w]?).getD none) = σ := by
      apply List.ext_getElem?
      intro j
      by_cases hj : w = j
      · subst hj
        by_cases h : w < σ.length
        · simp [h]
        · rw [List.set_eq_of_length_le (by omega)]
      · rw [List.getElem?_set_ne hj]
    rw [e] at z
    exact z
theorem wipeE_length (ρ : Env) : ∀ ws : List Nat, (wipeE ρ ws).length = ρ.length
  | [] => rfl
  | w :: ws => by simp [wipeE, wipeE_length ρ ws]
end
end PF

/-! PF, part C: what an expression's evaluation promises, and the operations. -/
namespace PF
open PySem PySem.Spec PyProof.Rows L2

section
variable (Y : Wh)
/-- how an own exception of the class k lies behind H: its own dict, or none -/
def XD (k : Nat) (n : Int) (H H' : Hp) (d : Option Addr) : Prop :=
  if Y.xa k = true then ∃ dx, d = some dx ∧ H dx = none ∧ H' dx = some (.xd [(("at" : Str), .int n)]) else d = none
def XOut (W : WX) (σ : Sl) (H : Hp) (k : Nat) (n : Int) : Prop := ∀ H' d, Same H H' → XD Y k n H H' d → W (.ref (Y.ca k)) d σ H'
/-- a result of some kind, by what is wished of it -/
def Fin {α : Type} (W : WX) (σ : Sl) (G H : Hp) (r : R α) (Q : α → Hp → Hp → Prop) : Prop := match r with
  | .ok a => ∀ G' H', Gr G H G' H' → Q a G' H'
  | .exc k n => XOut Y W σ H k n
  | .bad => False
def wV (Q : VK) : D → Hp → Hp → Prop := fun d G H => ∀ v, Rp Y G v d → Q v H
def wB (Q : VK) : D → Hp → Hp → Prop := fun d G H => ∀ v, Br Y G H v d → Q v H
def wA (Q : List V → Hp → Prop) : List D → Hp → Hp → Prop := fun ds G H => ∀ vs, RpA Y G vs ds → Q vs H
def wQ (Q : List V → Hp → Prop) : List D → Hp → Hp → Prop := fun ds G H => ∀ vs, BrA Y G H vs ds → Q vs H
def wT (Q : Bool → Hp → Prop) : Bool → Hp → Hp → Prop := fun b _ H => Q b H
/-- a list of one's own: new since H0, and not yet among what stays -/
def wO (H0 : Hp) (Q : VK) : D → Hp → Hp → Prop := fun d G H => ∀ (p : Addr) (vs : List V) (ds : List D), d = .lst ds → H0 p = none → H p = some (.lst vs) → G p = none → RpA Y G vs ds → Q (.ref p) H
variable (C : Cal) (W : WX)
def tE (e : E) : TE := fun σ H Q => ∃ G ρ, EOk Y G H σ ρ ∧ Fin Y W σ G H (ev C ρ e) (wV Y Q)
def tB (e : E) : TE := fun σ H Q => ∃ G ρ, EOk Y G H σ ρ ∧ Fin Y W σ G H (brw ρ e (ev C ρ e)) (wB Y Q)
def tO (e : E) : TE := fun σ H Q => ∃ G ρ, EOk Y G H σ ρ ∧ Fin Y W σ G H (ev C ρ e) (wO Y H Q)
def tA (es : List E) : TA := fun σ H Q => ∃ G ρ, EOk Y G H σ ρ ∧ Fin Y W σ G H (evs C ρ es) (wA Y Q)
def tQ (es : List E) : TA := fun σ H Q => ∃ G ρ, EOk Y G H σ ρ ∧ Fin Y W σ G H (evqs C ρ es) (wQ Y Q)
def tT (e : E) : TT := fun σ H Q => ∃ G ρ, EOk Y G H σ ρ ∧ Fin Y W σ G H ((brw ρ e (ev C ρ e)).bind truth) (wT Q)
end

section
variable {Y : Wh} {C : Cal} {W : WX} {σ : Sl} {ρ : Env} {G G' G1 G2 H H' H1 H2 : Hp} {α β : Type}
theorem XD.mono {k : Nat} {n : Int} {d : Option Addr} (s : Same H H1) (h : XD Y k n H1 H2 d) : XD Y k n H H2 d := by
  unfold XD at h ⊢
  split
  · rename_i c
    rw [if_pos c] at h
    obtain ⟨dx, e, h1, h2⟩ := h
    exact ⟨dx, e, s.free h1, h2⟩
  · rename_i c
    rw [if_neg c] at h
    exact h
theorem XOut.mono {k : Nat} {n : Int} (s : Same H H1) (h : XOut Y W σ H k n) : XOut Y W σ H1 k n := fun H' d s' x => h H' d (s.trans s') (x.mono s)
theorem Fin.mono (g : Gr G H G1 H1) {r : R α} {Q : α → Hp → Hp → Prop} (h : Fin Y W σ G H r Q) : Fin Y W σ G1 H1 r Q := by
  cases r with
  | ok a => exact fun G' H' g' => h G' H' (g.trans g')
  | exc k n => exact XOut.mono g.hh h
  | bad => exact h
theorem Fin.imp {r : R α} {Q Q' : α → Hp → Hp → Prop} (h : Fin Y W σ G H r Q) (i : ∀ a G' H', Gr G H G' H' → Q a G' H' → Q' a G' H') : Fin Y W σ G H r Q' := by
  cases r with
  | ok a => exact fun G' H' g' => i a G' H' g' (h G' H' g')
  | exc k n => exact h
  | bad => exact h
/-- one after another -/
theorem Fin.bind {r : R α} {f : α → R β} {Q : β → Hp → Hp → Prop} (h : Fin Y W σ G H (r.bind f) Q) :
    Fin Y W σ G H r (fun a G1 H1 => Gr G H G1 H1 ∧ Fin Y W σ G1 H1 (f a) Q) := by
  cases r with
  | ok a => exact fun G' H' g' => ⟨g', Fin.mono g' h⟩
  | exc k n => exact h
  | bad => exact h
/-- nothing is raised by an operation: only what it gives counts -/
def Gv {α : Type} (G H : Hp) (r : R α) (Q : α → Hp → Hp → Prop) : Prop := match r with
  | .ok a => ∀ G' H', Gr G H G' H' → Q a G' H'
  | _ => False
def quiet {α : Type} : R α → Bool
  | .exc _ _ => false
  | _ => true
theorem Fin.gv {r : R α} {Q : α → Hp → Hp → Prop} (h : Fin Y W σ G H r Q) (q : quiet r = true) : Gv G H r Q := by
  cases r with
  | ok a => exact h
  | exc k n => cases q
  | bad => exact h
theorem Gv.now {a : α} {Q : α → Hp → Hp → Prop} (s : Same G H) (h : Gv G H (.ok a) Q) : Q a G H := h G H (.refl s)
theorem quiet_bind {r : R α} {f : α → R β} (h : quiet r = true) (k : ∀ a, quiet (f a) = true) : quiet (r.bind f) = true := by
  cases r with
  | ok a => exact k a
  | exc k n => cases h
  | bad => rfl
theorem quiet_ite {c : Prop} [Decidable c] {r r' : R α} (h : quiet r = true) (h' : quiet r' = true) : quiet (if c then r else r') = true := by
  by_cases z : c
  · rw [if_pos z]; exact h
  · rw [if_neg z]; exact h'

/-! ### data that == is told of -/
mutual
def py : D → PyData
  | .non => .none
  | .bl b => .bool b
  | .int i => .int i
  | .str s => .str s
  | .tup ds => .tuple (pys ds)
  | .lst ds => .list (pys ds)
  | _ => .none
def pys : List D → List PyData
  | [] => []
  | d :: ds => py d :: pys ds
end
mutual
theorem dp_of {K : PySem.W.Frag} {fa ca xa np kn} (s : Same G H) : ∀ {n : Nat} {v : V} {d : D}, okD n d = true → Rp ⟨K, fa, ca, xa, np, kn⟩ G v d → Dp K H v (py d)
  | _, _, _, _, .non => by simp only [py]; exact .non
  | _, _, _, _, .bl b => by simp only [py]; exact .bl b
  | _, _, _, _, .int b => by simp only [py]; exact .int b
  | _, _, _, _, .str b => by simp only [py]; exact .str b
  | 0, _, _, h, .tup _ _ => by simp [okD] at h
  | n + 1, _, _, h, .tup q r => by
    simp only [okD] at h
    simp only [py]
    exact .tup (sqT_mono s q) (dps_of s h r)
  | 0, _, _, h, .lst _ _ => by simp [okD] at h
  | n + 1, _, _, h, .lst q r => by
    simp only [okD] at h
    simp only [py]
    exact .lst (SqL.of (s _ _ q)) (dps_of s h r)
  | 0, _, _, h, .fz _ _ => by simp [okD] at h
  | _ + 1, _, _, h, .fz _ _ => by simp [okD] at h
  | 0, _, _, h, .rng _ => by simp [okD] at h
  | _ + 1, _, _, h, .rng _ => by simp [okD] at h
  | 0, _, _, h, .fn _ _ => by simp [okD] at h
  | _ + 1, _, _, h, .fn _ _ => by simp [okD] at h
theorem dps_of {K : PySem.W.Frag} {fa ca xa np kn} (s : Same G H) : ∀ {n : Nat} {vs : List V} {ds : List D}, okDs n ds = true → RpA ⟨K, fa, ca, xa, np, kn⟩ G vs ds → DpAll K H vs (pys ds)
  | _, _, _, _, .nil => by simp only [pys]; exact .nil
  | n, _, _, h, .cons r t => by
    simp only [okDs, Bool.and_eq_true] at h
    simp only [pys]
    exact .cons (dp_of s h.1 r) (dps_of s h.2 t)
end
mutual
theorem lay_of : ∀ {n : Nat} {d : D}, okD n d = true → (py d).canLay0 = true
  | _, .non, _ => by simp [py, PyData.canLay0]
  | _, .bl _, _ => by simp [py, PyData.canLay0]
  | _, .int _, _ => by simp [py, PyData.canLay0]
  | _, .str s, h => by
    simp only [okD] at h
    simpa [py, PyData.canLay0] using h
  | 0, .tup _, h => by simp [okD] at h
  | n + 1, .tup ds, h => by
    simp only [okD] at h
    simp only [py, PyData.canLay0]
    exact lays_of h
  | 0, .lst _, h => by simp [okD] at h
  | n + 1, .lst ds, h => by
    simp only [okD] at h
    simp only [py, PyData.canLay0]
    exact lays_of h
  | 0, .fz _, h => by simp [okD] at h
  | _ + 1, .fz _, h => by simp [okD] at h
  | 0, .rng _ _, h => by simp [okD] at h
  | _ + 1, .rng _ _, h => by simp [okD] at h
  | 0, .fn _, h => by simp [okD] at h
  | _ + 1, .fn _, h => by simp [okD] at h
  | 0, .itr _, h => by simp [okD] at h
  | _ + 1, .itr _, h => by simp [okD] at h
theorem lays_of : ∀ {n : Nat} {ds : List D}, okDs n ds = true → PyData.canLayAll0 (pys ds) = true
  | _, [], _ => by simp [pys, PyData.canLayAll0]
  | n, d :: ds, h => by
    simp only [okDs, Bool.and_eq_true] at h
    simp [pys, PyData.canLayAll0, lay_of h.1, lays_of h.2]
end
mutual
theorem depth_of : ∀ {n : Nat} {d : D}, okD n d = true → (py d).depth ≤ n
  | _, .non, _ => by simp [py, PyData.depth]
  | _, .bl _, _ => by simp [py, PyData.depth]
  | _, .int _, _ => by simp [py, PyData.depth]
  | _, .str s, h => by simp [py, PyData.depth]
  | 0, .tup _, h => by simp [okD] at h
  | n + 1, .tup ds, h => by
    simp only [okD] at h
    have := depths_of h
    simp only [py, PyData.depth]
    omega
  | 0, .lst _, h => by simp [okD] at h
  | n + 1, .lst ds, h => by
    simp only [okD] at h
    have := depths_of h
    simp only [py, PyData.depth]
    omega
  | 0, .fz _, h => by simp [okD] at h
  | _ + 1, .fz _, h => by simp [okD] at h
  | 0, .rng _ _, h => by simp [okD] at h
  | _ + 1, .rng _ _, h => by simp [okD] at h
  | 0, .fn _, h => by simp [okD] at h
  | _ + 1, .fn _, h => by simp [okD] at h
  | 0, .itr _, h => by simp [okD] at h
  | _ + 1, .itr _, h => by simp [okD] at h
theorem depths_of : ∀ {n : Nat} {ds : List D}, okDs n ds = true → PyData.depthAll (pys ds) ≤ n
  | _, [], _ => by simp [pys, PyData.depthAll]
  | n, d :: ds, h => by
    simp only [okDs, Bool.and_eq_true] at h
    have h1 := depth_of h.1
    have h2 := depths_of h.2
    simp only [pys, PyData.depthAll]
    omega
end
theorem shaped_of {d : D} (h : okD deep d = true) : SeqAt.shaped (py d) = true := by
  have h1 := depth_of h
  have h2 : deep = 30 := rfl
  show ((py d).canLay0 && decide ((py d).depth ≤ 64)) = true
  rw [Bool.and_eq_true]
  exact ⟨lay_of h, decide_eq_true (by omega)⟩
theorem shapedL_of {ds : List D} (h : okDs deep ds = true) : SeqAt.shaped (.list (pys ds)) = true := by
  have h1 := depths_of h
  have h2 : deep = 30 := rfl
  show ((PyData.list (pys ds)).canLay0 && decide ((PyData.list (pys ds)).depth ≤ 64)) = true
  rw [Bool.and_eq_true]
  refine ⟨by simp only [PyData.canLay0]; exact lays_of h, decide_eq_true ?_⟩
  simp only [PyData.depth]
  omega
theorem shapedT_of {ds : List D} (h : okDs deep ds = true) : SeqAt.shaped (.tuple (pys ds)) = true := by
  have h1 := depths_of h
  have h2 : deep = 30 := rfl
  show ((PyData.tuple (pys ds)).canLay0 && decide ((PyData.tuple (pys ds)).depth ≤ 64)) = true
  rw [Bool.and_eq_true]
  refine ⟨by simp only [PyData.canLay0]; exact lays_of h, decide_eq_true ?_⟩
  simp only [PyData.depth]
  omega
mutual
theorem eqv_py : ∀ {n m : Nat} {a b : D}, okD n a = true → okD m b = true → PyData.eqv (py a) (py b) = eqv a b
  | 0, _, .tup _, _, h, _ => by simp [okD] at h
  | 0, _, .lst _, _, h, _ => by simp [okD] at h
  | n + 1, 0, .tup xs, .tup ys, _, h => by simp [okD] at h
  | n + 1, m + 1, .tup xs, .tup ys, h1, h2 => by
    simp only [okD] at h1 h2
    simp only [py, PyData.eqv, eqv]
    exact eqvs_py h1 h2
  | n + 1, 0, .lst xs, .lst ys, _, h => by simp [okD] at h
  | n + 1, m + 1, .lst xs, .lst ys, h1, h2 => by
    simp only [okD] at h1 h2
    simp only [py, PyData.eqv, eqv]
    exact eqvs_py h1 h2
  | _, m, .non, b, _, h2 => by cases b <;> cases m <;> simp_all [py, PyData.eqv, eqv, okD]
  | _, m, .bl _, b, _, h2 => by cases b <;> cases m <;> simp_all [py, PyData.eqv, eqv, okD]
  | _, m, .int _, b, _, h2 => by cases b <;> cases m <;> simp_all [py, PyData.eqv, eqv, okD]
  | _, m, .str _, b, _, h2 => by cases b <;> cases m <;> simp_all [py, PyData.eqv, eqv, okD]
  | n + 1, m, .tup _, .non, _, h2 => by simp [py, PyData.eqv, eqv]
  | n + 1, m, .tup _, .bl _, _, h2 => by simp [py, PyData.eqv, eqv]
  | n + 1, m, .tup _, .int _, _, h2 => by simp [py, PyData.eqv, eqv]
  | n + 1, m, .tup _, .str _, _, h2 => by simp [py, PyData.eqv, eqv]
  | n + 1, m, .tup _, .lst _, _, h2 => by simp [py, PyData.eqv, eqv]
  | n + 1, m, .tup _, .fz _, _, h2 => by cases m <;> simp [okD] at h2
  | n + 1, m, .tup _, .rng _ _, _, h2 => by cases m <;> simp [okD] at h2
  | n + 1, m, .tup _, .fn _, _, h2 => by cases m <;> simp [okD] at h2
  | n + 1, m, .tup _, .itr _, _, h2 => by cases m <;> simp [okD] at h2
  | n + 1, m, .lst _, .non, _, h2 => by simp [py, PyData.eqv, eqv]
  | n + 1, m, .lst _, .bl _, _, h2 => by simp [py, PyData.eqv, eqv]
  | n + 1, m, .lst _, .int _, _, h2 => by simp [py, PyData.eqv, eqv]
  | n + 1, m, .lst _, .str _, _, h2 => by simp [py, PyData.eqv, eqv]
  | n + 1, m, .lst _, .tup _, _, h2 => by simp [py, PyData.eqv, eqv]
  | n + 1, m, .lst _, .fz _, _, h2 => by cases m <;> simp [okD] at h2
  | n + 1, m, .lst _, .rng _ _, _, h2 => by cases m <;> simp [okD] at h2
  | n + 1, m, .lst _, .fn _, _, h2 => by cases m <;> simp [okD] at h2
  | n + 1, m, .lst _, .itr _, _, h2 => by cases m <;> simp [okD] at h2
  | n, _, .fz _, _, h, _ => by cases n <;> simp [okD] at h
  | n, _, .rng _ _, _, h, _ => by cases n <;> simp [okD] at h
  | n, _, .fn _, _, h, _ => by cases n <;> simp [okD] at h
  | n, _, .itr _, _, h, _ => by cases n <;> simp [okD] at h
theorem eqvs_py : ∀ {n m : Nat} {as bs : List D}, okDs n as = true → okDs m bs = true → PyData.eqvAll (pys as) (pys bs) = eqvs as bs
  | _, _, [], [], _, _ => by simp [pys, PyData.eqvAll, eqvs]
  | _, _, [], _ :: _, _, _ => by simp [pys, PyData.eqvAll, eqvs]
  | _, _, _ :: _, [], _, _ => by simp [pys, PyData.eqvAll, eqvs]
  | n, m, a :: as, b :: bs, h1, h2 => by
    simp only [okDs, Bool.and_eq_true] at h1 h2
    simp only [pys, PyData.eqvAll, eqvs]
    rw [eqv_py h1.1 h2.1, eqvs_py h1.2 h2.2]
end
end
end PF

/-! PF, part D: the operations' rules. -/
namespace PF
open PySem PySem.Spec PyProof.Rows L2

section
variable {Y : Wh} {G H : Hp} {v : V} {Q : VK}
theorem Br.int {i : Int} (h : Br Y G H v (.int i)) : v = .int i := by
  rcases h with h | ⟨_, _, _, _, e, _⟩
  · cases h; rfl
  · cases e
theorem Br.bl {i : Bool} (h : Br Y G H v (.bl i)) : v = .bl i := by
  rcases h with h | ⟨_, _, _, _, e, _⟩
  · cases h; rfl
  · cases e
theorem Br.str {i : Str} (h : Br Y G H v (.str i)) : v = .str i := by
  rcases h with h | ⟨_, _, _, _, e, _⟩
  · cases h; rfl
  · cases e
theorem Br.non (h : Br Y G H v .non) : v = .non := by
  rcases h with h | ⟨_, _, _, _, e, _⟩
  · cases h; rfl
  · cases e
theorem Br.tup {ds : List D} (h : Br Y G H v (.tup ds)) : ∃ (a : Addr) (vs : List V), v = .ref a ∧ SqT Y.K G a vs ∧ RpA Y G vs ds := by
  rcases h with h | ⟨_, _, _, _, e, _⟩
  · cases h with
    | tup q r => exact ⟨_, _, rfl, q, r⟩
  · cases e
theorem Br.lst {ds : List D} (s : Same G H) (h : Br Y G H v (.lst ds)) : ∃ (a : Addr) (vs : List V), v = .ref a ∧ H a = some (.lst vs) ∧ RpA Y G vs ds := by
  rcases h with h | ⟨a, vs, ds', e1, e2, h1, _, h2⟩
  · cases h with
    | lst q r => exact ⟨_, _, rfl, s _ _ q, r⟩
  · cases e2
    exact ⟨a, vs, e1, h1, h2⟩
theorem Br.fz {ds : List D} (h : Br Y G H v (.fz ds)) : ∃ (a : Addr) (vs : List V), v = .ref a ∧ SqL Y.K G a vs ∧ RpA Y G vs ds := by
  rcases h with h | ⟨_, _, _, _, e, _⟩
  · cases h with
    | fz q r => exact ⟨_, _, rfl, q, r⟩
  · cases e
theorem Br.rng {lo hi : Int} (h : Br Y G H v (.rng lo hi)) : ∃ (a : Addr), v = .ref a ∧ G a = some (.rng lo hi) := by
  rcases h with h | ⟨_, _, _, _, e, _⟩
  · cases h with
    | rng q => exact ⟨_, rfl, q⟩
  · cases e
theorem Br.fn {k : Nat} (h : Br Y G H v (.fn k)) : v = .ref (Y.fa k) := by
  rcases h with h | ⟨_, _, _, _, e, _⟩
  · cases h; rfl
  · cases e
theorem Br.itr {ds : List D} (h : Br Y G H v (.itr ds)) : False := by
  rcases h with h | ⟨_, _, _, _, e, _⟩
  · cases h
  · cases e
theorem Gv.val {d : D} (h : Gv G H (.ok d) (wV Y Q)) (s : Same G H) (r : Rp Y G v d) : Q v H := h G H (.refl s) v r
theorem Gv.newT {ds : List D} {vs : List V} {p : Addr} (h : Gv G H (.ok (.tup ds)) (wV Y Q)) (s : Same G H) (r : RpA Y G vs ds) (hp : H p = none) : Q (.ref p) (upd H p (.tup vs)) :=
  h _ _ (.new s hp) _ (.tup (SqT.of upd_same) (r.mono (same_new (s.free hp))))
theorem Gv.newL {ds : List D} {vs : List V} {p : Addr} (h : Gv G H (.ok (.lst ds)) (wV Y Q)) (s : Same G H) (r : RpA Y G vs ds) (hp : H p = none) : Q (.ref p) (upd H p (.lst vs)) :=
  h _ _ (.new s hp) _ (.lst upd_same (r.mono (same_new (s.free hp))))
theorem Gv.newR {lo hi : Int} {p : Addr} (h : Gv G H (.ok (.rng lo hi)) (wV Y Q)) (s : Same G H) (hp : H p = none) : Q (.ref p) (upd H p (.rng lo hi)) :=
  h _ _ (.new s hp) _ (.rng upd_same)
theorem Br.dp {n : Nat} {d : D} (s : Same G H) (k : okD n d = true) (h : Br Y G H v d) : Dp Y.K H v (py d) := by
  obtain ⟨K, fa, ca, xa, np, kn⟩ := Y
  rcases h with h | ⟨a, vs, ds, rfl, rfl, h1, _, h2⟩
  · exact dp_of s k h
  · cases n with
    | zero => simp [okD] at k
    | succ n =>
      simp only [okD] at k
      simp only [py]
      exact .lst (SqL.of h1) (dps_of s k h2)
end

theorem big_line : big < sizeLine := by
  rw [sizeLine_eq]
  decide

/-- what the rules ask of the context -/
structure XOk (Y : Wh) (X : Cx) : Prop where
  k : X.K = Y.K
  calm : X.calm = true
  nd : X.N.Nodup
  un : X.A.units + 65 < cLine

section
variable (Y : Wh)
def rBin (o : BOp) : R2 := fun x y H Q => ∃ G dx dy, Same G H ∧ Br Y G H x dx ∧ Br Y G H y dy ∧ Gv G H (binR o dx dy) (wV Y Q)
def rCmp (o : COp) : R2 := fun x y H Q => ∃ G dx dy, Same G H ∧ Br Y G H x dx ∧ Br Y G H y dy ∧ Gv G H (cmpR o dx dy) (fun c _ H' => Q (.bl c) H')
end
def bopOf : BOp → Operator
  | .add => .Add
  | .sub => .Sub
  | .mul => .Mult
  | .fdiv => .FloorDiv
  | .mod => .Mod
  | .pow => .Pow
def copOf : COp → CmpOp
  | .lt => .Lt
  | .le => .LtE
  | .gt => .Gt
  | .ge => .GtE
  | .eq => .Eq
  | .ne => .NotEq
  | .is_ => .Is
  | .isnot => .IsNot
  | .in_ => .In
  | .notin => .NotIn

section
variable {Y : Wh} {X : Cx}
theorem Gv.no {α : Type} {G H : Hp} {Q : α → Hp → Hp → Prop} {P : Prop} (h : Gv G H (.bad : R α) Q) : P := False.elim h
theorem op_bin (o : BOp) (hX : XOk Y X) : OpR X (binaryOp (bopOf o)) (rBin Y o) := by
  intro pins s σ H x y v u Q I rx ry h
  obtain ⟨G, dx, dy, sm, bx, b_y, g⟩ := h
  cases o with
  | add =>
    cases dx with
    | int i =>
      cases dy with
      | int j =>
        have e1 := bx.int
        have e2 := b_y.int
        subst e1 e2
        exact op_add pins s σ H _ _ v u Q I rx ry ⟨i, j, rfl, rfl, g.val sm (.int _)⟩
      | _ => exact g.no
    | tup a =>
      cases dy with
      | tup b =>
        obtain ⟨pa, va, rfl, ha, ra⟩ := bx.tup
        obtain ⟨pb, vb, rfl, hb, rb⟩ := b_y.tup
        simp only [binR] at g
        by_cases hl : a.length + b.length ≤ big
        · rw [if_pos hl] at g
          have la := ra.length
          have lb := rb.length
          have z : va.length + vb.length ≤ sizeLine := by
            have := big_line
            omega
          refine op_catA pins s σ H _ _ v u Q I rx ry ⟨pa, pb, va, vb, rfl, rfl, by rw [hX.k]; exact sqT_mono sm ha, by rw [hX.k]; exact sqT_mono sm hb, z, fun e => ?_, fun _ e => ?_, fun _ _ p hp => g.newT sm (ra.append rb) hp⟩
          · subst e
            cases ra
            exact g.val sm (.tup hb rb)
          · subst e
            cases rb
            rw [List.append_nil] at g
            exact g.val sm (.tup ha ra)
        · rw [if_neg hl] at g
          exact g.no
      | _ => exact g.no
    | lst a =>
      cases dy with
      | lst b =>
        obtain ⟨pa, va, rfl, ha, ra⟩ := bx.lst sm
        obtain ⟨pb, vb, rfl, hb, rb⟩ := b_y.lst sm
        simp only [binR] at g
        by_cases hl : a.length + b.length ≤ big
        · rw [if_pos hl] at g
          have la := ra.length
          have lb := rb.length
          have z : va.length + vb.length ≤ sizeLine := by
            have := big_line
            omega
          exact op_cat pins s σ H _ _ v u Q I rx ry ⟨pa, pb, va, vb, rfl, rfl, ha, hb, z, fun p hp => g.newL sm (ra.append rb) hp⟩
        · rw [if_neg hl] at g
          exact g.no
      | _ => exact g.no
    | str a =>
      cases dy with
      | str b =>
        have e1 := bx.str
        have e2 := b_y.str
        subst e1 e2
        simp only [binR] at g
        by_cases hl : a.length + b.length ≤ big
        · rw [if_pos hl] at g
          exact op_add_str pins s σ H _ _ v u Q I rx ry ⟨a, b, rfl, rfl, Nat.le_trans hl (Nat.le_of_lt big_line), g.val sm (.str _)⟩
        · rw [if_neg hl] at g
          exact g.no
      | _ => exact g.no
    | _ => exact g.no
  | sub =>
    cases dx with
    | int i =>
      cases dy with
      | int j =>
        have e1 := bx.int
        have e2 := b_y.int
        subst e1 e2
        exact op_sub pins s σ H _ _ v u Q I rx ry ⟨i, j, rfl, rfl, g.val sm (.int _)⟩
      | _ => exact g.no
    | _ => exact g.no
  | mul =>
    cases dx with
    | int i =>
      cases dy with
      | int j =>
        have e1 := bx.int
        have e2 := b_y.int
        subst e1 e2
        simp only [binR] at g
        by_cases hm : mulOk i j = true
        · rw [if_pos hm] at g
          have q := g.val sm (.int _)
          simp only [mulOk, Bool.or_eq_true, decide_eq_true_eq] at hm
          rcases hm with (hm | hm) | hm
          · exact op_mul pins s σ H _ _ v u Q I rx ry ⟨i, j, rfl, rfl, .inl (by omega), q⟩
          · exact op_mul pins s σ H _ _ v u Q I rx ry ⟨i, j, rfl, rfl, .inr (by omega), q⟩
          · exact op_mulW pins s σ H _ _ v u Q I rx ry ⟨i, j, rfl, rfl, hm, q⟩
        · rw [if_neg hm] at g
          exact g.no
      | _ => exact g.no
    | tup a =>
      cases dy with
      | int k =>
        obtain ⟨pa, va, rfl, ha, ra⟩ := bx.tup
        have e2 := b_y.int
        subst e2
        simp only [binR] at g
        by_cases hl : (!a.isEmpty && decide (2 ≤ k) && decide (k ≤ 1000) && decide (a.length ≤ 1000)) = true
        · rw [if_pos hl] at g
          simp only [Bool.and_eq_true, decide_eq_true_eq, Bool.not_eq_true', List.isEmpty_eq_false_iff] at hl
          obtain ⟨⟨⟨h1, h2⟩, h3⟩, h4⟩ := hl
          have la := ra.length
          refine op_repT pins s σ H _ _ v u Q I rx ry ⟨pa, k, va, rfl, rfl, by rw [hX.k]; exact sqT_mono sm ha, fun e => h1 ?_, h2, h3, by omega, fun p hp => g.newT sm (ra.rep _) hp⟩
          rw [e] at la
          exact List.eq_nil_of_length_eq_zero la.symm
        · rw [if_neg hl] at g
          exact g.no
      | _ => exact g.no
    | _ => exact g.no
  | fdiv =>
    cases dx with
    | int i =>
      cases dy with
      | int j =>
        have e1 := bx.int
        have e2 := b_y.int
        subst e1 e2
        simp only [binR] at g
        by_cases hm : divOk j = true
        · rw [if_pos hm] at g
          have q := g.val sm (.int _)
          simp only [divOk, Bool.or_eq_true, Bool.and_eq_true, decide_eq_true_eq] at hm
          rcases hm with ⟨h1, h2⟩ | ⟨h1, h2⟩
          · rw [Int.fdiv_eq_ediv_of_nonneg i (by omega)] at q
            exact op_fdivW pins s σ H _ _ v u Q I rx ry ⟨i, j, rfl, rfl, ⟨h1, h2⟩, q⟩
          · exact op_fdivN pins s σ H _ _ v u Q I rx ry ⟨i, j, rfl, rfl, ⟨h1, h2⟩, q⟩
        · rw [if_neg hm] at g
          exact g.no
      | _ => exact g.no
    | _ => exact g.no
  | mod =>
    cases dx with
    | int i =>
      cases dy with
      | int j =>
        have e1 := bx.int
        have e2 := b_y.int
        subst e1 e2
        simp only [binR] at g
        by_cases hm : j ≠ 0
        · rw [if_pos hm] at g
          exact op_modN pins s σ H _ _ v u Q I rx ry ⟨i, j, rfl, rfl, hm, g.val sm (.int _)⟩
        · rw [if_neg hm] at g
          exact g.no
      | _ => exact g.no
    | _ => exact g.no
  | pow =>
    cases dx with
    | int i =>
      cases dy with
      | int j =>
        have e1 := bx.int
        have e2 := b_y.int
        subst e1 e2
        simp only [binR] at g
        by_cases hm : powOk i j = true
        · rw [if_pos hm] at g
          have q := g.val sm (.int _)
          simp only [powOk, Bool.and_eq_true, decide_eq_true_eq] at hm
          exact op_pow pins s σ H _ _ v u Q I rx ry ⟨i, j, rfl, rfl, ⟨hm.1.1, hm.1.2, hm.2⟩, q⟩
        · rw [if_neg hm] at g
          exact g.no
      | _ => exact g.no
    | _ => exact g.no

/-! ### comparisons -/
theorem op_inDT (neg : Bool) (hu : X.A.units + 65 < cLine) : OpR X (compareOp (if neg then .NotIn else .In)) (fun x y H Q => ∃ d ds, Dp X.K H x d ∧ Dp X.K H y (.tuple ds) ∧ SeqAt.shaped d = true ∧ SeqAt.shaped (.tuple ds) = true ∧
    Q (.bl (if neg then !ds.any fun z => PyData.eqv z d else ds.any fun z => PyData.eqv z d)) H) := by
  intro pins s σ H x y v u Q I rx ry h
  obtain ⟨d, ds, hd, he, sd, se, q⟩ := h
  obtain ⟨as, r1⟩ := Dp.reads I d x v hd rx
  obtain ⟨bs, r2⟩ := Dp.reads I (.tuple ds) y u he ry
  have rm := room_in_shaped (xs := ds) sd hu
  cases neg with
  | false => exact SeqAt.in_tuple_reads r2 r1 (SeqAt.canLay_of_shaped se) (SeqAt.canLay_of_shaped sd) rm ⟨.bl _, H, I, rfl, q⟩
  | true => exact SeqAt.notIn_tuple_reads r2 r1 (SeqAt.canLay_of_shaped se) (SeqAt.canLay_of_shaped sd) rm ⟨.bl _, H, I, rfl, q⟩

theorem op_notin_rng : OpR X (compareOp .NotIn) (fun x y H Q => ∃ i a lo hi, x = V.int i ∧ y = V.ref a ∧ H a = some (.rng lo hi) ∧ Q (.bl (!decide (lo ≤ i ∧ i < hi))) H) := by
  intro pins s σ H x y v u Q I rx ry h
  obtain ⟨i, a, lo, hi, rfl, rfl, ha, q⟩ := h
  obtain ⟨k, rfl⟩ := rx
  obtain rfl : u = Value.ref a := ry
  obtain ⟨t1, t2, t3, ho⟩ := I.hok a _ ha
  show wpAny _ _ (do return Value.bool (!(← contains (Value.ref a) (Value.int i k)))) _ _ s
  have hc := q_contains a lo hi i t1 t2 t3 k
  refine wpAny_bind (wpAny_contains_slot (T := "range") ⟨_, ho, rfl⟩ F.slot_range_contains (call_meets F.slot_range_contains ⟨_, ho, rfl⟩ F.entry_range_contains (F.args_range_contains_2 _ _) hc ⟨ho, wpAny_truthy_bool (wpAny_pure ⟨.bl _, H, I, rfl, ?_⟩)⟩))
  rw [place1]
  exact q
theorem eq_any {n m : Nat} {x : D} {ds : List D} (hx : okD n x = true) (hd : okDs m ds = true) : ((pys ds).any fun z => PyData.eqv z (py x)) = ds.any fun z => eqv z x := by
  induction ds with
  | nil => simp [pys]
  | cons d ds ih =>
    simp only [okDs, Bool.and_eq_true] at hd
    simp only [pys, List.any_cons]
    rw [eqv_py hd.1 hx, ih hd.2]
theorem Br.dps {G H : Hp} {v : V} {ds : List D} (s : Same G H) (k : okDs deep ds = true) (h : Br Y G H v (.lst ds)) : Dp Y.K H v (.list (pys ds)) := by
  have h' := Br.dp (n := deep + 1) s (by simp only [okD]; exact k) h
  simpa only [py] using h'
theorem Br.dpt {G H : Hp} {v : V} {ds : List D} (s : Same G H) (k : okDs deep ds = true) (h : Br Y G H v (.tup ds)) : Dp Y.K H v (.tuple (pys ds)) := by
  have h' := Br.dp (n := deep + 1) s (by simp only [okD]; exact k) h
  simpa only [py] using h'
theorem in_go {Q : Bool → Hp → Hp → Prop} {G H : Hp} {v u : V} {dx dy : D} (neg : Bool) (hX : XOk Y X) (sm : Same G H) (bx : Br Y G H v dx) (b_y : Br Y G H u dy) (g : Gv G H ((inR dx dy).bind fun c => .ok (if neg then !c else c)) Q) :
    ∀ (pins : List (Addr × Obj)) (s : Shared) (σ : Sl) (x y : Value) (Q' : VK), Inv X pins σ H s → RelV v x → RelV u y → (∀ c, Q c G H → Q' (.bl c) H) →
      wpAny (model X.prog X.w) X.A (compareOp (if neg then .NotIn else .In) x y) (EP X pins σ Q') X.xe s := by
  intro pins s σ x y Q' I rx ry hq
  cases dy with
  | lst ds =>
    simp only [inR] at g
    by_cases hk : (okD deep dx && okDs deep ds) = true
    · rw [if_pos hk] at g
      have q := hq _ (Gv.now sm g)
      rw [Bool.and_eq_true] at hk
      have hd := bx.dp sm hk.1
      have he := b_y.dps sm hk.2
      rw [← hX.k] at hd he
      rw [← eq_any hk.1 hk.2] at q
      cases neg with
      | false => exact op_inD hX.un pins s σ H v u x y Q' I rx ry ⟨_, _, hd, he, shaped_of hk.1, shapedL_of hk.2, q⟩
      | true => exact op_notInD hX.un pins s σ H v u x y Q' I rx ry ⟨_, _, hd, he, shaped_of hk.1, shapedL_of hk.2, q⟩
    · rw [if_neg hk] at g
      exact Gv.no g
  | tup ds =>
    simp only [inR] at g
    by_cases hk : (okD deep dx && okDs deep ds) = true
    · rw [if_pos hk] at g
      have q := hq _ (Gv.now sm g)
      rw [Bool.and_eq_true] at hk
      have hd := bx.dp sm hk.1
      have he := b_y.dpt sm hk.2
      rw [← hX.k] at hd he
      rw [← eq_any hk.1 hk.2] at q
      exact op_inDT neg hX.un pins s σ H v u x y Q' I rx ry ⟨_, _, hd, he, shaped_of hk.1, shapedT_of hk.2, by cases neg <;> exact q⟩
    · rw [if_neg hk] at g
      exact Gv.no g
  | rng lo hi =>
    cases dx with
    | int i =>
      have q := hq _ (Gv.now sm g)
      have e1 := bx.int
      subst e1
      obtain ⟨a, rfl, ha⟩ := b_y.rng
      cases neg with
      | false => exact op_in_rng pins s σ H _ _ x y Q' I rx ry ⟨i, a, lo, hi, rfl, rfl, sm _ _ ha, q⟩
      | true => exact op_notin_rng pins s σ H _ _ x y Q' I rx ry ⟨i, a, lo, hi, rfl, rfl, sm _ _ ha, q⟩
    | _ => exact Gv.no g
  | _ => exact Gv.no g
theorem eq_go {Q : Bool → Hp → Hp → Prop} {G H : Hp} {v u : V} {dx dy : D} (neg : Bool) (hX : XOk Y X) (sm : Same G H) (bx : Br Y G H v dx) (b_y : Br Y G H u dy) (g : Gv G H ((eqR dx dy).bind fun c => .ok (if neg then !c else c)) Q) :
    ∀ (pins : List (Addr × Obj)) (s : Shared) (σ : Sl) (x y : Value) (Q' : VK), Inv X pins σ H s → RelV v x → RelV u y → (∀ c, Q c G H → Q' (.bl c) H) →
      wpAny (model X.prog X.w) X.A (compareOp (if neg then .NotEq else .Eq) x y) (EP X pins σ Q') X.xe s := by
  intro pins s σ x y Q' I rx ry hq
  have hu : X.A.units + 64 < cLine := Nat.lt_of_succ_lt hX.un
  simp only [eqR] at g
  by_cases hk : (okD deep dx && okD deep dy) = true
  · rw [if_pos hk] at g
    have q := hq _ (Gv.now sm g)
    rw [Bool.and_eq_true] at hk
    have hd := bx.dp sm hk.1
    have he := b_y.dp sm hk.2
    rw [← hX.k] at hd he
    rw [← eqv_py hk.1 hk.2] at q
    cases neg with
    | false => exact op_eqD hu pins s σ H v u x y Q' I rx ry ⟨_, _, hd, he, shaped_of hk.1, shaped_of hk.2, q⟩
    | true => exact op_neD hu pins s σ H v u x y Q' I rx ry ⟨_, _, hd, he, shaped_of hk.1, shaped_of hk.2, q⟩
  · rw [if_neg hk] at g
    exact Gv.no g
theorem non_or {G H : Hp} {v : V} {d : D} (b : Br Y G H v d) : decide (v = .non) = isNon d := by
  cases d with
  | non =>
    have e := b.non
    subst e
    exact decide_eq_true rfl
  | bl i =>
    have e := b.bl
    subst e
    exact decide_eq_false (fun z => nomatch z)
  | int i =>
    have e := b.int
    subst e
    exact decide_eq_false (fun z => nomatch z)
  | str i =>
    have e := b.str
    subst e
    exact decide_eq_false (fun z => nomatch z)
  | tup i =>
    obtain ⟨a, vs, rfl, _⟩ := b.tup
    exact decide_eq_false (fun z => nomatch z)
  | lst i =>
    rcases b with b | ⟨a, vs, ds, rfl, _⟩
    · cases b
      exact decide_eq_false (fun z => nomatch z)
    · exact decide_eq_false (fun z => nomatch z)
  | fz i =>
    obtain ⟨a, vs, rfl, _⟩ := b.fz
    exact decide_eq_false (fun z => nomatch z)
  | rng i j =>
    obtain ⟨a, rfl, _⟩ := b.rng
    exact decide_eq_false (fun z => nomatch z)
  | fn k =>
    have e := b.fn
    subst e
    exact decide_eq_false (fun z => nomatch z)
  | itr i => exact b.itr.elim
theorem op_cmp (o : COp) (hX : XOk Y X) : OpR X (compareOp (copOf o)) (rCmp Y o) := by
  intro pins s σ H x y v u Q I rx ry h
  obtain ⟨G, dx, dy, sm, bx, b_y, g⟩ := h
  cases o with
  | lt =>
    cases dx with
    | int i =>
      cases dy with
      | int j =>
        have e1 := bx.int
        have e2 := b_y.int
        subst e1 e2
        exact op_lt pins s σ H _ _ v u Q I rx ry ⟨i, j, rfl, rfl, Gv.now sm g⟩
      | _ => exact Gv.no g
    | _ => exact Gv.no g
  | le =>
    cases dx with
    | int i =>
      cases dy with
      | int j =>
        have e1 := bx.int
        have e2 := b_y.int
        subst e1 e2
        exact op_le pins s σ H _ _ v u Q I rx ry ⟨i, j, rfl, rfl, Gv.now sm g⟩
      | _ => exact Gv.no g
    | _ => exact Gv.no g
  | gt =>
    cases dx with
    | int i =>
      cases dy with
      | int j =>
        have e1 := bx.int
        have e2 := b_y.int
        subst e1 e2
        exact op_gt pins s σ H _ _ v u Q I rx ry ⟨i, j, rfl, rfl, Gv.now sm g⟩
      | _ => exact Gv.no g
    | _ => exact Gv.no g
  | ge =>
    cases dx with
    | int i =>
      cases dy with
      | int j =>
        have e1 := bx.int
        have e2 := b_y.int
        subst e1 e2
        exact op_ge pins s σ H _ _ v u Q I rx ry ⟨i, j, rfl, rfl, Gv.now sm g⟩
      | _ => exact Gv.no g
    | _ => exact Gv.no g
  | eq =>
    refine eq_go false hX sm bx b_y (Q := fun c _ H' => Q (.bl c) H') ?_ pins s σ v u Q I rx ry fun c q => q
    simp only [cmpR] at g
    cases hc : eqR dx dy with
    | ok c => rw [hc] at g; exact g
    | exc k n => rw [hc] at g; exact False.elim g
    | bad => rw [hc] at g; exact Gv.no g
  | ne => exact eq_go true hX sm bx b_y (Q := fun c _ H' => Q (.bl c) H') g pins s σ v u Q I rx ry fun c q => q
  | in_ =>
    refine in_go false hX sm bx b_y (Q := fun c _ H' => Q (.bl c) H') ?_ pins s σ v u Q I rx ry fun c q => q
    simp only [cmpR] at g
    cases hc : inR dx dy with
    | ok c => rw [hc] at g; exact g
    | exc k n => rw [hc] at g; exact False.elim g
    | bad => rw [hc] at g; exact Gv.no g
  | notin => exact in_go true hX sm bx b_y (Q := fun c _ H' => Q (.bl c) H') g pins s σ v u Q I rx ry fun c q => q
  | is_ =>
    cases dy with
    | non =>
      have e2 := b_y.non
      subst e2
      refine op_isN pins s σ H _ _ v u Q I rx ry ⟨rfl, ?_⟩
      rw [non_or bx]
      exact Gv.now sm g
    | _ => cases dx <;> exact Gv.no g
  | isnot =>
    cases dy with
    | non =>
      have e2 := b_y.non
      subst e2
      refine op_notN pins s σ H _ _ v u Q I rx ry ⟨rfl, ?_⟩
      rw [non_or bx]
      exact Gv.now sm g
    | _ => cases dx <;> exact Gv.no g
end
end PF

/-! PF, part E: built-in functions, isinstance, truth, places, slices. -/
namespace PF
open PySem PySem.Spec PyProof.Rows L2

/-! ### lists of one kind -/
theorem boolsR_ok : ∀ {ds : List D} {bs : List Bool}, boolsR ds = .ok bs → ds = bs.map D.bl
  | [], bs, h => by
    simp only [boolsR, R.ok.injEq] at h
    subst h
    rfl
  | .bl b :: ds, bs, h => by
    simp only [boolsR] at h
    cases e : boolsR ds with
    | ok cs =>
      rw [e] at h
      simp only [R.bind, R.ok.injEq] at h
      subst h
      rw [boolsR_ok e]
      rfl
    | exc k n => rw [e] at h; cases h
    | bad => rw [e] at h; cases h
  | .non :: _, _, h | .int _ :: _, _, h | .str _ :: _, _, h | .tup _ :: _, _, h | .lst _ :: _, _, h | .fz _ :: _, _, h | .rng _ _ :: _, _, h | .fn _ :: _, _, h | .itr _ :: _, _, h => by cases h
theorem boolsR_quiet : ∀ ds : List D, quiet (boolsR ds) = true
  | [] => rfl
  | .bl b :: ds => by
    simp only [boolsR]
    exact quiet_bind (boolsR_quiet ds) fun _ => rfl
  | .non :: _ | .int _ :: _ | .str _ :: _ | .tup _ :: _ | .lst _ :: _ | .fz _ :: _ | .rng _ _ :: _ | .fn _ :: _ | .itr _ :: _ => rfl
theorem intsR_ok : ∀ {ds : List D} {bs : List Int}, intsR ds = .ok bs → ds = bs.map D.int
  | [], bs, h => by
    simp only [intsR, R.ok.injEq] at h
    subst h
    rfl
  | .int b :: ds, bs, h => by
    simp only [intsR] at h
    cases e : intsR ds with
    | ok cs =>
      rw [e] at h
      simp only [R.bind, R.ok.injEq] at h
      subst h
      rw [intsR_ok e]
      rfl
    | exc k n => rw [e] at h; cases h
    | bad => rw [e] at h; cases h
  | .non :: _, _, h | .bl _ :: _, _, h | .str _ :: _, _, h | .tup _ :: _, _, h | .lst _ :: _, _, h | .fz _ :: _, _, h | .rng _ _ :: _, _, h | .fn _ :: _, _, h | .itr _ :: _, _, h => by cases h
section
variable {Y : Wh} {G H : Hp}
theorem RpA.bls : ∀ {bs : List Bool} {vs : List V}, RpA Y G vs (bs.map D.bl) → vs = bs.map V.bl
  | [], _, .nil => rfl
  | b :: bs, _, .cons r t => by
    cases r
    rw [RpA.bls t]
    rfl
theorem RpA.ints : ∀ {bs : List Int} {vs : List V}, RpA Y G vs (bs.map D.int) → vs = bs.map V.int
  | [], _, .nil => rfl
  | b :: bs, _, .cons r t => by
    cases r
    rw [RpA.ints t]
    rfl
theorem RpA.ofInts : ∀ bs : List Int, RpA Y G (bs.map V.int) (bs.map D.int)
  | [] => .nil
  | b :: bs => .cons (.int b) (RpA.ofInts bs)
end
theorem maxL_spec : ∀ (l : List Int) (m : Int), maxL m l ∈ m :: l ∧ m ≤ maxL m l ∧ ∀ y ∈ l, y ≤ maxL m l
  | [], m => ⟨by simp [maxL], Int.le_refl _, by simp⟩
  | x :: xs, m => by
    simp only [maxL]
    by_cases h : m < x
    · rw [if_pos h]
      obtain ⟨h1, h2, h3⟩ := maxL_spec xs x
      refine ⟨List.mem_cons_of_mem _ h1, by omega, fun y hy => ?_⟩
      rcases List.mem_cons.mp hy with e | hy
      · rw [e]; exact h2
      · exact h3 y hy
    · rw [if_neg h]
      obtain ⟨h1, h2, h3⟩ := maxL_spec xs m
      refine ⟨?_, h2, fun y hy => ?_⟩
      · rcases List.mem_cons.mp h1 with e | h1
        · rw [e]; exact List.mem_cons_self
        · exact List.mem_cons_of_mem _ (List.mem_cons_of_mem _ h1)
      · rcases List.mem_cons.mp hy with e | hy
        · rw [e]; omega
        · exact h3 y hy
theorem minL_spec : ∀ (l : List Int) (m : Int), minL m l ∈ m :: l ∧ minL m l ≤ m ∧ ∀ y ∈ l, minL m l ≤ y
  | [], m => ⟨by simp [minL], Int.le_refl _, by simp⟩
  | x :: xs, m => by
    simp only [minL]
    by_cases h : x < m
    · rw [if_pos h]
      obtain ⟨h1, h2, h3⟩ := minL_spec xs x
      refine ⟨List.mem_cons_of_mem _ h1, by omega, fun y hy => ?_⟩
      rcases List.mem_cons.mp hy with e | hy
      · rw [e]; exact h2
      · exact h3 y hy
    · rw [if_neg h]
      obtain ⟨h1, h2, h3⟩ := minL_spec xs m
      refine ⟨?_, h2, fun y hy => ?_⟩
      · rcases List.mem_cons.mp h1 with e | h1
        · rw [e]; exact List.mem_cons_self
        · exact List.mem_cons_of_mem _ (List.mem_cons_of_mem _ h1)
      · rcases List.mem_cons.mp hy with e | hy
        · rw [e]; omega
        · exact h3 y hy

/-- the built-ins: the name, how many arguments, the value -/
def bltN : Blt → Option (Str × Nat)
  | .len => some ("len", 1)
  | .tuple => some ("tuple", 1)
  | .list => some ("list", 1)
  | .rng1 => some ("range", 1)
  | .rng2 => some ("range", 2)
  | .abs => some ("abs", 1)
  | .int => some ("int", 1)
  | .any => some ("any", 1)
  | .all => some ("all", 1)
  | .min2 => some ("min", 2)
  | .max2 => some ("max", 2)
  | .minl => some ("min", 1)
  | .maxl => some ("max", 1)
  | _ => none
def bltV : Blt → Value
  | .len => .builtin "len"
  | .tuple => .type "tuple"
  | .list => .type "list"
  | .rng1 => .type "range"
  | .rng2 => .type "range"
  | .abs => .builtin "abs"
  | .int => .type "int"
  | .any => .builtin "any"
  | .all => .builtin "all"
  | .min2 => .builtin "min"
  | .max2 => .builtin "max"
  | .minl => .builtin "min"
  | .maxl => .builtin "max"
  | .gcd => .builtin "math.gcd"
  | _ => .none
theorem bltN_boot {b : Blt} {x : Str} {n : Nat} (h : bltN b = some (x, n)) : bootBuiltins x = some (bltV b) := by
  cases b <;> simp only [bltN, Option.some.injEq, Prod.mk.injEq, reduceCtorEq] at h
  all_goals
    obtain ⟨rfl, _⟩ := h
    simp only [bltV]
    decide +kernel
def rBlt (Y : Wh) (b : Blt) : List V → Hp → VK → Prop := fun vs H Q => ∃ G ds, Same G H ∧ BrA Y G H vs ds ∧ Gv G H (bltR b ds) (wV Y Q)

section
variable {Y : Wh} {X : Cx}
theorem cr_range1 : CallR X (.type "range") (fun vs H Q => ∃ i, vs = [V.int i] ∧ ∀ p, H p = none → Q (.ref p) (upd H p (.rng 0 i))) := by
  intro pins s σ H vs us Q I r h
  obtain ⟨i, rfl, q⟩ := h
  obtain ⟨u1, rfl, t, rfl⟩ := vals1 r
  refine call_range_1 ⟨.ref s.heap.objs.size, upd H s.heap.objs.size (.rng 0 i), I.laid (t' := s.toks + 1 + 1) (fun b o e => Heap.get?_push_of_some _ e) (Nat.le_refl _) ?_, rfl, q _ (I.hok.fresh (Nat.le_refl _))⟩
  exact ⟨s.toks, t, s.toks + 1, Heap.get?_push_size _ rfl⟩
theorem cr_blt (b : Blt) (hX : XOk Y X) (hb : (bltN b).isSome = true ∨ b = .gcd) : CallR X (bltV b) (rBlt Y b) := by
  intro pins s σ H vs us Q I rv h
  obtain ⟨G, ds, sm, br, g⟩ := h
  have hk := hX.k
  cases br with
  | nil => cases b <;> exact Gv.no g
  | @cons v vs d ds r0 t0 =>
    cases t0 with
    | nil =>
      cases b with
      | len =>
        cases d with
        | tup a =>
          obtain ⟨p, ws, rfl, q, r⟩ := r0.tup
          refine call_len_seq pins s σ H _ us Q I rv ⟨p, ws, rfl, .inr (by rw [hk]; exact sqT_mono sm q), ?_⟩
          rw [r.length]
          exact g.val sm (.int _)
        | lst a =>
          obtain ⟨p, ws, rfl, q, r⟩ := r0.lst sm
          refine call_len_seq pins s σ H _ us Q I rv ⟨p, ws, rfl, .inl (SqL.of q), ?_⟩
          rw [r.length]
          exact g.val sm (.int _)
        | fz a =>
          obtain ⟨p, ws, rfl, q, r⟩ := r0.fz
          refine call_len_seq pins s σ H _ us Q I rv ⟨p, ws, rfl, .inl (by rw [hk]; exact Same.seq sm q), ?_⟩
          rw [r.length]
          exact g.val sm (.int _)
        | _ => exact Gv.no g
      | tuple =>
        cases d with
        | tup a =>
          obtain ⟨p, ws, rfl, q, r⟩ := r0.tup
          exact call_tuple_of pins s σ H _ us Q I rv ⟨p, ws, rfl, .inr ⟨by rw [hk]; exact sqT_mono sm q, g.val sm (.tup q r)⟩⟩
        | lst a =>
          obtain ⟨p, ws, rfl, q, r⟩ := r0.lst sm
          exact call_tuple_of pins s σ H _ us Q I rv ⟨p, ws, rfl, .inl ⟨SqL.of q, fun l hl => g.newT sm r hl⟩⟩
        | _ => exact Gv.no g
      | list =>
        cases d with
        | tup a =>
          obtain ⟨p, ws, rfl, q, r⟩ := r0.tup
          exact call_list_of pins s σ H _ us Q I rv ⟨p, ws, rfl, .inr (by rw [hk]; exact sqT_mono sm q), fun l hl => g.newL sm r hl⟩
        | lst a =>
          obtain ⟨p, ws, rfl, q, r⟩ := r0.lst sm
          exact call_list_of pins s σ H _ us Q I rv ⟨p, ws, rfl, .inl (SqL.of q), fun l hl => g.newL sm r hl⟩
        | _ => exact Gv.no g
      | rng1 =>
        cases d with
        | int n =>
          have e := r0.int
          subst e
          exact cr_range1 pins s σ H _ us Q I rv ⟨n, rfl, fun p hp => g.newR sm hp⟩
        | _ => exact Gv.no g
      | abs =>
        cases d with
        | int n =>
          have e := r0.int
          subst e
          exact call_abs pins s σ H _ us Q I rv ⟨n, rfl, g.val sm (.int _)⟩
        | _ => exact Gv.no g
      | int =>
        cases d with
        | int n =>
          have e := r0.int
          subst e
          exact call_int1 pins s σ H _ us Q I rv (.inl ⟨n, rfl, g.val sm (.int _)⟩)
        | _ => exact Gv.no g
      | any =>
        cases d with
        | lst a =>
          obtain ⟨p, ws, rfl, q, r⟩ := r0.lst sm
          simp only [bltR] at g
          cases e : boolsR a with
          | ok bs =>
            rw [e] at g
            rw [boolsR_ok e] at r
            rw [r.bls] at q
            exact cr_any hX.calm pins s σ H _ us Q I rv ⟨p, bs, rfl, SqL.of q, g.val sm (.bl _)⟩
          | exc k n => rw [e] at g; exact False.elim g
          | bad => rw [e] at g; exact False.elim g
        | _ => exact Gv.no g
      | all =>
        cases d with
        | lst a =>
          obtain ⟨p, ws, rfl, q, r⟩ := r0.lst sm
          simp only [bltR] at g
          cases e : boolsR a with
          | ok bs =>
            rw [e] at g
            rw [boolsR_ok e] at r
            rw [r.bls] at q
            exact cr_all hX.calm pins s σ H _ us Q I rv ⟨p, bs, rfl, SqL.of q, g.val sm (.bl _)⟩
          | exc k n => rw [e] at g; exact False.elim g
          | bad => rw [e] at g; exact False.elim g
        | _ => exact Gv.no g
      | minl =>
        cases d with
        | lst a =>
          obtain ⟨p, ws, rfl, q, r⟩ := r0.lst sm
          simp only [bltR] at g
          cases e : intsR a with
          | ok bs =>
            rw [e] at g
            rw [intsR_ok e] at r
            rw [r.ints] at q
            cases bs with
            | nil => exact False.elim g
            | cons x xs =>
              obtain ⟨h1, h2, h3⟩ := minL_spec xs x
              have q' := g.val sm (.int (minL x xs))
              refine cr_min hX.calm pins s σ H _ us Q I rv ⟨p, x :: xs, rfl, SqL.of q, by simp, fun m hm hle => ?_⟩
              have e1 := hle _ h1
              have e2 : minL x xs ≤ m := by
                rcases List.mem_cons.mp hm with z | z
                · rw [z]; exact h2
                · exact h3 m z
              have e3 : m = minL x xs := by omega
              rw [e3]
              exact q'
          | exc k n => rw [e] at g; exact False.elim g
          | bad => rw [e] at g; exact False.elim g
        | _ => exact Gv.no g
      | maxl =>
        cases d with
        | lst a =>
          obtain ⟨p, ws, rfl, q, r⟩ := r0.lst sm
          simp only [bltR] at g
          cases e : intsR a with
          | ok bs =>
            rw [e] at g
            rw [intsR_ok e] at r
            rw [r.ints] at q
            cases bs with
            | nil => exact False.elim g
            | cons x xs =>
              obtain ⟨h1, h2, h3⟩ := maxL_spec xs x
              have q' := g.val sm (.int (maxL x xs))
              refine cr_max hX.calm pins s σ H _ us Q I rv ⟨p, x :: xs, rfl, SqL.of q, by simp, fun m hm hle => ?_⟩
              have e1 := hle _ h1
              have e2 : m ≤ maxL x xs := by
                rcases List.mem_cons.mp hm with z | z
                · rw [z]; exact h2
                · exact h3 m z
              have e3 : m = maxL x xs := by omega
              rw [e3]
              exact q'
          | exc k n => rw [e] at g; exact False.elim g
          | bad => rw [e] at g; exact False.elim g
        | _ => exact Gv.no g
      | _ => first
        | exact Gv.no g
        | (cases d <;> exact Gv.no g)
        | (rcases hb with hb | hb <;> cases hb)
    | @cons v2 vs2 d2 ds2 r1 t1 =>
      cases t1 with
      | nil =>
        cases b with
        | rng2 =>
          cases d with
          | int m =>
            cases d2 with
            | int n =>
              have e := r0.int
              have e2 := r1.int
              subst e e2
              exact cr_range2 pins s σ H _ us Q I rv ⟨m, n, rfl, fun p hp => g.newR sm hp⟩
            | _ => exact Gv.no g
          | _ => exact Gv.no g
        | min2 =>
          cases d with
          | int m =>
            cases d2 with
            | int n =>
              have e := r0.int
              have e2 := r1.int
              subst e e2
              exact call_min2 hX.calm pins s σ H _ us Q I rv ⟨m, n, rfl, g.val sm (.int _)⟩
            | _ => exact Gv.no g
          | _ => exact Gv.no g
        | max2 =>
          cases d with
          | int m =>
            cases d2 with
            | int n =>
              have e := r0.int
              have e2 := r1.int
              subst e e2
              exact call_max2 hX.calm pins s σ H _ us Q I rv ⟨m, n, rfl, g.val sm (.int _)⟩
            | _ => exact Gv.no g
          | _ => exact Gv.no g
        | gcd =>
          cases d with
          | int m =>
            cases d2 with
            | int n =>
              have e := r0.int
              have e2 := r1.int
              subst e e2
              exact cr_gcd pins s σ H _ us Q I rv ⟨m, n, rfl, g.val sm (.int _)⟩
            | _ => exact Gv.no g
          | _ => exact Gv.no g
        | _ => first
          | exact Gv.no g
          | (cases d <;> first | exact Gv.no g | (cases d2 <;> exact Gv.no g))
          | (rcases hb with hb | hb <;> cases hb)
      | cons r2 t2 =>
        rename_i d3 ds3
        have e : bltR b (d :: d2 :: d3 :: ds3) = .bad := by
          cases b <;> first
            | rfl
            | (cases d <;> first | rfl | (cases d2 <;> rfl))
            | (rcases hb with hb | hb <;> cases hb)
        rw [e] at g
        exact Gv.no g
end

/-! ### isinstance -/
def tyN : Ty → String
  | .int => "int"
  | .bool => "bool"
  | .str => "str"
  | .tuple => "tuple"
  | .list => "list"
def tyS : Ty → Str
  | .int => "int"
  | .bool => "bool"
  | .str => "str"
  | .tuple => "tuple"
  | .list => "list"
theorem tyS_boot (t : Ty) : bootBuiltins (tyS t) = some (.type (tyN t)) := by
  cases t <;> decide +kernel
def dTy : D → Option String
  | .non => some "NoneType"
  | .bl _ => some "bool"
  | .int _ => some "int"
  | .str _ => some "str"
  | .tup _ => some "tuple"
  | .lst _ => some "list"
  | _ => none
theorem isT_ok {d : D} {t : Ty} {b : Bool} (h : isT d t = .ok b) : ∃ n, dTy d = some n ∧ kitB n (tyN t) = some b := by
  cases d <;> cases t <;> simp only [isT, R.ok.injEq, reduceCtorEq] at h
  all_goals
    subst h
    exact ⟨_, rfl, by decide +kernel⟩
theorem isT_quiet (d : D) (t : Ty) : quiet (isT d t) = true := by
  cases d <;> cases t <;> rfl
theorem isTs_quiet (d : D) : ∀ ts : List Ty, quiet (isTs d ts) = true
  | [] => rfl
  | t :: ts => by
    simp only [isTs]
    exact quiet_bind (isT_quiet d t) fun _ => quiet_bind (isTs_quiet d ts) fun _ => rfl
theorem isTs_ok {K : PySem.W.Frag} {d : D} : ∀ {ts : List Ty} {b : Bool}, isTs d ts = .ok b → ts ≠ [] → ∃ n, dTy d = some n ∧ PySem.W.kitAny K (.type n) (ts.map fun t => Value.type (tyN t)) = some b
  | [], _, _, h => absurd rfl h
  | [t], b, h, _ => by
    simp only [isTs] at h
    cases e : isT d t with
    | ok c =>
      rw [e] at h
      simp only [R.bind, R.ok.injEq, Bool.or_false] at h
      subst h
      obtain ⟨n, hn, hk⟩ := isT_ok e
      exact ⟨n, hn, kitAny_cons (kit_ty hk) (fun e => by rw [e]; exact kitAny_nil) (fun e => e)⟩
    | exc k n => rw [e] at h; cases h
    | bad => rw [e] at h; cases h
  | t :: t2 :: ts, b, h, _ => by
    rw [isTs] at h
    cases e : isT d t with
    | ok c =>
      rw [e] at h
      simp only [R.bind] at h
      cases e2 : isTs d (t2 :: ts) with
      | ok c2 =>
        rw [e2] at h
        simp only [R.ok.injEq] at h
        obtain ⟨n, hn, hk⟩ := isT_ok e
        obtain ⟨n2, hn2, hk2⟩ := isTs_ok (K := K) e2 (by simp)
        rw [hn] at hn2
        cases hn2
        subst h
        refine ⟨n, hn, kitAny_cons (kit_ty hk) (fun e => ?_) (fun e => by rw [e, Bool.true_or])⟩
        rw [e, Bool.false_or]
        exact hk2
      | exc k n => rw [e2] at h; cases h
      | bad => rw [e2] at h; cases h
    | exc k n => rw [e] at h; cases h
    | bad => rw [e] at h; cases h
section
variable {Y : Wh} {G H : Hp} {v : V}
theorem tyX_of {d : D} {n : String} (s : Same G H) (hn : dTy d = some n) (b : Br Y G H v d) : TyX Y.K H v (.type n) := by
  cases d with
  | non =>
    cases hn
    have e := b.non
    subst e
    exact .base .non
  | bl x =>
    cases hn
    have e := b.bl
    subst e
    exact .base (.bl x)
  | int x =>
    cases hn
    have e := b.int
    subst e
    exact .base (.int x)
  | str x =>
    cases hn
    have e := b.str
    subst e
    exact .base (.str x)
  | tup x =>
    cases hn
    obtain ⟨a, vs, rfl, q, _⟩ := b.tup
    rcases sqT_mono s q with (q | ⟨o, q⟩) | ⟨o, its, m, q, c, _⟩
    · exact .base (.tup q)
    · exact .fTuple q
    · exact .kTuple q c
  | lst x =>
    cases hn
    obtain ⟨a, vs, rfl, q, _⟩ := b.lst s
    exact .base (.lst q)
  | _ => cases hn
end

/-! ### truth, places, slices -/
section
variable {Y : Wh} {G H : Hp} {v : V}
theorem tru_of {d : D} {k : Bool} (s : Same G H) (h : truth d = .ok k) (b : Br Y G H v d) : TruV Y.K v H k := by
  cases d with
  | non =>
    have e := b.non
    subst e
    simp only [truth, R.ok.injEq] at h
    exact h.symm
  | bl x =>
    have e := b.bl
    subst e
    simp only [truth, R.ok.injEq] at h
    exact h.symm
  | int x =>
    have e := b.int
    subst e
    simp only [truth, R.ok.injEq] at h
    exact h.symm
  | tup x =>
    obtain ⟨a, vs, rfl, q, r⟩ := b.tup
    simp only [truth, R.ok.injEq] at h
    refine .inr (.inl ⟨vs, sqT_mono s q, ?_⟩)
    rw [← h]
    cases r <;> rfl
  | lst x =>
    obtain ⟨a, vs, rfl, q, r⟩ := b.lst s
    simp only [truth, R.ok.injEq] at h
    refine .inl ⟨vs, SqL.of q, ?_⟩
    rw [← h]
    cases r <;> rfl
  | fz x =>
    obtain ⟨a, vs, rfl, q, r⟩ := b.fz
    simp only [truth, R.ok.injEq] at h
    refine .inl ⟨vs, Same.seq s q, ?_⟩
    rw [← h]
    cases r <;> rfl
  | str x => cases h
  | rng x y => cases h
  | fn x => cases h
  | itr x => cases h
theorem truth_quiet (d : D) : quiet (truth d) = true := by
  cases d <;> rfl
theorem atL_ok {ds : List D} {vs : List V} {i : Int} {d : D} (h : atL ds i = .ok d) (r : RpA Y G vs ds) : ∃ u, atI vs i = some u ∧ Rp Y G u d := by
  have hl := r.length
  unfold atL at h
  unfold atI ixN
  by_cases h0 : 0 ≤ i
  · rw [if_pos h0] at h ⊢
    cases e : ds[i.toNat]? with
    | none => rw [e] at h; cases h
    | some d' =>
      rw [e] at h
      simp only [R.ok.injEq] at h
      subst h
      obtain ⟨u, hu, ru⟩ := r.get e
      obtain ⟨hlt, _⟩ := List.getElem?_eq_some_iff.mp hu
      rw [if_pos (by omega)]
      exact ⟨u, hu, ru⟩
  · rw [if_neg h0] at h ⊢
    by_cases h1 : -(ds.length : Int) ≤ i
    · rw [if_pos h1] at h
      rw [if_pos (by omega)]
      cases e : ds[(i + ds.length).toNat]? with
      | none => rw [e] at h; cases h
      | some d' =>
        rw [e] at h
        simp only [R.ok.injEq] at h
        subst h
        obtain ⟨u, hu, ru⟩ := r.get e
        refine ⟨u, ?_, ru⟩
        rw [hl]
        exact hu
    · rw [if_neg h1] at h
      cases h
theorem atL_quiet (ds : List D) (i : Int) : quiet (atL ds i) = true := by
  unfold atL
  refine quiet_ite ?_ (quiet_ite ?_ rfl)
  · cases ds[i.toNat]? <;> rfl
  · cases ds[(i + ds.length).toNat]? <;> rfl
theorem six_eq (n d : Nat) (o : Option Int) : HT.sIx n d o = six n d o := by
  cases o <;> rfl
theorem cut_of {ds : List D} {vs : List V} (r : RpA Y G vs ds) (lo hi : Option Int) : RpA Y G (cutV vs lo hi) (cutL ds lo hi) := by
  unfold cutV cutL
  rw [six_eq, six_eq, r.length]
  exact (r.drop _).take _
end
end PF

/-! PF, part F: does a text's expression match an own one. -/
namespace PF
open PySem PySem.Spec PyProof.Rows L2

/-- the names: of the defs, of the constants, of the classes; the built-in names that stand for themselves; whether gcd is math's -/
structure Mt where
  nm : Nat → Option Str
  cn : Nat → Option Str
  kn : Nat → Option Str
  free : List Str
  gcd : Bool

def visB (sc : Scope) (x : Str) : Bool := match sc.names.lookup x with
  | some .local => true
  | some .cell => true
  | some .free => true
  | _ => false
def glbB (sc : Scope) (x : Str) : Bool := decide (sc.names.lookup x = some .globalImplicit)
def okN (x : Str) : Bool := !(x == ("__debug__" : Str)) && !(x == ("__classdict__" : Str)) && decide (x ≠ ("__name__" : Str))
def plainP : Expr → Bool
  | .Set _ _ _ => false
  | .Starred _ _ => false
  | .Slice _ _ _ _ => false
  | _ => true
def oneTy (t : Ty) : Expr → Bool
  | .Name x _ => decide (x = tyS t)
  | _ => false
def allTy : List Ty → List Expr → Bool
  | [], [] => true
  | t :: ts, e :: es => oneTy t e && allTy ts es
  | _, _ => false
def tysFree (M : Mt) (sc : Scope) : List Ty → Bool
  | [] => true
  | t :: ts => (glbB sc (tyS t) && M.free.contains (tyS t)) && tysFree M sc ts
/-- the names of a block, with their slots -/
def ownOf (N : List Str) (ws : List Nat) : List (Str × Nat) := ws.map fun i => ((N[i]?).getD "", i)
mutual
def chkT (N : List Str) (tsc : Scope) : Tg → Expr → Bool
  | .nm i, .Name x _ => decide (N[i]? = some x) && (match tsc.names.lookup x with
    | some .local => true
    | some .cell => true
    | _ => false)
  | .tp ts, .Tuple es _ _ => chkTs N tsc ts es
  | _, _ => false
def chkTs (N : List Str) (tsc : Scope) : List Tg → List Expr → Bool
  | [], [] => true
  | t :: ts, e :: es => chkT N tsc t e && chkTs N tsc ts es
  | _, _ => false
end
mutual
def tgIn (ws : List Nat) : Tg → Bool
  | .nm i => ws.contains i
  | .tp ts => tgsIn ws ts
def tgsIn (ws : List Nat) : List Tg → Bool
  | [] => true
  | t :: ts => tgIn ws t && tgsIn ws ts
end
def isE (e : E) : Bool := match e with
  | .noE => false
  | _ => true

def isTp : Tg → Bool
  | .tp _ => true
  | _ => false
/-- enumerate and zip give pairs to a written pair alone -/
def itOk (t : Tg) (e : E) : Bool := match e with
  | .blt .enum _ => isTp t
  | .blt .zip _ => isTp t
  | _ => true
/-! ### an expression's parts -/
def vName : Expr → Option Str
  | .Name x _ => some x
  | _ => none
theorem vName_ok {e : Expr} {v : Str} (h : vName e = some v) : ∃ p, e = .Name v p := by
  unfold vName at h
  split at h
  · cases h
    exact ⟨_, rfl⟩
  · cases h
def vInt : Expr → Option Int
  | .Constant (.int x) _ _ => some x
  | _ => none
theorem vInt_ok {e : Expr} {v : Int} (h : vInt e = some v) : ∃ j p, e = .Constant (.int v) j p := by
  unfold vInt at h
  split at h
  · cases h
    exact ⟨_, _, rfl⟩
  · cases h
def vBl : Expr → Option Bool
  | .Constant (.bool x) _ _ => some x
  | _ => none
theorem vBl_ok {e : Expr} {v : Bool} (h : vBl e = some v) : ∃ j p, e = .Constant (.bool v) j p := by
  unfold vBl at h
  split at h
  · cases h
    exact ⟨_, _, rfl⟩
  · cases h
def vNon : Expr → Option Unit
  | .Constant .none _ _ => some ()
  | _ => none
theorem vNon_ok {e : Expr} {v : Unit} (h : vNon e = some v) : ∃ j p, e = .Constant .none j p := by
  unfold vNon at h
  split at h
  · cases h
    exact ⟨_, _, rfl⟩
  · cases h
def vStr : Expr → Option Str
  | .Constant (.str x) _ _ => some x
  | _ => none
theorem vStr_ok {e : Expr} {v : Str} (h : vStr e = some v) : ∃ j p, e = .Constant (.str v) j p := by
  unfold vStr at h
  split at h
  · cases h
    exact ⟨_, _, rfl⟩
  · cases h
def vTup : Expr → Option (List Expr)
  | .Tuple x _ _ => some x
  | _ => none
theorem vTup_ok {e : Expr} {v : List Expr} (h : vTup e = some v) : ∃ k p, e = .Tuple v k p := by
  unfold vTup at h
  split at h
  · cases h
    exact ⟨_, _, rfl⟩
  · cases h
def vLst : Expr → Option (List Expr)
  | .List x _ => some x
  | _ => none
theorem vLst_ok {e : Expr} {v : List Expr} (h : vLst e = some v) : ∃ p, e = .List v p := by
  unfold vLst at h
  split at h
  · cases h
    exact ⟨_, rfl⟩
  · cases h
def vBin : Expr → Option (Expr × Operator × Expr)
  | .BinOp a o b _ => some (a, o, b)
  | _ => none
theorem vBin_ok {e : Expr} {v : Expr × Operator × Expr} (h : vBin e = some v) : ∃ p, e = .BinOp v.1 v.2.1 v.2.2 p := by
  unfold vBin at h
  split at h
  · cases h
    exact ⟨_, rfl⟩
  · cases h
def vNeg : Expr → Option Expr
  | .UnaryOp .USub a _ => some a
  | _ => none
theorem vNeg_ok {e : Expr} {v : Expr} (h : vNeg e = some v) : ∃ p, e = .UnaryOp .USub v p := by
  unfold vNeg at h
  split at h
  · cases h
    exact ⟨_, rfl⟩
  · cases h
def vNot : Expr → Option Expr
  | .UnaryOp .Not a _ => some a
  | _ => none
theorem vNot_ok {e : Expr} {v : Expr} (h : vNot e = some v) : ∃ p, e = .UnaryOp .Not v p := by
  unfold vNot at h
  split at h
  · cases h
    exact ⟨_, rfl⟩
  · cases h
def vIf : Expr → Option (Expr × Expr × Expr)
  | .IfExp a b c _ => some (a, b, c)
  | _ => none
theorem vIf_ok {e : Expr} {v : Expr × Expr × Expr} (h : vIf e = some v) : ∃ p, e = .IfExp v.1 v.2.1 v.2.2 p := by
  unfold vIf at h
  split at h
  · cases h
    exact ⟨_, rfl⟩
  · cases h
def vCmp : Expr → Option (Expr × CmpOp × Expr)
  | .Compare a [o] [b] _ => some (a, o, b)
  | _ => none
theorem vCmp_ok {e : Expr} {v : Expr × CmpOp × Expr} (h : vCmp e = some v) : ∃ p, e = .Compare v.1 [v.2.1] [v.2.2] p := by
  unfold vCmp at h
  split at h
  · cases h
    exact ⟨_, rfl⟩
  · cases h
def vChain : Expr → Option (Expr × CmpOp × CmpOp × Expr × Expr)
  | .Compare a [o, o2] [b, c] _ => some (a, o, o2, b, c)
  | _ => none
theorem vChain_ok {e : Expr} {v : Expr × CmpOp × CmpOp × Expr × Expr} (h : vChain e = some v) : ∃ p, e = .Compare v.1 [v.2.1, v.2.2.1] [v.2.2.2.1, v.2.2.2.2] p := by
  unfold vChain at h
  split at h
  · cases h
    exact ⟨_, rfl⟩
  · cases h
def vSlc : Expr → Option (Expr × Option Expr × Option Expr)
  | .Subscript a (.Slice l h none _) _ => some (a, l, h)
  | _ => none
theorem vSlc_ok {e : Expr} {v : Expr × Option Expr × Option Expr} (h : vSlc e = some v) : ∃ p q, e = .Subscript v.1 (.Slice v.2.1 v.2.2 none q) p := by
  unfold vSlc at h
  split at h
  · cases h
    exact ⟨_, _, rfl⟩
  · cases h
def vRev : Expr → Option Expr
  | .Subscript a (.Slice none none (some (.UnaryOp .USub (.Constant (.int 1) _ _) _)) _) _ => some a
  | _ => none
theorem vRev_ok {e v : Expr} (h : vRev e = some v) : ∃ k p1 p2 p3 p, e = .Subscript v (.Slice none none (some (.UnaryOp .USub (.Constant (.int 1) k p1) p2)) p3) p := by
  unfold vRev at h
  split at h
  · cases h
    exact ⟨_, _, _, _, _, rfl⟩
  · cases h
def vStp : Expr → Option (Expr × Int)
  | .Subscript a (.Slice none none (some (.Constant (.int i) _ _)) _) _ => some (a, i)
  | _ => none
theorem vStp_ok {e : Expr} {v : Expr × Int} (h : vStp e = some v) : ∃ k p1 p3 p, e = .Subscript v.1 (.Slice none none (some (.Constant (.int v.2) k p1)) p3) p := by
  unfold vStp at h
  split at h
  · cases h
    exact ⟨_, _, _, _, rfl⟩
  · cases h
def vSub : Expr → Option (Expr × Expr)
  | .Subscript a i _ => some (a, i)
  | _ => none
theorem vSub_ok {e : Expr} {v : Expr × Expr} (h : vSub e = some v) : ∃ p, e = .Subscript v.1 v.2 p := by
  unfold vSub at h
  split at h
  · cases h
    exact ⟨_, rfl⟩
  · cases h
def vCall : Expr → Option (Str × Expr × List Expr)
  | .Call (.Name x _) (p :: ps) [] _ => some (x, p, ps)
  | _ => none
theorem vCall_ok {e : Expr} {v : Str × Expr × List Expr} (h : vCall e = some v) : ∃ p q, e = .Call (.Name v.1 p) (v.2.1 :: v.2.2) [] q := by
  unfold vCall at h
  split at h
  · cases h
    exact ⟨_, _, rfl⟩
  · cases h
def vComp : Expr → Option (Expr × Expr × Expr × List Expr × Scope)
  | .ListComp pe [⟨pt, pit, ifs, 0⟩] scope _ => some (pe, pt, pit, ifs, scope)
  | _ => none
theorem vComp_ok {e : Expr} {v : Expr × Expr × Expr × List Expr × Scope} (h : vComp e = some v) : ∃ p, e = .ListComp v.1 [⟨v.2.1, v.2.2.1, v.2.2.2.1, 0⟩] v.2.2.2.2 p := by
  unfold vComp at h
  split at h
  · cases h
    exact ⟨_, rfl⟩
  · cases h
def vIndex : Expr → Option (Expr × Expr)
  | .Call (.Attribute a m p1) [x] [] p2 => if m = ("index" : Str) ∧ p1.endLine = p2.line then some (a, x) else none
  | _ => none
theorem vIndex_ok {e : Expr} {v : Expr × Expr} (h : vIndex e = some v) : ∃ p1 p2, p1.endLine = p2.line ∧ e = .Call (.Attribute v.1 "index" p1) [v.2] [] p2 := by
  unfold vIndex at h
  split at h
  · split at h
    · rename_i c
      cases h
      obtain ⟨rfl, c2⟩ := c
      exact ⟨_, _, c2, rfl⟩
    · cases h
  · cases h
def vComp2 : Expr → Option (Expr × Expr × Expr × Expr × Expr × List Expr × Scope)
  | .ListComp pe [⟨pt, pit, [], 0⟩, ⟨pt2, pit2, ifs2, 0⟩] scope _ => some (pe, pt, pit, pt2, pit2, ifs2, scope)
  | _ => none
theorem vComp2_ok {e pe pt pit pt2 pit2 : Expr} {ifs2 : List Expr} {scope : Scope} (h : vComp2 e = some (pe, pt, pit, pt2, pit2, ifs2, scope)) : ∃ p, e = .ListComp pe [⟨pt, pit, [], 0⟩, ⟨pt2, pit2, ifs2, 0⟩] scope p := by
  unfold vComp2 at h
  split at h
  · cases h
    exact ⟨_, rfl⟩
  · cases h
/-- a, then the others -/
def vBool : Expr → Option (BoolOp × Expr × Expr)
  | .BoolOp op [a, b] _ => some (op, a, b)
  | .BoolOp op (a :: b :: c :: r) pos => some (op, a, .BoolOp op (b :: c :: r) pos)
  | _ => none
theorem vBool_ok {e : Expr} {v : BoolOp × Expr × Expr} (h : vBool e = some v) : ∃ p, e = .BoolOp v.1 [v.2.1, v.2.2] p ∨ ∃ b c r, v.2.2 = .BoolOp v.1 (b :: c :: r) p ∧ e = .BoolOp v.1 (v.2.1 :: b :: c :: r) p := by
  unfold vBool at h
  split at h
  · cases h
    exact ⟨_, .inl rfl⟩
  · cases h
    exact ⟨_, .inr ⟨_, _, _, rfl, rfl⟩⟩
  · cases h
def oneC (ts : List Ty) (pc : Expr → Bool) : List Expr → Bool
  | [p] => pc p
  | _ => false
def isiC (ts : List Ty) (pc : Expr) : Bool := match vTup pc with
  | some pcs => allTy ts pcs && decide (ts.length ≤ 1000)
  | none => (match ts with
    | [t] => oneTy t pc
    | _ => false)
def bltC (M : Mt) (w : Bool) (b : Blt) (x : Str) (n : Nat) : Bool := match b with
  | .gcd => M.gcd && decide (x = ("gcd" : Str))
  | .enum => w && decide (x = ("enumerate" : Str)) && M.free.contains x && decide (n = 1)
  | .zip => false
  | .rng3 => w && decide (x = ("range" : Str)) && M.free.contains x && decide (n = 3)
  | b => M.free.contains x && (match bltN b with
    | some (y, m) => decide (x = y) && decide (n = m)
    | none => false)
section
variable (M : Mt) (N : List Str)
mutual
/-- the first place: whether it is what a loop walks -/
def chkE : Bool → Scope → E → Expr → Bool
  | _, _, .noE, _ => false
  | _, sc, .var i, p => (match vName p with
    | some x => decide (N[i]? = some x) && visB sc x && okN x
    | none => false)
  | _, _, .int n, p => decide (vInt p = some n)
  | _, _, .bl n, p => decide (vBl p = some n)
  | _, _, .non, p => decide (vNon p = some ())
  | _, _, .str n, p => decide (vStr p = some n)
  | _, sc, .tup es, p => (match vTup p with
    | some ps => decide (es.length ≤ 1000) && chkEs sc es ps
    | none => false)
  | _, sc, .lst es, p => (match vLst p with
    | some ps => decide (es.length ≤ 1000) && chkEs sc es ps
    | none => false)
  | _, sc, .bin o a b, p => (match vBin p with
    | some (pa, po, pb) => decide (bopOf o = po) && chkE false sc a pa && chkE false sc b pb
    | none => false)
  | _, sc, .neg a, p => (match vNeg p with
    | some pa => chkE false sc a pa
    | none => false)
  | _, sc, .not a, p => (match vNot p with
    | some pa => chkE false sc a pa
    | none => false)
  | _, sc, .and a b, p => (match vBool p with
    | some (op, pa, pb) => decide (op = .And) && chkE false sc a pa && chkE false sc b pb
    | none => false)
  | _, sc, .or a b, p => (match vBool p with
    | some (op, pa, pb) => decide (op = .Or) && chkE false sc a pa && chkE false sc b pb
    | none => false)
  | _, sc, .cmp o a b, p => (match vCmp p with
    | some (pa, po, pb) => decide (copOf o = po) && chkE false sc a pa && chkE false sc b pb
    | none => false)
  | _, sc, .chain o o' a b c, p => (match vChain p with
    | some (pa, po, po', pb, pc) => decide (copOf o = po) && decide (copOf o' = po') && chkE false sc a pa && chkE false sc b pb && chkE false sc c pc
    | none => false)
  | _, sc, .ifx c a b, p => (match vIf p with
    | some (pc, pa, pb) => chkE false sc c pc && chkE false sc a pa && chkE false sc b pb
    | none => false)
  | _, sc, .slc a lo hi, p => (match vSlc p with
    | some (pa, pl, ph) => chkE false sc a pa &&
      (match pl with
      | none => !isE lo
      | some p => chkE false sc lo p) &&
      (match ph with
      | none => !isE hi
      | some p => chkE false sc hi p)
    | none => false)
  | _, sc, .rev a, p => (match vRev p with
    | some pa => chkE false sc a pa
    | none => false)
  | _, sc, .stp a k, p => (match vStp p with
    | some (pa, i) => decide (1 ≤ k) && decide (i = (k : Int)) && chkE false sc a pa
    | none => false)
  | _, sc, .idx a i, p => (match vSub p with
    | some (pa, pi) => chkE false sc a pa && chkE false sc i pi
    | none => false)
  | _, sc, .call f es, p => (match vCall p with
    | some (x, p, ps) => decide (M.nm f = some x) && glbB sc x && okN x && chkEs sc es (p :: ps)
    | none => false)
  | _, sc, .callv i es, p => (match vCall p with
    | some (x, p, ps) => decide (N[i]? = some x) && visB sc x && okN x && chkEs sc es (p :: ps)
    | none => false)
  | _, sc, .fnv f, p => (match vName p with
    | some x => decide (M.nm f = some x) && glbB sc x && okN x
    | none => false)
  | _, sc, .gl k, p => (match vName p with
    | some x => decide (M.cn k = some x) && glbB sc x && okN x
    | none => false)
  | w, sc, .blt b es, p => (match vCall p with
    | some (x, p, ps) => glbB sc x && okN x && chkEs sc es (p :: ps) && bltC M w b x (ps.length + 1)
    | none => false)
  | _, sc, .isi a ts, p => (match vCall p with
    | some (x, pa, ps) => decide (x = ("isinstance" : Str)) && glbB sc x && M.free.contains x && chkE false sc a pa && tysFree M sc ts && !ts.isEmpty && oneC ts (isiC ts) ps
    | none => false)
  | _, sc, .comp t it cond elt ws, p => (match vComp p with
    | some (pe, pt, pit, ifs, scope) => chkE true sc it pit && itOk t it && blkC N sc scope (ownOf N ws) && tgIn ws t && chkT N scope t pt && chkE false (relS scope sc) elt pe &&
      (match ifs with
      | [] => !isE cond
      | [p] => chkE false (relS scope sc) cond p
      | _ => false)
    | none => false)
  | _, sc, .comp2 t it t2 it2 cond elt ws ws2, p => (match vComp2 p with
    | some (pe, pt, pit, pt2, pit2, ifs2, scope) => chkE true sc it pit && itOk t it && blkC N sc scope (ownOf N ws) && tgIn ws t && chkT N scope t pt &&
      chkE true (relS scope sc) it2 pit2 && itOk t2 it2 && tgIn ws2 t2 && chkT N scope t2 pt2 && (ws2.all fun i => ws.contains i) && chkE false (relS scope sc) elt pe &&
      (match ifs2 with
      | [] => !isE cond
      | [p] => chkE false (relS scope sc) cond p
      | _ => false)
    | none => false)
  | _, _, .index _ _, _ => false
def chkEs : Scope → List E → List Expr → Bool
  | _, [], ps => ps.isEmpty
  | sc, e :: es, ps => (match ps with
    | p :: ps => chkE false sc e p && chkEs sc es ps
    | [] => false)
end
end

section
variable {M : Mt} {N : List Str} {w : Bool} {sc : Scope} {p : Expr}
theorem inv_var {i : Nat} (h : chkE M N w sc (.var i) p = true) : ∃ x pos, p = .Name x pos ∧ N[i]? = some x ∧ visB sc x = true ∧ okN x = true := by
  have h : (match vName p with
    | some x => decide (N[i]? = some x) && visB sc x && okN x
    | none => false) = true := h
  cases hx : vName p with
  | none => rw [hx] at h; cases h
  | some v =>
    rw [hx] at h
    have hk := vName_ok hx
    obtain ⟨q, rfl⟩ := hk
    have h : (decide (N[i]? = some v) && visB sc v && okN v) = true := h
    simp only [Bool.and_eq_true, decide_eq_true_eq] at h
    exact ⟨v, q, rfl, h.1.1, h.1.2, h.2⟩
theorem inv_int {n : Int} (h : chkE M N w sc (.int n) p = true) : ∃ j q, p = .Constant (.int n) j q := vInt_ok (of_decide_eq_true (show decide (vInt p = some n) = true from h))
theorem inv_bl {n : Bool} (h : chkE M N w sc (.bl n) p = true) : ∃ j q, p = .Constant (.bool n) j q := vBl_ok (of_decide_eq_true (show decide (vBl p = some n) = true from h))
theorem inv_str {n : Str} (h : chkE M N w sc (.str n) p = true) : ∃ j q, p = .Constant (.str n) j q := vStr_ok (of_decide_eq_true (show decide (vStr p = some n) = true from h))
theorem inv_non (h : chkE M N w sc .non p = true) : ∃ j q, p = .Constant .none j q := vNon_ok (of_decide_eq_true (show decide (vNon p = some ()) = true from h))
theorem inv_tup {es : List E} (h : chkE M N w sc (.tup es) p = true) : ∃ ps k q, p = .Tuple ps k q ∧ es.length ≤ 1000 ∧ chkEs M N sc es ps = true := by
  have h : (match vTup p with
    | some ps => decide (es.length ≤ 1000) && chkEs M N sc es ps
    | none => false) = true := h
  cases hx : vTup p with
  | none => rw [hx] at h; cases h
  | some v =>
    rw [hx] at h
    have hk := vTup_ok hx
    have h : (decide (es.length ≤ 1000) && chkEs M N sc es v) = true := h
    simp only [Bool.and_eq_true, decide_eq_true_eq] at h
    obtain ⟨h1, h2⟩ := h
    obtain ⟨k, q, rfl⟩ := hk
    exact ⟨v, k, q, rfl, h1, h2⟩
theorem inv_lst {es : List E} (h : chkE M N w sc (.lst es) p = true) : ∃ ps q, p = .List ps q ∧ es.length ≤ 1000 ∧ chkEs M N sc es ps = true := by
  have h : (match vLst p with
    | some ps => decide (es.length ≤ 1000) && chkEs M N sc es ps
    | none => false) = true := h
  cases hx : vLst p with
  | none => rw [hx] at h; cases h
  | some v =>
    rw [hx] at h
    have hk := vLst_ok hx
    have h : (decide (es.length ≤ 1000) && chkEs M N sc es v) = true := h
    simp only [Bool.and_eq_true, decide_eq_true_eq] at h
    obtain ⟨h1, h2⟩ := h
    obtain ⟨q, rfl⟩ := hk
    exact ⟨v, q, rfl, h1, h2⟩
theorem inv_bin {o : BOp} {a b : E} (h : chkE M N w sc (.bin o a b) p = true) : ∃ pa pb q, p = .BinOp pa (bopOf o) pb q ∧ chkE M N false sc a pa = true ∧ chkE M N false sc b pb = true := by
  have h : (match vBin p with
    | some (pa, po, pb) => decide (bopOf o = po) && chkE M N false sc a pa && chkE M N false sc b pb
    | none => false) = true := h
  cases hx : vBin p with
  | none => rw [hx] at h; cases h
  | some v =>
    rw [hx] at h
    have hk := vBin_ok hx
    obtain ⟨pa, po, pb⟩ := v
    obtain ⟨q, rfl⟩ := hk
    have h : (decide (bopOf o = po) && chkE M N false sc a pa && chkE M N false sc b pb) = true := h
    simp only [Bool.and_eq_true, decide_eq_true_eq] at h
    obtain ⟨⟨rfl, h1⟩, h2⟩ := h
    exact ⟨pa, pb, q, rfl, h1, h2⟩
theorem inv_cmp {o : COp} {a b : E} (h : chkE M N w sc (.cmp o a b) p = true) : ∃ pa pb q, p = .Compare pa [copOf o] [pb] q ∧ chkE M N false sc a pa = true ∧ chkE M N false sc b pb = true := by
  have h : (match vCmp p with
    | some (pa, po, pb) => decide (copOf o = po) && chkE M N false sc a pa && chkE M N false sc b pb
    | none => false) = true := h
  cases hx : vCmp p with
  | none => rw [hx] at h; cases h
  | some v =>
    rw [hx] at h
    have hk := vCmp_ok hx
    obtain ⟨pa, po, pb⟩ := v
    obtain ⟨q, rfl⟩ := hk
    have h : (decide (copOf o = po) && chkE M N false sc a pa && chkE M N false sc b pb) = true := h
    simp only [Bool.and_eq_true, decide_eq_true_eq] at h
    obtain ⟨⟨rfl, h1⟩, h2⟩ := h
    exact ⟨pa, pb, q, rfl, h1, h2⟩
theorem inv_chain {o o2 : COp} {a b c : E} (h : chkE M N w sc (.chain o o2 a b c) p = true) : ∃ pa pb pc q, p = .Compare pa [copOf o, copOf o2] [pb, pc] q ∧ chkE M N false sc a pa = true ∧ chkE M N false sc b pb = true ∧ chkE M N false sc c pc = true := by
  have h : (match vChain p with
    | some (pa, po, po', pb, pc) => decide (copOf o = po) && decide (copOf o2 = po') && chkE M N false sc a pa && chkE M N false sc b pb && chkE M N false sc c pc
    | none => false) = true := h
  cases hx : vChain p with
  | none => rw [hx] at h; cases h
  | some v =>
    rw [hx] at h
    have hk := vChain_ok hx
    obtain ⟨pa, po, po', pb, pc⟩ := v
    obtain ⟨q, rfl⟩ := hk
    have h : (decide (copOf o = po) && decide (copOf o2 = po') && chkE M N false sc a pa && chkE M N false sc b pb && chkE M N false sc c pc) = true := h
    simp only [Bool.and_eq_true, decide_eq_true_eq] at h
    obtain ⟨⟨⟨⟨rfl, rfl⟩, h1⟩, h2⟩, h3⟩ := h
    exact ⟨pa, pb, pc, q, rfl, h1, h2, h3⟩
theorem inv_neg {a : E} (h : chkE M N w sc (.neg a) p = true) : ∃ pa q, p = .UnaryOp .USub pa q ∧ chkE M N false sc a pa = true := by
  have h : (match vNeg p with
    | some pa => chkE M N false sc a pa
    | none => false) = true := h
  cases hx : vNeg p with
  | none => rw [hx] at h; cases h
  | some v =>
    rw [hx] at h
    have hk := vNeg_ok hx
    obtain ⟨q, rfl⟩ := hk
    exact ⟨v, q, rfl, h⟩
theorem inv_not {a : E} (h : chkE M N w sc (.not a) p = true) : ∃ pa q, p = .UnaryOp .Not pa q ∧ chkE M N false sc a pa = true := by
  have h : (match vNot p with
    | some pa => chkE M N false sc a pa
    | none => false) = true := h
  cases hx : vNot p with
  | none => rw [hx] at h; cases h
  | some v =>
    rw [hx] at h
    have hk := vNot_ok hx
    obtain ⟨q, rfl⟩ := hk
    exact ⟨v, q, rfl, h⟩
theorem inv_and {a b : E} (h : chkE M N w sc (.and a b) p = true) : ∃ pa pb q, chkE M N false sc a pa = true ∧ chkE M N false sc b pb = true ∧ (p = .BoolOp .And [pa, pb] q ∨ ∃ x y r, pb = .BoolOp .And (x :: y :: r) q ∧ p = .BoolOp .And (pa :: x :: y :: r) q) := by
  have h : (match vBool p with
    | some (op, pa, pb) => decide (op = .And) && chkE M N false sc a pa && chkE M N false sc b pb
    | none => false) = true := h
  cases hx : vBool p with
  | none => rw [hx] at h; cases h
  | some v =>
    rw [hx] at h
    have hk := vBool_ok hx
    obtain ⟨op, pa, pb⟩ := v
    obtain ⟨q, hk⟩ := hk
    have h : (decide (op = .And) && chkE M N false sc a pa && chkE M N false sc b pb) = true := h
    simp only [Bool.and_eq_true, decide_eq_true_eq] at h
    obtain ⟨⟨rfl, h1⟩, h2⟩ := h
    exact ⟨pa, pb, q, h1, h2, hk⟩
theorem inv_or {a b : E} (h : chkE M N w sc (.or a b) p = true) : ∃ pa pb q, chkE M N false sc a pa = true ∧ chkE M N false sc b pb = true ∧ (p = .BoolOp .Or [pa, pb] q ∨ ∃ x y r, pb = .BoolOp .Or (x :: y :: r) q ∧ p = .BoolOp .Or (pa :: x :: y :: r) q) := by
  have h : (match vBool p with
    | some (op, pa, pb) => decide (op = .Or) && chkE M N false sc a pa && chkE M N false sc b pb
    | none => false) = true := h
  cases hx : vBool p with
  | none => rw [hx] at h; cases h
  | some v =>
    rw [hx] at h
    have hk := vBool_ok hx
    obtain ⟨op, pa, pb⟩ := v
    obtain ⟨q, hk⟩ := hk
    have h : (decide (op = .Or) && chkE M N false sc a pa && chkE M N false sc b pb) = true := h
    simp only [Bool.and_eq_true, decide_eq_true_eq] at h
    obtain ⟨⟨rfl, h1⟩, h2⟩ := h
    exact ⟨pa, pb, q, h1, h2, hk⟩
theorem inv_ifx {a b c : E} (h : chkE M N w sc (.ifx c a b) p = true) : ∃ pc pa pb q, p = .IfExp pc pa pb q ∧ chkE M N false sc c pc = true ∧ chkE M N false sc a pa = true ∧ chkE M N false sc b pb = true := by
  have h : (match vIf p with
    | some (pc, pa, pb) => chkE M N false sc c pc && chkE M N false sc a pa && chkE M N false sc b pb
    | none => false) = true := h
  cases hx : vIf p with
  | none => rw [hx] at h; cases h
  | some v =>
    rw [hx] at h
    have hk := vIf_ok hx
    obtain ⟨pc, pa, pb⟩ := v
    obtain ⟨q, rfl⟩ := hk
    have h : (chkE M N false sc c pc && chkE M N false sc a pa && chkE M N false sc b pb) = true := h
    simp only [Bool.and_eq_true] at h
    exact ⟨pc, pa, pb, q, rfl, h.1.1, h.1.2, h.2⟩
def chkO (M : Mt) (N : List Str) (sc : Scope) (e : E) (o : Option Expr) : Bool := match o with
  | none => !isE e
  | some p => chkE M N false sc e p
theorem inv_slc {a lo hi : E} (h : chkE M N w sc (.slc a lo hi) p = true) : ∃ pa pl ph q q2, p = .Subscript pa (.Slice pl ph none q) q2 ∧ chkE M N false sc a pa = true ∧ chkO M N sc lo pl = true ∧ chkO M N sc hi ph = true := by
  have h : (match vSlc p with
    | some (pa, pl, ph) => chkE M N false sc a pa && chkO M N sc lo pl && chkO M N sc hi ph
    | none => false) = true := h
  cases hx : vSlc p with
  | none => rw [hx] at h; cases h
  | some v =>
    rw [hx] at h
    obtain ⟨pa, pl, ph⟩ := v
    obtain ⟨q, q2, rfl⟩ := vSlc_ok hx
    have h : (chkE M N false sc a pa && chkO M N sc lo pl && chkO M N sc hi ph) = true := h
    simp only [Bool.and_eq_true] at h
    exact ⟨pa, pl, ph, q2, q, rfl, h.1.1, h.1.2, h.2⟩
theorem inv_rev {a : E} (h : chkE M N w sc (.rev a) p = true) : ∃ pa k p1 p2 p3 q, p = .Subscript pa (.Slice none none (some (.UnaryOp .USub (.Constant (.int 1) k p1) p2)) p3) q ∧ chkE M N false sc a pa = true := by
  have h : (match vRev p with
    | some pa => chkE M N false sc a pa
    | none => false) = true := h
  cases hx : vRev p with
  | none => rw [hx] at h; cases h
  | some v =>
    rw [hx] at h
    obtain ⟨k, p1, p2, p3, q, rfl⟩ := vRev_ok hx
    exact ⟨v, k, p1, p2, p3, q, rfl, h⟩
theorem inv_stp {a : E} {k : Nat} (h : chkE M N w sc (.stp a k) p = true) : ∃ pa q1 p1 p3 q, 1 ≤ k ∧ p = .Subscript pa (.Slice none none (some (.Constant (.int (k : Int)) q1 p1)) p3) q ∧ chkE M N false sc a pa = true := by
  have h : (match vStp p with
    | some (pa, i) => decide (1 ≤ k) && decide (i = (k : Int)) && chkE M N false sc a pa
    | none => false) = true := h
  cases hx : vStp p with
  | none => rw [hx] at h; cases h
  | some v =>
    rw [hx] at h
    obtain ⟨pa, i⟩ := v
    obtain ⟨q1, p1, p3, q, rfl⟩ := vStp_ok hx
    have h : (decide (1 ≤ k) && decide (i = (k : Int)) && chkE M N false sc a pa) = true := h
    simp only [Bool.and_eq_true, decide_eq_true_eq] at h
    obtain ⟨⟨h1, h2⟩, h3⟩ := h
    subst h2
    exact ⟨pa, q1, p1, p3, q, h1, rfl, h3⟩
theorem inv_idx {a i : E} (h : chkE M N w sc (.idx a i) p = true) : ∃ pa pi q, p = .Subscript pa pi q ∧ chkE M N false sc a pa = true ∧ chkE M N false sc i pi = true := by
  have h : (match vSub p with
    | some (pa, pi) => chkE M N false sc a pa && chkE M N false sc i pi
    | none => false) = true := h
  cases hx : vSub p with
  | none => rw [hx] at h; cases h
  | some v =>
    rw [hx] at h
    have hk := vSub_ok hx
    obtain ⟨pa, pi⟩ := v
    obtain ⟨q, rfl⟩ := hk
    have h : (chkE M N false sc a pa && chkE M N false sc i pi) = true := h
    simp only [Bool.and_eq_true] at h
    exact ⟨pa, pi, q, rfl, h.1, h.2⟩
theorem inv_call {f : Nat} {es : List E} (h : chkE M N w sc (.call f es) p = true) : ∃ x y ys q q2, p = .Call (.Name x q) (y :: ys) [] q2 ∧ M.nm f = some x ∧ glbB sc x = true ∧ okN x = true ∧ chkEs M N sc es (y :: ys) = true := by
  have h : (match vCall p with
    | some (x, p, ps) => decide (M.nm f = some x) && glbB sc x && okN x && chkEs M N sc es (p :: ps)
    | none => false) = true := h
  cases hx : vCall p with
  | none => rw [hx] at h; cases h
  | some v =>
    rw [hx] at h
    have hk := vCall_ok hx
    obtain ⟨x, y, ys⟩ := v
    obtain ⟨q, q2, rfl⟩ := hk
    have h : (decide (M.nm f = some x) && glbB sc x && okN x && chkEs M N sc es (y :: ys)) = true := h
    simp only [Bool.and_eq_true, decide_eq_true_eq] at h
    exact ⟨x, y, ys, q, q2, rfl, h.1.1.1, h.1.1.2, h.1.2, h.2⟩
theorem inv_callv {i : Nat} {es : List E} (h : chkE M N w sc (.callv i es) p = true) : ∃ x y ys q q2, p = .Call (.Name x q) (y :: ys) [] q2 ∧ N[i]? = some x ∧ visB sc x = true ∧ okN x = true ∧ chkEs M N sc es (y :: ys) = true := by
  have h : (match vCall p with
    | some (x, p, ps) => decide (N[i]? = some x) && visB sc x && okN x && chkEs M N sc es (p :: ps)
    | none => false) = true := h
  cases hx : vCall p with
  | none => rw [hx] at h; cases h
  | some v =>
    rw [hx] at h
    have hk := vCall_ok hx
    obtain ⟨x, y, ys⟩ := v
    obtain ⟨q, q2, rfl⟩ := hk
    have h : (decide (N[i]? = some x) && visB sc x && okN x && chkEs M N sc es (y :: ys)) = true := h
    simp only [Bool.and_eq_true, decide_eq_true_eq] at h
    exact ⟨x, y, ys, q, q2, rfl, h.1.1.1, h.1.1.2, h.1.2, h.2⟩
theorem inv_fnv {f : Nat} (h : chkE M N w sc (.fnv f) p = true) : ∃ x q, p = .Name x q ∧ M.nm f = some x ∧ glbB sc x = true ∧ okN x = true := by
  have h : (match vName p with
    | some x => decide (M.nm f = some x) && glbB sc x && okN x
    | none => false) = true := h
  cases hx : vName p with
  | none => rw [hx] at h; cases h
  | some v =>
    rw [hx] at h
    have hk := vName_ok hx
    obtain ⟨q, rfl⟩ := hk
    have h : (decide (M.nm f = some v) && glbB sc v && okN v) = true := h
    simp only [Bool.and_eq_true, decide_eq_true_eq] at h
    exact ⟨v, q, rfl, h.1.1, h.1.2, h.2⟩
theorem inv_gl {f : Nat} (h : chkE M N w sc (.gl f) p = true) : ∃ x q, p = .Name x q ∧ M.cn f = some x ∧ glbB sc x = true ∧ okN x = true := by
  have h : (match vName p with
    | some x => decide (M.cn f = some x) && glbB sc x && okN x
    | none => false) = true := h
  cases hx : vName p with
  | none => rw [hx] at h; cases h
  | some v =>
    rw [hx] at h
    have hk := vName_ok hx
    obtain ⟨q, rfl⟩ := hk
    have h : (decide (M.cn f = some v) && glbB sc v && okN v) = true := h
    simp only [Bool.and_eq_true, decide_eq_true_eq] at h
    exact ⟨v, q, rfl, h.1.1, h.1.2, h.2⟩
theorem inv_blt {b : Blt} {es : List E} (h : chkE M N w sc (.blt b es) p = true) : ∃ x y ys q q2, p = .Call (.Name x q) (y :: ys) [] q2 ∧ glbB sc x = true ∧ okN x = true ∧ chkEs M N sc es (y :: ys) = true ∧ bltC M w b x (ys.length + 1) = true := by
  have h : (match vCall p with
    | some (x, p, ps) => glbB sc x && okN x && chkEs M N sc es (p :: ps) && bltC M w b x (ps.length + 1)
    | none => false) = true := h
  cases hx : vCall p with
  | none => rw [hx] at h; cases h
  | some v =>
    rw [hx] at h
    have hk := vCall_ok hx
    obtain ⟨x, y, ys⟩ := v
    obtain ⟨q, q2, rfl⟩ := hk
    have h : (glbB sc x && okN x && chkEs M N sc es (y :: ys) && bltC M w b x (ys.length + 1)) = true := h
    simp only [Bool.and_eq_true] at h
    exact ⟨x, y, ys, q, q2, rfl, h.1.1.1, h.1.1.2, h.1.2, h.2⟩
theorem inv_isi {a : E} {ts : List Ty} (h : chkE M N w sc (.isi a ts) p = true) : ∃ pa pc q q2, p = .Call (.Name "isinstance" q) [pa, pc] [] q2 ∧ glbB sc "isinstance" = true ∧ M.free.contains "isinstance" = true ∧ chkE M N false sc a pa = true ∧ tysFree M sc ts = true ∧ ts ≠ [] ∧ isiC ts pc = true := by
  have h : (match vCall p with
    | some (x, pa, ps) => decide (x = ("isinstance" : Str)) && glbB sc x && M.free.contains x && chkE M N false sc a pa && tysFree M sc ts && !ts.isEmpty && oneC ts (isiC ts) ps
    | none => false) = true := h
  cases hx : vCall p with
  | none => rw [hx] at h; cases h
  | some v =>
    rw [hx] at h
    obtain ⟨x, pa, ps⟩ := v
    have h : (decide (x = ("isinstance" : Str)) && glbB sc x && M.free.contains x && chkE M N false sc a pa && tysFree M sc ts && !ts.isEmpty && oneC ts (isiC ts) ps) = true := h
    have h' := Bool.and_eq_true_iff.mp h
    obtain ⟨q, q2, rfl⟩ := vCall_ok hx
    obtain ⟨h1, h2⟩ := h'
    simp only [Bool.and_eq_true, decide_eq_true_eq, Bool.not_eq_true', List.isEmpty_eq_false_iff] at h1
    obtain ⟨⟨⟨⟨⟨rfl, h3⟩, h4⟩, h5⟩, h6⟩, h7⟩ := h1
    cases ps with
    | nil => cases h2
    | cons pc r =>
      cases r with
      | nil => exact ⟨pa, pc, q, q2, rfl, h3, h4, h5, h6, h7, h2⟩
      | cons _ _ => cases h2
def ifC (M : Mt) (N : List Str) (sc : Scope) (cond : E) (ifs : List Expr) : Bool := match ifs with
  | [] => !isE cond
  | [p] => chkE M N false sc cond p
  | _ => false
structure CompC (M : Mt) (N : List Str) (sc : Scope) (t : Tg) (it cond elt : E) (ws : List Nat) (pe pt pit : Expr) (ifs : List Expr) (scope : Scope) : Prop where
  cit : chkE M N true sc it pit = true
  ok : itOk t it = true
  blk : blkC N sc scope (ownOf N ws) = true
  tin : tgIn ws t = true
  ctg : chkT N scope t pt = true
  celt : chkE M N false (relS scope sc) elt pe = true
  cifs : ifC M N (relS scope sc) cond ifs = true
theorem inv_comp {t : Tg} {it cond elt : E} {ws : List Nat} (h : chkE M N w sc (.comp t it cond elt ws) p = true) : ∃ pe pt pit ifs scope q, p = .ListComp pe [⟨pt, pit, ifs, 0⟩] scope q ∧ CompC M N sc t it cond elt ws pe pt pit ifs scope := by
  have h : (match vComp p with
    | some (pe, pt, pit, ifs, scope) => chkE M N true sc it pit && itOk t it && blkC N sc scope (ownOf N ws) && tgIn ws t && chkT N scope t pt && chkE M N false (relS scope sc) elt pe && ifC M N (relS scope sc) cond ifs
    | none => false) = true := h
  cases hx : vComp p with
  | none => rw [hx] at h; cases h
  | some v =>
    rw [hx] at h
    obtain ⟨pe, pt, pit, ifs, scope⟩ := v
    obtain ⟨q, rfl⟩ := vComp_ok hx
    have h : (chkE M N true sc it pit && itOk t it && blkC N sc scope (ownOf N ws) && tgIn ws t && chkT N scope t pt && chkE M N false (relS scope sc) elt pe && ifC M N (relS scope sc) cond ifs) = true := h
    simp only [Bool.and_eq_true] at h
    obtain ⟨⟨⟨⟨⟨⟨h1, h2⟩, h3⟩, h4⟩, h5⟩, h6⟩, h7⟩ := h
    exact ⟨pe, pt, pit, ifs, scope, q, rfl, h1, h2, h3, h4, h5, h6, h7⟩
structure CompC2 (M : Mt) (N : List Str) (sc : Scope) (t : Tg) (it : E) (t2 : Tg) (it2 cond elt : E) (ws ws2 : List Nat) (pe pt pit pt2 pit2 : Expr) (ifs : List Expr) (scope : Scope) : Prop where
  cit : chkE M N true sc it pit = true
  ok : itOk t it = true
  blk : blkC N sc scope (ownOf N ws) = true
  tin : tgIn ws t = true
  ctg : chkT N scope t pt = true
  cit2 : chkE M N true (relS scope sc) it2 pit2 = true
  ok2 : itOk t2 it2 = true
  tin2 : tgIn ws2 t2 = true
  tg2 : chkT N scope t2 pt2 = true
  sub : ∀ i ∈ ws2, i ∈ ws
  celt : chkE M N false (relS scope sc) elt pe = true
  cifs : ifC M N (relS scope sc) cond ifs = true
theorem inv_comp2 {t t2 : Tg} {it it2 cond elt : E} {ws ws2 : List Nat} (h : chkE M N w sc (.comp2 t it t2 it2 cond elt ws ws2) p = true) : ∃ pe pt pit pt2 pit2 ifs scope q, p = .ListComp pe [⟨pt, pit, [], 0⟩, ⟨pt2, pit2, ifs, 0⟩] scope q ∧ CompC2 M N sc t it t2 it2 cond elt ws ws2 pe pt pit pt2 pit2 ifs scope := by
  have h : (match vComp2 p with
    | some (pe, pt, pit, pt2, pit2, ifs2, scope) => chkE M N true sc it pit && itOk t it && blkC N sc scope (ownOf N ws) && tgIn ws t && chkT N scope t pt &&
      chkE M N true (relS scope sc) it2 pit2 && itOk t2 it2 && tgIn ws2 t2 && chkT N scope t2 pt2 && (ws2.all fun i => ws.contains i) && chkE M N false (relS scope sc) elt pe && ifC M N (relS scope sc) cond ifs2
    | none => false) = true := h
  cases hx : vComp2 p with
  | none => rw [hx] at h; cases h
  | some v =>
    rw [hx] at h
    obtain ⟨pe, pt, pit, pt2, pit2, ifs, scope⟩ := v
    obtain ⟨q, rfl⟩ := vComp2_ok hx
    have h : (chkE M N true sc it pit && itOk t it && blkC N sc scope (ownOf N ws) && tgIn ws t && chkT N scope t pt &&
      chkE M N true (relS scope sc) it2 pit2 && itOk t2 it2 && tgIn ws2 t2 && chkT N scope t2 pt2 && (ws2.all fun i => ws.contains i) && chkE M N false (relS scope sc) elt pe && ifC M N (relS scope sc) cond ifs) = true := h
    simp only [Bool.and_eq_true] at h
    obtain ⟨⟨⟨⟨⟨⟨⟨⟨⟨⟨⟨h1, h2⟩, h3⟩, h4⟩, h5⟩, h6⟩, h7⟩, h8⟩, h9⟩, h10⟩, h11⟩, h12⟩ := h
    refine ⟨pe, pt, pit, pt2, pit2, ifs, scope, q, rfl, h1, h2, h3, h4, h5, h6, h7, h8, h9, fun i hi => ?_, h11, h12⟩
    have := List.all_eq_true.mp h10 i hi
    simpa using this
end
end PF

/-! PF, part G: expressions one by one. -/
namespace PF
open PySem PySem.Spec PyProof.Rows L2

/-- a def's promise: what the evaluator's call gives -/
def spC (Y : Wh) (C : Cal) (f : Nat) : Sp := fun vs H Q E => ∃ G ds, Same G H ∧ RpA Y G vs ds ∧ ds.length = Y.np f ∧ Fin Y (fun cls d _ H' => E cls d H') [] G H (C.call f ds) (wV Y Q)

/-- what an expression's soundness leans on -/
structure XC (Y : Wh) (M : Mt) (C : Cal) (W : WX) (X : Cx) (sc : Scope) : Prop where
  ok : XOk Y X
  sc : X.env.scope = sc
  free : ∀ x, M.free.contains x = true → X.mg x = none
  gcd : M.gcd = true → X.mg "gcd" = some (.builtin "math.gcd")
  con : ∀ k x d, M.cn k = some x → C.con k = some d → ∃ u v, X.mg x = some u ∧ RelV v u ∧ ∀ G, Rp Y G v d
  fns : ∀ f x, M.nm f = some x → ∃ fd ps k, FnOk X.prog X.w X.K X.mg X.base (L2.CX X.prog X.w) k (Y.fa f) fd ps (spC Y C f) ∧ Room k X.A ∧ PySem.W.keepIn X.K (.ref (Y.fa f)) = true ∧ Binds X.K fd ps [] ∧ X.mg x = some (.ref (Y.fa f))
  kn : ∀ f, Y.kn f = (M.nm f).isSome
  ari : ∀ f ds, ds.length ≠ Y.np f → C.call f ds = .bad
  pass : ∀ σ, PassesAt (L2.CX X.prog X.w) X σ (WE W σ)

/-! ### lists of arguments -/
theorem star_eq {e : Expr} {es : List Expr} {env : PySem.Env} (h : plainP e = true) : starEach (e :: es) env = (false, eval e env) :: starEach es env := by
  cases e <;> first | rfl | cases h
theorem star_any {pos : Pos} {env : PySem.Env} : ∀ {es : List Expr}, (∀ e ∈ es, plainP e = true) → (backTo pos (starEach es env)).any (·.1) = false
  | [], _ => rfl
  | e :: es, h => by
    rw [star_eq (h e List.mem_cons_self)]
    have ih := star_any (pos := pos) (env := env) (es := es) fun x hx => h x (List.mem_cons_of_mem _ hx)
    show (false || (backTo pos (starEach es env)).any (·.1)) = false
    rw [ih]
    rfl
theorem chkE_plain {M : Mt} {N : List Str} {w : Bool} {sc : Scope} {e : E} {p : Expr} (h : chkE M N w sc e p = true) : plainP p = true := by
  cases p with
  | Set a b c =>
    have z : chkE M N w sc e (.Set a b c) = false := by cases e <;> rfl
    rw [z] at h
    cases h
  | Starred a b =>
    have z : chkE M N w sc e (.Starred a b) = false := by cases e <;> rfl
    rw [z] at h
    cases h
  | Slice a b c d =>
    have z : chkE M N w sc e (.Slice a b c d) = false := by cases e <;> rfl
    rw [z] at h
    cases h
  | _ => rfl
theorem chkEs_inv {M : Mt} {N : List Str} {sc : Scope} {e : E} {es : List E} {ps : List Expr} (h : chkEs M N sc (e :: es) ps = true) : ∃ p qs, ps = p :: qs ∧ chkE M N false sc e p = true ∧ chkEs M N sc es qs = true := by
  cases ps with
  | nil => cases h
  | cons p qs => exact ⟨p, qs, rfl, Bool.and_eq_true_iff.mp h⟩
theorem chkEs_plain {M : Mt} {N : List Str} {sc : Scope} : ∀ {es : List E} {ps : List Expr}, chkEs M N sc es ps = true → ∀ p ∈ ps, plainP p = true
  | [], [], _, _, h => by simp at h
  | [], _ :: _, h, _, _ => by cases h
  | e :: es, ps, h, q, hq => by
    obtain ⟨p, qs, rfl, h1, h2⟩ := chkEs_inv h
    rcases List.mem_cons.mp hq with r | r
    · rw [r]; exact chkE_plain h1
    · exact chkEs_plain h2 q r
theorem fold_plain {p : Expr} (h : plainP p = true) (env : PySem.Env) (x : Value) : foldedSetIterable p env x = pure x := by
  cases p <;> first | rfl | cases h
theorem ix_plain {p : Expr} (h : plainP p = true) : PlainIx p := by
  cases p <;> first | exact fun _ _ => rfl | cases h
theorem mark_plain {op : CmpOp} {p : Expr} (h : plainP p = true) : behindInMarks op p = false := by
  cases p <;> first | rfl | cases h
theorem visB_ok {X : Cx} {sc : Scope} {x : Str} (e : X.env.scope = sc) (h : visB sc x = true) : Vis X.env.scope x := by
  rw [e]
  unfold visB at h
  unfold Vis
  split at h
  · rename_i q; exact .inl q
  · rename_i q; exact .inr (.inl q)
  · rename_i q; exact .inr (.inr q)
  · cases h
theorem glbB_ok {X : Cx} {sc : Scope} {x : Str} (e : X.env.scope = sc) (h : glbB sc x = true) : Gl X x := by
  have q := of_decide_eq_true h
  show X.env.scope.names.lookup x = some .globalImplicit
  rw [e]
  exact q
theorem okN_ok {x : Str} (h : okN x = true) : (x == ("__debug__" : Str)) = false ∧ (x == ("__classdict__" : Str)) = false ∧ x ≠ "__name__" := by
  unfold okN at h
  simp only [Bool.and_eq_true, Bool.not_eq_true', decide_eq_true_eq] at h
  exact ⟨h.1.1, h.1.2, h.2⟩

section
variable {Y : Wh} {M : Mt} {C : Cal} {W : WX} {X : Cx} {sc : Scope}
theorem _root_.L2.PE.imp {e : Expr} {t t' : TE} (h : PE X e t) (i : ∀ σ H Q, t' σ H Q → t σ H Q) : PE X e t' := ⟨fun pins s σ H Q I q => h.run pins s σ H Q I (i σ H Q q)⟩
theorem _root_.L2.PT.imp {e : Expr} {t t' : TT} (h : PT X e t) (i : ∀ σ H Q, t' σ H Q → t σ H Q) : PT X e t' := ⟨fun pins s σ H Q I q => h.run pins s σ H Q I (i σ H Q q)⟩
theorem _root_.L2.PW.imp {e : Expr} {t t' : TT} (h : PW X e t) (i : ∀ σ H Q, t' σ H Q → t σ H Q) : PW X e t' := ⟨fun wh pins s σ H Q I q => h.run wh pins s σ H Q I (i σ H Q q)⟩
theorem _root_.L2.PA.imp {es : List Expr} {t t' : TA} (h : PA X es t) (i : ∀ σ H Q, t' σ H Q → t σ H Q) : PA X es t' := ⟨fun pos pins s σ H Q I q => h.run pos pins s σ H Q I (i σ H Q q)⟩

/-- a constant's evaluation -/
theorem tE_now {σ : Sl} {H : Hp} {Q : VK} {e : E} {d : D} {v : V} (he : ∀ ρ, ev C ρ e = .ok d) (hv : ∀ G, Rp Y G v d) (h : tE Y C W e σ H Q) : Q v H := by
  obtain ⟨G, ρ, k, f⟩ := h
  rw [he] at f
  exact f G H (.refl k.gh) v (hv G)
theorem snd_var {i : Nat} {x : Str} {pos : Pos} (K : XC Y M C W X sc) (hN : X.N[i]? = some x) (hv : visB sc x = true) (ho : okN x = true) : PE X (.Name x pos) (tE Y C W (.var i)) := by
  obtain ⟨h1, h2, _⟩ := okN_ok ho
  refine (pe_var (i := i) hN (visB_ok K.sc hv) h1 h2).imp fun σ H Q h => ?_
  obtain ⟨G, ρ, k, f⟩ := h
  have s := k.sl i
  simp only [ev] at f
  cases e : ρ.get i with
  | un => rw [e] at f; exact False.elim f
  | own ds => rw [e] at f; exact False.elim f
  | fr d =>
    rw [e] at f s
    obtain ⟨v, ev, r⟩ := s
    exact ⟨v, ev, f G H (.refl k.gh) v r⟩
theorem snd_varB {i : Nat} {x : Str} {pos : Pos} (K : XC Y M C W X sc) (hN : X.N[i]? = some x) (hv : visB sc x = true) (ho : okN x = true) : PE X (.Name x pos) (tB Y C W (.var i)) := by
  obtain ⟨h1, h2, _⟩ := okN_ok ho
  refine (pe_var (i := i) hN (visB_ok K.sc hv) h1 h2).imp fun σ H Q h => ?_
  obtain ⟨G, ρ, k, f⟩ := h
  have s := k.sl i
  simp only [brw] at f
  cases e : ρ.get i with
  | un => rw [e] at f; exact False.elim f
  | own ds =>
    rw [e] at f s
    obtain ⟨a, vs, ev, h1, h2, r⟩ := s
    exact ⟨_, ev, f G H (.refl k.gh) _ (.inr ⟨a, vs, ds, rfl, rfl, h1, h2, r⟩)⟩
  | fr d =>
    rw [e] at f s
    obtain ⟨v, ev, r⟩ := s
    exact ⟨v, ev, f G H (.refl k.gh) v (.inl r)⟩
/-- an evaluation may be read -/
theorem tE_of_tB {σ : Sl} {H : Hp} {Q : VK} {e : E} (hv : ∀ i, e ≠ .var i) (h : tB Y C W e σ H Q) : tE Y C W e σ H Q := by
  obtain ⟨G, ρ, k, f⟩ := h
  have q : brw ρ e (ev C ρ e) = ev C ρ e := by
    cases e with
    | var i => exact absurd rfl (hv i)
    | _ => rfl
  rw [q] at f
  exact ⟨G, ρ, k, f.imp fun a G' H' _ z v r => z v (.inl r)⟩
theorem snd_B {e : E} {p : Expr} (K : XC Y M C W X sc) (hc : chkE M X.N false sc e p = true) (h : PE X p (tE Y C W e)) : PE X p (tB Y C W e) := by
  cases e with
  | var i =>
    obtain ⟨x, q, rfl, h1, h2, h3⟩ := inv_var hc
    exact snd_varB K h1 h2 h3
  | _ => exact h.imp fun σ H Q q => tE_of_tB (fun i z => by cases z) q

/-! ### argument lists -/
theorem snd_Anil : PA X [] (tA Y C W []) := pa_nil.imp fun σ H Q h => by
  obtain ⟨G, ρ, k, f⟩ := h
  simp only [evs] at f
  exact f G H (.refl k.gh) [] .nil
theorem snd_Acons {e : E} {es : List E} {p : Expr} {ps : List Expr} (hp : plainP p = true) (h : PE X p (tE Y C W e)) (hs : PA X ps (tA Y C W es)) : PA X (p :: ps) (tA Y C W (e :: es)) :=
  (pa_cons h hs (star_eq hp)).imp fun σ H Q h => by
    obtain ⟨G, ρ, k, f⟩ := h
    simp only [evs] at f
    refine ⟨G, ρ, k, f.bind.imp fun d G1 H1 _ ⟨g1, f1⟩ v rv => ⟨G1, ρ, k.mono g1, f1.bind.imp fun ds G2 H2 _ ⟨g2, f2⟩ vs rvs => ?_⟩⟩
    exact f2 G2 H2 (.refl g2.gh) _ (.cons (rv.mono g2.gg) rvs)
theorem snd_Qnil : PA X [] (tQ Y C W []) := pa_nil.imp fun σ H Q h => by
  obtain ⟨G, ρ, k, f⟩ := h
  simp only [evqs] at f
  exact f G H (.refl k.gh) [] .nil
theorem snd_Qcons {e : E} {es : List E} {p : Expr} {ps : List Expr} (hp : plainP p = true) (h : PE X p (tB Y C W e)) (hs : PA X ps (tQ Y C W es)) : PA X (p :: ps) (tQ Y C W (e :: es)) :=
  (pa_cons h hs (star_eq hp)).imp fun σ H Q h => by
    obtain ⟨G, ρ, k, f⟩ := h
    simp only [evqs] at f
    refine ⟨G, ρ, k, f.bind.imp fun d G1 H1 _ ⟨g1, f1⟩ v rv => ⟨G1, ρ, k.mono g1, f1.bind.imp fun ds G2 H2 _ ⟨g2, f2⟩ vs rvs => ?_⟩⟩
    exact f2 G2 H2 (.refl g2.gh) _ (.cons (rv.mono g2) rvs)

/-! ### two operands, then an operation -/
theorem two {a b : E} {ρ : Env} {G : Hp} {σ : Sl} {H : Hp} {α : Type} {g : D → D → R α} {Q : α → Hp → Hp → Prop} {R : V → V → Hp → Prop} (k : EOk Y G H σ ρ)
    (f : Fin Y W σ G H ((brw ρ a (ev C ρ a)).bind fun x => (brw ρ b (ev C ρ b)).bind fun y => g x y) Q)
    (h : ∀ G2 H2 x y dx dy, Gr G H G2 H2 → Br Y G2 H2 x dx → Br Y G2 H2 y dy → Fin Y W σ G2 H2 (g dx dy) Q → R x y H2) :
    tB Y C W a σ H fun x H1 => tB Y C W b σ H1 fun y H2 => R x y H2 :=
  ⟨G, ρ, k, f.bind.imp fun d G1 H1 _ ⟨g1, f1⟩ v rv => ⟨G1, ρ, k.mono g1, f1.bind.imp fun d2 G2 H2 _ ⟨g2, f2⟩ v2 rv2 => h G2 H2 v v2 d d2 (g1.trans g2) (rv.mono g2) rv2 f2⟩⟩
theorem binR_quiet (o : BOp) (a b : D) : quiet (binR o a b) = true := by
  cases o <;> cases a <;> first | rfl | (cases b <;> first | rfl | (simp only [binR]; exact quiet_ite rfl rfl))
theorem eqR_quiet (a b : D) : quiet (eqR a b) = true := quiet_ite rfl rfl
theorem inR_quiet (a b : D) : quiet (inR a b) = true := by
  cases b <;> first | rfl | (simp only [inR]; exact quiet_ite rfl rfl) | (cases a <;> rfl)
theorem cmpR_quiet (o : COp) (a b : D) : quiet (cmpR o a b) = true := by
  cases o with
  | eq => exact eqR_quiet a b
  | ne => exact quiet_bind (eqR_quiet a b) fun _ => rfl
  | in_ => exact inR_quiet a b
  | notin => exact quiet_bind (inR_quiet a b) fun _ => rfl
  | is_ => cases b <;> first | rfl | (cases a <;> rfl)
  | isnot => cases b <;> first | rfl | (cases a <;> rfl)
  | _ => cases a <;> first | rfl | (cases b <;> rfl)
theorem snd_bin {o : BOp} {a b : E} {pa pb : Expr} {pos : Pos} (K : XC Y M C W X sc) (ha : PE X pa (tB Y C W a)) (hb : PE X pb (tB Y C W b)) : PE X (.BinOp pa (bopOf o) pb pos) (tE Y C W (.bin o a b)) :=
  (pe_op (op_bin (Y := Y) o K.ok) ha hb).imp fun σ H Q h => by
    obtain ⟨G, ρ, k, f⟩ := h
    simp only [ev] at f
    exact two k f fun G2 H2 x y dx dy g bx b_y f2 => ⟨G2, dx, dy, g.gh, bx, b_y, f2.gv (binR_quiet _ _ _)⟩
theorem snd_cmp {o : COp} {a b : E} {pa pb : Expr} {pos : Pos} (K : XC Y M C W X sc) (hp : plainP pb = true) (ha : PE X pa (tB Y C W a)) (hb : PE X pb (tB Y C W b)) : PE X (.Compare pa [copOf o] [pb] pos) (tE Y C W (.cmp o a b)) :=
  (pe_cmpR (op_cmp (Y := Y) o K.ok) ha hb (mark_plain hp)).imp fun σ H Q h => by
    obtain ⟨G, ρ, k, f⟩ := h
    simp only [ev] at f
    refine two k f fun G2 H2 x y dx dy g bx b_y f2 => ⟨G2, dx, dy, g.gh, bx, b_y, ?_⟩
    exact (f2.bind.imp fun c G' H' _ ⟨g', f'⟩ => f' G' H' (.refl g'.gh) _ (.bl c)).gv (cmpR_quiet _ _ _)
theorem sndT_cmp {o : COp} {a b : E} {pa pb : Expr} {pos : Pos} (K : XC Y M C W X sc) (hp : plainP pb = true) (ha : PE X pa (tB Y C W a)) (hb : PE X pb (tB Y C W b)) : PT X (.Compare pa [copOf o] [pb] pos) (tT Y C W (.cmp o a b)) :=
  (pt_cmpR (op_cmp (Y := Y) o K.ok) ha hb (mark_plain hp)).imp fun σ H Q h => by
    obtain ⟨G, ρ, k, f⟩ := h
    simp only [ev] at f
    rw [show brw ρ (.cmp o a b) ((brw ρ a (ev C ρ a)).bind fun x => (brw ρ b (ev C ρ b)).bind fun y => (cmpR o x y).bind fun c => .ok (.bl c)) = ((brw ρ a (ev C ρ a)).bind fun x => (brw ρ b (ev C ρ b)).bind fun y => (cmpR o x y).bind fun c => .ok (.bl c)) from rfl] at f
    have e : ∀ r : R D, r = ((brw ρ a (ev C ρ a)).bind fun x => (brw ρ b (ev C ρ b)).bind fun y => (cmpR o x y).bind fun c => .ok (.bl c)) → r.bind truth = ((brw ρ a (ev C ρ a)).bind fun x => (brw ρ b (ev C ρ b)).bind fun y => cmpR o x y) := by
      intro r hr
      subst hr
      cases brw ρ a (ev C ρ a) with
      | ok x =>
        simp only [R.bind]
        cases brw ρ b (ev C ρ b) with
        | ok y =>
          simp only [R.bind]
          cases cmpR o x y <;> rfl
        | exc k n => rfl
        | bad => rfl
      | exc k n => rfl
      | bad => rfl
    rw [e _ rfl] at f
    refine two k f fun G2 H2 x y dx dy g bx b_y f2 => ⟨G2, dx, dy, g.gh, bx, b_y, ?_⟩
    exact (f2.imp fun c G' H' g' q => ⟨c, rfl, q⟩).gv (cmpR_quiet _ _ _)
theorem snd_chain {o o' : COp} {a b c : E} {pa pb pc : Expr} {pos : Pos} (K : XC Y M C W X sc) (hp : plainP pc = true) (ha : PE X pa (tB Y C W a)) (hb : PE X pb (tB Y C W b)) (hc : PE X pc (tB Y C W c)) :
    PE X (.Compare pa [copOf o, copOf o'] [pb, pc] pos) (tE Y C W (.chain o o' a b c)) :=
  (pe_chain (op_cmp (Y := Y) o K.ok) (op_cmp (Y := Y) o' K.ok) ha hb hc (by show behindInMarks _ pc = false; exact mark_plain hp)).imp fun σ H Q h => by
    obtain ⟨G, ρ, k, f⟩ := h
    simp only [ev] at f
    refine two k f fun G2 H2 x y dx dy g bx b_y f2 => ⟨G2, dx, dy, g.gh, bx, b_y, ?_⟩
    refine (f2.bind.imp fun c1 G3 H3 _ ⟨g3, f3⟩ => ⟨c1, rfl, ?_⟩).gv (cmpR_quiet _ _ _)
    cases c1 with
    | false =>
      exact iteF (f3 G3 H3 (.refl g3.gh) _ (.bl false))
    | true =>
      refine iteT ?_
      refine ⟨G3, ρ, k.mono (g.trans g3), ?_⟩
      have f4 : Fin Y W σ G3 H3 ((brw ρ c (ev C ρ c)).bind fun z => (cmpR o' dy z).bind fun k' => .ok (.bl k')) (wV Y Q) := f3
      refine f4.bind.imp fun dz G5 H5 _ ⟨g5, f5⟩ z rz => ⟨G5, dy, dz, g5.gh, (b_y.mono g3).mono g5, rz, ?_⟩
      exact (f5.bind.imp fun c G' H' _ ⟨g', f'⟩ => f' G' H' (.refl g'.gh) _ (.bl c)).gv (cmpR_quiet _ _ _)
theorem sndT_chain {o o' : COp} {a b c : E} {pa pb pc : Expr} {pos : Pos} (K : XC Y M C W X sc) (hp : plainP pc = true) (ha : PE X pa (tB Y C W a)) (hb : PE X pb (tB Y C W b)) (hc : PE X pc (tB Y C W c)) :
    PT X (.Compare pa [copOf o, copOf o'] [pb, pc] pos) (tT Y C W (.chain o o' a b c)) :=
  (pt_chain (op_cmp (Y := Y) o K.ok) (op_cmp (Y := Y) o' K.ok) ha hb hc (by show behindInMarks _ pc = false; exact mark_plain hp)).imp fun σ H Q h => by
    obtain ⟨G, ρ, k, f⟩ := h
    simp only [ev] at f
    have f := Fin.bind f
    have f : Fin Y W σ G H ((brw ρ a (ev C ρ a)).bind fun x => (brw ρ b (ev C ρ b)).bind fun y => (cmpR o x y).bind fun k =>
      if k = true then (brw ρ c (ev C ρ c)).bind fun z => (cmpR o' y z).bind fun k' => .ok (.bl k') else .ok (.bl false)) (fun d G1 H1 => Gr G H G1 H1 ∧ Fin Y W σ G1 H1 (truth d) (wT Q)) := f
    refine two k f fun G2 H2 x y dx dy g bx b_y f2 => ⟨G2, dx, dy, g.gh, bx, b_y, ?_⟩
    refine (f2.bind.imp fun c1 G3 H3 _ ⟨g3, f3⟩ => ⟨c1, rfl, ?_⟩).gv (cmpR_quiet _ _ _)
    cases c1 with
    | false =>
      refine iteF ⟨false, rfl, ?_⟩
      obtain ⟨_, q⟩ := f3 G3 H3 (.refl g3.gh)
      exact q G3 H3 (.refl g3.gh)
    | true =>
      refine iteT ?_
      refine ⟨G3, ρ, k.mono (g.trans g3), ?_⟩
      have f4 : Fin Y W σ G3 H3 ((brw ρ c (ev C ρ c)).bind fun z => (cmpR o' dy z).bind fun k' => .ok (.bl k')) (fun d G1 H1 => Gr G H G1 H1 ∧ Fin Y W σ G1 H1 (truth d) (wT Q)) := f3
      refine f4.bind.imp fun dz G5 H5 _ ⟨g5, f5⟩ z rz => ⟨G5, dy, dz, g5.gh, (b_y.mono g3).mono g5, rz, ?_⟩
      refine (f5.bind.imp fun c G' H' _ ⟨g', f'⟩ => ?_).gv (cmpR_quiet _ _ _)
      obtain ⟨_, q⟩ := f' G' H' (.refl g'.gh)
      exact ⟨c, rfl, q G' H' (.refl g'.gh)⟩
end
end PF

/-! PF, part R: a list or a tuple the other way round, by a slice. -/
namespace PF
open PySem PySem.Spec PyProof.Rows L2 HT
section
variable {prog : Program} {w : World} {A : Around} {Er : Value → Shared → Prop} {s : Shared}
theorem rev_adj (n : Nat) : Builtin.Slice.sliceAdjust none none (-1) (n : Int) = ((n : Int) - 1, -1) := by
  unfold Builtin.Slice.sliceAdjust
  simp
theorem rev_cnt (n : Nat) : Builtin.Slice.slicePlaces ((n : Int) - 1) (-1) (-1) = n := by
  unfold Builtin.Slice.slicePlaces
  rw [if_neg (by decide)]
  split <;> simp <;> omega
theorem rev_items (xs : Array Value) : ((List.range xs.size).filterMap fun (m : Nat) => xs[((xs.size : Int) - 1 + (m : Int) * (-1)).toNat]?).toArray = xs.toList.reverse.toArray := by
  congr 1
  have e : (List.range xs.size).filterMap (fun (m : Nat) => xs[((xs.size : Int) - 1 + (m : Int) * (-1)).toNat]?) = (List.range xs.size).map fun m => (xs.toList.reverse[m]?).getD .none := by
    have fm : ∀ {f : Nat → Option Value} {g : Nat → Value} (l : List Nat), (∀ m ∈ l, f m = some (g m)) → l.filterMap f = l.map g := by
      intro f g l
      induction l with
      | nil => intro _; rfl
      | cons a l ih =>
        intro h
        rw [List.filterMap_cons, h a List.mem_cons_self, List.map_cons, ih fun m hm => h m (List.mem_cons_of_mem _ hm)]
    refine fm _ fun m hm => ?_
    have hm : m < xs.size := by simpa using hm
    have e1 : ((xs.size : Int) - 1 + (m : Int) * (-1)).toNat = xs.size - 1 - m := by omega
    rw [e1]
    have l : m < xs.toList.reverse.length := by simp; omega
    rw [List.getElem?_eq_getElem l, Array.getElem?_eq_getElem (by omega)]
    simp
  rw [e]
  apply List.ext_getElem
  · simp
  · intro i h1 h2
    simp at h1
    simp [h1]
theorem rev_applied {sl : Addr} {va vb vc : Value} {n : Nat} {Q : Int × Int × Nat → Shared → Prop} (is : s.heap.IsSliceOf sl va vb vc) (pa : IsPart va none) (pb : IsPart vb none) (pc : IsPart vc (some (-1)))
    (q : Q ((n : Int) - 1, -1, n) s) : wpAny (model prog w) A (Builtin.Slice.sliceApplied (.ref sl) (pure (n : Int))) Q Er s := by
  obtain ⟨o, ho, hcl, hda⟩ := id is
  unfold Builtin.Slice.sliceApplied Builtin.Slice.sliceFields
  refine wpAny_bind (wpAny_bind (wpAny_field ho hda (x := va) rfl (wpAny_bind (wpAny_field ho hda (x := vb) rfl (wpAny_bind (wpAny_field ho hda (x := vc) rfl (wpAny_pure ?_)))))))
  refine wpAny_bind (slicePart_ pc ?_)
  show wpAny _ _ (if ((-1 : Int) == 0) = true then _ else _) _ _ s
  rw [if_neg (by decide)]
  refine wpAny_bind (slicePart_ pa (wpAny_bind (slicePart_ pb (wpAny_bind (wpAny_pure ?_)))))
  show wpAny _ _ (match Builtin.Slice.sliceAdjust none none (-1) (n : Int) with | (x, y) => pure (x, (-1 : Int), Builtin.Slice.slicePlaces x y (-1))) _ _ s
  rw [rev_adj]
  show wpAny _ _ (pure ((n : Int) - 1, (-1 : Int), Builtin.Slice.slicePlaces ((n : Int) - 1) (-1) (-1))) _ _ s
  rw [rev_cnt]
  exact wpAny_pure q
theorem rev_tuple {t sl : Addr} {xs : Array Value} {va vb vc : Value} {Q : Value → Shared → Prop} (it : IsTup s.heap t xs) (is : s.heap.IsSliceOf sl va vb vc) (pa : IsPart va none) (pb : IsPart vb none) (pc : IsPart vc (some (-1)))
    (q : Q (.ref s.heap.objs.size) { s with heap := s.heap.push { cls := .type "tuple", data := .seq xs.toList.reverse.toArray } }) (small : xs.size ≤ sizeLine) : wpAny (model prog w) A (getItem (.ref t) (.ref sl)) Q Er s := by
  have ok : sizeOk (.seq xs.toList.reverse.toArray) := by
    show xs.toList.reverse.toArray.size ≤ sizeLine
    simpa using small
  obtain ⟨o, ho, hcl, hda⟩ := id is
  have ty : s.TypeIs (.ref sl) "slice" := ⟨o, ho, hcl⟩
  unfold getItem
  try with_reducible refine wpAny_holding ?_
  first | refine wpAny_bind (wpAny_pure ?_) | skip
  refine wpAny_bind (wpAny_sequenceKey it.typeIs (by decide) ?_)
  refine wpAny_bind (wpAny_callSpecial?_slot (name := Str.ofString "__getitem__") it.typeIs PyProof.Rows.slot_tuple_getitem (wpAny_call_entry PyProof.Rows.slot_tuple_getitem it.typeIs entry_tuple_getitem ?_ (args_tuple_getitem _ _)))
  show wpAny _ _ (Builtin.Tuple.tupleItemsOf (.ref t) >>= _) _ _ s
  refine wpAny_bind (tupleItemsOf_ it ?_)
  refine wpAny_bind (wpAny_typeOf ty ?_)
  rw [if_pos (by decide)]
  refine wpAny_bind (rev_applied is pa pb pc ?_)
  have no : ¬ ((((xs.size : Int) - 1) == 0 && (-1 : Int) == 1 && xs.size == xs.size) = true) := by
    simp
  show wpAny _ _ (if (((xs.size : Int) - 1) == 0 && (-1 : Int) == 1 && xs.size == xs.size) = true then _ else _) _ _ s
  rw [if_neg no, rev_items]
  first
    | exact wpAny_bind (m := Builtin.Tuple.tupleExact _) (wpAny_newObj_type (wpAny_pure ⟨_, rfl, wpAny_pure q⟩) ok)
    | exact wpAny_bind (m := Builtin.Tuple.tupleExact _) (wpAny_newObj_type (wpAny_bind (wpAny_pure (wpAny_pure ⟨_, rfl, wpAny_pure q⟩))) ok)
    | exact wpAny_bind (wpAny_bind (m := Builtin.Tuple.tupleExact _) (wpAny_newObj_type (wpAny_pure (wpAny_pure ⟨_, rfl, wpAny_pure q⟩)) ok))
    | exact wpAny_bind (wpAny_bind (m := Builtin.Tuple.tupleExact _) (wpAny_newObj_type (wpAny_pure ⟨_, rfl, wpAny_pure q⟩) ok))
end
section
variable {X : Cx}
/-- x[::-1], x a list or a tuple -/
def tRev2 (K : PySem.W.Frag) (te : TE) : TE := fun σ H Q => te σ H fun x H1 => (∃ a vs, x = .ref a ∧ SqL K H1 a vs ∧ ∀ p, H1 p = none → Q (.ref p) (upd H1 p (.lst vs.reverse))) ∨ (∃ a vs, x = .ref a ∧ SqT K H1 a vs ∧ ∀ p, H1 p = none → Q (.ref p) (upd H1 p (.tup vs.reverse)))
theorem pe_rev2 {e : Expr} {te : TE} {k : Nat} {p1 p2 p3 pos : Pos} (he : PE X e te) : PE X (.Subscript e (.Slice none none (some (.UnaryOp .USub (.Constant (.int 1) k p1) p2)) p3) pos) (tRev2 X.K te) := by
  constructor
  intro pins s σ H Q I h
  refine Subscript_ (thn (he.run pins s σ H _ I h) fun u sa ⟨x, Ha, Ia, ra, qa⟩ => ?_)
  have st : PO X (some (.UnaryOp .USub (.Constant (.int 1) k p1) p2)) (tPart (tUn (rU fun i => .int (-i)) (tC (.int 1)))) := po_some (pe_un un_neg pe_int)
  refine wpAny_Slice (thn (po_none.run pins sa σ Ha (fun o G => o = none ∧ G = Ha) Ia ⟨rfl, rfl⟩) fun v1 sb ⟨o1, Hb, Ib, pt1, eo1, eb⟩ => ?_)
  subst eo1 eb
  refine thn (po_none.run pins sb σ Hb (fun o G => o = none ∧ G = Hb) Ib ⟨rfl, rfl⟩) fun v2 sc ⟨o2, Hc, Ic, pt2, eo2, ec⟩ => ?_
  subst eo2 ec
  refine thn (st.run pins sc σ Hc (fun o G => o = some (-1) ∧ G = Hc) Ic ⟨1, rfl, -1, rfl, rfl, rfl⟩) fun v3 sd ⟨o3, Hd, Id, pt3, eo3, ed⟩ => ?_
  subst eo3 ed
  have Ie : Inv X pins σ Hd { sd with heap := sd.heap.push { cls := .type "slice", data := .fields #[v1, v2, v3] } } := Id.kept (t' := sd.toks) fun b ob z => Heap.get?_push_of_some _ z
  rcases qa with ⟨a, vs, ex, hx, q⟩ | ⟨a, vs, ex, hx, q⟩
  · subst ex
    cases ra
    obtain ⟨its, r, ht, hz⟩ := Ie.list hx
    have hlen := r.length
    show wpAny (model X.prog X.w) X.A (subscriptTail e _ (.ref a) (.ref sd.heap.objs.size)) (EP X pins σ Q) X.xe { sd with heap := sd.heap.push { cls := .type "slice", data := .fields #[v1, v2, v3] } }
    refine tail_any (ops := [.ref a, .ref sd.heap.objs.size]) ht.isList.typeIs (PySem.slot_list_getitem.lookup) ?_ (by with_unfolding_all rfl)
    refine wpAny_getItem_list_slice ht.isList (Heap.IsSliceOf.new _ v1 v2 v3) pt1 pt2 pt3 (by decide) ?_ (by rw [List.size_toArray]; omega)
    rw [PySem.W.krv_pick]
    refine ⟨.ref _, _, Ie.laid (t' := sd.toks) (o := .lst vs.reverse) (fun b ob z => Heap.get?_push_of_some _ z) (Nat.le_refl _) ?_, rfl, q _ (Ie.hok.fresh (Nat.le_refl _))⟩
    exact ⟨by rw [List.length_reverse]; omega, _, 0, r.reverse, Heap.get?_push_size _ rfl⟩
  · subst ex
    cases ra
    obtain ⟨its, r, ht, hz⟩ := Ie.tuple hx
    have hlen : its.toArray.size = vs.length := by rw [List.size_toArray, r.length]
    show wpAny (model X.prog X.w) X.A (subscriptTail e _ (.ref a) (.ref sd.heap.objs.size)) (EP X pins σ Q) X.xe { sd with heap := sd.heap.push { cls := .type "slice", data := .fields #[v1, v2, v3] } }
    refine tail_any (ops := [.ref a, .ref sd.heap.objs.size]) ht.typeIs PyProof.Rows.slot_tuple_getitem.lookup ?_ (by with_unfolding_all rfl)
    refine rev_tuple ht (Heap.IsSliceOf.new _ v1 v2 v3) pt1 pt2 pt3 ?_ (by rw [hlen]; exact hz)
    refine ⟨.ref _, _, Ie.laid (t' := sd.toks) (o := .tup vs.reverse) (fun b ob z => Heap.get?_push_of_some _ z) (Nat.le_refl _) ?_, rfl, q _ (Ie.hok.fresh (Nat.le_refl _))⟩
    exact ⟨by rw [List.length_reverse]; exact hz, _, r.reverse, IsTup.new _ _⟩
/-- x[::k], x a list -/
def tStp (K : PySem.W.Frag) (k : Nat) (te : TE) : TE := fun σ H Q => te σ H fun x H1 => ∃ a vs, x = .ref a ∧ SqL K H1 a vs ∧ ∀ p, H1 p = none → Q (.ref p) (upd H1 p (.lst (stpL k vs)))
theorem stp_pick (items : Array Value) {k : Nat} (hk : 1 ≤ k) : slicePick items none none (some (k : Int)) = (stpL k items.toList).toArray := by
  unfold slicePick
  have e : sliceBounds none none (some (k : Int)) items.size = (0, (items.size : Int), (k : Int)) := by
    unfold sliceBounds
    simp
    omega
  rw [e]
  have e2 : sliceRange 0 (items.size : Int) (k : Int) = stpI items.size k := by
    unfold sliceRange stpI
    have h1 : (k : Int) > 0 := by omega
    have c : ((items.size : Int) - 0 + (k : Int) - 1) / (k : Int) = (((items.size + k - 1) / k : Nat) : Int) := by
      rw [show (items.size : Int) - 0 + (k : Int) - 1 = ((items.size + k - 1 : Nat) : Int) by omega, Int.natCast_ediv]
    have z : items.size = 0 → (items.size + k - 1) / k = 0 := fun h => by rw [h, Nat.div_eq_of_lt (by omega)]
    by_cases h : (0 : Int) < (items.size : Int)
    · simp only [h1, if_true, h, c, Int.toNat_natCast]
      apply List.map_congr_left
      intro m _
      rw [← Int.natCast_mul]
      omega
    · simp only [h1, if_true, h, if_false]
      rw [z (by omega)]
      rfl
  show ((sliceRange 0 (items.size : Int) (k : Int)).filterMap (items[·]?)).toArray = _
  rw [e2]
  unfold stpL
  congr 1
  rw [Array.length_toList]
  congr 1
  funext i
  simp
theorem paired_get {α β : Type} {F : α → β → Prop} : ∀ {l₁ : List α} {l₂ : List β}, Paired F l₁ l₂ → ∀ (i : Nat), (l₁[i]? = none ∧ l₂[i]? = none) ∨ ∃ a b, l₁[i]? = some a ∧ l₂[i]? = some b ∧ F a b
  | _, _, .nil, i => .inl ⟨rfl, rfl⟩
  | _, _, .cons h t, 0 => .inr ⟨_, _, rfl, rfl, h⟩
  | _, _, .cons h t, i + 1 => paired_get t i
theorem paired_pick {α β : Type} {F : α → β → Prop} {l₁ : List α} {l₂ : List β} (h : Paired F l₁ l₂) : ∀ idx : List Nat, Paired F (idx.filterMap (l₁[·]?)) (idx.filterMap (l₂[·]?))
  | [] => .nil
  | i :: idx => by
    rcases paired_get h i with ⟨e1, e2⟩ | ⟨a, b, e1, e2, e3⟩
    · rw [List.filterMap_cons, List.filterMap_cons, e1, e2]
      exact paired_pick h idx
    · rw [List.filterMap_cons, List.filterMap_cons, e1, e2]
      exact .cons e3 (paired_pick h idx)
theorem paired_stp {α β : Type} {F : α → β → Prop} {l₁ : List α} {l₂ : List β} (h : Paired F l₁ l₂) (k : Nat) : Paired F (stpL k l₁) (stpL k l₂) := by
  unfold stpL
  rw [h.length]
  exact paired_pick h _
theorem stpI_len (n : Nat) {k : Nat} (hk : 1 ≤ k) : (stpI n k).length ≤ n := by
  unfold stpI
  rw [List.length_map, List.length_range]
  cases n with
  | zero => rw [Nat.div_eq_of_lt (by omega)]; omega
  | succ n =>
    obtain ⟨j, rfl⟩ : ∃ j, k = j + 1 := ⟨k - 1, by omega⟩
    apply Nat.div_le_of_le_mul
    have e : (j + 1) * (n + 1) = j * n + j + n + 1 := by
      rw [Nat.add_mul, Nat.mul_add, Nat.one_mul, Nat.mul_one]
      omega
    rw [e]
    omega
theorem stpL_len {α : Type} {k : Nat} (hk : 1 ≤ k) (l : List α) : (stpL k l).length ≤ l.length := Nat.le_trans (List.length_filterMap_le _ _) (stpI_len _ hk)
theorem pe_stp {e : Expr} {te : TE} {n : Nat} (hn : 1 ≤ n) {k : Nat} {p1 p3 pos : Pos} (he : PE X e te) : PE X (.Subscript e (.Slice none none (some (.Constant (.int (n : Int)) k p1)) p3) pos) (tStp X.K n te) := by
  constructor
  intro pins s σ H Q I h
  refine Subscript_ (thn (he.run pins s σ H _ I h) fun u sa ⟨x, Ha, Ia, ra, qa⟩ => ?_)
  have st : PO X (some (.Constant (.int (n : Int)) k p1)) (tPart (tC (.int (n : Int)))) := po_some pe_int
  refine wpAny_Slice (thn (po_none.run pins sa σ Ha (fun o G => o = none ∧ G = Ha) Ia ⟨rfl, rfl⟩) fun v1 sb ⟨o1, Hb, Ib, pt1, eo1, eb⟩ => ?_)
  subst eo1 eb
  refine thn (po_none.run pins sb σ Hb (fun o G => o = none ∧ G = Hb) Ib ⟨rfl, rfl⟩) fun v2 sc ⟨o2, Hc, Ic, pt2, eo2, ec⟩ => ?_
  subst eo2 ec
  refine thn (st.run pins sc σ Hc (fun o G => o = some (n : Int) ∧ G = Hc) Ic ⟨(n : Int), rfl, rfl, rfl⟩) fun v3 sd ⟨o3, Hd, Id, pt3, eo3, ed⟩ => ?_
  subst eo3 ed
  have Ie : Inv X pins σ Hd { sd with heap := sd.heap.push { cls := .type "slice", data := .fields #[v1, v2, v3] } } := Id.kept (t' := sd.toks) fun b ob z => Heap.get?_push_of_some _ z
  obtain ⟨a, vs, ex, hx, q⟩ := qa
  subst ex
  cases ra
  obtain ⟨its, r, ht, hz⟩ := Ie.list hx
  have hlen := r.length
  show wpAny (model X.prog X.w) X.A (subscriptTail e _ (.ref a) (.ref sd.heap.objs.size)) (EP X pins σ Q) X.xe { sd with heap := sd.heap.push { cls := .type "slice", data := .fields #[v1, v2, v3] } }
  refine tail_any (ops := [.ref a, .ref sd.heap.objs.size]) ht.isList.typeIs (PySem.slot_list_getitem.lookup) ?_ (by with_unfolding_all rfl)
  refine wpAny_getItem_list_slice ht.isList (Heap.IsSliceOf.new _ v1 v2 v3) pt1 pt2 pt3 (by intro h; injection h with h; omega) ?_ (by rw [List.size_toArray]; omega)
  rw [stp_pick _ hn]
  refine ⟨.ref _, _, Ie.laid (t' := sd.toks) (o := .lst (stpL n vs)) (fun b ob z => Heap.get?_push_of_some _ z) (Nat.le_refl _) ?_, rfl, q _ (Ie.hok.fresh (Nat.le_refl _))⟩
  have sl := stpL_len hn vs
  exact ⟨by omega, _, 0, paired_stp r n, Heap.get?_push_size _ rfl⟩
end
end PF

/-! PF, part H: expressions one by one, further. -/
namespace PF
open PySem PySem.Spec PyProof.Rows L2

theorem attr_plain {p : Expr} {m : Str} {env : PySem.Env} {whole : Sem Value} (h : ∀ id a b, p ≠ .Call (.Name id a) [] [] b) : attributeBase p m env whole = whole := by
  unfold attributeBase
  split
  · exact absurd rfl (h _ _ _)
  · rfl

section
variable {Y : Wh} {M : Mt} {C : Cal} {W : WX} {X : Cx} {sc : Scope}
/-! ### displays -/
theorem tO_of {σ : Sl} {H : Hp} {Q : VK} {e : E} (h : tE Y C W e σ H Q) : tO Y C W e σ H Q := by
  obtain ⟨G, ρ, k, f⟩ := h
  refine ⟨G, ρ, k, ?_⟩
  cases hr : ev C ρ e with
  | ok d =>
    rw [hr] at f
    refine fun G' H' g p vs ds e1 h0 h1 h2 r => ?_
    subst e1
    have s : Same G' (upd G' p (.lst vs)) := same_new h2
    have g2 : Gr G H (upd G' p (.lst vs)) H' := by
      refine ⟨g.hh, g.gg.trans s, fun b o e => ?_, fun a o e => ?_⟩
      · by_cases hb : b = p
        · subst hb
          rw [upd_same] at e
          rw [← e]
          exact h1
        · rw [upd_ne hb] at e
          exact g.gh _ _ e
      · by_cases hb : a = p
        · subst hb
          exact .inr h0
        · rw [upd_ne hb] at e
          exact g.nw _ _ e
    exact f _ H' g2 (.ref p) (.lst upd_same (r.mono s))
  | exc k n =>
    rw [hr] at f
    exact f
  | bad =>
    rw [hr] at f
    exact f
theorem snd_tup {es : List E} {ps : List Expr} {k : Nat} {pos : Pos} (hn : es.length ≤ 1000) (h : PA X ps (tA Y C W es)) : PE X (.Tuple ps k pos) (tE Y C W (.tup es)) :=
  (pe_tup h).imp fun σ H Q h => by
    obtain ⟨G, ρ, k, f⟩ := h
    simp only [ev] at f
    refine ⟨G, ρ, k, ?_⟩
    have hl : ∀ {es : List E} {ds : List D}, evs C ρ es = .ok ds → ds.length = es.length := by
      intro es
      induction es with
      | nil =>
        intro ds e
        simp only [evs, R.ok.injEq] at e
        subst e
        rfl
      | cons a as ih =>
        intro ds e
        simp only [evs] at e
        cases ha : ev C ρ a with
        | ok d =>
          rw [ha] at e
          simp only [R.bind] at e
          cases has : evs C ρ as with
          | ok ds' =>
            rw [has] at e
            simp only [R.ok.injEq] at e
            subst e
            simp [ih has]
          | exc k n => rw [has] at e; cases e
          | bad => rw [has] at e; cases e
        | exc k n => rw [ha] at e; cases e
        | bad => rw [ha] at e; cases e
    cases hr : evs C ρ es with
    | ok ds =>
      rw [hr] at f
      refine fun G' H' g vs rvs => ⟨?_, fun p hp => ?_⟩
      · rw [rvs.length, hl hr]
        have := big_line
        have : big = 1000000 := rfl
        omega
      · exact f _ _ (g.trans (.new g.gh hp)) _ (.tup (SqT.of upd_same) (rvs.mono (same_new (g.gh.free hp))))
    | exc k n => rw [hr] at f; exact f
    | bad => rw [hr] at f; exact f
theorem evs_len {ρ : Env} : ∀ {es : List E} {ds : List D}, evs C ρ es = .ok ds → ds.length = es.length := by
  intro es
  induction es with
  | nil =>
    intro ds e
    simp only [evs, R.ok.injEq] at e
    subst e
    rfl
  | cons a as ih =>
    intro ds e
    simp only [evs] at e
    cases ha : ev C ρ a with
    | ok d =>
      rw [ha] at e
      simp only [R.bind] at e
      cases has : evs C ρ as with
      | ok ds' =>
        rw [has] at e
        simp only [R.ok.injEq] at e
        subst e
        simp [ih has]
      | exc k n => rw [has] at e; cases e
      | bad => rw [has] at e; cases e
    | exc k n => rw [ha] at e; cases e
    | bad => rw [ha] at e; cases e
theorem snd_lst {es : List E} {ps : List Expr} {pos : Pos} (hn : es.length ≤ 1000) (h : PA X ps (tA Y C W es)) : PE X (.List ps pos) (tO Y C W (.lst es)) :=
  (pe_lst h).imp fun σ H Q h => by
    obtain ⟨G, ρ, k, f⟩ := h
    simp only [ev] at f
    refine ⟨G, ρ, k, ?_⟩
    cases hr : evs C ρ es with
    | ok ds =>
      rw [hr] at f
      refine fun G' H' g vs rvs => ⟨?_, fun p hp => ?_⟩
      · rw [rvs.length, evs_len hr]
        have := big_line
        have : big = 1000000 := rfl
        omega
      · have g2 : Gr G H G' (upd H' p (.lst vs)) := by
          refine ⟨g.hh.trans (same_new hp), g.gg, fun b o e => ?_, g.nw⟩
          have hb : b ≠ p := ne_of_none e (g.gh.free hp)
          rw [upd_ne hb]
          exact g.gh _ _ e
        exact f _ _ g2 p vs ds rfl (g.hh.free hp) upd_same (g.gh.free hp) rvs
    | exc k n => rw [hr] at f; exact f
    | bad => rw [hr] at f; exact f

/-! ### signs, truth -/
theorem snd_neg {a : E} {pa : Expr} {pos : Pos} (ha : PE X pa (tE Y C W a)) : PE X (.UnaryOp .USub pa pos) (tE Y C W (.neg a)) :=
  (pe_un un_neg ha).imp fun σ H Q h => by
    obtain ⟨G, ρ, k, f⟩ := h
    simp only [ev] at f
    refine ⟨G, ρ, k, f.bind.imp fun d G1 H1 _ ⟨g1, f1⟩ v rv => ?_⟩
    cases d with
    | int i =>
      cases rv
      exact ⟨i, rfl, f1 G1 H1 (.refl g1.gh) _ (.int _)⟩
    | _ => exact False.elim f1
theorem snd_not {a : E} {pa : Expr} {pos : Pos} (K : XC Y M C W X sc) (ha : PE X pa (tB Y C W a)) : PE X (.UnaryOp .Not pa pos) (tE Y C W (.not a)) :=
  (pe_notT ha).imp fun σ H Q h => by
    obtain ⟨G, ρ, k, f⟩ := h
    simp only [ev] at f
    have e0 : (((brw ρ a (ev C ρ a)).bind truth).bind fun b => R.ok (D.bl !b)) = ((brw ρ a (ev C ρ a)).bind fun x => (truth x).bind fun b => .ok (.bl !b)) := by
      cases brw ρ a (ev C ρ a) <;> rfl
    have f' : Fin Y W σ G H ((brw ρ a (ev C ρ a)).bind fun x => (truth x).bind fun b => .ok (.bl !b)) (wV Y Q) := by
      rw [← e0]
      exact f
    refine ⟨G, ρ, k, f'.bind.imp fun d G1 H1 _ ⟨g1, f1⟩ v rv => ?_⟩
    cases ht : truth d with
    | ok c =>
      rw [ht] at f1
      refine ⟨c, ?_, f1 G1 H1 (.refl g1.gh) _ (.bl _)⟩
      rw [K.ok.k]
      exact tru_of g1.gh ht rv
    | exc k n =>
      have := truth_quiet d
      rw [ht] at this
      cases this
    | bad =>
      rw [ht] at f1
      exact False.elim f1
/-- a test of any other expression -/
theorem sndT_plain {e : E} {p : Expr} (K : XC Y M C W X sc) (h : PE X p (tB Y C W e)) (he : ∀ whole, isTrue p X.env whole = (do let v ← whole; standAt p.pos; holding [v] (truthy v))) : PT X p (tT Y C W e) :=
  (pt_truth h he).imp fun σ H Q h => by
    obtain ⟨G, ρ, k, f⟩ := h
    refine ⟨G, ρ, k, f.bind.imp fun d G1 H1 _ ⟨g1, f1⟩ v rv => ?_⟩
    cases ht : truth d with
    | ok c =>
      rw [ht] at f1
      refine ⟨c, ?_, f1 G1 H1 (.refl g1.gh)⟩
      rw [K.ok.k]
      exact tru_of g1.gh ht rv
    | exc k n =>
      have := truth_quiet d
      rw [ht] at this
      cases this
    | bad =>
      rw [ht] at f1
      exact False.elim f1
theorem sndT_not {a : E} {pa : Expr} {pos : Pos} (ha : PT X pa (tT Y C W a)) : PT X (.UnaryOp .Not pa pos) (tT Y C W (.not a)) :=
  (pt_not ha).imp fun σ H Q h => by
    obtain ⟨G, ρ, k, f⟩ := h
    simp only [ev] at f
    have f' : Fin Y W σ G H (((brw ρ a (ev C ρ a)).bind truth).bind fun b => .ok !b) (wT Q) := by
      have e : (brw ρ (.not a) (((brw ρ a (ev C ρ a)).bind truth).bind fun b => .ok (.bl !b))).bind truth = (((brw ρ a (ev C ρ a)).bind truth).bind fun b => .ok !b) := by
        show ((((brw ρ a (ev C ρ a)).bind truth).bind fun b => R.ok (D.bl !b)).bind truth) = _
        cases (brw ρ a (ev C ρ a)).bind truth <;> rfl
      rw [e] at f
      exact f
    exact ⟨G, ρ, k, f'.bind.imp fun c G1 H1 _ ⟨g1, f1⟩ => f1 G1 H1 (.refl g1.gh)⟩
theorem snd_and {a b : E} {pa pb : Expr} {rest : List Expr} {pos : Pos} (K : XC Y M C W X sc) (ha : PE X pa (tE Y C W a)) (hb : PE X (.BoolOp .And (pb :: rest) pos) (tE Y C W b)) : PE X (.BoolOp .And (pa :: pb :: rest) pos) (tE Y C W (.and a b)) :=
  (pe_andT ha hb).imp fun σ H Q h => by
    obtain ⟨G, ρ, k, f⟩ := h
    simp only [ev] at f
    refine ⟨G, ρ, k, f.bind.imp fun d G1 H1 _ ⟨g1, f1⟩ v rv => ?_⟩
    cases ht : truth d with
    | ok c =>
      rw [ht] at f1
      refine ⟨c, ?_, ?_⟩
      · rw [K.ok.k]
        exact tru_of g1.gh ht (.inl rv)
      · cases c with
        | true => exact iteT ⟨G1, ρ, k.mono g1, f1⟩
        | false => exact iteF (f1 G1 H1 (.refl g1.gh) v rv)
    | exc k n =>
      have := truth_quiet d
      rw [ht] at this
      cases this
    | bad =>
      rw [ht] at f1
      exact False.elim f1
theorem snd_or {a b : E} {pa pb : Expr} {rest : List Expr} {pos : Pos} (K : XC Y M C W X sc) (ha : PE X pa (tE Y C W a)) (hb : PE X (.BoolOp .Or (pb :: rest) pos) (tE Y C W b)) : PE X (.BoolOp .Or (pa :: pb :: rest) pos) (tE Y C W (.or a b)) :=
  (pe_orT ha hb).imp fun σ H Q h => by
    obtain ⟨G, ρ, k, f⟩ := h
    simp only [ev] at f
    refine ⟨G, ρ, k, f.bind.imp fun d G1 H1 _ ⟨g1, f1⟩ v rv => ?_⟩
    cases ht : truth d with
    | ok c =>
      rw [ht] at f1
      refine ⟨c, ?_, ?_⟩
      · rw [K.ok.k]
        exact tru_of g1.gh ht (.inl rv)
      · cases c with
        | false => exact iteF ⟨G1, ρ, k.mono g1, f1⟩
        | true => exact iteT (f1 G1 H1 (.refl g1.gh) v rv)
    | exc k n =>
      have := truth_quiet d
      rw [ht] at this
      cases this
    | bad =>
      rw [ht] at f1
      exact False.elim f1
/-- in a test the first operand is asked for its truth alone -/
theorem brw_ok {ρ : Env} {e : E} {d : D} (h : ev C ρ e = .ok d) : brw ρ e (ev C ρ e) = .ok d := by
  cases e with
  | var i =>
    simp only [ev] at h
    simp only [brw]
    cases hg : ρ.get i with
    | un => rw [hg] at h; cases h
    | own ds => rw [hg] at h; cases h
    | fr d' => rw [hg] at h; exact h
  | _ => exact h
theorem sndT_and {a b : E} {pa pb : Expr} {rest : List Expr} {pos : Pos} (ha : PT X pa (tT Y C W a)) (hb : PW X (.BoolOp .And (pb :: rest) pos) (tT Y C W b)) : PW X (.BoolOp .And (pa :: pb :: rest) pos) (tT Y C W (.and a b)) :=
  (pw_and ha hb).imp fun σ H Q h => by
    obtain ⟨G, ρ, k, f⟩ := h
    simp only [ev] at f
    have f : Fin Y W σ G H (((ev C ρ a).bind fun x => (truth x).bind fun c => if c = true then ev C ρ b else .ok x).bind truth) (wT Q) := f
    cases hr : ev C ρ a with
    | bad => rw [hr] at f; exact False.elim f
    | exc n m =>
      rw [hr] at f
      refine ⟨G, ρ, k, ?_⟩
      have e : brw ρ a (ev C ρ a) = .exc n m := by
        cases a with
        | var i =>
          simp only [ev] at hr
          cases hg : ρ.get i <;> rw [hg] at hr <;> cases hr
        | _ => exact hr
      rw [hr] at e
      rw [hr, e]
      exact f
    | ok d =>
      rw [hr] at f
      refine ⟨G, ρ, k, ?_⟩
      have e := brw_ok hr
      rw [hr] at e
      rw [hr, e]
      show Fin Y W σ G H (truth d) _
      cases ht : truth d with
      | ok c =>
        have f : Fin Y W σ G H (((truth d).bind fun c => if c = true then ev C ρ b else .ok d).bind truth) (wT Q) := f
        rw [ht] at f
        refine fun G1 H1 g1 => ?_
        cases c with
        | true =>
          show if true = true then tT Y C W b σ H1 Q else Q false H1
          refine iteT ⟨G1, ρ, k.mono g1, ?_⟩
          have f : Fin Y W σ G H ((ev C ρ b).bind truth) (wT Q) := f
          have f := f.mono g1
          cases hb2 : ev C ρ b with
          | ok d2 =>
            rw [hb2] at f
            have e2 := brw_ok hb2
            rw [hb2] at e2
            rw [e2]
            exact f
          | exc n m =>
            have e2 : brw ρ b (ev C ρ b) = .exc n m := by
              cases b with
              | var i =>
                simp only [ev] at hb2
                cases hg : ρ.get i <;> rw [hg] at hb2 <;> cases hb2
              | _ => exact hb2
            rw [hb2] at f e2
            rw [e2]
            exact f
          | bad => rw [hb2] at f; exact False.elim f
        | false =>
          show if false = true then tT Y C W b σ H1 Q else Q false H1
          refine iteF ?_
          have f : Fin Y W σ G H (truth d) (wT Q) := f
          rw [ht] at f
          exact f G1 H1 g1
      | exc k n =>
        have := truth_quiet d
        rw [ht] at this
        cases this
      | bad =>
        have f : Fin Y W σ G H (((truth d).bind fun c => if c = true then ev C ρ b else .ok d).bind truth) (wT Q) := f
        rw [ht] at f
        exact False.elim f
theorem sndT_or {a b : E} {pa pb : Expr} {rest : List Expr} {pos : Pos} (ha : PT X pa (tT Y C W a)) (hb : PW X (.BoolOp .Or (pb :: rest) pos) (tT Y C W b)) : PW X (.BoolOp .Or (pa :: pb :: rest) pos) (tT Y C W (.or a b)) :=
  (pw_or ha hb).imp fun σ H Q h => by
    obtain ⟨G, ρ, k, f⟩ := h
    simp only [ev] at f
    have f : Fin Y W σ G H (((ev C ρ a).bind fun x => (truth x).bind fun c => if c = true then .ok x else ev C ρ b).bind truth) (wT Q) := f
    cases hr : ev C ρ a with
    | bad => rw [hr] at f; exact False.elim f
    | exc n m =>
      rw [hr] at f
      refine ⟨G, ρ, k, ?_⟩
      have e : brw ρ a (ev C ρ a) = .exc n m := by
        cases a with
        | var i =>
          simp only [ev] at hr
          cases hg : ρ.get i <;> rw [hg] at hr <;> cases hr
        | _ => exact hr
      rw [hr] at e
      rw [hr, e]
      exact f
    | ok d =>
      rw [hr] at f
      refine ⟨G, ρ, k, ?_⟩
      have e := brw_ok hr
      rw [hr] at e
      rw [hr, e]
      show Fin Y W σ G H (truth d) _
      cases ht : truth d with
      | ok c =>
        have f : Fin Y W σ G H (((truth d).bind fun c => if c = true then .ok d else ev C ρ b).bind truth) (wT Q) := f
        rw [ht] at f
        refine fun G1 H1 g1 => ?_
        cases c with
        | false =>
          show if false = true then Q true H1 else tT Y C W b σ H1 Q
          refine iteF ⟨G1, ρ, k.mono g1, ?_⟩
          have f : Fin Y W σ G H ((ev C ρ b).bind truth) (wT Q) := f
          have f := f.mono g1
          cases hb2 : ev C ρ b with
          | ok d2 =>
            rw [hb2] at f
            have e2 := brw_ok hb2
            rw [hb2] at e2
            rw [e2]
            exact f
          | exc n m =>
            have e2 : brw ρ b (ev C ρ b) = .exc n m := by
              cases b with
              | var i =>
                simp only [ev] at hb2
                cases hg : ρ.get i <;> rw [hg] at hb2 <;> cases hb2
              | _ => exact hb2
            rw [hb2] at f e2
            rw [e2]
            exact f
          | bad => rw [hb2] at f; exact False.elim f
        | true =>
          show if true = true then Q true H1 else tT Y C W b σ H1 Q
          refine iteT ?_
          have f : Fin Y W σ G H (truth d) (wT Q) := f
          rw [ht] at f
          exact f G1 H1 g1
      | exc k n =>
        have := truth_quiet d
        rw [ht] at this
        cases this
      | bad =>
        have f : Fin Y W σ G H (((truth d).bind fun c => if c = true then .ok d else ev C ρ b).bind truth) (wT Q) := f
        rw [ht] at f
        exact False.elim f
theorem snd_ifx {c a b : E} {pc pa pb : Expr} {pos : Pos} (hc : PT X pc (tT Y C W c)) (ha : PE X pa (tE Y C W a)) (hb : PE X pb (tE Y C W b)) : PE X (.IfExp pc pa pb pos) (tE Y C W (.ifx c a b)) :=
  (pe_ifExp hc ha hb).imp fun σ H Q h => by
    obtain ⟨G, ρ, k, f⟩ := h
    simp only [ev] at f
    refine ⟨G, ρ, k, f.bind.imp fun d G1 H1 _ ⟨g1, f1⟩ => ?_⟩
    show if d = true then _ else _
    cases d with
    | true => exact iteT ⟨G1, ρ, k.mono g1, f1⟩
    | false => exact iteF ⟨G1, ρ, k.mono g1, f1⟩
theorem pt_ifE {c a b : Expr} {pos : Pos} {tc ta tb : TT} (hc : PT X c tc) (ha : PT X a ta) (hb : PT X b tb) : PT X (.IfExp c a b pos) (fun σ H Q => tc σ H fun k H1 => if k = true then ta σ H1 Q else tb σ H1 Q) := by
  refine ⟨fun pins s σ H Q I h => ?_⟩
  refine isTrue_IfExp (thn (hc.run pins s σ H _ I h) fun d s1 ⟨H1, I1, q1⟩ => ?_)
  cases d with
  | true => exact ha.run pins s1 σ H1 Q I1 q1
  | false => exact hb.run pins s1 σ H1 Q I1 q1
theorem up_brw {ρ : Env} {e : E} {σ : Sl} {G H : Hp} {Q : Bool → Hp → Hp → Prop} (f : Fin Y W σ G H ((ev C ρ e).bind truth) Q) : Fin Y W σ G H ((brw ρ e (ev C ρ e)).bind truth) Q := by
  cases he : ev C ρ e with
  | ok d2 =>
    rw [he] at f
    have e2 := brw_ok he
    rw [he] at e2
    rw [e2]
    exact f
  | exc n m =>
    have e2 : brw ρ e (ev C ρ e) = .exc n m := by
      cases e with
      | var i =>
        simp only [ev] at he
        cases hg : ρ.get i <;> rw [hg] at he <;> cases he
      | _ => exact he
    rw [he] at f e2
    rw [e2]
    exact f
  | bad => rw [he] at f; exact False.elim f
/-- .. as a test: its value's truth -/
theorem sndT_ifx {c a b : E} {pc pa pb : Expr} {pos : Pos} (hc : PT X pc (tT Y C W c)) (ha : PT X pa (tT Y C W a)) (hb : PT X pb (tT Y C W b)) : PT X (.IfExp pc pa pb pos) (tT Y C W (.ifx c a b)) :=
  (pt_ifE hc ha hb).imp fun σ H Q h => by
    obtain ⟨G, ρ, k, f⟩ := h
    simp only [ev] at f
    have f : Fin Y W σ G H ((((brw ρ c (ev C ρ c)).bind truth).bind fun k => if k = true then ev C ρ a else ev C ρ b).bind truth) (wT Q) := f
    have e : (((brw ρ c (ev C ρ c)).bind truth).bind fun k => if k = true then ev C ρ a else ev C ρ b).bind truth = (((brw ρ c (ev C ρ c)).bind truth).bind fun k => if k = true then (ev C ρ a).bind truth else (ev C ρ b).bind truth) := by
      cases (brw ρ c (ev C ρ c)).bind truth with
      | ok k => cases k <;> rfl
      | exc n m => rfl
      | bad => rfl
    rw [e] at f
    refine ⟨G, ρ, k, f.bind.imp fun d G1 H1 _ ⟨g1, f1⟩ => ?_⟩
    show if d = true then _ else _
    cases d with
    | true => exact iteT ⟨G1, ρ, k.mono g1, up_brw f1⟩
    | false => exact iteF ⟨G1, ρ, k.mono g1, up_brw f1⟩

/-! ### places and slices -/
theorem snd_idx {a i : E} {pa pi : Expr} {pos : Pos} (K : XC Y M C W X sc) (hp : plainP pi = true) (ha : PE X pa (tB Y C W a)) (hi : PE X pi (tE Y C W i)) : PE X (.Subscript pa pi pos) (tE Y C W (.idx a i)) :=
  (pe_ix ix_seq ha hi (ix_plain hp)).imp fun σ H Q h => by
    obtain ⟨G, ρ, k, f⟩ := h
    simp only [ev] at f
    refine ⟨G, ρ, k, f.bind.imp fun d G1 H1 _ ⟨g1, f1⟩ v rv => ⟨G1, ρ, k.mono g1, f1.bind.imp fun d2 G2 H2 _ ⟨g2, f2⟩ v2 rv2 => ?_⟩⟩
    have rv := rv.mono g2
    have hk := K.ok.k
    have at_ : ∀ {ds : List D} {vs : List V} {j : Int}, RpA Y G2 vs ds → Fin Y W σ G2 H2 (atL ds j) (wV Y Q) → ∃ u, atI vs j = some u ∧ Q u H2 := fun {ds vs j} r f3 => by
      cases e : atL ds j with
      | ok d3 =>
        rw [e] at f3
        obtain ⟨u, hu, ru⟩ := atL_ok e r
        exact ⟨u, hu, f3 G2 H2 (.refl g2.gh) u ru⟩
      | exc n m =>
        have := atL_quiet ds j
        rw [e] at this
        cases this
      | bad => rw [e] at f3; exact False.elim f3
    cases d2 with
    | int j =>
      cases rv2
      cases d with
      | tup ds =>
        obtain ⟨p, vs, rfl, q, r⟩ := rv.tup
        obtain ⟨u, hu, hq⟩ := at_ r f2
        exact .inr (.inl ⟨p, vs, j, u, rfl, rfl, by rw [hk]; exact sqT_mono g2.gh q, hu, hq⟩)
      | lst ds =>
        obtain ⟨p, vs, rfl, q, r⟩ := rv.lst g2.gh
        obtain ⟨u, hu, hq⟩ := at_ r f2
        exact .inl ⟨p, vs, j, u, rfl, rfl, SqL.of q, hu, hq⟩
      | fz ds =>
        obtain ⟨p, vs, rfl, q, r⟩ := rv.fz
        obtain ⟨u, hu, hq⟩ := at_ r f2
        exact .inl ⟨p, vs, j, u, rfl, rfl, by rw [hk]; exact Same.seq g2.gh q, hu, hq⟩
      | _ => exact False.elim f2
    | _ => cases d <;> exact False.elim f2
def tP (Y : Wh) (C : Cal) (W : WX) (e : E) : TO := fun σ H Q => ∃ G ρ, EOk Y G H σ ρ ∧ Fin Y W σ G H (optI e (ev C ρ e)) (fun o _ H' => Q o H')
theorem PO.imp {o : Option Expr} {t t' : TO} (h : PO X o t) (i : ∀ σ H Q, t' σ H Q → t σ H Q) : PO X o t' := ⟨fun pins s σ H Q I q => h.run pins s σ H Q I (i σ H Q q)⟩
theorem po_part {e : E} {o : Option Expr} (hc : chkO M X.N sc e o = true) (h : ∀ p, o = some p → PE X p (tE Y C W e)) : PO X o (tP Y C W e) := by
  cases o with
  | none =>
    have he : e = .noE := by
      cases e <;> first | rfl | cases hc
    subst he
    exact PO.imp po_none fun σ H Q ⟨G, ρ, k, f⟩ => f G H (.refl k.gh)
  | some p =>
    have hn : e ≠ .noE := fun z => by
      subst z
      cases hc
    refine PO.imp (po_some (h p rfl)) fun σ H Q ⟨G, ρ, k, f⟩ => ⟨G, ρ, k, ?_⟩
    have e0 : optI e (ev C ρ e) = (ev C ρ e).bind fun d => match d with
      | .int i => .ok (some i)
      | _ => .bad := by
      cases e <;> first | rfl | exact absurd rfl hn
    rw [e0] at f
    refine f.bind.imp fun d G1 H1 _ ⟨g1, f1⟩ v rv => ?_
    cases d with
    | int i =>
      cases rv
      exact ⟨i, rfl, f1 G1 H1 (.refl g1.gh)⟩
    | _ => exact False.elim f1
def rSlc (Y : Wh) : V → Option Int → Option Int → Hp → VK → Prop := fun x lo hi H Q => ∃ G d, Same G H ∧ Br Y G H x d ∧ Gv G H (slcR d lo hi) (wV Y Q)
theorem cutV_all {xs : List V} {lo hi : Option Int} (h : HT.sIx xs.length 0 lo = 0 ∧ HT.sIx xs.length xs.length hi = xs.length) : cutV xs lo hi = xs := by
  unfold cutV
  rw [h.1, h.2]
  simp
theorem sl_any (K : XOk Y X) : SlR X (rSlc Y) := by
  have hs : SlR X (fun x lo hi H Q => rSlL X.K x lo hi H Q ∨ rSlA X.K x lo hi H Q) := SlR.or sl_list sl_tupA
  intro pins s σ H x v vl vu lo hi sl Q I rx hs' pl pu h
  obtain ⟨G, d, sm, b, g⟩ := h
  have hk := K.k
  refine hs pins s σ H x v vl vu lo hi sl Q I rx hs' pl pu ?_
  cases d with
  | tup ds =>
    obtain ⟨p, vs, rfl, q, r⟩ := b.tup
    refine .inr ⟨p, vs, rfl, by rw [hk]; exact sqT_mono sm q, fun hw => ?_, fun hw p' hp' => g.newT sm (cut_of r lo hi) hp'⟩
    have e := cutV_all hw
    have rc := cut_of r lo hi
    rw [e] at rc
    exact g.val sm (.tup q rc)
  | lst ds =>
    obtain ⟨p, vs, rfl, q, r⟩ := b.lst sm
    exact .inl ⟨p, vs, rfl, SqL.of q, fun p' hp' => g.newL sm (cut_of r lo hi) hp'⟩
  | _ => exact Gv.no g
theorem slcR_quiet (d : D) (lo hi : Option Int) : quiet (slcR d lo hi) = true := by
  cases d <;> rfl
theorem snd_slc {a lo hi : E} {pa : Expr} {pl ph : Option Expr} {pos p2 : Pos} (K : XC Y M C W X sc) (ha : PE X pa (tB Y C W a)) (hl : PO X pl (tP Y C W lo)) (hh : PO X ph (tP Y C W hi)) : PE X (.Subscript pa (.Slice pl ph none p2) pos) (tE Y C W (.slc a lo hi)) :=
  (pe_slice (sl_any K.ok) ha hl hh).imp fun σ H Q h => by
    obtain ⟨G, ρ, k, f⟩ := h
    simp only [ev] at f
    refine ⟨G, ρ, k, f.bind.imp fun d G1 H1 _ ⟨g1, f1⟩ v rv => ⟨G1, ρ, k.mono g1, f1.bind.imp fun l G2 H2 _ ⟨g2, f2⟩ => ⟨G2, ρ, (k.mono g1).mono g2, f2.bind.imp fun u G3 H3 _ ⟨g3, f3⟩ => ?_⟩⟩⟩
    exact ⟨G3, d, g3.gh, (rv.mono g2).mono g3, f3.gv (slcR_quiet _ _ _)⟩

theorem rev_of : ∀ {vs : List V} {ds : List D} {G : Hp}, RpA Y G vs ds → RpA Y G vs.reverse ds.reverse
  | _, _, _, .nil => .nil
  | _, _, _, .cons r t => by
    rw [List.reverse_cons, List.reverse_cons]
    exact (rev_of t).append (.cons r .nil)
theorem rpA_get : ∀ {vs : List V} {ds : List D} {G : Hp}, RpA Y G vs ds → ∀ (i : Nat), (vs[i]? = none ∧ ds[i]? = none) ∨ ∃ a b, vs[i]? = some a ∧ ds[i]? = some b ∧ Rp Y G a b
  | _, _, _, .nil, i => .inl ⟨rfl, rfl⟩
  | _, _, _, .cons h t, 0 => .inr ⟨_, _, rfl, rfl, h⟩
  | _, _, _, .cons h t, i + 1 => rpA_get t i
theorem rpA_pick {vs : List V} {ds : List D} {G : Hp} (h : RpA Y G vs ds) : ∀ idx : List Nat, RpA Y G (idx.filterMap (vs[·]?)) (idx.filterMap (ds[·]?))
  | [] => .nil
  | i :: idx => by
    rcases rpA_get h i with ⟨e1, e2⟩ | ⟨a, b, e1, e2, e3⟩
    · rw [List.filterMap_cons, List.filterMap_cons, e1, e2]
      exact rpA_pick h idx
    · rw [List.filterMap_cons, List.filterMap_cons, e1, e2]
      exact .cons e3 (rpA_pick h idx)
theorem stp_of {vs : List V} {ds : List D} {G : Hp} (h : RpA Y G vs ds) (k : Nat) : RpA Y G (stpL k vs) (stpL k ds) := by
  unfold stpL
  rw [h.length]
  exact rpA_pick h _
theorem stpR_quiet (k : Nat) (d : D) : quiet (stpR k d) = true := by
  cases d <;> rfl
theorem snd_stp {a : E} {pa : Expr} {m : Nat} (hm : 1 ≤ m) {k : Nat} {p1 p3 pos : Pos} (K : XC Y M C W X sc) (ha : PE X pa (tB Y C W a)) : PE X (.Subscript pa (.Slice none none (some (.Constant (.int (m : Int)) k p1)) p3) pos) (tE Y C W (.stp a m)) :=
  (pe_stp hm ha).imp fun σ H Q h => by
    obtain ⟨G, ρ, kk, f⟩ := h
    simp only [ev] at f
    have hk := K.ok.k
    refine ⟨G, ρ, kk, f.bind.imp fun d G1 H1 _ ⟨g1, f1⟩ v rv => ?_⟩
    have g := f1.gv (stpR_quiet m d)
    cases d with
    | lst ds =>
      obtain ⟨p, vs, rfl, q, r⟩ := rv.lst g1.gh
      exact ⟨p, vs, rfl, SqL.of q, fun p' hp' => g.newL g1.gh (stp_of r m) hp'⟩
    | _ => exact Gv.no g
theorem revR_quiet (d : D) : quiet (revR d) = true := by
  cases d <;> rfl
theorem snd_rev {a : E} {pa : Expr} {k : Nat} {p1 p2 p3 pos : Pos} (K : XC Y M C W X sc) (ha : PE X pa (tB Y C W a)) : PE X (.Subscript pa (.Slice none none (some (.UnaryOp .USub (.Constant (.int 1) k p1) p2)) p3) pos) (tE Y C W (.rev a)) :=
  (pe_rev2 ha).imp fun σ H Q h => by
    obtain ⟨G, ρ, kk, f⟩ := h
    simp only [ev] at f
    have hk := K.ok.k
    refine ⟨G, ρ, kk, f.bind.imp fun d G1 H1 _ ⟨g1, f1⟩ v rv => ?_⟩
    have g := f1.gv (revR_quiet d)
    cases d with
    | tup ds =>
      obtain ⟨p, vs, rfl, q, r⟩ := rv.tup
      exact .inr ⟨p, vs, rfl, by rw [hk]; exact sqT_mono g1.gh q, fun p' hp' => g.newT g1.gh (rev_of r) hp'⟩
    | lst ds =>
      obtain ⟨p, vs, rfl, q, r⟩ := rv.lst g1.gh
      exact .inl ⟨p, vs, rfl, SqL.of q, fun p' hp' => g.newL g1.gh (rev_of r) hp'⟩
    | _ => exact Gv.no g
/-! ### calls -/
theorem Fin.slots {r : R D} {σ σ' : Sl} {G H : Hp} {Q : VK} {W' : WX} (h : Fin Y W σ G H r (wV Y Q)) (hw : ∀ c d H, W c d σ H → W' c d σ' H) : Fin Y W' σ' G H r (wV Y Q) := by
  cases r with
  | ok a => exact h
  | exc k n => exact fun H' d s x => hw _ _ _ (h H' d s x)
  | bad => exact h
theorem snd_call {f : Nat} {es : List E} {x : Str} {y : Expr} {ys : List Expr} {q q2 : Pos} (K : XC Y M C W X sc) (hn : M.nm f = some x) (hg : glbB sc x = true) (ho : okN x = true) (hp : ∀ p ∈ y :: ys, plainP p = true) (h : PA X (y :: ys) (tA Y C W es)) :
    PE X (.Call (.Name x q) (y :: ys) [] q2) (tE Y C W (.call f es)) := by
  obtain ⟨fd, ps, k, F, hr, hk, hb, hm⟩ := K.fns f x hn
  refine (pe_callS F hr (glbB_ok K.sc hg) hm hk hb K.pass h (okN_ok ho).1 (star_eq (hp y List.mem_cons_self)) (star_any fun p hp' => hp p (List.mem_cons_of_mem _ hp'))).imp fun σ H Q h => ?_
  obtain ⟨G, ρ, k, f1⟩ := h
  simp only [ev] at f1
  refine ⟨G, ρ, k, f1.bind.imp fun ds G1 H1 _ ⟨g1, f2⟩ vs rvs => ⟨G1, ds, g1.gh, rvs, ?_, f2.slots fun c d H w => w⟩⟩
  by_cases hl : ds.length = Y.np f
  · exact hl
  · rw [K.ari f ds hl] at f2
    exact False.elim f2
theorem snd_callv {i : Nat} {es : List E} {x : Str} {y : Expr} {ys : List Expr} {q q2 : Pos} (K : XC Y M C W X sc) (hn : X.N[i]? = some x) (hg : visB sc x = true) (ho : okN x = true) (hp : ∀ p ∈ y :: ys, plainP p = true) (h : PA X (y :: ys) (tA Y C W es)) :
    PE X (.Call (.Name x q) (y :: ys) [] q2) (tE Y C W (.callv i es)) := by
  refine ⟨fun pins s σ H Q I h1 => ?_⟩
  obtain ⟨G, ρ, k, f1⟩ := h1
  have sl := k.sl i
  simp only [ev] at f1
  cases hs : ρ.get i with
  | un => rw [hs] at f1; exact False.elim f1
  | own ds => rw [hs] at f1; exact False.elim f1
  | fr d =>
    cases d with
    | fn f =>
      rw [hs] at f1 sl
      obtain ⟨v, hv, rv⟩ := sl
      have f1 : Fin Y W σ G H ((evs C ρ es).bind fun ds => C.call f ds) (wV Y Q) := f1
      cases rv with
      | fn _ hkn =>
        rw [K.kn f] at hkn
        obtain ⟨z, hnm⟩ := Option.isSome_iff_exists.mp hkn
        obtain ⟨fd, ps, k', F, hr, hk, hb, hm⟩ := K.fns f z hnm
        obtain ⟨h1, h2, _⟩ := okN_ok ho
        refine wpAny_Call_Name_kw (thn ((pe_var (pos := q) hn (visB_ok K.sc hg) h1 h2).run pins s σ H (fun v H1 => v = .ref (Y.fa f) ∧ H1 = H) I ⟨_, hv, rfl, rfl⟩) fun u s1 hu => ?_)
        obtain ⟨v, H1, I1, r1, ev, eH⟩ := hu
        subst ev eH
        cases r1
        have ht : tA Y C W es σ H1 fun vs H2 => spC Y C f vs H2 Q (WE W σ) := ⟨G, ρ, k, f1.bind.imp fun ds G1 H1 _ ⟨g1, f2⟩ vs rvs => ⟨G1, ds, g1.gh, rvs, by
          by_cases hl : ds.length = Y.np f
          · exact hl
          · rw [K.ari f ds hl] at f2
            exact False.elim f2, f2.slots fun c d H w => w⟩⟩
        refine PySem.W.callWith_K (h₀ := X.base) I.ok.mod.kin hk (thn (h.run q2 pins s1 σ _ _ I1 ht) fun us s2 ⟨vs, H2, I2, r, q'⟩ => ⟨I2.kIn, ?_⟩) (star_eq (hp y List.mem_cons_self)) (star_any fun p hp' => hp p (List.mem_cons_of_mem _ hp'))
        exact run_fnS F hr hb (K.pass σ) I2 r q'
    | _ => rw [hs] at f1; exact False.elim f1

/-! ### names of the module -/
theorem snd_fnv {f : Nat} {x : Str} {q : Pos} (K : XC Y M C W X sc) (hn : M.nm f = some x) (hg : glbB sc x = true) (ho : okN x = true) : PE X (.Name x q) (tE Y C W (.fnv f)) := by
  obtain ⟨fd, ps, k, F, hr, hk, hb, hm⟩ := K.fns f x hn
  refine (pe_glob (v := .ref (Y.fa f)) (glbB_ok K.sc hg) hm rfl (okN_ok ho).1).imp fun σ H Q h => ?_
  exact tE_now (d := .fn f) (v := .ref (Y.fa f)) (fun ρ => rfl) (fun G => .fn f (by rw [K.kn f, hn]; rfl)) h
theorem snd_gl {k : Nat} {x : Str} {q : Pos} (K : XC Y M C W X sc) (hn : M.cn k = some x) (hg : glbB sc x = true) (ho : okN x = true) : PE X (.Name x q) (tE Y C W (.gl k)) := by
  cases hc : C.con k with
  | none =>
    refine ⟨fun pins s σ H Q I h => ?_⟩
    obtain ⟨G, ρ, k', f⟩ := h
    simp only [ev] at f
    rw [hc] at f
    exact False.elim f
  | some d =>
    obtain ⟨u, v, hm, r, hr⟩ := K.con k x d hn hc
    refine (pe_glob (v := v) (glbB_ok K.sc hg) hm r (okN_ok ho).1).imp fun σ H Q h => ?_
    exact tE_now (d := d) (v := v) (fun ρ => by simp only [ev]; rw [hc]; rfl) hr h

/-! ### built-ins -/
theorem Fin.calm {α : Type} {σ : Sl} {G H : Hp} {r : R α} {Q : α → Hp → Hp → Prop} (h : Fin Y W σ G H r.calm Q) : Gv G H r Q := by
  cases r with
  | ok a => exact h
  | exc k n => exact False.elim h
  | bad => exact False.elim h
theorem snd_blt {b : Blt} {es : List E} {x : Str} {y : Expr} {ys : List Expr} {q q2 : Pos} (K : XC Y M C W X sc) (hc : bltC M false b x (ys.length + 1) = true) (hg : glbB sc x = true) (ho : okN x = true) (hp : ∀ p ∈ y :: ys, plainP p = true) (h : PA X (y :: ys) (tQ Y C W es)) :
    PE X (.Call (.Name x q) (y :: ys) [] q2) (tE Y C W (.blt b es)) := by
  have hi : itB b = false := by
    cases b <;> first | rfl | (cases hc; done) | (have h2 := (Bool.and_eq_true_iff.mp hc).2; cases h2)
  have step : ∀ σ H Q, tE Y C W (.blt b es) σ H Q → tCB (rBlt Y b) (tQ Y C W es) σ H Q := fun σ H Q h => by
    obtain ⟨G, ρ, k, f⟩ := h
    simp only [ev, hi, Bool.false_eq_true, if_false] at f
    exact ⟨G, ρ, k, f.bind.imp fun ds G1 H1 _ ⟨g1, f1⟩ vs rvs => ⟨G1, ds, g1.gh, rvs, f1.calm⟩⟩
  have hst := star_eq (env := X.env) (es := ys) (hp y List.mem_cons_self)
  have hpl := star_any (pos := q2) (env := X.env) fun p hp' => hp p (List.mem_cons_of_mem _ hp')
  obtain ⟨o1, _, o3⟩ := okN_ok ho
  have gen : ∀ {n : Nat}, M.free.contains x = true → bltN b = some (x, n) → PE X (.Call (.Name x q) (y :: ys) [] q2) (tE Y C W (.blt b es)) := fun {n} hf hb => by
    have hm := K.free x hf
    have hv := bltN_boot hb
    have hr := cr_blt (Y := Y) b K.ok (.inl (by rw [hb]; rfl))
    cases b <;> first
      | (cases hb; done)
      | exact (pe_callB hr (glbB_ok K.sc hg) hm hv h o3 o1 hst hpl).imp step
      | exact (pe_callTy hr (glbB_ok K.sc hg) hm hv h o3 o1 hst hpl).imp step
  cases b with
  | gcd =>
    have hc : (M.gcd && decide (x = ("gcd" : Str))) = true := hc
    rw [Bool.and_eq_true, decide_eq_true_eq] at hc
    obtain ⟨h1, rfl⟩ := hc
    exact (pe_callBfun (cr_blt (Y := Y) .gcd K.ok (.inr rfl)) (glbB_ok K.sc hg) (K.gcd h1) h o1 hst hpl).imp step
  | enum => cases hc
  | zip => cases hc
  | rng3 => cases hc
  | sorted =>
    have hc := (Bool.and_eq_true_iff.mp (show (M.free.contains x && false) = true from hc)).2
    cases hc
  | str =>
    have hc := (Bool.and_eq_true_iff.mp (show (M.free.contains x && false) = true from hc)).2
    cases hc
  | revd =>
    have hc := (Bool.and_eq_true_iff.mp (show (M.free.contains x && false) = true from hc)).2
    cases hc
  | _ =>
    obtain ⟨h1, h2⟩ := Bool.and_eq_true_iff.mp (show (M.free.contains x && (decide (x = _) && decide (ys.length + 1 = _))) = true from hc)
    obtain ⟨h3, h4⟩ := Bool.and_eq_true_iff.mp h2
    have h3 := of_decide_eq_true h3
    exact gen h1 (by rw [h3]; rfl)

/-! ### isinstance -/
theorem tys_names {ts : List Ty} (K : XC Y M C W X sc) (hf : tysFree M sc ts = true) : ∀ {ps : List Expr}, allTy ts ps = true → PA X ps (fun σ H Q => Q (ts.map fun t => V.ty (tyN t)) H) := by
  induction ts with
  | nil =>
    intro ps h
    cases ps with
    | nil => exact pa_nil
    | cons p ps => cases h
  | cons t ts ih =>
    intro ps h
    cases ps with
    | nil => cases h
    | cons p ps =>
      obtain ⟨h1, h2⟩ := Bool.and_eq_true_iff.mp (show (oneTy t p && allTy ts ps) = true from h)
      obtain ⟨h3, h4⟩ := Bool.and_eq_true_iff.mp (show ((glbB sc (tyS t) && M.free.contains (tyS t)) && tysFree M sc ts) = true from hf)
      obtain ⟨h5, h6⟩ := Bool.and_eq_true_iff.mp h3
      cases p <;> first
        | (cases h1; done)
        | skip
      rename_i x pos
      have e := of_decide_eq_true (show decide (x = tyS t) = true from h1)
      subst e
      have hd : (tyS t == ("__debug__" : Str)) = false := by cases t <;> decide +kernel
      have hn : tyS t ≠ "__name__" := by cases t <;> decide +kernel
      exact (pa_cons (pe_bltn (v := .ty (tyN t)) (glbB_ok K.sc h5) (K.free _ h6) (tyS_boot t) rfl hn hd) (ih h4 h2) (star_eq rfl)).imp fun σ H Q h => h
theorem clsV_all : ∀ ts : List Ty, Paired ClsV (ts.map fun t => V.ty (tyN t)) (ts.map fun t => Value.type (tyN t))
  | [] => .nil
  | t :: ts => .cons (.ty _) (clsV_all ts)
theorem snd_isi {a : E} {ts : List Ty} {pa pc : Expr} {q q2 : Pos} (K : XC Y M C W X sc) (hg : glbB sc "isinstance" = true) (hfr : M.free.contains "isinstance" = true) (hp : plainP pa = true) (hf : tysFree M sc ts = true) (hne : ts ≠ []) (hc : isiC ts pc = true)
    (ha : PE X pa (tB Y C W a)) : PE X (.Call (.Name "isinstance" q) [pa, pc] [] q2) (tE Y C W (.isi a ts)) := by
  have hk := K.ok.k
  have fin : ∀ {σ : Sl} {G1 H1 : Hp} {d : D} {v : V} {Q : VK}, Br Y G1 H1 v d → Fin Y W σ G1 H1 ((isTs d ts).bind fun b => .ok (.bl b)) (wV Y Q) → ∃ (t : String) (b : Bool), isTs d ts = .ok b ∧ dTy d = some t ∧ PySem.W.kitAny X.K (.type t) (ts.map fun t => Value.type (tyN t)) = some b ∧ ∀ G2 H2, Gr G1 H1 G2 H2 → TyX X.K H2 v (.type t) ∧ Q (.bl b) H2 := by
    intro σ G1 H1 d v Q rv f1
    cases e : isTs d ts with
    | ok b =>
      rw [e] at f1
      obtain ⟨t, ht, hk2⟩ := isTs_ok (K := X.K) e hne
      refine ⟨t, b, rfl, ht, hk2, fun G2 H2 g2 => ⟨?_, f1 G2 H2 g2 _ (.bl b)⟩⟩
      have ty := tyX_of g2.gh ht (rv.mono g2)
      rw [← hk] at ty
      exact ty
    | exc k n =>
      have := isTs_quiet d ts
      rw [e] at this
      cases this
    | bad =>
      rw [e] at f1
      exact False.elim f1
  have hm := K.free _ hfr
  have hgl := glbB_ok K.sc hg
  cases hv : vTup pc with
  | some pcs =>
    obtain ⟨kk, pp, rfl⟩ := vTup_ok hv
    have hc : (allTy ts pcs && decide (ts.length ≤ 1000)) = true := by
      unfold isiC at hc
      rw [hv] at hc
      exact hc
    obtain ⟨hc, hl⟩ := Bool.and_eq_true_iff.mp hc
    have hl := of_decide_eq_true hl
    have hT := pe_tup (x1 := kk) (pos := pp) (tys_names K hf hc)
    refine (pe_callB call_isiT hgl hm boot_isinstance (pa_cons ha (pa_cons hT pa_nil (star_eq rfl)) (star_eq hp)) (by decide) (by decide) (star_eq hp) (star_any (by intro p hp'; rcases List.mem_singleton.mp hp' with rfl; rfl))).imp fun σ H Q h => ?_
    obtain ⟨G, ρ, k, f⟩ := h
    simp only [ev] at f
    refine ⟨G, ρ, k, f.bind.imp fun d G1 H1 _ ⟨g1, f1⟩ v rv => ?_⟩
    obtain ⟨t, b, _, _, hk2, hq⟩ := fin rv f1
    refine ⟨?_, fun p hp => ?_⟩
    · rw [List.length_map]
      have := big_line
      have : big = 1000000 := rfl
      omega
    · have g2 : Gr G1 H1 G1 (upd H1 p (.tup (ts.map fun t => V.ty (tyN t)))) := ⟨same_new hp, .refl _, g1.gh.trans (same_new hp), fun a o e => .inl e⟩
      exact ⟨v, p, _, _, _, b, rfl, upd_same, clsV_all ts, (hq _ _ g2).1, hk2, (hq _ _ g2).2⟩
  | none =>
    have hc2 : (match ts with
      | [t] => oneTy t pc
      | _ => false) = true := by
      unfold isiC at hc
      rw [hv] at hc
      exact hc
    clear hc
    cases ts with
    | nil => exact absurd rfl hne
    | cons t ts =>
      cases ts with
      | cons _ _ => cases hc2
      | nil =>
        have hc3 : oneTy t pc = true := hc2
        clear hc2
        cases pc <;> first
          | (cases hc3; done)
          | skip
        rename_i x pos
        have e := of_decide_eq_true (show decide (x = tyS t) = true from hc3)
        subst e
        obtain ⟨h3, _⟩ := Bool.and_eq_true_iff.mp (show ((glbB sc (tyS t) && M.free.contains (tyS t)) && true) = true from hf)
        obtain ⟨h5, h6⟩ := Bool.and_eq_true_iff.mp h3
        have hd : (tyS t == ("__debug__" : Str)) = false := by cases t <;> decide +kernel
        have hn : tyS t ≠ "__name__" := by cases t <;> decide +kernel
        have hT := pe_bltn (pos := pos) (v := .ty (tyN t)) (glbB_ok K.sc h5) (K.free _ h6) (tyS_boot t) rfl hn hd
        refine (pe_callB call_isi hgl hm boot_isinstance (pa_cons ha (pa_cons hT pa_nil (star_eq rfl)) (star_eq hp)) (by decide) (by decide) (star_eq hp) (star_any (by intro p hp'; rcases List.mem_singleton.mp hp' with rfl; rfl))).imp fun σ H Q h => ?_
        obtain ⟨G, ρ, k, f⟩ := h
        simp only [ev] at f
        refine ⟨G, ρ, k, f.bind.imp fun d G1 H1 _ ⟨g1, f1⟩ v rv => ?_⟩
        obtain ⟨tt, b, hb, htt, hk2, hq⟩ := fin rv f1
        have ho : PySem.W.kitOne X.K (.type tt) (.type (tyN t)) = some b := by
          simp only [isTs] at hb
          cases e : isT d t with
          | ok c =>
            rw [e] at hb
            simp only [R.bind, R.ok.injEq, Bool.or_false] at hb
            subst hb
            obtain ⟨n, hn, hk⟩ := isT_ok e
            rw [htt] at hn
            cases hn
            exact kit_ty hk
          | exc k n => rw [e] at hb; cases hb
          | bad => rw [e] at hb; cases hb
        exact ⟨v, .ty (tyN t), _, _, b, rfl, .ty _, (hq G1 H1 (.refl g1.gh)).1, ho, (hq G1 H1 (.refl g1.gh)).2⟩
end
end PF

/-! PF, part Q: enumerate over a tuple (the kit tells it of a list). -/
namespace PF
open PySem PySem.Spec PyProof.Rows L2
/-- the tuple at t with m items, each in a new pair with its number -/
def IteT (Kf : PySem.W.Frag) (t : Addr) (m : Nat) : It :=
  ⟨fun j G => ∃ (ys : List V) (y : V), ys.length = m ∧ SqT Kf G t ys ∧ ys[j]? = some y,
    fun j G u G' => ∃ N y, u = .ref N ∧ G N = none ∧ G' = upd G N (.tup [.int (j : Nat), y]) ∧ ∀ ys, SqT Kf G t ys → ys[j]? = some y,
    fun j G => m ≤ j ∧ ∃ ys : List V, ys.length = m ∧ SqT Kf G t ys⟩
theorem apart_tup {X : Cx} {pins : List (Addr × Obj)} {σ : L2.St} {H : Hp} {s : Shared} {e it t : Addr} {c : Int} {old : Value} {a : Array Value} (he : IsEnum s.heap e it c old) (ht : s.heap.IsTuple t a) : e ≠ t := fun q => by
  subst q
  obtain ⟨o, g, k, _⟩ := ht
  have := he.symm.trans g
  cases this
  simp at k
theorem apart_it {s : Shared} {it t : Addr} {j : Nat} {a : Array Value} (hi : s.heap.IsTupleIter it t j) (ht : s.heap.IsTuple t a) : t ≠ it := fun q => by
  subst q
  obtain ⟨o, g, k, _⟩ := ht
  obtain ⟨o', g', k', _⟩ := hi
  have := g'.symm.trans g
  cases this
  rw [k] at k'
  simp at k'
theorem turn_enumT {P : Program} {w : World} {Kf : PySem.W.Frag} {elts : List Expr} {kk : Nat} {tpos : Pos} (t e it : Addr) (m : Nat) :
    Turn P w Kf (.Tuple elts kk tpos) (IteT Kf t m) [e, it] e (fun j h => (∃ old, IsEnum h e it ((j : Nat) : Int) old) ∧ h.IsTupleIter it t j ∧ e ≠ it ∧ j ≤ m) where
  mem := by simp
  obj := fun j h st b hb => by
    obtain ⟨⟨old, he⟩, ⟨o, ho, hc, hd⟩, _⟩ := st
    rcases List.mem_cons.mp hb with z | z
    · subst z
      exact ⟨_, he, fun v q => nomatch q⟩
    · rw [List.mem_singleton.mp z]
      exact ⟨o, ho, fun v q => by rw [hd] at q; cases q⟩
  keep := fun j h h' st k => by
    obtain ⟨⟨old, he⟩, hi, hne, hm⟩ := st
    exact ⟨⟨old, k e (by simp) _ he⟩, hi.at fun o q => k it (by simp) o q, hne, hm⟩
  item := by
    intro X hP hw hK hc j pins s σ H E I hf st hg
    subst hP hw hK
    obtain ⟨⟨old, he⟩, hit, hne, hm⟩ := st
    obtain ⟨ys, y, hl, hq, hy⟩ := hg
    obtain ⟨its, rv, p, hz⟩ := I.tuple hq
    obtain ⟨u, hu, ru⟩ := rv.get hy
    have p : s.heap.IsTuple t its.toArray := p
    have hel : e < s.heap.objs.size := Heap.lt_size he
    have hil : it < s.heap.objs.size := by obtain ⟨_, q, _⟩ := hit; exact Heap.lt_size q
    have hjl : j < its.length := by
      have := (List.getElem?_eq_some_iff.mp hu).1
      exact this
    have jm : j < m := by rw [← hl]; exact (List.getElem?_eq_some_iff.mp hy).1
    have net : e ≠ t := apart_tup (X := X) (pins := pins) (σ := σ) (H := H) he p
    have nit : t ≠ it := apart_it hit p
    refine wpAny_pyNext_enum_itemC (Draws.tuple (A := X.A.in1) (I.ok.hd hc) it t nit its.toArray) he ⟨hit, p⟩ (by simpa using hjl) hne (by simp [hne, net]) fun x h' tk hx ho st' hT hsz hk => ?_
    have ex : x = u := by
      have hx : its.toArray[j]? = some x := hx
      rw [List.getElem?_toArray, hu] at hx
      cases hx
      rfl
    subst ex
    refine ⟨_, rfl, wpAny_letOwnedTupleGo_enum (s := { s with heap := h', toks := tk + 1 }) ho fun h'' he' sb => ?_⟩
    have hT2 : h''.get? s.heap.objs.size = some { cls := .type "tuple", data := .seq #[.int j tk, x] } := (sb.2 _ (Nat.ne_of_gt hel)).trans hT
    have new : ObjOk X.prog X.w (upd H s.heap.objs.size (.tup [.int (j : Nat), y])) h'' s.heap.objs.size (.tup [.int (j : Nat), y]) :=
      ⟨by show 2 ≤ sizeLine; decide, [.int j tk, x], .cons ⟨_, rfl⟩ (.cons ru .nil), ⟨_, hT2, rfl, _, rfl⟩⟩
    have I1 : Inv X pins σ (upd H s.heap.objs.size (.tup [.int (j : Nat), y])) { s with heap := h'', toks := tk + 1 } :=
      I.turnedNew (ch := [e, it]) (fun b ob hb q => (sb.2 b (fun z => hb (by simp [z]))).trans (hk b ob (fun z => hb (by simp [z])) (fun z => hb (by simp [z])) q)) hf (Nat.le_refl _) new
    refine ⟨.ref s.heap.objs.size, _, I1, rfl, ⟨_, y, rfl, I.hok.fresh (Nat.le_refl _), rfl, fun zs hz => by rw [I.tuple_inj hz hq]; exact hy⟩, ⟨⟨x, ?_⟩, st'.1.at fun o q => (sb.2 it (Ne.symm hne)).trans q, hne, jm⟩, fun b hb => ?_⟩
    · rw [show ((j + 1 : Nat) : Int) = (j : Int) + 1 by omega]
      exact he'
    · have hlt : b < s.heap.objs.size := by
        rcases List.mem_cons.mp hb with z | z
        · rw [z]; exact hel
        · rw [List.mem_singleton.mp z]; exact hil
      rw [upd_ne (Nat.ne_of_lt hlt)]
      exact (hf b hb).1
  done := by
    intro X hP hw hK hc j pins s σ H E I hf st hg
    subst hP hw hK
    obtain ⟨⟨old, he⟩, hit, hne, hm⟩ := st
    obtain ⟨mj, ys, hl, hq⟩ := hg
    obtain ⟨its, rv, p, hz⟩ := I.tuple hq
    have p : s.heap.IsTuple t its.toArray := p
    obtain ⟨f0, f1, f2, f3, f4, f5⟩ := hf it (by simp)
    have ln := rv.length
    have jn : j = its.toArray.size := by simp; omega
    have nit : t ≠ it := apart_it hit p
    have hit2 : s.heap.IsTupleIter it t its.toArray.size := jn ▸ hit
    exact wpAny_pyNext_enum_endD (Draws.tuple (A := X.A.in1) (I.ok.hd hc) it t nit its.toArray) he ⟨hit2, p⟩ fun h' eb => ⟨rfl, I.turned (t' := s.toks) (fun b o hb q => eb b o hb q) f0 f1 f3 f4 f5⟩
  self := fun A j s Q E st h => by
    obtain ⟨⟨old, he⟩, _⟩ := st
    exact wpAny_pyIter_enum he h
abbrev tupIt (t : Addr) : Obj := { cls := .type "tuple_iterator", data := .fields #[.ref t, .int 0 0] }
abbrev enuOb (n : Addr) : Obj := { cls := .type "enumerate", data := .fields #[.none, .bool false, .ref n, rawInt 0, .none, .none] }
theorem new_enumT {v : Value} {ob : Obj} {P : Heap → Prop} (B : Begins v ob P) :
    Meets (Builtin.«enumerate.__new__» ⟨[.type "enumerate", v], []⟩) (fun _ R z => P z.heap ∧
      R (.ok (.ret (.ref (z.heap.push ob).objs.size))) { z with heap := (z.heap.push ob).push (enuOb z.heap.objs.size) }) :=
  .of_wp fun prog w A R z y => by
    obtain ⟨hp, g, d, tk, os⟩ := z
    obtain ⟨y1, y⟩ := y
    have hsub := sub_enumerate
    have q1 : ∀ {A' : Around} {E Q : Value → Shared → Prop}, Q (.ref hp.objs.size) ⟨hp.push ob, g, d, tk, os⟩ → wpAny (model prog w) A' (pyIter v) Q E ⟨hp, g, d, tk, os⟩ :=
      fun q => B.iter prog w _ _ ⟨hp, g, d, tk, os⟩ _ y1 q
    wp_walk using q1
    refine wpAny_stack_any fun st => wpAny_pure ?_
    split
    · rename_i c _ _ _ _ _
      cases (c == Value.type "enumerate") <;> (wp_walk using q1; exact ⟨_, rfl, y⟩)
    · wp_walk using q1; exact ⟨_, rfl, y⟩
theorem call_enumT {prog : Program} {w : World} {A : Around} {E : Value → Shared → Prop} {s : Shared} {t : Addr} {items : Array Value} {Q : Value → Shared → Prop} (hT : s.heap.IsTuple t items)
    (h : ∀ h', IsEnum h' (s.heap.objs.size + 1) s.heap.objs.size 0 .none → h'.IsTupleIter s.heap.objs.size t 0 →
      (∀ b o, s.heap.get? b = some o → h'.get? b = some o) → Q (.ref (s.heap.objs.size + 1)) { s with heap := h' }) :
    wpAny (model prog w) A (call (.type "enumerate") [.ref t]) Q E s := by
  refine callType_new F.called_enumerate (by decide) (F.typeCall_enumerate_1 _) (F.newCall_enumerate_1 _) (fun obj => F.args_object_init_2 obj _) F.entry_enumerate_new
    (new_enumT (begins_tuple t items)) ⟨hT, ?_⟩
  have sz : (s.heap.push (tupIt t)).objs.size = s.heap.objs.size + 1 := Heap.size_push ..
  show _ ∧ _
  rw [sz]
  have he : IsEnum ((s.heap.push (tupIt t)).push (enuOb s.heap.objs.size)) (s.heap.objs.size + 1) s.heap.objs.size 0 .none := by
    have := Heap.get?_push_size (s.heap.push (tupIt t)) (o := enuOb s.heap.objs.size) rfl
    rw [sz] at this
    exact this
  exact ⟨⟨_, he, rfl⟩, h _ he ⟨_, Heap.get?_push_of_some _ (Heap.get?_push_size _ rfl), rfl, rfl⟩ fun b o x => Heap.get?_push_of_some _ (Heap.get?_push_of_some _ x)⟩
def iEnumA (Kf : PySem.W.Frag) (ta : TA) : TI := fun σ H R => ta σ H fun vs H1 => ∃ (t : Addr) (ys : List V), vs = [.ref t] ∧ ((SqL Kf H1 t ys ∧ R (Ite Kf t) H1) ∨ (SqT Kf H1 t ys ∧ R (IteT Kf t ys.length) H1))
theorem two_fp {X : Cx} {pins : List (Addr × Obj)} {σ : L2.St} {H : Hp} {s : Shared} (I : Inv X pins σ H s) : ∀ b ∈ [s.heap.objs.size + 1, s.heap.objs.size], FpOk X pins H b := fun b hb => by
  have hle : s.heap.objs.size ≤ b := by
    rcases List.mem_cons.mp hb with z | z
    · omega
    · have := List.mem_singleton.mp z
      omega
  exact I.fpOk hle (I.hok.fresh hle)
theorem pi_enumA {X : Cx} {e : Expr} {ta : TA} {p pos tpos : Pos} {elts : List Expr} {kk : Nat} (hg : Gl X "enumerate") (hm : X.mg "enumerate" = none) (ha : PA X [e] ta) (hs : starEach [e] X.env = [(false, eval e X.env)]) :
    PI X (.Tuple elts kk tpos) (.Call (.Name "enumerate" p) [e] [] pos) (iEnumA X.K ta) := by
  refine ⟨fun pins s σ H R I h => ?_⟩
  refine Call_ (ld_blt I hg hm boot_enumerate (PyProof.Rows.callWith_type1 (thn (ha.run pos pins s σ H _ I h) fun us s1 ⟨vs, H1, I1, r1, t, ys, ex, q⟩ => ?_) hs rfl))
  subst ex
  cases r1 with
  | cons r rr =>
    cases rr
    cases r
    rcases q with ⟨hq, q⟩ | ⟨hq, q⟩
    · obtain ⟨its, rv, p', hz⟩ := I1.list hq
      refine call_enumerate_list p'.isList fun h' he hit hsz hk => wpAny_pyIter_enum he ?_
      exact ⟨_, [s1.heap.objs.size + 1, s1.heap.objs.size], _, _, H1, rfl, I1.kept (t' := s1.toks) hk, turn_enum t (s1.heap.objs.size + 1) s1.heap.objs.size, ⟨⟨.none, he⟩, hit, Nat.succ_ne_self _⟩, two_fp I1, q⟩
    · obtain ⟨its, rv, p', hz⟩ := I1.tuple hq
      refine call_enumT (show s1.heap.IsTuple t its.toArray from p') fun h' he hit hk => wpAny_pyIter_enum he ?_
      exact ⟨_, [s1.heap.objs.size + 1, s1.heap.objs.size], _, _, H1, rfl, I1.kept (t' := s1.toks) hk, turn_enumT t (s1.heap.objs.size + 1) s1.heap.objs.size ys.length, ⟨⟨.none, he⟩, hit, Nat.succ_ne_self _, Nat.zero_le _⟩, two_fp I1, q⟩
end PF

/-! PF, part I: what is walked; targets. -/
namespace PF
open PySem PySem.Spec PyProof.Rows L2

/-- what an iterator yields, while S holds -/
structure JOk (Y : Wh) (J : It) (ds : List D) (S : Hp → Hp → Prop) : Prop where
  go : ∀ i G H, S G H → i < ds.length → J.go i H
  stop : ∀ i G H, S G H → ds.length ≤ i → J.stop i H
  yld : ∀ i G H x H', S G H → J.yld i H x H' → ∀ d, ds[i]? = some d → ∃ G', Gr G H G' H' ∧ Rp Y G' x d
theorem JOk.sub {Y : Wh} {J : It} {ds : List D} {S S' : Hp → Hp → Prop} (h : JOk Y J ds S) (i : ∀ G H, S' G H → S G H) : JOk Y J ds S' := ⟨fun n G H s => h.go n G H (i G H s), fun n G H s => h.stop n G H (i G H s), fun n G H x H' s => h.yld n G H x H' (i G H s)⟩
/-- what stays of the heaps at the walk's start: what is frozen (fz), or all of it -/
structure Sm (fz : Bool) (G1 H1 G H : Hp) : Prop where
  gh : Same G H
  gg : Same G1 G
  hh : fz = false → Same H1 H
theorem Sm.refl {fz : Bool} {G H : Hp} (s : Same G H) : Sm fz G H G H := ⟨s, .refl _, fun _ => .refl _⟩
theorem Sm.grow {fz : Bool} {G1 H1 G H G' H' : Hp} (s : Sm fz G1 H1 G H) (g : Gr G H G' H') : Sm fz G1 H1 G' H' := ⟨g.gh, s.gg.trans g.gg, fun e => (s.hh e).trans g.hh⟩
section
variable {Y : Wh} {M : Mt} {C : Cal} {W : WX} {X : Cx} {sc : Scope}
def mE (C : Cal) (ρ : Env) (fz : Bool) (e : E) : R D := if fz = true then ev C ρ e else brw ρ e (ev C ρ e)
def tI (Y : Wh) (C : Cal) (W : WX) (fz : Bool) (e : E) : TI := fun σ H R => ∃ G ρ, EOk Y G H σ ρ ∧ Fin Y W σ G H ((mE C ρ fz e).bind itemsR) (fun ds G1 H1 => ∀ J, JOk Y J ds (Sm fz G1 H1) → R J H1)
theorem rp_at {G : Hp} {xs : List V} {ds : List D} (r : RpA Y G xs ds) {i : Nat} {d : D} (h : ds[i]? = some d) {x : V} (hx : xs[i]? = some x) : Rp Y G x d := by
  obtain ⟨v, hv, rv⟩ := r.get h
  rw [hx] at hv
  cases hv
  exact rv
theorem jok_list {S : Hp → Hp → Prop} {a : Addr} {xs : List V} {ds : List D} {G1 : Hp} (h : ∀ G H, S G H → SqL Y.K H a xs ∧ Same G1 G ∧ Same G H) (r : RpA Y G1 xs ds) : JOk Y (Itl Y.K a) ds S where
  go := fun i G H s hi => by
    have hi : i < xs.length := by rw [r.length]; exact hi
    exact ⟨xs, xs[i], (h G H s).1, List.getElem?_eq_getElem hi⟩
  stop := fun i G H s hi => ⟨xs, (h G H s).1, by rw [r.length]; exact hi⟩
  yld := fun i G H x H' s y d hd => by
    obtain ⟨e, y⟩ := y
    subst e
    exact ⟨G, .refl (h G _ s).2.2, (rp_at r hd (y xs (h G _ s).1)).mono (h G _ s).2.1⟩
theorem jok_tup {S : Hp → Hp → Prop} {a : Addr} {xs : List V} {ds : List D} {G1 : Hp} (h : ∀ G H, S G H → SqT Y.K H a xs ∧ Same G1 G ∧ Same G H) (r : RpA Y G1 xs ds) : JOk Y (Itt Y.K a) ds S where
  go := fun i G H s hi => by
    have hi : i < xs.length := by rw [r.length]; exact hi
    exact ⟨xs, xs[i], (h G H s).1, List.getElem?_eq_getElem hi⟩
  stop := fun i G H s hi => ⟨xs, (h G H s).1, by rw [r.length]; exact hi⟩
  yld := fun i G H x H' s y d hd => by
    obtain ⟨e, y⟩ := y
    subst e
    exact ⟨G, .refl (h G _ s).2.2, (rp_at r hd (y xs (h G _ s).1)).mono (h G _ s).2.1⟩
theorem upL_length (n : Nat) : ∀ lo : Int, (upL lo n).length = n := by
  induction n with
  | zero => intro lo; rfl
  | succ n ih => intro lo; simp [upL, ih]
theorem upL_get : ∀ (n i : Nat) (lo : Int) (d : D), (upL lo n)[i]? = some d → d = .int (lo + (i : Nat))
  | 0, _, _, _, h => by simp [upL] at h
  | n + 1, 0, lo, d, h => by
    simp [upL] at h
    simp [h]
  | n + 1, i + 1, lo, d, h => by
    have := upL_get n i (lo + 1) d (by simpa [upL] using h)
    rw [this]
    congr 1
    omega
theorem jok_rng {S : Hp → Hp → Prop} {lo : Int} {n : Nat} (h : ∀ G H, S G H → Same G H) : JOk Y (Itr lo n) (upL lo n) S where
  go := fun i G H s hi => by
    rw [upL_length] at hi
    exact hi
  stop := fun i G H s hi => by
    rw [upL_length] at hi
    exact hi
  yld := fun i G H x H' s y d hd => by
    obtain ⟨e, y⟩ := y
    subst e y
    rw [upL_get n i lo d hd]
    exact ⟨G, .refl (h G _ s), .int _⟩
theorem stepL_length (st : Int) (n : Nat) : ∀ lo : Int, (stepL lo st n).length = n := by
  induction n with
  | zero => intro lo; rfl
  | succ n ih => intro lo; simp [stepL, ih]
theorem stepL_get (st : Int) : ∀ (n i : Nat) (lo : Int) (d : D), (stepL lo st n)[i]? = some d → d = .int (lo + (i : Nat) * st)
  | 0, _, _, _, h => by simp [stepL] at h
  | n + 1, 0, lo, d, h => by
    simp [stepL] at h
    simp [h]
  | n + 1, i + 1, lo, d, h => by
    have := stepL_get st n i (lo + st) d (by simpa [stepL] using h)
    rw [this]
    congr 1
    push_cast
    rw [Int.add_mul]
    omega
theorem jok_step {S : Hp → Hp → Prop} {lo st : Int} {n : Nat} (h : ∀ G H, S G H → Same G H) : JOk Y (Itc lo st n) (stepL lo st n) S where
  go := fun i G H s hi => by
    rw [stepL_length] at hi
    exact hi
  stop := fun i G H s hi => by
    rw [stepL_length] at hi
    exact hi
  yld := fun i G H x H' s y d hd => by
    obtain ⟨e, y⟩ := y
    subst e y
    rw [stepL_get st n i lo d hd]
    exact ⟨G, .refl (h G _ s), .int _⟩

/-- what may be walked, at the start -/
inductive Src (Y : Wh) (G1 : Hp) (S : Hp → Hp → Prop) (H1 : Hp) (v : V) (ds : List D) : Prop
  | lst (a : Addr) (xs : List V) (e : v = .ref a) (h : ∀ G H, S G H → SqL Y.K H a xs ∧ Same G1 G ∧ Same G H) (h1 : SqL Y.K H1 a xs) (r : RpA Y G1 xs ds)
  | tup (a : Addr) (xs : List V) (e : v = .ref a) (h : ∀ G H, S G H → SqT Y.K H a xs ∧ Same G1 G ∧ Same G H) (h1 : SqT Y.K H1 a xs) (r : RpA Y G1 xs ds)
  | rng (a : Addr) (lo hi : Int) (e : v = .ref a) (h1 : H1 a = some (.rng lo hi)) (b : -(2 ^ 62) ≤ lo ∧ lo < 2 ^ 62 ∧ -(2 ^ 62) ≤ hi ∧ hi < 2 ^ 62) (r : ds = upL lo (hi - lo).toNat)
theorem src_fz {fz : Bool} {G1 H1 : Hp} {v : V} {d : D} {ds : List D} (s : Same G1 H1) (r : Rp Y G1 v d) (hd : itemsR d = .ok ds) : Src Y G1 (Sm fz G1 H1) H1 v ds := by
  cases r with
  | tup q ra =>
    cases hd
    exact .tup _ _ rfl (fun G H m => ⟨sqT_mono (m.gg.trans m.gh) q, m.gg, m.gh⟩) (sqT_mono s q) ra
  | lst q ra =>
    cases hd
    exact .lst _ _ rfl (fun G H m => ⟨SqL.of ((m.gg.trans m.gh) _ _ q), m.gg, m.gh⟩) (SqL.of (s _ _ q)) ra
  | fz q ra =>
    cases hd
    exact .lst _ _ rfl (fun G H m => ⟨Same.seq (m.gg.trans m.gh) q, m.gg, m.gh⟩) (Same.seq s q) ra
  | @rng a lo hi q =>
    have hd : (if -(2 ^ 62) ≤ lo ∧ lo < 2 ^ 62 ∧ -(2 ^ 62) ≤ hi ∧ hi < 2 ^ 62 then R.ok (upL lo (hi - lo).toNat) else .bad) = .ok ds := hd
    split at hd
    · rename_i b
      cases hd
      exact .rng a lo hi rfl (s _ _ q) b rfl
    · cases hd
  | _ => cases hd
theorem src_br {G1 H1 : Hp} {v : V} {d : D} {ds : List D} (s : Same G1 H1) (r : Br Y G1 H1 v d) (hd : itemsR d = .ok ds) : Src Y G1 (Sm false G1 H1) H1 v ds := by
  rcases r with r | ⟨a, vs, ds', rfl, rfl, q, n, ra⟩
  · exact src_fz s r hd
  · cases hd
    exact .lst a vs rfl (fun G H m => ⟨SqL.of (m.hh rfl _ _ q), m.gg, m.gh⟩) (SqL.of q) ra
theorem it_src {tg : Expr} {pins : List (Addr × Obj)} {s : Shared} {σ : Sl} {G1 H1 : Hp} {S : Hp → Hp → Prop} {v : V} {u : Value} {ds : List D} {R : It → Hp → Prop} (hk : X.K = Y.K) (I : Inv X pins σ H1 s) (r : RelV v u) (h : Src Y G1 S H1 v ds) (hS : ∀ G H, S G H → Same G H) (q : ∀ J, JOk Y J ds S → R J H1) :
    wpAny (model X.prog X.w) X.A (pyIter u) (PIE X pins σ tg R) X.xe s := by
  cases h with
  | lst a xs e h h1 ra =>
    subst e
    cases r
    obtain ⟨its, rv, p, _⟩ := I.list (by rw [hk]; exact h1)
    have qq := q (Itl X.K a) (by rw [hk]; exact jok_list h ra)
    refine wpAny_pyIter_list p.isList ?_
    exact pi_one (tk := s.toks) I _ (turn_list a _) ⟨_, Heap.get?_push_size _ rfl, rfl, rfl⟩ qq
  | tup a xs e h h1 ra =>
    subst e
    cases r
    obtain ⟨its, rv, p, _⟩ := I.tuple (by rw [hk]; exact h1)
    have qq := q (Itt X.K a) (by rw [hk]; exact jok_tup h ra)
    refine wpAny_pyIter_tuple (show s.heap.IsTuple a its.toArray from p) ?_
    exact pi_one (tk := s.toks) I _ (turn_tuple a _) ⟨_, Heap.get?_push_size _ rfl, rfl, rfl⟩ qq
  | rng a lo hi e h1 b rr =>
    subst e rr
    cases r
    have qq := q (Itr lo (hi - lo).toNat) (jok_rng hS)
    obtain ⟨t, u', v', ho⟩ := (show ObjOk X.prog X.w H1 s.heap a (.rng lo hi) from I.hok a _ h1)
    refine wpAny_pyIter_range (show IsRange s.heap a lo hi 1 t u' v' from ho) (small_one b.1 b.2.1 b.2.2.1 b.2.2.2) ?_
    refine pi_one (tk := s.toks) I _ (turn_range _ lo (hi - lo).toNat) ?_ qq
    have e1 : lo + ((0 : Nat) : Int) * 1 = lo := by simp
    have e2 : (((hi - lo).toNat : Nat) : Int) - ((0 : Nat) : Int) = Builtin.Range.rangeSize lo hi 1 := by rw [rangeSize_one]; split <;> omega
    show IsRangeIter _ _ (lo + ((0 : Nat) : Int) * 1) ((((hi - lo).toNat : Nat) : Int) - ((0 : Nat) : Int)) 1
    rw [e1, e2]
    exact Heap.get?_push_size _ rfl
theorem itemsR_quiet (d : D) : quiet (itemsR d) = true := by
  cases d <;> first | rfl | exact quiet_ite rfl rfl
theorem mE_var {ρ : Env} {e : E} (h : ∀ i, e ≠ .var i) (fz : Bool) : mE C ρ fz e = ev C ρ e := by
  cases fz with
  | true => rfl
  | false =>
    cases e with
    | var i => exact absurd rfl (h i)
    | _ => rfl
theorem pi_val {tg p : Expr} {e : E} (hk : X.K = Y.K) (fz : Bool) (h : PE X p (tE Y C W e)) (h2 : fz = false → PE X p (tB Y C W e)) : PI X tg p (tI Y C W fz e) := by
  refine ⟨fun pins s σ H R I h1 => ?_⟩
  obtain ⟨G, ρ, k, f⟩ := h1
  cases fz with
  | true =>
    have f : Fin Y W σ G H ((ev C ρ e).bind itemsR) (fun ds G1 H1 => ∀ J, JOk Y J ds (Sm true G1 H1) → R J H1) := f
    refine thn (h.run pins s σ H (fun v H1 => ∃ G1 ds, Src Y G1 (Sm true G1 H1) H1 v ds ∧ ∀ J, JOk Y J ds (Sm true G1 H1) → R J H1) I ⟨G, ρ, k, f.bind.imp fun d G1 H1 _ ⟨g1, f1⟩ v rv => ?_⟩) fun v s1 ⟨x, H1, I1, r1, G1, ds, sr, q⟩ => it_src hk I1 r1 sr (fun _ _ m => m.gh) q
    cases hd : itemsR d with
    | ok ds =>
      rw [hd] at f1
      exact ⟨G1, ds, src_fz g1.gh rv hd, f1 G1 H1 (.refl g1.gh)⟩
    | exc k n =>
      have := itemsR_quiet d
      rw [hd] at this
      cases this
    | bad =>
      rw [hd] at f1
      exact False.elim f1
  | false =>
    have f : Fin Y W σ G H ((brw ρ e (ev C ρ e)).bind itemsR) (fun ds G1 H1 => ∀ J, JOk Y J ds (Sm false G1 H1) → R J H1) := f
    refine thn ((h2 rfl).run pins s σ H (fun v H1 => ∃ G1 ds, Src Y G1 (Sm false G1 H1) H1 v ds ∧ ∀ J, JOk Y J ds (Sm false G1 H1) → R J H1) I ⟨G, ρ, k, f.bind.imp fun d G1 H1 _ ⟨g1, f1⟩ v rv => ?_⟩) fun v s1 ⟨x, H1, I1, r1, G1, ds, sr, q⟩ => it_src hk I1 r1 sr (fun _ _ m => m.gh) q
    cases hd : itemsR d with
    | ok ds =>
      rw [hd] at f1
      exact ⟨G1, ds, src_br g1.gh rv hd, f1 G1 H1 (.refl g1.gh)⟩
    | exc k n =>
      have := itemsR_quiet d
      rw [hd] at this
      cases this
    | bad =>
      rw [hd] at f1
      exact False.elim f1
theorem itp_bind (r : R (List D)) (b : Blt) (hb : itB b = true) : ((r.bind fun ds => (bltR b ds).calm).bind itemsR) = r.bind fun ds => ((bltR b ds).calm).bind itemsR := by
  cases r <;> rfl
theorem pi_range3E {tg : Expr} {es : List E} {y : Expr} {ys : List Expr} {q q2 : Pos} (K : XC Y M C W X sc) (hf : M.free.contains "range" = true) (hn : ys.length + 1 = 3) (hg : glbB sc "range" = true) (hp : ∀ p ∈ y :: ys, plainP p = true) (h : PA X (y :: ys) (tA Y C W es)) (fz : Bool) :
    PI X tg (.Call (.Name "range" q) (y :: ys) [] q2) (tI Y C W fz (.blt .rng3 es)) := by
  match ys, hn with
  | [b, c], _ =>
    have base := pi_range3 (tg := tg) (p := q) (pos := q2) (glbB_ok K.sc hg) (K.free _ hf) h (star_eq (hp y List.mem_cons_self)) (star_any fun p hp' => hp p (List.mem_cons_of_mem _ hp'))
    refine ⟨fun pins s σ H R I h1 => base.run pins s σ H R I ?_⟩
    obtain ⟨G, ρ, k, f⟩ := h1
    rw [mE_var (fun i z => by cases z)] at f
    simp only [ev, itB, if_true] at f
    rw [itp_bind _ _ rfl] at f
    refine ⟨G, ρ, k, f.bind.imp fun ds G1 H1 _ ⟨g1, f1⟩ vs rvs => ?_⟩
    match ds, f1 with
    | [.int a, .int b, .int c], f1 =>
      simp only [bltR] at f1
      split at f1
      · rename_i hc
        obtain ⟨v1, r1, e, ra, rr⟩ : ∃ v1 r1, vs = v1 :: r1 ∧ Rp Y G1 v1 (.int a) ∧ RpA Y G1 r1 [.int b, .int c] := by
          cases rvs with
          | cons x y => exact ⟨_, _, rfl, x, y⟩
        subst e
        cases ra
        cases rr with
        | cons rb rr =>
          cases rb
          cases rr with
          | cons rc rr =>
            cases rc
            cases rr
            exact ⟨a, b, c, _, rfl, ⟨hc.1, hc.2.1, hc.2.2.1, (Int.toNat_of_nonneg hc.2.2.2).symm⟩, f1 G1 H1 (.refl g1.gh) _ (jok_step fun G H s => s.gh)⟩
      · exact False.elim f1
theorem enumL_length : ∀ (ds : List D) (n : Nat), (enumL n ds).length = ds.length
  | [], _ => rfl
  | _ :: ds, n => by rw [enumL, List.length_cons, List.length_cons, enumL_length ds]
theorem enumL_get : ∀ (ds : List D) (n i : Nat) (d : D), (enumL n ds)[i]? = some d → ∃ d', ds[i]? = some d' ∧ d = .tup [.int ((n + i : Nat) : Int), d']
  | [], _, _, _, h => by cases h
  | a :: ds, n, 0, d, h => by
    rw [enumL, List.getElem?_cons_zero] at h
    cases h
    exact ⟨a, rfl, rfl⟩
  | a :: ds, n, i + 1, d, h => by
    rw [enumL, List.getElem?_cons_succ] at h
    obtain ⟨d', e, r⟩ := enumL_get ds (n + 1) i d h
    refine ⟨d', by rw [List.getElem?_cons_succ]; exact e, ?_⟩
    rw [r, show n + 1 + i = n + (i + 1) by omega]
theorem pair_new {G H : Hp} {T : Addr} {i : Int} {x : V} {d : D} (s : Same G H) (h : H T = none) (r : Rp Y G x d) : ∃ G', Gr G H G' (upd H T (.tup [.int i, x])) ∧ Rp Y G' (.ref T) (.tup [.int i, d]) :=
  ⟨upd G T (.tup [.int i, x]), Gr.new s h, .tup (SqT.of upd_same) (.cons (.int _) (.cons (r.mono (same_new (s.free h))) .nil))⟩
theorem jok_enumL {S : Hp → Hp → Prop} {a : Addr} {xs : List V} {ds : List D} {G1 : Hp} (h : ∀ G H, S G H → SqL Y.K H a xs ∧ Same G1 G ∧ Same G H) (r : RpA Y G1 xs ds) : JOk Y (Ite Y.K a) (enumL 0 ds) S where
  go := fun i G H s hi => by
    have hi : i < xs.length := by rw [r.length]; rw [enumL_length] at hi; exact hi
    exact ⟨xs, xs[i], (h G H s).1, List.getElem?_eq_getElem hi⟩
  stop := fun i G H s hi => ⟨xs, (h G H s).1, by rw [r.length]; rw [enumL_length] at hi; exact hi⟩
  yld := fun i G H x H' s y d hd => by
    obtain ⟨T, z, e, f, e2, y⟩ := y
    obtain ⟨d', hd', rfl⟩ := enumL_get _ _ _ _ hd
    subst e e2
    rw [Nat.zero_add]
    exact pair_new (h G H s).2.2 f ((rp_at r hd' (y xs (h G _ s).1)).mono (h G _ s).2.1)
theorem jok_enumT {S : Hp → Hp → Prop} {a : Addr} {xs : List V} {ds : List D} {G1 : Hp} (h : ∀ G H, S G H → SqT Y.K H a xs ∧ Same G1 G ∧ Same G H) (r : RpA Y G1 xs ds) : JOk Y (IteT Y.K a xs.length) (enumL 0 ds) S where
  go := fun i G H s hi => by
    have hi : i < xs.length := by rw [r.length]; rw [enumL_length] at hi; exact hi
    exact ⟨xs, xs[i], rfl, (h G H s).1, List.getElem?_eq_getElem hi⟩
  stop := fun i G H s hi => ⟨by rw [r.length]; rw [enumL_length] at hi; exact hi, xs, rfl, (h G H s).1⟩
  yld := fun i G H x H' s y d hd => by
    obtain ⟨T, z, e, f, e2, y⟩ := y
    obtain ⟨d', hd', rfl⟩ := enumL_get _ _ _ _ hd
    subst e e2
    rw [Nat.zero_add]
    exact pair_new (h G H s).2.2 f ((rp_at r hd' (y xs (h G _ s).1)).mono (h G _ s).2.1)
theorem pi_enumE {es : List E} {y : Expr} {ys : List Expr} {q q2 tpos : Pos} {elts : List Expr} {kk : Nat} (K : XC Y M C W X sc) (hf : M.free.contains "enumerate" = true) (hn : ys.length + 1 = 1) (hg : glbB sc "enumerate" = true) (hp : ∀ p ∈ y :: ys, plainP p = true) (h : PA X (y :: ys) (tA Y C W es)) (fz : Bool) :
    PI X (.Tuple elts kk tpos) (.Call (.Name "enumerate" q) (y :: ys) [] q2) (tI Y C W fz (.blt .enum es)) := by
  match ys, hn with
  | [], _ =>
    have base := pi_enumA (p := q) (pos := q2) (tpos := tpos) (elts := elts) (kk := kk) (glbB_ok K.sc hg) (K.free _ hf) h (star_eq (hp y List.mem_cons_self))
    refine ⟨fun pins s σ H R I h1 => base.run pins s σ H R I ?_⟩
    obtain ⟨G, ρ, k, f⟩ := h1
    rw [mE_var (fun i z => by cases z)] at f
    simp only [ev, itB, if_true] at f
    rw [itp_bind _ _ rfl] at f
    refine ⟨G, ρ, k, f.bind.imp fun ds G1 H1 _ ⟨g1, f1⟩ vs rvs => ?_⟩
    match ds, f1, rvs with
    | [d], f1, .cons rv .nil =>
      cases d with
      | tup ds =>
        have f1 : Fin Y W σ G1 H1 (.ok (enumL 0 ds)) (fun ds G1 H1 => ∀ J, JOk Y J ds (Sm fz G1 H1) → R J H1) := f1
        cases rv with
        | tup sq ra =>
          refine ⟨_, _, rfl, .inr ⟨by rw [K.ok.k]; exact sqT_mono g1.gh sq, ?_⟩⟩
          rw [K.ok.k]
          exact f1 G1 H1 (.refl g1.gh) _ (jok_enumT (fun G H m => ⟨sqT_mono (m.gg.trans m.gh) sq, m.gg, m.gh⟩) ra)
      | lst ds =>
        have f1 : Fin Y W σ G1 H1 (.ok (enumL 0 ds)) (fun ds G1 H1 => ∀ J, JOk Y J ds (Sm fz G1 H1) → R J H1) := f1
        cases rv with
        | lst sq ra =>
          refine ⟨_, _, rfl, .inl ⟨by rw [K.ok.k]; exact SqL.of (g1.gh _ _ sq), ?_⟩⟩
          rw [K.ok.k]
          exact f1 G1 H1 (.refl g1.gh) _ (jok_enumL (fun G H m => ⟨SqL.of ((m.gg.trans m.gh) _ _ sq), m.gg, m.gh⟩) ra)
      | _ => exact False.elim f1
end
end PF

/-! PF, part J: targets, comprehensions. -/
namespace PF
open PySem PySem.Spec PyProof.Rows L2

theorem wipe_set {σ : Sl} {i : Nat} {o : Option V} : ∀ {ws : List Nat}, i ∈ ws → wipe (σ.set i o) ws = wipe σ ws
  | [], h => by simp at h
  | w :: ws, h => by
    unfold wipe
    by_cases hm : i ∈ ws
    · rw [wipe_set hm]
    · have e : i = w := by
        rcases List.mem_cons.mp h with h | h
        · exact h
        · exact absurd h hm
      subst e
      have go : ∀ ws : List Nat, i ∉ ws → wipe (σ.set i o) ws = (wipe σ ws).set i o := by
        intro ws
        induction ws with
        | nil => intro _; rfl
        | cons v vs ih =>
          intro hn
          unfold wipe
          rw [ih fun z => hn (List.mem_cons_of_mem _ z)]
          exact List.set_comm _ _ fun z => hn (by rw [z]; exact List.mem_cons_self)
      rw [go ws hm, List.set_set]
theorem same_upd {H1 H : Hp} {p : Addr} {o : HO} (s : Same H1 H) (h : H1 p = none) : Same H1 (upd H p o) := fun b u e => by
  rw [upd_ne (ne_of_none e h)]
  exact s b u e
theorem wipe_twice (σ : Sl) (ws : List Nat) : wipe (wipe σ ws) ws = wipe σ ws := by
  have go : ∀ us : List Nat, (∀ i ∈ us, i ∈ ws) → wipe (wipe σ us) ws = wipe σ ws := by
    intro us
    induction us with
    | nil => intro _; rfl
    | cons u us ih =>
      intro h
      show wipe ((wipe σ us).set u none) ws = _
      rw [wipe_set (h u List.mem_cons_self)]
      exact ih fun i hi => h i (List.mem_cons_of_mem _ hi)
  exact go ws fun _ h => h
structure TgC (X : Cx) (tsc : Scope) : Prop where
  loc : ∀ x, tsc.names.lookup x = some .local → X.env.scope.names.lookup x = some .local
  cell : ∀ x, tsc.names.lookup x = some .cell → X.env.scope.names.lookup x = some .cell ∧ X.fn x = true
section
variable {Y : Wh} {M : Mt} {C : Cal} {W : WX} {X : Cx} {sc tsc : Scope}
/-- lists of one's own stay where they are -/
def OwnS (σ : Sl) (ρ : Env) (σ1 : Sl) (ρ1 : Env) : Prop := ∀ j, isOwn (Env.get ρ1 j) = true → isOwn (Env.get ρ j) = true ∧ σ1[j]? = σ[j]?
theorem OwnS.set {σ : Sl} {ρ : Env} {i : Nat} {v : Option V} {d : D} : OwnS σ ρ (σ.set i v) (List.set ρ i (.fr d)) := fun j h => by
  by_cases hj : i = j
  · subst hj
    by_cases hl : i < ρ.length
    · rw [get_set_self hl] at h
      cases h
    · rw [set_out (by omega), get_out (by omega)] at h
      cases h
  · rw [get_set_ne hj] at h
    exact ⟨h, List.getElem?_set_ne hj⟩
def gT (Y : Wh) (ws : List Nat) (t : Tg) : TG := fun v σ H Q => ∃ G ρ d ρ1, EOk Y G H σ ρ ∧ Rp Y G v d ∧ asg t d ρ = .ok ρ1 ∧ ∀ σ1, (∀ G0 H0, Same G G0 → EOk Y G0 H0 σ ρ → EOk Y G0 H0 σ1 ρ1) → OwnS σ ρ σ1 ρ1 → (tgIn ws t = true → wipe σ1 ws = wipe σ ws) → Q σ1 H
def gTs (Y : Wh) (ws : List Nat) (ts : List Tg) : TGs := fun vs σ H Q => ∃ G ρ ds ρ1, EOk Y G H σ ρ ∧ RpA Y G vs ds ∧ asgs ts ds ρ = .ok ρ1 ∧ ∀ σ1, (∀ G0 H0, Same G G0 → EOk Y G0 H0 σ ρ → EOk Y G0 H0 σ1 ρ1) → OwnS σ ρ σ1 ρ1 → (tgsIn ws ts = true → wipe σ1 ws = wipe σ ws) → Q σ1 H
theorem _root_.L2.PG.imp {e : Expr} {t t' : TG} (h : PG X e t) (i : ∀ v σ H Q, t' v σ H Q → t v σ H Q) : PG X e t' := ⟨fun pins s σ H v u Q I r q => h.run pins s σ H v u Q I r (i v σ H Q q)⟩
theorem _root_.L2.PS.imp {e : Stmt} {t t' : TS} (h : PS X e t) (i : ∀ D σ H, t' D σ H → t D σ H) : PS X e t' := ⟨fun pins s σ H D I q => h.run pins s σ H D I (i D σ H q)⟩
theorem _root_.L2.PSs.imp {e : List Stmt} {t t' : TS} (h : PSs X e t) (i : ∀ D σ H, t' D σ H → t D σ H) : PSs X e t' := ⟨fun pins s σ H D I q => h.run pins s σ H D I (i D σ H q)⟩
theorem _root_.L2.PGs.imp {e : List Expr} {t t' : TGs} (h : PGs X e t) (i : ∀ v σ H Q, t' v σ H Q → t v σ H Q) : PGs X e t' := ⟨fun pins s σ H v u Q I r q => h.run pins s σ H v u Q I r (i v σ H Q q)⟩
theorem chkT_each {N : List Str} {t : Tg} {p : Expr} {ps : List Expr} {env : PySem.Env} (h : chkT N tsc t p = true) : assignEach (p :: ps) env = (false, assign p env) :: assignEach ps env := by
  cases t <;> cases p <;> first | rfl | (cases h; done)
mutual
theorem pg_tg (kk : XOk Y X) (tc : TgC X tsc) (ws : List Nat) : ∀ (t : Tg) (p : Expr), chkT X.N tsc t p = true → PG X p (gT Y ws t)
  | .nm i, p, h => by
    cases p <;> first
      | (cases h; done)
      | skip
    rename_i x pos
    obtain ⟨h1, h2⟩ := Bool.and_eq_true_iff.mp (show (decide (X.N[i]? = some x) && _) = true from h)
    have h1 := of_decide_eq_true h1
    have hh : Loc X.env.scope x ∧ (X.fn x = true ∨ X.env.scope.names.lookup x = some .local) := by
      split at h2
      · rename_i q
        exact ⟨.inl (tc.loc x q), .inr (tc.loc x q)⟩
      · rename_i q
        exact ⟨.inr (tc.cell x q).1, .inl (tc.cell x q).2⟩
      · cases h2
    refine (pg_name (pos := pos) kk.nd h1 hh.1 hh.2).imp fun v σ H Q h => ?_
    obtain ⟨G, ρ, d, ρ1, k, r, e, q⟩ := h
    cases e
    refine q _ (fun G0 H0 s k0 => k0.setFr (r.mono s)) .set fun hi => ?_
    exact wipe_set (by simpa [tgIn] using hi)
  | .tp ts, p, h => by
    cases p <;> first
      | (cases h; done)
      | skip
    rename_i es kx pos
    obtain ⟨h1, h2, h3, h4⟩ := pgs_tg kk tc ws ts es h
    refine (pg_tup (pos := pos) (k := kx) kk.calm h1 h2 h3).imp fun v σ H Q h => ?_
    obtain ⟨G, ρ, d, ρ1, k, r, e, q⟩ := h
    cases d with
    | tup ds =>
      obtain ⟨a, vs, rfl, hq, ra⟩ := (Br.of (H := H) r).tup
      have hl : ts.length = ds.length := by
        have go : ∀ {ts : List Tg} {ds : List D} {ρ ρ1 : Env}, asgs ts ds ρ = .ok ρ1 → ts.length = ds.length := by
          intro ts
          induction ts with
          | nil =>
            intro ds ρ ρ1 e
            cases ds with
            | nil => rfl
            | cons d ds => cases e
          | cons t ts ih =>
            intro ds ρ ρ1 e
            cases ds with
            | nil => cases e
            | cons d ds =>
              have e : (asg t d ρ).bind (asgs ts ds) = .ok ρ1 := e
              cases h : asg t d ρ with
              | ok r2 =>
                rw [h] at e
                simp [ih (show asgs ts ds r2 = .ok ρ1 from e)]
              | exc k n => rw [h] at e; cases e
              | bad => rw [h] at e; cases e
        exact go (show asgs ts ds ρ = .ok ρ1 from e)
      refine ⟨a, vs, rfl, by rw [kk.k]; exact sqT_mono k.gh hq, ?_, G, ρ, ds, ρ1, k, ra, e, q⟩
      rw [ra.length, ← hl, h4]
    | _ => cases e
theorem pgs_tg (kk : XOk Y X) (tc : TgC X tsc) (ws : List Nat) : ∀ (ts : List Tg) (ps : List Expr), chkTs X.N tsc ts ps = true → PGs X ps (gTs Y ws ts) ∧ (assignEach ps X.env).length = ps.length ∧ (assignEach ps X.env).findIdx? (·.1) = none ∧ ts.length = ps.length
  | [], [], _ => ⟨pgs_nil.imp (fun vs σ H Q h => by
      obtain ⟨G, ρ, ds, ρ1, k, r, e, q⟩ := h
      cases r with
      | nil =>
        cases e
        exact ⟨rfl, q σ (fun _ _ _ k0 => k0) (fun _ h => ⟨h, rfl⟩) fun _ => rfl⟩
      | cons _ _ => cases e), rfl, rfl, rfl⟩
  | [], _ :: _, h => by cases h
  | _ :: _, [], h => by cases h
  | t :: ts, p :: ps, h => by
    obtain ⟨h1, h2⟩ := Bool.and_eq_true_iff.mp (show (chkT X.N tsc t p && chkTs X.N tsc ts ps) = true from h)
    have e1 := chkT_each (ps := ps) (env := X.env) h1
    obtain ⟨g2, g3, g4, g5⟩ := pgs_tg kk tc ws ts ps h2
    refine ⟨(pgs_cons (pg_tg kk tc ws t p h1) g2 (by rw [e1]; rfl)).imp fun vs σ H Q h => ?_, by rw [e1]; simp [g3], ?_, by simp [g5]⟩
    · obtain ⟨G, ρ, ds, ρ1, k, r, e, q⟩ := h
      cases r with
      | nil => cases e
      | @cons v vs d ds rv rvs =>
        have e : (asg t d ρ).bind (asgs ts ds) = .ok ρ1 := e
        cases he : asg t d ρ with
        | ok r2 =>
          rw [he] at e
          have e : asgs ts ds r2 = .ok ρ1 := e
          refine ⟨v, vs, rfl, G, ρ, d, r2, k, rv, he, fun σ1 k1 o1 w1 => ⟨G, r2, ds, ρ1, k1 G H (.refl _) k, rvs, e, fun σ2 k2 o2 w2 => q σ2 (fun G0 H0 s0 k0 => k2 G0 H0 s0 (k1 G0 H0 s0 k0)) (fun j h => ⟨(o1 j (o2 j h).1).1, (o2 j h).2.trans (o1 j (o2 j h).1).2⟩) fun hi => ?_⟩⟩
          obtain ⟨i1, i2⟩ := Bool.and_eq_true_iff.mp (show (tgIn ws t && tgsIn ws ts) = true from hi)
          rw [w2 i2, w1 i1]
        | exc k n => rw [he] at e; cases e
        | bad => rw [he] at e; cases e
    · rw [e1, List.findIdx?_cons, g4]
      rfl
end

/-! ### the contexts of comprehensions -/
def WN : WX := fun _ _ _ _ => False
theorem relS_lookup {scope sc : Scope} {x : Str} {k : NameKind} (hk : k ≠ .free) (h : scope.names.lookup x = some k) : (relS scope sc).names.lookup x = some k := lookup_relS_keep hk h
theorem XC.blk (K : XC Y M C W X sc) (s : Shared) (H : Hp) (cc : Addr) (cl : List (Str × Addr)) (fp : List Addr) (scope : Scope) : XC Y M C WN (X.blk s H scope (compEnvC scope cl cc X.env) fp) (relS scope sc) where
  ok := ⟨K.ok.k, K.ok.calm, K.ok.nd, K.ok.un⟩
  sc := by
    show relS scope X.env.scope = _
    rw [K.sc]
  free := K.free
  gcd := K.gcd
  con := K.con
  fns := K.fns
  kn := K.kn
  ari := K.ari
  pass := fun σ pins H s e s' I c => by
    have z : False := by
      obtain ⟨_, _, _, _, _, _, _, _, _, _, _, _, z⟩ := c
      exact z
    exact z.elim
theorem tgc_blk (K : XC Y M C W X sc) (s : Shared) (H : Hp) (cc : Addr) (cl : List (Str × Addr)) (fp : List Addr) (scope : Scope) : TgC (X.blk s H scope (compEnvC scope cl cc X.env) fp) scope where
  loc := fun x h => relS_lookup (by decide) h
  cell := fun x h => ⟨relS_lookup (by decide) h, by show (scope.names.lookup x == some .cell) = true; rw [h]; decide⟩

/-! ### a turn of a comprehension -/
def tC (Y : Wh) (C : Cal) (cond : E) : TT := match cond with
  | .noE => tYes
  | c => tT Y C WN c
theorem tC_some {cond : E} (h : cond ≠ .noE) : tC Y C cond = tT Y C WN cond := by
  cases cond <;> first | rfl | exact absurd rfl h
theorem cond_turn {cond elt : E} {ρ : Env} {G H : Hp} {σ : Sl} {l : List D} {P : VK} {N : Hp → Prop} (k : EOk Y G H σ ρ) (hf : condL cond ((brw ρ cond (ev C ρ cond)).bind truth) (ev C ρ elt) = .ok l)
    (hT : l = [] → ∀ G' H', Gr G H G' H' → N H') (hE : ∀ d, l = [d] → ∀ G' H', Gr G H G' H' → ∀ y, Rp Y G' y d → P y H') :
    tC Y C cond σ H fun b H3 => if b = true then tE Y C WN elt σ H3 P else N H3 := by
  have one : ∀ {G H : Hp}, EOk Y G H σ ρ → (∀ d, l = [d] → ∀ G' H', Gr G H G' H' → ∀ y, Rp Y G' y d → P y H') → ((ev C ρ elt).bind fun x => R.ok [x]) = .ok l → tE Y C WN elt σ H P := by
    intro G H k hE h
    refine ⟨G, ρ, k, ?_⟩
    cases hx : ev C ρ elt with
    | ok d =>
      rw [hx] at h
      cases h
      exact fun G' H' g v rv => hE d rfl G' H' g v rv
    | exc n m => rw [hx] at h; cases h
    | bad => rw [hx] at h; cases h
  by_cases hc : cond = .noE
  · subst hc
    show (if true = true then tE Y C WN elt σ H P else N H)
    exact iteT (one k hE hf)
  · rw [tC_some hc]
    refine ⟨G, ρ, k, ?_⟩
    have hf : (((brw ρ cond (ev C ρ cond)).bind truth).bind fun k => if k = true then (ev C ρ elt).bind fun x => .ok [x] else .ok []) = .ok l := by
      cases cond <;> first | exact hf | exact absurd rfl hc
    cases hx : (brw ρ cond (ev C ρ cond)).bind truth with
    | ok c =>
      rw [hx] at hf
      have hf : (if c = true then (ev C ρ elt).bind fun x => R.ok [x] else .ok []) = .ok l := hf
      intro G' H' g
      cases c with
      | true =>
        show (if true = true then tE Y C WN elt σ H' P else N H')
        exact iteT (one (k.mono g) (fun d e G2 H2 g2 y ry => hE d e G2 H2 (g.trans g2) y ry) (by simpa using hf))
      | false =>
        have e : l = [] := by simpa using hf.symm
        show (if false = true then tE Y C WN elt σ H' P else N H')
        exact iteF (hT e G' H' g)
    | exc n m => rw [hx] at hf; cases hf
    | bad => rw [hx] at hf; cases hf
theorem calm_ok {α : Type} {r : R α} {a : α} (h : r.calm = .ok a) : r = .ok a := by
  cases r <;> first | exact h | cases h
theorem compL_at {f : D → R (List D)} : ∀ {ds : List D} {r : List D}, compL f ds = .ok r → ∀ {i : Nat} {d : D}, ds[i]? = some d → ∃ a x b, compL f (ds.take i) = .ok a ∧ f d = .ok x ∧ compL f (ds.drop (i + 1)) = .ok b ∧ r = a ++ (x ++ b)
  | [], r, _, i, d, e => by simp at e
  | d0 :: ds, r, h, i, d, e => by
    have h : ((f d0).bind fun x => (compL f ds).bind fun r => .ok (x ++ r)) = .ok r := h
    cases hx : f d0 with
    | ok x =>
      rw [hx] at h
      have h : ((compL f ds).bind fun r => R.ok (x ++ r)) = .ok r := h
      cases hy : compL f ds with
      | ok y =>
        rw [hy] at h
        cases h
        cases i with
        | zero =>
          simp at e
          subst e
          exact ⟨[], x, y, rfl, hx, hy, rfl⟩
        | succ i =>
          obtain ⟨a, x', b, h1, h2, h3, h4⟩ := compL_at hy (i := i) (d := d) (by simpa using e)
          refine ⟨x ++ a, x', b, ?_, h2, by simpa using h3, by rw [h4]; simp⟩
          show ((f d0).bind fun x => (compL f (ds.take i)).bind fun r => .ok (x ++ r)) = _
          rw [hx, h1]
          rfl
      | exc n m => rw [hy] at h; cases h
      | bad => rw [hy] at h; cases h
    | exc n m => rw [hx] at h; cases h
    | bad => rw [hx] at h; cases h
theorem compL_take {f : D → R (List D)} {ds : List D} {i : Nat} {d : D} {a x : List D} (h1 : compL f (ds.take i) = .ok a) (e : ds[i]? = some d) (h2 : f d = .ok x) : compL f (ds.take (i + 1)) = .ok (a ++ x) := by
  have ht : ds.take (i + 1) = ds.take i ++ [d] := by
    rw [List.take_add_one, e]
    rfl
  rw [ht]
  generalize ds.take i = l at h1
  induction l generalizing a with
  | nil =>
    cases h1
    show ((f d).bind fun x => (compL f []).bind fun r => .ok (x ++ r)) = _
    rw [h2]
    simp [R.bind, compL]
  | cons b bs ih =>
    have h1 : ((f b).bind fun x => (compL f bs).bind fun r => .ok (x ++ r)) = .ok a := h1
    show ((f b).bind fun x => (compL f (bs ++ [d])).bind fun r => .ok (x ++ r)) = _
    cases hb : f b with
    | ok y =>
      rw [hb] at h1
      have h1 : ((compL f bs).bind fun r => R.ok (y ++ r)) = .ok a := h1
      cases hc : compL f bs with
      | ok z =>
        rw [hc] at h1
        cases h1
        rw [R.bind, ih hc]
        simp [R.bind]
      | exc n m => rw [hc] at h1; cases h1
      | bad => rw [hc] at h1; cases h1
    | exc n m => rw [hb] at h1; cases h1
    | bad => rw [hb] at h1; cases h1
theorem compL_len {f : D → R (List D)} {ds : List D} {r : List D} (h : compL f ds = .ok r) {i : Nat} {a : List D} (ha : compL f (ds.take i) = .ok a) : ∃ b, r = a ++ b := by
  by_cases hi : i < ds.length
  · obtain ⟨a', x, b, h1, _, _, h4⟩ := compL_at h (List.getElem?_eq_getElem hi)
    rw [ha] at h1
    cases h1
    exact ⟨_, h4⟩
  · rw [List.take_of_length_le (by omega), h] at ha
    cases ha
    exact ⟨[], by simp⟩
theorem compL_quiet {f : D → R (List D)} (hf : ∀ d, quiet (f d) = true) : ∀ ds, quiet (compL f ds) = true
  | [] => rfl
  | d :: ds => quiet_bind (hf d) fun _ => quiet_bind (compL_quiet hf ds) fun _ => rfl
theorem quiet_calm {α : Type} (r : R α) : quiet r.calm = true := by
  cases r <;> rfl
/-- the new list, growing -/
structure Acc (Y : Wh) (G1 H1 : Hp) (D0 : Addr) (G H : Hp) (ds : List D) : Prop where
  g : Gr G1 H1 G H
  n : G D0 = none
  l : ∃ vs, H D0 = some (.lst vs) ∧ RpA Y G vs ds
theorem Acc.grow {G1 H1 G H G' H' : Hp} {D0 : Addr} {ds : List D} (a : Acc Y G1 H1 D0 G H ds) (g : Gr G H G' H') : Acc Y G1 H1 D0 G' H' ds := by
  obtain ⟨vs, h, r⟩ := a.l
  exact ⟨a.g.trans g, g.keepNone h a.n, vs, g.hh _ _ h, r.mono g.gg⟩
theorem Acc.add {G1 H1 G H : Hp} {D0 : Addr} {ds : List D} {y : V} {d : D} (a : Acc Y G1 H1 D0 G H ds) (h0 : H1 D0 = none) (r : Rp Y G y d) (hl : ds.length < big) : ∃ acc, H D0 = some (.lst acc) ∧ acc.length < sizeLine ∧ Acc Y G1 H1 D0 G (upd H D0 (.lst (acc ++ [y]))) (ds ++ [d]) := by
  obtain ⟨vs, h, rv⟩ := a.l
  refine ⟨vs, h, ?_, ⟨?_, a.g.gg, ?_, a.g.nw⟩, a.n, _, upd_same, rv.append (.cons r .nil)⟩
  · rw [rv.length]
    have := big_line
    omega
  · exact same_upd a.g.hh h0
  · exact same_upd a.g.gh a.n
/-! ### comprehensions -/
theorem ifs_ok {M : Mt} {N : List Str} {sc : Scope} {cond : E} {ifs : List Expr} (h : ifC M N sc cond ifs = true) : (ifs = [] ∧ cond = .noE) ∨ ∃ p, ifs = [p] ∧ cond ≠ .noE ∧ chkE M N false sc cond p = true := by
  match ifs, h with
  | [], h =>
    refine .inl ⟨rfl, ?_⟩
    cases cond <;> first | rfl | (cases h; done)
  | [p], h =>
    refine .inr ⟨p, rfl, ?_, h⟩
    intro z
    subst z
    cases h
  | _ :: _ :: _, h => cases h
theorem own_ws {N : List Str} : ∀ ws : List Nat, (ownOf N ws).map (·.2) = ws
  | [] => rfl
  | w :: ws => by
    show w :: (ownOf N ws).map (·.2) = _
    rw [own_ws ws]
theorem fold_it {M : Mt} {N : List Str} {sc : Scope} {w : Bool} {it : E} {pit : Expr} (h : chkE M N w sc it pit = true) (env : PySem.Env) (x : Value) : foldedSetIterable pit env x = pure x := fold_plain (chkE_plain h) env x
theorem imp_comp {t : Tg} {it cond elt : E} {ws : List Nat} (tin : tgIn ws t = true) (σ : Sl) (H : Hp) (Q : VK) (h : tO Y C W (.comp t it cond elt ws) σ H Q) : tLc (tI Y C W false it) (gT Y ws t) (tC Y C cond) (tE Y C WN elt) ws σ H Q := by
  obtain ⟨G, ρ, k, f⟩ := h
  simp only [ev] at f
  refine ⟨G, ρ, k, ?_⟩
  show Fin Y W σ G H ((brw ρ it (ev C ρ it)).bind itemsR) _
  refine f.bind.imp fun ds G1 H1 _ ⟨g1, f1⟩ J hJ D0 hD => ?_
  generalize hF : (fun d => ((asg t d (wipeE ρ ws)).bind fun ρ1 => condL cond ((brw ρ1 cond (ev C ρ1 cond)).bind truth) (ev C ρ1 elt)).calm) = F at f1
  have hq : ∀ d, quiet (F d) = true := fun d => by rw [← hF]; exact quiet_calm _
  cases hr : compL F ds with
  | exc n m =>
    have := compL_quiet hq ds
    rw [hr] at this
    cases this
  | bad => rw [hr] at f1; exact False.elim f1
  | ok r =>
    rw [hr] at f1
    have f1 : Fin Y W σ G1 H1 (if r.length ≤ big then .ok (.lst r) else .bad) (wO Y H Q) := f1
    by_cases hb : r.length ≤ big
    · rw [if_pos hb] at f1
      refine ⟨fun i m Hc => m = ds.length - i ∧ i ≤ ds.length ∧ ∃ Gc a, compL F (ds.take i) = .ok a ∧ Acc Y G1 H1 D0 Gc Hc a, ⟨_, rfl, Nat.zero_le _, G1, [], rfl, ⟨⟨same_upd (.refl _) hD, .refl _, same_upd g1.gh (g1.gh.free hD), fun b o e => .inl e⟩, g1.gh.free hD, [], upd_same, .nil⟩⟩, ?_⟩
      rintro i m Hc ⟨rfl, hi, Gc, a, ha, ac⟩
      have sm : Sm false G1 H1 Gc Hc := ⟨ac.g.gh, ac.g.gg, fun _ => ac.g.hh⟩
      by_cases hlt : i < ds.length
      · obtain ⟨a', x, b, e1, e2, e3, e4⟩ := compL_at hr (List.getElem?_eq_getElem hlt)
        rw [ha] at e1
        cases e1
        have hn := compL_take ha (List.getElem?_eq_getElem hlt) e2
        refine .inr ⟨hJ.go i Gc Hc sm hlt, fun H' => ∃ G', Acc Y G1 H1 D0 G' H' (a ++ x), fun H' ⟨G', ac'⟩ => ⟨ds.length - (i + 1), by omega, rfl, hlt, G', a ++ x, hn, ac'⟩, fun xv H' y => ?_⟩
        obtain ⟨G', g', rx⟩ := hJ.yld i Gc Hc xv H' sm y _ (List.getElem?_eq_getElem hlt)
        have ac2 := ac.grow g'
        have e2 : ((asg t ds[i] (wipeE ρ ws)).bind fun ρ1 => condL cond ((brw ρ1 cond (ev C ρ1 cond)).bind truth) (ev C ρ1 elt)).calm = .ok x := by rw [← hF] at e2; exact e2
        have e2 := calm_ok e2
        cases hg : asg t ds[i] (wipeE ρ ws) with
        | exc n m => rw [hg] at e2; cases e2
        | bad => rw [hg] at e2; cases e2
        | ok ρ1 =>
          rw [hg] at e2
          have e2 : condL cond ((brw ρ1 cond (ev C ρ1 cond)).bind truth) (ev C ρ1 elt) = .ok x := e2
          refine ⟨G', wipeE ρ ws, ds[i], ρ1, (((k.mono g1).mono ac.g).mono g').wipe ws, rx, hg, fun σ1 k1 _ w1 => ⟨?_, ?_⟩⟩
          · rw [w1 tin]
            exact wipe_twice σ ws
          · refine cond_turn (k1 G' H' (.refl _) ((((k.mono g1).mono ac.g).mono g').wipe ws)) e2 (fun ex G3 H3 g3 => ?_) fun d ex G3 H3 g3 y ry => ?_
            · subst ex
              rw [List.append_nil]
              exact ⟨G3, ac2.grow g3⟩
            · subst ex
              have hl : a.length < big := by
                rw [e4] at hb
                simp at hb
                omega
              obtain ⟨acc, h1, h2, h3⟩ := (ac2.grow g3).add hD ry hl
              exact ⟨acc, h1, h2, G3, h3⟩
      · have e : i = ds.length := by omega
        subst e
        rw [List.take_length, hr] at ha
        cases ha
        refine .inl ⟨hJ.stop _ Gc Hc sm (Nat.le_refl _), ?_⟩
        obtain ⟨vs, hv, rv⟩ := ac.l
        exact f1 Gc Hc ac.g D0 vs r rfl (g1.hh.free hD) hv ac.n rv
    · rw [if_neg hb] at f1
      exact False.elim f1
theorem snd_comp {t : Tg} {it cond elt : E} {ws : List Nat} {pe pt pit : Expr} {ifs : List Expr} {scope : Scope} {pos : Pos} (K : XC Y M C W X sc) (hc : CompC M X.N sc t it cond elt ws pe pt pit ifs scope)
    (hi : PI X pt pit (tI Y C W false it))
    (he : ∀ X', XC Y M C WN X' (relS scope sc) → X'.N = X.N → PE X' pe (tE Y C WN elt))
    (ht : ∀ X' p, ifs = [p] → XC Y M C WN X' (relS scope sc) → X'.N = X.N → PT X' p (tT Y C WN cond)) :
    PE X (.ListComp pe [⟨pt, pit, ifs, 0⟩] scope pos) (tO Y C W (.comp t it cond elt ws)) := by
  have ok : BlkOk X.N X.env.scope scope (ownOf X.N ws) := by
    rw [K.sc]
    exact blkOk_by hc.blk
  have hts : ∀ X', XC Y M C WN X' (relS scope sc) → X'.N = X.N → PTs X' ifs (tC Y C cond) := fun X' K' e' => by
    rcases ifs_ok hc.cifs with ⟨e1, e2⟩ | ⟨p, e1, e2, _⟩
    · subst e1 e2
      exact pts_nil
    · subst e1
      rw [tC_some e2]
      exact pts_one (ht X' p rfl K' e')
  have base := pe_lc (elt := pe) (tg := pt) (iter := pit) (ifs := ifs) (scope := scope) (pos := pos) K.ok.calm K.ok.nd hi ok (g := gT Y ws t) (tt := tC Y C cond) (te := tE Y C WN elt)
    (fun s H cc cl fp => pg_tg (X := X.blk s H scope (compEnvC scope cl cc X.env) fp) ⟨K.ok.k, K.ok.calm, K.ok.nd, K.ok.un⟩ (tgc_blk K s H cc cl fp scope) ws t pt hc.ctg) (fun s H cc cl fp => hts _ (K.blk s H cc cl fp scope) rfl)
    (fun s H cc cl fp => he _ (K.blk s H cc cl fp scope) rfl) (fold_it hc.cit X.env)
  rw [own_ws] at base
  exact base.imp fun σ H Q h => imp_comp hc.tin σ H Q h
theorem imp_comp2 {t t2 : Tg} {it it2 cond elt : E} {ws ws2 : List Nat} (tin : tgIn ws t = true) (tin2 : tgIn ws2 t2 = true) (σ : Sl) (H : Hp) (Q : VK) (h : tO Y C W (.comp2 t it t2 it2 cond elt ws ws2) σ H Q) : tLc2 (tI Y C W false it) (gT Y ws t) tYes (tI Y C WN true it2) (gT Y ws2 t2) (tC Y C cond) (tE Y C WN elt) ws ws2 σ H Q := by
  obtain ⟨G, ρ, k, f⟩ := h
  simp only [ev] at f
  refine ⟨G, ρ, k, ?_⟩
  show Fin Y W σ G H ((brw ρ it (ev C ρ it)).bind itemsR) _
  refine f.bind.imp fun ds G1 H1 _ ⟨g1, f1⟩ J hJ D0 hD => ?_
  generalize hF : (fun d => ((asg t d (wipeE ρ ws)).bind fun ρ1 => ((ev C ρ1 it2).bind itemsR).bind fun ds2 => compL (fun d2 => (asg t2 d2 (wipeE ρ1 ws2)).bind fun ρ2 => condL cond ((brw ρ2 cond (ev C ρ2 cond)).bind truth) (ev C ρ2 elt)) ds2).calm) = F at f1
  have hq : ∀ d, quiet (F d) = true := fun d => by rw [← hF]; exact quiet_calm _
  cases hr : compL F ds with
  | exc n m =>
    have := compL_quiet hq ds
    rw [hr] at this
    cases this
  | bad => rw [hr] at f1; exact False.elim f1
  | ok r =>
    rw [hr] at f1
    have f1 : Fin Y W σ G1 H1 (if r.length ≤ big then .ok (.lst r) else .bad) (wO Y H Q) := f1
    by_cases hb : r.length ≤ big
    · rw [if_pos hb] at f1
      refine ⟨fun i m Hc => m = ds.length - i ∧ i ≤ ds.length ∧ ∃ Gc a, compL F (ds.take i) = .ok a ∧ Acc Y G1 H1 D0 Gc Hc a, ⟨_, rfl, Nat.zero_le _, G1, [], rfl, ⟨⟨same_upd (.refl _) hD, .refl _, same_upd g1.gh (g1.gh.free hD), fun b o e => .inl e⟩, g1.gh.free hD, [], upd_same, .nil⟩⟩, ?_⟩
      rintro i m Hc ⟨rfl, hi, Gc, a, ha, ac⟩
      have sm : Sm false G1 H1 Gc Hc := ⟨ac.g.gh, ac.g.gg, fun _ => ac.g.hh⟩
      by_cases hlt : i < ds.length
      · obtain ⟨a', x, b, e1, e2, e3, e4⟩ := compL_at hr (List.getElem?_eq_getElem hlt)
        rw [ha] at e1
        cases e1
        have hn := compL_take ha (List.getElem?_eq_getElem hlt) e2
        refine .inr ⟨hJ.go i Gc Hc sm hlt, fun H' => ∃ G', Acc Y G1 H1 D0 G' H' (a ++ x), fun H' ⟨G', ac'⟩ => ⟨ds.length - (i + 1), by omega, rfl, hlt, G', a ++ x, hn, ac'⟩, fun xv H' y => ?_⟩
        obtain ⟨G', g', rx⟩ := hJ.yld i Gc Hc xv H' sm y _ (List.getElem?_eq_getElem hlt)
        have ac2 := ac.grow g'
        have e2 : ((asg t ds[i] (wipeE ρ ws)).bind fun ρ1 => ((ev C ρ1 it2).bind itemsR).bind fun ds2 => compL (fun d2 => (asg t2 d2 (wipeE ρ1 ws2)).bind fun ρ2 => condL cond ((brw ρ2 cond (ev C ρ2 cond)).bind truth) (ev C ρ2 elt)) ds2).calm = .ok x := by rw [← hF] at e2; exact e2
        have e2 := calm_ok e2
        cases hg : asg t ds[i] (wipeE ρ ws) with
        | exc n m => rw [hg] at e2; cases e2
        | bad => rw [hg] at e2; cases e2
        | ok ρ1 =>
          rw [hg] at e2
          have e2 : (((ev C ρ1 it2).bind itemsR).bind fun ds2 => compL (fun d2 => (asg t2 d2 (wipeE ρ1 ws2)).bind fun ρ2 => condL cond ((brw ρ2 cond (ev C ρ2 cond)).bind truth) (ev C ρ2 elt)) ds2) = .ok x := e2
          refine ⟨G', wipeE ρ ws, ds[i], ρ1, (((k.mono g1).mono ac.g).mono g').wipe ws, rx, hg, fun σ1 k1 _ w1 => ⟨?_, ?_⟩⟩
          · rw [w1 tin]
            exact wipe_twice σ ws
          unfold tYes
          refine iteT ⟨G', ρ1, k1 G' H' (.refl _) ((((k.mono g1).mono ac.g).mono g').wipe ws), ?_⟩
          show Fin Y WN σ1 G' H' ((ev C ρ1 it2).bind itemsR) _
          cases hs : (ev C ρ1 it2).bind itemsR with
          | exc n m => rw [hs] at e2; cases e2
          | bad => rw [hs] at e2; cases e2
          | ok ds2 =>
            rw [hs] at e2
            generalize hF2 : (fun d2 => (asg t2 d2 (wipeE ρ1 ws2)).bind fun ρ2 => condL cond ((brw ρ2 cond (ev C ρ2 cond)).bind truth) (ev C ρ2 elt)) = F2 at e2
            have e2 : compL F2 ds2 = .ok x := e2
            intro G4 H4 g4 J2 hJ2
            have ac4 := ac2.grow g4
            refine ⟨fun j m Hd => m = ds2.length - j ∧ j ≤ ds2.length ∧ ∃ Gd a2, compL F2 (ds2.take j) = .ok a2 ∧ Acc Y G1 H1 D0 Gd Hd (a ++ a2) ∧ Same G4 Gd, ⟨_, rfl, Nat.zero_le _, G4, [], rfl, by rw [List.append_nil]; exact ac4, .refl _⟩, ?_⟩
            rintro j m Hd ⟨rfl, hj, Gd, a2, ha2, ad, sd⟩
            have sm2 : Sm true G4 H4 Gd Hd := ⟨ad.g.gh, sd, fun z => by cases z⟩
            by_cases hlt2 : j < ds2.length
            · obtain ⟨a3, x2, b2, u1, u2, u3, u4⟩ := compL_at e2 (List.getElem?_eq_getElem hlt2)
              rw [ha2] at u1
              cases u1
              have hn2 := compL_take ha2 (List.getElem?_eq_getElem hlt2) u2
              refine .inr ⟨hJ2.go j Gd Hd sm2 hlt2, fun H' => ∃ G', Acc Y G1 H1 D0 G' H' (a ++ (a2 ++ x2)) ∧ Same G4 G', fun H' ⟨G', ac', sd'⟩ => ⟨ds2.length - (j + 1), by omega, rfl, hlt2, G', a2 ++ x2, hn2, ac', sd'⟩, fun xv2 H5 y2 => ?_⟩
              obtain ⟨G5, g5, rx2⟩ := hJ2.yld j Gd Hd xv2 H5 sm2 y2 _ (List.getElem?_eq_getElem hlt2)
              have ac5 := ad.grow g5
              have u2 : ((asg t2 ds2[j] (wipeE ρ1 ws2)).bind fun ρ2 => condL cond ((brw ρ2 cond (ev C ρ2 cond)).bind truth) (ev C ρ2 elt)) = .ok x2 := by rw [← hF2] at u2; exact u2
              have k5 : EOk Y G5 H5 σ1 ρ1 := k1 G5 H5 ((g4.gg.trans sd).trans g5.gg) (((k.mono g1).mono ac5.g).wipe ws)
              cases hg2 : asg t2 ds2[j] (wipeE ρ1 ws2) with
              | exc n m => rw [hg2] at u2; cases u2
              | bad => rw [hg2] at u2; cases u2
              | ok ρ2 =>
                rw [hg2] at u2
                have u2 : condL cond ((brw ρ2 cond (ev C ρ2 cond)).bind truth) (ev C ρ2 elt) = .ok x2 := u2
                refine ⟨G5, wipeE ρ1 ws2, ds2[j], ρ2, k5.wipe ws2, rx2, hg2, fun σ2 k2 _ w2 => ⟨?_, ?_⟩⟩
                · rw [w2 tin2]
                  exact wipe_twice σ1 ws2
                · refine cond_turn (k2 G5 H5 (.refl _) (k5.wipe ws2)) u2 (fun ex G3 H3 g3 => ?_) fun d ex G3 H3 g3 y ry => ?_
                  · subst ex
                    rw [List.append_nil]
                    exact ⟨G3, ac5.grow g3, (sd.trans g5.gg).trans g3.gg⟩
                  · subst ex
                    have hl : (a ++ a2).length < big := by
                      rw [e4, u4] at hb
                      simp at hb
                      simp
                      omega
                    obtain ⟨acc, h1, h2, h3⟩ := (ac5.grow g3).add hD ry hl
                    refine ⟨acc, h1, h2, G3, ?_, (sd.trans g5.gg).trans g3.gg⟩
                    rw [← List.append_assoc]
                    exact h3
            · have e : j = ds2.length := by omega
              subst e
              rw [List.take_length, e2] at ha2
              cases ha2
              exact .inl ⟨hJ2.stop _ Gd Hd sm2 (Nat.le_refl _), Gd, ad⟩
      · have e : i = ds.length := by omega
        subst e
        rw [List.take_length, hr] at ha
        cases ha
        refine .inl ⟨hJ.stop _ Gc Hc sm (Nat.le_refl _), ?_⟩
        obtain ⟨vs, hv, rv⟩ := ac.l
        exact f1 Gc Hc ac.g D0 vs r rfl (g1.hh.free hD) hv ac.n rv
    · rw [if_neg hb] at f1
      exact False.elim f1
theorem snd_comp2 {t t2 : Tg} {it it2 cond elt : E} {ws ws2 : List Nat} {pe pt pit pt2 pit2 : Expr} {ifs : List Expr} {scope : Scope} {pos : Pos} (K : XC Y M C W X sc) (hc : CompC2 M X.N sc t it t2 it2 cond elt ws ws2 pe pt pit pt2 pit2 ifs scope)
    (hi : PI X pt pit (tI Y C W false it))
    (hi2 : ∀ X', XC Y M C WN X' (relS scope sc) → X'.N = X.N → PI X' pt2 pit2 (tI Y C WN true it2))
    (he : ∀ X', XC Y M C WN X' (relS scope sc) → X'.N = X.N → PE X' pe (tE Y C WN elt))
    (ht : ∀ X' p, ifs = [p] → XC Y M C WN X' (relS scope sc) → X'.N = X.N → PT X' p (tT Y C WN cond)) :
    PE X (.ListComp pe [⟨pt, pit, [], 0⟩, ⟨pt2, pit2, ifs, 0⟩] scope pos) (tO Y C W (.comp2 t it t2 it2 cond elt ws ws2)) := by
  have ok : BlkOk X.N X.env.scope scope (ownOf X.N ws) := by
    rw [K.sc]
    exact blkOk_by hc.blk
  have hts : ∀ X', XC Y M C WN X' (relS scope sc) → X'.N = X.N → PTs X' ifs (tC Y C cond) := fun X' K' e' => by
    rcases ifs_ok hc.cifs with ⟨e1, e2⟩ | ⟨p, e1, e2, _⟩
    · subst e1 e2
      exact pts_nil
    · subst e1
      rw [tC_some e2]
      exact pts_one (ht X' p rfl K' e')
  have base := pe_lc2 (elt := pe) (tg := pt) (iter := pit) (ifs := []) (tg1 := pt2) (iter1 := pit2) (ifs1 := ifs) (scope := scope) (pos := pos) (vs1 := ws2) K.ok.calm K.ok.nd hi ok (fun i hi' => by rw [own_ws]; exact hc.sub i hi') (g := gT Y ws t) (tt := tYes) (g1 := gT Y ws2 t2) (tt1 := tC Y C cond) (te := tE Y C WN elt) (wi1 := tI Y C WN true it2)
    (fun s H cc cl fp => pg_tg (X := X.blk s H scope (compEnvC scope cl cc X.env) fp) ⟨K.ok.k, K.ok.calm, K.ok.nd, K.ok.un⟩ (tgc_blk K s H cc cl fp scope) ws t pt hc.ctg) (fun s H cc cl fp => pts_nil)
    (fun s H cc cl fp => hi2 _ (K.blk s H cc cl fp scope) rfl)
    (fun s H cc cl fp => pg_tg (X := X.blk s H scope (compEnvC scope cl cc X.env) fp) ⟨K.ok.k, K.ok.calm, K.ok.nd, K.ok.un⟩ (tgc_blk K s H cc cl fp scope) ws2 t2 pt2 hc.tg2) (fun s H cc cl fp => hts _ (K.blk s H cc cl fp scope) rfl)
    (fun s H cc cl fp => he _ (K.blk s H cc cl fp scope) rfl) (fold_it hc.cit X.env) (fold_it hc.cit2)
  rw [own_ws] at base
  exact base.imp fun σ H Q h => imp_comp2 hc.tin hc.tin2 σ H Q h
theorem set_comp {t : Tg} {it cond elt : E} {ws : List Nat} {pe pt pit : Expr} {ifs : List Expr} {scope : Scope} {pos spos py : Pos} {i : Nat} {y : Str} (K : XC Y M C W X sc) (hc : CompC M X.N sc t it cond elt ws pe pt pit ifs scope)
    (hi : PI X pt pit (tI Y C W false it))
    (he : ∀ X', XC Y M C WN X' (relS scope sc) → X'.N = X.N → PE X' pe (tE Y C WN elt))
    (ht : ∀ X' p, ifs = [p] → XC Y M C WN X' (relS scope sc) → X'.N = X.N → PT X' p (tT Y C WN cond))
    (hy : X.N[i]? = some y) (hyl : X.env.scope.names.lookup y = some .local) (hsw : swapsWith (.ListComp pe [⟨pt, pit, ifs, 0⟩] scope pos) (some (.Name y py)) spos.line X.env = pure true) :
    PS X (.Assign [.Name y py] (.ListComp pe [⟨pt, pit, ifs, 0⟩] scope pos) spos) (tAsg (tO Y C W (.comp t it cond elt ws)) (gName i)) := by
  have ok : BlkOk X.N X.env.scope scope (ownOf X.N ws) := by
    rw [K.sc]
    exact blkOk_by hc.blk
  have hts : ∀ X', XC Y M C WN X' (relS scope sc) → X'.N = X.N → PTs X' ifs (tC Y C cond) := fun X' K' e' => by
    rcases ifs_ok hc.cifs with ⟨e1, e2⟩ | ⟨p, e1, e2, _⟩
    · subst e1 e2
      exact pts_nil
    · subst e1
      rw [tC_some e2]
      exact pts_one (ht X' p rfl K' e')
  have base := ps_setLc (elt := pe) (tg := pt) (iter := pit) (ifs := ifs) (scope := scope) (pos := pos) (spos := spos) K.ok.calm K.ok.nd hy hyl hsw hi ok (g := gT Y ws t) (tt := tC Y C cond) (te := tE Y C WN elt)
    (fun s H cc cl fp => pg_tg (X := X.blk s H scope (compEnvC scope cl cc X.env) fp) ⟨K.ok.k, K.ok.calm, K.ok.nd, K.ok.un⟩ (tgc_blk K s H cc cl fp scope) ws t pt hc.ctg) (fun s H cc cl fp => hts _ (K.blk s H cc cl fp scope) rfl)
    (fun s H cc cl fp => he _ (K.blk s H cc cl fp scope) rfl) (fold_it hc.cit X.env)
  rw [own_ws] at base
  exact base.imp fun D σ H h => imp_comp hc.tin σ H _ h
theorem set_comp2 {t t2 : Tg} {it it2 cond elt : E} {ws ws2 : List Nat} {pe pt pit pt2 pit2 : Expr} {ifs : List Expr} {scope : Scope} {pos spos py : Pos} {i : Nat} {y : Str} (K : XC Y M C W X sc) (hc : CompC2 M X.N sc t it t2 it2 cond elt ws ws2 pe pt pit pt2 pit2 ifs scope)
    (hi : PI X pt pit (tI Y C W false it))
    (hi2 : ∀ X', XC Y M C WN X' (relS scope sc) → X'.N = X.N → PI X' pt2 pit2 (tI Y C WN true it2))
    (he : ∀ X', XC Y M C WN X' (relS scope sc) → X'.N = X.N → PE X' pe (tE Y C WN elt))
    (ht : ∀ X' p, ifs = [p] → XC Y M C WN X' (relS scope sc) → X'.N = X.N → PT X' p (tT Y C WN cond))
    (hy : X.N[i]? = some y) (hyl : X.env.scope.names.lookup y = some .local) (hsw : swapsWith (.ListComp pe [⟨pt, pit, [], 0⟩, ⟨pt2, pit2, ifs, 0⟩] scope pos) (some (.Name y py)) spos.line X.env = pure true) :
    PS X (.Assign [.Name y py] (.ListComp pe [⟨pt, pit, [], 0⟩, ⟨pt2, pit2, ifs, 0⟩] scope pos) spos) (tAsg (tO Y C W (.comp2 t it t2 it2 cond elt ws ws2)) (gName i)) := by
  have ok : BlkOk X.N X.env.scope scope (ownOf X.N ws) := by
    rw [K.sc]
    exact blkOk_by hc.blk
  have hts : ∀ X', XC Y M C WN X' (relS scope sc) → X'.N = X.N → PTs X' ifs (tC Y C cond) := fun X' K' e' => by
    rcases ifs_ok hc.cifs with ⟨e1, e2⟩ | ⟨p, e1, e2, _⟩
    · subst e1 e2
      exact pts_nil
    · subst e1
      rw [tC_some e2]
      exact pts_one (ht X' p rfl K' e')
  have base := ps_setLc2 (elt := pe) (tg := pt) (iter := pit) (ifs := []) (tg1 := pt2) (iter1 := pit2) (ifs1 := ifs) (scope := scope) (pos := pos) (vs1 := ws2) (spos := spos) K.ok.calm K.ok.nd hy hyl hsw hi ok (fun i hi' => by rw [own_ws]; exact hc.sub i hi') (g := gT Y ws t) (tt := tYes) (g1 := gT Y ws2 t2) (tt1 := tC Y C cond) (te := tE Y C WN elt) (wi1 := tI Y C WN true it2)
    (fun s H cc cl fp => pg_tg (X := X.blk s H scope (compEnvC scope cl cc X.env) fp) ⟨K.ok.k, K.ok.calm, K.ok.nd, K.ok.un⟩ (tgc_blk K s H cc cl fp scope) ws t pt hc.ctg) (fun s H cc cl fp => pts_nil)
    (fun s H cc cl fp => hi2 _ (K.blk s H cc cl fp scope) rfl)
    (fun s H cc cl fp => pg_tg (X := X.blk s H scope (compEnvC scope cl cc X.env) fp) ⟨K.ok.k, K.ok.calm, K.ok.nd, K.ok.un⟩ (tgc_blk K s H cc cl fp scope) ws2 t2 pt2 hc.tg2) (fun s H cc cl fp => hts _ (K.blk s H cc cl fp scope) rfl)
    (fun s H cc cl fp => he _ (K.blk s H cc cl fp scope) rfl) (fold_it hc.cit X.env) (fold_it hc.cit2)
  rw [own_ws] at base
  exact base.imp fun D σ H h => imp_comp2 hc.tin hc.tin2 σ H _ h
end
end PF

/-! PF, part K: every expression that matches does what the evaluator says. -/
namespace PF
open PySem PySem.Spec PyProof.Rows L2

def plT : Expr → Bool
  | .BoolOp _ _ _ => false
  | .UnaryOp .Not _ _ => false
  | .IfExp _ _ _ _ => false
  | .Compare _ _ _ _ => false
  | _ => true
theorem plT_true {p : Expr} {env : PySem.Env} (h : plT p = true) : ∀ whole, isTrue p env whole = (do let v ← whole; standAt p.pos; holding [v] (truthy v)) := by
  intro whole
  cases p with
  | UnaryOp o a b => cases o <;> first | rfl | cases h
  | BoolOp a b c => cases h
  | IfExp a b c d => cases h
  | Compare a b c d => cases h
  | _ => rfl
/-- whose list is new -/
def isO : E → Bool
  | .lst _ => true
  | .comp _ _ _ _ _ => true
  | .comp2 _ _ _ _ _ _ _ _ => true
  | .blt .list _ => true
  | _ => false
structure Snd (e : E) : Prop where
  pe : ∀ {Y : Wh} {M : Mt} {C : Cal} {W : WX} {X : Cx} {sc : Scope} {p : Expr}, XC Y M C W X sc → chkE M X.N false sc e p = true → PE X p (tE Y C W e)
  po : isO e = true → ∀ {Y : Wh} {M : Mt} {C : Cal} {W : WX} {X : Cx} {sc : Scope} {p : Expr}, XC Y M C W X sc → chkE M X.N false sc e p = true → PE X p (tO Y C W e)
  pt : ∀ {Y : Wh} {M : Mt} {C : Cal} {W : WX} {X : Cx} {sc : Scope} {p : Expr}, XC Y M C W X sc → chkE M X.N false sc e p = true → PT X p (tT Y C W e)
  pw : ∀ {Y : Wh} {M : Mt} {C : Cal} {W : WX} {X : Cx} {sc : Scope} {op : BoolOp} {xs : List Expr} {pos : Pos}, XC Y M C W X sc → chkE M X.N false sc e (.BoolOp op xs pos) = true → PW X (.BoolOp op xs pos) (tT Y C W e)
  pi : ∀ {Y : Wh} {M : Mt} {C : Cal} {W : WX} {X : Cx} {sc tsc : Scope} {p tg : Expr} {t : Tg} (fz : Bool), XC Y M C W X sc → chkE M X.N true sc e p = true → itOk t e = true → chkT X.N tsc t tg = true → PI X tg p (tI Y C W fz e)
structure SndA (es : List E) : Prop where
  pa : ∀ {Y : Wh} {M : Mt} {C : Cal} {W : WX} {X : Cx} {sc : Scope} {ps : List Expr}, XC Y M C W X sc → chkEs M X.N sc es ps = true → PA X ps (tA Y C W es)
  pq : ∀ {Y : Wh} {M : Mt} {C : Cal} {W : WX} {X : Cx} {sc : Scope} {ps : List Expr}, XC Y M C W X sc → chkEs M X.N sc es ps = true → PA X ps (tQ Y C W es)
theorem Snd.pb {e : E} (s : Snd e) {Y : Wh} {M : Mt} {C : Cal} {W : WX} {X : Cx} {sc : Scope} {p : Expr} (K : XC Y M C W X sc) (h : chkE M X.N false sc e p = true) : PE X p (tB Y C W e) := snd_B K h (s.pe K h)
theorem Snd.iW {e : E} (pe : ∀ {Y : Wh} {M : Mt} {C : Cal} {W : WX} {X : Cx} {sc : Scope} {p : Expr}, XC Y M C W X sc → chkE M X.N false sc e p = true → PE X p (tE Y C W e))
    (hw : ∀ M N sc p, chkE M N true sc e p = true → chkE M N false sc e p = true) {Y : Wh} {M : Mt} {C : Cal} {W : WX} {X : Cx} {sc tsc : Scope} {p tg : Expr} {t : Tg} (fz : Bool) (K : XC Y M C W X sc) (h : chkE M X.N true sc e p = true) (_ : itOk t e = true) (_ : chkT X.N tsc t tg = true) : PI X tg p (tI Y C W fz e) :=
  pi_val K.ok.k fz (pe K (hw _ _ _ _ h)) fun _ => snd_B K (hw _ _ _ _ h) (pe K (hw _ _ _ _ h))
theorem Snd.mk1 {e : E} (pe : ∀ {Y : Wh} {M : Mt} {C : Cal} {W : WX} {X : Cx} {sc : Scope} {p : Expr}, XC Y M C W X sc → chkE M X.N false sc e p = true → PE X p (tE Y C W e))
    (po : isO e = true → ∀ {Y : Wh} {M : Mt} {C : Cal} {W : WX} {X : Cx} {sc : Scope} {p : Expr}, XC Y M C W X sc → chkE M X.N false sc e p = true → PE X p (tO Y C W e))
    (pl : ∀ M N sc p, chkE M N false sc e p = true → plT p = true) (hw : ∀ M N sc p, chkE M N true sc e p = true → chkE M N false sc e p = true) : Snd e where
  pe := pe
  po := po
  pt := fun K h => sndT_plain K (snd_B K h (pe K h)) (plT_true (pl _ _ _ _ h))
  pw := fun K h => by
    have := pl _ _ _ _ h
    cases this
  pi := Snd.iW pe hw
theorem Snd.mk0 {e : E} (pe : ∀ {Y : Wh} {M : Mt} {C : Cal} {W : WX} {X : Cx} {sc : Scope} {p : Expr}, XC Y M C W X sc → chkE M X.N false sc e p = true → PE X p (tE Y C W e))
    (pl : ∀ M N sc p, chkE M N false sc e p = true → plT p = true) (hw : ∀ M N sc p, chkE M N true sc e p = true → chkE M N false sc e p = true) (ho : isO e = false) : Snd e :=
  .mk1 pe (fun z => by rw [ho] at z; cases z) pl hw
theorem Snd.mkO {e : E} (po : ∀ {Y : Wh} {M : Mt} {C : Cal} {W : WX} {X : Cx} {sc : Scope} {p : Expr}, XC Y M C W X sc → chkE M X.N false sc e p = true → PE X p (tO Y C W e))
    (pl : ∀ M N sc p, chkE M N false sc e p = true → plT p = true) (hw : ∀ M N sc p, chkE M N true sc e p = true → chkE M N false sc e p = true) : Snd e :=
  .mk1 (fun K h => (po K h).imp fun _ _ _ q => tO_of q) (fun _ => po) pl hw

theorem chk_noE {M : Mt} {N : List Str} {w : Bool} {sc : Scope} {p : Expr} (h : chkE M N w sc .noE p = true) : False := by
  have z : chkE M N w sc .noE p = false := rfl
  rw [z] at h
  cases h
theorem chk_index {M : Mt} {N : List Str} {w : Bool} {sc : Scope} {a x : E} {p : Expr} (h : chkE M N w sc (.index a x) p = true) : False := by
  have z : chkE M N w sc (.index a x) p = false := rfl
  rw [z] at h
  cases h
section
variable {Y : Wh} {M : Mt} {C : Cal} {W : WX} {X : Cx} {sc : Scope} {p : Expr}
theorem bltC_w {b : Blt} {x : Str} {n : Nat} (hi : itB b = false) (h : bltC M true b x n = true) : bltC M false b x n = true := by
  cases b <;> first | exact h | cases hi
theorem bltC_no {b : Blt} {x : Str} {n : Nat} (hi : itB b = true) (h : bltC M false b x n = true) : False := by
  cases b <;> first | (cases hi; done) | (cases h; done) | (have h2 := (Bool.and_eq_true_iff.mp h).2; cases h2)
theorem snd_bltE {b : Blt} {es : List E} (s : SndA es) (K : XC Y M C W X sc) (h : chkE M X.N false sc (.blt b es) p = true) : PE X p (tE Y C W (.blt b es)) := by
  obtain ⟨x, y, ys, q, q2, rfl, h1, h2, h3, h4⟩ := inv_blt h
  exact snd_blt K h4 h1 h2 (chkEs_plain h3) (s.pq K h3)
theorem tp_tuple {N : List Str} {t : Tg} {tsc : Scope} {tg : Expr} (h : isTp t = true) (hc : chkT N tsc t tg = true) : ∃ elts kk tpos, tg = .Tuple elts kk tpos := by
  cases t with
  | nm i => cases h
  | tp ts =>
    cases tg <;> first
      | exact ⟨_, _, _, rfl⟩
      | cases hc
theorem snd_bltI {b : Blt} {es : List E} (s : SndA es) {tsc : Scope} {tg : Expr} {t : Tg} (fz : Bool) (K : XC Y M C W X sc) (h : chkE M X.N true sc (.blt b es) p = true) (ho : itOk t (.blt b es) = true) (ht : chkT X.N tsc t tg = true) : PI X tg p (tI Y C W fz (.blt b es)) := by
  obtain ⟨x, y, ys, q, q2, rfl, h1, h2, h3, h4⟩ := inv_blt h
  cases hb : itB b with
  | false =>
    have pe := snd_blt K (bltC_w hb h4) h1 h2 (chkEs_plain h3) (s.pq K h3) (q := q) (q2 := q2)
    refine pi_val K.ok.k fz pe fun _ => ?_
    exact pe.imp fun σ H Q q => tE_of_tB (fun i z => by cases z) q
  | true =>
    cases b <;> first
      | (cases hb; done)
      | skip
    · have h4 : (true && decide (x = ("enumerate" : Str)) && M.free.contains x && decide (ys.length + 1 = 1)) = true := h4
      simp only [Bool.true_and, Bool.and_eq_true, decide_eq_true_eq] at h4
      obtain ⟨⟨rfl, hf⟩, hn⟩ := h4
      obtain ⟨elts, kk, tpos, rfl⟩ := tp_tuple ho ht
      exact pi_enumE K hf hn h1 (chkEs_plain h3) (s.pa K h3) fz
    · cases h4
    · have h4 : (true && decide (x = ("range" : Str)) && M.free.contains x && decide (ys.length + 1 = 3)) = true := h4
      simp only [Bool.true_and, Bool.and_eq_true, decide_eq_true_eq] at h4
      obtain ⟨⟨rfl, hf⟩, hn⟩ := h4
      exact pi_range3E K hf hn h1 (chkEs_plain h3) (s.pa K h3) fz
    · have h2 := (Bool.and_eq_true_iff.mp (show (M.free.contains x && _) = true from h4)).2
      cases h2
end
/-- list(x): a new one -/
def rLiO (Y : Wh) : List V → Hp → VK → Prop := fun vs H Q => ∃ G v d ds, Same G H ∧ vs = [v] ∧ Br Y G H v d ∧ (d = .tup ds ∨ d = .lst ds) ∧ ∀ l xs, H l = none → RpA Y G xs ds → Q (.ref l) (upd H l (.lst xs))
theorem cr_listO {Y : Wh} {X : Cx} (hk : X.K = Y.K) : CallR X (.type "list") (rLiO Y) := by
  intro pins s σ H vs us Q I rv h
  obtain ⟨G, v, d, ds, sm, rfl, b, hd, q⟩ := h
  rcases hd with rfl | rfl
  · obtain ⟨p, ws, rfl, e, r⟩ := b.tup
    exact call_list_of pins s σ H _ us Q I rv ⟨p, ws, rfl, .inr (by rw [hk]; exact sqT_mono sm e), fun l hl => q l ws hl r⟩
  · obtain ⟨p, ws, rfl, e, r⟩ := b.lst sm
    exact call_list_of pins s σ H _ us Q I rv ⟨p, ws, rfl, .inl (SqL.of e), fun l hl => q l ws hl r⟩
theorem snd_listO {Y : Wh} {M : Mt} {C : Cal} {W : WX} {X : Cx} {sc : Scope} {es : List E} {p : Expr} (s : SndA es) (K : XC Y M C W X sc) (h : chkE M X.N false sc (.blt .list es) p = true) : PE X p (tO Y C W (.blt .list es)) := by
  obtain ⟨x, y, ys, q, q2, rfl, h1, h2, h3, h4⟩ := inv_blt h
  obtain ⟨f1, f2⟩ := Bool.and_eq_true_iff.mp (show (M.free.contains x && (decide (x = ("list" : Str)) && decide (ys.length + 1 = 1))) = true from h4)
  obtain ⟨f3, f4⟩ := Bool.and_eq_true_iff.mp f2
  have e := of_decide_eq_true f3
  have hp := chkEs_plain h3
  refine (pe_callTy (cr_listO K.ok.k) (glbB_ok K.sc h1) (K.free x f1) (by rw [e]; decide +kernel) (s.pq K h3) (okN_ok h2).2.2 (okN_ok h2).1 (star_eq (hp y List.mem_cons_self)) (star_any fun p hp' => hp p (List.mem_cons_of_mem _ hp'))).imp fun σ H Q h => ?_
  obtain ⟨G, ρ, k, f⟩ := h
  simp only [ev, itB, Bool.false_eq_true, if_false] at f
  refine ⟨G, ρ, k, f.bind.imp fun ds G1 H1 _ ⟨g1, f1⟩ vs rvs => ?_⟩
  have main : ∀ {d : D} {xs : List D} {v : V}, Br Y G1 H1 v d → (d = .tup xs ∨ d = .lst xs) → Fin Y W σ G1 H1 ((bltR .list [d]).calm) (wO Y H Q) → rLiO Y [v] H1 Q := fun {d xs v} b hd f => by
    refine ⟨G1, v, d, xs, g1.gh, rfl, b, hd, fun l ws hl r => ?_⟩
    have f : Fin Y W σ G1 H1 (.ok (.lst xs)) (wO Y H Q) := by
      rcases hd with rfl | rfl <;> exact f
    have g2 : Gr G1 H1 G1 (upd H1 l (.lst ws)) := ⟨same_new hl, .refl _, same_upd g1.gh (g1.gh.free hl), fun a o e => .inl e⟩
    exact f _ _ g2 l ws xs rfl (g1.hh.free hl) upd_same (g1.gh.free hl) r
  cases rvs with
  | nil => exact False.elim f1
  | @cons v vs d ds b bs =>
    cases bs with
    | cons b2 bs => cases d <;> exact False.elim f1
    | nil =>
      cases d with
      | tup xs => exact main b (.inl rfl) f1
      | lst xs => exact main b (.inr rfl) f1
      | _ => exact False.elim f1
mutual
theorem snd : ∀ e : E, Snd e
  | .noE => .mk0 (fun _ h => (chk_noE h).elim) (fun _ _ _ _ h => (chk_noE h).elim) (fun _ _ _ _ h => (chk_noE h).elim) rfl
  | .rev a => .mk0 (fun K h => by
      obtain ⟨pa, k, p1, p2, p3, q, rfl, h1⟩ := inv_rev h
      exact snd_rev K ((snd a).pb K h1)) (fun _ _ _ _ h => by obtain ⟨pa, k, p1, p2, p3, q, rfl, _⟩ := inv_rev h; rfl) (fun _ _ _ _ h => h) rfl
  | .stp a m => .mk0 (fun K h => by
      obtain ⟨pa, q1, p1, p3, q, hm, rfl, h1⟩ := inv_stp h
      exact snd_stp hm K ((snd a).pb K h1)) (fun _ _ _ _ h => by obtain ⟨pa, q1, p1, p3, q, _, rfl, _⟩ := inv_stp h; rfl) (fun _ _ _ _ h => h) rfl
  | .index a x => .mk0 (fun _ h => (chk_index h).elim) (fun _ _ _ _ h => (chk_index h).elim) (fun _ _ _ _ h => (chk_index h).elim) rfl
  | .var i => .mk0 (fun K h => by
      obtain ⟨x, q, rfl, h1, h2, h3⟩ := inv_var h
      exact snd_var K h1 h2 h3) (fun _ _ _ _ h => by obtain ⟨x, q, rfl, _⟩ := inv_var h; rfl) (fun _ _ _ _ h => h) rfl
  | .int n => .mk0 (fun K h => by
      obtain ⟨j, q, rfl⟩ := inv_int h
      exact pe_int.imp fun σ H Q h => tE_now (fun _ => by simp only [ev]) (fun G => .int n) h) (fun _ _ _ _ h => by obtain ⟨j, q, rfl⟩ := inv_int h; rfl) (fun _ _ _ _ h => h) rfl
  | .bl n => .mk0 (fun K h => by
      obtain ⟨j, q, rfl⟩ := inv_bl h
      exact pe_bl.imp fun σ H Q h => tE_now (fun _ => by simp only [ev]) (fun G => .bl n) h) (fun _ _ _ _ h => by obtain ⟨j, q, rfl⟩ := inv_bl h; rfl) (fun _ _ _ _ h => h) rfl
  | .non => .mk0 (fun K h => by
      obtain ⟨j, q, rfl⟩ := inv_non h
      exact pe_non.imp fun σ H Q h => tE_now (fun _ => by simp only [ev]) (fun G => .non) h) (fun _ _ _ _ h => by obtain ⟨j, q, rfl⟩ := inv_non h; rfl) (fun _ _ _ _ h => h) rfl
  | .str n => .mk0 (fun K h => by
      obtain ⟨j, q, rfl⟩ := inv_str h
      exact pe_str.imp fun σ H Q h => tE_now (fun _ => by simp only [ev]) (fun G => .str n) h) (fun _ _ _ _ h => by obtain ⟨j, q, rfl⟩ := inv_str h; rfl) (fun _ _ _ _ h => h) rfl
  | .tup es => .mk0 (fun K h => by
      obtain ⟨ps, k, q, rfl, h1, h2⟩ := inv_tup h
      exact snd_tup h1 ((snds es).pa K h2)) (fun _ _ _ _ h => by obtain ⟨ps, k, q, rfl, _⟩ := inv_tup h; rfl) (fun _ _ _ _ h => h) rfl
  | .lst es => .mkO (fun K h => by
      obtain ⟨ps, q, rfl, h1, h2⟩ := inv_lst h
      exact snd_lst h1 ((snds es).pa K h2)) (fun _ _ _ _ h => by obtain ⟨ps, q, rfl, _⟩ := inv_lst h; rfl) (fun _ _ _ _ h => h)
  | .bin o a b => .mk0 (fun K h => by
      obtain ⟨pa, pb, q, rfl, h1, h2⟩ := inv_bin h
      exact snd_bin K ((snd a).pb K h1) ((snd b).pb K h2)) (fun _ _ _ _ h => by obtain ⟨pa, pb, q, rfl, _⟩ := inv_bin h; rfl) (fun _ _ _ _ h => h) rfl
  | .neg a => .mk0 (fun K h => by
      obtain ⟨pa, q, rfl, h1⟩ := inv_neg h
      exact snd_neg ((snd a).pe K h1)) (fun _ _ _ _ h => by obtain ⟨pa, q, rfl, _⟩ := inv_neg h; rfl) (fun _ _ _ _ h => h) rfl
  | .idx a i => .mk0 (fun K h => by
      obtain ⟨pa, pi, q, rfl, h1, h2⟩ := inv_idx h
      exact snd_idx K (chkE_plain h2) ((snd a).pb K h1) ((snd i).pe K h2)) (fun _ _ _ _ h => by obtain ⟨pa, pi, q, rfl, _⟩ := inv_idx h; rfl) (fun _ _ _ _ h => h) rfl
  | .slc a lo hi => .mk0 (fun K h => by
      obtain ⟨pa, pl, ph, q, q2, rfl, h1, h2, h3⟩ := inv_slc h
      exact snd_slc K ((snd a).pb K h1) (po_part h2 fun p e => by subst e; exact (snd lo).pe K h2) (po_part h3 fun p e => by subst e; exact (snd hi).pe K h3)) (fun _ _ _ _ h => by obtain ⟨pa, pl, ph, q, q2, rfl, _⟩ := inv_slc h; rfl) (fun _ _ _ _ h => h) rfl
  | .call f es => .mk0 (fun K h => by
      obtain ⟨x, y, ys, q, q2, rfl, h1, h2, h3, h4⟩ := inv_call h
      exact snd_call K h1 h2 h3 (chkEs_plain h4) ((snds es).pa K h4)) (fun _ _ _ _ h => by obtain ⟨x, y, ys, q, q2, rfl, _⟩ := inv_call h; rfl) (fun _ _ _ _ h => h) rfl
  | .callv i es => .mk0 (fun K h => by
      obtain ⟨x, y, ys, q, q2, rfl, h1, h2, h3, h4⟩ := inv_callv h
      exact snd_callv K h1 h2 h3 (chkEs_plain h4) ((snds es).pa K h4)) (fun _ _ _ _ h => by obtain ⟨x, y, ys, q, q2, rfl, _⟩ := inv_callv h; rfl) (fun _ _ _ _ h => h) rfl
  | .fnv f => .mk0 (fun K h => by
      obtain ⟨x, q, rfl, h1, h2, h3⟩ := inv_fnv h
      exact snd_fnv K h1 h2 h3) (fun _ _ _ _ h => by obtain ⟨x, q, rfl, _⟩ := inv_fnv h; rfl) (fun _ _ _ _ h => h) rfl
  | .gl f => .mk0 (fun K h => by
      obtain ⟨x, q, rfl, h1, h2, h3⟩ := inv_gl h
      exact snd_gl K h1 h2 h3) (fun _ _ _ _ h => by obtain ⟨x, q, rfl, _⟩ := inv_gl h; rfl) (fun _ _ _ _ h => h) rfl
  | .isi a ts => .mk0 (fun K h => by
      obtain ⟨pa, pc, q, q2, rfl, h1, h2, h3, h4, h5, h6⟩ := inv_isi h
      exact snd_isi K h1 h2 (chkE_plain h3) h4 h5 h6 ((snd a).pb K h3)) (fun _ _ _ _ h => by obtain ⟨pa, pc, q, q2, rfl, _⟩ := inv_isi h; rfl) (fun _ _ _ _ h => h) rfl
  | .blt b es => {
      pe := fun K h => snd_bltE (snds es) K h
      po := fun z => by
        cases b <;> first
          | (cases z; done)
          | exact fun K h => snd_listO (snds es) K h
      pt := fun K h => sndT_plain K (snd_B K h (snd_bltE (snds es) K h)) (plT_true (by obtain ⟨x, y, ys, q, q2, rfl, _⟩ := inv_blt h; rfl))
      pw := fun K h => by obtain ⟨x, y, ys, q, q2, z, _⟩ := inv_blt h; cases z
      pi := fun fz K h ho ht => snd_bltI (snds es) fz K h ho ht }
  | .comp t it cond elt ws => .mkO (fun K h => by
      obtain ⟨pe, pt, pit, ifs, scope, q, rfl, hc⟩ := inv_comp h
      refine snd_comp K hc ((snd it).pi false K hc.cit hc.ok hc.ctg) (fun X' K' e => (snd elt).pe K' (by rw [e]; exact hc.celt)) fun X' p ei K' e => (snd cond).pt K' ?_
      rw [e]
      subst ei
      exact hc.cifs) (fun _ _ _ _ h => by obtain ⟨pe, pt, pit, ifs, scope, q, rfl, _⟩ := inv_comp h; rfl) (fun _ _ _ _ h => h)
  | .comp2 t it t2 it2 cond elt ws ws2 => .mkO (fun K h => by
      obtain ⟨pe, pt, pit, pt2, pit2, ifs, scope, q, rfl, hc⟩ := inv_comp2 h
      refine snd_comp2 K hc ((snd it).pi false K hc.cit hc.ok hc.ctg) (fun X' K' e => (snd it2).pi true K' (by rw [e]; exact hc.cit2) hc.ok2 (by rw [e]; exact hc.tg2)) (fun X' K' e => (snd elt).pe K' (by rw [e]; exact hc.celt)) fun X' p ei K' e => (snd cond).pt K' ?_
      rw [e]
      subst ei
      exact hc.cifs) (fun _ _ _ _ h => by obtain ⟨pe, pt, pit, pt2, pit2, ifs, scope, q, rfl, _⟩ := inv_comp2 h; rfl) (fun _ _ _ _ h => h)
  | .not a =>
      have pe : ∀ {Y : Wh} {M : Mt} {C : Cal} {W : WX} {X : Cx} {sc : Scope} {p : Expr}, XC Y M C W X sc → chkE M X.N false sc (.not a) p = true → PE X p (tE Y C W (.not a)) := fun K h => by
        obtain ⟨pa, q, rfl, h1⟩ := inv_not h
        exact snd_not K ((snd a).pb K h1)
      { pe := pe
        po := fun z => by cases z
        pt := fun K h => by
          obtain ⟨pa, q, rfl, h1⟩ := inv_not h
          exact sndT_not ((snd a).pt K h1)
        pw := fun K h => by obtain ⟨pa, q, z, _⟩ := inv_not h; cases z
        pi := Snd.iW pe fun _ _ _ _ h => h }
  | .and a b =>
      have pe : ∀ {Y : Wh} {M : Mt} {C : Cal} {W : WX} {X : Cx} {sc : Scope} {p : Expr}, XC Y M C W X sc → chkE M X.N false sc (.and a b) p = true → PE X p (tE Y C W (.and a b)) := fun K h => by
        obtain ⟨pa, pb, q, h1, h2, h3⟩ := inv_and h
        rcases h3 with rfl | ⟨x, y, r, rfl, rfl⟩
        · exact snd_and K ((snd a).pe K h1) (pe_one ((snd b).pe K h2))
        · exact snd_and K ((snd a).pe K h1) ((snd b).pe K h2)
      have pw : ∀ {Y : Wh} {M : Mt} {C : Cal} {W : WX} {X : Cx} {sc : Scope} {p : Expr}, XC Y M C W X sc → chkE M X.N false sc (.and a b) p = true → PW X p (tT Y C W (.and a b)) := fun K h => by
        obtain ⟨pa, pb, q, h1, h2, h3⟩ := inv_and h
        rcases h3 with rfl | ⟨x, y, r, rfl, rfl⟩
        · exact sndT_and ((snd a).pt K h1) (pw_and1 ((snd b).pt K h2))
        · exact sndT_and ((snd a).pt K h1) ((snd b).pw K h2)
      { pe := pe
        po := fun z => by cases z
        pt := fun K h => (pw K h).pt
        pw := fun K h => pw K h
        pi := Snd.iW pe fun _ _ _ _ h => h }
  | .or a b =>
      have pe : ∀ {Y : Wh} {M : Mt} {C : Cal} {W : WX} {X : Cx} {sc : Scope} {p : Expr}, XC Y M C W X sc → chkE M X.N false sc (.or a b) p = true → PE X p (tE Y C W (.or a b)) := fun K h => by
        obtain ⟨pa, pb, q, h1, h2, h3⟩ := inv_or h
        rcases h3 with rfl | ⟨x, y, r, rfl, rfl⟩
        · exact snd_or K ((snd a).pe K h1) (pe_one ((snd b).pe K h2))
        · exact snd_or K ((snd a).pe K h1) ((snd b).pe K h2)
      have pw : ∀ {Y : Wh} {M : Mt} {C : Cal} {W : WX} {X : Cx} {sc : Scope} {p : Expr}, XC Y M C W X sc → chkE M X.N false sc (.or a b) p = true → PW X p (tT Y C W (.or a b)) := fun K h => by
        obtain ⟨pa, pb, q, h1, h2, h3⟩ := inv_or h
        rcases h3 with rfl | ⟨x, y, r, rfl, rfl⟩
        · exact sndT_or ((snd a).pt K h1) (pw_or1 ((snd b).pt K h2))
        · exact sndT_or ((snd a).pt K h1) ((snd b).pw K h2)
      { pe := pe
        po := fun z => by cases z
        pt := fun K h => (pw K h).pt
        pw := fun K h => pw K h
        pi := Snd.iW pe fun _ _ _ _ h => h }
  | .cmp o a b =>
      have pe : ∀ {Y : Wh} {M : Mt} {C : Cal} {W : WX} {X : Cx} {sc : Scope} {p : Expr}, XC Y M C W X sc → chkE M X.N false sc (.cmp o a b) p = true → PE X p (tE Y C W (.cmp o a b)) := fun K h => by
        obtain ⟨pa, pb, q, rfl, h1, h2⟩ := inv_cmp h
        exact snd_cmp K (chkE_plain h2) ((snd a).pb K h1) ((snd b).pb K h2)
      { pe := pe
        po := fun z => by cases z
        pt := fun K h => by
          obtain ⟨pa, pb, q, rfl, h1, h2⟩ := inv_cmp h
          exact sndT_cmp K (chkE_plain h2) ((snd a).pb K h1) ((snd b).pb K h2)
        pw := fun K h => by obtain ⟨pa, pb, q, z, _⟩ := inv_cmp h; cases z
        pi := Snd.iW pe fun _ _ _ _ h => h }
  | .chain o o' a b c =>
      have pe : ∀ {Y : Wh} {M : Mt} {C : Cal} {W : WX} {X : Cx} {sc : Scope} {p : Expr}, XC Y M C W X sc → chkE M X.N false sc (.chain o o' a b c) p = true → PE X p (tE Y C W (.chain o o' a b c)) := fun K h => by
        obtain ⟨pa, pb, pc, q, rfl, h1, h2, h3⟩ := inv_chain h
        exact snd_chain K (chkE_plain h3) ((snd a).pb K h1) ((snd b).pb K h2) ((snd c).pb K h3)
      { pe := pe
        po := fun z => by cases z
        pt := fun K h => by
          obtain ⟨pa, pb, pc, q, rfl, h1, h2, h3⟩ := inv_chain h
          exact sndT_chain K (chkE_plain h3) ((snd a).pb K h1) ((snd b).pb K h2) ((snd c).pb K h3)
        pw := fun K h => by obtain ⟨pa, pb, pc, q, z, _⟩ := inv_chain h; cases z
        pi := Snd.iW pe fun _ _ _ _ h => h }
  | .ifx c a b =>
      have pe : ∀ {Y : Wh} {M : Mt} {C : Cal} {W : WX} {X : Cx} {sc : Scope} {p : Expr}, XC Y M C W X sc → chkE M X.N false sc (.ifx c a b) p = true → PE X p (tE Y C W (.ifx c a b)) := fun K h => by
        obtain ⟨pc, pa, pb, q, rfl, h1, h2, h3⟩ := inv_ifx h
        exact snd_ifx ((snd c).pt K h1) ((snd a).pe K h2) ((snd b).pe K h3)
      { pe := pe
        po := fun z => by cases z
        pt := fun K h => by
          obtain ⟨pc, pa, pb, q, rfl, h1, h2, h3⟩ := inv_ifx h
          exact sndT_ifx ((snd c).pt K h1) ((snd a).pt K h2) ((snd b).pt K h3)
        pw := fun K h => by obtain ⟨pc, pa, pb, q, z, _⟩ := inv_ifx h; cases z
        pi := Snd.iW pe fun _ _ _ _ h => h }
theorem snds : ∀ es : List E, SndA es
  | [] => ⟨fun K h => by
      have e := List.isEmpty_iff.mp h
      subst e
      exact snd_Anil, fun K h => by
      have e := List.isEmpty_iff.mp h
      subst e
      exact snd_Qnil⟩
  | e :: es => ⟨fun K h => by
      obtain ⟨p, qs, rfl, h1, h2⟩ := chkEs_inv h
      exact snd_Acons (chkE_plain h1) ((snd e).pe K h1) ((snds es).pa K h2), fun K h => by
      obtain ⟨p, qs, rfl, h1, h2⟩ := chkEs_inv h
      exact snd_Qcons (chkE_plain h1) ((snd e).pb K h1) ((snds es).pq K h2)⟩
end
end PF

/-! PF, part L: statements one by one. -/
namespace PF
open PySem PySem.Spec PyProof.Rows L2

theorem get_wipe {ρ : Env} {i : Nat} : ∀ {ws : List Nat}, isOwn (Env.get (wipeE ρ ws) i) = true → isOwn (ρ.get i) = true
  | [], h => h
  | w :: ws, h => by
    have h : isOwn (Env.get (List.set (wipeE ρ ws) w .un) i) = true := h
    by_cases hw : w = i
    · subst hw
      by_cases hl : w < (wipeE ρ ws).length
      · rw [get_set_self hl] at h
        cases h
      · rw [set_out (by omega)] at h
        exact get_wipe h
    · rw [get_set_ne hw] at h
      exact get_wipe h
mutual
theorem asg_quiet : ∀ (t : Tg) (d : D) (ρ : Env), quiet (asg t d ρ) = true
  | .nm _, _, _ => rfl
  | .tp ts, d, ρ => by
    cases d <;> first | rfl | skip
    rename_i ds
    exact asgs_quiet ts ds ρ
theorem asgs_quiet : ∀ (ts : List Tg) (ds : List D) (ρ : Env), quiet (asgs ts ds ρ) = true
  | [], [], _ => rfl
  | [], _ :: _, _ => rfl
  | _ :: _, [], _ => rfl
  | t :: ts, d :: ds, ρ => quiet_bind (asg_quiet t d ρ) fun ρ1 => asgs_quiet ts ds ρ1
end
/-- where a def's body stands, (G0, H0) at its start -/
structure Bd (Y : Wh) (G0 H0 F : Hp) (σ : Sl) (G H : Hp) (ρ : Env) : Prop where
  k : EOk Y G H σ ρ
  g : Gr G0 H0 G H
  n : ∀ i a, isOwn (ρ.get i) = true → σ[i]? = some (some (.ref a)) → H0 a = none
  f : Same F G
  z : Same G0 H0
section
variable {Y : Wh} {M : Mt} {C : Cal} {W : WX} {X : Cx} {sc : Scope} {G0 H0 F G H G' H' : Hp} {σ : Sl} {ρ : Env}
theorem Bd.grow (b : Bd Y G0 H0 F σ G H ρ) (g : Gr G H G' H') : Bd Y G0 H0 F σ G' H' ρ := ⟨b.k.mono g, b.g.trans g, b.n, b.f.trans g.gg, b.z⟩
theorem Bd.setFr (b : Bd Y G0 H0 F σ G H ρ) {i : Nat} {v : V} {d : D} (r : Rp Y G v d) : Bd Y G0 H0 F (σ.set i (some v)) G H (ρ.set i (.fr d)) := by
  refine ⟨b.k.setFr r, b.g, fun j a h1 h2 => ?_, b.f, b.z⟩
  by_cases hj : i = j
  · subst hj
    by_cases hl : i < ρ.length
    · rw [get_set_self hl] at h1
      cases h1
    · rw [set_out (by omega), get_out (by omega)] at h1
      cases h1
  · rw [get_set_ne hj] at h1
    rw [List.getElem?_set_ne hj] at h2
    exact b.n j a h1 h2
theorem Bd.asg (b : Bd Y G0 H0 F σ G H ρ) {σ1 : Sl} {ρ1 : Env} (k : EOk Y G H σ1 ρ1) (o : OwnS σ ρ σ1 ρ1) : Bd Y G0 H0 F σ1 G H ρ1 := ⟨k, b.g, fun i a h1 h2 => by
  obtain ⟨q1, q2⟩ := o i h1
  rw [q2] at h2
  exact b.n i a q1 h2, b.f, b.z⟩
theorem Bd.fgt (b : Bd Y G0 H0 F σ G H ρ) (ws : List Nat) : Bd Y G0 H0 F σ G H (wipeE ρ ws) := ⟨b.k.fgt ws, b.g, fun i a h1 h2 => b.n i a (get_wipe h1) h2, b.f, b.z⟩
/-- a list of one's own comes into a slot -/
theorem Bd.setOwn (b : Bd Y G0 H0 F σ G H ρ) {i : Nat} {p : Addr} {vs : List V} {ds : List D} (h0 : H0 p = none) (hn : ∀ j, j ≠ i → isOwn (ρ.get j) = true → σ[j]? = some (some (.ref p)) → False) (h : H p = some (.lst vs)) (g : G p = none) (r : RpA Y G vs ds) :
    Bd Y G0 H0 F (σ.set i (some (.ref p))) G H (ρ.set i (.own ds)) := by
  by_cases hi : i < ρ.length
  · have hs : i < σ.length := by rw [b.k.len]; exact hi
    refine ⟨⟨by simp [b.k.len], b.k.gh, fun j => ?_, fun j k a hne h1 h2 e1 e2 => ?_⟩, b.g, fun j a h1 h2 => ?_, b.f, b.z⟩
    · by_cases hj : i = j
      · subst hj
        rw [get_set_self hi]
        exact ⟨p, vs, by simp [hs], h, g, r⟩
      · rw [get_set_ne hj, List.getElem?_set_ne hj]
        exact b.k.sl j
    · by_cases hj : i = j
      · subst hj
        rw [get_set_ne hne] at h2
        rw [List.getElem?_set_ne hne] at e2
        rw [List.getElem?_set_self hs] at e1
        cases e1
        exact hn k (Ne.symm hne) h2 e2
      · by_cases hk : i = k
        · subst hk
          rw [get_set_ne hj] at h1
          rw [List.getElem?_set_ne hj] at e1
          rw [List.getElem?_set_self hs] at e2
          cases e2
          exact hn j hne h1 e1
        · rw [get_set_ne hj] at h1
          rw [get_set_ne hk] at h2
          rw [List.getElem?_set_ne hj] at e1
          rw [List.getElem?_set_ne hk] at e2
          exact b.k.ap j k a hne h1 h2 e1 e2
    · by_cases hj : i = j
      · subst hj
        rw [List.getElem?_set_self hs] at h2
        cases h2
        exact h0
      · rw [get_set_ne hj] at h1
        rw [List.getElem?_set_ne hj] at h2
        exact b.n j a h1 h2
  · have hi' : ρ.length ≤ i := by omega
    rw [set_out hi', List.set_eq_of_length_le (by rw [b.k.len]; exact hi')]
    exact b
/-- the list of a slot is written -/
theorem Bd.write (b : Bd Y G0 H0 F σ G H ρ) {i : Nat} {p : Addr} {vs : List V} {ds : List D} (hρ : isOwn (ρ.get i) = true) (hσ : σ[i]? = some (some (.ref p))) (g : G p = none) (r : RpA Y G vs ds) : Bd Y G0 H0 F σ G (upd H p (.lst vs)) (ρ.set i (.own ds)) := by
  have hi : i < ρ.length := by
    refine Nat.lt_of_not_le fun z => ?_
    rw [get_out z] at hρ
    cases hρ
  have h0 := b.n i p hρ hσ
  have gr : Gr G0 H0 G (upd H p (.lst vs)) := ⟨same_upd b.g.hh h0, b.g.gg, same_upd b.g.gh g, b.g.nw⟩
  refine ⟨⟨by simp [b.k.len], gr.gh, fun j => ?_, fun j k a hne h1 h2 e1 e2 => ?_⟩, gr, fun j a h1 h2 => ?_, b.f, b.z⟩
  · by_cases hj : i = j
    · subst hj
      rw [get_set_self hi]
      exact ⟨p, vs, hσ, upd_same, g, r⟩
    · rw [get_set_ne hj]
      have s := b.k.sl j
      cases hq : ρ.get j with
      | un => trivial
      | fr d =>
        rw [hq] at s
        exact s
      | own es =>
        rw [hq] at s
        obtain ⟨a, ws, e1, e2, e3, e4⟩ := s
        refine ⟨a, ws, e1, ?_, e3, e4⟩
        have hne : a ≠ p := fun z => by
          subst z
          exact b.k.ap i j a hj hρ (by rw [hq]; rfl) hσ e1
        rw [upd_ne hne]
        exact e2
  · have own : ∀ j, isOwn (Env.get (List.set ρ i (.own ds)) j) = true → isOwn (ρ.get j) = true := fun j h => by
      by_cases hj : i = j
      · subst hj
        exact hρ
      · rw [get_set_ne hj] at h
        exact h
    exact b.k.ap j k a hne (own j h1) (own k h2) e1 e2
  · by_cases hj : i = j
    · subst hj
      exact b.n i a hρ h2
    · rw [get_set_ne hj] at h1
      exact b.n j a h1 h2
theorem Bd.frz (b : Bd Y G0 H0 F σ G H ρ) (i : Nat) : ∃ G', Bd Y G0 H0 F σ G' H (frzE ρ i) := by
  unfold frzE
  cases hq : ρ.get i with
  | un => exact ⟨G, b⟩
  | fr d => exact ⟨G, b⟩
  | own ds =>
    have s := b.k.sl i
    rw [hq] at s
    obtain ⟨p, vs, e1, e2, e3, e4⟩ := s
    have hi : i < ρ.length := by
      refine Nat.lt_of_not_le fun z => ?_
      rw [get_out z] at hq
      cases hq
    have h0 := b.n i p (by rw [hq]; rfl) e1
    have sG : Same G (upd G p (.lst vs)) := same_new e3
    have gh : Same (upd G p (.lst vs)) H := fun a o e => by
      by_cases ha : a = p
      · subst ha
        rw [upd_same] at e
        rw [← e]
        exact e2
      · rw [upd_ne ha] at e
        exact b.g.gh _ _ e
    refine ⟨upd G p (.lst vs), ⟨by simp [b.k.len], gh, fun j => ?_, fun j k a hne h1 h2 f1 f2 => ?_⟩, ⟨b.g.hh, b.g.gg.trans sG, gh, fun a o e => ?_⟩, fun j a h1 h2 => ?_, b.f.trans sG, b.z⟩
    · by_cases hj : i = j
      · subst hj
        rw [get_set_self hi]
        exact ⟨_, e1, .lst upd_same (e4.mono sG)⟩
      · rw [get_set_ne hj]
        have s := b.k.sl j
        cases hq2 : ρ.get j with
        | un => trivial
        | fr d =>
          rw [hq2] at s
          obtain ⟨v, f1, f2⟩ := s
          exact ⟨v, f1, f2.mono sG⟩
        | own es =>
          rw [hq2] at s
          obtain ⟨a, ws, f1, f2, f3, f4⟩ := s
          refine ⟨a, ws, f1, f2, ?_, f4.mono sG⟩
          have hne : a ≠ p := fun z => by
            subst z
            exact b.k.ap i j a hj (by rw [hq]; rfl) (by rw [hq2]; rfl) e1 f1
          rw [upd_ne hne]
          exact f3
    · have own : ∀ j, isOwn (Env.get (List.set ρ i (.fr (.lst ds))) j) = true → isOwn (ρ.get j) = true := fun j h => by
        by_cases hj : i = j
        · subst hj
          rw [hq]
          rfl
        · rw [get_set_ne hj] at h
          exact h
      exact b.k.ap j k a hne (own j h1) (own k h2) f1 f2
    · by_cases ha : a = p
      · subst ha
        exact .inr h0
      · rw [upd_ne ha] at e
        exact b.g.nw a o e
    · by_cases hj : i = j
      · subst hj
        exact b.n i a (by rw [hq]; rfl) h2
      · rw [get_set_ne hj] at h1
        exact b.n j a h1 h2
end

/-! ### what a block promises -/
section
variable (Y : Wh) (W : WX) (G0 H0 F : Hp)
def FinO (o : O) (D : Ends) : Prop := match o with
  | .nx ρ => ∀ σ G H, Bd Y G0 H0 F σ G H ρ → D.nx σ H
  | .rt d => ∀ G H v, Gr G0 H0 G H → Rp Y G v d → D.rt v H
  | .bk ρ => ∀ σ G H, Bd Y G0 H0 F σ G H ρ → D.bk σ H
  | .ct ρ => ∀ σ G H, Bd Y G0 H0 F σ G H ρ → D.ct σ H
  | .exc k n => ∀ σ H d, Same H0 H → XD Y k n H0 H d → W (.ref (Y.ca k)) d σ H
  | .bad => False
end
def tS (Y : Wh) (C : Cal) (W : WX) (s : S) : TS := fun D σ H => ∃ G0 H0 F G ρ, Bd Y G0 H0 F σ G H ρ ∧ FinO Y W G0 H0 F (exS C ρ s) D
def tSs (Y : Wh) (C : Cal) (W : WX) (ss : List S) : TS := fun D σ H => ∃ G0 H0 F G ρ, Bd Y G0 H0 F σ G H ρ ∧ FinO Y W G0 H0 F (exs C ρ ss) D
section
variable {Y : Wh} {M : Mt} {C : Cal} {W : WX} {X : Cx} {sc : Scope} {G0 H0 F G H G' H' : Hp} {σ : Sl} {ρ : Env} {α : Type}
/-- an expression's evaluation within a statement -/
theorem FinO.bind {r : R α} {f : α → O} {D : Ends} (b : Bd Y G0 H0 F σ G H ρ) (h : FinO Y W G0 H0 F (r.o f) D) : Fin Y W σ G H r (fun a G' H' => Gr G H G' H' ∧ FinO Y W G0 H0 F (f a) D) := by
  cases r with
  | ok a => exact fun G' H' g => ⟨g, h⟩
  | exc k n =>
    refine fun H' d s x => h σ H' d (b.g.hh.trans s) ?_
    exact x.mono b.g.hh
  | bad => exact h

/-! ### blocks -/
theorem snds_nil : PSs X [] (tSs Y C W []) := pss_nil.imp fun D σ H ⟨G0, H0, F, G, ρ, b, f⟩ => by
  have f : FinO Y W G0 H0 F (.nx ρ) D := by
    have e : exs C ρ [] = .nx ρ := by simp only [exs]
    rw [e] at f
    exact f
  exact f σ G H b
theorem exs_cons (ρ : Env) (s : S) (ss : List S) : exs C ρ (s :: ss) = match exS C ρ s with
    | .nx ρ1 => exs C ρ1 ss
    | o => o := by
  rw [exs]
  all_goals (cases exS C ρ s <;> rfl)
theorem snds_cons {s : S} {ss : List S} {st : Stmt} {rest : List Stmt} (h1 : PS X st (tS Y C W s)) (h2 : PSs X rest (tSs Y C W ss)) : PSs X (st :: rest) (tSs Y C W (s :: ss)) :=
  (pss_cons h1 h2).imp fun D σ H ⟨G0, H0, F, G, ρ, b, f⟩ => by
    rw [exs_cons] at f
    refine ⟨G0, H0, F, G, ρ, b, ?_⟩
    cases ho : exS C ρ s with
    | nx ρ1 =>
      rw [ho] at f
      exact fun σ G H b1 => ⟨G0, H0, F, G, ρ1, b1, f⟩
    | rt d => rw [ho] at f; exact f
    | bk ρ1 => rw [ho] at f; exact f
    | ct ρ1 => rw [ho] at f; exact f
    | exc k n => rw [ho] at f; exact f
    | bad => rw [ho] at f; exact f
theorem snds_frz {i : Nat} {ss : List S} {ps : List Stmt} (h : PSs X ps (tSs Y C W ss)) : PSs X ps (tSs Y C W (.frz i :: ss)) := h.imp fun D σ H ⟨G0, H0, F, G, ρ, b, f⟩ => by
  have e : exs C ρ (.frz i :: ss) = exs C (frzE ρ i) ss := by
    rw [exs_cons]
    simp only [exS]
  rw [e] at f
  obtain ⟨G', b'⟩ := b.frz i
  exact ⟨G0, H0, F, G', _, b', f⟩
theorem snds_fgt {is : List Nat} {ss : List S} {ps : List Stmt} (h : PSs X ps (tSs Y C W ss)) : PSs X ps (tSs Y C W (.fgt is :: ss)) := h.imp fun D σ H ⟨G0, H0, F, G, ρ, b, f⟩ => by
  have e : exs C ρ (.fgt is :: ss) = exs C (wipeE ρ is) ss := by
    rw [exs_cons]
    simp only [exS]
  rw [e] at f
  exact ⟨G0, H0, F, G, _, b.fgt is, f⟩

/-! ### small statements -/
theorem snS_pss {pos : Pos} : PS X (.Pass pos) (tS Y C W .pss) := ps_pass.imp fun D σ H ⟨G0, H0, F, G, ρ, b, f⟩ => by
  simp only [exS] at f
  exact f σ G H b
theorem snS_brk {pos : Pos} : PS X (.Break pos) (tS Y C W .brk) := ps_break.imp fun D σ H ⟨G0, H0, F, G, ρ, b, f⟩ => by
  simp only [exS] at f
  exact f σ G H b
theorem snS_cnt {pos : Pos} : PS X (.Continue pos) (tS Y C W .cnt) := ps_continue.imp fun D σ H ⟨G0, H0, F, G, ρ, b, f⟩ => by
  simp only [exS] at f
  exact f σ G H b
theorem snS_retN {pos : Pos} : PS X (.Return none pos) (tS Y C W .retN) := ps_retN.imp fun D σ H ⟨G0, H0, F, G, ρ, b, f⟩ => by
  simp only [exS] at f
  exact f G H _ b.g .non
theorem snS_ret {e : E} {p : Expr} {pos : Pos} (h : PE X p (tE Y C W e)) : PS X (.Return (some p) pos) (tS Y C W (.ret e)) := (ps_ret h).imp fun D σ H ⟨G0, H0, F, G, ρ, b, f⟩ => by
  simp only [exS] at f
  exact ⟨G, ρ, b.k, (FinO.bind b f).imp fun d G1 H1 _ ⟨g1, f1⟩ v rv => f1 G1 H1 v (b.g.trans g1) rv⟩
def isLC : Expr → Bool
  | .ListComp _ _ _ _ => true
  | .SetComp _ _ _ _ => true
  | .DictComp _ _ _ _ _ => true
  | _ => false
theorem swaps_no {p : Expr} (h : isLC p = false) (t : Option Expr) (l : Nat) (env : PySem.Env) : swapsWith p t l env = pure false := by
  cases p <;> first | rfl | cases h
theorem snS_exp {e : E} {p : Expr} {pos : Pos} (hl : isLC p = false) (h : PE X p (tE Y C W e)) : PS X (.Expr p pos) (tS Y C W (.exp e)) := (ps_expr h (swaps_no hl _ _ _)).imp fun D σ H ⟨G0, H0, F, G, ρ, b, f⟩ => by
  simp only [exS] at f
  exact ⟨G, ρ, b.k, (FinO.bind b f).imp fun d G1 H1 _ ⟨g1, f1⟩ v rv => f1 σ G1 H1 (b.grow g1)⟩
theorem snS_ite {c : E} {a d : List S} {pc : Expr} {pa pd : List Stmt} {pos : Pos} (hc : PT X pc (tT Y C W c)) (ha : PSs X pa (tSs Y C W a)) (hd : PSs X pd (tSs Y C W d)) : PS X (.If pc pa pd pos) (tS Y C W (.ite c a d)) :=
  (ps_if hc ha hd).imp fun D σ H ⟨G0, H0, F, G, ρ, b, f⟩ => by
    simp only [exS] at f
    refine ⟨G, ρ, b.k, (FinO.bind b f).imp fun k G1 H1 _ ⟨g1, f1⟩ => ?_⟩
    show if k = true then _ else _
    cases k with
    | true => exact iteT ⟨G0, H0, F, G1, ρ, b.grow g1, f1⟩
    | false => exact iteF ⟨G0, H0, F, G1, ρ, b.grow g1, f1⟩

/-! ### stores -/
theorem asg_set {i : Nat} {e : E} {st : Stmt} (h : PS X st (tAsg (tE Y C W e) (gName i))) : PS X st (tS Y C W (.set i e)) := h.imp fun D σ H ⟨G0, H0, F, G, ρ, b, f⟩ => by
  simp only [exS] at f
  exact ⟨G, ρ, b.k, (FinO.bind b f).imp fun d G1 H1 _ ⟨g1, f1⟩ v rv => f1 _ G1 H1 ((b.grow g1).setFr rv)⟩
theorem asg_own {i : Nat} {e : E} {st : Stmt} (h : PS X st (tAsg (tO Y C W e) (gName i))) : PS X st (tS Y C W (.own i e)) := h.imp fun D σ H ⟨G0, H0, F, G, ρ, b, f⟩ => by
  simp only [exS] at f
  have e0 : ((ev C ρ e).bind lstR).o (fun ds => O.nx (ρ.set i (.own ds))) = (ev C ρ e).o fun d => (lstR d).o fun ds => O.nx (ρ.set i (.own ds)) := by
    cases ev C ρ e <;> rfl
  rw [e0] at f
  refine ⟨G, ρ, b.k, (FinO.bind b f).imp fun d G1 H1 _ ⟨g1, f1⟩ p vs ds ed h0 h1 h2 r => ?_⟩
  subst ed
  refine f1 _ G1 H1 ((b.grow g1).setOwn (b.g.hh.free h0) (fun j _ hj hs => ?_) h1 h2 r)
  have s := b.k.sl j
  cases hq : ρ.get j with
  | un => rw [hq] at hj; cases hj
  | fr _ => rw [hq] at hj; cases hj
  | own es =>
    rw [hq] at s
    obtain ⟨a, ws, e1, e2, _⟩ := s
    rw [hs] at e1
    cases e1
    rw [h0] at e2
    cases e2
theorem snS_unp {t : Tg} {e : E} {p tg : Expr} {pos : Pos} (hs : swapsWithSole [tg] p pos.line X.env = pure false) (hw : swappedStores [tg] p X.env = pure none) (h1 : (assignEach [tg] X.env).map (·.2) = [assign tg X.env]) (h : PE X p (tE Y C W e)) (hg : PG X tg (gT Y [] t)) : PS X (.Assign [tg] p pos) (tS Y C W (.unp t e)) :=
  (ps_asg h hg hs hw h1).imp fun D σ H ⟨G0, H0, F, G, ρ, b, f⟩ => by
    simp only [exS] at f
    refine ⟨G, ρ, b.k, (FinO.bind b f).imp fun d G1 H1 _ ⟨g1, f1⟩ v rv => ?_⟩
    cases ha : asg t d ρ with
    | ok ρ1 =>
      rw [ha] at f1
      exact ⟨G1, ρ, d, ρ1, b.k.mono g1, rv, ha, fun σ1 k1 o1 _ => f1 σ1 G1 H1 ((b.grow g1).asg (k1 G1 H1 (.refl _) (b.k.mono g1)) o1)⟩
    | exc k n =>
      have := asg_quiet t d ρ
      rw [ha] at this
      cases this
    | bad => rw [ha] at f1; exact False.elim f1

/-! ### loops -/
theorem Bd.floor (b : Bd Y G0 H0 F σ G H ρ) {F' : Hp} (s : Same F' G) : Bd Y G0 H0 F' σ G H ρ := ⟨b.k, b.g, b.n, s, b.z⟩
theorem FinO.floor {o : O} {D : Ends} {F' : Hp} (h : FinO Y W G0 H0 F o D) (s : Same F F') : FinO Y W G0 H0 F' o D := by
  cases o with
  | nx ρ => exact fun σ G H b => h σ G H (b.floor (s.trans b.f))
  | rt d => exact h
  | bk ρ => exact fun σ G H b => h σ G H (b.floor (s.trans b.f))
  | ct ρ => exact fun σ G H b => h σ G H (b.floor (s.trans b.f))
  | exc k n => exact h
  | bad => exact h
theorem snS_for {t : Tg} {it : E} {body : List S} {tg pit : Expr} {pb : List Stmt} {pos : Pos} (hp : PassesOwn (model X.prog X.w) X.A X.env X.xe) (hc : X.calm = true) (hi : PI X tg pit (tI Y C W true it)) (hg : PG X tg (gT Y [] t)) (hb : PSs X pb (tSs Y C W body))
    (hs : ∀ x, foldedSetIterable pit X.env x = pure x) : PS X (.For tg pit pb [] pos) (tS Y C W (.for_ t it body)) :=
  (ps_for hp hc hi hg hb hs).imp fun D σ H ⟨G0, H0, F, G, ρ, b, f⟩ => by
    simp only [exS] at f
    have f : FinO Y W G0 H0 F (((ev C ρ it).bind itemsR).o fun ds => forL t (fun ρ1 => exs C ρ1 body) ds ρ) D := f
    refine ⟨G, ρ, b.k, ?_⟩
    show Fin Y W σ G H ((ev C ρ it).bind itemsR) _
    refine (FinO.bind b f).imp fun ds G1 H1 _ ⟨g1, f1⟩ J hJ => ?_
    refine ⟨fun i m σc Hc => m = ds.length - i ∧ i ≤ ds.length ∧ ∃ Gc ρc, Bd Y G0 H0 F σc Gc Hc ρc ∧ Same G1 Gc ∧ FinO Y W G0 H0 F (forL t (fun ρ1 => exs C ρ1 body) (ds.drop i) ρc) D, ⟨_, rfl, Nat.zero_le _, G1, ρ, b.grow g1, .refl _, f1⟩, ?_⟩
    rintro i m σc Hc ⟨rfl, hi, Gc, ρc, bc, sc, fc⟩
    have sm : Sm true G1 H1 Gc Hc := ⟨bc.g.gh, sc, fun z => by cases z⟩
    by_cases hlt : i < ds.length
    · have hd : ds.drop i = ds[i] :: ds.drop (i + 1) := List.drop_eq_getElem_cons hlt
      rw [hd] at fc
      refine .inr ⟨hJ.go i Gc Hc sm hlt, fun σ' H' => ds.length - (i + 1) = ds.length - (i + 1) ∧ i + 1 ≤ ds.length ∧ ∃ Gc ρc, Bd Y G0 H0 F σ' Gc H' ρc ∧ Same G1 Gc ∧ FinO Y W G0 H0 F (forL t (fun ρ1 => exs C ρ1 body) (ds.drop (i + 1)) ρc) D, fun σ' H' w => ⟨_, by omega, w⟩, fun xv H' y => ?_⟩
      obtain ⟨G', g', rx⟩ := hJ.yld i Gc Hc xv H' sm y _ (List.getElem?_eq_getElem hlt)
      have bc' := bc.grow g'
      have fc : FinO Y W G0 H0 F ((asg t ds[i] ρc).o fun ρ1 => match exs C ρ1 body with
        | .nx ρ2 => forL t (fun ρ1 => exs C ρ1 body) (ds.drop (i + 1)) ρ2
        | .ct ρ2 => forL t (fun ρ1 => exs C ρ1 body) (ds.drop (i + 1)) ρ2
        | .bk ρ2 => .nx ρ2
        | o => o) D := fc
      cases ha : asg t ds[i] ρc with
      | exc k n =>
        have := asg_quiet t ds[i] ρc
        rw [ha] at this
        cases this
      | bad => rw [ha] at fc; exact False.elim fc
      | ok ρ1 =>
        rw [ha] at fc
        refine ⟨G', ρc, ds[i], ρ1, bc'.k, rx, ha, fun σ1 k1 o1 _ => ⟨G0, H0, G', G', ρ1, ((bc'.asg (k1 G' H' (.refl _) bc'.k) o1)).floor (.refl _), ?_⟩⟩
        have fc : FinO Y W G0 H0 F (match exs C ρ1 body with
          | .nx ρ2 => forL t (fun ρ1 => exs C ρ1 body) (ds.drop (i + 1)) ρ2
          | .ct ρ2 => forL t (fun ρ1 => exs C ρ1 body) (ds.drop (i + 1)) ρ2
          | .bk ρ2 => .nx ρ2
          | o => o) D := fc
        have sF : Same F G' := bc.f.trans g'.gg
        have sG : Same G1 G' := sc.trans g'.gg
        cases ho : exs C ρ1 body with
        | nx ρ2 =>
          rw [ho] at fc
          exact fun σ G H b2 => ⟨rfl, hlt, G, ρ2, b2.floor (sF.trans b2.f), sG.trans b2.f, fc⟩
        | ct ρ2 =>
          rw [ho] at fc
          exact fun σ G H b2 => ⟨rfl, hlt, G, ρ2, b2.floor (sF.trans b2.f), sG.trans b2.f, fc⟩
        | bk ρ2 =>
          rw [ho] at fc
          exact fun σ G H b2 => fc σ G H (b2.floor (sF.trans b2.f))
        | rt d => rw [ho] at fc; exact fc
        | exc k n => rw [ho] at fc; exact fc
        | bad => rw [ho] at fc; exact fc
    · have e : i = ds.length := by omega
      subst e
      rw [List.drop_length] at fc
      exact .inl ⟨hJ.stop _ Gc Hc sm (Nat.le_refl _), fc σc Gc Hc bc⟩
theorem snS_whl {n : Nat} {c : E} {body : List S} {pc : Expr} {pb : List Stmt} {pos : Pos} (hp : PassesOwn (model X.prog X.w) X.A X.env X.xe) (hc : PT X pc (tT Y C W c)) (hb : PSs X pb (tSs Y C W body)) : PS X (.While pc pb [] pos) (tS Y C W (.whl n c body)) :=
  (ps_while hp hc hb).imp fun D σ H ⟨G0, H0, F, G, ρ, b, f⟩ => by
    simp only [exS] at f
    refine ⟨fun m σc Hc => ∃ Gc ρc, Bd Y G0 H0 F σc Gc Hc ρc ∧ FinO Y W G0 H0 F (whlL (fun ρ1 => (brw ρ1 c (ev C ρ1 c)).bind truth) (fun ρ1 => exs C ρ1 body) m ρc) D, ⟨n, G, ρ, b, f⟩, ?_⟩
    rintro m σc Hc ⟨Gc, ρc, bc, fc⟩
    cases m with
    | zero => exact False.elim fc
    | succ m =>
      have fc : FinO Y W G0 H0 F (((brw ρc c (ev C ρc c)).bind truth).o fun b => if b = true then (match exs C ρc body with
        | .nx ρ2 => whlL (fun ρ1 => (brw ρ1 c (ev C ρ1 c)).bind truth) (fun ρ1 => exs C ρ1 body) m ρ2
        | .ct ρ2 => whlL (fun ρ1 => (brw ρ1 c (ev C ρ1 c)).bind truth) (fun ρ1 => exs C ρ1 body) m ρ2
        | .bk ρ2 => .nx ρ2
        | o => o) else .nx ρc) D := fc
      refine ⟨Gc, ρc, bc.k, (FinO.bind bc fc).imp fun k G1 H1 _ ⟨g1, f1⟩ => ?_⟩
      show if k = true then _ else _
      cases k with
      | false => exact iteF (f1 σc G1 H1 (bc.grow g1))
      | true =>
        refine iteT ⟨fun σ' H' => ∃ Gc ρc, Bd Y G0 H0 F σ' Gc H' ρc ∧ FinO Y W G0 H0 F (whlL (fun ρ1 => (brw ρ1 c (ev C ρ1 c)).bind truth) (fun ρ1 => exs C ρ1 body) m ρc) D, fun σ' H' w => ⟨m, Nat.lt_succ_self _, w⟩, G0, H0, F, G1, ρc, bc.grow g1, ?_⟩
        have fc : FinO Y W G0 H0 F (match exs C ρc body with
          | .nx ρ2 => whlL (fun ρ1 => (brw ρ1 c (ev C ρ1 c)).bind truth) (fun ρ1 => exs C ρ1 body) m ρ2
          | .ct ρ2 => whlL (fun ρ1 => (brw ρ1 c (ev C ρ1 c)).bind truth) (fun ρ1 => exs C ρ1 body) m ρ2
          | .bk ρ2 => .nx ρ2
          | o => o) D := f1
        cases ho : exs C ρc body with
        | nx ρ2 =>
          rw [ho] at fc
          exact fun σ G H b2 => ⟨G, ρ2, b2, fc⟩
        | ct ρ2 =>
          rw [ho] at fc
          exact fun σ G H b2 => ⟨G, ρ2, b2, fc⟩
        | bk ρ2 =>
          rw [ho] at fc
          exact fun σ G H b2 => fc σ G H b2
        | rt d => rw [ho] at fc; exact fc
        | exc k n => rw [ho] at fc; exact fc
        | bad => rw [ho] at fc; exact fc

/-! ### lists of one's own, written -/
theorem sole_no {p : Expr} (h : isLC p = false) (t : Expr) (l : Nat) (env : PySem.Env) : swapsWithSole [t] p l env = pure false := swaps_no h (some t) l env
theorem swp_no {tg : Expr} (h1 : ∀ a b c, tg ≠ .Tuple a b c) (h2 : ∀ a b, tg ≠ .List a b) (p : Expr) (env : PySem.Env) : swappedStores [tg] p env = pure none := by
  cases tg <;> first | rfl | exact absurd rfl (h1 _ _ _) | exact absurd rfl (h2 _ _)
theorem ixN_up {n : Nat} {i : Int} (h : 0 ≤ i ∧ i < n) : ixN n i = some i.toNat := by
  unfold ixN
  rw [if_pos h.1, if_pos h.2]
theorem ixN_dn {n : Nat} {i : Int} (h : i < 0 ∧ -(n : Int) ≤ i) : ixN n i = some (i + n).toNat := by
  unfold ixN
  rw [if_neg (by omega), if_pos h.2]
theorem snS_app {i : Nat} {e : E} {x : Str} {p : Expr} {q q1 q2 pos : Pos} (K : XC Y M C W X sc) (hN : X.N[i]? = some x) (hv : visB sc x = true) (ho : okN x = true) (hpl : plainP p = true) (hq : (q1.endLine == q2.line) = true) (h : PE X p (tE Y C W e)) :
    PS X (.Expr (.Call (.Attribute (.Name x q) "append" q1) [p] [] q2) pos) (tS Y C W (.app i e)) := by
  obtain ⟨h1, h2, _⟩ := okN_ok ho
  have hst := star_eq (env := X.env) (es := []) hpl
  have pe := pe_bm PySem.F.plainAttrs_list PySem.F.slot_list_append PySem.F.type_list_append mt_append (pe_var (pos := q) hN (visB_ok K.sc hv) h1 h2) (pa_cons h pa_nil hst) (apos := q1) (cpos := q2) (attr_plain fun _ _ _ z => by cases z) (by rw [hst]; rfl) hq hst (by rfl)
  refine (ps_expr pe (swaps_no rfl _ _ _)).imp fun D σ H ⟨G0, H0, F, G, ρ, b, f⟩ => ?_
  simp only [exS] at f
  cases hg : ρ.get i with
  | un => rw [hg] at f; exact False.elim f
  | fr d => rw [hg] at f; exact False.elim f
  | own ds =>
    rw [hg] at f
    have f : FinO Y W G0 H0 F ((ev C ρ e).o fun d => if ds.length < big then .nx (ρ.set i (.own (ds ++ [d]))) else .bad) D := f
    have s := b.k.sl i
    rw [hg] at s
    obtain ⟨a, vs, e1, e2, e3, e4⟩ := s
    refine ⟨_, e1, ?_, G, ρ, b.k, (FinO.bind b f).imp fun d G1 H1 _ ⟨g1, f1⟩ v rv => ?_⟩
    · exact .inl ⟨rfl, vs, SqL.of e2⟩
    · split at f1
      · rename_i hl
        have s1 := g1.hh _ _ e2
        have n1 := g1.keepNone e2 e3
        refine ⟨a, vs, v, rfl, rfl, s1, ?_, ?_⟩
        · rw [e4.length]
          have := big_line
          omega
        · exact f1 σ G1 _ ((b.grow g1).write (by rw [hg]; rfl) e1 n1 ((e4.mono g1.gg).append (.cons rv .nil)))
      · exact False.elim f1
theorem insAt_eq (ds : List D) (k : Nat) (d : D) : insAt ds k d = ds.take k ++ [d] ++ ds.drop k := by simp [insAt]
theorem snS_ins {i : Nat} {k e : E} {x : Str} {pk p : Expr} {q q1 q2 pos : Pos} (K : XC Y M C W X sc) (hN : X.N[i]? = some x) (hv : visB sc x = true) (ho : okN x = true) (hpk : plainP pk = true) (hpl : plainP p = true) (hq : (q1.endLine == q2.line) = true) (hk : PE X pk (tE Y C W k)) (h : PE X p (tE Y C W e)) :
    PS X (.Expr (.Call (.Attribute (.Name x q) "insert" q1) [pk, p] [] q2) pos) (tS Y C W (.ins i k e)) := by
  obtain ⟨h1, h2, _⟩ := okN_ok ho
  have hst := star_eq (env := X.env) (es := []) hpl
  have hst2 := star_eq (env := X.env) (es := [p]) hpk
  have pe := pe_bm PySem.F.plainAttrs_list PySem.F.slot_list_insert PySem.F.type_list_insert mt_insert (pe_var (pos := q) hN (visB_ok K.sc hv) h1 h2) (pa_cons hk (pa_cons h pa_nil hst) hst2) (apos := q1) (cpos := q2) (attr_plain fun _ _ _ z => by cases z) (by rw [hst2, hst]; rfl) hq hst2 (by rw [hst]; rfl)
  refine (ps_expr pe (swaps_no rfl _ _ _)).imp fun D σ H ⟨G0, H0, F, G, ρ, b, f⟩ => ?_
  simp only [exS] at f
  cases hg : ρ.get i with
  | un => rw [hg] at f; exact False.elim f
  | fr d => rw [hg] at f; exact False.elim f
  | own ds =>
    rw [hg] at f
    have e0 : ((ev C ρ k).bind intR).o (fun n => (ev C ρ e).o fun d => if 0 ≤ n ∧ n ≤ ds.length ∧ ds.length < big then O.nx (ρ.set i (.own (insAt ds n.toNat d))) else .bad) = (ev C ρ k).o fun dk => (intR dk).o fun n => (ev C ρ e).o fun d => if 0 ≤ n ∧ n ≤ ds.length ∧ ds.length < big then O.nx (ρ.set i (.own (insAt ds n.toNat d))) else .bad := by
      cases ev C ρ k <;> rfl
    have f : FinO Y W G0 H0 F (((ev C ρ k).bind intR).o (fun n => (ev C ρ e).o fun d => if 0 ≤ n ∧ n ≤ ds.length ∧ ds.length < big then O.nx (ρ.set i (.own (insAt ds n.toNat d))) else .bad)) D := f
    rw [e0] at f
    have s := b.k.sl i
    rw [hg] at s
    obtain ⟨a, vs, e1, e2, e3, e4⟩ := s
    refine ⟨_, e1, ?_, G, ρ, b.k, (FinO.bind b f).imp fun dk G1 H1 _ ⟨g1, f1⟩ vk rk => ?_⟩
    · exact .inl ⟨rfl, vs, SqL.of e2⟩
    · cases dk with
      | int n =>
        cases rk
        have b1 := b.grow g1
        have f1 : FinO Y W G0 H0 F ((ev C ρ e).o fun d => if 0 ≤ n ∧ n ≤ ds.length ∧ ds.length < big then O.nx (ρ.set i (.own (insAt ds n.toNat d))) else .bad) D := f1
        refine ⟨G1, ρ, b1.k, (FinO.bind b1 f1).imp fun d G2 H2 _ ⟨g2, f2⟩ v rv => ?_⟩
        split at f2
        · rename_i hl
          have s1 := g1.hh _ _ e2
          have n1 := g1.keepNone e2 e3
          have s2 := g2.hh _ _ s1
          have n2 := g2.keepNone s1 n1
          have bl := big_line
          have b0 : big = 1000000 := rfl
          refine ⟨a, vs, n, v, rfl, rfl, s2, ?_, hl.1, ?_, ?_⟩
          · rw [e4.length]
            omega
          · omega
          · have em := (e4.mono g1.gg).mono g2.gg
            refine f2 σ G2 _ ((b1.grow g2).write (by rw [hg]; rfl) e1 n2 ?_)
            rw [insAt_eq]
            exact ((RpA.take n.toNat em).append (.cons rv .nil)).append (RpA.drop n.toNat em)
        · exact False.elim f2
      | _ => exact False.elim f1
theorem snS_sit {i : Nat} {k e : E} {x : Str} {p pk : Expr} {q q1 pos : Pos} (K : XC Y M C W X sc) (hN : X.N[i]? = some x) (hv : visB sc x = true) (ho : okN x = true) (hpl : isLC p = false) (hpk : plainP pk = true) (hk : PE X pk (tE Y C W k)) (h : PE X p (tE Y C W e)) :
    PS X (.Assign [.Subscript (.Name x q) pk q1] p pos) (tS Y C W (.sit i k e)) := by
  obtain ⟨h1, h2, _⟩ := okN_ok ho
  refine (ps_asg h (pg_sub (pe_var (pos := q) hN (visB_ok K.sc hv) h1 h2) hk set_list (fun v => by cases pk <;> first | rfl | cases hpk)) (sole_no hpl _ _ _) (swp_no (fun _ _ _ z => by cases z) (fun _ _ z => by cases z) p X.env)).imp fun D σ H ⟨G0, H0, F, G, ρ, b, f⟩ => ?_
  simp only [exS] at f
  refine ⟨G, ρ, b.k, (FinO.bind b f).imp fun d G1 H1 _ ⟨g1, f1⟩ v rv => ?_⟩
  cases hg : ρ.get i with
  | un => rw [hg] at f1; exact False.elim f1
  | fr d => rw [hg] at f1; exact False.elim f1
  | own ds =>
    rw [hg] at f1
    have b1 := b.grow g1
    have s := b1.k.sl i
    rw [hg] at s
    obtain ⟨a, vs, e1, e2, e3, e4⟩ := s
    have e0 : ((ev C ρ k).bind intR).o (fun n => if 0 ≤ n ∧ n < ds.length then O.nx (ρ.set i (.own (ds.set n.toNat d))) else if n < 0 ∧ -(ds.length : Int) ≤ n then .nx (ρ.set i (.own (ds.set (n + ds.length).toNat d))) else .bad) = (ev C ρ k).o fun dk => (intR dk).o fun n => if 0 ≤ n ∧ n < ds.length then O.nx (ρ.set i (.own (ds.set n.toNat d))) else if n < 0 ∧ -(ds.length : Int) ≤ n then .nx (ρ.set i (.own (ds.set (n + ds.length).toNat d))) else .bad := by
      cases ev C ρ k <;> rfl
    have f1 : FinO Y W G0 H0 F (((ev C ρ k).bind intR).o (fun n => if 0 ≤ n ∧ n < ds.length then O.nx (ρ.set i (.own (ds.set n.toNat d))) else if n < 0 ∧ -(ds.length : Int) ≤ n then .nx (ρ.set i (.own (ds.set (n + ds.length).toNat d))) else .bad)) D := f1
    rw [e0] at f1
    refine ⟨_, e1, G1, ρ, b1.k, (FinO.bind b1 f1).imp fun dk G2 H2 _ ⟨g2, f2⟩ vk rk => ?_⟩
    cases dk with
    | int n =>
      cases rk
      have f2 : FinO Y W G0 H0 F (if 0 ≤ n ∧ n < ds.length then O.nx (ρ.set i (.own (ds.set n.toNat d))) else if n < 0 ∧ -(ds.length : Int) ≤ n then .nx (ρ.set i (.own (ds.set (n + ds.length).toNat d))) else .bad) D := f2
      have hl := e4.length
      have s2 := g2.hh _ _ e2
      have n2 := g2.keepNone e2 e3
      have rv2 := rv.mono g2.gg
      split at f2
      · rename_i hn
        refine ⟨a, vs, n, n.toNat, rfl, rfl, s2, ?_, ?_⟩
        · rw [hl]
          exact ixN_up hn
        · exact f2 σ G2 _ ((b1.grow g2).write (by rw [hg]; rfl) e1 n2 (RpA.set rv2 n.toNat (e4.mono g2.gg)))
      · split at f2
        · rename_i hn
          refine ⟨a, vs, n, (n + ds.length).toNat, rfl, rfl, s2, ?_, ?_⟩
          · rw [hl]
            exact ixN_dn hn
          · exact f2 σ G2 _ ((b1.grow g2).write (by rw [hg]; rfl) e1 n2 (RpA.set rv2 (n + ds.length).toNat (e4.mono g2.gg)))
        · exact False.elim f2
    | _ => exact False.elim f2
theorem snS_aug {i : Nat} {o : BOp} {e : E} {x : Str} {p : Expr} {q pos : Pos} (K : XC Y M C W X sc) (hN : X.N[i]? = some x) (hx : Loc X.env.scope x) (hf : X.fn x = true ∨ X.env.scope.names.lookup x = some .local) (ho : o = .add ∨ o = .sub) (h : PE X p (tE Y C W e)) :
    PS X (.AugAssign (.Name x q) (bopOf o) p pos) (tS Y C W (.aug i o e)) := by
  have main : ∀ (g : Int → Int → Int) (op : Operator), PIp X op (ipI g) → bopOf o = op → (∀ a b, binR o (.int a) (.int b) = .ok (.int (g a b))) → PS X (.AugAssign (.Name x q) (bopOf o) p pos) (tS Y C W (.aug i o e)) := by
    intro g op hp eo hb
    rw [eo]
    refine (ps_aug K.ok.nd hN hx h hp hf).imp fun D σ H ⟨G0, H0, F, G, ρ, b, f⟩ => ?_
    simp only [exS] at f
    cases hg : ρ.get i with
    | un => rw [hg] at f; exact False.elim f
    | own ds => rw [hg] at f; exact False.elim f
    | fr d =>
      rw [hg] at f
      have s := b.k.sl i
      rw [hg] at s
      obtain ⟨v, e1, r1⟩ := s
      refine ⟨v, e1, G, ρ, b.k, ?_⟩
      have f : FinO Y W G0 H0 F ((ev C ρ e).o fun y => (augR o d y).o fun z => .nx (ρ.set i (.fr z))) D := f
      refine (FinO.bind b f).imp fun y G1 H1 _ ⟨g1, f1⟩ u ru => ?_
      cases d with
      | int a =>
        cases y with
        | int c =>
          cases r1
          cases ru
          have f1 : FinO Y W G0 H0 F ((binR o (.int a) (.int c)).o fun z => .nx (ρ.set i (.fr z))) D := f1
          rw [hb] at f1
          exact ⟨a, c, rfl, rfl, f1 _ G1 H1 ((b.grow g1).setFr (.int _))⟩
        | _ => exact False.elim f1
      | _ => exact False.elim f1
  rcases ho with rfl | rfl
  · exact main _ _ ip_add rfl fun a b => rfl
  · exact main _ _ ip_sub rfl fun a b => rfl
end
end PF

/-! PF, part M: own exceptions over Exception whose __init__ keeps one field, at: made, raised, read. -/
namespace PF
open PySem PySem.Spec PyProof.Rows L2
open PySem.W PySem.Calls PySem.HandSPX

abbrev exTail : List Value := [.type "Exception", .type "BaseException", .type "object"]
def isRefV : Value → Bool
  | .ref _ => true
  | _ => false
def exMro (l : List Value) : Bool := l.dropWhile isRefV == exTail
theorem exMro_ok : ∀ {l : List Value}, exMro l = true → ∃ cs : List Addr, l = cs.map Value.ref ++ exTail
  | [], h => by
    have h : ((List.dropWhile isRefV ([] : List Value)) == exTail) = true := h
    simp at h
  | v :: l, h => by
    cases hv : isRefV v with
    | true =>
      obtain ⟨a, rfl⟩ : ∃ a, v = .ref a := by
        cases v <;> first | exact ⟨_, rfl⟩ | cases hv
      have h : exMro l = true := by
        unfold exMro at h ⊢
        rw [List.dropWhile_cons_of_pos hv] at h
        exact h
      obtain ⟨cs, rfl⟩ := exMro_ok h
      exact ⟨a :: cs, rfl⟩
    | false =>
      unfold exMro at h
      rw [List.dropWhile_cons_of_neg (by rw [hv]; decide)] at h
      exact ⟨[], by simpa using beq_iff_eq.mp h⟩
theorem ex_pass (self : Value) : ∀ cs : List Addr, refuseLoop self "__setattr__" (cs.map Value.ref ++ exTail) = pure ()
  | [] => F.store_Exception.passes self
  | c :: cs => by
    show refuseLoop self "__setattr__" (.ref c :: (cs.map Value.ref ++ exTail)) = _
    rw [refuseLoop_ref]
    exact ex_pass self cs
theorem ex_contains (n : String) : ∀ cs : List Addr, (cs.map Value.ref ++ exTail).contains (.type n) = exTail.contains (.type n)
  | [] => rfl
  | c :: cs => by
    show (Value.ref c :: (cs.map Value.ref ++ exTail)).contains (.type n) = _
    rw [List.contains_cons, ex_contains n cs]
    rfl

/-- __init__'s text -/
def iA (p1 p2 : Pos) : Arguments := { posonlyargs := [], args := [{ arg := "self", annotation := none, pos := p1 }, { arg := "at", annotation := none, pos := p2 }], vararg := none, kwonlyargs := [], kw_defaults := [], kwarg := none, defaults := [] }
def iB (q1 q2 q3 q4 : Pos) : List Stmt := [.Assign [.Attribute (.Name "self" q1) "at" q2] (.Name "at" q3) q4]
def iS : Scope := { kind := .function, names := [(PySem.Str.ofString "self", .local), (PySem.Str.ofString "at", .local)], isGenerator := false, isCoroutine := false, more := [] }
/-- what the written part says of such a class, at C, and of its __init__, at fI -/
structure ExT (K : Frag) (C fI : Addr) : Prop where
  cls : excInitIn K C exTail "Exception.__new__" = true
  cl : ∃ cd, clsIn K C = some cd ∧ exMro cd.mro = true ∧ cd.hasDict = true
  sa : findIn K (.ref C) "__setattr__" = some (some (.builtin "object.__setattr__"))
  xf : XfC K C
  noN : findIn K (.ref C) "at" = some none
  iC : findIn K (.ref C) "__init__" = some (some (.ref fI))
  tC : typeIn K (.ref fI) = some (.type "function")
  kC : keepIn K (.ref C) = true
  tyC : typeIn K (.ref C) = some (.type "type")
  te : exmOne K (.ref C) (.ref C) = some true
  fn : ∃ (qn : Str) (oc : Value) (od : Option Addr) (kV doc pm : Value) (an : Option Addr) (cdv ct : Value) (osl : Array (Option Value)) (p1 p2 q1 q2 q3 q4 : Pos),
    K.lookup fI = some ⟨oc, od, .func (fnOf "__init__" qn (iA p1 p2) (iB q1 q2 q3 q4) iS .none kV doc pm an cdv ct), osl⟩ ∧ codeIn K cdv qn = true
theorem size_one (v : Value) : [v].length ≤ sizeLine := by
  rw [sizeLine_eq]
  exact (by decide : 1 ≤ 16777216)
theorem ld_here {M : Model} {s : Shared} {name : Str} {scope : Scope} {L a : Addr} {cd : Value} {m : Str → Option Value} {x : Str} {pos : Pos} {v : Value} {Q : Value → Shared → Prop} {A : Around} {E : Value → Shared → Prop} (hn : s.heap.Ns L m) (hv : m x = some v) (h : Q v s)
    (hk : scope.kind = .function := by rfl) (hl : (envOfC name scope L a cd).kindOf x = some .local := by rfl) (hd : (x == ("__debug__" : Str)) = false := by decide) :
    wpAny M A (eval (.Name x pos) (envOfC name scope L a cd)) Q E s := wpAny_Name (wpAny_loadName_local hk hl hn hv h) hd
section
variable {prog : Program} {w : World} {A : Around} {E : Value → Shared → Prop} {R : Result → Shared → Prop} {hp : Heap} {g : Array GenState} {d : Drawn} {t : Nat} {os : OsState}
open Builtin Builtin.ObjectAttr in
/-- a field's first store -/
theorem at_store {K : W.Frag} {name : Str} {tk : Tok} {v : Value} {x C : Addr} {fv : Array Value} {cd : ClassData}
    (X : K.In hp) (hx : hp.get? x = some { cls := .ref C, data := .fields fv }) (hcd : W.clsIn K C = some cd) (hm : exMro cd.mro = true) (hh : cd.hasDict = true) (ha : W.findIn K (.ref C) name = some none)
    (hq : ∀ h' tk' dx, (∀ b o, b ≠ x → hp.get? b = some o → h'.get? b = some o) → hp.objs.size ≤ dx → dx ≠ x → h'.get? x = some { cls := .ref C, dict := some dx, data := .fields fv } →
      h'.Ns1 dx (fun y => if y = name then some v else none) → R (.ok (.ret .none)) ⟨h', g, d, tk', os⟩) :
    codeAny (model prog w) A (.call (.builtin "object.__setattr__") ⟨[.ref x, .str name tk, v], []⟩) R ⟨hp, g, d, t, os⟩ := by
  obtain ⟨cs, hcs⟩ := exMro_ok hm
  have I : W.InstAt hp x { cls := .ref C, data := .fields fv } C none := ⟨hx, rfl, rfl, trivial⟩
  have SF := F.store_object
  have hne : cd.mro.isEmpty = false := by
    rw [hcs]
    cases cs <;> rfl
  have hob : cd.mro.contains (.type "object") = true := by
    rw [hcs, ex_contains]
    decide +kernel
  have hxs : x ≠ hp.objs.size := Nat.ne_of_lt (Heap.lt_size hx)
  have sub : W.Looks (model prog w) hp (isInstance (.ref x) (.type "object")) true := I.type.andThen (W.looks_mroIn X (by unfold W.mroIn; rw [hcd, Option.bind_some, if_neg (by rw [hne]; decide), hob]))
  refine codeAny_call_builtin SF.slot.plain SF.entry (@W.check_slot (model prog w) _ _ ⟨hp, g, d, t, os⟩ "object.__setattr__" "object" "__setattr__" (.ref x) [.str name tk, v] [] _ SF.kind SF.split sub (SF.args (.ref x) (.str name tk) v) ?_)
  have hmr : W.Looks (model prog w) hp (mroOf (.ref C)) cd.mro := (W.looks_clsIn X hcd).andThen .now
  have L3 : W.Looks (model prog w) hp (storeTaker? none) none := .now
  have hcls : W.Looks (model prog w) hp (classData C) cd := W.looks_clsIn X hcd
  rw [W.osa_eq, refuse_eq]
  refine wpAny_bind (wpAny_bind (I.type.at (wpAny_bind (hmr.at ?_))))
  rw [hcs, ex_pass]
  refine wpAny_pure (wpAny_bind (I.type.at (wpAny_bind ((W.looks_findIn X ha).at (wpAny_bind (L3.at ?_))))))
  show wpAny _ _ (storeInOwnDict (.ref x) (.ref C) (.str name tk) name v false) _ _ _
  obtain ⟨nm, bs, mro, ns, qn, hd, sn, sb, ab, col, del⟩ := cd
  dsimp only at hh
  subst hh
  unfold storeInOwnDict ownDictForStores
  repeat (first | with_reducible refine store_in_new ?_ ?_ | with_reducible refine wpAny_loadPart_at hx ?_ | with_reducible refine hcls.at ?_ | wp_step)
  · exact ⟨_, #[], _, (Heap.get?_update_ne _ _ _ _ hxs.symm).trans (Heap.get?_push_at rfl rfl), rfl, fun e he => absurd he (by simp), fun _ => rfl⟩
  · intro h' tk' hn' hs
    have hx₁ : (hp.push { cls := .type "dict", data := .dict #[] }).get? x = some { cls := .ref C, data := .fields fv } := Heap.get?_push_of_some _ hx
    refine hq h' tk' hp.objs.size (fun b o hb ho => ?_) (Nat.le_refl _) hxs.symm ?_ hn'
    · exact (hs.2 b (Nat.ne_of_lt (Heap.lt_size ho))).trans ((Heap.get?_update_ne _ _ _ _ hb).trans (Heap.get?_push_of_some _ ho))
    · exact (hs.2 x hxs).trans (Heap.get?_update_self _ hx₁ rfl)
end
/-- what __init__ leaves of a fresh exception at x -/
structure InitEnd (h h' : Heap) (x C dx t1 : Addr) (v : Value) : Prop where
  keep : ∀ b o, b ≠ x → h.get? b = some o → h'.get? b = some o
  obj : h'.get? x = some { cls := .ref C, dict := some dx, data := .fields #[.ref t1, .none, .none, .none, .bool false, .none] }
  dbig : h.objs.size ≤ dx
  dne : dx ≠ x
  ns : h'.Ns1 dx (fun y => if y = "at" then some v else none)
/-- a made one -/
structure ExMade (h h' : Heap) (e C d : Addr) (v : Value) : Prop where
  keep : ∀ b o, h.get? b = some o → h'.get? b = some o
  new : h.objs.size ≤ e
  obj : ∃ oe vs, h'.get? e = some oe ∧ oe.cls = .ref C ∧ oe.dict = some d ∧ oe.data = .fields vs ∧ vs[1]? = some .none
  dbig : h.objs.size ≤ d
  dne : d ≠ e
  ns : h'.Ns1 d (fun y => if y = "at" then some v else none)
section
variable {prog : Program} {w : World} {A : Around} {E : Value → Shared → Prop} {R : Result → Shared → Prop} {s : Shared} {K : Frag} {C fI : Addr}
theorem ex_init (T : ExT K C fI) {x t0 : Addr} {v : Value} (X : K.In s.heap) (hlim : s.heap.NoLimit) (hx : s.heap.get? x = some (excO C t0)) (hnx : K.lookup x = none) (hroom : A.depth < recursionLimit)
    (hq : ∀ h' tk dx, InitEnd s.heap h' x C dx t0 v → R (.ok (.ret .none)) { s with heap := h', toks := tk }) :
    codeAny (model prog w) A (.call (.ref fI) ⟨[.ref x, v], []⟩) R s := by
  obtain ⟨qn, oc, od, kV, doc, pm, an, cdv, ct, osl, p1, p2, q1, q2, q3, q4, ho, hcd⟩ := T.fn
  obtain ⟨cd, hcl, hmro, hdct⟩ := T.cl
  refine Att.call_fn (binds := [("self", .ref x), ("at", v)]) X hlim ho hcd hroom (BindsTo.of_eq (by first | rfl | with_unfolding_all rfl)) (by first | rfl | decide | with_unfolding_all rfl) (fun s₁ IC => ?_) rfl rfl rfl
  obtain ⟨h₁, tk₁, rfl⟩ := IC.toInCall.same
  have k : ∀ b o, s.heap.get? b = some o → h₁.get? b = some o := IC.toInCall.keep
  have hn := IC.toInCall.ns
  have hxL : s.heap.objs.size ≠ x := Nat.ne_of_gt (Heap.lt_size hx)
  have X₁ : K.In h₁ := X.keeps k
  have hx₁ := k _ _ hx
  show wpAny _ _ (execs _ _) _ _ _
  refine wpAny_execs_cons (plainObj_wpAny_Assign_Attribute ?_)
  refine ld_here (v := v) hn (by first | rfl | with_unfolding_all rfl | kernel_rfl) (ld_here (v := .ref x) hn (by first | rfl | with_unfolding_all rfl | kernel_rfl) ?_)
  refine set_plain X₁ (ox := excO C t0) (od := none) ⟨hx₁, rfl, rfl, trivial⟩ T.sa ?_
  refine at_store X₁ hx₁ hcl hmro hdct T.noN (fun h₃ tk₃ dx k₃ dn dne hx₃ hn₃ => ?_)
  show wpAny _ _ (execs _ _) _ _ _
  have z : s.heap.objs.size < h₁.objs.size := hn.lt
  exact wpAny_execs_nil (hq h₃ tk₃ dx ⟨fun b o hb e => k₃ b o hb (k b o e), hx₃, Nat.le_of_lt (Nat.lt_of_lt_of_le z dn), dne, hn₃⟩)
theorem ex_made (T : ExT K C fI) {v : Value} (X : K.In s.heap) (hlim : s.heap.NoLimit) (hroom : A.depth + 1 < recursionLimit)
    (hq : ∀ h' tk e d, ExMade s.heap h' e C d v → R (.ok (.ret (.ref e))) { s with heap := h', toks := tk }) :
    codeAny (model prog w) A (.call (.ref C) ⟨[v], []⟩) R s := by
  obtain ⟨nm, N, q, bs, bm, hdct, sn, sub, ab, col, dd, k0, k1, k2, k3, k5, hC, hbm⟩ := excInit_of X T.cls
  obtain ⟨hp, g, d, tk, os⟩ := s
  have k : ∀ b o, hp.get? b = some o → ((hp.push (kdv_tup [v])).push (excO C hp.objs.size)).get? b = some o := fun b o e => Heap.get?_push_of_some _ (Heap.get?_push_of_some _ e)
  have hget : ((hp.push (kdv_tup [v])).push (excO C hp.objs.size)).get? (hp.objs.size + 1) = some (excO C hp.objs.size) := by heap_get
  have hnx : K.lookup (hp.objs.size + 1) = none := by
    cases e : K.lookup (hp.objs.size + 1) with
    | none => rfl
    | some o =>
      have z : hp.get? (hp.objs.size + 1) = some o := X _ _ e
      exact absurd (Nat.lt_of_succ_lt (Heap.lt_size z)) (Nat.lt_irrefl _)
  refine call_own F.excBase_Exception hbm hC (looks_findIn X T.iC) (fun self => bind_fn X self T.tC) (size_one v) ?_
  refine ex_init (s := ⟨(hp.push (kdv_tup [v])).push (excO C hp.objs.size), g, d, tk, os⟩) T (X.keeps k) (hlim.keeps k) hget hnx ?_ fun h' tk' dx ⟨k', hx, dn, dne, hns⟩ => ?_
  · show A.depth + 1 < recursionLimit
    exact hroom
  · have old : ∀ b o, hp.get? b = some o → h'.get? b = some o := fun b o e => k' b o (Nat.ne_of_lt (Nat.lt_succ_of_lt (Heap.lt_size e))) (k b o e)
    have z : hp.objs.size + 1 + 1 ≤ dx := by
      first
        | (simpa only [Heap.size_push] using dn)
        | exact dn
        | (have q := dn; rw [Heap.size_push, Heap.size_push] at q; exact q)
    exact ⟨rfl, hq h' tk' (hp.objs.size + 1) dx ⟨old, Nat.le_succ _, ⟨_, _, hx, rfl, rfl, rfl, rfl⟩, Nat.le_trans (Nat.le_trans (Nat.le_succ _) (Nat.le_succ _)) z, dne, hns⟩⟩
end
theorem relO_at {v : V} {v' : Value} (r : RelV v v') (f : Str) : RelO (List.lookup f [(("at" : Str), v)]) (if f = "at" then some v' else none) := by
  by_cases hw : f = "at"
  · subst hw
    rw [if_pos rfl]
    have q : List.lookup ("at" : Str) [(("at" : Str), v)] = some v := by simp [List.lookup]
    rw [q]
    exact r
  · rw [if_neg hw]
    have qw : (f == ("at" : Str)) = false := by simpa using hw
    have q2 : List.lookup f [(("at" : Str), v)] = none := by simp [List.lookup, qw]
    rw [q2]
    trivial
section
variable {X : Cx} {C fI : Addr}
/-- x(e) -/
def tMkX (C : Addr) (ta : TA) : L2.St → Hp → XK → Prop := fun σ H Q => ta σ H fun vs H1 => ∃ v, vs = [v] ∧ ∀ d, H1 d = none → Q (.ref C) (some d) (upd H1 d (.xd [(("at" : Str), v)]))
theorem pmk_at {a : Expr} {ta : TA} {x : Str} {p pos : Pos} {k : Nat} (T : ExT X.K C fI) (gC : X.mg x = some (.ref C)) (hr : Room k X.A) (ha : PA X [a] ta) (hg : Gl X x) (hdb : (x == ("__debug__" : Str)) = false) (hpl : plainP a = true) :
    PMk X (.Call (.Name x p) [a] [] pos) (tMkX C ta) := by
  intro pins s σ H Q I h
  refine wpAny_Call_Name_kw (ld_glob I hg gC ?_ hdb)
  refine PySem.W.callWith_K (h₀ := X.base) I.ok.mod.kin T.kC (thn (ha.run pos pins s σ H _ I h) fun us s1 hh => ?_) (star_eq hpl) rfl
  obtain ⟨vs, H1, I1, r1, v, ev, q1⟩ := hh
  subst ev
  refine ⟨I1.kIn, ?_⟩
  cases r1 with
  | cons rv rn =>
    rename_i v' us'
    cases rn
    show wpAny _ _ (call (.ref C) [v']) _ _ _
    have hlim := I1.nolimit
    obtain ⟨hp, g, dr, tk, os⟩ := s1
    refine wpAny_call (ex_made T I1.kIn hlim (by have := hr.dp; omega) fun h' tk' e d M => ?_)
    show MkP X pins σ Q (.ref e) ⟨h', g, dr, tk', os⟩
    obtain ⟨oe, fv, hoe, hc, hd, hdat, h1⟩ := M.obj
    have hns := M.ns
    obtain ⟨G', g1, g2⟩ := restrict h' fun b => decide (b ≠ e)
    have gk : ∀ b, b ≠ e → G'.get? b = h'.get? b := fun b hb => g1 b (decide_eq_true hb)
    have ge : G'.get? e = none := g2 e (by simp)
    have old : ∀ b o, hp.get? b = some o → G'.get? b = some o := fun b o q => (gk b (Nat.ne_of_lt (Nat.lt_of_lt_of_le (Heap.lt_size q) M.new))).trans (M.keep b o q)
    have ob : ObjOk X.prog X.w (upd H1 d (.xd [(("at" : Str), v)])) G' d (.xd [(("at" : Str), v)]) :=
      ⟨_, hns.at (fun o q => (gk d M.dne).trans q), fun f => relO_at rv f⟩
    have J : Inv X pins σ (upd H1 d (.xd [(("at" : Str), v)])) ⟨G', g, dr, tk', os⟩ := I1.laid (t' := tk') old M.dbig ob
    refine ⟨e, oe, fv, ⟨G', g, dr, tk', os⟩, _, .ref C, some d, rfl, J, fun b o q => ?_, ge, hoe, ⟨hc, hd⟩, hdat, h1, ?_, rfl, I1.bare, raises_own T.xf.exC T.tyC, q1 d (I1.hok.fresh M.dbig)⟩
    · by_cases hb : b = e
      · have q' : G'.get? b = some o := q
        rw [hb, ge] at q'; cases q'
      · exact (gk b hb).symm.trans q
    · rw [upd_ne (Ne.symm M.dne)]
      exact I1.hok.fresh M.new
end

/-- what a def's body leans on -/
structure BC (Y : Wh) (M : Mt) (C : Cal) (W : WX) (X : Cx) (sc : Scope) : Prop where
  K : XC Y M C W X sc
  tk : Takes X W
  stk : X.stack = X.env :: X.outer
  frm : X.env.frame = some X.env.locals
  pso : PassesOwn (model X.prog X.w) X.A X.env X.xe
  cel : ∀ x, sc.names.lookup x = some .cell → X.fn x = true
  exs : ∀ k x, M.kn k = some x → ∃ fI, ExT X.K (Y.ca k) fI ∧ Y.xa k = true ∧ X.mg x = some (.ref (Y.ca k))
  room : Room 0 X.A
section
variable {Y : Wh} {M : Mt} {C : Cal} {W W' : WX} {X : Cx} {sc : Scope} {G0 H0 F G H G' H' : Hp} {σ : Sl} {ρ : Env}
theorem BC.tr (B : BC Y M C W X sc) {pn : List (Addr × Obj)} {xe : Value → Shared → Prop} (tk : Takes (X.tr pn xe) W') (po : PassesOwn (model X.prog X.w) X.A X.env xe) : BC Y M C W' (X.tr pn xe) sc where
  K := ⟨⟨B.K.ok.k, B.K.ok.calm, B.K.ok.nd, B.K.ok.un⟩, B.K.sc, B.K.free, B.K.gcd, B.K.con, B.K.fns, B.K.kn, B.K.ari, fun σ => passAt tk σ⟩
  tk := tk
  stk := B.stk
  frm := B.frm
  pso := po
  cel := B.cel
  exs := B.exs
  room := B.room
theorem snS_rse {k : Nat} {e : E} {x : Str} {p : Expr} {q q2 pos : Pos} (B : BC Y M C W X sc) (hx : M.kn k = some x) (hg : glbB sc x = true) (ho : okN x = true) (hpl : plainP p = true) (h : PE X p (tE Y C W e)) :
    PS X (.Raise (some (.Call (.Name x q) [p] [] q2)) none pos) (tS Y C W (.rse k [e])) := by
  obtain ⟨fI, T, hxa, hm⟩ := B.exs k x hx
  refine (ps_raise B.K.ok.calm B.tk (pmk_at T hm B.room (snd_Acons hpl h snd_Anil) (glbB_ok B.K.sc hg) (okN_ok ho).1 hpl)).imp fun D σ H ⟨G0, H0, F, G, ρ, b, f⟩ => ?_
  simp only [exS] at f
  have f : FinO Y W G0 H0 F ((evs C ρ [e]).o fun ds => (match ds with
    | [.int n] => O.exc k n
    | _ => .bad)) D := f
  refine ⟨G, ρ, b.k, (FinO.bind b f).imp fun ds G1 H1 _ ⟨g1, f1⟩ vs rvs => ?_⟩
  match ds, rvs, f1 with
  | [.int n], .cons r .nil, f1 =>
    cases r
    refine ⟨_, rfl, fun d hd => ?_⟩
    have f1 : FinO Y W G0 H0 F (.exc k n) D := f1
    refine f1 σ _ (some d) ((b.g.hh.trans g1.hh).trans (same_new hd)) ?_
    unfold XD
    rw [if_pos hxa]
    exact ⟨d, rfl, (b.g.hh.trans g1.hh).free hd, upd_same⟩

/-! ### try -/
/-- a block whose exceptions come at the slots as they are -/
def FinR (Y : Wh) (W : WX) (G0 H0 F : Hp) (σ : Sl) (o : O) (D : Ends) : Prop := match o with
  | .exc k n => ∀ H d, Same H0 H → XD Y k n H0 H d → W (.ref (Y.ca k)) d σ H
  | .nx ρ => ∀ G H, Bd Y G0 H0 F σ G H ρ → D.nx σ H
  | o => FinO Y W G0 H0 F o D
def tR (Y : Wh) (C : Cal) (W : WX) (ss : List S) : TS := fun D σ H => ∃ G0 H0 F G ρ, Bd Y G0 H0 F σ G H ρ ∧ FinR Y W G0 H0 F σ (exs C ρ ss) D
theorem FinR.bind {α : Type} {r : R α} {f : α → O} {D : Ends} (b : Bd Y G0 H0 F σ G H ρ) (h : FinR Y W G0 H0 F σ (r.o f) D) : Fin Y W σ G H r (fun a G' H' => Gr G H G' H' ∧ FinR Y W G0 H0 F σ (f a) D) := by
  cases r with
  | ok a => exact fun G' H' g => ⟨g, h⟩
  | exc k n => exact fun H' d s x => h H' d (b.g.hh.trans s) (x.mono b.g.hh)
  | bad => exact h
theorem exs_one (ρ : Env) (s : S) : exs C ρ [s] = exS C ρ s := by
  rw [exs_cons]
  cases exS C ρ s <;> first | rfl | simp only [exs]
theorem snR_exp {e : E} {p : Expr} {pos : Pos} (hl : isLC p = false) (h : PE X p (tE Y C W e)) : PSs X [.Expr p pos] (tR Y C W [.exp e]) := (pss_one (ps_expr h (swaps_no hl _ _ _))).imp fun D σ H ⟨G0, H0, F, G, ρ, b, f⟩ => by
  rw [exs_one] at f
  simp only [exS] at f
  exact ⟨G, ρ, b.k, (FinR.bind b f).imp fun d G1 H1 _ ⟨g1, f1⟩ v rv => f1 G1 H1 (b.grow g1)⟩
theorem snR_ite {c : E} {a d : List S} {pc : Expr} {pa pd : List Stmt} {pos : Pos} (hc : PT X pc (tT Y C W c)) (ha : PSs X pa (tR Y C W a)) (hd : PSs X pd (tR Y C W d)) : PSs X [.If pc pa pd pos] (tR Y C W [.ite c a d]) :=
  (pss_one (ps_if hc ha hd)).imp fun D σ H ⟨G0, H0, F, G, ρ, b, f⟩ => by
    rw [exs_one] at f
    simp only [exS] at f
    refine ⟨G, ρ, b.k, (FinR.bind b f).imp fun k G1 H1 _ ⟨g1, f1⟩ => ?_⟩
    show if k = true then _ else _
    cases k with
    | true => exact iteT ⟨G0, H0, F, G1, ρ, b.grow g1, f1⟩
    | false => exact iteF ⟨G0, H0, F, G1, ρ, b.grow g1, f1⟩
/-- the suite: return n.at, or return n.at == y -/
def suiteB (N : List Str) (sc : Scope) (i : Nat) (j : Option Nat) (n : Str) (st : Stmt) : Bool := match j, st with
  | none, .Return (some (.Attribute (.Name n' _) a _)) _ => decide (n' = n) && decide (a = ("at" : Str))
  | some j, .Return (some (.Compare (.Attribute (.Name n' _) a _) [.Eq] [.Name y _] _)) _ => decide (n' = n) && decide (a = ("at" : Str)) && decide (N[j]? = some y) && visB sc y && okN y && decide (i ≠ j)
  | _, _ => false
/-- what the suite does, at the slots and the heap behind the exception -/
def tSu (Y : Wh) (K : PySem.W.Frag) (i : Nat) (j : Option Nat) : Addr → Value → Option Addr → TS := fun a cls d D σ H => ∃ (k : Nat) (n : Int) (dd : Addr) (fI : Addr), cls = .ref (Y.ca k) ∧ d = some dd ∧ H dd = some (.xd [(("at" : Str), .int n)]) ∧ ExT K (Y.ca k) fI ∧ σ[i]? = some (some (.ref a)) ∧ (match j with
  | none => D.rt (.int n) H
  | some j => ∃ m : Int, σ[j]? = some (some (.int m)) ∧ D.rt (.bl (n == m)) H)
theorem lookup_at (v : V) : List.lookup ("at" : Str) [(("at" : Str), v)] = some v := by simp [List.lookup]
theorem pe_at {a : Addr} {oe : Obj} {cls : Value} {d : Option Addr} {pn : List (Addr × Obj)} {e : Expr} {te : TE} {pos : Pos} (hz : Zc cls d oe) (hf : ∃ vs, oe.data = .fields vs) (he : PE (X.suite a ((a, oe) :: pn)) e te)
    (hb : attributeBase e "at" X.env (eval e X.env) = eval e X.env) :
    PE (X.suite a ((a, oe) :: pn)) (.Attribute e "at" pos) (fun σ H Q => te σ H fun x H1 => ∃ C fI, ExT X.K C fI ∧ x = .ref a ∧ cls = .ref C ∧ ∃ (dd : Addr) (v : V), d = some dd ∧ H1 dd = some (.xd [(("at" : Str), v)]) ∧ Q v H1) := by
  refine ⟨fun pins s σ H Q I h => ?_⟩
  refine attr_of hb (thn (he.run pins s σ H _ I h) fun u s1 hh => ?_)
  obtain ⟨x, H1, I1, rx, C, fI, T, ex, ec, dd, v, ed, ea, q⟩ := hh
  subst ex
  obtain rfl : u = Value.ref a := rx
  subst ec
  subst ed
  obtain ⟨ha, _⟩ := I1.pin (a, oe) (List.mem_append_left _ List.mem_cons_self)
  obtain ⟨vs, hd⟩ := hf
  have hx : ObjOk X.prog X.w H1 s1.heap dd (.xd [(("at" : Str), v)]) := I1.hok dd _ ea
  obtain ⟨mA, hns, hr⟩ := hx
  obtain ⟨od, ho, hl⟩ := lookIn_ns hns
  obtain ⟨u, hu, ru⟩ := RelO.some_of (v := v) (o := mA "at") (by rw [← lookup_at v]; exact hr "at")
  have J : PySem.W.InstAt s1.heap a oe C (some od) := ⟨ha, hz.1, by unfold PySem.W.notCls; rw [hd] <;> rfl, by rw [hz.2]; exact ho⟩
  exact HandSPX.exc_get I1.kIn J T.xf.ga T.xf.gg T.xf.exC (PySem.W.findObj_own T.xf.hdC T.noN rfl (by rw [hl, hu])) (handed_of ru) ⟨v, H1, I1.tok _, ru, q⟩
theorem suite_ok {i : Nat} {j : Option Nat} {n : Str} {st : Stmt} (B : BC Y M C W X sc) (hN : X.N[i]? = some n) (hn : sc.names.lookup n = some .local) (ho : okN n = true) (hs : suiteB X.N sc i j n st = true) (a : Addr) (oe : Obj) (cls : Value) (d : Option Addr) (pn : List (Addr × Obj)) (hz : Zc cls d oe) (hf : ∃ vs, oe.data = .fields vs) :
    PSs (X.suite a ((a, oe) :: pn)) [st] (tSu Y X.K i j a cls d) := by
  have vis : Vis X.env.scope n := by
    rw [B.K.sc]
    exact .inl hn
  have pv : ∀ q : Pos, PE (X.suite a ((a, oe) :: pn)) (.Name n q) (tVar i) := fun q => pe_var (X := X.suite a ((a, oe) :: pn)) (pos := q) hN vis (okN_ok ho).1 (okN_ok ho).2.1
  have bs : ∀ (q : Pos), attributeBase (.Name n q) "at" X.env (eval (.Name n q) X.env) = eval (.Name n q) X.env := fun q => attr_plain fun _ _ _ z => by cases z
  unfold suiteB at hs
  split at hs
  · rename_i n' q a' q1 q2
    simp only [Bool.and_eq_true, decide_eq_true_eq] at hs
    obtain ⟨rfl, rfl⟩ := hs
    refine (pss_one (ps_ret (pe_at (pos := q1) hz hf (pv q) (bs q)))).imp fun D σ H h => ?_
    obtain ⟨k, m, dd, fI, e1, e2, e3, T, e4, e5⟩ := h
    exact ⟨_, e4, _, fI, T, rfl, e1, dd, _, e2, e3, e5⟩
  · rename_i j n' q a' q1 y q2 q3 q4
    simp only [Bool.and_eq_true, decide_eq_true_eq] at hs
    obtain ⟨⟨⟨⟨⟨rfl, rfl⟩, h1⟩, h2⟩, h3⟩, h4⟩ := hs
    have py : PE (X.suite a ((a, oe) :: pn)) (.Name y q2) (tVar j) := pe_var (X := X.suite a ((a, oe) :: pn)) (pos := q2) h1 (visB_ok B.K.sc h2) (okN_ok h3).1 (okN_ok h3).2.1
    refine (pss_one (ps_ret (pe_cmpR (X := X.suite a ((a, oe) :: pn)) (op := .Eq) op_eq (pe_at (pos := q1) hz hf (pv q) (bs q)) py (mark_plain rfl)))).imp fun D σ H h => ?_
    obtain ⟨k, m, dd, fI, e1, e2, e3, T, e4, m2, e5, e6⟩ := h
    refine ⟨_, e4, _, fI, T, rfl, e1, dd, _, e2, e3, _, e5, rfl, ?_⟩
    rw [dec_int]
    exact e6
  · cases hs
theorem _root_.L2.PS.withLen {e : Stmt} {t : TS} (h : PS X e t) : PS X e (fun D σ H => σ.length = X.N.length → t D σ H) := ⟨fun pins s σ H D I q => h.run pins s σ H D I (q I.len)⟩
theorem snS_try {body : List S} {k i : Nat} {j : Option Nat} {x n : Str} {pb : List Stmt} {st : Stmt} {np p1 pos : Pos} (B : BC Y M C W X sc) (hx : M.kn k = some x) (hg : glbB sc x = true) (hxo : okN x = true) (hN : X.N[i]? = some n) (hn : sc.names.lookup n = some .local) (ho : okN n = true)
    (hs : suiteB X.N sc i j n st = true) (hij : j ≠ some i) (hb : ∀ (W' : WX) (X' : Cx), BC Y M C W' X' sc → X'.N = X.N → PSs X' pb (tR Y C W' body)) :
    PS X (.Try pb [.ExceptHandler (some (.Name x np)) (some n) [st] p1] [] [] pos) (tS Y C W (.tryR body k i j)) := by
  obtain ⟨fI, T, hxa, hm⟩ := B.exs k x hx
  have kn : X.env.kindOf n = some .local := by
    show X.env.scope.names.lookup n = _
    rw [B.K.sc]
    exact hn
  refine (ps_try_as (i := i) (c := .ref (Y.ca k)) (Wout := W) (tb := fun W' => tR Y C W' body) (ts := tSu Y X.K i j) B.stk B.frm B.K.ok.nd hN kn ⟨glbB_ok B.K.sc hg, (okN_ok hxo).1, .inl hm⟩ B.tk
    (fun W' pn xe tk po => hb W' (X.tr pn xe) (B.tr tk po) rfl) (fun a oe cls d pn hz hf => suite_ok B hN hn ho hs a oe cls d pn hz hf)).withLen.imp fun D σ H ⟨G0, H0, F, G, ρ, b, f⟩ hlen => ?_
  simp only [exS] at f
  refine ⟨G0, H0, F, G, ρ, b, ?_⟩
  cases he : exs C ρ body with
  | nx ρ1 =>
    rw [he] at f
    exact fun G H b1 => f σ G H b1
  | rt d => rw [he] at f; exact f
  | bk ρ1 => rw [he] at f; exact f
  | ct ρ1 => rw [he] at f; exact f
  | bad => rw [he] at f; exact False.elim f
  | exc k' m =>
    rw [he] at f
    have f : FinO Y W G0 H0 F (if k' = k then catO ρ j m else .bad) D := f
    by_cases hk : k' = k
    · subst hk
      rw [if_pos rfl] at f
      refine fun H' d s xd => ⟨true, T.te, fun _ a ha => ?_, fun z => by cases z⟩
      unfold XD at xd
      rw [if_pos hxa] at xd
      obtain ⟨dd, rfl, _, hdd⟩ := xd
      have il : i < σ.length := by
        rw [hlen]
        exact (List.getElem?_eq_some_iff.mp hN).1
      refine ⟨k', m, dd, fI, rfl, rfl, hdd, T, by simp [il], ?_⟩
      have gr : Gr G0 H0 G0 H' := ⟨s, .refl _, b.z.trans s, fun a o e => .inl e⟩
      cases j with
      | none => exact f G0 H' _ gr (.int m)
      | some j =>
        have hji : i ≠ j := fun z => hij (by rw [z])
        have f : FinO Y W G0 H0 F (match ρ.get j with
          | .fr (.int m') => .rt (.bl (m == m'))
          | _ => .bad) D := f
        cases hg2 : ρ.get j with
        | un => rw [hg2] at f; exact False.elim f
        | own ds => rw [hg2] at f; exact False.elim f
        | fr dj =>
          have sl := b.k.sl j
          rw [hg2] at f sl
          obtain ⟨v, hv, rv⟩ := sl
          cases dj with
          | int m' =>
            cases rv
            exact ⟨m', by rw [List.getElem?_set_ne hji]; exact hv, f G0 H' _ gr (.bl _)⟩
          | _ => exact False.elim f
    · rw [if_neg hk] at f
      exact False.elim f
end
end PF

/-! PF, part N: does a text's statement match an own one; what it then does. -/
namespace PF
open PySem PySem.Spec PyProof.Rows L2

def sAsg : Stmt → Option (Expr × Expr)
  | .Assign [t] v _ => some (t, v)
  | _ => none
theorem sAsg_ok {s : Stmt} {v : Expr × Expr} (h : sAsg s = some v) : ∃ p, s = .Assign [v.1] v.2 p := by
  unfold sAsg at h
  split at h
  · cases h
    exact ⟨_, rfl⟩
  · cases h
def sExp : Stmt → Option Expr
  | .Expr v _ => some v
  | _ => none
theorem sExp_ok {s : Stmt} {v : Expr} (h : sExp s = some v) : ∃ p, s = .Expr v p := by
  unfold sExp at h
  split at h
  · cases h
    exact ⟨_, rfl⟩
  · cases h
def sRet : Stmt → Option (Option Expr)
  | .Return v _ => some v
  | _ => none
theorem sRet_ok {s : Stmt} {v : Option Expr} (h : sRet s = some v) : ∃ p, s = .Return v p := by
  unfold sRet at h
  split at h
  · cases h
    exact ⟨_, rfl⟩
  · cases h
def sIf : Stmt → Option (Expr × List Stmt × List Stmt)
  | .If c a b _ => some (c, a, b)
  | _ => none
theorem sIf_ok {s : Stmt} {v : Expr × List Stmt × List Stmt} (h : sIf s = some v) : ∃ p, s = .If v.1 v.2.1 v.2.2 p := by
  unfold sIf at h
  split at h
  · cases h
    exact ⟨_, rfl⟩
  · cases h
def sFor : Stmt → Option (Expr × Expr × List Stmt)
  | .For t i b [] _ => some (t, i, b)
  | _ => none
theorem sFor_ok {s : Stmt} {v : Expr × Expr × List Stmt} (h : sFor s = some v) : ∃ p, s = .For v.1 v.2.1 v.2.2 [] p := by
  unfold sFor at h
  split at h
  · cases h
    exact ⟨_, rfl⟩
  · cases h
def sWhl : Stmt → Option (Expr × List Stmt)
  | .While c b [] _ => some (c, b)
  | _ => none
theorem sWhl_ok {s : Stmt} {v : Expr × List Stmt} (h : sWhl s = some v) : ∃ p, s = .While v.1 v.2 [] p := by
  unfold sWhl at h
  split at h
  · cases h
    exact ⟨_, rfl⟩
  · cases h
def sAug : Stmt → Option (Str × Operator × Expr)
  | .AugAssign (.Name x _) o v _ => some (x, o, v)
  | _ => none
theorem sAug_ok {s : Stmt} {v : Str × Operator × Expr} (h : sAug s = some v) : ∃ q p, s = .AugAssign (.Name v.1 q) v.2.1 v.2.2 p := by
  unfold sAug at h
  split at h
  · cases h
    exact ⟨_, _, rfl⟩
  · cases h
def sRse : Stmt → Option (Str × Expr)
  | .Raise (some (.Call (.Name x _) [p] [] _)) none _ => some (x, p)
  | _ => none
theorem sRse_ok {s : Stmt} {v : Str × Expr} (h : sRse s = some v) : ∃ q q2 p, s = .Raise (some (.Call (.Name v.1 q) [v.2] [] q2)) none p := by
  unfold sRse at h
  split at h
  · cases h
    exact ⟨_, _, _, rfl⟩
  · cases h
def sTry : Stmt → Option (List Stmt × Str × Str × Stmt)
  | .Try pb [.ExceptHandler (some (.Name x _)) (some n) [st] _] [] [] _ => some (pb, x, n, st)
  | _ => none
theorem sTry_ok {s : Stmt} {v : List Stmt × Str × Str × Stmt} (h : sTry s = some v) : ∃ np p1 p, s = .Try v.1 [.ExceptHandler (some (.Name v.2.1 np)) (some v.2.2.1) [v.2.2.2] p1] [] [] p := by
  unfold sTry at h
  split at h
  · cases h
    exact ⟨_, _, _, rfl⟩
  · cases h
def sMeth (m : Str) : Stmt → Option (Str × Expr)
  | .Expr (.Call (.Attribute (.Name x _) a q1) [p] [] q2) _ => if a = m ∧ (q1.endLine == q2.line) = true then some (x, p) else none
  | _ => none
theorem sMeth_ok {m : Str} {s : Stmt} {v : Str × Expr} (h : sMeth m s = some v) : ∃ q q1 q2 p, (q1.endLine == q2.line) = true ∧ s = .Expr (.Call (.Attribute (.Name v.1 q) m q1) [v.2] [] q2) p := by
  unfold sMeth at h
  split at h
  · split at h
    · rename_i c
      cases h
      obtain ⟨rfl, c2⟩ := c
      exact ⟨_, _, _, _, c2, rfl⟩
    · cases h
  · cases h
/-- a method with two values -/
def sMeth2 (m : Str) : Stmt → Option (Str × Expr × Expr)
  | .Expr (.Call (.Attribute (.Name x _) a q1) [pk, p] [] q2) _ => if a = m ∧ (q1.endLine == q2.line) = true then some (x, pk, p) else none
  | _ => none
theorem sMeth2_ok {m : Str} {s : Stmt} {v : Str × Expr × Expr} (h : sMeth2 m s = some v) : ∃ q q1 q2 p, (q1.endLine == q2.line) = true ∧ s = .Expr (.Call (.Attribute (.Name v.1 q) m q1) [v.2.1, v.2.2] [] q2) p := by
  unfold sMeth2 at h
  split at h
  · split at h
    · rename_i c
      cases h
      obtain ⟨rfl, c2⟩ := c
      exact ⟨_, _, _, _, c2, rfl⟩
    · cases h
  · cases h
def vSubN : Expr → Option (Str × Expr)
  | .Subscript (.Name x _) k _ => some (x, k)
  | _ => none
theorem vSubN_ok {e : Expr} {v : Str × Expr} (h : vSubN e = some v) : ∃ q q1, e = .Subscript (.Name v.1 q) v.2 q1 := by
  unfold vSubN at h
  split at h
  · cases h
    exact ⟨_, _, rfl⟩
  · cases h
def isSmp : Stmt → Nat → Bool
  | .Pass _, 0 => true
  | .Break _, 1 => true
  | .Continue _, 2 => true
  | _, _ => false
def tgtB (sc : Scope) (x : Str) : Bool := match sc.names.lookup x with
  | some .local => true
  | some .cell => true
  | _ => false
def isTup : Expr → Bool
  | .Tuple _ _ _ => true
  | _ => false
def par2 (N : List Str) (sc : Scope) (i j : Nat) (tg v : Expr) : Option (Expr × Expr) := match tg, v with
  | .Tuple [.Name x px, .Name y py] _ _, .Tuple [a, b] _ _ => if N[i]? = some x ∧ N[j]? = some y ∧ sc.names.lookup x = some .local ∧ sc.names.lookup y = some .local ∧ x ≠ y ∧ (py.line == px.line) = true ∧ foldedForSure 8 a = false ∧ constantsAlone 8 a = false ∧ plainP a = true ∧ plainP b = true then some (a, b) else none
  | _, _ => none
section
variable (M : Mt) (N : List Str) (sc : Scope)
def chkAsg (i : Nat) (e : E) (st : Stmt) : Bool := match sAsg st with
  | some (tg, v) => (match vName tg with
    | some x => decide (N[i]? = some x) && tgtB sc x && chkE M N false sc e v
    | none => false)
  | none => false
def oneE : List E → Option E
  | [e] => some e
  | _ => none
mutual
def chkS : S → Stmt → Bool
  | .set i e, st => chkAsg M N sc i e st
  | .own i e, st => isO e && chkAsg M N sc i e st
  | .unp t e, st => (match sAsg st with
    | some (tg, v) => isTup tg && !isTup v && chkT N sc t tg && chkE M N false sc e v
    | none => false)
  | .par i j a b, st => (match sAsg st with
    | some (tg, v) => (match par2 N sc i j tg v with
      | some (pa, pb) => chkE M N false sc a pa && chkE M N false sc b pb
      | none => false)
    | none => false)
  | .exp e, st => (match sExp st with
    | some p => !isLC p && chkE M N false sc e p
    | none => false)
  | .ret e, st => (match sRet st with
    | some (some p) => chkE M N false sc e p
    | _ => false)
  | .retN, st => (match sRet st with
    | some none => true
    | _ => false)
  | .ite c a b, st => (match sIf st with
    | some (pc, pa, pb) => chkE M N false sc c pc && chkSs a pa && chkSs b pb
    | none => false)
  | .for_ t it body, st => (match sFor st with
    | some (tg, pit, pb) => chkE M N true sc it pit && itOk t it && chkT N sc t tg && chkSs body pb
    | none => false)
  | .whl _ c body, st => (match sWhl st with
    | some (pc, pb) => chkE M N false sc c pc && chkSs body pb
    | none => false)
  | .aug i o e, st => (match sAug st with
    | some (x, op, p) => decide (N[i]? = some x) && tgtB sc x && decide (bopOf o = op) && (decide (op = .Add) || decide (op = .Sub)) && chkE M N false sc e p
    | none => false)
  | .app i e, st => (match sMeth "append" st with
    | some (x, p) => decide (N[i]? = some x) && visB sc x && okN x && chkE M N false sc e p
    | none => false)
  | .ins i k e, st => (match sMeth2 "insert" st with
    | some (x, pk, p) => decide (N[i]? = some x) && visB sc x && okN x && chkE M N false sc k pk && chkE M N false sc e p
    | none => false)
  | .ext _ _, _ => false
  | .sit i k e, st => (match sAsg st with
    | some (tg, p) => (match vSubN tg with
      | some (x, pk) => decide (N[i]? = some x) && visB sc x && okN x && !isLC p && chkE M N false sc k pk && chkE M N false sc e p
      | none => false)
    | none => false)
  | .rse k es, st => (match oneE es with
    | some e => (match sRse st with
      | some (x, p) => decide (M.kn k = some x) && glbB sc x && okN x && chkE M N false sc e p
      | none => false)
    | none => false)
  | .tryR body k i j, st => (match sTry st with
    | some (pb, x, n, b) => decide (M.kn k = some x) && glbB sc x && okN x && decide (N[i]? = some n) && decide (sc.names.lookup n = some .local) && okN n && suiteB N sc i j n b && decide (j ≠ some i) && chkRs body pb
    | none => false)
  | .brk, st => isSmp st 1
  | .cnt, st => isSmp st 2
  | .pss, st => isSmp st 0
  | .frz _, _ => false
  | .fgt _, _ => false
def chkSs : List S → List Stmt → Bool
  | [], ps => ps.isEmpty
  | s :: ss, ps => (match s with
    | .frz _ => chkSs ss ps
    | .fgt _ => chkSs ss ps
    | s => (match ps with
      | p :: qs => chkS s p && chkSs ss qs
      | [] => false))
def chkR : S → Stmt → Bool
  | .exp e, st => (match sExp st with
    | some p => !isLC p && chkE M N false sc e p
    | none => false)
  | .ite c a b, st => (match sIf st with
    | some (pc, pa, pb) => chkE M N false sc c pc && chkRs a pa && chkRs b pb
    | none => false)
  | _, _ => false
def chkRs : List S → List Stmt → Bool
  | [], _ => false
  | s :: ss, ps => ss.isEmpty && (match ps with
    | [p] => chkR s p
    | _ => false)
end
end
section
variable {Y : Wh} {M : Mt} {C : Cal} {W : WX} {X : Cx} {sc : Scope}
theorem sw_eq {elt : Expr} {gens : List Comprehension} {s : Scope} {p pos : Pos} {t : Str} {line : Nat} {env : PySem.Env} (hk : env.scope.kind = .function) : swapsWith (.ListComp elt gens s p) (some (.Name t pos)) line env = pure (env.kindOf t == some .local && pos.line == p.line && !(s.names.any fun (n, k) => n == t && (k == .local || k == .cell))) := by
  have e : env.blockKind = .function := by
    unfold Env.blockKind
    rw [hk]
    rfl
  show (pure (env.blockKind == .function && env.kindOf t == some .local && pos.line == p.line && !(s.names.any fun (n, k) => n == t && (k == .local || k == .cell))) : Sem Bool) = _
  rw [e]
  rfl
theorem chk_LC {N : List Str} {w : Bool} {e : E} {p : Expr} (h : chkE M N w sc e p = true) (hl : isLC p = true) : (∃ t it cond elt ws, e = .comp t it cond elt ws) ∨ ∃ t it t2 it2 cond elt ws ws2, e = .comp2 t it t2 it2 cond elt ws ws2 := by
  cases p <;> first
    | (cases hl; done)
    | skip
  · cases e <;> first
      | exact .inl ⟨_, _, _, _, _, rfl⟩
      | exact .inr ⟨_, _, _, _, _, _, _, _, rfl⟩
      | (cases h; done)
  · cases e <;> (cases h; done)
  · cases e <;> (cases h; done)
theorem tgt_ok {x : Str} (B : BC Y M C W X sc) (h : tgtB sc x = true) : Loc X.env.scope x ∧ (X.fn x = true ∨ X.env.scope.names.lookup x = some .local) := by
  rw [B.K.sc]
  unfold tgtB at h
  split at h
  · rename_i q
    exact ⟨.inl q, .inr q⟩
  · rename_i q
    exact ⟨.inr q, .inl (B.cel x q)⟩
  · cases h
theorem BC.tgc (B : BC Y M C W X sc) : TgC X sc where
  loc := fun x h => by
    rw [B.K.sc]
    exact h
  cell := fun x h => ⟨by
    rw [B.K.sc]
    exact h, B.cel x h⟩
/-- a store into a name: of any value, of a list that is new -/
theorem asg_both {i : Nat} {e : E} {x : Str} {v : Expr} {px pos : Pos} (B : BC Y M C W X sc) (hk : sc.kind = .function) (hN : X.N[i]? = some x) (ht : tgtB sc x = true) (hc : chkE M X.N false sc e v = true) :
    PS X (.Assign [.Name x px] v pos) (tAsg (tE Y C W e) (gName i)) ∧ (isO e = true → PS X (.Assign [.Name x px] v pos) (tAsg (tO Y C W e) (gName i))) := by
  have hk' : X.env.scope.kind = .function := by
    rw [B.K.sc]
    exact hk
  obtain ⟨t1, t2⟩ := tgt_ok B ht
  have plain : swapsWith v (some (.Name x px)) pos.line X.env = pure false → PS X (.Assign [.Name x px] v pos) (tAsg (tE Y C W e) (gName i)) ∧ (isO e = true → PS X (.Assign [.Name x px] v pos) (tAsg (tO Y C W e) (gName i))) := fun hs =>
    ⟨ps_set B.K.ok.nd hN t1 ((snd e).pe B.K hc) hs t2, fun ho => ps_set B.K.ok.nd hN t1 ((snd e).po ho B.K hc) hs t2⟩
  cases hl : isLC v with
  | false => exact plain (swaps_no hl _ _ _)
  | true =>
    have up : PS X (.Assign [.Name x px] v pos) (tAsg (tO Y C W e) (gName i)) → PS X (.Assign [.Name x px] v pos) (tAsg (tE Y C W e) (gName i)) ∧ (isO e = true → PS X (.Assign [.Name x px] v pos) (tAsg (tO Y C W e) (gName i))) := fun h => ⟨h.imp fun D σ H q => tO_of q, fun _ => h⟩
    rcases chk_LC hc hl with ⟨t, it, cond, elt, ws, rfl⟩ | ⟨t, it, t2', it2, cond, elt, ws, ws2, rfl⟩
    · obtain ⟨pe, pt, pit, ifs, scope, q, rfl, cc⟩ := inv_comp hc
      have e := sw_eq (elt := pe) (gens := [⟨pt, pit, ifs, 0⟩]) (s := scope) (p := q) (pos := px) (t := x) (line := pos.line) hk'
      cases hb : (X.env.kindOf x == some .local && px.line == q.line && !(scope.names.any fun (n, k) => n == x && (k == .local || k == .cell))) with
      | false =>
        rw [hb] at e
        exact plain e
      | true =>
        rw [hb] at e
        simp only [Bool.and_eq_true, beq_iff_eq] at hb
        refine up (set_comp B.K cc ((snd it).pi false B.K cc.cit cc.ok cc.ctg) (fun X' K' e => (snd elt).pe K' (by rw [e]; exact cc.celt)) (fun X' p ei K' e => (snd cond).pt K' ?_) hN hb.1.1 e)
        rw [e]
        subst ei
        exact cc.cifs
    · obtain ⟨pe, pt, pit, pt2, pit2, ifs, scope, q, rfl, cc⟩ := inv_comp2 hc
      have e := sw_eq (elt := pe) (gens := [⟨pt, pit, [], 0⟩, ⟨pt2, pit2, ifs, 0⟩]) (s := scope) (p := q) (pos := px) (t := x) (line := pos.line) hk'
      cases hb : (X.env.kindOf x == some .local && px.line == q.line && !(scope.names.any fun (n, k) => n == x && (k == .local || k == .cell))) with
      | false =>
        rw [hb] at e
        exact plain e
      | true =>
        rw [hb] at e
        simp only [Bool.and_eq_true, beq_iff_eq] at hb
        refine up (set_comp2 B.K cc ((snd it).pi false B.K cc.cit cc.ok cc.ctg) (fun X' K' e => (snd it2).pi true K' (by rw [e]; exact cc.cit2) cc.ok2 (by rw [e]; exact cc.tg2)) (fun X' K' e => (snd elt).pe K' (by rw [e]; exact cc.celt)) (fun X' p ei K' e => (snd cond).pt K' ?_) hN hb.1.1 e)
        rw [e]
        subst ei
        exact cc.cifs
theorem chkAsg_inv {N : List Str} {i : Nat} {e : E} {st : Stmt} (h : chkAsg M N sc i e st = true) : ∃ x px v pos, st = .Assign [.Name x px] v pos ∧ N[i]? = some x ∧ tgtB sc x = true ∧ chkE M N false sc e v = true := by
  unfold chkAsg at h
  cases hs : sAsg st with
  | none => rw [hs] at h; cases h
  | some tv =>
    obtain ⟨tg, v⟩ := tv
    rw [hs] at h
    obtain ⟨p, rfl⟩ := sAsg_ok hs
    have h : (match vName tg with
      | some x => decide (N[i]? = some x) && tgtB sc x && chkE M N false sc e v
      | none => false) = true := h
    cases hv : vName tg with
    | none => rw [hv] at h; cases h
    | some x =>
      rw [hv] at h
      obtain ⟨px, rfl⟩ := vName_ok hv
      have h : (decide (N[i]? = some x) && tgtB sc x && chkE M N false sc e v) = true := h
      simp only [Bool.and_eq_true, decide_eq_true_eq] at h
      exact ⟨x, px, v, p, rfl, h.1.1, h.1.2, h.2⟩
theorem sw_par {env : PySem.Env} {x y : Str} {a b : Expr} {px py pt pt2 : Pos} {kt k2 : Nat} (hk : env.scope.kind = .function) (hx : env.kindOf x = some .local) (hy : env.kindOf y = some .local) (hne : x ≠ y) (hl : (py.line == px.line) = true) (f1 : foldedForSure 8 a = false) (c1 : constantsAlone 8 a = false) (pa : plainP a = true) (pb : plainP b = true) :
    swappedStores [.Tuple [.Name x px, .Name y py] kt pt] (.Tuple [a, b] k2 pt2) env = pure (some [x, y]) := by
  have hb : env.blockKind = .function := by
    unfold Env.blockKind
    rw [hk]
    rfl
  have hyx : (y == x) = false := by
    rw [beq_eq_false_iff_ne]
    exact Ne.symm hne
  have hxy : (x == y) = false := by
    rw [beq_eq_false_iff_ne]
    exact hne
  have ha : ([a, b].any fun | .Starred .. => true | _ => false) = false := by
    cases a <;> first | (cases pa; done) | (cases b <;> first | rfl | (cases pb; done))
  have hd : [x, y].eraseDups = [x, y] := by
    simp [List.eraseDups_cons, hyx]
  unfold swappedStores
  simp only [hb, hx, hy, hl, hd, f1, c1, ha, List.all_cons, List.filterMap_cons, List.head?_cons, Option.map_some, Option.getD_some, beq_self_eq_true, Bool.true_and, Bool.and_true, if_true, List.filterMap_nil, Bool.false_and, Expr.pos]
  simp [hd, hb]
  intro h
  rcases h with h | h
  · cases a <;> first | (cases pa; done) | cases h
  · cases b <;> first | (cases pb; done) | cases h
theorem par2_inv {N : List Str} {i j : Nat} {tg v pa pb : Expr} (h : par2 N sc i j tg v = some (pa, pb)) : ∃ x y px py pt pt2 kt k2, tg = .Tuple [.Name x px, .Name y py] kt pt ∧ v = .Tuple [pa, pb] k2 pt2 ∧ N[i]? = some x ∧ N[j]? = some y ∧ sc.names.lookup x = some .local ∧ sc.names.lookup y = some .local ∧ x ≠ y ∧ (py.line == px.line) = true ∧ foldedForSure 8 pa = false ∧ constantsAlone 8 pa = false ∧ plainP pa = true ∧ plainP pb = true := by
  unfold par2 at h
  split at h
  · split at h
    · rename_i c
      cases h
      obtain ⟨h1, h2, h3, h4, h5, h6, h7, h8, h9, h10⟩ := c
      exact ⟨_, _, _, _, _, _, _, _, rfl, rfl, h1, h2, h3, h4, h5, h6, h7, h8, h9, h10⟩
    · cases h
  · cases h
theorem snS_par {i j : Nat} {a b : E} {st : Stmt} (B : BC Y M C W X sc) (hk : sc.kind = .function) {tg v pa pb : Expr} {pos : Pos} (h : par2 X.N sc i j tg v = some (pa, pb)) (ha : PE X pa (tE Y C W a)) (hb : PE X pb (tE Y C W b)) :
    PS X (.Assign [tg] v pos) (tS Y C W (.par i j a b)) := by
  obtain ⟨x, y, px, py, pt, pt2, kt, k2, rfl, rfl, h1, h2, h3, h4, h5, h6, h7, h8, h9, h10⟩ := par2_inv h
  have e3 : X.env.scope.names.lookup x = some .local := by
    rw [B.K.sc]
    exact h3
  have e4 : X.env.scope.names.lookup y = some .local := by
    rw [B.K.sc]
    exact h4
  have hij : i ≠ j := fun z => by
    subst z
    rw [h1] at h2
    cases h2
    exact h5 rfl
  refine (ps_par (pos := pos) B.K.ok.calm B.K.ok.nd h1 h2 hij e3 e4 (snd_Acons h9 ha (snd_Acons h10 hb snd_Anil)) (sw_par (by rw [B.K.sc]; exact hk) e3 e4 h5 h6 h7 h8 h9 h10)).imp fun D σ H ⟨G0, H0, F, G, ρ, b', f⟩ => ?_
  simp only [exS] at f
  have f : FinO Y W G0 H0 F ((evs C ρ [a, b]).o fun ds => match ds with
    | [x, y] => .nx ((ρ.set i (.fr x)).set j (.fr y))
    | _ => .bad) D := by
    have e : ((ev C ρ a).o fun x => (ev C ρ b).o fun y => O.nx ((ρ.set i (.fr x)).set j (.fr y))) = ((evs C ρ [a, b]).o fun ds => match ds with
      | [x, y] => .nx ((ρ.set i (.fr x)).set j (.fr y))
      | _ => .bad) := by
      simp only [evs]
      cases ev C ρ a with
      | ok x => cases ev C ρ b <;> rfl
      | exc k n => rfl
      | bad => rfl
    rw [← e]
    exact f
  refine ⟨G, ρ, b'.k, (FinO.bind b' f).imp fun ds G1 H1 _ ⟨g1, f1⟩ vs rvs => ?_⟩
  match ds, rvs, f1 with
  | [x, y], .cons r1 (.cons r2 .nil), f1 =>
    have f1 : FinO Y W G0 H0 F (.nx ((ρ.set i (.fr x)).set j (.fr y))) D := f1
    exact ⟨_, _, rfl, f1 _ G1 H1 (((b'.grow g1).setFr r1).setFr r2)⟩
theorem isSmp_inv {st : Stmt} {n : Nat} (h : isSmp st n = true) : (∃ p, st = .Pass p ∧ n = 0) ∨ (∃ p, st = .Break p ∧ n = 1) ∨ ∃ p, st = .Continue p ∧ n = 2 := by
  unfold isSmp at h
  split at h
  · exact .inl ⟨_, rfl, rfl⟩
  · exact .inr (.inl ⟨_, rfl, rfl⟩)
  · exact .inr (.inr ⟨_, rfl, rfl⟩)
  · cases h
theorem unp_no {tg v : Expr} (h1 : isTup tg = true) (h2 : isTup v = false) (l : Nat) (env : PySem.Env) : swapsWithSole [tg] v l env = pure false ∧ swappedStores [tg] v env = pure none ∧ (assignEach [tg] env).map (·.2) = [assign tg env] := by
  cases tg <;> first
    | (cases h1; done)
    | skip
  refine ⟨?_, ?_, rfl⟩
  · cases v <;> rfl
  · cases v <;> first | rfl | cases h2
end
mutual
theorem sndS : ∀ (s : S) {Y : Wh} {M : Mt} {C : Cal} {W : WX} {X : Cx} {sc : Scope} {st : Stmt}, BC Y M C W X sc → sc.kind = .function → chkS M X.N sc s st = true → PS X st (tS Y C W s)
  | .set i e, Y, M, C, W, X, sc, st, B, hk, h => by
    obtain ⟨x, px, v, pos, rfl, h1, h2, h3⟩ := chkAsg_inv (show chkAsg M X.N sc i e st = true from h)
    exact asg_set (asg_both B hk h1 h2 h3).1
  | .own i e, Y, M, C, W, X, sc, st, B, hk, h => by
    obtain ⟨ho, h⟩ := Bool.and_eq_true_iff.mp (show (isO e && chkAsg M X.N sc i e st) = true from h)
    obtain ⟨x, px, v, pos, rfl, h1, h2, h3⟩ := chkAsg_inv h
    exact asg_own ((asg_both B hk h1 h2 h3).2 ho)
  | .unp t e, Y, M, C, W, X, sc, st, B, hk, h => by
    have h : (match sAsg st with
      | some (tg, v) => isTup tg && !isTup v && chkT X.N sc t tg && chkE M X.N false sc e v
      | none => false) = true := h
    cases hs : sAsg st with
    | none => rw [hs] at h; cases h
    | some tv =>
      obtain ⟨tg, v⟩ := tv
      rw [hs] at h
      obtain ⟨p, rfl⟩ := sAsg_ok hs
      have h : (isTup tg && !isTup v && chkT X.N sc t tg && chkE M X.N false sc e v) = true := h
      simp only [Bool.and_eq_true, Bool.not_eq_true'] at h
      obtain ⟨⟨⟨h1, h2⟩, h3⟩, h4⟩ := h
      obtain ⟨q1, q2, q3⟩ := unp_no h1 h2 p.line X.env
      exact snS_unp q1 q2 q3 ((snd e).pe B.K h4) (pg_tg B.K.ok B.tgc [] t tg h3)
  | .par i j a b, Y, M, C, W, X, sc, st, B, hk, h => by
    have h : (match sAsg st with
      | some (tg, v) => (match par2 X.N sc i j tg v with
        | some (pa, pb) => chkE M X.N false sc a pa && chkE M X.N false sc b pb
        | none => false)
      | none => false) = true := h
    cases hs : sAsg st with
    | none => rw [hs] at h; cases h
    | some tv =>
      obtain ⟨tg, v⟩ := tv
      rw [hs] at h
      obtain ⟨p, rfl⟩ := sAsg_ok hs
      have h : (match par2 X.N sc i j tg v with
        | some (pa, pb) => chkE M X.N false sc a pa && chkE M X.N false sc b pb
        | none => false) = true := h
      cases hp : par2 X.N sc i j tg v with
      | none => rw [hp] at h; cases h
      | some ab =>
        obtain ⟨pa, pb⟩ := ab
        rw [hp] at h
        obtain ⟨h1, h2⟩ := Bool.and_eq_true_iff.mp (show (chkE M X.N false sc a pa && chkE M X.N false sc b pb) = true from h)
        exact snS_par (st := .Pass p) B hk hp ((snd a).pe B.K h1) ((snd b).pe B.K h2)
  | .exp e, Y, M, C, W, X, sc, st, B, hk, h => by
    have h : (match sExp st with
      | some p => !isLC p && chkE M X.N false sc e p
      | none => false) = true := h
    cases hs : sExp st with
    | none => rw [hs] at h; cases h
    | some p =>
      rw [hs] at h
      obtain ⟨q, rfl⟩ := sExp_ok hs
      obtain ⟨h1, h2⟩ := Bool.and_eq_true_iff.mp (show (!isLC p && chkE M X.N false sc e p) = true from h)
      exact snS_exp (by simpa using h1) ((snd e).pe B.K h2)
  | .ret e, Y, M, C, W, X, sc, st, B, hk, h => by
    have h : (match sRet st with
      | some (some p) => chkE M X.N false sc e p
      | _ => false) = true := h
    cases hs : sRet st with
    | none => rw [hs] at h; cases h
    | some p =>
      rw [hs] at h
      obtain ⟨q, rfl⟩ := sRet_ok hs
      cases p with
      | none => cases h
      | some p => exact snS_ret ((snd e).pe B.K h)
  | .retN, Y, M, C, W, X, sc, st, B, hk, h => by
    have h : (match sRet st with
      | some none => true
      | _ => false) = true := h
    cases hs : sRet st with
    | none => rw [hs] at h; cases h
    | some p =>
      rw [hs] at h
      obtain ⟨q, rfl⟩ := sRet_ok hs
      cases p with
      | none => exact snS_retN
      | some p => cases h
  | .ite c a b, Y, M, C, W, X, sc, st, B, hk, h => by
    have h : (match sIf st with
      | some (pc, pa, pb) => chkE M X.N false sc c pc && chkSs M X.N sc a pa && chkSs M X.N sc b pb
      | none => false) = true := h
    cases hs : sIf st with
    | none => rw [hs] at h; cases h
    | some p =>
      obtain ⟨pc, pa, pb⟩ := p
      rw [hs] at h
      obtain ⟨q, rfl⟩ := sIf_ok hs
      have h : (chkE M X.N false sc c pc && chkSs M X.N sc a pa && chkSs M X.N sc b pb) = true := h
      simp only [Bool.and_eq_true] at h
      exact snS_ite ((snd c).pt B.K h.1.1) (sndSs a B hk h.1.2) (sndSs b B hk h.2)
  | .for_ t it body, Y, M, C, W, X, sc, st, B, hk, h => by
    have h : (match sFor st with
      | some (tg, pit, pb) => chkE M X.N true sc it pit && itOk t it && chkT X.N sc t tg && chkSs M X.N sc body pb
      | none => false) = true := h
    cases hs : sFor st with
    | none => rw [hs] at h; cases h
    | some p =>
      obtain ⟨tg, pit, pb⟩ := p
      rw [hs] at h
      obtain ⟨q, rfl⟩ := sFor_ok hs
      have h : (chkE M X.N true sc it pit && itOk t it && chkT X.N sc t tg && chkSs M X.N sc body pb) = true := h
      simp only [Bool.and_eq_true] at h
      obtain ⟨⟨⟨h1, h2⟩, h3⟩, h4⟩ := h
      exact snS_for B.pso B.K.ok.calm ((snd it).pi true B.K h1 h2 h3) (pg_tg B.K.ok B.tgc [] t tg h3) (sndSs body B hk h4) (fold_it h1 X.env)
  | .whl n c body, Y, M, C, W, X, sc, st, B, hk, h => by
    have h : (match sWhl st with
      | some (pc, pb) => chkE M X.N false sc c pc && chkSs M X.N sc body pb
      | none => false) = true := h
    cases hs : sWhl st with
    | none => rw [hs] at h; cases h
    | some p =>
      obtain ⟨pc, pb⟩ := p
      rw [hs] at h
      obtain ⟨q, rfl⟩ := sWhl_ok hs
      obtain ⟨h1, h2⟩ := Bool.and_eq_true_iff.mp (show (chkE M X.N false sc c pc && chkSs M X.N sc body pb) = true from h)
      exact snS_whl B.pso ((snd c).pt B.K h1) (sndSs body B hk h2)
  | .aug i o e, Y, M, C, W, X, sc, st, B, hk, h => by
    have h : (match sAug st with
      | some (x, op, p) => decide (X.N[i]? = some x) && tgtB sc x && decide (bopOf o = op) && (decide (op = .Add) || decide (op = .Sub)) && chkE M X.N false sc e p
      | none => false) = true := h
    cases hs : sAug st with
    | none => rw [hs] at h; cases h
    | some p =>
      obtain ⟨x, op, p⟩ := p
      rw [hs] at h
      obtain ⟨q, q2, rfl⟩ := sAug_ok hs
      have h : (decide (X.N[i]? = some x) && tgtB sc x && decide (bopOf o = op) && (decide (op = .Add) || decide (op = .Sub)) && chkE M X.N false sc e p) = true := h
      simp only [Bool.and_eq_true, Bool.or_eq_true, decide_eq_true_eq] at h
      obtain ⟨⟨⟨⟨h1, h2⟩, rfl⟩, h4⟩, h5⟩ := h
      obtain ⟨t1, t2⟩ := tgt_ok B h2
      refine snS_aug B.K h1 t1 t2 ?_ ((snd e).pe B.K h5)
      cases o <;> first | exact .inl rfl | exact .inr rfl | (rcases h4 with h4 | h4 <;> cases h4)
  | .app i e, Y, M, C, W, X, sc, st, B, hk, h0 => by
    have h : (match (generalizing := false) sMeth "append" st with
      | some (x, p) => decide (X.N[i]? = some x) && visB sc x && okN x && chkE M X.N false sc e p
      | none => false) = true := h0
    cases hs : sMeth "append" st with
    | none => rw [hs] at h; cases h
    | some p =>
      obtain ⟨x, p⟩ := p
      rw [hs] at h
      have h : (decide (X.N[i]? = some x) && visB sc x && okN x && chkE M X.N false sc e p) = true := h
      clear h0
      obtain ⟨q, q1, q2, q3, hq, rfl⟩ := sMeth_ok hs
      simp only [Bool.and_eq_true, decide_eq_true_eq] at h
      obtain ⟨⟨⟨h1, h2⟩, h3⟩, h4⟩ := h
      exact snS_app B.K h1 h2 h3 (chkE_plain h4) hq ((snd e).pe B.K h4)
  | .ins i k e, Y, M, C, W, X, sc, st, B, hk, h0 => by
    have h : (match (generalizing := false) sMeth2 "insert" st with
      | some (x, pk, p) => decide (X.N[i]? = some x) && visB sc x && okN x && chkE M X.N false sc k pk && chkE M X.N false sc e p
      | none => false) = true := h0
    cases hs : sMeth2 "insert" st with
    | none => rw [hs] at h; cases h
    | some v =>
      obtain ⟨x, pk, p⟩ := v
      rw [hs] at h
      have h : (decide (X.N[i]? = some x) && visB sc x && okN x && chkE M X.N false sc k pk && chkE M X.N false sc e p) = true := h
      clear h0
      obtain ⟨q, q1, q2, q3, hq, rfl⟩ := sMeth2_ok hs
      simp only [Bool.and_eq_true, decide_eq_true_eq] at h
      obtain ⟨⟨⟨⟨h1, h2⟩, h3⟩, h4⟩, h5⟩ := h
      exact snS_ins B.K h1 h2 h3 (chkE_plain h4) (chkE_plain h5) hq ((snd k).pe B.K h4) ((snd e).pe B.K h5)
  | .ext _ _, Y, M, C, W, X, sc, st, B, hk, h => by
    have z : false = true := h
    cases z
  | .sit i k e, Y, M, C, W, X, sc, st, B, hk, h => by
    have h : (match sAsg st with
      | some (tg, p) => (match vSubN tg with
        | some (x, pk) => decide (X.N[i]? = some x) && visB sc x && okN x && !isLC p && chkE M X.N false sc k pk && chkE M X.N false sc e p
        | none => false)
      | none => false) = true := h
    cases hs : sAsg st with
    | none => rw [hs] at h; cases h
    | some tv =>
      obtain ⟨tg, p⟩ := tv
      rw [hs] at h
      obtain ⟨q, rfl⟩ := sAsg_ok hs
      have h : (match vSubN tg with
        | some (x, pk) => decide (X.N[i]? = some x) && visB sc x && okN x && !isLC p && chkE M X.N false sc k pk && chkE M X.N false sc e p
        | none => false) = true := h
      cases hv : vSubN tg with
      | none => rw [hv] at h; cases h
      | some xp =>
        obtain ⟨x, pk⟩ := xp
        rw [hv] at h
        obtain ⟨q1, q2, rfl⟩ := vSubN_ok hv
        have h : (decide (X.N[i]? = some x) && visB sc x && okN x && !isLC p && chkE M X.N false sc k pk && chkE M X.N false sc e p) = true := h
        simp only [Bool.and_eq_true, decide_eq_true_eq, Bool.not_eq_true'] at h
        obtain ⟨⟨⟨⟨⟨h1, h2⟩, h3⟩, h4⟩, h5⟩, h6⟩ := h
        exact snS_sit B.K h1 h2 h3 h4 (chkE_plain h5) ((snd k).pe B.K h5) ((snd e).pe B.K h6)
  | .rse k es, Y, M, C, W, X, sc, st, B, hk, h => by
    have h : (match oneE es with
      | some e => (match sRse st with
        | some (x, p) => decide (M.kn k = some x) && glbB sc x && okN x && chkE M X.N false sc e p
        | none => false)
      | none => false) = true := h
    match es, h with
    | [e], h =>
      have h : (match sRse st with
        | some (x, p) => decide (M.kn k = some x) && glbB sc x && okN x && chkE M X.N false sc e p
        | none => false) = true := h
      cases hs : sRse st with
      | none => rw [hs] at h; cases h
      | some xp =>
        obtain ⟨x, p⟩ := xp
        rw [hs] at h
        obtain ⟨q, q2, q3, rfl⟩ := sRse_ok hs
        have h : (decide (M.kn k = some x) && glbB sc x && okN x && chkE M X.N false sc e p) = true := h
        simp only [Bool.and_eq_true, decide_eq_true_eq] at h
        obtain ⟨⟨⟨h1, h2⟩, h3⟩, h4⟩ := h
        exact snS_rse B h1 h2 h3 (chkE_plain h4) ((snd e).pe B.K h4)
  | .tryR body k i j, Y, M, C, W, X, sc, st, B, hk, h => by
    have h : (match sTry st with
      | some (pb, x, n, b) => decide (M.kn k = some x) && glbB sc x && okN x && decide (X.N[i]? = some n) && decide (sc.names.lookup n = some .local) && okN n && suiteB X.N sc i j n b && decide (j ≠ some i) && chkRs M X.N sc body pb
      | none => false) = true := h
    cases hs : sTry st with
    | none => rw [hs] at h; cases h
    | some v =>
      obtain ⟨pb, x, n, b⟩ := v
      rw [hs] at h
      obtain ⟨q, q2, q3, rfl⟩ := sTry_ok hs
      have h : (decide (M.kn k = some x) && glbB sc x && okN x && decide (X.N[i]? = some n) && decide (sc.names.lookup n = some .local) && okN n && suiteB X.N sc i j n b && decide (j ≠ some i) && chkRs M X.N sc body pb) = true := h
      simp only [Bool.and_eq_true, decide_eq_true_eq] at h
      obtain ⟨⟨⟨⟨⟨⟨⟨⟨h1, h2⟩, h3⟩, h4⟩, h5⟩, h6⟩, h7⟩, h8⟩, h9⟩ := h
      exact snS_try B h1 h2 h3 h4 h5 h6 h7 h8 fun W' X' B' e => sndRs body B' hk (by rw [e]; exact h9)
  | .brk, Y, M, C, W, X, sc, st, B, hk, h => by
    rcases isSmp_inv (show isSmp st 1 = true from h) with ⟨p, rfl, z⟩ | ⟨p, rfl, z⟩ | ⟨p, rfl, z⟩ <;> first | (cases z; done) | exact snS_brk
  | .cnt, Y, M, C, W, X, sc, st, B, hk, h => by
    rcases isSmp_inv (show isSmp st 2 = true from h) with ⟨p, rfl, z⟩ | ⟨p, rfl, z⟩ | ⟨p, rfl, z⟩ <;> first | (cases z; done) | exact snS_cnt
  | .pss, Y, M, C, W, X, sc, st, B, hk, h => by
    rcases isSmp_inv (show isSmp st 0 = true from h) with ⟨p, rfl, z⟩ | ⟨p, rfl, z⟩ | ⟨p, rfl, z⟩ <;> first | (cases z; done) | exact snS_pss
  | .frz _, Y, M, C, W, X, sc, st, B, hk, h => by
    have z : false = true := h
    cases z
  | .fgt _, Y, M, C, W, X, sc, st, B, hk, h => by
    have z : false = true := h
    cases z
theorem sndSs : ∀ (ss : List S) {Y : Wh} {M : Mt} {C : Cal} {W : WX} {X : Cx} {sc : Scope} {ps : List Stmt}, BC Y M C W X sc → sc.kind = .function → chkSs M X.N sc ss ps = true → PSs X ps (tSs Y C W ss)
  | [], Y, M, C, W, X, sc, ps, B, hk, h => by
    have e := List.isEmpty_iff.mp (show ps.isEmpty = true from h)
    subst e
    exact snds_nil
  | s :: ss, Y, M, C, W, X, sc, ps, B, hk, h => by
    have main : (match (generalizing := false) ps with
      | p :: qs => chkS M X.N sc s p && chkSs M X.N sc ss qs
      | [] => false) = true → PSs X ps (tSs Y C W (s :: ss)) := fun h => by
      cases ps with
      | nil => cases h
      | cons p qs =>
        obtain ⟨h1, h2⟩ := Bool.and_eq_true_iff.mp (show (chkS M X.N sc s p && chkSs M X.N sc ss qs) = true from h)
        exact snds_cons (sndS s B hk h1) (sndSs ss B hk h2)
    cases s with
    | frz i => exact snds_frz (sndSs ss B hk (show chkSs M X.N sc ss ps = true from h))
    | fgt is => exact snds_fgt (sndSs ss B hk (show chkSs M X.N sc ss ps = true from h))
    | _ => exact main h
theorem sndR : ∀ (s : S) {Y : Wh} {M : Mt} {C : Cal} {W : WX} {X : Cx} {sc : Scope} {st : Stmt}, BC Y M C W X sc → sc.kind = .function → chkR M X.N sc s st = true → PSs X [st] (tR Y C W [s])
  | .exp e, Y, M, C, W, X, sc, st, B, hk, h => by
    have h : (match sExp st with
      | some p => !isLC p && chkE M X.N false sc e p
      | none => false) = true := h
    cases hs : sExp st with
    | none => rw [hs] at h; cases h
    | some p =>
      rw [hs] at h
      obtain ⟨q, rfl⟩ := sExp_ok hs
      obtain ⟨h1, h2⟩ := Bool.and_eq_true_iff.mp (show (!isLC p && chkE M X.N false sc e p) = true from h)
      exact snR_exp (by simpa using h1) ((snd e).pe B.K h2)
  | .ite c a b, Y, M, C, W, X, sc, st, B, hk, h => by
    have h : (match sIf st with
      | some (pc, pa, pb) => chkE M X.N false sc c pc && chkRs M X.N sc a pa && chkRs M X.N sc b pb
      | none => false) = true := h
    cases hs : sIf st with
    | none => rw [hs] at h; cases h
    | some p =>
      obtain ⟨pc, pa, pb⟩ := p
      rw [hs] at h
      obtain ⟨q, rfl⟩ := sIf_ok hs
      have h : (chkE M X.N false sc c pc && chkRs M X.N sc a pa && chkRs M X.N sc b pb) = true := h
      simp only [Bool.and_eq_true] at h
      exact snR_ite ((snd c).pt B.K h.1.1) (sndRs a B hk h.1.2) (sndRs b B hk h.2)
  | .set _ _, _, _, _, _, _, _, _, _, _, h => by cases (show false = true from h)
  | .own _ _, _, _, _, _, _, _, _, _, _, h => by cases (show false = true from h)
  | .unp _ _, _, _, _, _, _, _, _, _, _, h => by cases (show false = true from h)
  | .par _ _ _ _, _, _, _, _, _, _, _, _, _, h => by cases (show false = true from h)
  | .ret _, _, _, _, _, _, _, _, _, _, h => by cases (show false = true from h)
  | .retN, _, _, _, _, _, _, _, _, _, h => by cases (show false = true from h)
  | .for_ _ _ _, _, _, _, _, _, _, _, _, _, h => by cases (show false = true from h)
  | .whl _ _ _, _, _, _, _, _, _, _, _, _, h => by cases (show false = true from h)
  | .aug _ _ _, _, _, _, _, _, _, _, _, _, h => by cases (show false = true from h)
  | .app _ _, _, _, _, _, _, _, _, _, _, h => by cases (show false = true from h)
  | .ins _ _ _, _, _, _, _, _, _, _, _, _, h => by cases (show false = true from h)
  | .ext _ _, _, _, _, _, _, _, _, _, _, h => by cases (show false = true from h)
  | .sit _ _ _, _, _, _, _, _, _, _, _, _, h => by cases (show false = true from h)
  | .rse _ _, _, _, _, _, _, _, _, _, _, h => by cases (show false = true from h)
  | .tryR _ _ _ _, _, _, _, _, _, _, _, _, _, h => by cases (show false = true from h)
  | .brk, _, _, _, _, _, _, _, _, _, h => by cases (show false = true from h)
  | .cnt, _, _, _, _, _, _, _, _, _, h => by cases (show false = true from h)
  | .pss, _, _, _, _, _, _, _, _, _, h => by cases (show false = true from h)
  | .frz _, _, _, _, _, _, _, _, _, _, h => by cases (show false = true from h)
  | .fgt _, _, _, _, _, _, _, _, _, _, h => by cases (show false = true from h)
theorem sndRs : ∀ (ss : List S) {Y : Wh} {M : Mt} {C : Cal} {W : WX} {X : Cx} {sc : Scope} {ps : List Stmt}, BC Y M C W X sc → sc.kind = .function → chkRs M X.N sc ss ps = true → PSs X ps (tR Y C W ss)
  | [], _, _, _, _, _, _, _, _, _, h => by cases (show false = true from h)
  | s :: ss, Y, M, C, W, X, sc, ps, B, hk, h => by
    obtain ⟨h1, h2⟩ := Bool.and_eq_true_iff.mp (show (ss.isEmpty && (match (generalizing := false) ps with
      | [p] => chkR M X.N sc s p
      | _ => false)) = true from h)
    have e := List.isEmpty_iff.mp h1
    subst e
    match ps, h2 with
    | [p], h2 => exact sndR s B hk h2
end
end PF

/-! PF, part O: a program of defs, from its head's facts. -/
namespace PF
open PySem PySem.Spec PyProof.Rows L2

/-- one def: its name, its statement, its parameters, its names, its body in the own syntax -/
structure FE where
  id : Nat
  x : Str
  st : Stmt
  ps : List Str
  N : List Str
  body : List S
def FE.fn (e : FE) : Fn := ⟨e.ps.length, e.N.length, e.body⟩
def FE.dd (e : FE) : He.DefD := ⟨(e.x, none), e.x, e.x, defArgs e.st, defBody e.st, defScope e.st, [], []⟩
def FE.bnd (e : FE) : Prop := ∀ (kV doc pm : Value) (an : Option Addr) (cdv ct : Value) (us : List Value), us.length = e.ps.length → bindArgs (PySem.W.fnOf e.x e.x (defArgs e.st) (defBody e.st) (defScope e.st) .none kV doc pm an cdv ct) ⟨us, []⟩ = pure (e.ps.zip us)
inductive CV where
  | int (i : Int) | str (s : Str)
def CV.d : CV → D
  | .int i => .int i
  | .str s => .str s
def CV.fa (x : Str) : CV → He.Fa
  | .int i => .int x i
  | .str s => .str x s
/-- one own exception class: its name; where its __init__'s words stand -/
structure XE where
  id : Nat
  x : Str
  q : Str
  p1 : Pos
  p2 : Pos
  q1 : Pos
  q2 : Pos
  q3 : Pos
  q4 : Pos
def XE.dd (e : XE) : He.DefD := ⟨(e.x, some "__init__"), "__init__", e.q, iA e.p1 e.p2, iB e.q1 e.q2 e.q3 e.q4, iS, [], []⟩
/-- all of it -/
structure Tx where
  L : List FE
  Cs : List (Nat × Str × CV)
  Xs : List XE
  free : List Str
  gcd : Bool
section
variable (T : Tx)
def Tx.f (k : Nat) : Option FE := T.L.find? fun e => e.id == k
def Tx.c (k : Nat) : Option (Str × CV) := T.Cs.lookup k
def Tx.e (k : Nat) : Option XE := T.Xs.find? fun e => e.id == k
def Tx.prg : Prg := ⟨fun f => (T.f f).map FE.fn, fun k => (T.c k).map fun p => p.2.d⟩
def Tx.mt : Mt := ⟨fun f => (T.f f).map FE.x, fun k => (T.c k).map (·.1), fun k => (T.e k).map XE.x, T.free, T.gcd⟩
def Tx.wh (K : PySem.W.Frag) : Wh where
  K := K
  fa := fun f => He.ga K ((T.f f).map FE.x |>.getD Str.empty)
  ca := fun k => He.ga K ((T.e k).map XE.x |>.getD Str.empty)
  xa := fun _ => true
  np := fun f => ((T.f f).map fun e => e.ps.length).getD 0
  kn := fun f => (T.f f).isSome
def Tx.fns : List He.DefD := T.L.map FE.dd ++ T.Xs.map XE.dd
def Tx.fas : List He.Fa := T.L.map (fun e => .glo e.x) ++ T.Xs.map (fun e => .glo e.x) ++ T.free.map .free ++ T.Cs.map (fun p => p.2.2.fa p.2.1)
end
theorem mem_f {T : Tx} {f : Nat} {e : FE} (h : T.f f = some e) : e ∈ T.L := List.mem_of_find?_eq_some h
theorem mem_e {T : Tx} {f : Nat} {e : XE} (h : T.e f = some e) : e ∈ T.Xs := List.mem_of_find?_eq_some h
theorem mem_c {T : Tx} {k : Nat} {p : Str × CV} (h : T.c k = some p) : (k, p) ∈ T.Cs := by
  unfold Tx.c at h
  have go : ∀ {l : List (Nat × Str × CV)}, l.lookup k = some p → (k, p) ∈ l := by
    intro l
    induction l with
    | nil => intro h; cases h
    | cons q l ih =>
      intro h
      obtain ⟨a, b⟩ := q
      rw [List.lookup_cons] at h
      split at h
      · rename_i hk
        cases h
        rw [beq_iff_eq.mp hk]
        exact List.mem_cons_self
      · exact List.mem_cons_of_mem _ (ih h)
  exact go h
def knd (k : ScopeKind) : Bool := match k with
  | .function => true
  | _ => false
def scB (N ps : List Str) (sc : Scope) : Bool := knd sc.kind && !sc.isCoroutine && !sc.isGenerator && decide N.Nodup && decide (N.take ps.length = ps) &&
  (ps.all fun x => match sc.names.lookup x with
    | some .local => true
    | some .cell => true
    | _ => false) && (sc.names.all fun y => match y.2 with
    | .free => false
    | _ => true)
theorem scB_ok {N ps : List Str} {sc : Scope} (h : scB N ps sc = true) : FnScope N ps sc := by
  unfold scB at h
  simp only [Bool.and_eq_true, Bool.not_eq_true', decide_eq_true_eq, List.all_eq_true] at h
  obtain ⟨⟨⟨⟨⟨⟨h1, h2⟩, h3⟩, h4⟩, h5⟩, h6⟩, h7⟩ := h
  refine ⟨?_, h2, h3, h4, h5, fun x hx => ?_, fun y hy e => ?_⟩
  · unfold knd at h1
    split at h1
    · assumption
    · cases h1
  · have q := h6 x hx
    split at q
    · rename_i z; exact .inl z
    · rename_i z; exact .inr z
    · cases q
  · have q := h7 y hy
    rw [e] at q
    cases q
def FE.ok (M : Mt) (e : FE) : Bool := scB e.N e.ps (defScope e.st) && chkSs M e.N (defScope e.st) e.body (defBody e.st)
/-- what the written part must say of an own exception class -/
def extB (K : PySem.W.Frag) (C fI : Addr) : Bool := PySem.W.excInitIn K C exTail "Exception.__new__" && (match PySem.W.clsIn K C with
  | some cd => exMro cd.mro && cd.hasDict
  | none => false) && decide (PySem.W.findIn K (.ref C) "__setattr__" = some (some (.builtin "object.__setattr__"))) && xfB K C && decide (PySem.W.findIn K (.ref C) "at" = some none) && decide (PySem.W.findIn K (.ref C) "__init__" = some (some (.ref fI))) &&
  decide (PySem.W.typeIn K (.ref fI) = some (.type "function")) && PySem.W.keepIn K (.ref C) && decide (PySem.W.typeIn K (.ref C) = some (.type "type")) && decide (PySem.W.exmOne K (.ref C) (.ref C) = some true)
def exB (T : Tx) (K : PySem.W.Frag) : Bool := (T.Xs.all fun e => extB K (He.ga K e.x) (He.fAd K (e.x, some "__init__"))) && (!T.gcd || decide (PySem.W.nsIn K mainGlobals "gcd" = some (some (.builtin "math.gcd"))))

/-! ### the Hook: HandS's facts and one more Bool -/
def obsP (n : Nat) (T : Tx) (g : Addr → Option Obj) : He.AlD × Bool := (He.obsD T.fas T.fns (He.frG g (He.asD g n)), exB T (He.frG g (He.asD g n)))
def SaysP (T : Tx) (K : PySem.W.Frag) : Prop := He.SaysD T.fas T.fns K ∧ exB T K = true
def hookP (n : Nat) (T : Tx) : PySem.W.Hook where
  α := He.AlD × Bool
  obs := fun s => obsP n T s.heap.get?
  val := fun _ => (He.valD T.fns, true)
  says := fun _ h => ∃ K : PySem.W.Frag, K.In h ∧ SaysP T K
  of := fun _ _ e => ⟨_, He.frG_in, congrArg (fun z : He.AlD × Bool => z.1) e, congrArg (fun z : He.AlD × Bool => z.2) e⟩
  keeps := fun _ _ _ ⟨K, hK, c⟩ k => ⟨K, PySem.W.Frag.In.keeps hK k, c⟩
theorem obsP_eq {n : Nat} {T : Tx} {g : Addr → Option Obj} {s : Shared} (h : ∀ a, g a = s.heap.get? a) : obsP n T g = (hookP n T).obs s := by
  have e : g = s.heap.get? := funext h
  rw [e] <;> rfl

theorem says_fact {fa : List He.Fa} {fn : List He.DefD} {K : PySem.W.Frag} (c : He.SaysD fa fn K) {f : He.Fa} (h : f ∈ fa) : f.ok K = true := by
  obtain ⟨i, hi, e⟩ := List.mem_iff_getElem.mp h
  exact c.fact i (by rw [List.getElem?_eq_getElem hi, e])
theorem says_def {fa : List He.Fa} {fn : List He.DefD} {K : PySem.W.Frag} (c : He.SaysD fa fn K) {d : He.DefD} (h : d ∈ fn) : ∃ fd, FunD K d.name d.qual d.params d.body d.scope (d.dvs K) (d.kws K) (He.fAd K d.at_) fd := by
  obtain ⟨i, hi, e⟩ := List.mem_iff_getElem.mp h
  exact c.def_ i (by rw [List.getElem?_eq_getElem hi, e])
section
variable {P : Program} {w : World} {K : PySem.W.Frag} {h : Heap} {mg : Str → Option Value} {T : Tx}
theorem callF_eq {T : Prg} {n f : Nat} {F : Fn} {ds : List D} (h : T.fns f = some F) (hl : ds.length = F.np) : callF T (n + 1) f ds = (exs ⟨callF T n, T.con⟩ (startE ds F.ns) F.body).r := by
  rw [callF]
  simp only [h, hl, if_true]
theorem callF_ari {n f : Nat} {ds : List D} (hl : ds.length ≠ (T.wh K).np f) : callF T.prg n f ds = .bad := by
  cases n with
  | zero => rfl
  | succ n =>
    unfold callF
    cases hf : T.f f with
    | none => simp [Tx.prg, hf]
    | some e =>
      have hn : ds.length ≠ e.ps.length := by
        simpa [Tx.wh, hf] using hl
      simp [Tx.prg, hf, FE.fn, hn]
theorem start_ok {Y : Wh} {G H : Hp} {N : List Str} {vs : List V} {ds : List D} (s : Same G H) (r : RpA Y G vs ds) (hl : ds.length ≤ N.length) : EOk Y G H (L2.start N vs) (startE ds N.length) := by
  have hl2 : vs.length = ds.length := r.length
  have sl : ∀ i, SlOk Y G H ((L2.start N vs)[i]?) ((startE ds N.length).get i) := by
    intro i
    have gen : ∀ {vs : List V} {ds : List D} {n : Nat} (i : Nat), RpA Y G vs ds → SlOk Y G H ((vs.map some ++ List.replicate n none)[i]?) (Env.get (ds.map SV.fr ++ List.replicate n SV.un) i) := by
      intro vs ds n i r
      induction r using RpA.rec (motive_1 := fun _ _ _ => True) generalizing i with
      | nil =>
        have e : ∀ (n i : Nat), Env.get (List.replicate n SV.un) i = .un := by
          intro n
          induction n with
          | zero => intro i; rfl
          | succ n ih => intro i; cases i with
            | zero => rfl
            | succ i => exact ih i
        simp only [List.map_nil, List.nil_append]
        rw [e]
        trivial
      | cons rv rvs _ ih =>
        cases i with
        | zero => exact ⟨_, rfl, rv⟩
        | succ i => exact ih i
      | _ => trivial
    have e1 : L2.start N vs = vs.map some ++ List.replicate (N.length - ds.length) none := by
      unfold L2.start
      rw [hl2]
    rw [e1]
    exact gen i r
  have no : ∀ i, isOwn ((startE ds N.length).get i) = true → False := by
    intro i hi
    have gen : ∀ (ds : List D) (n i : Nat), isOwn (Env.get (ds.map SV.fr ++ List.replicate n SV.un) i) = true → False := by
      intro ds
      induction ds with
      | nil =>
        intro n
        induction n with
        | zero => intro i h; cases i <;> cases h
        | succ n ih =>
          intro i h
          cases i with
          | zero => cases h
          | succ i => exact ih i h
      | cons d ds ih =>
        intro n i h
        cases i with
        | zero => cases h
        | succ i => exact ih n i h
    exact gen ds _ i hi
  refine ⟨?_, s, sl, fun i j a _ h1 => (no i h1).elim⟩
  unfold L2.start startE
  simp
  omega
theorem no_own {ds : List D} {n i : Nat} (h : isOwn ((startE ds n).get i) = true) : False := by
  have gen : ∀ (ds : List D) (n i : Nat), isOwn (Env.get (ds.map SV.fr ++ List.replicate n SV.un) i) = true → False := by
    intro ds
    induction ds with
    | nil =>
      intro n
      induction n with
      | zero => intro i h; cases i <;> cases h
      | succ n ih =>
        intro i h
        cases i with
        | zero => cases h
        | succ i => exact ih i h
    | cons d ds ih =>
      intro n i h
      cases i with
      | zero => cases h
      | succ i => exact ih n i h
  exact gen ds _ i h
/-- the facts together -/
structure Hd (T : Tx) (K : PySem.W.Frag) (mg : Str → Option Value) : Prop where
  chk : ∀ e ∈ T.L, e.ok T.mt = true
  bnd : ∀ e ∈ T.L, e.bnd
  fn : ∀ f e, T.f f = some e → ∃ fd, FunD K e.x e.x (defArgs e.st) (defBody e.st) (defScope e.st) [] [] ((T.wh K).fa f) fd
  gf : ∀ f e, T.f f = some e → mg e.x = some (.ref ((T.wh K).fa f))
  free : ∀ x, T.free.contains x = true → mg x = none
  gcd : T.gcd = true → mg "gcd" = some (.builtin "math.gcd")
  con : ∀ (k : Nat) (p : Str × CV), T.c k = some p → ∃ u v, mg p.1 = some u ∧ RelV v u ∧ ∀ G, Rp (T.wh K) G v p.2.d
  exs : ∀ k e, T.e k = some e → ∃ fI, ExT K ((T.wh K).ca k) fI ∧ mg e.x = some (.ref ((T.wh K).ca k))
theorem hd_of (X : K.In h) (G : h.Ns mainGlobals mg) (c : SaysP T K) (chk : T.L.all (fun e => e.ok T.mt) = true) (bnd : ∀ e ∈ T.L, e.bnd) : Hd T K mg where
  chk := fun e he => List.all_eq_true.mp chk e he
  bnd := bnd
  fn := fun f e he => by
    have hm : e.dd ∈ T.fns := List.mem_append_left _ (List.mem_map.mpr ⟨e, mem_f he, rfl⟩)
    obtain ⟨fd, F⟩ := says_def c.1 hm
    refine ⟨fd, ?_⟩
    have e1 : (T.wh K).fa f = He.fAd K (e.x, none) := by
      simp [Tx.wh, he, He.fAd]
    rw [e1]
    exact F
  gf := fun f e he => by
    have hm : He.Fa.glo e.x ∈ T.fas := List.mem_append_left _ (List.mem_append_left _ (List.mem_append_left _ (List.mem_map.mpr ⟨e, mem_f he, rfl⟩)))
    have q := He.glo_ok X G (says_fact c.1 hm)
    have e1 : (T.wh K).fa f = He.ga K e.x := by simp [Tx.wh, he]
    rw [e1]
    exact q
  free := fun x hx => by
    have hx : x ∈ T.free := by simpa using hx
    have hm : He.Fa.free x ∈ T.fas := List.mem_append_left _ (List.mem_append_right _ (List.mem_map.mpr ⟨x, hx, rfl⟩))
    exact He.free_ok X G (says_fact c.1 hm)
  gcd := fun hg => by
    have q := (Bool.and_eq_true_iff.mp c.2).2
    rw [hg] at q
    exact PySem.W.mg_of X G (of_decide_eq_true (by simpa using q))
  con := fun k p hp => by
    obtain ⟨x, v⟩ := p
    have hm : v.fa x ∈ T.fas := List.mem_append_right _ (List.mem_map.mpr ⟨(k, x, v), mem_c hp, rfl⟩)
    have q := says_fact c.1 hm
    cases v with
    | int i =>
      obtain ⟨t, e⟩ := He.int_ok X G q
      exact ⟨_, .int i, e, ⟨t, rfl⟩, fun G => .int i⟩
    | str s =>
      obtain ⟨t, e⟩ := He.str_ok X G q
      exact ⟨_, .str s, e, ⟨t, rfl⟩, fun G => .str s⟩
  exs := fun k e he => by
    have hm : He.Fa.glo e.x ∈ T.fas := List.mem_append_left _ (List.mem_append_left _ (List.mem_append_right _ (List.mem_map.mpr ⟨e, mem_e he, rfl⟩)))
    have q := He.glo_ok X G (says_fact c.1 hm)
    have e1 : (T.wh K).ca k = He.ga K e.x := by simp [Tx.wh, he]
    rw [e1]
    refine ⟨He.fAd K (e.x, some "__init__"), ?_, q⟩
    have b := List.all_eq_true.mp (Bool.and_eq_true_iff.mp c.2).1 e (mem_e he)
    unfold extB at b
    simp only [Bool.and_eq_true, decide_eq_true_eq] at b
    obtain ⟨⟨⟨⟨⟨⟨⟨⟨⟨b1, b2⟩, b3⟩, b4⟩, b5⟩, b6⟩, b7⟩, b8⟩, b9⟩, b10⟩ := b
    have hm2 : e.dd ∈ T.fns := List.mem_append_right _ (List.mem_map.mpr ⟨e, mem_e he, rfl⟩)
    obtain ⟨fd, F⟩ := says_def c.1 hm2
    obtain ⟨oc, od, dV, kV, doc, pm, an, cdv, ct, osl, rfl, lk, hcd, hD, hK⟩ := F.ex
    have hdV : dV = .none := by
      rcases hD with ⟨_, z⟩ | ⟨z, _⟩
      · exact z
      · exact absurd rfl z
    subst hdV
    refine ⟨b1, ?_, b3, xfB_ok b4, b5, b6, b7, b8, b9, b10, e.q, oc, od, kV, doc, pm, an, cdv, ct, osl, e.p1, e.p2, e.q1, e.q2, e.q3, e.q4, lk, hcd⟩
    split at b2
    · rename_i cd hcd2
      obtain ⟨b11, b12⟩ := Bool.and_eq_true_iff.mp b2
      exact ⟨cd, hcd2, b11, b12⟩
    · cases b2
theorem Hd.knd (A : Hd T K mg) {f : Nat} {e : FE} (he : T.f f = some e) : FnScope e.N e.ps (defScope e.st) ∧ chkSs T.mt e.N (defScope e.st) e.body (defBody e.st) = true := by
  obtain ⟨h1, h2⟩ := Bool.and_eq_true_iff.mp (A.chk e (mem_f he))
  exact ⟨scB_ok h1, h2⟩
/-- every def keeps the evaluator's promise -/
theorem fn_all (A : Hd T K mg) {base : Heap} : ∀ (n f : Nat) (e : FE) (fd : FuncData), T.f f = some e → FunD K e.x e.x (defArgs e.st) (defBody e.st) (defScope e.st) [] [] ((T.wh K).fa f) fd → FnOk P w K mg base (L2.CX P w) n ((T.wh K).fa f) fd e.ps (spC (T.wh K) ⟨callF T.prg n, T.prg.con⟩ f)
  | 0, f, e, fd, he, F => by
    have no : ∀ vs H Q E, ¬ spC (T.wh K) ⟨callF T.prg 0, T.prg.con⟩ f vs H Q E := fun vs H Q E h => by
      obtain ⟨G, ds, _, _, _, q⟩ := h
      exact q
    exact ⟨fun vs H Q E h => (no _ _ _ _ h).elim, fun A outer s H args us vs Q E _ _ _ _ h => (no _ _ _ _ h).elim⟩
  | n + 1, f, e, fd, he, F => by
    obtain ⟨S, ck⟩ := A.knd he
    have hlen : ∀ vs H Q E, spC (T.wh K) ⟨callF T.prg (n + 1), T.prg.con⟩ f vs H Q E → vs.length = e.ps.length := fun vs H Q E h => by
      obtain ⟨G, ds, _, r, hl, _⟩ := h
      rw [r.length, hl]
      simp [Tx.wh, he]
    refine F.ok S hlen fun cdv Ar outer s H vs Q E hr hsp => ⟨tSs (T.wh K) ⟨callF T.prg n, T.prg.con⟩ (fun cls d _ H' => E cls d H') e.body, ?_, ?_⟩
    · refine sndSs e.body (M := T.mt) (sc := defScope e.st) ?_ S.kind ck
      exact {
        K := {
          ok := ⟨rfl, rfl, S.nd, by have := hr.un; show (Ar.deeper _).units + 65 < cLine; omega⟩
          sc := rfl
          free := A.free
          gcd := A.gcd
          con := fun k x d h1 h2 => by
            have h1 : (T.c k).map (·.1) = some x := h1
            have h2 : (T.c k).map (fun p => p.2.d) = some d := h2
            cases hp : T.c k with
            | none => rw [hp] at h1; cases h1
            | some p =>
              rw [hp] at h1 h2
              cases h1
              cases h2
              exact A.con k p hp
          fns := fun g x hx => by
            have hx : (T.f g).map FE.x = some x := hx
            cases hg : T.f g with
            | none => rw [hg] at hx; cases hx
            | some e2 =>
              rw [hg] at hx
              cases hx
              obtain ⟨fd2, F2⟩ := A.fn g e2 hg
              exact ⟨fd2, e2.ps, n, fn_all A n g e2 fd2 hg F2, hr, F2.kp, F2.bindsN (A.bnd e2 (mem_f hg)), A.gf g e2 hg⟩
          kn := fun g => by
            show (T.f g).isSome = ((T.f g).map FE.x).isSome
            cases T.f g <;> rfl
          ari := fun g ds hl => callF_ari hl
          pass := fun σ => passAt (takes_of rfl rfl rfl rfl) σ }
        tk := takes_of rfl rfl rfl rfl
        stk := rfl
        frm := rfl
        pso := passes_of rfl
        cel := fun _ _ => rfl
        exs := fun k x hx => by
          have hx : (T.e k).map XE.x = some x := hx
          cases hg : T.e k with
          | none => rw [hg] at hx; cases hx
          | some e2 =>
            rw [hg] at hx
            cases hx
            obtain ⟨fI, E1, E2⟩ := A.exs k e2 hg
            exact ⟨fI, E1, rfl, E2⟩
        room := hr.mono (Nat.zero_le _) }
    · obtain ⟨G, ds, sg, r, hl, q⟩ := hsp
      have hl2 : ds.length = e.ps.length := by
        rw [hl]
        simp [Tx.wh, he]
      have hps : e.ps.length ≤ e.N.length := by
        have := congrArg List.length S.pre
        rw [List.length_take] at this
        omega
      have hc : callF T.prg (n + 1) f ds = (exs ⟨callF T.prg n, T.prg.con⟩ (startE ds e.N.length) e.body).r := by
        unfold callF
        simp [Tx.prg, he, FE.fn, hl2]
      have q : Fin (T.wh K) (fun cls d _ H' => E cls d H') [] G H (callF T.prg (n + 1) f ds) (wV (T.wh K) Q) := q
      rw [hc] at q
      refine ⟨G, H, G, G, startE ds e.N.length, ⟨start_ok sg r (by omega), .refl sg, fun i a h1 => (no_own h1).elim, .refl _, sg⟩, ?_⟩
      cases ho : exs ⟨callF T.prg n, T.prg.con⟩ (startE ds e.N.length) e.body with
      | nx ρ1 =>
        rw [ho] at q
        exact fun σ G' H' b => q G' H' b.g _ .non
      | rt d =>
        rw [ho] at q
        exact fun G' H' v g rv => q G' H' g v rv
      | bk ρ1 => rw [ho] at q; exact False.elim q
      | ct ρ1 => rw [ho] at q; exact False.elim q
      | exc k m =>
        rw [ho] at q
        exact fun σ H' d s x => q H' d s x
      | bad => rw [ho] at q; exact False.elim q
theorem rpA_ints {Y : Wh} {G : Hp} : ∀ ns : List Int, RpA Y G (ns.map V.int) (ns.map D.int)
  | [] => .nil
  | n :: ns => .cons (.int n) (rpA_ints ns)
/-- the law's promise from the evaluator's answer -/
theorem law_sp {C : Cal} {Y : Wh} {f : Nat} {a : Addr} {ns : List Int} {H : Hp} (hn : Y.np f = 1) (hS : SqL Y.K H a (ns.map V.int)) (h : C.call f [.fz (ns.map .int)] = .ok (.bl true)) : spC Y C f [.ref a] H (fun v _ => v = .bl true) (fun _ _ _ => False) := by
  refine ⟨H, [.fz (ns.map .int)], .refl _, .cons (.fz hS (rpA_ints ns)) .nil, by rw [hn]; rfl, ?_⟩
  rw [h]
  intro G' H' _ v r
  cases r
  rfl
/-- where nothing may be let out -/
theorem fn_calm {base : Heap} {k : Nat} {f : Addr} {fd : FuncData} {ps : List Str} {sp : Sp} (F : FnOk P w K mg base (L2.CX P w) k f fd ps sp) : FnOk P w K mg base CX0 k f fd ps (fun vs H Q _ => sp vs H Q fun _ _ _ => False) where
  len := fun vs H Q E h => F.len vs H Q _ h
  run := fun A outer s H args us vs Q E hr e0 hb hv h => codeAny_mono (F.run A outer s H args us vs Q _ hr e0 hb hv h) fun r s' q => by
    cases r with
    | ok fl => cases fl <;> exact q
    | error e =>
      have q : L2.CX P w outer H s (fun _ _ _ => False) e s' := q
      obtain ⟨_, _, _, _, _, _, _, _, _, _, _, _, z⟩ := q
      exact z
/-- what the walk of a law's end wants -/
theorem law_fn (X : K.In h) (G : h.Ns mainGlobals mg) (c : SaysP T K) (chk : T.L.all (fun e => e.ok T.mt) = true) (bnd : ∀ e ∈ T.L, e.bnd) {n f : Nat} {e : FE} {fa : Addr} {b : Nat} (he : T.f f = some e) (hps : e.ps = [("script" : Str)]) (hfa : mg e.x = some (.ref fa))
    (hlaw : ∀ ns : List Int, ns.length ≤ b → callF T.prg n f [.fz (ns.map .int)] = .ok (.bl true)) :
    ∃ (K : PySem.W.Frag) (fd : FuncData) (sp : Sp), K.In h ∧ (∀ (s : Shared) (u : Value), BindsTo s fd ⟨[u], []⟩ [(("script" : Str), u)]) ∧
      (∀ (H : Hp) (a : Addr) (ns : List Int), ns.length ≤ b → Only H → SqL K H a (ns.map V.int) → sp [.ref a] H (fun v _ => v = .bl true) fun _ _ _ => False) ∧
      ∀ base : Heap, K.In base → base.Ns mainGlobals mg → FnOk P w K mg base CX0 n fa fd [("script" : Str)] sp := by
  have A := hd_of X G c chk bnd
  obtain ⟨fd, F⟩ := A.fn f e he
  have e1 := A.gf f e he
  rw [hfa] at e1
  cases e1
  refine ⟨K, fd, fun vs H Q _ => spC (T.wh K) ⟨callF T.prg n, T.prg.con⟩ f vs H Q fun _ _ _ => False, X, fun s u => ?_, fun H a ns hl _ hS => law_sp (by simp [Tx.wh, he, hps]) hS (hlaw ns hl), fun base _ _ => ?_⟩
  · have q := F.bindsA (ps := e.ps) (A.bnd e (mem_f he)) s [u] (by rw [hps]; rfl)
    rw [hps] at q
    exact q
  · have q := fn_calm (fn_all (P := P) (w := w) A (base := base) n f e fd he F)
    rw [hps] at q
    exact q
end
end PF

namespace PF
open PySem
/-! what the evaluator makes of small words -/
section
variable (C : Cal) (ρ : Env)
def svR : SV → R D
  | .fr d => .ok d
  | _ => .bad
def svF (k : Nat → R D) : SV → R D
  | .fr (.fn f) => k f
  | _ => .bad
def svA (k : D → O) : SV → O
  | .fr d => k d
  | _ => .bad
def rseO (k : Nat) : List D → O
  | [.int n] => .exc k n
  | _ => .bad
@[simp] theorem z_var (i : Nat) : ev C ρ (.var i) = svR (ρ.get i) := by
  rw [ev]
  cases ρ.get i <;> rfl
@[simp] theorem z_int (n : Int) : ev C ρ (.int n) = .ok (.int n) := by rw [ev]
@[simp] theorem z_bl (n : Bool) : ev C ρ (.bl n) = .ok (.bl n) := by rw [ev]
@[simp] theorem z_non : ev C ρ .non = .ok .non := by rw [ev]
@[simp] theorem z_noE : ev C ρ .noE = .bad := by rw [ev]
@[simp] theorem z_str (s : Str) : ev C ρ (.str s) = .ok (.str s) := by rw [ev]
@[simp] theorem z_tup (es : List E) : ev C ρ (.tup es) = (evs C ρ es).bind fun ds => .ok (.tup ds) := by rw [ev]
@[simp] theorem z_lst (es : List E) : ev C ρ (.lst es) = (evs C ρ es).bind fun ds => .ok (.lst ds) := by rw [ev]
@[simp] theorem z_bin (o : BOp) (a b : E) : ev C ρ (.bin o a b) = (brw ρ a (ev C ρ a)).bind fun x => (brw ρ b (ev C ρ b)).bind fun y => binR o x y := by rw [ev]
def negR : D → R D
  | .int i => .ok (.int (-i))
  | _ => .bad
@[simp] theorem z_neg (a : E) : ev C ρ (.neg a) = (ev C ρ a).bind negR := by rw [ev]; rfl
@[simp] theorem z_not (a : E) : ev C ρ (.not a) = ((brw ρ a (ev C ρ a)).bind truth).bind fun b => .ok (.bl !b) := by rw [ev]
@[simp] theorem z_and (a b : E) : ev C ρ (.and a b) = (ev C ρ a).bind fun x => (truth x).bind fun c => if c = true then ev C ρ b else .ok x := by rw [ev]
@[simp] theorem z_or (a b : E) : ev C ρ (.or a b) = (ev C ρ a).bind fun x => (truth x).bind fun c => if c = true then .ok x else ev C ρ b := by rw [ev]
@[simp] theorem z_cmp (o : COp) (a b : E) : ev C ρ (.cmp o a b) = (brw ρ a (ev C ρ a)).bind fun x => (brw ρ b (ev C ρ b)).bind fun y => (cmpR o x y).bind fun c => .ok (.bl c) := by rw [ev]
@[simp] theorem z_chain (o o' : COp) (a b c : E) : ev C ρ (.chain o o' a b c) = (brw ρ a (ev C ρ a)).bind fun x => (brw ρ b (ev C ρ b)).bind fun y => (cmpR o x y).bind fun k =>
      if k = true then (brw ρ c (ev C ρ c)).bind fun z => (cmpR o' y z).bind fun k' => .ok (.bl k') else .ok (.bl false) := by rw [ev]
@[simp] theorem z_ifx (c a b : E) : ev C ρ (.ifx c a b) = ((brw ρ c (ev C ρ c)).bind truth).bind fun k => if k = true then ev C ρ a else ev C ρ b := by rw [ev]
@[simp] theorem z_idx (a i : E) : ev C ρ (.idx a i) = (brw ρ a (ev C ρ a)).bind fun x => (ev C ρ i).bind fun y => idxR x y := by rw [ev]
@[simp] theorem z_slc (a lo hi : E) : ev C ρ (.slc a lo hi) = (brw ρ a (ev C ρ a)).bind fun x => (optI lo (ev C ρ lo)).bind fun l => (optI hi (ev C ρ hi)).bind fun h => slcR x l h := by rw [ev]
@[simp] theorem z_call (f : Nat) (es : List E) : ev C ρ (.call f es) = (evs C ρ es).bind fun ds => C.call f ds := by rw [ev]
@[simp] theorem z_callv (i : Nat) (es : List E) : ev C ρ (.callv i es) = svF (fun f => (evs C ρ es).bind fun ds => C.call f ds) (ρ.get i) := by
  rw [ev]
  cases ρ.get i with
  | fr d => cases d <;> rfl
  | _ => rfl
@[simp] theorem z_fnv (f : Nat) : ev C ρ (.fnv f) = .ok (.fn f) := by rw [ev]
@[simp] theorem z_gl (k : Nat) : ev C ρ (.gl k) = optR (C.con k) := by rw [ev]
@[simp] theorem z_blt (b : Blt) (es : List E) : ev C ρ (.blt b es) = if itB b = true then (evs C ρ es).bind fun ds => (bltR b ds).calm else (evqs C ρ es).bind fun ds => (bltR b ds).calm := by rw [ev]
@[simp] theorem z_isi (a : E) (cs : List Ty) : ev C ρ (.isi a cs) = (brw ρ a (ev C ρ a)).bind fun x => (isTs x cs).bind fun b => .ok (.bl b) := by rw [ev]
def compF (C : Cal) (ρ : Env) (t : Tg) (cond elt : E) (ws : List Nat) (d : D) : R (List D) := ((asg t d (wipeE ρ ws)).bind fun ρ1 => condL cond ((brw ρ1 cond (ev C ρ1 cond)).bind truth) (ev C ρ1 elt)).calm
def capL (r : List D) : R D := if r.length ≤ big then .ok (.lst r) else .bad
@[simp] theorem z_comp (t : Tg) (it cond elt : E) (ws : List Nat) : ev C ρ (.comp t it cond elt ws) = ((brw ρ it (ev C ρ it)).bind itemsR).bind fun ds => (compL (compF C ρ t cond elt ws) ds).bind capL := by
  rw [ev]
  rfl
def compF2 (C : Cal) (ρ : Env) (t : Tg) (t2 : Tg) (it2 cond elt : E) (ws ws2 : List Nat) (d : D) : R (List D) := ((asg t d (wipeE ρ ws)).bind fun ρ1 => ((ev C ρ1 it2).bind itemsR).bind fun ds2 => compL (fun d2 => (asg t2 d2 (wipeE ρ1 ws2)).bind fun ρ2 => condL cond ((brw ρ2 cond (ev C ρ2 cond)).bind truth) (ev C ρ2 elt)) ds2).calm
@[simp] theorem z_comp2 (t : Tg) (it : E) (t2 : Tg) (it2 cond elt : E) (ws ws2 : List Nat) : ev C ρ (.comp2 t it t2 it2 cond elt ws ws2) = ((brw ρ it (ev C ρ it)).bind itemsR).bind fun ds => (compL (compF2 C ρ t t2 it2 cond elt ws ws2) ds).bind capL := by
  rw [ev]
  rfl
@[simp] theorem z_evs0 : evs C ρ [] = .ok [] := by rw [evs]
@[simp] theorem z_evs (e : E) (es : List E) : evs C ρ (e :: es) = (ev C ρ e).bind fun d => (evs C ρ es).bind fun ds => .ok (d :: ds) := by rw [evs]
@[simp] theorem z_evqs0 : evqs C ρ [] = .ok [] := by rw [evqs]
@[simp] theorem z_evqs (e : E) (es : List E) : evqs C ρ (e :: es) = (brw ρ e (ev C ρ e)).bind fun d => (evqs C ρ es).bind fun ds => .ok (d :: ds) := by rw [evqs]
@[simp] theorem z_exs0 : exs C ρ [] = .nx ρ := by rw [exs]
def O.then_ (o : O) (f : Env → O) : O := match o with
  | .nx ρ1 => f ρ1
  | o => o
@[simp] theorem z_exs (s : S) (ss : List S) : exs C ρ (s :: ss) = (exS C ρ s).then_ fun ρ1 => exs C ρ1 ss := by
  rw [exs]
  cases exS C ρ s <;> rfl
@[simp] theorem z_set (i : Nat) (e : E) : exS C ρ (.set i e) = (ev C ρ e).o fun d => .nx (ρ.set i (.fr d)) := by rw [exS]
@[simp] theorem z_own (i : Nat) (e : E) : exS C ρ (.own i e) = ((ev C ρ e).bind lstR).o fun ds => .nx (ρ.set i (.own ds)) := by rw [exS]
@[simp] theorem z_unp (t : Tg) (e : E) : exS C ρ (.unp t e) = (ev C ρ e).o fun d => (asg t d ρ).o fun ρ1 => .nx ρ1 := by rw [exS]
@[simp] theorem z_par (i j : Nat) (a b : E) : exS C ρ (.par i j a b) = (ev C ρ a).o fun x => (ev C ρ b).o fun y => .nx ((ρ.set i (.fr x)).set j (.fr y)) := by rw [exS]
@[simp] theorem z_exp (e : E) : exS C ρ (.exp e) = (ev C ρ e).o fun _ => .nx ρ := by rw [exS]
@[simp] theorem z_ret (e : E) : exS C ρ (.ret e) = (ev C ρ e).o fun d => .rt d := by rw [exS]
@[simp] theorem z_retN : exS C ρ .retN = .rt .non := by rw [exS]
@[simp] theorem z_ite (c : E) (a b : List S) : exS C ρ (.ite c a b) = ((brw ρ c (ev C ρ c)).bind truth).o fun k => if k = true then exs C ρ a else exs C ρ b := by rw [exS]
@[simp] theorem z_for (t : Tg) (it : E) (body : List S) : exS C ρ (.for_ t it body) = ((ev C ρ it).bind itemsR).o fun ds => forL t (fun ρ1 => exs C ρ1 body) ds ρ := by rw [exS]
@[simp] theorem z_app (i : Nat) (e : E) : exS C ρ (.app i e) = (ownR (ρ.get i)).o fun ds => (ev C ρ e).o fun d => if ds.length < big then .nx (ρ.set i (.own (ds ++ [d]))) else .bad := by rw [exS]
@[simp] theorem z_sit (i : Nat) (k e : E) : exS C ρ (.sit i k e) = (ev C ρ e).o fun d => (ownR (ρ.get i)).o fun ds => ((ev C ρ k).bind intR).o fun n =>
      if 0 ≤ n ∧ n < ds.length then .nx (ρ.set i (.own (ds.set n.toNat d))) else if n < 0 ∧ -(ds.length : Int) ≤ n then .nx (ρ.set i (.own (ds.set (n + ds.length).toNat d))) else .bad := by rw [exS]
@[simp] theorem z_rse (k : Nat) (es : List E) : exS C ρ (.rse k es) = (evs C ρ es).o (rseO k) := by
  rw [exS]
  rfl
def O.try_ (o : O) (ρ : Env) (k : Nat) (j : Option Nat) : O := match o with
  | .exc k' n => if k' = k then catO ρ j n else .bad
  | o => o
@[simp] theorem z_try (body : List S) (k i : Nat) (j : Option Nat) : exS C ρ (.tryR body k i j) = (exs C ρ body).try_ ρ k j := by
  rw [exS]
  cases exs C ρ body <;> rfl
@[simp] theorem z_brk : exS C ρ .brk = .bk ρ := by rw [exS]
@[simp] theorem z_cnt : exS C ρ .cnt = .ct ρ := by rw [exS]
@[simp] theorem z_pss : exS C ρ .pss = .nx ρ := by rw [exS]
@[simp] theorem z_frz (i : Nat) : exS C ρ (.frz i) = .nx (frzE ρ i) := by rw [exS]
@[simp] theorem z_aug (i : Nat) (o : BOp) (e : E) : exS C ρ (.aug i o e) = svA (fun x => (ev C ρ e).o fun y => (augR o x y).o fun z => .nx (ρ.set i (.fr z))) (ρ.get i) := by
  rw [exS]
  cases ρ.get i <;> rfl
end
@[simp] theorem r_bind {α β : Type} (a : α) (f : α → R β) : (R.ok a).bind f = f a := eq_of_heq HEq.rfl
@[simp] theorem r_bad {α β : Type} (f : α → R β) : (R.bad : R α).bind f = .bad := eq_of_heq HEq.rfl
@[simp] theorem r_o {α : Type} (a : α) (f : α → O) : (R.ok a).o f = f a := eq_of_heq HEq.rfl
@[simp] theorem r_ob {α : Type} (f : α → O) : (R.bad : R α).o f = .bad := eq_of_heq HEq.rfl
@[simp] theorem r_oe {α : Type} (k : Nat) (n : Int) (f : α → O) : (R.exc k n : R α).o f = .exc k n := eq_of_heq HEq.rfl
@[simp] theorem r_be {α β : Type} (k : Nat) (n : Int) (f : α → R β) : (R.exc k n : R α).bind f = .exc k n := eq_of_heq HEq.rfl
@[simp] theorem r_calm {α : Type} (a : α) : (R.ok a).calm = .ok a := eq_of_heq HEq.rfl
@[simp] theorem o_nx (ρ : Env) (f : Env → O) : (O.nx ρ).then_ f = f ρ := eq_of_heq HEq.rfl
@[simp] theorem o_rt (d : D) (f : Env → O) : (O.rt d).then_ f = .rt d := eq_of_heq HEq.rfl
@[simp] theorem o_bk (ρ : Env) (f : Env → O) : (O.bk ρ).then_ f = .bk ρ := eq_of_heq HEq.rfl
@[simp] theorem o_ct (ρ : Env) (f : Env → O) : (O.ct ρ).then_ f = .ct ρ := eq_of_heq HEq.rfl
@[simp] theorem o_exc (k : Nat) (n : Int) (f : Env → O) : (O.exc k n).then_ f = .exc k n := eq_of_heq HEq.rfl
@[simp] theorem o_bad (f : Env → O) : O.bad.then_ f = .bad := eq_of_heq HEq.rfl
@[simp] theorem t_nx (ρ1 ρ : Env) (k : Nat) (j : Option Nat) : (O.nx ρ1).try_ ρ k j = .nx ρ1 := eq_of_heq HEq.rfl
@[simp] theorem t_exc (n : Int) (ρ : Env) (k : Nat) (j : Option Nat) : (O.exc k n).try_ ρ k j = catO ρ j n := if_pos rfl
@[simp] theorem or_nx (ρ : Env) : (O.nx ρ).r = .ok .non := eq_of_heq HEq.rfl
@[simp] theorem or_rt (d : D) : (O.rt d).r = .ok d := eq_of_heq HEq.rfl
@[simp] theorem or_exc (k : Nat) (n : Int) : (O.exc k n).r = .exc k n := eq_of_heq HEq.rfl
@[simp] theorem g_0 (x : SV) (r : Env) : Env.get (x :: r) 0 = x := eq_of_heq HEq.rfl
@[simp] theorem g_s (x : SV) (r : Env) (n : Nat) : Env.get (x :: r) (n + 1) = Env.get r n := eq_of_heq HEq.rfl
@[simp] theorem ifT {α : Type} (c : Bool) (a b : α) (h : c = true) : (if c = true then a else b) = a := if_pos h
@[simp] theorem svR_fr (d : D) : svR (.fr d) = .ok d := eq_of_heq HEq.rfl
@[simp] theorem svF_fn (k : Nat → R D) (f : Nat) : svF k (.fr (.fn f)) = k f := eq_of_heq HEq.rfl
@[simp] theorem svA_fr (k : D → O) (d : D) : svA k (.fr d) = k d := eq_of_heq HEq.rfl
@[simp] theorem rseO_1 (k : Nat) (n : Int) : rseO k [.int n] = .exc k n := eq_of_heq HEq.rfl
def catD (n : Int) : D → O
  | .int m => .rt (.bl (n == m))
  | _ => .bad
@[simp] theorem catD_int (n m : Int) : catD n (.int m) = .rt (.bl (n == m)) := eq_of_heq HEq.rfl
@[simp] theorem catO_some (ρ : Env) (j : Nat) (n : Int) : catO ρ (some j) n = svA (catD n) (ρ.get j) := by
  show (match ρ.get j with
    | .fr (.int m) => O.rt (.bl (n == m))
    | _ => .bad) = _
  generalize ρ.get j = x
  cases x with
  | fr d => cases d <;> rfl
  | _ => rfl
/-- a comprehension that maps -/
theorem compL_map {f : D → R (List D)} {g : D → D} {ds : List D} (h : ∀ d ∈ ds, f d = .ok [g d]) : compL f ds = .ok (ds.map g) := by
  induction ds with
  | nil => rfl
  | cons d ds ih =>
    show ((f d).bind fun x => (compL f ds).bind fun r => .ok (x ++ r)) = _
    rw [h d List.mem_cons_self, ih fun e he => h e (List.mem_cons_of_mem _ he)]
    rfl
theorem compL_gen {α : Type} {f : D → R (List D)} {e : α → D} {g : α → List D} {l : List α} (h : ∀ a ∈ l, f (e a) = .ok (g a)) : compL f (l.map e) = .ok (l.flatMap g) := by
  induction l with
  | nil => rfl
  | cons a l ih =>
    show ((f (e a)).bind fun x => (compL f (l.map e)).bind fun r => .ok (x ++ r)) = _
    rw [h a List.mem_cons_self, ih fun b hb => h b (List.mem_cons_of_mem _ hb)]
    rfl
theorem compL_mapG {α : Type} {f : D → R (List D)} {e g : α → D} {l : List α} (h : ∀ a ∈ l, f (e a) = .ok [g a]) : compL f (l.map e) = .ok (l.map g) := by
  rw [compL_gen (g := fun a => [g a]) h]
  congr 1
  induction l with
  | nil => rfl
  | cons a l ih => simp [ih fun b hb => h b (List.mem_cons_of_mem _ hb)]
theorem compL_filter {α : Type} {f : D → R (List D)} {e g : α → D} {p : α → Bool} {l : List α} (h : ∀ a ∈ l, f (e a) = .ok (if p a = true then [g a] else [])) : compL f (l.map e) = .ok ((l.filter p).map g) := by
  rw [compL_gen (g := fun a => if p a = true then [g a] else []) h]
  congr 1
  induction l with
  | nil => rfl
  | cons a l ih =>
    rw [List.flatMap_cons, ih fun b hb => h b (List.mem_cons_of_mem _ hb), List.filter_cons]
    cases p a <;> simp
theorem upL_eq (n : Nat) : ∀ lo : Int, upL lo n = (List.range n).map fun i => D.int (lo + (i : Nat)) := by
  induction n with
  | zero => intro lo; rfl
  | succ n ih =>
    intro lo
    rw [List.range_succ_eq_map, List.map_cons, List.map_map, upL, ih]
    congr 1
    · simp
    · apply List.map_congr_left
      intro i _
      simp only [Function.comp_apply, D.int.injEq]
      omega
def brS : SV → R D
  | .fr d => .ok d
  | .own ds => .ok (.lst ds)
  | .un => .bad
@[simp] theorem bl_len_tup (ds : List D) : bltR .len [.tup ds] = .ok (.int ds.length) := eq_of_heq HEq.rfl
@[simp] theorem it_tup (ds : List D) : itemsR (.tup ds) = .ok ds := eq_of_heq HEq.rfl
@[simp] theorem tr_tup (ds : List D) : truth (.tup ds) = .ok (!ds.isEmpty) := eq_of_heq HEq.rfl
@[simp] theorem ix_tup (ds : List D) (i : Int) : idxR (.tup ds) (.int i) = atL ds i := eq_of_heq HEq.rfl
@[simp] theorem bl_len_lst (ds : List D) : bltR .len [.lst ds] = .ok (.int ds.length) := eq_of_heq HEq.rfl
@[simp] theorem it_lst (ds : List D) : itemsR (.lst ds) = .ok ds := eq_of_heq HEq.rfl
@[simp] theorem tr_lst (ds : List D) : truth (.lst ds) = .ok (!ds.isEmpty) := eq_of_heq HEq.rfl
@[simp] theorem ix_lst (ds : List D) (i : Int) : idxR (.lst ds) (.int i) = atL ds i := eq_of_heq HEq.rfl
@[simp] theorem bl_len_fz (ds : List D) : bltR .len [.fz ds] = .ok (.int ds.length) := eq_of_heq HEq.rfl
@[simp] theorem it_fz (ds : List D) : itemsR (.fz ds) = .ok ds := eq_of_heq HEq.rfl
@[simp] theorem tr_fz (ds : List D) : truth (.fz ds) = .ok (!ds.isEmpty) := eq_of_heq HEq.rfl
@[simp] theorem ix_fz (ds : List D) (i : Int) : idxR (.fz ds) (.int i) = atL ds i := eq_of_heq HEq.rfl
@[simp] theorem it_itr (ds : List D) : itemsR (.itr ds) = .ok ds := eq_of_heq HEq.rfl
theorem it_rng (lo hi : Int) : itemsR (.rng lo hi) = if -(2 ^ 62) ≤ lo ∧ lo < 2 ^ 62 ∧ -(2 ^ 62) ≤ hi ∧ hi < 2 ^ 62 then .ok (upL lo (hi - lo).toNat) else .bad := rfl
@[simp] theorem bl_tuple_tup (ds : List D) : bltR .tuple [.tup ds] = .ok (.tup ds) := eq_of_heq HEq.rfl
@[simp] theorem bl_list_tup (ds : List D) : bltR .list [.tup ds] = .ok (.lst ds) := eq_of_heq HEq.rfl
@[simp] theorem sl_tup (ds : List D) (lo hi : Option Int) : slcR (.tup ds) lo hi = .ok (.tup (cutL ds lo hi)) := eq_of_heq HEq.rfl
@[simp] theorem bl_tuple_lst (ds : List D) : bltR .tuple [.lst ds] = .ok (.tup ds) := eq_of_heq HEq.rfl
@[simp] theorem bl_list_lst (ds : List D) : bltR .list [.lst ds] = .ok (.lst ds) := eq_of_heq HEq.rfl
@[simp] theorem sl_lst (ds : List D) (lo hi : Option Int) : slcR (.lst ds) lo hi = .ok (.lst (cutL ds lo hi)) := eq_of_heq HEq.rfl
@[simp] theorem bl_rng1 (n : Int) : bltR .rng1 [.int n] = .ok (.rng 0 n) := eq_of_heq HEq.rfl
@[simp] theorem bl_rng2 (m n : Int) : bltR .rng2 [.int m, .int n] = .ok (.rng m n) := eq_of_heq HEq.rfl
@[simp] theorem bl_abs (n : Int) : bltR .abs [.int n] = .ok (.int (if n < 0 then -n else n)) := eq_of_heq HEq.rfl
@[simp] theorem bl_int (n : Int) : bltR .int [.int n] = .ok (.int n) := eq_of_heq HEq.rfl
@[simp] theorem bl_gcd (i j : Int) : bltR .gcd [.int i, .int j] = .ok (.int (Nat.gcd i.natAbs j.natAbs : Nat)) := eq_of_heq HEq.rfl
@[simp] theorem bl_min2 (i j : Int) : bltR .min2 [.int i, .int j] = .ok (.int (if j < i then j else i)) := eq_of_heq HEq.rfl
@[simp] theorem bl_max2 (i j : Int) : bltR .max2 [.int i, .int j] = .ok (.int (if i < j then j else i)) := eq_of_heq HEq.rfl
@[simp] theorem bl_any (ds : List D) : bltR .any [.lst ds] = (boolsR ds).bind fun bs => .ok (.bl (bs.any id)) := eq_of_heq HEq.rfl
@[simp] theorem bl_all (ds : List D) : bltR .all [.lst ds] = (boolsR ds).bind fun bs => .ok (.bl (bs.all id)) := eq_of_heq HEq.rfl
@[simp] theorem sq_tup (ds : List D) : seqR (.tup ds) = .ok ds := eq_of_heq HEq.rfl
@[simp] theorem sq_lst (ds : List D) : seqR (.lst ds) = .ok ds := eq_of_heq HEq.rfl
@[simp] theorem bl_enum (d : D) : bltR .enum [d] = (seqR d).bind fun ds => .ok (.itr (enumL 0 ds)) := eq_of_heq HEq.rfl
@[simp] theorem tr_non  : truth .non = .ok false := eq_of_heq HEq.rfl
@[simp] theorem tr_bl (b : Bool) : truth (.bl b) = .ok b := eq_of_heq HEq.rfl
@[simp] theorem tr_int (i : Int) : truth (.int i) = .ok (i != 0) := eq_of_heq HEq.rfl
@[simp] theorem bi_add (i j : Int) : binR .add (.int i) (.int j) = .ok (.int (i + j)) := eq_of_heq HEq.rfl
@[simp] theorem bi_sub (i j : Int) : binR .sub (.int i) (.int j) = .ok (.int (i - j)) := eq_of_heq HEq.rfl
@[simp] theorem bi_mul (i j : Int) : binR .mul (.int i) (.int j) = if mulOk i j then .ok (.int (i * j)) else .bad := eq_of_heq HEq.rfl
@[simp] theorem bi_fdiv (i j : Int) : binR .fdiv (.int i) (.int j) = if divOk j then .ok (.int (i.fdiv j)) else .bad := eq_of_heq HEq.rfl
@[simp] theorem bi_mod (i j : Int) : binR .mod (.int i) (.int j) = if j ≠ 0 then .ok (.int (i.fmod j)) else .bad := eq_of_heq HEq.rfl
@[simp] theorem bi_pow (i j : Int) : binR .pow (.int i) (.int j) = if powOk i j then .ok (.int (i ^ j.toNat)) else .bad := eq_of_heq HEq.rfl
@[simp] theorem bi_addt (a b : List D) : binR .add (.tup a) (.tup b) = if a.length + b.length ≤ big then .ok (.tup (a ++ b)) else .bad := eq_of_heq HEq.rfl
@[simp] theorem bi_addl (a b : List D) : binR .add (.lst a) (.lst b) = if a.length + b.length ≤ big then .ok (.lst (a ++ b)) else .bad := eq_of_heq HEq.rfl
@[simp] theorem cm_lt (i j : Int) : cmpR .lt (.int i) (.int j) = .ok (decide (i < j)) := eq_of_heq HEq.rfl
@[simp] theorem cm_le (i j : Int) : cmpR .le (.int i) (.int j) = .ok (decide (i ≤ j)) := eq_of_heq HEq.rfl
@[simp] theorem cm_gt (i j : Int) : cmpR .gt (.int i) (.int j) = .ok (decide (j < i)) := eq_of_heq HEq.rfl
@[simp] theorem cm_ge (i j : Int) : cmpR .ge (.int i) (.int j) = .ok (decide (j ≤ i)) := eq_of_heq HEq.rfl
@[simp] theorem cm_eq (a b : D) : cmpR .eq a b = eqR a b := by cases a <;> cases b <;> rfl
@[simp] theorem cm_ne (a b : D) : cmpR .ne a b = (eqR a b).bind fun c => .ok !c := by cases a <;> cases b <;> rfl
@[simp] theorem cm_is (a : D) : cmpR .is_ a .non = .ok (isNon a) := by cases a <;> rfl
@[simp] theorem cm_isnot (a : D) : cmpR .isnot a .non = .ok (!isNon a) := by cases a <;> rfl
@[simp] theorem cm_in (a b : D) : cmpR .in_ a b = inR a b := by cases a <;> cases b <;> rfl
@[simp] theorem cm_notin (a b : D) : cmpR .notin a b = (inR a b).bind fun c => .ok !c := by cases a <;> cases b <;> rfl
@[simp] theorem eq_int (i j : Int) : eqR (.int i) (.int j) = .ok (i == j) := eq_of_heq HEq.rfl
@[simp] theorem eq_bl (i j : Bool) : eqR (.bl i) (.bl j) = .ok (i == j) := eq_of_heq HEq.rfl
@[simp] theorem in_lst (a : D) (ds : List D) : inR a (.lst ds) = if okD deep a && okDs deep ds then .ok (ds.any fun z => eqv z a) else .bad := by cases a <;> rfl
@[simp] theorem in_tup (a : D) (ds : List D) : inR a (.tup ds) = if okD deep a && okDs deep ds then .ok (ds.any fun z => eqv z a) else .bad := by cases a <;> rfl
@[simp] theorem as_nm (i : Nat) (d : D) (ρ : Env) : asg (.nm i) d ρ = .ok (ρ.set i (.fr d)) := by rw [asg]
@[simp] theorem as_tp (ts : List Tg) (ds : List D) (ρ : Env) : asg (.tp ts) (.tup ds) ρ = asgs ts ds ρ := by rw [asg]
@[simp] theorem as_0 (ρ : Env) : asgs [] [] ρ = .ok ρ := by rw [asgs]
@[simp] theorem as_c (t : Tg) (ts : List Tg) (d : D) (ds : List D) (ρ : Env) : asgs (t :: ts) (d :: ds) ρ = (asg t d ρ).bind (asgs ts ds) := by rw [asgs]
@[simp] theorem br_var (ρ : Env) (i : Nat) (r : R D) : brw ρ (.var i) r = brS (ρ.get i) := by
  show (match ρ.get i with
    | .fr d => R.ok d
    | .own ds => .ok (.lst ds)
    | .un => .bad) = brS (ρ.get i)
  generalize ρ.get i = x
  cases x <;> rfl
@[simp] theorem br_fr (d : D) : brS (.fr d) = .ok d := eq_of_heq HEq.rfl
@[simp] theorem br_own (ds : List D) : brS (.own ds) = .ok (.lst ds) := eq_of_heq HEq.rfl
@[simp] theorem ow_own (ds : List D) : ownR (.own ds) = .ok ds := eq_of_heq HEq.rfl
@[simp] theorem ls_lst (ds : List D) : lstR (.lst ds) = .ok ds := eq_of_heq HEq.rfl
@[simp] theorem in_int (i : Int) : intR (.int i) = .ok i := eq_of_heq HEq.rfl
@[simp] theorem br_noE_ (ρ : Env)  (r : R D) : brw ρ .noE r = r := eq_of_heq HEq.rfl
@[simp] theorem cd_var_ (i : Nat) (c_ : R Bool) (x_ : R D) : condL (.var i) c_ x_ = c_.bind fun k => if k = true then x_.bind fun x => .ok [x] else .ok [] := eq_of_heq HEq.rfl
@[simp] theorem br_int_ (ρ : Env) (n : Int) (r : R D) : brw ρ (.int n) r = r := eq_of_heq HEq.rfl
@[simp] theorem cd_int_ (n : Int) (c_ : R Bool) (x_ : R D) : condL (.int n) c_ x_ = c_.bind fun k => if k = true then x_.bind fun x => .ok [x] else .ok [] := eq_of_heq HEq.rfl
@[simp] theorem br_bl_ (ρ : Env) (b : Bool) (r : R D) : brw ρ (.bl b) r = r := eq_of_heq HEq.rfl
@[simp] theorem cd_bl_ (b : Bool) (c_ : R Bool) (x_ : R D) : condL (.bl b) c_ x_ = c_.bind fun k => if k = true then x_.bind fun x => .ok [x] else .ok [] := eq_of_heq HEq.rfl
@[simp] theorem br_non_ (ρ : Env)  (r : R D) : brw ρ .non r = r := eq_of_heq HEq.rfl
@[simp] theorem cd_non_  (c_ : R Bool) (x_ : R D) : condL .non c_ x_ = c_.bind fun k => if k = true then x_.bind fun x => .ok [x] else .ok [] := eq_of_heq HEq.rfl
@[simp] theorem br_str_ (ρ : Env) (s : Str) (r : R D) : brw ρ (.str s) r = r := eq_of_heq HEq.rfl
@[simp] theorem cd_str_ (s : Str) (c_ : R Bool) (x_ : R D) : condL (.str s) c_ x_ = c_.bind fun k => if k = true then x_.bind fun x => .ok [x] else .ok [] := eq_of_heq HEq.rfl
@[simp] theorem br_tup_ (ρ : Env) (es : List E) (r : R D) : brw ρ (.tup es) r = r := eq_of_heq HEq.rfl
@[simp] theorem cd_tup_ (es : List E) (c_ : R Bool) (x_ : R D) : condL (.tup es) c_ x_ = c_.bind fun k => if k = true then x_.bind fun x => .ok [x] else .ok [] := eq_of_heq HEq.rfl
@[simp] theorem br_lst_ (ρ : Env) (es : List E) (r : R D) : brw ρ (.lst es) r = r := eq_of_heq HEq.rfl
@[simp] theorem cd_lst_ (es : List E) (c_ : R Bool) (x_ : R D) : condL (.lst es) c_ x_ = c_.bind fun k => if k = true then x_.bind fun x => .ok [x] else .ok [] := eq_of_heq HEq.rfl
@[simp] theorem br_bin_ (ρ : Env) (o : BOp) (a b : E) (r : R D) : brw ρ (.bin o a b) r = r := eq_of_heq HEq.rfl
@[simp] theorem cd_bin_ (o : BOp) (a b : E) (c_ : R Bool) (x_ : R D) : condL (.bin o a b) c_ x_ = c_.bind fun k => if k = true then x_.bind fun x => .ok [x] else .ok [] := eq_of_heq HEq.rfl
@[simp] theorem br_neg_ (ρ : Env) (a : E) (r : R D) : brw ρ (.neg a) r = r := eq_of_heq HEq.rfl
@[simp] theorem cd_neg_ (a : E) (c_ : R Bool) (x_ : R D) : condL (.neg a) c_ x_ = c_.bind fun k => if k = true then x_.bind fun x => .ok [x] else .ok [] := eq_of_heq HEq.rfl
@[simp] theorem br_not_ (ρ : Env) (a : E) (r : R D) : brw ρ (.not a) r = r := eq_of_heq HEq.rfl
@[simp] theorem cd_not_ (a : E) (c_ : R Bool) (x_ : R D) : condL (.not a) c_ x_ = c_.bind fun k => if k = true then x_.bind fun x => .ok [x] else .ok [] := eq_of_heq HEq.rfl
@[simp] theorem br_and_ (ρ : Env) (a b : E) (r : R D) : brw ρ (.and a b) r = r := eq_of_heq HEq.rfl
@[simp] theorem cd_and_ (a b : E) (c_ : R Bool) (x_ : R D) : condL (.and a b) c_ x_ = c_.bind fun k => if k = true then x_.bind fun x => .ok [x] else .ok [] := eq_of_heq HEq.rfl
@[simp] theorem br_or_ (ρ : Env) (a b : E) (r : R D) : brw ρ (.or a b) r = r := eq_of_heq HEq.rfl
@[simp] theorem cd_or_ (a b : E) (c_ : R Bool) (x_ : R D) : condL (.or a b) c_ x_ = c_.bind fun k => if k = true then x_.bind fun x => .ok [x] else .ok [] := eq_of_heq HEq.rfl
@[simp] theorem br_cmp_ (ρ : Env) (o : COp) (a b : E) (r : R D) : brw ρ (.cmp o a b) r = r := eq_of_heq HEq.rfl
@[simp] theorem cd_cmp_ (o : COp) (a b : E) (c_ : R Bool) (x_ : R D) : condL (.cmp o a b) c_ x_ = c_.bind fun k => if k = true then x_.bind fun x => .ok [x] else .ok [] := eq_of_heq HEq.rfl
@[simp] theorem br_chain_ (ρ : Env) (o o2 : COp) (a b c : E) (r : R D) : brw ρ (.chain o o2 a b c) r = r := eq_of_heq HEq.rfl
@[simp] theorem cd_chain_ (o o2 : COp) (a b c : E) (c_ : R Bool) (x_ : R D) : condL (.chain o o2 a b c) c_ x_ = c_.bind fun k => if k = true then x_.bind fun x => .ok [x] else .ok [] := eq_of_heq HEq.rfl
@[simp] theorem br_ifx_ (ρ : Env) (c a b : E) (r : R D) : brw ρ (.ifx c a b) r = r := eq_of_heq HEq.rfl
@[simp] theorem cd_ifx_ (c a b : E) (c_ : R Bool) (x_ : R D) : condL (.ifx c a b) c_ x_ = c_.bind fun k => if k = true then x_.bind fun x => .ok [x] else .ok [] := eq_of_heq HEq.rfl
@[simp] theorem br_idx_ (ρ : Env) (a i : E) (r : R D) : brw ρ (.idx a i) r = r := eq_of_heq HEq.rfl
@[simp] theorem cd_idx_ (a i : E) (c_ : R Bool) (x_ : R D) : condL (.idx a i) c_ x_ = c_.bind fun k => if k = true then x_.bind fun x => .ok [x] else .ok [] := eq_of_heq HEq.rfl
@[simp] theorem br_slc_ (ρ : Env) (a lo hi : E) (r : R D) : brw ρ (.slc a lo hi) r = r := eq_of_heq HEq.rfl
@[simp] theorem cd_slc_ (a lo hi : E) (c_ : R Bool) (x_ : R D) : condL (.slc a lo hi) c_ x_ = c_.bind fun k => if k = true then x_.bind fun x => .ok [x] else .ok [] := eq_of_heq HEq.rfl
@[simp] theorem br_rev_ (ρ : Env) (a : E) (r : R D) : brw ρ (.rev a) r = r := eq_of_heq HEq.rfl
@[simp] theorem br_stp_ (ρ : Env) (a : E) (k_ : Nat) (r : R D) : brw ρ (.stp a k_) r = r := eq_of_heq HEq.rfl
@[simp] theorem cd_rev_ (a : E) (c_ : R Bool) (x_ : R D) : condL (.rev a) c_ x_ = c_.bind fun k => if k = true then x_.bind fun x => .ok [x] else .ok [] := eq_of_heq HEq.rfl
@[simp] theorem cd_stp_ (a : E) (k_ : Nat) (c_ : R Bool) (x_ : R D) : condL (.stp a k_) c_ x_ = c_.bind fun k => if k = true then x_.bind fun x => .ok [x] else .ok [] := eq_of_heq HEq.rfl
@[simp] theorem br_call_ (ρ : Env) (f : Nat) (es : List E) (r : R D) : brw ρ (.call f es) r = r := eq_of_heq HEq.rfl
@[simp] theorem cd_call_ (f : Nat) (es : List E) (c_ : R Bool) (x_ : R D) : condL (.call f es) c_ x_ = c_.bind fun k => if k = true then x_.bind fun x => .ok [x] else .ok [] := eq_of_heq HEq.rfl
@[simp] theorem br_callv_ (ρ : Env) (i : Nat) (es : List E) (r : R D) : brw ρ (.callv i es) r = r := eq_of_heq HEq.rfl
@[simp] theorem cd_callv_ (i : Nat) (es : List E) (c_ : R Bool) (x_ : R D) : condL (.callv i es) c_ x_ = c_.bind fun k => if k = true then x_.bind fun x => .ok [x] else .ok [] := eq_of_heq HEq.rfl
@[simp] theorem br_fnv_ (ρ : Env) (f : Nat) (r : R D) : brw ρ (.fnv f) r = r := eq_of_heq HEq.rfl
@[simp] theorem cd_fnv_ (f : Nat) (c_ : R Bool) (x_ : R D) : condL (.fnv f) c_ x_ = c_.bind fun k => if k = true then x_.bind fun x => .ok [x] else .ok [] := eq_of_heq HEq.rfl
@[simp] theorem br_gl_ (ρ : Env) (k : Nat) (r : R D) : brw ρ (.gl k) r = r := eq_of_heq HEq.rfl
@[simp] theorem cd_gl_ (k : Nat) (c_ : R Bool) (x_ : R D) : condL (.gl k) c_ x_ = c_.bind fun k => if k = true then x_.bind fun x => .ok [x] else .ok [] := eq_of_heq HEq.rfl
@[simp] theorem br_blt_ (ρ : Env) (b : Blt) (es : List E) (r : R D) : brw ρ (.blt b es) r = r := eq_of_heq HEq.rfl
@[simp] theorem cd_blt_ (b : Blt) (es : List E) (c_ : R Bool) (x_ : R D) : condL (.blt b es) c_ x_ = c_.bind fun k => if k = true then x_.bind fun x => .ok [x] else .ok [] := eq_of_heq HEq.rfl
@[simp] theorem br_isi_ (ρ : Env) (a : E) (cs : List Ty) (r : R D) : brw ρ (.isi a cs) r = r := eq_of_heq HEq.rfl
@[simp] theorem cd_isi_ (a : E) (cs : List Ty) (c_ : R Bool) (x_ : R D) : condL (.isi a cs) c_ x_ = c_.bind fun k => if k = true then x_.bind fun x => .ok [x] else .ok [] := eq_of_heq HEq.rfl
@[simp] theorem br_comp_ (ρ : Env) (t : Tg) (it cond elt : E) (ws : List Nat) (r : R D) : brw ρ (.comp t it cond elt ws) r = r := eq_of_heq HEq.rfl
@[simp] theorem cd_comp_ (t : Tg) (it cond elt : E) (ws : List Nat) (c_ : R Bool) (x_ : R D) : condL (.comp t it cond elt ws) c_ x_ = c_.bind fun k => if k = true then x_.bind fun x => .ok [x] else .ok [] := eq_of_heq HEq.rfl
@[simp] theorem br_comp2_ (ρ : Env) (t : Tg) (it : E) (t2 : Tg) (it2 cond elt : E) (ws ws2 : List Nat) (r : R D) : brw ρ (.comp2 t it t2 it2 cond elt ws ws2) r = r := eq_of_heq HEq.rfl
@[simp] theorem cd_comp2_ (t : Tg) (it : E) (t2 : Tg) (it2 cond elt : E) (ws ws2 : List Nat) (c_ : R Bool) (x_ : R D) : condL (.comp2 t it t2 it2 cond elt ws ws2) c_ x_ = c_.bind fun k => if k = true then x_.bind fun x => .ok [x] else .ok [] := eq_of_heq HEq.rfl
@[simp] theorem br_index_ (ρ : Env) (a x : E) (r : R D) : brw ρ (.index a x) r = r := eq_of_heq HEq.rfl
@[simp] theorem cd_index_ (a x : E) (c_ : R Bool) (x_ : R D) : condL (.index a x) c_ x_ = c_.bind fun k => if k = true then x_.bind fun x => .ok [x] else .ok [] := eq_of_heq HEq.rfl
@[simp] theorem cd_noE_ (c_ : R Bool) (x_ : R D) : condL .noE c_ x_ = x_.bind fun x => .ok [x] := eq_of_heq HEq.rfl
@[simp] theorem wp_0 (ρ : Env) : wipeE ρ [] = ρ := eq_of_heq HEq.rfl
@[simp] theorem wp_c (ρ : Env) (v : Nat) (vs : List Nat) : wipeE ρ (v :: vs) = (wipeE ρ vs).set v .un := eq_of_heq HEq.rfl
theorem cF (C : Cal) (ρ : Env) (t : Tg) (cond elt : E) (ws : List Nat) (d : D) : compF C ρ t cond elt ws d = ((asg t d (wipeE ρ ws)).bind fun ρ1 => condL cond ((brw ρ1 cond (ev C ρ1 cond)).bind truth) (ev C ρ1 elt)).calm := eq_of_heq HEq.rfl
theorem cF2 (C : Cal) (ρ : Env) (t t2 : Tg) (it2 cond elt : E) (ws ws2 : List Nat) (d : D) : compF2 C ρ t t2 it2 cond elt ws ws2 d = ((asg t d (wipeE ρ ws)).bind fun ρ1 => ((ev C ρ1 it2).bind itemsR).bind fun ds2 => compL (fun d2 => (asg t2 d2 (wipeE ρ1 ws2)).bind fun ρ2 => condL cond ((brw ρ2 cond (ev C ρ2 cond)).bind truth) (ev C ρ2 elt)) ds2).calm := eq_of_heq HEq.rfl
@[simp] theorem ib_len : itB .len = false := eq_of_heq HEq.rfl
@[simp] theorem ib_tuple : itB .tuple = false := eq_of_heq HEq.rfl
@[simp] theorem ib_list : itB .list = false := eq_of_heq HEq.rfl
@[simp] theorem ib_rng1 : itB .rng1 = false := eq_of_heq HEq.rfl
@[simp] theorem ib_rng2 : itB .rng2 = false := eq_of_heq HEq.rfl
@[simp] theorem ib_abs : itB .abs = false := eq_of_heq HEq.rfl
@[simp] theorem ib_int : itB .int = false := eq_of_heq HEq.rfl
@[simp] theorem ib_any : itB .any = false := eq_of_heq HEq.rfl
@[simp] theorem ib_all : itB .all = false := eq_of_heq HEq.rfl
@[simp] theorem ib_sorted : itB .sorted = false := eq_of_heq HEq.rfl
@[simp] theorem ib_min2 : itB .min2 = false := eq_of_heq HEq.rfl
@[simp] theorem ib_max2 : itB .max2 = false := eq_of_heq HEq.rfl
@[simp] theorem ib_minl : itB .minl = false := eq_of_heq HEq.rfl
@[simp] theorem ib_maxl : itB .maxl = false := eq_of_heq HEq.rfl
@[simp] theorem ib_gcd : itB .gcd = false := eq_of_heq HEq.rfl
@[simp] theorem ib_str : itB .str = false := eq_of_heq HEq.rfl
@[simp] theorem ib_enum : itB .enum = true := eq_of_heq HEq.rfl
@[simp] theorem ib_zip : itB .zip = true := eq_of_heq HEq.rfl
@[simp] theorem ib_rng3 : itB .rng3 = true := eq_of_heq HEq.rfl
@[simp] theorem ib_revd : itB .revd = true := eq_of_heq HEq.rfl

@[simp] theorem oI0 (r : R D) : optI .noE r = .ok none := eq_of_heq HEq.rfl
end PF

namespace PF
open PySem
def is_whole_body : List S := [.ret (.and (.isi (.var 0) [.int]) (.not (.isi (.var 0) [.bool])))]
def is_whole_fn : Fn := ⟨1, 1, is_whole_body⟩
def is_between_body : List S := [.ret (.and (.call 0 [.var 0]) (.chain .le .le (.var 1) (.var 0) (.var 2)))]
def is_between_fn : Fn := ⟨3, 3, is_between_body⟩
def is_sequence_body : List S := [.ret (.isi (.var 0) [.tuple, .list])]
def is_sequence_fn : Fn := ⟨1, 1, is_sequence_body⟩
def negative_body : List S := [.ret (.tup [.neg (.idx (.var 0) (.int 0)), .idx (.var 0) (.int 1)])]
def negative_fn : Fn := ⟨1, 1, negative_body⟩
def less_body : List S := [.ret (.cmp .lt (.bin .mul (.idx (.var 0) (.int 0)) (.idx (.var 1) (.int 1))) (.bin .mul (.idx (.var 1) (.int 0)) (.idx (.var 0) (.int 1))))]
def less_fn : Fn := ⟨2, 2, less_body⟩
def signed_kept_b1 : List S := [.ret .non]
def signed_kept_b2 : List S := [.ret .non]
def signed_kept_body : List S := [.ite (.or (.not (.call 2 [.var 0])) (.cmp .ne (.blt .len [.var 0]) (.int 2))) signed_kept_b1 [], .set 1 (.idx (.var 0) (.int 0)), .set 2 (.idx (.var 0) (.int 1)), .ite (.or (.not (.call 0 [.var 1])) (.or (.not (.call 0 [.var 2])) (.or (.cmp .lt (.var 2) (.int 1)) (.cmp .ne (.blt .gcd [.var 1, .var 2]) (.int 1))))) signed_kept_b2 [], .ret (.tup [.var 1, .var 2])]
def signed_kept_fn : Fn := ⟨1, 3, signed_kept_body⟩
def ends_kept_b1 : List S := [.ret .non]
def ends_kept_b2 : List S := [.ret .non]
def ends_kept_body : List S := [.ite (.or (.not (.call 2 [.var 0])) (.cmp .ne (.blt .len [.var 0]) (.int 2))) ends_kept_b1 [], .set 1 (.call 8 [.idx (.var 0) (.int 0)]), .set 2 (.call 8 [.idx (.var 0) (.int 1)]), .ite (.or (.cmp .is_ (.var 1) .non) (.or (.cmp .is_ (.var 2) .non) (.call 7 [.var 2, .var 1]))) ends_kept_b2 [], .ret (.tup [.var 1, .var 2])]
def ends_kept_fn : Fn := ⟨1, 3, ends_kept_body⟩
def bounds_kept_b1 : List S := [.ret .non]
def bounds_kept_b2 : List S := [.ret .non]
def bounds_kept_body : List S := [.ite (.or (.not (.call 2 [.var 0])) (.not (.chain .le .le (.int 1) (.blt .len [.var 0]) (.gl 0)))) bounds_kept_b1 [], .set 1 (.comp (.nm 2) (.var 0) .noE (.call 10 [.var 2]) [2]), .ite (.cmp .in_ .non (.var 1)) bounds_kept_b2 [], .ret (.blt .tuple [.var 1])]
def bounds_kept_fn : Fn := ⟨1, 3, bounds_kept_body⟩
def row_kept_b1 : List S := [.ret .non]
def row_kept_b2 : List S := [.ret .non]
def row_kept_body : List S := [.ite (.or (.not (.call 2 [.var 0])) (.cmp .ne (.blt .len [.var 0]) (.var 1))) row_kept_b1 [], .set 2 (.comp (.nm 3) (.var 0) .noE (.call 8 [.var 3]) [3]), .ite (.cmp .in_ .non (.var 2)) row_kept_b2 [], .ret (.blt .tuple [.var 2])]
def row_kept_fn : Fn := ⟨2, 4, row_kept_body⟩
def need_bounds_b1 : List S := [.rse 0 [.var 1]]
def need_bounds_body : List S := [.set 2 (.call 11 [.var 0]), .ite (.cmp .is_ (.var 2) .non) need_bounds_b1 [], .ret (.var 2)]
def need_bounds_fn : Fn := ⟨2, 3, need_bounds_body⟩
def need_row_b1 : List S := [.rse 0 [.var 2]]
def need_row_body : List S := [.set 3 (.call 12 [.var 0, .var 1]), .ite (.cmp .is_ (.var 3) .non) need_row_b1 [], .ret (.var 3)]
def need_row_fn : Fn := ⟨3, 4, need_row_body⟩
def need_between_b1 : List S := [.rse 0 [.var 3]]
def need_between_body : List S := [.ite (.not (.call 1 [.var 0, .var 1, .var 2])) need_between_b1 [], .ret (.var 0)]
def need_between_fn : Fn := ⟨4, 4, need_between_body⟩
def upside_body : List S := [.set 1 (.call 14 [.var 0, .int 1]), .ret (.blt .tuple [.comp (.tp [(.nm 2), (.nm 3)]) (.var 1) .noE (.tup [.call 6 [.var 3], .call 6 [.var 2]]) [2, 3]])]
def upside_fn : Fn := ⟨1, 4, upside_body⟩
def _law_same_b1 : List S := [.ret (.bl false)]
def _law_same_b2 : List S := [.ret (.bl false)]
def _law_same_b3 : List S := [.ite (.not (.call 29 [.idx (.var 0) (.var 2), .idx (.var 1) (.var 2)])) _law_same_b2 []]
def _law_same_b4 : List S := [.ite (.or (.not (.isi (.var 0) [.tuple])) (.or (.not (.isi (.var 1) [.tuple])) (.cmp .ne (.blt .len [.var 0]) (.blt .len [.var 1])))) _law_same_b1 [], .for_ (.nm 2) (.blt .rng1 [.blt .len [.var 1]]) _law_same_b3, .ret (.bl true)]
def _law_same_b5 : List S := [.ret (.and (.cmp .is_ (.var 0) .non) (.cmp .is_ (.var 1) .non))]
def _law_same_b6 : List S := [.ret (.bl false)]
def _law_same_body : List S := [.ite (.or (.isi (.var 1) [.tuple]) (.isi (.var 0) [.tuple])) _law_same_b4 [], .ite (.or (.cmp .is_ (.var 0) .non) (.cmp .is_ (.var 1) .non)) _law_same_b5 [], .ite (.or (.cmp .ne (.isi (.var 0) [.bool]) (.isi (.var 1) [.bool])) (.cmp .ne (.isi (.var 0) [.str]) (.isi (.var 1) [.str]))) _law_same_b6 [], .ret (.and (.isi (.var 0) [.int, .str]) (.cmp .eq (.var 0) (.var 1)))]
def _law_same_fn : Fn := ⟨2, 3, _law_same_body⟩
def _law_refused_b1 : List S := [.exp (.callv 0 [.idx (.var 1) (.int 0)])]
def _law_refused_b2 : List S := [.exp (.callv 0 [.idx (.var 1) (.int 0), .idx (.var 1) (.int 1)])]
def _law_refused_b3 : List S := [.exp (.callv 0 [.idx (.var 1) (.int 0), .idx (.var 1) (.int 1), .idx (.var 1) (.int 2)])]
def _law_refused_b4 : List S := [.exp (.callv 0 [.idx (.var 1) (.int 0), .idx (.var 1) (.int 1), .idx (.var 1) (.int 2), .idx (.var 1) (.int 3)])]
def _law_refused_b5 : List S := [.exp (.callv 0 [.idx (.var 1) (.int 0), .idx (.var 1) (.int 1), .idx (.var 1) (.int 2), .idx (.var 1) (.int 3), .idx (.var 1) (.int 4)])]
def _law_refused_b6 : List S := [.exp (.callv 0 [.idx (.var 1) (.int 0), .idx (.var 1) (.int 1), .idx (.var 1) (.int 2), .idx (.var 1) (.int 3), .idx (.var 1) (.int 4), .idx (.var 1) (.int 5)])]
def _law_refused_b7 : List S := [.ite (.cmp .eq (.blt .len [.var 1]) (.int 5)) _law_refused_b5 _law_refused_b6]
def _law_refused_b8 : List S := [.ite (.cmp .eq (.blt .len [.var 1]) (.int 4)) _law_refused_b4 _law_refused_b7]
def _law_refused_b9 : List S := [.ite (.cmp .eq (.blt .len [.var 1]) (.int 3)) _law_refused_b3 _law_refused_b8]
def _law_refused_b10 : List S := [.ite (.cmp .eq (.blt .len [.var 1]) (.int 2)) _law_refused_b2 _law_refused_b9]
def _law_refused_b11 : List S := [.ite (.cmp .eq (.blt .len [.var 1]) (.int 1)) _law_refused_b1 _law_refused_b10]
def _law_refused_body : List S := [.tryR _law_refused_b11 0 3 (some 2), .ret (.bl false)]
def _law_refused_fn : Fn := ⟨3, 4, _law_refused_body⟩
def _law_low_b1 : List S := [.brk]
def _law_low_b2 : List S := [.ite (.cmp .eq (.var 3) (.int 0)) _law_low_b1 [], .set 5 (.bin .mod (.blt .int [.var 2]) (.var 3)), .set 2 (.var 3), .set 3 (.var 5)]
def _law_low_body : List S := [.set 2 (.blt .abs [.var 0]), .set 3 (.var 1), .for_ (.nm 4) (.blt .rng1 [.int 9000]) _law_low_b2, .ret (.tup [.bin .fdiv (.var 0) (.var 2), .bin .fdiv (.var 1) (.var 2)])]
def _law_low_fn : Fn := ⟨2, 6, _law_low_body⟩
def _law_plus_body : List S := [.ret (.call 32 [.bin .add (.bin .mul (.idx (.var 0) (.int 0)) (.idx (.var 1) (.int 1))) (.bin .mul (.idx (.var 1) (.int 0)) (.idx (.var 0) (.int 1))), .bin .mul (.idx (.var 0) (.int 1)) (.idx (.var 1) (.int 1))])]
def _law_plus_fn : Fn := ⟨2, 2, _law_plus_body⟩
def _law_times_body : List S := [.ret (.call 32 [.bin .mul (.idx (.var 0) (.int 0)) (.idx (.var 1) (.int 0)), .bin .mul (.idx (.var 0) (.int 1)) (.idx (.var 1) (.int 1))])]
def _law_times_fn : Fn := ⟨2, 2, _law_times_body⟩
def _law_less_body : List S := [.ret (.cmp .lt (.bin .mul (.idx (.var 0) (.int 0)) (.idx (.var 1) (.int 1))) (.bin .mul (.idx (.var 1) (.int 0)) (.idx (.var 0) (.int 1))))]
def _law_less_fn : Fn := ⟨2, 2, _law_less_body⟩
def _law_minus_body : List S := [.ret (.call 32 [.bin .sub (.bin .mul (.idx (.var 0) (.int 0)) (.idx (.var 1) (.int 1))) (.bin .mul (.idx (.var 1) (.int 0)) (.idx (.var 0) (.int 1))), .bin .mul (.idx (.var 0) (.int 1)) (.idx (.var 1) (.int 1))])]
def _law_minus_fn : Fn := ⟨2, 2, _law_minus_body⟩
def _law_numbers_b1 : List S := [.app 4 (.bin .mod (.blt .int [.var 5]) (.bin .pow (.int 10) (.int 9))), .set 5 (.bin .fdiv (.var 5) (.bin .pow (.int 10) (.int 9)))]
def _law_numbers_b2 : List S := [.set 7 (.bin .mod (.blt .int [.bin .add (.bin .add (.bin .mul (.var 3) (.int 48271)) (.bin .mul (.bin .add (.var 6) (.int 1)) (.int 69621))) (.var 1)]) (.int 2147483647)), .app 4 (.bin .mod (.bin .mod (.blt .int [.bin .add (.bin .mul (.var 7) (.int 16807)) (.bin .mul (.bin .add (.var 6) (.int 3)) (.int 40692))]) (.int 2147483399)) (.bin .pow (.int 10) (.int 9)))]
def _law_numbers_b3 : List S := [.ite (.cmp .ge (.var 3) (.bin .pow (.int 10) (.int 18))) _law_numbers_b1 _law_numbers_b2]
def _law_numbers_body : List S := [.set 3 (.ifx (.cmp .lt (.var 1) (.blt .len [.var 0])) (.idx (.var 0) (.var 1)) (.int 0)), .own 4 (.lst []), .set 5 (.var 3), .for_ (.nm 6) (.blt .rng1 [.var 2]) _law_numbers_b3, .frz 4, .ret (.var 4)]
def _law_numbers_fn : Fn := ⟨3, 8, _law_numbers_body⟩
def _law_bounds_b1 : List S := [.set 3 (.call 32 [.bin .sub (.bin .mod (.blt .int [.var 2]) (.int 13)) (.int 5), .bin .add (.int 1) (.bin .mod (.blt .int [.bin .fdiv (.var 2) (.int 13)]) (.int 2))]), .app 1 (.tup [.var 3, .call 33 [.var 3, .call 32 [.bin .mod (.blt .int [.bin .fdiv (.var 2) (.int 26)]) (.int 6), .bin .add (.int 1) (.bin .mod (.blt .int [.bin .fdiv (.var 2) (.int 156)]) (.int 2))]]])]
def _law_bounds_body : List S := [.own 1 (.lst []), .for_ (.nm 2) (.slc (.var 0) (.int 1) (.bin .add (.int 4) (.bin .mod (.blt .int [.idx (.var 0) (.int 0)]) (.int 4)))) _law_bounds_b1, .ret (.blt .tuple [.var 1])]
def _law_bounds_fn : Fn := ⟨1, 4, _law_bounds_body⟩
def sure_tables_body : List S := [.set 1 (.blt .rng1 [.blt .len [.var 0]]), .set 2 (.blt .tuple [.comp (.nm 4) (.var 1) .noE (.blt .tuple [.comp (.nm 3) (.var 1) .noE (.and (.cmp .lt (.var 4) (.var 3)) (.call 7 [.idx (.idx (.var 0) (.var 3)) (.int 1), .idx (.idx (.var 0) (.var 4)) (.int 0)])) [3]]) [4]]), .set 5 (.blt .tuple [.comp (.nm 4) (.var 1) .noE (.blt .tuple [.comp (.nm 3) (.var 1) .noE (.and (.cmp .lt (.var 4) (.var 3)) (.call 7 [.idx (.idx (.var 0) (.var 4)) (.int 1), .idx (.idx (.var 0) (.var 3)) (.int 0)])) [3]]) [4]]), .ret (.tup [.var 2, .var 5])]
def sure_tables_fn : Fn := ⟨1, 6, sure_tables_body⟩
def pairs_in_body : List S := [.set 1 (.blt .rng1 [.blt .len [.var 0]]), .ret (.blt .tuple [.comp2 (.nm 2) (.var 1) (.nm 3) (.var 1) (.idx (.idx (.var 0) (.var 2)) (.var 3)) (.tup [.var 2, .var 3]) [2, 3] [3]])]
def pairs_in_fn : Fn := ⟨1, 4, pairs_in_body⟩
def falls_body : List S := [.ret (.call 65 [.idx (.call 64 [.call 14 [.var 0, .int 1]]) (.int 0)])]
def falls_fn : Fn := ⟨1, 1, falls_body⟩
def rises_body : List S := [.ret (.call 65 [.idx (.call 64 [.call 14 [.var 0, .int 1]]) (.int 1)])]
def rises_fn : Fn := ⟨1, 1, rises_body⟩
def _law_listed_v1_b1 : List S := [.ret (.comp (.nm 1) (.var 0) .noE (.call 57 [.var 1]) [1])]
def _law_listed_v1_body : List S := [.ite (.isi (.var 0) [.tuple]) _law_listed_v1_b1 [], .ret (.var 0)]
def _law_listed_v1_fn : Fn := ⟨1, 2, _law_listed_v1_body⟩
def _law_falls_b1 : List S := [.set 1 (.bin .add (.var 1) (.comp (.nm 3) (.blt .rng2 [.bin .add (.var 2) (.int 1), .blt .len [.var 0]]) (.call 35 [.idx (.idx (.var 0) (.var 3)) (.int 1), .idx (.idx (.var 0) (.var 2)) (.int 0)]) (.tup [.var 2, .var 3]) [3]))]
def _law_falls_body : List S := [.set 1 (.lst []), .for_ (.nm 2) (.blt .rng1 [.blt .len [.var 0]]) _law_falls_b1, .ret (.var 1)]
def _law_falls_fn : Fn := ⟨1, 4, _law_falls_body⟩
def _law_rises_b1 : List S := [.set 1 (.bin .add (.var 1) (.comp (.nm 3) (.blt .rng2 [.bin .add (.var 2) (.int 1), .blt .len [.var 0]]) (.call 35 [.idx (.idx (.var 0) (.var 2)) (.int 1), .idx (.idx (.var 0) (.var 3)) (.int 0)]) (.tup [.var 2, .var 3]) [3]))]
def _law_rises_body : List S := [.set 1 (.lst []), .for_ (.nm 2) (.blt .rng1 [.blt .len [.var 0]]) _law_rises_b1, .ret (.var 1)]
def _law_rises_fn : Fn := ⟨1, 4, _law_rises_body⟩
def _law_touching_b1 : List S := [.set 4 (.idx (.idx (.var 2) (.bin .sub (.var 3) (.int 1))) (.bin .mod (.blt .int [.bin .fdiv (.var 1) (.bin .add (.int 1) (.var 3))]) (.int 2))), .sit 2 (.var 3) (.ifx (.cmp .eq (.bin .mod (.blt .int [.bin .fdiv (.var 1) (.bin .add (.int 2) (.var 3))]) (.int 2)) (.int 0)) (.tup [.var 4, .call 33 [.var 4, .tup [.int 1, .int 1]]]) (.tup [.call 36 [.var 4, .tup [.int 1, .int 1]], .var 4]))]
def _law_touching_b2 : List S := [.ite (.cmp .eq (.bin .mod (.blt .int [.bin .fdiv (.var 1) (.bin .add (.int 1) (.bin .mul (.int 3) (.var 3)))]) (.int 2)) (.int 0)) _law_touching_b1 []]
def _law_touching_body : List S := [.own 2 (.blt .list [.var 0]), .for_ (.nm 3) (.blt .rng2 [.int 1, .blt .len [.var 2]]) _law_touching_b2, .ret (.blt .tuple [.var 2])]
def _law_touching_fn : Fn := ⟨2, 5, _law_touching_body⟩
def law_v2_b1 : List S := [.ret (.bl false)]
def law_v2_b2 : List S := [.ret (.bl false)]
def law_v2_b3 : List S := [.ret (.bl false)]
def law_v2_b4 : List S := [.ite (.cmp .ne (.comp (.nm 9) (.var 6) (.and (.cmp .eq (.idx (.var 9) (.int 0)) (.var 8)) (.cmp .notin (.tup [.var 7, .idx (.var 9) (.int 1)]) (.var 6))) (.var 9) [9]) (.lst [])) law_v2_b3 []]
def law_v2_b5 : List S := [.for_ (.tp [(.nm 7), (.nm 8)]) (.var 6) law_v2_b4]
def law_v2_b6 : List S := [.set 4 (.call 68 [.var 3]), .set 5 (.call 69 [.var 3]), .ite (.or (.not (.call 29 [.call 66 [.call 57 [.var 3]], .blt .tuple [.var 4]])) (.not (.call 29 [.call 67 [.call 57 [.var 3]], .blt .tuple [.var 5]]))) law_v2_b1 [], .ite (.or (.not (.call 29 [.call 66 [.call 23 [.var 3]], .blt .tuple [.var 5]])) (.not (.call 29 [.call 67 [.call 23 [.var 3]], .blt .tuple [.var 4]]))) law_v2_b2 [], .for_ (.nm 6) (.lst [.var 4, .var 5]) law_v2_b5]
def law_v2_body : List S := [.set 1 (.call 37 [.var 0, .int 0, .int 10]), .set 2 (.call 41 [.var 1]), .for_ (.nm 3) (.lst [.var 2, .call 70 [.var 2, .idx (.var 1) (.int 8)], .call 70 [.var 2, .idx (.var 1) (.int 9)]]) law_v2_b6, .ret (.and (.call 31 [.fnv 66, .lst [.non], .int 1]) (.and (.call 31 [.fnv 67, .lst [.tup []], .int 1]) (.call 31 [.fnv 66, .lst [.tup [.tup [.tup [.int 2, .int 1], .tup [.int 1, .int 1]]]], .int 1])))]
def law_v2_fn : Fn := ⟨1, 10, law_v2_body⟩
def places_kept_b1 : List S := [.ret .non]
def places_kept_b2 : List S := [.ret .non]
def places_kept_b3 : List S := [.ite (.not (.call 1 [.var 4, .var 3, .bin .sub (.var 1) (.int 1)])) places_kept_b2 [], .set 3 (.var 4)]
def places_kept_body : List S := [.ite (.or (.not (.call 2 [.var 0])) (.cmp .ne (.blt .len [.var 0]) (.bin .sub (.var 2) (.int 1)))) places_kept_b1 [], .set 3 (.int 0), .for_ (.nm 4) (.var 0) places_kept_b3, .ret (.blt .tuple [.var 0])]
def places_kept_fn : Fn := ⟨3, 5, places_kept_body⟩
def need_any_row_b1 : List S := [.rse 0 [.var 1]]
def need_any_row_body : List S := [.ite (.or (.not (.call 2 [.var 0])) (.not (.chain .le .le (.int 1) (.blt .len [.var 0]) (.gl 0)))) need_any_row_b1 [], .ret (.call 15 [.var 0, .blt .len [.var 0], .var 1])]
def need_any_row_fn : Fn := ⟨2, 2, need_any_row_body⟩
def words_by_b1 : List S := [.set 5 (.blt .len [.comp (.nm 6) (.var 1) (.cmp .le (.var 6) (.var 4)) (.var 6) [6]]), .app 3 (.bin .mod (.bin .add (.var 0) (.var 5)) (.int 2))]
def words_by_body : List S := [.own 3 (.lst []), .for_ (.nm 4) (.blt .rng1 [.bin .sub (.var 2) (.int 1)]) words_by_b1, .ret (.blt .tuple [.var 3])]
def words_by_fn : Fn := ⟨3, 7, words_by_body⟩
def goes_b1 : List S := [.ret (.bl false)]
def goes_b2 : List S := [.ret (.bl false)]
def goes_b3 : List S := [.ite (.and (.cmp .eq (.var 4) (.int 0)) (.call 7 [.idx (.var 0) (.bin .add (.var 3) (.int 1)), .idx (.var 0) (.var 3)])) goes_b1 [], .ite (.and (.cmp .eq (.var 4) (.int 1)) (.call 7 [.idx (.var 0) (.var 3), .idx (.var 0) (.bin .add (.var 3) (.int 1))])) goes_b2 []]
def goes_body : List S := [.for_ (.tp [(.nm 3), (.nm 4)]) (.blt .enum [.call 75 [.var 1, .var 2, .blt .len [.var 0]]]) goes_b3, .ret (.bl true)]
def goes_fn : Fn := ⟨3, 5, goes_body⟩
def _law_all_places_b1 : List S := [.set 4 (.bin .add (.var 4) (.comp (.nm 6) (.blt .rng2 [.ifx (.cmp .ne (.var 5) (.tup [])) (.idx (.var 5) (.neg (.int 1))) (.int 0), .var 0]) .noE (.bin .add (.var 5) (.tup [.var 6])) [6]))]
def _law_all_places_b2 : List S := [.set 4 (.lst []), .for_ (.nm 5) (.var 2) _law_all_places_b1, .set 2 (.var 4)]
def _law_all_places_body : List S := [.set 2 (.lst [.tup []]), .for_ (.nm 3) (.blt .rng1 [.var 1]) _law_all_places_b2, .ret (.var 2)]
def _law_all_places_fn : Fn := ⟨2, 7, _law_all_places_body⟩
def _law_goes_by_b1 : List S := [.ret (.bl false)]
def _law_goes_by_b2 : List S := [.ite (.or (.and (.cmp .eq (.bin .mod (.blt .int [.bin .add (.var 1) (.var 4)]) (.int 2)) (.int 0)) (.call 35 [.idx (.var 0) (.bin .add (.var 5) (.int 1)), .idx (.var 0) (.var 5)])) (.and (.cmp .eq (.bin .mod (.blt .int [.bin .add (.var 1) (.var 4)]) (.int 2)) (.int 1)) (.call 35 [.idx (.var 0) (.var 5), .idx (.var 0) (.bin .add (.var 5) (.int 1))]))) _law_goes_by_b1 []]
def _law_goes_by_b3 : List S := [.for_ (.nm 5) (.blt .rng2 [.idx (.var 3) (.var 4), .idx (.var 3) (.bin .add (.var 4) (.int 1))]) _law_goes_by_b2]
def _law_goes_by_body : List S := [.set 3 (.bin .add (.bin .add (.tup [.int 0]) (.var 2)) (.tup [.bin .sub (.blt .len [.var 0]) (.int 1)])), .for_ (.nm 4) (.blt .rng1 [.bin .sub (.blt .len [.var 3]) (.int 1)]) _law_goes_by_b3, .ret (.bl true)]
def _law_goes_by_fn : Fn := ⟨3, 6, _law_goes_by_body⟩
def _law_plain_row_body : List S := [.ret (.blt .tuple [.comp (.nm 2) (.blt .rng1 [.var 1]) .noE (.call 32 [.bin .sub (.bin .mod (.blt .int [.bin .fdiv (.idx (.var 0) (.bin .mod (.var 2) (.blt .len [.var 0]))) (.bin .add (.int 1) (.bin .mul (.int 7) (.var 2)))]) (.int 4)) (.int 1), .int 1]) [2]])]
def _law_plain_row_fn : Fn := ⟨2, 3, _law_plain_row_body⟩
def at_most_body : List S := [.ret (.cmp .le (.bin .mul (.idx (.var 0) (.int 0)) (.idx (.var 1) (.int 1))) (.bin .mul (.idx (.var 1) (.int 0)) (.idx (.var 0) (.int 1))))]
def at_most_fn : Fn := ⟨2, 2, at_most_body⟩
def fewest_b1 : List S := [.aug 3 .add (.int 1)]
def fewest_b2 : List S := [.ite (.cmp .ne (.idx (.var 1) (.var 4)) (.idx (.var 1) (.bin .sub (.var 4) (.int 1)))) fewest_b1 []]
def fewest_body : List S := [.set 1 (.comp (.nm 2) (.call 89 [.var 0]) (.cmp .ne (.var 2) (.str (PySem.Str.ofString "level"))) (.var 2) [2]), .set 3 (.int 1), .for_ (.nm 4) (.blt .rng2 [.int 1, .blt .len [.var 1]]) fewest_b2, .set 5 (.ifx (.and (.cmp .gt (.blt .len [.var 1]) (.int 0)) (.cmp .eq (.idx (.var 1) (.int 0)) (.str (PySem.Str.ofString "fall")))) (.int 1) (.int 0)), .ret (.tup [.var 3, .var 5])]
def fewest_fn : Fn := ⟨1, 6, fewest_body⟩
def words_of_b1 : List S := [.app 2 (.str (PySem.Str.ofString "rise"))]
def words_of_b2 : List S := [.app 2 (.str (PySem.Str.ofString "fall"))]
def words_of_b3 : List S := [.app 2 (.str (PySem.Str.ofString "level"))]
def words_of_b4 : List S := [.ite (.call 7 [.idx (.var 1) (.bin .add (.var 3) (.int 1)), .idx (.var 1) (.var 3)]) words_of_b2 words_of_b3]
def words_of_b5 : List S := [.ite (.call 7 [.idx (.var 1) (.var 3), .idx (.var 1) (.bin .add (.var 3) (.int 1))]) words_of_b1 words_of_b4]
def words_of_body : List S := [.set 1 (.call 73 [.var 0, .int 1]), .own 2 (.lst []), .for_ (.nm 3) (.blt .rng1 [.bin .sub (.blt .len [.var 1]) (.int 1)]) words_of_b5, .ret (.blt .tuple [.var 2])]
def words_of_fn : Fn := ⟨1, 4, words_of_body⟩
def tops_b1 : List S := [.app 2 (.var 3)]
def tops_b2 : List S := [.set 5 (.bin .add (.slc (.var 1) (.blt .max2 [.int 0, .bin .sub (.var 3) (.int 1)]) (.var 3)) (.slc (.var 1) (.bin .add (.var 3) (.int 1)) (.bin .add (.var 3) (.int 2)))), .ite (.blt .all [.comp (.nm 6) (.var 5) .noE (.call 48 [.var 6, .var 4]) [6]]) tops_b1 []]
def tops_body : List S := [.set 1 (.call 73 [.var 0, .int 1]), .own 2 (.lst []), .for_ (.tp [(.nm 3), (.nm 4)]) (.blt .enum [.var 1]) tops_b2, .ret (.blt .tuple [.var 2])]
def tops_fn : Fn := ⟨1, 7, tops_body⟩
def bottoms_b1 : List S := [.app 2 (.var 3)]
def bottoms_b2 : List S := [.set 5 (.bin .add (.slc (.var 1) (.blt .max2 [.int 0, .bin .sub (.var 3) (.int 1)]) (.var 3)) (.slc (.var 1) (.bin .add (.var 3) (.int 1)) (.bin .add (.var 3) (.int 2)))), .ite (.blt .all [.comp (.nm 6) (.var 5) .noE (.call 48 [.var 4, .var 6]) [6]]) bottoms_b1 []]
def bottoms_body : List S := [.set 1 (.call 73 [.var 0, .int 1]), .own 2 (.lst []), .for_ (.tp [(.nm 3), (.nm 4)]) (.blt .enum [.var 1]) bottoms_b2, .ret (.blt .tuple [.var 2])]
def bottoms_fn : Fn := ⟨1, 7, bottoms_body⟩
def is_worded_b1 : List S := [.ret (.bl false)]
def is_worded_body : List S := [.ite (.or (.not (.call 2 [.var 0])) (.cmp .ne (.blt .len [.var 0]) (.var 2))) is_worded_b1 [], .ret (.and (.isi (.idx (.var 0) (.int 0)) [.str]) (.cmp .eq (.idx (.var 0) (.int 0)) (.var 1)))]
def is_worded_fn : Fn := ⟨3, 3, is_worded_body⟩
def smaller_body : List S := [.ret (.ifx (.call 7 [.var 1, .var 0]) (.var 1) (.var 0))]
def smaller_fn : Fn := ⟨2, 2, smaller_body⟩
def larger_body : List S := [.ret (.ifx (.call 7 [.var 0, .var 1]) (.var 1) (.var 0))]
def larger_fn : Fn := ⟨2, 2, larger_body⟩
def pair_kept_b1 : List S := [.ret .non]
def pair_kept_b2 : List S := [.ret .non]
def pair_kept_body : List S := [.ite (.or (.not (.call 2 [.var 0])) (.cmp .ne (.blt .len [.var 0]) (.int 2))) pair_kept_b1 [], .ite (.or (.not (.call 1 [.idx (.var 0) (.int 0), .int 0, .bin .sub (.var 1) (.int 1)])) (.not (.call 1 [.idx (.var 0) (.int 1), .int 0, .bin .sub (.var 1) (.int 1)]))) pair_kept_b2 [], .ret (.tup [.idx (.var 0) (.int 0), .idx (.var 0) (.int 1)])]
def pair_kept_fn : Fn := ⟨2, 2, pair_kept_body⟩
def need_shape_body : List S := [.set 3 (.call 14 [.var 0, .int 1]), .exp (.call 18 [.var 1, .int 0, .int 1, .int 2]), .exp (.call 18 [.var 2, .int 1, .gl 0, .int 3]), .ret (.var 3)]
def need_shape_fn : Fn := ⟨3, 4, need_shape_body⟩
def first_pair_b1 : List S := [.ret (.tup [.var 4, .var 3])]
def first_pair_b2 : List S := [.ite (.idx (.idx (.var 0) (.var 4)) (.var 3)) first_pair_b1 []]
def first_pair_b3 : List S := [.for_ (.nm 4) (.blt .rng2 [.var 2, .var 3]) first_pair_b2]
def first_pair_body : List S := [.for_ (.nm 3) (.blt .rng2 [.bin .add (.var 2) (.int 1), .var 1]) first_pair_b3, .ret .non]
def first_pair_fn : Fn := ⟨3, 5, first_pair_body⟩
def chain_in_b1 : List S := [.brk]
def chain_in_b2 : List S := [.set 7 (.call 103 [.idx (.var 0) (.var 6), .var 1, .var 3]), .ite (.cmp .is_ (.var 7) .non) chain_in_b1 [], .app 5 (.var 7), .set 3 (.bin .sub (.idx (.var 7) (.int 1)) (.int 1)), .set 6 (.bin .sub (.int 1) (.var 6))]
def chain_in_body : List S := [.own 5 (.lst []), .set 6 (.var 2), .whl 1000000 (.cmp .lt (.blt .len [.var 5]) (.var 4)) chain_in_b2, .ret (.blt .tuple [.var 5])]
def chain_in_fn : Fn := ⟨5, 8, chain_in_body⟩
def within_b1 : List S := [.ret (.bl false)]
def within_b2 : List S := [.unp (.tp [(.nm 4), (.nm 5)]) (.idx (.var 0) (.var 2)), .ite (.or (.call 7 [.var 3, .var 4]) (.call 7 [.var 5, .var 3])) within_b1 []]
def within_body : List S := [.for_ (.tp [(.nm 2), (.nm 3)]) (.blt .enum [.var 1]) within_b2, .ret (.bl true)]
def within_fn : Fn := ⟨2, 6, within_body⟩
def narrowed_turns_b1 : List S := [.set 4 (.idx (.idx (.var 0) (.var 3)) (.bin .sub (.int 1) (.idx (.var 1) (.bin .sub (.var 3) (.int 1))))), .sit 2 (.var 3) (.tup [.var 4, .var 4])]
def narrowed_turns_b2 : List S := [.ite (.cmp .ne (.idx (.var 1) (.bin .sub (.var 3) (.int 1))) (.idx (.var 1) (.var 3))) narrowed_turns_b1 []]
def narrowed_turns_body : List S := [.own 2 (.blt .list [.var 0]), .for_ (.nm 3) (.blt .rng2 [.int 1, .blt .len [.var 1]]) narrowed_turns_b2, .ret (.blt .tuple [.var 2])]
def narrowed_turns_fn : Fn := ⟨2, 5, narrowed_turns_body⟩
def row_along_b1 : List S := [.set 3 (.call 99 [.var 3, .idx (.idx (.var 2) (.bin .add (.var 5) (.int 1))) (.int 0)])]
def row_along_b2 : List S := [.set 3 (.call 98 [.var 3, .idx (.idx (.var 2) (.bin .add (.var 5) (.int 1))) (.int 1)])]
def row_along_b3 : List S := [.ite (.cmp .eq (.var 6) (.int 0)) row_along_b1 row_along_b2, .app 4 (.var 3)]
def row_along_b4 : List S := [.ret .non]
def row_along_body : List S := [.set 2 (.call 106 [.var 0, .var 1]), .set 3 (.ifx (.and (.cmp .gt (.blt .len [.var 1]) (.int 0)) (.cmp .eq (.idx (.var 1) (.int 0)) (.int 1))) (.idx (.idx (.var 2) (.int 0)) (.int 1)) (.idx (.idx (.var 2) (.int 0)) (.int 0))), .own 4 (.lst [.var 3]), .for_ (.tp [(.nm 5), (.nm 6)]) (.blt .enum [.var 1]) row_along_b3, .frz 4, .ite (.not (.call 105 [.var 2, .var 4])) row_along_b4 [], .ret (.blt .tuple [.var 4])]
def row_along_fn : Fn := ⟨2, 7, row_along_body⟩
def told_row_b1 : List S := [.ret .non]
def told_row_b2 : List S := [.app 5 (.bin .sub (.var 3) (.int 1))]
def told_row_body : List S := [.set 3 (.blt .len [.var 0]), .set 4 (.call 104 [.call 64 [.var 0], .var 3, .var 1, .int 0, .var 2]), .ite (.cmp .eq (.blt .len [.var 4]) (.var 2)) told_row_b1 [], .own 5 (.comp (.nm 6) (.var 4) .noE (.bin .sub (.idx (.var 6) (.int 1)) (.int 1)) [6]), .whl 1000000 (.cmp .lt (.blt .len [.var 5]) (.bin .sub (.var 2) (.int 1))) told_row_b2, .frz 5, .ret (.tup [.call 107 [.var 0, .call 75 [.var 1, .var 5, .var 3]], .blt .tuple [.var 5]])]
def told_row_fn : Fn := ⟨3, 7, told_row_body⟩
def shows_row_b1 : List S := [.ret (.bl false)]
def shows_row_b2 : List S := [.ret (.bl false)]
def shows_row_body : List S := [.ite (.or (.not (.call 2 [.var 3])) (.cmp .ne (.blt .len [.var 3]) (.int 2))) shows_row_b1 [], .set 4 (.call 12 [.idx (.var 3) (.int 0), .blt .len [.var 0]]), .set 5 (.call 72 [.idx (.var 3) (.int 1), .blt .len [.var 0], .var 2]), .ite (.or (.cmp .is_ (.var 4) .non) (.cmp .is_ (.var 5) .non)) shows_row_b2 [], .ret (.and (.call 105 [.var 0, .var 4]) (.call 76 [.var 4, .var 1, .var 5]))]
def shows_row_fn : Fn := ⟨4, 6, shows_row_body⟩
def chain_kept_b1 : List S := [.ret .non]
def chain_kept_b2 : List S := [.ret .non]
def chain_kept_b3 : List S := [.set 8 (.call 100 [.var 7, .blt .len [.var 0]]), .ite (.or (.cmp .is_ (.var 8) .non) (.or (.cmp .lt (.idx (.var 8) (.int 0)) (.var 5)) (.not (.idx (.idx (.idx (.var 3) (.var 4)) (.idx (.var 8) (.int 0))) (.idx (.var 8) (.int 1)))))) chain_kept_b2 [], .app 6 (.var 8), .set 5 (.bin .sub (.idx (.var 8) (.int 1)) (.int 1)), .set 4 (.bin .sub (.int 1) (.var 4))]
def chain_kept_body : List S := [.ite (.or (.not (.call 2 [.var 2])) (.cmp .eq (.blt .len [.var 2]) (.int 0))) chain_kept_b1 [], .set 3 (.call 64 [.var 0]), .set 4 (.var 1), .set 5 (.int 0), .own 6 (.lst []), .for_ (.nm 7) (.var 2) chain_kept_b3, .ret (.blt .tuple [.var 6])]
def chain_kept_fn : Fn := ⟨3, 9, chain_kept_body⟩
def can_b1 : List S := [.ret (.tup [.str (PySem.Str.ofString "chain"), .call 104 [.call 64 [.var 3], .blt .len [.var 3], .var 1, .int 0, .var 2]])]
def can_body : List S := [.set 3 (.call 101 [.var 0, .var 1, .var 2]), .set 4 (.call 108 [.var 3, .var 1, .var 2]), .ite (.cmp .is_ (.var 4) .non) can_b1 [], .ret (.tup [.str (PySem.Str.ofString "row"), .idx (.var 4) (.int 0), .idx (.var 4) (.int 1)])]
def can_fn : Fn := ⟨3, 5, can_body⟩
def can_shows_b1 : List S := [.ret (.call 109 [.var 0, .var 1, .var 2, .tup [.idx (.var 3) (.int 1), .idx (.var 3) (.int 2)]])]
def can_shows_b2 : List S := [.set 4 (.call 110 [.var 0, .var 1, .idx (.var 3) (.int 1)]), .ret (.and (.cmp .isnot (.var 4) .non) (.cmp .eq (.blt .len [.var 4]) (.var 2)))]
def can_shows_body : List S := [.ite (.call 97 [.var 3, .str (PySem.Str.ofString "row"), .int 3]) can_shows_b1 [], .ite (.call 97 [.var 3, .str (PySem.Str.ofString "chain"), .int 2]) can_shows_b2 [], .ret (.bl false)]
def can_shows_fn : Fn := ⟨4, 5, can_shows_body⟩
def can_holds_body : List S := [.set 4 (.call 101 [.var 0, .var 1, .var 2]), .ret (.call 112 [.var 4, .var 1, .var 2, .var 3])]
def can_holds_fn : Fn := ⟨4, 5, can_holds_body⟩
def _law_int_body : List S := [.ret (.and (.isi (.var 0) [.int]) (.not (.isi (.var 0) [.bool])))]
def _law_int_fn : Fn := ⟨1, 1, _law_int_body⟩
def _law_is_fraction_b1 : List S := [.ret (.bl false)]
def _law_is_fraction_body : List S := [.ite (.or (.not (.isi (.var 0) [.tuple])) (.or (.cmp .ne (.blt .len [.var 0]) (.int 2)) (.or (.not (.call 114 [.idx (.var 0) (.int 0)])) (.not (.call 114 [.idx (.var 0) (.int 1)]))))) _law_is_fraction_b1 [], .ret (.and (.cmp .gt (.idx (.var 0) (.int 1)) (.int 0)) (.and (.or (.var 1) (.cmp .ge (.idx (.var 0) (.int 0)) (.int 0))) (.cmp .eq (.call 32 [.idx (.var 0) (.int 0), .idx (.var 0) (.int 1)]) (.var 0))))]
def _law_is_fraction_fn : Fn := ⟨2, 2, _law_is_fraction_body⟩
def _law_is_row_body : List S := [.ret (.and (.isi (.var 0) [.tuple]) (.and (.cmp .eq (.blt .len [.var 0]) (.var 1)) (.cmp .eq (.comp (.nm 2) (.var 0) (.not (.call 115 [.var 2, .bl true])) (.var 2) [2]) (.lst []))))]
def _law_is_row_fn : Fn := ⟨2, 3, _law_is_row_body⟩
def _law_fits_b1 : List S := [.ret (.bl false)]
def _law_fits_body : List S := [.ite (.not (.call 116 [.var 1, .blt .len [.var 0]])) _law_fits_b1 [], .ret (.cmp .eq (.comp (.nm 2) (.blt .rng1 [.blt .len [.var 1]]) (.or (.call 35 [.idx (.var 1) (.var 2), .idx (.idx (.var 0) (.var 2)) (.int 0)]) (.call 35 [.idx (.idx (.var 0) (.var 2)) (.int 1), .idx (.var 1) (.var 2)])) (.var 2) [2]) (.lst []))]
def _law_fits_fn : Fn := ⟨2, 3, _law_fits_body⟩
def _law_is_places_b1 : List S := [.ret (.bl false)]
def _law_is_places_body : List S := [.ite (.or (.not (.isi (.var 1) [.tuple])) (.or (.cmp .ne (.blt .len [.var 1]) (.var 2)) (.cmp .ne (.comp (.nm 3) (.var 1) (.or (.not (.call 114 [.var 3])) (.cmp .notin (.var 3) (.blt .rng1 [.var 0]))) (.var 3) [3]) (.lst [])))) _law_is_places_b1 [], .ret (.cmp .eq (.comp (.nm 3) (.blt .rng2 [.int 1, .blt .len [.var 1]]) (.cmp .gt (.idx (.var 1) (.bin .sub (.var 3) (.int 1))) (.idx (.var 1) (.var 3))) (.var 3) [3]) (.lst []))]
def _law_is_places_fn : Fn := ⟨3, 4, _law_is_places_body⟩
def _law_bounds_go_by_b1 : List S := [.sit 4 (.neg (.int 1)) (.tup [.var 6, .idx (.idx (.var 4) (.neg (.int 1))) (.int 1), .idx (.var 3) (.bin .add (.var 5) (.int 1))])]
def _law_bounds_go_by_b2 : List S := [.app 4 (.tup [.var 6, .idx (.var 3) (.var 5), .idx (.var 3) (.bin .add (.var 5) (.int 1))])]
def _law_bounds_go_by_b3 : List S := [.ite (.and (.cmp .ne (.var 4) (.lst [])) (.cmp .eq (.idx (.idx (.var 4) (.neg (.int 1))) (.int 0)) (.var 6))) _law_bounds_go_by_b1 _law_bounds_go_by_b2]
def _law_bounds_go_by_b4 : List S := [.set 6 (.bin .mod (.blt .int [.bin .add (.var 1) (.var 5)]) (.int 2)), .ite (.cmp .lt (.idx (.var 3) (.var 5)) (.idx (.var 3) (.bin .add (.var 5) (.int 1)))) _law_bounds_go_by_b3 []]
def _law_bounds_go_by_b5 : List S := [.ret (.bl false)]
def _law_bounds_go_by_b6 : List S := [.ite (.cmp .ne (.comp (.nm 10) (.idx (.var 7) (.var 6)) (.and (.cmp .le (.var 8) (.idx (.var 10) (.int 0))) (.cmp .le (.idx (.var 10) (.int 1)) (.var 9))) (.var 10) [10]) (.lst [])) _law_bounds_go_by_b5 []]
def _law_bounds_go_by_body : List S := [.set 3 (.bin .add (.bin .add (.tup [.int 0]) (.var 2)) (.tup [.bin .sub (.blt .len [.var 0]) (.int 1)])), .own 4 (.lst []), .for_ (.nm 5) (.blt .rng1 [.bin .sub (.blt .len [.var 3]) (.int 1)]) _law_bounds_go_by_b4, .set 7 (.lst [.call 68 [.var 0], .call 69 [.var 0]]), .frz 4, .for_ (.tp [(.nm 6), (.nm 8), (.nm 9)]) (.var 4) _law_bounds_go_by_b6, .ret (.bl true)]
def _law_bounds_go_by_fn : Fn := ⟨3, 11, _law_bounds_go_by_body⟩
def _law_good_places_body : List S := [.ret (.comp (.nm 3) (.call 83 [.blt .len [.var 0], .bin .sub (.var 2) (.int 1)]) (.call 119 [.var 0, .var 1, .var 3]) (.var 3) [3])]
def _law_good_places_fn : Fn := ⟨3, 4, _law_good_places_body⟩
def _law_is_chain_b1 : List S := [.ret (.bl false)]
def _law_is_chain_b2 : List S := [.ret (.bl false)]
def _law_is_chain_b3 : List S := [.ite (.or (.cmp .notin (.idx (.var 2) (.var 5)) (.idx (.var 4) (.bin .mod (.blt .int [.bin .add (.var 1) (.var 5)]) (.int 2)))) (.or (.not (.call 114 [.idx (.idx (.var 2) (.var 5)) (.int 0)])) (.and (.cmp .gt (.var 5) (.int 0)) (.cmp .lt (.idx (.idx (.var 2) (.var 5)) (.int 0)) (.bin .sub (.idx (.idx (.var 2) (.bin .sub (.var 5) (.int 1))) (.int 1)) (.int 1)))))) _law_is_chain_b2 []]
def _law_is_chain_body : List S := [.ite (.or (.not (.isi (.var 2) [.tuple])) (.or (.cmp .eq (.var 2) (.tup [])) (.cmp .ne (.comp (.nm 3) (.var 2) (.or (.not (.isi (.var 3) [.tuple])) (.cmp .ne (.blt .len [.var 3]) (.int 2))) (.var 3) [3]) (.lst [])))) _law_is_chain_b1 [], .set 4 (.lst [.call 68 [.var 0], .call 69 [.var 0]]), .for_ (.nm 5) (.blt .rng1 [.blt .len [.var 2]]) _law_is_chain_b3, .ret (.bl true)]
def _law_is_chain_fn : Fn := ⟨3, 6, _law_is_chain_body⟩
def _law_all_chains_b1 : List S := [.set 6 (.bin .add (.var 6) (.comp (.nm 8) (.idx (.var 3) (.bin .mod (.blt .int [.bin .add (.var 1) (.var 5)]) (.int 2))) (.or (.cmp .eq (.var 7) (.tup [])) (.cmp .ge (.idx (.var 8) (.int 0)) (.bin .sub (.idx (.idx (.var 7) (.neg (.int 1))) (.int 1)) (.int 1)))) (.bin .add (.var 7) (.tup [.var 8])) [8]))]
def _law_all_chains_b2 : List S := [.set 6 (.lst []), .for_ (.nm 7) (.var 4) _law_all_chains_b1, .set 4 (.slc (.var 6) .noE (.int 3000))]
def _law_all_chains_body : List S := [.set 3 (.lst [.call 68 [.var 0], .call 69 [.var 0]]), .set 4 (.lst [.tup []]), .for_ (.nm 5) (.blt .rng1 [.var 2]) _law_all_chains_b2, .ret (.var 4)]
def _law_all_chains_fn : Fn := ⟨3, 9, _law_all_chains_body⟩
def _law_row_in_v1_b1 : List S := [.unp (.tp [(.nm 4), (.nm 5)]) (.idx (.var 1) (.var 3)), .set 6 (.call 32 [.bin .mod (.blt .int [.bin .fdiv (.idx (.var 0) (.bin .mod (.var 3) (.blt .len [.var 0]))) (.bin .add (.int 1) (.bin .mul (.int 3) (.var 3)))]) (.int 5), .int 4]), .app 2 (.call 33 [.var 4, .call 34 [.var 6, .call 36 [.var 5, .var 4]]])]
def _law_row_in_v1_body : List S := [.own 2 (.lst []), .for_ (.nm 3) (.blt .rng1 [.blt .len [.var 1]]) _law_row_in_v1_b1, .ret (.blt .tuple [.var 2])]
def _law_row_in_v1_fn : Fn := ⟨2, 7, _law_row_in_v1_body⟩
def _law_so_b1 : List S := [.ret (.bl false)]
def _law_so_b2 : List S := [.ite (.or (.not (.call 117 [.var 0, .idx (.var 3) (.int 1)])) (.not (.call 118 [.blt .len [.var 0], .idx (.var 3) (.int 2), .bin .sub (.var 2) (.int 1)]))) _law_so_b1 [], .ret (.call 84 [.idx (.var 3) (.int 1), .var 1, .idx (.var 3) (.int 2)])]
def _law_so_body : List S := [.ite (.and (.cmp .eq (.idx (.var 3) (.int 0)) (.str (PySem.Str.ofString "row"))) (.cmp .eq (.blt .len [.var 3]) (.int 3))) _law_so_b2 [], .ret (.and (.cmp .eq (.idx (.var 3) (.int 0)) (.str (PySem.Str.ofString "chain"))) (.and (.cmp .eq (.blt .len [.var 3]) (.int 2)) (.and (.call 121 [.var 0, .var 1, .idx (.var 3) (.int 1)]) (.cmp .eq (.blt .len [.idx (.var 3) (.int 1)]) (.var 2)))))]
def _law_so_fn : Fn := ⟨4, 4, _law_so_body⟩
def _law_shape_asked_v1_b1 : List S := [.ret (.bl false)]
def _law_shape_asked_v1_b2 : List S := [.ret (.bl false)]
def _law_shape_asked_v1_b3 : List S := [.app 7 (.tup [.str (PySem.Str.ofString "row"), .var 3, .var 8])]
def _law_shape_asked_v1_b4 : List S := [.set 7 (.bin .add (.var 7) (.lst [.tup [.str (PySem.Str.ofString "row"), .idx (.var 5) (.int 1), .idx (.var 4) (.neg (.int 1))], .tup [.str (PySem.Str.ofString "row"), .rev (.idx (.var 5) (.int 1)), .idx (.var 5) (.int 2)], .tup [.str (PySem.Str.ofString "row"), .blt .tuple [.comp (.nm 8) (.idx (.var 5) (.int 1)) .noE (.call 33 [.var 8, .tup [.int 9, .int 1]]) [8]], .idx (.var 5) (.int 2)]]))]
def _law_shape_asked_v1_b5 : List S := [.ret (.bl false)]
def _law_shape_asked_v1_b6 : List S := [.ite (.not (.call 29 [.call 113 [.var 0, .var 1, .var 2, .var 9], .call 124 [.var 0, .var 1, .var 2, .var 9]])) _law_shape_asked_v1_b5 []]
def _law_shape_asked_v1_b7 : List S := [.ret (.bl false)]
def _law_shape_asked_v1_b8 : List S := [.ite (.cmp .ne (.call 113 [.var 0, .var 1, .var 2, .var 10]) (.bl false)) _law_shape_asked_v1_b7 []]
def _law_shape_asked_v1_body : List S := [.set 4 (.call 120 [.var 0, .var 1, .var 2]), .set 5 (.call 111 [.call 57 [.var 0], .var 1, .var 2]), .ite (.or (.not (.isi (.var 5) [.tuple])) (.or (.cmp .eq (.var 5) (.tup [])) (.or (.cmp .ne (.idx (.var 5) (.int 0)) (.ifx (.cmp .ne (.var 4) (.lst [])) (.str (PySem.Str.ofString "row")) (.str (PySem.Str.ofString "chain")))) (.not (.call 124 [.var 0, .var 1, .var 2, .var 5]))))) _law_shape_asked_v1_b1 [], .set 6 (.call 122 [.var 0, .var 1, .var 2]), .ite (.or (.cmp .ne (.cmp .eq (.var 6) (.lst [])) (.cmp .ne (.var 4) (.lst []))) (.cmp .ne (.call 113 [.call 57 [.var 0], .var 1, .var 2, .call 57 [.var 5]]) (.bl true))) _law_shape_asked_v1_b2 [], .own 7 (.comp (.nm 8) (.bin .add (.bin .add (.slc (.var 6) .noE (.int 3)) (.slc (.call 122 [.var 0, .var 1, .bin .add (.var 2) (.int 1)]) .noE (.int 2))) (.slc (.call 122 [.var 0, .bin .sub (.int 1) (.var 1), .var 2]) .noE (.int 3))) .noE (.tup [.str (PySem.Str.ofString "chain"), .var 8]) [8]), .for_ (.nm 8) (.stp (.call 83 [.blt .len [.var 0], .bin .sub (.var 2) (.int 1)]) 5) _law_shape_asked_v1_b3, .ite (.cmp .ne (.var 4) (.lst [])) _law_shape_asked_v1_b4 [], .frz 7, .for_ (.nm 9) (.var 7) _law_shape_asked_v1_b6, .for_ (.nm 10) (.lst [.non, .tup [], .slc (.var 5) .noE (.int 1), .bin .add (.tup [.str (PySem.Str.ofString "some")]) (.slc (.var 5) (.int 1) .noE), .tup [.idx (.var 5) (.int 0), .non], .tup [.str (PySem.Str.ofString "chain"), .tup []], .tup [.str (PySem.Str.ofString "row"), .non, .non]]) _law_shape_asked_v1_b8, .ret (.bl true)]
def _law_shape_asked_v1_fn : Fn := ⟨4, 11, _law_shape_asked_v1_body⟩
def law_v5_b1 : List S := [.ret (.bl false)]
def law_v5_b2 : List S := [.ite (.not (.call 125 [.var 2, .var 4, .var 5, .var 3])) law_v5_b1 []]
def law_v5_b3 : List S := [.for_ (.nm 5) (.lst [.int 1, .int 2, .int 3, .int 4]) law_v5_b2]
def law_v5_b4 : List S := [.ret (.bl false)]
def law_v5_body : List S := [.set 1 (.call 37 [.var 0, .int 0, .int 14]), .set 2 (.call 41 [.var 1]), .set 3 (.call 123 [.slc (.var 1) (.int 8) .noE, .var 2]), .for_ (.nm 4) (.lst [.int 0, .int 1]) law_v5_b3, .ite (.or (.not (.call 31 [.fnv 111, .lst [.non, .int 0, .int 1], .int 1])) (.or (.not (.call 31 [.fnv 111, .lst [.var 2, .int 2, .int 1], .int 2])) (.not (.call 31 [.fnv 111, .lst [.var 2, .int 0, .int 0], .int 3])))) law_v5_b4 [], .ret (.and (.call 31 [.fnv 111, .lst [.var 2, .int 2, .int 0], .int 2]) (.and (.call 31 [.fnv 111, .lst [.var 2, .int 0, .int 11], .int 3]) (.call 31 [.fnv 113, .lst [.var 2, .bl true, .int 1, .non], .int 2])))]
def law_v5_fn : Fn := ⟨1, 6, law_v5_body⟩
end PF

namespace PF
open PySem
/-! fractions -/
abbrev Fq : Type := Int × Int
def fr (q : Fq) : D := .tup [.int q.1, .int q.2]
structure OkF (N : Nat) (q : Fq) : Prop where
  pos : 0 < q.2
  gcd : Nat.gcd q.1.natAbs q.2.natAbs = 1
  b1 : q.1.natAbs ≤ N
  b2 : q.2.natAbs ≤ N
theorem OkF.mono {N M : Nat} {q : Fq} (h : OkF N q) (hm : N ≤ M) : OkF M q := ⟨h.pos, h.gcd, Nat.le_trans h.b1 hm, Nat.le_trans h.b2 hm⟩
def lim : Nat := 1000000000000
theorem mulOk_r {i j : Int} (h : j.natAbs ≤ lim) : mulOk i j = true := by
  unfold mulOk
  have : j.natAbs < 2 ^ 64 := Nat.lt_of_le_of_lt h (by decide)
  simp [this]
theorem mulOk_l {i j : Int} (h : i.natAbs ≤ lim) : mulOk i j = true := by
  unfold mulOk
  have : i.natAbs < 2 ^ 64 := Nat.lt_of_le_of_lt h (by decide)
  simp [this]
def ltQ (p q : Fq) : Bool := decide (p.1 * q.2 < q.1 * p.2)
theorem less_spec {T : Prg} {n : Nat} (h : T.fns 7 = some less_fn) {p q : Fq} (hp : OkF lim p) (hq : OkF lim q) : callF T (n + 1) 7 [fr p, fr q] = .ok (.bl (ltQ p q)) := by
  rw [callF_eq h rfl]
  simp [less_fn, less_body, startE, fr, atL, mulOk_r hq.b2, mulOk_r hp.b2, ltQ]
theorem lless_spec {T : Prg} {n : Nat} (h : T.fns 35 = some _law_less_fn) {p q : Fq} (hp : OkF lim p) (hq : OkF lim q) : callF T (n + 1) 35 [fr p, fr q] = .ok (.bl (ltQ p q)) := by
  rw [callF_eq h rfl]
  simp [_law_less_fn, _law_less_body, startE, fr, atL, mulOk_r hq.b2, mulOk_r hp.b2, ltQ]
def negQ (p : Fq) : Fq := (-p.1, p.2)
theorem negative_spec {T : Prg} {n : Nat} (h : T.fns 6 = some negative_fn) (p : Fq) : callF T (n + 1) 6 [fr p] = .ok (fr (negQ p)) := by
  rw [callF_eq h rfl]
  simp [negative_fn, negative_body, startE, fr, atL, negR, negQ]
theorem OkF.neg {N : Nat} {p : Fq} (h : OkF N p) : OkF N (negQ p) := ⟨h.pos, by simpa [negQ] using h.gcd, by simpa [negQ] using h.b1, h.b2⟩
/-! whole numbers, sequences -/
theorem is_whole_int {T : Prg} {n : Nat} (h : T.fns 0 = some is_whole_fn) (i : Int) : callF T (n + 1) 0 [.int i] = .ok (.bl true) := by
  rw [callF_eq h rfl]
  simp [is_whole_fn, is_whole_body, startE, isTs, isT]
theorem is_seq_tup {T : Prg} {n : Nat} (h : T.fns 2 = some is_sequence_fn) (ds : List D) : callF T (n + 1) 2 [.tup ds] = .ok (.bl true) := by
  rw [callF_eq h rfl]
  simp [is_sequence_fn, is_sequence_body, startE, isTs, isT]
theorem is_seq_lst {T : Prg} {n : Nat} (h : T.fns 2 = some is_sequence_fn) (ds : List D) : callF T (n + 1) 2 [.lst ds] = .ok (.bl true) := by
  rw [callF_eq h rfl]
  simp [is_sequence_fn, is_sequence_body, startE, isTs, isT]
/-- a tuple or a list of these -/
def seqD (b : Bool) (ds : List D) : D := if b = true then .tup ds else .lst ds
theorem is_seq_spec {T : Prg} {n : Nat} (h : T.fns 2 = some is_sequence_fn) (b : Bool) (ds : List D) : callF T (n + 1) 2 [seqD b ds] = .ok (.bl true) := by
  cases b
  · exact is_seq_lst h ds
  · exact is_seq_tup h ds
@[simp] theorem len_seqD (b : Bool) (ds : List D) : bltR .len [seqD b ds] = .ok (.int ds.length) := by cases b <;> exact eq_of_heq HEq.rfl
@[simp] theorem idx_seqD (b : Bool) (ds : List D) (i : Int) : idxR (seqD b ds) (.int i) = atL ds i := by cases b <;> exact eq_of_heq HEq.rfl
@[simp] theorem items_seqD (b : Bool) (ds : List D) : itemsR (seqD b ds) = .ok ds := by cases b <;> exact eq_of_heq HEq.rfl
/-- a fraction as a tuple or as a list -/
def frS (b : Bool) (q : Fq) : D := seqD b [.int q.1, .int q.2]
theorem signed_spec {T : Prg} {n : Nat} (h0 : T.fns 0 = some is_whole_fn) (h2 : T.fns 2 = some is_sequence_fn) (h : T.fns 8 = some signed_kept_fn) (b : Bool) {N : Nat} {q : Fq} (hq : OkF N q) : callF T (n + 2) 8 [frS b q] = .ok (fr q) := by
  rw [callF_eq h rfl]
  have e1 : ¬ (q.2 < 1) := by have := hq.pos; omega
  have e2 : ((Nat.gcd q.1.natAbs q.2.natAbs : Nat) : Int) = 1 := by rw [hq.gcd]; rfl
  simp [signed_kept_fn, signed_kept_body, startE, frS, is_seq_spec h2, is_whole_int h0, atL, e1, e2, fr]
end PF

namespace PF
open PySem
@[simp] theorem capL_ok {r : List D} (h : r.length ≤ 1000) : capL r = .ok (.lst r) := if_pos (Nat.le_trans h (by decide))
abbrev Pl : Type := Fq × Fq
structure OkP (N : Nat) (x : Pl) : Prop where
  lo : OkF N x.1
  hi : OkF N x.2
  le : ltQ x.2 x.1 = false
theorem OkP.mono {N M : Nat} {x : Pl} (h : OkP N x) (hm : N ≤ M) : OkP M x := ⟨h.lo.mono hm, h.hi.mono hm, h.le⟩
def plS (b : Bool) (x : Pl) : D := seqD b [frS b x.1, frS b x.2]
def pl (x : Pl) : D := .tup [fr x.1, fr x.2]
theorem ends_spec {T : Prg} {n : Nat} (h0 : T.fns 0 = some is_whole_fn) (h2 : T.fns 2 = some is_sequence_fn) (h7 : T.fns 7 = some less_fn) (h8 : T.fns 8 = some signed_kept_fn) (h : T.fns 10 = some ends_kept_fn) (b : Bool) {x : Pl} (hx : OkP lim x) : callF T (n + 3) 10 [plS b x] = .ok (pl x) := by
  rw [callF_eq h rfl]
  have e3 := hx.le
  simp [ends_kept_fn, ends_kept_body, startE, plS, is_seq_spec h2, atL, signed_spec h0 h2 h8 b hx.lo, signed_spec h0 h2 h8 b hx.hi, less_spec h7 hx.hi hx.lo, e3, isNon, pl]
  simp [fr, isNon, pl, less_spec h7 hx.hi hx.lo, e3]
theorem okD_fr (n : Nat) (q : Fq) : okD (n + 1) (fr q) = true := by simp [fr, okD, okDs]
theorem okD_pl (n : Nat) (x : Pl) : okD (n + 2) (pl x) = true := by simp [pl, okD, okDs, okD_fr]
theorem okDs_pl (n : Nat) (l : List Pl) : okDs (n + 2) (l.map pl) = true := by
  induction l with
  | nil => rfl
  | cons x l ih => simp [okDs, okD_pl, ih]
/-- the base defs that speak of bounds -/
structure HB (T : Prg) : Prop where
  c0 : T.con 0 = some (.int 10)
  h0 : T.fns 0 = some is_whole_fn
  h2 : T.fns 2 = some is_sequence_fn
  h7 : T.fns 7 = some less_fn
  h8 : T.fns 8 = some signed_kept_fn
  h10 : T.fns 10 = some ends_kept_fn
  h11 : T.fns 11 = some bounds_kept_fn
  h14 : T.fns 14 = some need_bounds_fn
/-- bounds -/
structure OkB (l : List Pl) : Prop where
  ok : ∀ x ∈ l, OkP lim x
  pos : 1 ≤ l.length
  most : l.length ≤ 10
def bd (l : List Pl) : D := .tup (l.map pl)
def bdS (b : Bool) (l : List Pl) : D := seqD b (l.map (plS b))
theorem bounds_spec {T : Prg} {n : Nat} (H : HB T) (b : Bool) {l : List Pl} (hl : OkB l) : callF T (n + 4) 11 [bdS b l] = .ok (bd l) := by
  rw [callF_eq H.h11 rfl]
  have c : ∀ ρ : Env, 2 < ρ.length → compL (compF ⟨callF T (n + 3), T.con⟩ ρ (.nm 2) .noE (.call 10 [.var 2]) [2]) (l.map (plS b)) = .ok (l.map pl) := fun ρ hρ => by
    refine compL_mapG fun x hx => ?_
    simp [cF, get_set_self, hρ, ends_spec H.h0 H.h2 H.h7 H.h8 H.h10 b (hl.ok x hx)]
  have e1 : (1 : Int) ≤ (l.length : Int) := by have := hl.pos; omega
  have e2 : (l.length : Int) ≤ 10 := by have := hl.most; omega
  have e3 : (l.map pl).any (fun z => eqv z .non) = false := by
    rw [List.any_eq_false]
    intro z hz
    obtain ⟨x, _, rfl⟩ := List.mem_map.mp hz
    simp [pl, eqv]
  have e4 : okDs deep (l.map pl) = true := okDs_pl 28 l
  have e5 : okD deep .non = true := rfl
  have e6 : (l.map pl).length ≤ 1000 := by have := hl.most; simp; omega
  simp [bounds_kept_fn, bounds_kept_body, startE, bdS, is_seq_spec H.h2, H.c0, optR, e1, e2, c, capL_ok e6, e3, e4, e5, bd]
theorem need_spec {T : Prg} {n : Nat} (H : HB T) (b : Bool) {l : List Pl} (hl : OkB l) (k : Int) : callF T (n + 5) 14 [bdS b l, .int k] = .ok (bd l) := by
  rw [callF_eq H.h14 rfl]
  simp [need_bounds_fn, need_bounds_body, startE, bounds_spec H b hl]
  simp [bd, isNon]
end PF

namespace PF
open PySem
def leQ (p q : Fq) : Bool := decide (p.1 * q.2 ≤ q.1 * p.2)
theorem at_most_spec {T : Prg} {n : Nat} (h : T.fns 48 = some at_most_fn) {p q : Fq} (hp : OkF lim p) (hq : OkF lim q) : callF T (n + 1) 48 [fr p, fr q] = .ok (.bl (leQ p q)) := by
  rw [callF_eq h (eq_of_heq HEq.rfl)]
  simp [at_most_fn, at_most_body, startE, fr, leQ, mulOk_r hp.b2, mulOk_r hq.b2, atL]
/-- rows -/
structure OkR (r : List Fq) : Prop where
  ok : ∀ q ∈ r, OkF lim q
  pos : 1 ≤ r.length
  most : r.length ≤ 10
def rw (r : List Fq) : D := .tup (r.map fr)
def rwS (b : Bool) (r : List Fq) : D := seqD b (r.map (frS b))
theorem rwS_true (r : List Fq) : rwS true r = rw r := by
  simp [rwS, rw, frS, fr, seqD]
/-- the base defs that speak of rows -/
structure HR (T : Prg) : Prop where
  c0 : T.con 0 = some (.int 10)
  h0 : T.fns 0 = some is_whole_fn
  h2 : T.fns 2 = some is_sequence_fn
  h8 : T.fns 8 = some signed_kept_fn
  h12 : T.fns 12 = some row_kept_fn
  h15 : T.fns 15 = some need_row_fn
  h73 : T.fns 73 = some need_any_row_fn
theorem okDs_fr (n : Nat) (l : List Fq) : okDs (n + 1) (l.map fr) = true := by
  induction l with
  | nil => rfl
  | cons x l ih => simp [okDs, okD_fr, ih]
theorem row_spec0 {T : Prg} {n : Nat} (h0 : T.fns 0 = some is_whole_fn) (h2 : T.fns 2 = some is_sequence_fn) (h8 : T.fns 8 = some signed_kept_fn) (h12 : T.fns 12 = some row_kept_fn) (b : Bool) {r : List Fq} (hr : OkR r) : callF T (n + 3) 12 [rwS b r, .int (r.length : Nat)] = .ok (rw r) := by
  rw [callF_eq h12 (eq_of_heq HEq.rfl)]
  have c : ∀ ρ : Env, 3 < ρ.length → compL (compF ⟨callF T (n + 2), T.con⟩ ρ (.nm 3) .noE (.call 8 [.var 3]) [3]) (r.map (frS b)) = .ok (r.map fr) := fun ρ hρ => by
    refine compL_mapG fun x hx => ?_
    simp [cF, get_set_self, hρ, signed_spec h0 h2 h8 b (hr.ok x hx)]
  have e3 : (r.map fr).any (fun z => eqv z .non) = false := by
    rw [List.any_eq_false]
    intro z hz
    obtain ⟨x, _, rfl⟩ := List.mem_map.mp hz
    simp [fr, eqv]
  have e4 : okDs deep (r.map fr) = true := okDs_fr 29 r
  have e5 : okD deep .non = true := eq_of_heq HEq.rfl
  have e6 : (r.map fr).length ≤ 1000 := by have := hr.most; simp; omega
  simp [row_kept_fn, row_kept_body, startE, rwS, is_seq_spec h2, c, capL_ok e6, e3, e4, e5, rw]
theorem row_spec {T : Prg} {n : Nat} (H : HR T) (b : Bool) {r : List Fq} (hr : OkR r) : callF T (n + 3) 12 [rwS b r, .int (r.length : Nat)] = .ok (rw r) := row_spec0 H.h0 H.h2 H.h8 H.h12 b hr
theorem need_row_spec {T : Prg} {n : Nat} (H : HR T) (b : Bool) {r : List Fq} (hr : OkR r) (k : Int) : callF T (n + 4) 15 [rwS b r, .int (r.length : Nat), .int k] = .ok (rw r) := by
  rw [callF_eq H.h15 (eq_of_heq HEq.rfl)]
  simp [need_row_fn, need_row_body, startE, row_spec H b hr]
  simp [rw, isNon]
theorem need_any_spec {T : Prg} {n : Nat} (H : HR T) (b : Bool) {r : List Fq} (hr : OkR r) (k : Int) : callF T (n + 5) 73 [rwS b r, .int k] = .ok (rw r) := by
  rw [callF_eq H.h73 (eq_of_heq HEq.rfl)]
  have e1 : (1 : Int) ≤ (r.length : Int) := by have := hr.pos; omega
  have e2 : (r.length : Int) ≤ 10 := by have := hr.most; omega
  have e3 : bltR .len [rwS b r] = .ok (.int (r.length : Nat)) := by simp [rwS]
  have e4 : callF T (n + 4) 2 [rwS b r] = .ok (.bl true) := is_seq_spec (n := n + 3) H.h2 b _
  simp [need_any_row_fn, need_any_row_body, startE, e4, e3, H.c0, optR, e1, e2, need_row_spec H b hr]
end PF

namespace PF
open PySem
theorem atL_nat {ds : List D} {i : Nat} {d : D} (h : ds[i]? = some d) : atL ds (i : Int) = .ok d := by
  unfold atL
  rw [if_pos (by omega)]
  simp [h]
def lp (l : List Pl) (i : Nat) : Pl := (l[i]?).getD ((0, 1), (0, 1))
theorem lp_mem {l : List Pl} {i : Nat} (h : i < l.length) : lp l i ∈ l := by
  simp [lp, h]
theorem at_pl {l : List Pl} {i : Nat} (h : i < l.length) : atL (l.map pl) (i : Int) = .ok (pl (lp l i)) := atL_nat (by simp [lp, h])
theorem up0 (n : Nat) : upL 0 n = (List.range n).map fun i => D.int (i : Nat) := by
  rw [upL_eq]
  simp
def tabD (n : Nat) (f : Nat → Nat → Bool) : D := .tup ((List.range n).map fun i => .tup ((List.range n).map fun j => .bl (f i j)))
def fallB (l : List Pl) (i j : Nat) : Bool := decide (i < j) && ltQ (lp l j).2 (lp l i).1
def riseB (l : List Pl) (i j : Nat) : Bool := decide (i < j) && ltQ (lp l i).2 (lp l j).1
@[simp] theorem ix_pl0 (x : Pl) : idxR (pl x) (.int 0) = .ok (fr x.1) := eq_of_heq HEq.rfl
@[simp] theorem ix_pl1 (x : Pl) : idxR (pl x) (.int 1) = .ok (fr x.2) := eq_of_heq HEq.rfl
theorem cap_range {n : Nat} (h : n ≤ 10) (f : Nat → D) : capL ((List.range n).map f) = .ok (.lst ((List.range n).map f)) := capL_ok (by simp; omega)
def up (n : Nat) : List D := (List.range n).map fun i => D.int (i : Nat)
theorem fall_in {T : Prg} {n : Nat} (h7 : T.fns 7 = some less_fn) {l : List Pl} (hl : OkB l) (cs : Nat → Option D) {i : Nat} (hi : i < l.length) (ρ : Env) (hρ : 4 < ρ.length) (g0 : ρ.get 0 = .fr (bd l)) (g4 : ρ.get 4 = .fr (.int (i : Nat))) :
    compL (compF ⟨callF T (n + 1), cs⟩ ρ (.nm 3) .noE (.and (.cmp .lt (.var 4) (.var 3)) (.call 7 [.idx (.idx (.var 0) (.var 3)) (.int 1), .idx (.idx (.var 0) (.var 4)) (.int 0)])) [3]) (up l.length) = .ok ((List.range l.length).map fun j => .bl (fallB l i j)) := by
  refine compL_mapG fun j hj => ?_
  have hj : j < l.length := by simpa using hj
  have a := (hl.ok _ (lp_mem hi)).lo
  have b := (hl.ok _ (lp_mem hj)).hi
  by_cases c : i < j <;> simp [cF, get_set_self, get_set_ne, hρ, g0, g4, bd, at_pl hi, at_pl hj, show 3 < ρ.length by omega, c, less_spec h7 b a, fallB]
theorem rise_in {T : Prg} {n : Nat} (h7 : T.fns 7 = some less_fn) {l : List Pl} (hl : OkB l) (cs : Nat → Option D) {i : Nat} (hi : i < l.length) (ρ : Env) (hρ : 4 < ρ.length) (g0 : ρ.get 0 = .fr (bd l)) (g4 : ρ.get 4 = .fr (.int (i : Nat))) :
    compL (compF ⟨callF T (n + 1), cs⟩ ρ (.nm 3) .noE (.and (.cmp .lt (.var 4) (.var 3)) (.call 7 [.idx (.idx (.var 0) (.var 4)) (.int 1), .idx (.idx (.var 0) (.var 3)) (.int 0)])) [3]) (up l.length) = .ok ((List.range l.length).map fun j => .bl (riseB l i j)) := by
  refine compL_mapG fun j hj => ?_
  have hj : j < l.length := by simpa using hj
  have a := (hl.ok _ (lp_mem hi)).hi
  have b := (hl.ok _ (lp_mem hj)).lo
  by_cases c : i < j <;> simp [cF, get_set_self, get_set_ne, hρ, g0, g4, bd, at_pl hi, at_pl hj, show 3 < ρ.length by omega, c, less_spec h7 a b, riseB]
theorem up_range {n : Nat} (h : n ≤ 10) : itemsR (.rng 0 (n : Nat)) = .ok (up n) := by
  have r1 : -(2 ^ 62) ≤ (0 : Int) ∧ (0 : Int) < 2 ^ 62 ∧ -(2 ^ 62) ≤ (n : Int) ∧ (n : Int) < 2 ^ 62 := by omega
  have r2 : ((n : Int) - 0).toNat = n := by omega
  rw [it_rng, if_pos r1, r2, up0]
  rfl
theorem fall_out {T : Prg} {n : Nat} (h7 : T.fns 7 = some less_fn) {l : List Pl} (hl : OkB l) (cs : Nat → Option D) (ρ : Env) (hρ : 4 < ρ.length) (g0 : ρ.get 0 = .fr (bd l)) (g1 : ρ.get 1 = .fr (.rng 0 l.length)) : compL (compF ⟨callF T (n + 1), cs⟩ ρ (.nm 4) .noE (.blt .tuple [.comp (.nm 3) (.var 1) .noE (.and (.cmp .lt (.var 4) (.var 3)) (.call 7 [.idx (.idx (.var 0) (.var 3)) (.int 1), .idx (.idx (.var 0) (.var 4)) (.int 0)])) [3]]) [4]) (up l.length) = .ok ((List.range l.length).map fun i => .tup ((List.range l.length).map fun j => .bl (fallB l i j))) := by
  refine compL_mapG fun i hi => ?_
  have hi : i < l.length := by simpa using hi
  have q := fall_in (n := n) h7 hl cs hi (List.set (List.set ρ 4 .un) 4 (.fr (.int (i : Nat)))) (by simpa using hρ) (by simp [get_set_ne, g0]) (by simp [get_set_self, hρ])
  simp only [List.set_set] at q
  simp [cF, get_set_ne, g1, up_range hl.most, q, cap_range hl.most]
theorem rise_out {T : Prg} {n : Nat} (h7 : T.fns 7 = some less_fn) {l : List Pl} (hl : OkB l) (cs : Nat → Option D) (ρ : Env) (hρ : 4 < ρ.length) (g0 : ρ.get 0 = .fr (bd l)) (g1 : ρ.get 1 = .fr (.rng 0 l.length)) : compL (compF ⟨callF T (n + 1), cs⟩ ρ (.nm 4) .noE (.blt .tuple [.comp (.nm 3) (.var 1) .noE (.and (.cmp .lt (.var 4) (.var 3)) (.call 7 [.idx (.idx (.var 0) (.var 4)) (.int 1), .idx (.idx (.var 0) (.var 3)) (.int 0)])) [3]]) [4]) (up l.length) = .ok ((List.range l.length).map fun i => .tup ((List.range l.length).map fun j => .bl (riseB l i j))) := by
  refine compL_mapG fun i hi => ?_
  have hi : i < l.length := by simpa using hi
  have q := rise_in (n := n) h7 hl cs hi (List.set (List.set ρ 4 .un) 4 (.fr (.int (i : Nat)))) (by simpa using hρ) (by simp [get_set_ne, g0]) (by simp [get_set_self, hρ])
  simp only [List.set_set] at q
  simp [cF, get_set_ne, g1, up_range hl.most, q, cap_range hl.most]
theorem sure_spec {T : Prg} {n : Nat} (h7 : T.fns 7 = some less_fn) (h : T.fns 64 = some sure_tables_fn) {l : List Pl} (hl : OkB l) : callF T (n + 2) 64 [bd l] = .ok (.tup [tabD l.length (fallB l), tabD l.length (riseB l)]) := by
  rw [callF_eq h rfl]
  have L := hl.most
  have e0 : bltR .len [bd l] = .ok (.int (l.length : Nat)) := by simp [bd]
  have q1 := fall_out (n := n) h7 hl T.con [.fr (bd l), .fr (.rng 0 l.length), .un, .un, .un, .un] (by simp) rfl rfl
  have q2 := rise_out (n := n) h7 hl T.con [.fr (bd l), .fr (.rng 0 l.length), .fr (.tup ((List.range l.length).map fun i => .tup ((List.range l.length).map fun j => .bl (fallB l i j)))), .un, .un, .un] (by simp) rfl rfl
  simp [sure_tables_fn, sure_tables_body, startE, e0, up_range L, q1, q2, cap_range L, tabD]
end PF

namespace PF
open PySem
def qa (r : List Fq) (i : Nat) : Fq := (r[i]?).getD (0, 1)
theorem qa_mem {r : List Fq} {i : Nat} (h : i < r.length) : qa r i ∈ r := by
  simp [qa, h]
theorem at_qa {r : List Fq} {i : Nat} (h : i < r.length) : idxR (rw r) (.int (i : Nat)) = .ok (fr (qa r i)) := atL_nat (by simp [qa, h])
def wordS (r : List Fq) (k : Nat) : Str := if ltQ (qa r k) (qa r (k + 1)) = true then PySem.Str.ofString "rise" else if ltQ (qa r (k + 1)) (qa r k) = true then PySem.Str.ofString "fall" else PySem.Str.ofString "level"
theorem words_step {T : Prg} {n : Nat} (h7 : T.fns 7 = some less_fn) (cs : Nat → Option D) {r : List Fq} (hr : OkR r) {k : Nat} (hk : k + 1 < r.length) (ws : List Str) (hl : ws.length ≤ 1000) (d0 : D) :
    exs ⟨callF T (n + 1), cs⟩ [.fr d0, .fr (rw r), .own (ws.map D.str), .fr (.int (k : Nat))] words_of_b5 = .nx [.fr d0, .fr (rw r), .own ((ws ++ [wordS r k]).map D.str), .fr (.int (k : Nat))] := by
  have a1 : idxR (rw r) (.int (k : Nat)) = .ok (fr (qa r k)) := at_qa (by omega)
  have a2 : idxR (rw r) (.int ((k : Nat) + 1)) = .ok (fr (qa r (k + 1))) := at_qa hk
  have o1 := hr.ok _ (qa_mem (r := r) (i := k) (by omega))
  have o2 := hr.ok _ (qa_mem hk)
  have l1 := less_spec (n := n) h7 o1 o2
  have l2 := less_spec (n := n) h7 o2 o1
  have lb : ws.length < big := Nat.lt_of_le_of_lt hl (by decide)
  unfold wordS
  cases c1 : ltQ (qa r k) (qa r (k + 1)) <;> cases c2 : ltQ (qa r (k + 1)) (qa r k) <;> rw [c1] at l1 <;> rw [c2] at l2 <;> simp [words_of_b5, words_of_b4, words_of_b3, words_of_b2, words_of_b1, a1, a2, l1, l2, lb]
theorem words_loop {T : Prg} {n : Nat} (h7 : T.fns 7 = some less_fn) (cs : Nat → Option D) {r : List Fq} (hr : OkR r) (d0 : D) : ∀ (ks : List Nat) (ws : List Str) (x3 : SV), (∀ k ∈ ks, k + 1 < r.length) → ws.length + ks.length ≤ 1000 →
    ∃ y3, forL (.nm 3) (fun ρ1 => exs ⟨callF T (n + 1), cs⟩ ρ1 words_of_b5) (ks.map fun k => D.int (k : Nat)) [.fr d0, .fr (rw r), .own (ws.map D.str), x3] = .nx [.fr d0, .fr (rw r), .own ((ws ++ ks.map (wordS r)).map D.str), y3]
  | [], ws, x3, _, _ => ⟨x3, by rw [List.map_nil, List.map_nil, List.append_nil]; exact eq_of_heq HEq.rfl⟩
  | k :: ks, ws, x3, hk, hl => by
    simp only [List.length_cons] at hl
    obtain ⟨y3, e⟩ := words_loop (n := n) h7 cs hr d0 ks (ws ++ [wordS r k]) (.fr (.int (k : Nat))) (fun j hj => hk j (List.mem_cons_of_mem _ hj)) (by rw [List.length_append, List.length_singleton]; omega)
    refine ⟨y3, ?_⟩
    rw [List.map_cons]
    unfold forL
    rw [as_nm, r_o]
    simp only [List.set_cons_succ, List.set_cons_zero, words_step h7 cs hr (hk k List.mem_cons_self) ws (by omega) d0, e]
    rw [List.map_cons, List.append_assoc, List.singleton_append]
theorem words_spec {T : Prg} {n : Nat} (H : HR T) (h7 : T.fns 7 = some less_fn) (h : T.fns 89 = some words_of_fn) (b : Bool) {r : List Fq} (hr : OkR r) : callF T (n + 6) 89 [rwS b r] = .ok (.tup (((List.range (r.length - 1)).map (wordS r)).map D.str)) := by
  rw [callF_eq h (eq_of_heq HEq.rfl)]
  have hm : ([] : List Str).length + (List.range (r.length - 1)).length ≤ 1000 := by
    have := hr.most
    rw [List.length_range, List.length_nil]
    omega
  have e := words_loop (n := n + 4) h7 T.con hr (rwS b r) (List.range (r.length - 1)) [] .un (fun k hk => by have := List.mem_range.mp hk; omega) hm
  obtain ⟨y3, e⟩ := e
  have e0 : bltR .len [rw r] = .ok (.int (r.length : Nat)) := by simp [rw]
  have u := up_range (n := r.length - 1) (by have := hr.most; omega)
  have z : ((r.length - 1 : Nat) : Int) = (r.length : Int) - 1 := by have := hr.pos; omega
  rw [z] at u
  unfold up at u
  simp only [List.map_nil, List.nil_append] at e
  have N := need_any_spec (n := n) H b hr 1
  simp [words_of_fn, words_of_body, startE, N, e0, u, e]
end PF

namespace PF
open PySem
def prD (p : Nat × Nat) : D := .tup [.int (p.1 : Nat), .int (p.2 : Nat)]
def pairs (n : Nat) (f : Nat → Nat → Bool) : List (Nat × Nat) := (List.range n).flatMap fun i => ((List.range n).filter (f i)).map fun j => (i, j)
theorem pairs_len {n : Nat} (h : n ≤ 10) (f : Nat → Nat → Bool) : (pairs n f).length ≤ 1000 := by
  have one : ∀ i, (((List.range n).filter (f i)).map fun j => (i, j)).length ≤ 10 := fun i => by
    rw [List.length_map]
    exact Nat.le_trans (List.length_filter_le _ _) (by simpa using h)
  have go : ∀ l : List Nat, (l.flatMap fun i => ((List.range n).filter (f i)).map fun j => (i, j)).length ≤ 10 * l.length := by
    intro l
    induction l with
    | nil => simp
    | cons a l ih =>
      rw [List.flatMap_cons, List.length_append, List.length_cons]
      have := one a
      omega
  have := go (List.range n)
  unfold pairs
  simp only [List.length_range] at this
  omega
theorem at_tab {n : Nat} {f : Nat → Nat → Bool} {i : Nat} (h : i < n) : idxR (tabD n f) (.int (i : Nat)) = .ok (.tup ((List.range n).map fun j => .bl (f i j))) := by
  unfold tabD
  rw [ix_tup]
  exact atL_nat (by simp [h])
theorem at_row {n : Nat} {g : Nat → Bool} {j : Nat} (h : j < n) : atL ((List.range n).map fun j => D.bl (g j)) (j : Nat) = .ok (.bl (g j)) := atL_nat (by simp [h])
theorem pairs_in2 (C : Cal) {n : Nat} (hn : n ≤ 10) (f : Nat → Nat → Bool) : compL (compF2 C [.fr (tabD n f), .fr (.rng 0 n), .un, .un] (.nm 2) (.nm 3) (.var 1) (.idx (.idx (.var 0) (.var 2)) (.var 3)) (.tup [.var 2, .var 3]) [2, 3] [3]) (up n) = .ok ((pairs n f).map prD) := by
  have e : (pairs n f).map prD = (List.range n).flatMap fun i => (((List.range n).filter (f i)).map fun j => prD (i, j)) := by
    unfold pairs
    rw [List.map_flatMap]
    congr 1
    funext i
    rw [List.map_map]
    rfl
  rw [e]
  refine compL_gen fun i hi => ?_
  have hi : i < n := by simpa using hi
  have q : compL (fun d2 => (asg (.nm 3) d2 (wipeE [.fr (tabD n f), .fr (.rng 0 n), .fr (.int (i : Nat)), .un] [3])).bind fun ρ2 => condL (.idx (.idx (.var 0) (.var 2)) (.var 3)) ((brw ρ2 (.idx (.idx (.var 0) (.var 2)) (.var 3)) (ev C ρ2 (.idx (.idx (.var 0) (.var 2)) (.var 3)))).bind truth) (ev C ρ2 (.tup [.var 2, .var 3]))) (up n) = .ok (((List.range n).filter (f i)).map fun j => prD (i, j)) := by
    refine compL_filter fun j hj => ?_
    have hj : j < n := by simpa using hj
    simp [at_tab hi, at_row hj, prD]
    cases f i j <;> rfl
  simp at q
  simp [cF2, up_range hn, q]
theorem pairs_in_spec {T : Prg} {k : Nat} (h : T.fns 65 = some pairs_in_fn) {n : Nat} (hn : n ≤ 10) (f : Nat → Nat → Bool) : callF T (k + 1) 65 [tabD n f] = .ok (.tup ((pairs n f).map prD)) := by
  rw [callF_eq h rfl]
  have e0 : bltR .len [tabD n f] = .ok (.int (n : Nat)) := by simp [tabD]
  have e1 : ((pairs n f).map prD).length ≤ 1000 := by
    rw [List.length_map]
    exact pairs_len hn f
  simp [pairs_in_fn, pairs_in_body, startE, e0, up_range hn, pairs_in2 _ hn f, capL_ok e1]
structure HT (T : Prg) : Prop extends HB T where
  h64 : T.fns 64 = some sure_tables_fn
  h65 : T.fns 65 = some pairs_in_fn
  h66 : T.fns 66 = some falls_fn
  h67 : T.fns 67 = some rises_fn
  h6 : T.fns 6 = some negative_fn
  h23 : T.fns 23 = some upside_fn
theorem falls_spec {T : Prg} {k : Nat} (H : HT T) (b : Bool) {l : List Pl} (hl : OkB l) : callF T (k + 6) 66 [bdS b l] = .ok (.tup ((pairs l.length (fallB l)).map prD)) := by
  rw [callF_eq H.h66 rfl]
  simp [falls_fn, falls_body, startE, need_spec H.toHB b hl, sure_spec H.h7 H.h64 hl, atL, pairs_in_spec H.h65 hl.most]
theorem rises_spec {T : Prg} {k : Nat} (H : HT T) (b : Bool) {l : List Pl} (hl : OkB l) : callF T (k + 6) 67 [bdS b l] = .ok (.tup ((pairs l.length (riseB l)).map prD)) := by
  rw [callF_eq H.h67 rfl]
  simp [rises_fn, rises_body, startE, need_spec H.toHB b hl, sure_spec H.h7 H.h64 hl, atL, pairs_in_spec H.h65 hl.most]
def upP (x : Pl) : Pl := (negQ x.2, negQ x.1)
theorem ltQ_neg (p q : Fq) : ltQ (negQ p) (negQ q) = ltQ q p := by
  unfold ltQ negQ
  simp only [Int.neg_mul]
  congr 1
  apply propext
  constructor <;> intro h <;> omega
theorem OkP.up {N : Nat} {x : Pl} (h : OkP N x) : OkP N (upP x) := ⟨h.hi.neg, h.lo.neg, by
  show ltQ (negQ x.1) (negQ x.2) = false
  rw [ltQ_neg]
  exact h.le⟩
theorem OkB.up {l : List Pl} (h : OkB l) : OkB (l.map upP) := ⟨fun x hx => by
  obtain ⟨y, hy, rfl⟩ := List.mem_map.mp hx
  exact (h.ok y hy).up, by simpa using h.pos, by simpa using h.most⟩
theorem upside_spec {T : Prg} {k : Nat} (H : HT T) (b : Bool) {l : List Pl} (hl : OkB l) : callF T (k + 6) 23 [bdS b l] = .ok (bd (l.map upP)) := by
  rw [callF_eq H.h23 rfl]
  have q : compL (compF ⟨callF T (k + 5), T.con⟩ [.fr (bdS b l), .fr (bd l), .un, .un] (.tp [.nm 2, .nm 3]) .noE (.tup [.call 6 [.var 3], .call 6 [.var 2]]) [2, 3]) (l.map pl) = .ok (l.map fun x => pl (upP x)) := by
    refine compL_mapG fun x hx => ?_
    simp [cF, pl, negative_spec H.h6, upP]
  have e1 : (l.map fun x => pl (upP x)).length ≤ 1000 := by have := hl.most; simp; omega
  have e2 : itemsR (bd l) = .ok (l.map pl) := eq_of_heq HEq.rfl
  simp [upside_fn, upside_body, startE, need_spec H.toHB b hl, e2, q, capL_ok e1]
  simp [bd]
end PF

namespace PF
open PySem
/-! loops -/
theorem forL_nx {t : Tg} {body : Env → O} (I : Env → Prop) : ∀ {ds : List D} {ρ : Env}, (∀ d ∈ ds, ∀ ρ, I ρ → ∃ ρ1 ρ2, asg t d ρ = .ok ρ1 ∧ body ρ1 = .nx ρ2 ∧ I ρ2) → I ρ → ∃ ρ', forL t body ds ρ = .nx ρ' ∧ I ρ'
  | [], ρ, _, h => ⟨ρ, eq_of_heq HEq.rfl, h⟩
  | d :: ds, ρ, hs, h => by
    obtain ⟨ρ1, ρ2, e1, e2, h2⟩ := hs d List.mem_cons_self ρ h
    obtain ⟨ρ', e3, h3⟩ := forL_nx I (ds := ds) (ρ := ρ2) (fun d hd => hs d (List.mem_cons_of_mem _ hd)) h2
    refine ⟨ρ', ?_, h3⟩
    unfold forL
    rw [e1, r_o]
    simp only [e2, e3]
/-- with what has been reached so far -/
theorem forL_acc {α St : Type} {t : Tg} {body : Env → O} {e : α → D} (f : St → α → St) (I : St → Env → Prop) : ∀ {l : List α} {s : St} {ρ : Env}, (∀ a ∈ l, ∀ s ρ, I s ρ → ∃ ρ1 ρ2, asg t (e a) ρ = .ok ρ1 ∧ body ρ1 = .nx ρ2 ∧ I (f s a) ρ2) → I s ρ → ∃ ρ', forL t body (l.map e) ρ = .nx ρ' ∧ I (l.foldl f s) ρ'
  | [], s, ρ, _, h => ⟨ρ, eq_of_heq HEq.rfl, h⟩
  | a :: l, s, ρ, hs, h => by
    obtain ⟨ρ1, ρ2, e1, e2, h2⟩ := hs a List.mem_cons_self s ρ h
    obtain ⟨ρ', e3, h3⟩ := forL_acc f I (l := l) (s := f s a) (ρ := ρ2) (fun d hd => hs d (List.mem_cons_of_mem _ hd)) h2
    refine ⟨ρ', ?_, h3⟩
    rw [List.map_cons]
    unfold forL
    rw [e1, r_o]
    simp only [e2, e3]
/-! the law's own words -/
theorem same_int {T : Prg} {n : Nat} (h : T.fns 29 = some _law_same_fn) (i j : Int) : callF T (n + 1) 29 [.int i, .int j] = .ok (.bl (i == j)) := by
  rw [callF_eq h (eq_of_heq HEq.rfl)]
  simp [_law_same_fn, _law_same_body, startE, isTs, isT, isNon]
theorem same_tup {T : Prg} {n : Nat} (h : T.fns 29 = some _law_same_fn) {ds : List D} (hl : ds.length ≤ 1000) (hs : ∀ d ∈ ds, callF T n 29 [d, d] = .ok (.bl true)) : callF T (n + 1) 29 [.tup ds, .tup ds] = .ok (.bl true) := by
  rw [callF_eq h (eq_of_heq HEq.rfl)]
  have r1 : -(2 ^ 62) ≤ (0 : Int) ∧ (0 : Int) < 2 ^ 62 ∧ -(2 ^ 62) ≤ (ds.length : Int) ∧ (ds.length : Int) < 2 ^ 62 := by omega
  have r2 : ((ds.length : Int) - 0).toNat = ds.length := by omega
  have it : itemsR (.rng 0 ds.length) = .ok ((List.range ds.length).map fun i => D.int (i : Nat)) := by
    rw [it_rng, if_pos r1, r2, up0]
  obtain ⟨ρ', e1, _⟩ := forL_nx (t := .nm 2) (body := fun ρ1 => exs ⟨callF T n, T.con⟩ ρ1 _law_same_b3) (fun ρ => ∃ x, ρ = [.fr (.tup ds), .fr (.tup ds), x]) (ds := (List.range ds.length).map fun i => D.int (i : Nat)) (ρ := [.fr (.tup ds), .fr (.tup ds), .un]) (fun d hd ρ hρ => by
    obtain ⟨x, rfl⟩ := hρ
    obtain ⟨i, hi, rfl⟩ := List.mem_map.mp hd
    have hi : i < ds.length := by simpa using hi
    have a : atL ds (i : Nat) = .ok ds[i] := atL_nat (List.getElem?_eq_getElem hi)
    refine ⟨[.fr (.tup ds), .fr (.tup ds), .fr (.int (i : Nat))], [.fr (.tup ds), .fr (.tup ds), .fr (.int (i : Nat))], by simp, ?_, _, rfl⟩
    simp [_law_same_b3, a, hs _ (List.getElem_mem hi)]) ⟨_, rfl⟩
  simp [_law_same_fn, _law_same_body, startE, isTs, isT, _law_same_b4, it, e1]
theorem same_prs {T : Prg} {n : Nat} (h : T.fns 29 = some _law_same_fn) {l : List (Nat × Nat)} (hl : l.length ≤ 1000) : callF T (n + 3) 29 [.tup (l.map prD), .tup (l.map prD)] = .ok (.bl true) := by
  refine same_tup h (by simpa using hl) fun d hd => ?_
  obtain ⟨p, _, rfl⟩ := List.mem_map.mp hd
  refine same_tup h (by simp) fun d hd => ?_
  simp only [List.mem_cons, List.not_mem_nil, or_false] at hd
  rcases hd with rfl | rfl
  · rw [same_int h]; simp
  · rw [same_int h]; simp
theorem listed_int {T : Prg} {n : Nat} (h : T.fns 57 = some _law_listed_v1_fn) (i : Int) : callF T (n + 1) 57 [.int i] = .ok (.int i) := by
  rw [callF_eq h (eq_of_heq HEq.rfl)]
  simp [_law_listed_v1_fn, _law_listed_v1_body, startE, isTs, isT]
theorem listed_tup {T : Prg} {n : Nat} (h : T.fns 57 = some _law_listed_v1_fn) {α : Type} {l : List α} {e g : α → D} (hl : l.length ≤ 1000) (hs : ∀ a ∈ l, callF T n 57 [e a] = .ok (g a)) : callF T (n + 1) 57 [.tup (l.map e)] = .ok (.lst (l.map g)) := by
  rw [callF_eq h (eq_of_heq HEq.rfl)]
  have q : compL (compF ⟨callF T n, T.con⟩ [.fr (.tup (l.map e)), .un] (.nm 1) .noE (.call 57 [.var 1]) [1]) (l.map e) = .ok (l.map g) := compL_mapG fun a ha => by simp [cF, hs a ha]
  have e1 : (l.map g).length ≤ 1000 := by simpa using hl
  simp [_law_listed_v1_fn, _law_listed_v1_body, startE, isTs, isT, _law_listed_v1_b1, q, capL_ok e1]
theorem listed_fr {T : Prg} {n : Nat} (h : T.fns 57 = some _law_listed_v1_fn) (q : Fq) : callF T (n + 2) 57 [fr q] = .ok (frS false q) := by
  have := listed_tup (n := n + 1) h (l := [q.1, q.2]) (e := D.int) (g := D.int) (by simp) fun i _ => listed_int h i
  simpa [fr, frS, seqD] using this
theorem listed_pl {T : Prg} {n : Nat} (h : T.fns 57 = some _law_listed_v1_fn) (x : Pl) : callF T (n + 3) 57 [pl x] = .ok (plS false x) := by
  have := listed_tup (n := n + 2) h (l := [x.1, x.2]) (e := fr) (g := frS false) (by simp) fun i _ => listed_fr h i
  simpa [pl, plS, seqD] using this
theorem listed_bd {T : Prg} {n : Nat} (h : T.fns 57 = some _law_listed_v1_fn) {l : List Pl} (hl : l.length ≤ 10) : callF T (n + 4) 57 [bd l] = .ok (bdS false l) := by
  have := listed_tup (n := n + 3) h (l := l) (e := pl) (g := plS false) (by omega) fun i _ => listed_pl h i
  simpa [bd, bdS, seqD] using this
end PF

namespace PF
open PySem
def sa (u : List Str) (i : Nat) : Str := (u[i]?).getD (PySem.Str.ofString "level")
theorem at_sa {u : List Str} {i : Nat} (h : i < u.length) : atL (u.map D.str) (i : Nat) = .ok (.str (sa u i)) := atL_nat (by simp [sa, h])
def chgs (u : List Str) (l : List Nat) : Nat := (l.filter fun i => sa u (i + 1) != sa u i).length
theorem eq_str {a b : Str} (ha : PyData.strOk a = true) (hb : PyData.strOk b = true) : eqR (.str a) (.str b) = .ok (a == b) := by
  unfold eqR
  rw [if_pos (by simp [okD, ha, hb])]
  simp [eqv]
theorem few_step (C : Cal) {u : List Str} (hu : ∀ s ∈ u, PyData.strOk s = true) {i : Nat} (hi : i + 1 < u.length) (d0 : D) (x2 x5 : SV) (m : Nat) :
    exs C [.fr d0, .fr (.lst (u.map D.str)), x2, .fr (.int (m : Nat)), .fr (.int (1 + (i : Nat))), x5] fewest_b2 = .nx [.fr d0, .fr (.lst (u.map D.str)), x2, .fr (.int ((m + chgs u [i] : Nat) : Nat)), .fr (.int (1 + (i : Nat))), x5] := by
  have a1 : atL (u.map D.str) (1 + (i : Nat)) = .ok (.str (sa u (i + 1))) := by
    have := at_sa hi
    rw [show ((i + 1 : Nat) : Int) = 1 + (i : Int) by omega] at this
    exact this
  have a2 : atL (u.map D.str) (i : Nat) = .ok (.str (sa u i)) := at_sa (by omega)
  have z : (1 + (i : Int)) - 1 = (i : Nat) := by omega
  have o1 : PyData.strOk (sa u (i + 1)) = true := hu _ (by simp [sa, hi])
  have o2 : PyData.strOk (sa u i) = true := hu _ (by simp [sa, show i < u.length by omega])
  by_cases c : sa u (i + 1) = sa u i
  · simp [fewest_b2, a1, z, a2, eq_str o2 o2, c, chgs]
  · have g : augR .add (.int (m : Nat)) (.int 1) = .ok (.int ((m : Int) + 1)) := eq_of_heq HEq.rfl
    simp [fewest_b2, fewest_b1, a1, z, a2, eq_str o1 o2, c, chgs, g]
theorem few_loop (C : Cal) {u : List Str} (hu : ∀ s ∈ u, PyData.strOk s = true) (d0 : D) (x2 x5 : SV) : ∀ (is : List Nat) (m : Nat) (x4 : SV), (∀ i ∈ is, i + 1 < u.length) →
    ∃ y4, forL (.nm 4) (fun ρ1 => exs C ρ1 fewest_b2) (is.map fun i => D.int (1 + (i : Nat))) [.fr d0, .fr (.lst (u.map D.str)), x2, .fr (.int (m : Nat)), x4, x5] = .nx [.fr d0, .fr (.lst (u.map D.str)), x2, .fr (.int ((m + chgs u is : Nat) : Nat)), y4, x5]
  | [], m, x4, _ => ⟨x4, eq_of_heq HEq.rfl⟩
  | i :: is, m, x4, hi => by
    obtain ⟨y4, e⟩ := few_loop C hu d0 x2 x5 is (m + chgs u [i]) (.fr (.int (1 + (i : Nat)))) (fun j hj => hi j (List.mem_cons_of_mem _ hj))
    refine ⟨y4, ?_⟩
    rw [List.map_cons]
    unfold forL
    rw [as_nm, r_o]
    have c : chgs u (i :: is) = chgs u [i] + chgs u is := by
      unfold chgs
      rw [show i :: is = [i] ++ is from rfl, List.filter_append, List.length_append]
    simp only [List.set_cons_succ, List.set_cons_zero, few_step C hu (hi i List.mem_cons_self) d0 x2 x5 m, e]
    rw [c, Nat.add_assoc]
def levS : Str := PySem.Str.ofString "level"
def falS : Str := PySem.Str.ofString "fall"
theorem word_ok (r : List Fq) (k : Nat) : PyData.strOk (wordS r k) = true := by
  unfold wordS
  split
  · decide +kernel
  · split <;> decide +kernel
def wds (r : List Fq) : List Str := (List.range (r.length - 1)).map (wordS r)
def unl (r : List Fq) : List Str := (wds r).filter fun s => s != levS
def fstW (u : List Str) : Int := if u.head? = some falS then 1 else 0
theorem wds_ok (r : List Fq) : ∀ s ∈ wds r, PyData.strOk s = true := fun s hs => by
  obtain ⟨k, _, rfl⟩ := List.mem_map.mp hs
  exact word_ok r k
theorem few_comp (C : Cal) {r : List Fq} (d0 : D) : compL (compF C [.fr d0, .un, .un, .un, .un, .un] (.nm 2) (.cmp .ne (.var 2) (.str (PySem.Str.ofString "level"))) (.var 2) [2]) ((wds r).map D.str) = .ok ((unl r).map D.str) := by
  refine compL_filter fun s hs => ?_
  have o1 := wds_ok r s hs
  have o2 : PyData.strOk (PySem.Str.ofString "level") = true := by decide +kernel
  by_cases c : s = PySem.Str.ofString "level"
  · simp [cF, c, eq_str o2 o2, levS]
  · simp [cF, c, eq_str o1 o2, levS]
theorem wds_len {r : List Fq} (hr : OkR r) : (unl r).length ≤ 9 := by
  unfold unl
  refine Nat.le_trans (List.length_filter_le _ _) ?_
  unfold wds
  rw [List.length_map, List.length_range]
  have := hr.most
  omega
theorem few_spec {T : Prg} {n : Nat} (H : HR T) (h7 : T.fns 7 = some less_fn) (h89 : T.fns 89 = some words_of_fn) (h : T.fns 88 = some fewest_fn) (b : Bool) {r : List Fq} (hr : OkR r) :
    callF T (n + 7) 88 [rwS b r] = .ok (.tup [.int ((1 + chgs (unl r) (List.range ((unl r).length - 1)) : Nat) : Nat), .int (fstW (unl r))]) := by
  rw [callF_eq h (eq_of_heq HEq.rfl)]
  have w : callF T (n + 6) 89 [rwS b r] = .ok (.tup ((wds r).map D.str)) := words_spec H h7 h89 b hr
  have c := few_comp ⟨callF T (n + 6), T.con⟩ (r := r) (rwS b r)
  have hl := wds_len hr
  have hu : ∀ s ∈ unl r, PyData.strOk s = true := fun s hs => wds_ok r s (List.mem_filter.mp hs).1
  generalize unl r = u at *
  have c1 : (u.map D.str).length ≤ 1000 := by rw [List.length_map]; omega
  obtain ⟨y4, e⟩ := few_loop ⟨callF T (n + 6), T.con⟩ hu (rwS b r) .un .un (List.range (u.length - 1)) 1 .un (fun i hi => by have := List.mem_range.mp hi; omega)
  have x : itemsR (.rng 1 (u.length : Nat)) = .ok ((List.range (u.length - 1)).map fun i => D.int (1 + (i : Nat))) := by
    rw [it_rng, if_pos (by omega), upL_eq]
    congr 3
    omega
  have o2 : PyData.strOk (PySem.Str.ofString "fall") = true := by decide +kernel
  have e1 : ((1 : Nat) : Int) = 1 := eq_of_heq HEq.rfl
  rw [e1] at e
  by_cases hz : u = []
  · subst hz
    simp at e c x
    simp [fewest_fn, fewest_body, startE, w, c, x, e, fstW]
  · obtain ⟨a, ha⟩ : ∃ a, u.head? = some a := by
      cases u with
      | nil => exact absurd rfl hz
      | cons a u => exact ⟨a, rfl⟩
    have o1 : PyData.strOk a = true := hu a (List.mem_of_mem_head? ha)
    have at0 : atL (u.map D.str) 0 = .ok (.str a) := atL_nat (i := 0) (by rw [List.getElem?_map, ← List.head?_eq_getElem?, ha]; rfl)
    have p0 : 0 < u.length := List.length_pos_iff.mpr hz
    by_cases k : a = PySem.Str.ofString "fall"
    · subst k
      simp [fewest_fn, fewest_body, startE, w, c, capL_ok c1, x, e, fstW, at0, eq_str o2 o2, falS, p0, ha]
    · simp [fewest_fn, fewest_body, startE, w, c, capL_ok c1, x, e, fstW, at0, eq_str o1 o2, k, falS, p0, ha]
end PF

namespace PF
open PySem
theorem cut_nat {α : Type} (f : α → D) {l : List α} {a : Nat} (b : Nat) (h : a ≤ l.length) : cutL (l.map f) (some (a : Nat)) (some (b : Nat)) = ((l.drop a).take (b - a)).map f := by
  have s1 : six l.length 0 (some (a : Nat)) = a := by
    have e : six l.length 0 (some (a : Nat)) = if ((a : Nat) : Int) < 0 then (((a : Nat) : Int) + l.length).toNat else min ((a : Nat) : Int).toNat l.length := rfl
    rw [e, if_neg (by omega)]
    omega
  have s2 : six l.length l.length (some (b : Nat)) = min b l.length := by
    have e : six l.length l.length (some (b : Nat)) = if ((b : Nat) : Int) < 0 then (((b : Nat) : Int) + l.length).toNat else min ((b : Nat) : Int).toNat l.length := rfl
    rw [e, if_neg (by omega)]
    omega
  unfold cutL
  rw [List.length_map, s1, s2, ← List.map_drop, ← List.map_take]
  congr 1
  rw [List.take_eq_take_iff, List.length_drop]
  omega
/-- the neighbours of a place -/
def besL (r : List Fq) (i : Nat) : List Fq := ((r.drop (i - 1)).take (i - (i - 1))) ++ ((r.drop (i + 1)).take (i + 2 - (i + 1)))
theorem besL_mem {r : List Fq} {i : Nat} {q : Fq} (h : q ∈ besL r i) : q ∈ r := by
  rcases List.mem_append.mp h with h | h
  · exact List.mem_of_mem_drop (List.mem_of_mem_take h)
  · exact List.mem_of_mem_drop (List.mem_of_mem_take h)
def topB (r : List Fq) (i : Nat) : Bool := (besL r i).all fun q => leQ q (qa r i)
def botB (r : List Fq) (i : Nat) : Bool := (besL r i).all fun q => leQ (qa r i) q
theorem besL_len {r : List Fq} (i : Nat) : (besL r i).length ≤ 2 := by
  unfold besL
  rw [List.length_append]
  have h1 := List.length_take_le (i - (i - 1)) (r.drop (i - 1))
  have h2 := List.length_take_le (i + 2 - (i + 1)) (r.drop (i + 1))
  omega
theorem tops_step {T : Prg} {n : Nat} (h48 : T.fns 48 = some at_most_fn) (cs : Nat → Option D) {r : List Fq} (hr : OkR r) {i : Nat} (hi : i < r.length) (d0 : D) (ts : List Nat) (hl : ts.length ≤ 1000) (x5 x6 : SV) :
    ∃ y5 y6, exs ⟨callF T (n + 1), cs⟩ [.fr d0, .fr (rw r), .own (ts.map fun t => D.int (t : Nat)), .fr (.int (i : Nat)), .fr (fr (qa r i)), x5, x6] tops_b2 = .nx [.fr d0, .fr (rw r), .own ((ts ++ if topB r i = true then [i] else []).map fun t => D.int (t : Nat)), .fr (.int (i : Nat)), .fr (fr (qa r i)), y5, y6] := by
  have c1 : cutL (r.map fr) (some (max 0 ((i : Nat) - 1))) (some (i : Nat)) = ((r.drop (i - 1)).take (i - (i - 1))).map fr := by
    have := cut_nat fr (l := r) (a := i - 1) i (by omega)
    rw [show ((i - 1 : Nat) : Int) = max 0 ((i : Int) - 1) by omega] at this
    exact this
  have c2 : cutL (r.map fr) (some ((i : Nat) + 1)) (some ((i : Nat) + 2)) = ((r.drop (i + 1)).take (i + 2 - (i + 1))).map fr := cut_nat fr (l := r) (a := i + 1) (i + 2) (by omega)
  have lb : ts.length < big := Nat.lt_of_le_of_lt hl (by decide)
  have o := hr.ok _ (qa_mem hi)
  have q : compL (compF ⟨callF T (n + 1), cs⟩ [.fr d0, .fr (rw r), .own (ts.map fun t => D.int (t : Nat)), .fr (.int (i : Nat)), .fr (fr (qa r i)), .fr (.tup ((besL r i).map fr)), x6] (.nm 6) .noE (.call 48 [.var 6, .var 4]) [6]) ((besL r i).map fr) = .ok ((besL r i).map fun z => D.bl (leQ z (qa r i))) := by
    refine compL_mapG fun z hz => ?_
    have := at_most_spec (n := n) h48 (hr.ok _ (besL_mem hz)) o
    simp [cF, this]
  have l2 := besL_len (r := r) i
  have e1 : ((besL r i).map fun z => D.bl (leQ z (qa r i))).length ≤ 1000 := by rw [List.length_map]; omega
  have e2 : boolsR ((besL r i).map fun z => D.bl (leQ z (qa r i))) = .ok ((besL r i).map fun z => leQ z (qa r i)) := by
    generalize besL r i = l
    induction l with
    | nil => rfl
    | cons z l ih => simp only [List.map_cons, boolsR, ih]; rfl
  have e3 : ((besL r i).map fun z => leQ z (qa r i)).all id = topB r i := by
    unfold topB
    rw [List.all_map]
    rfl
  have e4 : (besL r i).map fr = ((r.drop (i - 1)).take (i - (i - 1))).map fr ++ ((r.drop (i + 1)).take (i + 2 - (i + 1))).map fr := by
    unfold besL
    rw [List.map_append]
  have sl1 : slcR (rw r) (some (max 0 ((i : Nat) - 1))) (some (i : Nat)) = .ok (.tup (((r.drop (i - 1)).take (i - (i - 1))).map fr)) := by unfold rw; rw [sl_tup, c1]
  have sl2 : slcR (rw r) (some ((i : Nat) + 1)) (some ((i : Nat) + 2)) = .ok (.tup (((r.drop (i + 1)).take (i + 2 - (i + 1))).map fr)) := by unfold rw; rw [sl_tup, c2]
  have mx : (if (1 : Int) < (i : Nat) then ((i : Nat) : Int) - 1 else 0) = max 0 (((i : Nat) : Int) - 1) := by
    split <;> omega
  have ad : ∀ as bs : List D, as.length + bs.length ≤ 1000 → binR .add (.tup as) (.tup bs) = .ok (.tup (as ++ bs)) := fun as bs h => by
    have : big = 1000000 := rfl
    simp
    omega
  refine ⟨.fr (.tup ((besL r i).map fr)), x6, ?_⟩
  have L1 : ((r.drop (i - 1)).take (i - (i - 1))).length ≤ 2 := by
    have := List.length_take_le (i - (i - 1)) (r.drop (i - 1))
    omega
  have L2 : ((r.drop (i + 1)).take (i + 2 - (i + 1))).length ≤ 2 := by
    have := List.length_take_le (i + 2 - (i + 1)) (r.drop (i + 1))
    omega
  rw [e4] at q ⊢
  generalize (r.drop (i - 1)).take (i - (i - 1)) = p1 at *
  generalize (r.drop (i + 1)).take (i + 2 - (i + 1)) = p2 at *
  have bb : big = 1000000 := rfl
  have lq : p1.length + p2.length ≤ big := by omega
  generalize (besL r i).map (fun z => D.bl (leQ z (qa r i))) = B1 at *
  generalize (besL r i).map (fun z => leQ z (qa r i)) = B2 at *
  cases ht : topB r i <;> rw [ht] at e3 <;> simp [tops_b2, tops_b1, optI, sl1, sl2, mx, lq, q, capL_ok e1, e2, e3, lb]
theorem bots_step {T : Prg} {n : Nat} (h48 : T.fns 48 = some at_most_fn) (cs : Nat → Option D) {r : List Fq} (hr : OkR r) {i : Nat} (hi : i < r.length) (d0 : D) (ts : List Nat) (hl : ts.length ≤ 1000) (x5 x6 : SV) :
    ∃ y5 y6, exs ⟨callF T (n + 1), cs⟩ [.fr d0, .fr (rw r), .own (ts.map fun t => D.int (t : Nat)), .fr (.int (i : Nat)), .fr (fr (qa r i)), x5, x6] bottoms_b2 = .nx [.fr d0, .fr (rw r), .own ((ts ++ if botB r i = true then [i] else []).map fun t => D.int (t : Nat)), .fr (.int (i : Nat)), .fr (fr (qa r i)), y5, y6] := by
  have c1 : cutL (r.map fr) (some (max 0 ((i : Nat) - 1))) (some (i : Nat)) = ((r.drop (i - 1)).take (i - (i - 1))).map fr := by
    have := cut_nat fr (l := r) (a := i - 1) i (by omega)
    rw [show ((i - 1 : Nat) : Int) = max 0 ((i : Int) - 1) by omega] at this
    exact this
  have c2 : cutL (r.map fr) (some ((i : Nat) + 1)) (some ((i : Nat) + 2)) = ((r.drop (i + 1)).take (i + 2 - (i + 1))).map fr := cut_nat fr (l := r) (a := i + 1) (i + 2) (by omega)
  have lb : ts.length < big := Nat.lt_of_le_of_lt hl (by decide)
  have o := hr.ok _ (qa_mem hi)
  have q : compL (compF ⟨callF T (n + 1), cs⟩ [.fr d0, .fr (rw r), .own (ts.map fun t => D.int (t : Nat)), .fr (.int (i : Nat)), .fr (fr (qa r i)), .fr (.tup ((besL r i).map fr)), x6] (.nm 6) .noE (.call 48 [.var 4, .var 6]) [6]) ((besL r i).map fr) = .ok ((besL r i).map fun z => D.bl (leQ (qa r i) z)) := by
    refine compL_mapG fun z hz => ?_
    have := at_most_spec (n := n) h48 o (hr.ok _ (besL_mem hz))
    simp [cF, this]
  have l2 := besL_len (r := r) i
  have e1 : ((besL r i).map fun z => D.bl (leQ (qa r i) z)).length ≤ 1000 := by rw [List.length_map]; omega
  have e2 : boolsR ((besL r i).map fun z => D.bl (leQ (qa r i) z)) = .ok ((besL r i).map fun z => leQ (qa r i) z) := by
    generalize besL r i = l
    induction l with
    | nil => rfl
    | cons z l ih => simp only [List.map_cons, boolsR, ih]; rfl
  have e3 : ((besL r i).map fun z => leQ (qa r i) z).all id = botB r i := by
    unfold botB
    rw [List.all_map]
    rfl
  have e4 : (besL r i).map fr = ((r.drop (i - 1)).take (i - (i - 1))).map fr ++ ((r.drop (i + 1)).take (i + 2 - (i + 1))).map fr := by
    unfold besL
    rw [List.map_append]
  have sl1 : slcR (rw r) (some (max 0 ((i : Nat) - 1))) (some (i : Nat)) = .ok (.tup (((r.drop (i - 1)).take (i - (i - 1))).map fr)) := by unfold rw; rw [sl_tup, c1]
  have sl2 : slcR (rw r) (some ((i : Nat) + 1)) (some ((i : Nat) + 2)) = .ok (.tup (((r.drop (i + 1)).take (i + 2 - (i + 1))).map fr)) := by unfold rw; rw [sl_tup, c2]
  have mx : (if (1 : Int) < (i : Nat) then ((i : Nat) : Int) - 1 else 0) = max 0 (((i : Nat) : Int) - 1) := by
    split <;> omega
  have ad : ∀ as bs : List D, as.length + bs.length ≤ 1000 → binR .add (.tup as) (.tup bs) = .ok (.tup (as ++ bs)) := fun as bs h => by
    have : big = 1000000 := rfl
    simp
    omega
  refine ⟨.fr (.tup ((besL r i).map fr)), x6, ?_⟩
  have L1 : ((r.drop (i - 1)).take (i - (i - 1))).length ≤ 2 := by
    have := List.length_take_le (i - (i - 1)) (r.drop (i - 1))
    omega
  have L2 : ((r.drop (i + 1)).take (i + 2 - (i + 1))).length ≤ 2 := by
    have := List.length_take_le (i + 2 - (i + 1)) (r.drop (i + 1))
    omega
  rw [e4] at q ⊢
  generalize (r.drop (i - 1)).take (i - (i - 1)) = p1 at *
  generalize (r.drop (i + 1)).take (i + 2 - (i + 1)) = p2 at *
  have bb : big = 1000000 := rfl
  have lq : p1.length + p2.length ≤ big := by omega
  generalize (besL r i).map (fun z => D.bl (leQ (qa r i) z)) = B1 at *
  generalize (besL r i).map (fun z => leQ (qa r i) z) = B2 at *
  cases ht : botB r i <;> rw [ht] at e3 <;> simp [bottoms_b2, bottoms_b1, optI, sl1, sl2, mx, lq, q, capL_ok e1, e2, e3, lb]
end PF

namespace PF
open PySem
def enD (r : List Fq) (i : Nat) : D := .tup [.int (i : Nat), fr (qa r i)]
theorem enum_from : ∀ (l : List Fq) (n : Nat), enumL n (l.map fr) = (List.range l.length).map fun i => D.tup [.int ((n + i : Nat) : Int), fr (qa l i)]
  | [], _ => rfl
  | q :: l, n => by
    rw [List.map_cons, enumL, enum_from l (n + 1), List.length_cons, List.range_succ_eq_map, List.map_cons, List.map_map]
    congr 1
    apply List.map_congr_left
    intro i _
    simp only [Function.comp_apply, D.tup.injEq, List.cons.injEq, D.int.injEq]
    refine ⟨by omega, rfl, trivial⟩
theorem enum_row (r : List Fq) : enumL 0 (r.map fr) = (List.range r.length).map (enD r) := by
  rw [enum_from]
  apply List.map_congr_left
  intro i _
  rw [Nat.zero_add]
  rfl
theorem pick_loop {body : Env → O} {r : List Fq} {p : Nat → Bool} (d0 : D) (hstep : ∀ i < r.length, ∀ (ts : List Nat) (x5 x6 : SV), ts.length ≤ 1000 → ∃ y5 y6, body [.fr d0, .fr (rw r), .own (ts.map fun t => D.int (t : Nat)), .fr (.int (i : Nat)), .fr (fr (qa r i)), x5, x6] = .nx [.fr d0, .fr (rw r), .own ((ts ++ if p i = true then [i] else []).map fun t => D.int (t : Nat)), .fr (.int (i : Nat)), .fr (fr (qa r i)), y5, y6]) :
    ∀ (is : List Nat) (ts : List Nat) (x3 x4 x5 x6 : SV), (∀ i ∈ is, i < r.length) → ts.length + is.length ≤ 1000 → ∃ y3 y4 y5 y6, forL (.tp [.nm 3, .nm 4]) body (is.map (enD r)) [.fr d0, .fr (rw r), .own (ts.map fun t => D.int (t : Nat)), x3, x4, x5, x6] = .nx [.fr d0, .fr (rw r), .own ((ts ++ is.filter p).map fun t => D.int (t : Nat)), y3, y4, y5, y6]
  | [], ts, x3, x4, x5, x6, _, _ => ⟨x3, x4, x5, x6, by rw [List.filter_nil, List.append_nil]; exact eq_of_heq HEq.rfl⟩
  | i :: is, ts, x3, x4, x5, x6, hi, hl => by
    simp only [List.length_cons] at hl
    obtain ⟨y5, y6, e⟩ := hstep i (hi i List.mem_cons_self) ts x5 x6 (by omega)
    obtain ⟨z3, z4, z5, z6, e2⟩ := pick_loop d0 hstep is (ts ++ if p i = true then [i] else []) (.fr (.int (i : Nat))) (.fr (fr (qa r i))) y5 y6 (fun j hj => hi j (List.mem_cons_of_mem _ hj)) (by rw [List.length_append]; split <;> simp <;> omega)
    refine ⟨z3, z4, z5, z6, ?_⟩
    rw [List.map_cons]
    unfold forL
    have a : asg (.tp [.nm 3, .nm 4]) (enD r i) [.fr d0, .fr (rw r), .own (ts.map fun t => D.int (t : Nat)), x3, x4, x5, x6] = .ok [.fr d0, .fr (rw r), .own (ts.map fun t => D.int (t : Nat)), .fr (.int (i : Nat)), .fr (fr (qa r i)), x5, x6] := by simp [enD]
    rw [a, r_o]
    simp only [e, e2]
    rw [List.filter_cons, List.append_assoc]
    split <;> rfl
theorem tops_spec {T : Prg} {n : Nat} (H : HR T) (h48 : T.fns 48 = some at_most_fn) (h : T.fns 90 = some tops_fn) (b : Bool) {r : List Fq} (hr : OkR r) : callF T (n + 6) 90 [rwS b r] = .ok (.tup (((List.range r.length).filter (topB r)).map fun t => D.int (t : Nat))) := by
  rw [callF_eq h (eq_of_heq HEq.rfl)]
  have hm : ([] : List Nat).length + (List.range r.length).length ≤ 1000 := by
    have := hr.most
    rw [List.length_range, List.length_nil]
    omega
  have e := pick_loop (r := r) (p := topB r) (body := fun ρ1 => exs ⟨callF T (n + 5), T.con⟩ ρ1 tops_b2) (rwS b r) (fun i hi ts x5 x6 hl => tops_step (n := n + 4) h48 T.con hr hi (rwS b r) ts hl x5 x6) (List.range r.length) [] .un .un .un .un (fun i hi => List.mem_range.mp hi) hm
  obtain ⟨y3, y4, y5, y6, e⟩ := e
  rw [← enum_row] at e
  simp only [List.map_nil, List.nil_append] at e
  have N := need_any_spec (n := n) H b hr 1
  have sq : seqR (rw r) = .ok (r.map fr) := eq_of_heq HEq.rfl
  simp [tops_fn, tops_body, startE, N, sq, e]
theorem bottoms_spec {T : Prg} {n : Nat} (H : HR T) (h48 : T.fns 48 = some at_most_fn) (h : T.fns 91 = some bottoms_fn) (b : Bool) {r : List Fq} (hr : OkR r) : callF T (n + 6) 91 [rwS b r] = .ok (.tup (((List.range r.length).filter (botB r)).map fun t => D.int (t : Nat))) := by
  rw [callF_eq h (eq_of_heq HEq.rfl)]
  have hm : ([] : List Nat).length + (List.range r.length).length ≤ 1000 := by
    have := hr.most
    rw [List.length_range, List.length_nil]
    omega
  have e := pick_loop (r := r) (p := botB r) (body := fun ρ1 => exs ⟨callF T (n + 5), T.con⟩ ρ1 bottoms_b2) (rwS b r) (fun i hi ts x5 x6 hl => bots_step (n := n + 4) h48 T.con hr hi (rwS b r) ts hl x5 x6) (List.range r.length) [] .un .un .un .un (fun i hi => List.mem_range.mp hi) hm
  obtain ⟨y3, y4, y5, y6, e⟩ := e
  rw [← enum_row] at e
  simp only [List.map_nil, List.nil_append] at e
  have N := need_any_spec (n := n) H b hr 1
  have sq : seqR (rw r) = .ok (r.map fr) := eq_of_heq HEq.rfl
  simp [bottoms_fn, bottoms_body, startE, N, sq, e]
end PF

namespace PF
open PySem
theorem fmod_nat (m n : Nat) : (m : Int).fmod (n : Int) = ((m % n : Nat) : Int) := (Int.ofNat_fmod m n).symm
theorem low_stop (C : Cal) (A B : D) (d : D) (ds : List D) (m : Nat) (x4 x5 : SV) : forL (.nm 4) (fun ρ1 => exs C ρ1 _law_low_b2) (d :: ds) [.fr A, .fr B, .fr (.int (m : Nat)), .fr (.int (0 : Nat)), x4, x5] = .nx [.fr A, .fr B, .fr (.int (m : Nat)), .fr (.int (0 : Nat)), .fr d, x5] := by
  unfold forL
  simp [_law_low_b2, _law_low_b1]
theorem low_go (C : Cal) (A B : D) (d : D) (ds : List D) (m n : Nat) (x4 x5 : SV) (hn : n ≠ 0) : forL (.nm 4) (fun ρ1 => exs C ρ1 _law_low_b2) (d :: ds) [.fr A, .fr B, .fr (.int (m : Nat)), .fr (.int (n : Nat)), x4, x5] = forL (.nm 4) (fun ρ1 => exs C ρ1 _law_low_b2) ds [.fr A, .fr B, .fr (.int (n : Nat)), .fr (.int ((m % n : Nat) : Nat)), .fr d, .fr (.int ((m % n : Nat) : Nat))] := by
  have h1 : ((n : Int) == 0) = false := by simp [hn]
  have h2 : (n : Int) ≠ 0 := by omega
  conv => lhs; unfold forL
  simp [_law_low_b2, _law_low_b1, h1, h2, hn, fmod_nat]
theorem euclid (C : Cal) (A B : D) : ∀ (k : Nat) (ds : List D) (m n : Nat) (x4 x5 : SV), n < 2 ^ k → 2 * k + 1 ≤ ds.length →
    ∃ x3 y4 y5, forL (.nm 4) (fun ρ1 => exs C ρ1 _law_low_b2) ds [.fr A, .fr B, .fr (.int (m : Nat)), .fr (.int (n : Nat)), x4, x5] = .nx [.fr A, .fr B, .fr (.int (Nat.gcd m n : Nat)), x3, y4, y5] := by
  have stop : ∀ (ds : List D) (m : Nat) (x4 x5 : SV), 1 ≤ ds.length → ∃ x3 y4 y5, forL (.nm 4) (fun ρ1 => exs C ρ1 _law_low_b2) ds [.fr A, .fr B, .fr (.int (m : Nat)), .fr (.int (0 : Nat)), x4, x5] = .nx [.fr A, .fr B, .fr (.int (Nat.gcd m 0 : Nat)), x3, y4, y5] := by
    intro ds m x4 x5 h
    cases ds with
    | nil => simp at h
    | cons d ds =>
      rw [low_stop, Nat.gcd_zero_right]
      exact ⟨_, _, _, rfl⟩
  intro k
  induction k with
  | zero =>
    intro ds m n x4 x5 hn hl
    have : n = 0 := by simpa using hn
    subst this
    exact stop ds m x4 x5 (by omega)
  | succ k ih =>
    intro ds m n x4 x5 hn hl
    by_cases h0 : n = 0
    · subst h0
      exact stop ds m x4 x5 (by omega)
    · match ds, hl with
      | d1 :: d2 :: ds, hl =>
        simp only [List.length_cons] at hl
        rw [low_go C A B d1 _ m n x4 x5 h0]
        have g1 : Nat.gcd m n = Nat.gcd n (m % n) := by rw [Nat.gcd_comm m n, Nat.gcd_rec, Nat.gcd_comm]
        rw [g1]
        by_cases h1 : m % n = 0
        · rw [h1]
          exact stop _ n _ _ (by simp)
        · rw [low_go C A B d2 _ n (m % n) _ _ h1]
          have g2 : Nat.gcd n (m % n) = Nat.gcd (m % n) (n % (m % n)) := by rw [Nat.gcd_comm n, Nat.gcd_rec, Nat.gcd_comm]
          rw [g2]
          refine ih ds _ _ _ _ ?_ (by omega)
          have r1 : m % n < n := Nat.mod_lt _ (by omega)
          have r2 : n % (m % n) < m % n := Nat.mod_lt _ (by omega)
          have r3 : m % n + n % (m % n) ≤ n := by
            have := Nat.div_add_mod n (m % n)
            have q : 1 ≤ n / (m % n) := Nat.div_pos (by omega) (by omega)
            have : (m % n) * 1 ≤ (m % n) * (n / (m % n)) := Nat.mul_le_mul_left _ q
            omega
          have : 2 ^ (k + 1) = 2 * 2 ^ k := by rw [Nat.pow_succ]; omega
          omega
def lowQ (a b : Int) : Fq := (a.fdiv (Nat.gcd a.natAbs b.natAbs : Nat), b.fdiv (Nat.gcd a.natAbs b.natAbs : Nat))
theorem lowQ_ex {a b : Int} (hb : 0 < b) : ∃ (g : Nat) (c d : Int), 0 < g ∧ a = g * c ∧ b = g * d ∧ Nat.gcd c.natAbs d.natAbs = 1 ∧ lowQ a b = (c, d) ∧ 0 < d := by
  have hg : 0 < Nat.gcd a.natAbs b.natAbs := Nat.gcd_pos_of_pos_right _ (by omega)
  have da : ((Nat.gcd a.natAbs b.natAbs : Nat) : Int) ∣ a := Int.ofNat_dvd_left.mpr (Nat.gcd_dvd_left _ _)
  have db : ((Nat.gcd a.natAbs b.natAbs : Nat) : Int) ∣ b := Int.ofNat_dvd_left.mpr (Nat.gcd_dvd_right _ _)
  obtain ⟨c, hc⟩ := da
  obtain ⟨d, hd⟩ := db
  have g0 : ((Nat.gcd a.natAbs b.natAbs : Nat) : Int) ≠ 0 := by omega
  refine ⟨Nat.gcd a.natAbs b.natAbs, c, d, hg, hc, hd, ?_, ?_, ?_⟩
  · have e1 : a.natAbs = Nat.gcd a.natAbs b.natAbs * c.natAbs := by
      have := congrArg Int.natAbs hc
      rw [Int.natAbs_mul] at this
      simpa using this
    have e2 : b.natAbs = Nat.gcd a.natAbs b.natAbs * d.natAbs := by
      have := congrArg Int.natAbs hd
      rw [Int.natAbs_mul] at this
      simpa using this
    have e3 : Nat.gcd (Nat.gcd a.natAbs b.natAbs * c.natAbs) (Nat.gcd a.natAbs b.natAbs * d.natAbs) = Nat.gcd a.natAbs b.natAbs := by rw [← e1, ← e2]
    rw [Nat.gcd_mul_left] at e3
    exact Nat.eq_of_mul_eq_mul_left hg (by rw [e3, Nat.mul_one])
  · unfold lowQ
    generalize hG : Nat.gcd a.natAbs b.natAbs = G at *
    rw [hc, hd, Int.mul_fdiv_cancel_left _ g0, Int.mul_fdiv_cancel_left _ g0]
  · have : (0 : Int) < (Nat.gcd a.natAbs b.natAbs : Nat) := by omega
    rw [hd] at hb
    exact Int.pos_of_mul_pos_right hb this
theorem OkF.low {N : Nat} {a b : Int} (hb : 0 < b) (h1 : a.natAbs ≤ N) (h2 : b.natAbs ≤ N) : OkF N (lowQ a b) := by
  obtain ⟨g, c, d, hg, rfl, rfl, hc, e, hd⟩ := lowQ_ex (a := a) hb
  rw [e]
  have q : ∀ x : Int, x.natAbs ≤ ((g : Int) * x).natAbs := fun x => by
    rw [Int.natAbs_mul]
    exact Nat.le_mul_of_pos_left _ (by simpa using hg)
  exact ⟨hd, hc, Nat.le_trans (q c) h1, Nat.le_trans (q d) h2⟩
theorem abs_nat (a : Int) : (if a < 0 then -a else a) = ((a.natAbs : Nat) : Int) := by
  split <;> omega
theorem up_9000 : itemsR (.rng 0 9000) = .ok (upL 0 9000) := by
  rw [it_rng, if_pos (by omega)]
  rfl
theorem low_spec {T : Prg} {n : Nat} (h : T.fns 32 = some _law_low_fn) {a b : Int} (hb : 0 < b) (h2 : b.natAbs < 2 ^ 200) : callF T (n + 1) 32 [.int a, .int b] = .ok (fr (lowQ a b)) := by
  rw [callF_eq h (eq_of_heq HEq.rfl)]
  have eb : b = ((b.natAbs : Nat) : Int) := by omega
  have hg : 0 < Nat.gcd a.natAbs b.natAbs := Nat.gcd_pos_of_pos_right _ (by omega)
  have hd : divOk ((Nat.gcd a.natAbs b.natAbs : Nat) : Int) = true := by
    unfold divOk
    have l1 : Nat.gcd a.natAbs b.natAbs ≤ b.natAbs := Nat.gcd_le_right _ (by omega)
    have l2 : (Nat.gcd a.natAbs b.natAbs).log2 < 200 := (Nat.log2_lt (by omega)).mpr (by omega)
    have l3 : (0 : Int) < (Nat.gcd a.natAbs b.natAbs : Nat) := by omega
    simp [l3]
    left
    omega
  obtain ⟨x3, y4, y5, q⟩ := euclid ⟨callF T n, T.con⟩ (.int a) (.int b) 200 (upL 0 9000) a.natAbs b.natAbs .un .un h2 (by rw [upL_length]; decide)
  rw [← eb] at q
  simp [_law_low_fn, _law_low_body, startE, abs_nat, up_9000, q, hd, fr, lowQ]
def addQ (p q : Fq) : Fq := lowQ (p.1 * q.2 + q.1 * p.2) (p.2 * q.2)
def subQ (p q : Fq) : Fq := lowQ (p.1 * q.2 - q.1 * p.2) (p.2 * q.2)
theorem mul_abs {N M : Nat} {x y : Int} (h1 : x.natAbs ≤ N) (h2 : y.natAbs ≤ M) : (x * y).natAbs ≤ N * M := by
  rw [Int.natAbs_mul]
  exact Nat.mul_le_mul h1 h2
theorem den_pos {N M : Nat} {p q : Fq} (hp : OkF N p) (hq : OkF M q) : 0 < p.2 * q.2 := Int.mul_pos hp.pos hq.pos
theorem den_small {p q : Fq} (hp : OkF lim p) (hq : OkF lim q) : (p.2 * q.2).natAbs < 2 ^ 200 := Nat.lt_of_le_of_lt (mul_abs hp.b2 hq.b2) (by decide)
theorem plus_spec {T : Prg} {n : Nat} (h32 : T.fns 32 = some _law_low_fn) (h : T.fns 33 = some _law_plus_fn) {p q : Fq} (hp : OkF lim p) (hq : OkF lim q) : callF T (n + 2) 33 [fr p, fr q] = .ok (fr (addQ p q)) := by
  rw [callF_eq h (eq_of_heq HEq.rfl)]
  have L := low_spec (n := n) h32 (a := p.1 * q.2 + q.1 * p.2) (den_pos hp hq) (den_small hp hq)
  simp only [fr] at L
  simp [_law_plus_fn, _law_plus_body, startE, fr, atL, mulOk_r hq.b2, mulOk_r hp.b2, L, addQ]
theorem minus_spec {T : Prg} {n : Nat} (h32 : T.fns 32 = some _law_low_fn) (h : T.fns 36 = some _law_minus_fn) {p q : Fq} (hp : OkF lim p) (hq : OkF lim q) : callF T (n + 2) 36 [fr p, fr q] = .ok (fr (subQ p q)) := by
  rw [callF_eq h (eq_of_heq HEq.rfl)]
  have L := low_spec (n := n) h32 (a := p.1 * q.2 - q.1 * p.2) (den_pos hp hq) (den_small hp hq)
  simp only [fr] at L
  simp [_law_minus_fn, _law_minus_body, startE, fr, atL, mulOk_r hq.b2, mulOk_r hp.b2, L, subQ]
theorem OkF.add {N M : Nat} {p q : Fq} (hp : OkF N p) (hq : OkF M q) : OkF (2 * (N * M)) (addQ p q) := by
  refine OkF.low (den_pos hp hq) ?_ ?_
  · have a := mul_abs hp.b1 hq.b2
    have b := mul_abs hq.b1 hp.b2
    have c := Int.natAbs_add_le (p.1 * q.2) (q.1 * p.2)
    rw [Nat.mul_comm M N] at b
    omega
  · have a := mul_abs hp.b2 hq.b2
    omega
theorem OkF.sub {N M : Nat} {p q : Fq} (hp : OkF N p) (hq : OkF M q) : OkF (2 * (N * M)) (subQ p q) := by
  refine OkF.low (den_pos hp hq) ?_ ?_
  · have a := mul_abs hp.b1 hq.b2
    have b := mul_abs hq.b1 hp.b2
    have c := Int.natAbs_sub_le (p.1 * q.2) (q.1 * p.2)
    rw [Nat.mul_comm M N] at b
    omega
  · have a := mul_abs hp.b2 hq.b2
    omega
/-- p is not above p + q, q no less than 0 -/
theorem add_up {N M : Nat} {p q : Fq} (hp : OkF N p) (hq : OkF M q) (h0 : 0 ≤ q.1) : ltQ (addQ p q) p = false := by
  obtain ⟨g, c, d, hg, e1, e2, _, e, hd⟩ := lowQ_ex (a := p.1 * q.2 + q.1 * p.2) (den_pos hp hq)
  unfold addQ ltQ
  rw [e]
  refine decide_eq_false ?_
  intro h
  have g0 : (0 : Int) < g := by omega
  have h2 : (g : Int) * (c * p.2) < g * (p.1 * d) := Int.mul_lt_mul_of_pos_left h g0
  have a1 : (g : Int) * (c * p.2) = (p.1 * q.2 + q.1 * p.2) * p.2 := by rw [e1, Int.mul_assoc]
  have a2 : (g : Int) * (p.1 * d) = p.1 * (p.2 * q.2) := by rw [e2]; simp only [Int.mul_left_comm]
  rw [a1, a2] at h2
  have a3 : (p.1 * q.2 + q.1 * p.2) * p.2 = p.1 * (p.2 * q.2) + q.1 * (p.2 * p.2) := by
    rw [Int.add_mul, Int.mul_assoc, Int.mul_assoc, Int.mul_comm q.2 p.2]
  rw [a3] at h2
  have a4 : 0 ≤ q.1 * (p.2 * p.2) := Int.mul_nonneg h0 (Int.mul_nonneg (Int.le_of_lt hp.pos) (Int.le_of_lt hp.pos))
  omega
theorem sub_dn {N M : Nat} {p q : Fq} (hp : OkF N p) (hq : OkF M q) (h0 : 0 ≤ q.1) : ltQ p (subQ p q) = false := by
  obtain ⟨g, c, d, hg, e1, e2, _, e, hd⟩ := lowQ_ex (a := p.1 * q.2 - q.1 * p.2) (den_pos hp hq)
  unfold subQ ltQ
  rw [e]
  refine decide_eq_false ?_
  intro h
  have g0 : (0 : Int) < g := by omega
  have h2 : (g : Int) * (p.1 * d) < g * (c * p.2) := Int.mul_lt_mul_of_pos_left h g0
  have a1 : (g : Int) * (c * p.2) = (p.1 * q.2 - q.1 * p.2) * p.2 := by rw [e1, Int.mul_assoc]
  have a2 : (g : Int) * (p.1 * d) = p.1 * (p.2 * q.2) := by rw [e2]; simp only [Int.mul_left_comm]
  rw [a1, a2] at h2
  have a3 : (p.1 * q.2 - q.1 * p.2) * p.2 = p.1 * (p.2 * q.2) - q.1 * (p.2 * p.2) := by
    rw [Int.sub_mul, Int.mul_assoc, Int.mul_assoc, Int.mul_comm q.2 p.2]
  rw [a3] at h2
  have a4 : 0 ≤ q.1 * (p.2 * p.2) := Int.mul_nonneg h0 (Int.mul_nonneg (Int.le_of_lt hp.pos) (Int.le_of_lt hp.pos))
  omega
end PF

namespace PF
open PySem
theorem fm_lo (a : Int) {b : Int} (h : 0 < b) : 0 ≤ a.fmod b := Int.fmod_nonneg_of_pos a h
theorem fm_hi (a : Int) {b : Int} (h : 0 < b) : a.fmod b < b := Int.fmod_lt_of_pos a h
theorem up_range' {n : Nat} (h : n ≤ 1000) : itemsR (.rng 0 (n : Nat)) = .ok (up n) := by
  have r1 : -(2 ^ 62) ≤ (0 : Int) ∧ (0 : Int) < 2 ^ 62 ∧ -(2 ^ 62) ≤ (n : Int) ∧ (n : Int) < 2 ^ 62 := by omega
  have r2 : ((n : Int) - 0).toNat = n := by omega
  rw [it_rng, if_pos r1, r2, up0]
  rfl
/-- slots of the numbers' def -/
def nuE (ns : List D) (place many : Nat) (cell : Int) (vs : List Int) (r : Int) (x6 x7 : SV) : Env := [.fr (.fz ns), .fr (.int (place : Nat)), .fr (.int (many : Nat)), .fr (.int cell), .own (vs.map D.int), .fr (.int r), x6, x7]
theorem nu_step (C : Cal) (ns : List D) (place many : Nat) (cell : Int) {vs : List Int} (r : Int) (x6 x7 : SV) (hv : ∀ v ∈ vs, 0 ≤ v ∧ v < 1000000000) (hl : vs.length ≤ 1000) (k : Nat) :
    ∃ ρ2 v r' y6 y7, exs C ((nuE ns place many cell vs r x6 x7).set 6 (.fr (.int (k : Nat)))) _law_numbers_b3 = .nx ρ2 ∧ (0 ≤ v ∧ v < 1000000000) ∧ ρ2 = nuE ns place many cell (vs ++ [v]) r' y6 y7 := by
  have p1 : powOk 10 18 = true := by decide
  have p2 : powOk 10 9 = true := by decide
  have d1 : divOk 1000000000 = true := by decide
  have b1 : vs.length < big := Nat.lt_of_le_of_lt hl (by decide)
  have m1 : ∀ x : Int, mulOk x 48271 = true := fun x => mulOk_r (by decide)
  have m2 : ∀ x : Int, mulOk x 69621 = true := fun x => mulOk_r (by decide)
  have m3 : ∀ x : Int, mulOk x 16807 = true := fun x => mulOk_r (by decide)
  have m4 : ∀ x : Int, mulOk x 40692 = true := fun x => mulOk_r (by decide)
  by_cases hc : 1000000000000000000 ≤ cell
  · refine ⟨_, r.fmod 1000000000, r.fdiv 1000000000, .fr (.int (k : Nat)), x7, ?_, ⟨fm_lo _ (by decide), fm_hi _ (by decide)⟩, rfl⟩
    simp [_law_numbers_b3, _law_numbers_b1, nuE, p1, p2, d1, b1, hc]
  · refine ⟨_, (((((cell * 48271 + (k + 1) * 69621 + place).fmod 2147483647) * 16807 + (k + 3) * 40692).fmod 2147483399).fmod 1000000000), r, .fr (.int (k : Nat)), .fr (.int ((cell * 48271 + (k + 1) * 69621 + place).fmod 2147483647)), ?_, ⟨fm_lo _ (by decide), fm_hi _ (by decide)⟩, rfl⟩
    simp [_law_numbers_b3, _law_numbers_b2, nuE, p1, p2, d1, b1, hc, m1, m2, m3, m4]
theorem nu_loop (C : Cal) (ns : List D) (place many : Nat) (cell : Int) : ∀ (l : List Nat) (vs : List Int) (r : Int) (x6 x7 : SV), (∀ v ∈ vs, 0 ≤ v ∧ v < 1000000000) → vs.length + l.length ≤ 1000 →
    ∃ vs' r' y6 y7, forL (.nm 6) (fun ρ1 => exs C ρ1 _law_numbers_b3) (l.map fun k => D.int (k : Nat)) (nuE ns place many cell vs r x6 x7) = .nx (nuE ns place many cell vs' r' y6 y7) ∧ vs'.length = vs.length + l.length ∧ ∀ v ∈ vs', 0 ≤ v ∧ v < 1000000000
  | [], vs, r, x6, x7, hv, _ => ⟨vs, r, x6, x7, eq_of_heq HEq.rfl, by simp, hv⟩
  | k :: l, vs, r, x6, x7, hv, hl => by
    simp only [List.length_cons] at hl
    obtain ⟨ρ2, v, r', y6, y7, e1, hb, rfl⟩ := nu_step C ns place many cell r x6 x7 hv (by omega) k
    obtain ⟨vs', r2, z6, z7, e2, h1, h2⟩ := nu_loop C ns place many cell l (vs ++ [v]) r' y6 y7 (fun u hu => by
      rcases List.mem_append.mp hu with hu | hu
      · exact hv u hu
      · rw [List.mem_singleton.mp hu]
        exact hb) (by simp; omega)
    refine ⟨vs', r2, z6, z7, ?_, by rw [h1]; simp; omega, h2⟩
    rw [List.map_cons]
    unfold forL
    rw [as_nm, r_o]
    simp only [e1, e2]
theorem numbers_spec {T : Prg} {n : Nat} (h : T.fns 37 = some _law_numbers_fn) (ns : List Int) (place many : Nat) (hm : many ≤ 1000) : ∃ vs : List Int, vs.length = many ∧ (∀ v ∈ vs, 0 ≤ v ∧ v < 1000000000) ∧ callF T (n + 1) 37 [.fz (ns.map .int), .int (place : Nat), .int (many : Nat)] = .ok (.lst (vs.map .int)) := by
  have cell : ∃ cell : Int, ev ⟨callF T n, T.con⟩ [.fr (.fz (ns.map .int)), .fr (.int (place : Nat)), .fr (.int (many : Nat)), .un, .un, .un, .un, .un] (.ifx (.cmp .lt (.var 1) (.blt .len [.var 0])) (.idx (.var 0) (.var 1)) (.int 0)) = .ok (.int cell) := by
    by_cases hp : place < ns.length
    · have a : atL (ns.map D.int) (place : Nat) = .ok (.int ns[place]) := atL_nat (by simp [hp])
      exact ⟨ns[place], by simp [hp, a]⟩
    · exact ⟨0, by simp [hp]⟩
  obtain ⟨cell, hcell⟩ := cell
  obtain ⟨vs, r, x6, x7, e1, h1, h2⟩ := nu_loop ⟨callF T n, T.con⟩ (ns.map .int) place many cell (List.range many) [] cell .un .un (by simp) (by simpa using hm)
  refine ⟨vs, by simpa using h1, h2, ?_⟩
  rw [callF_eq h (eq_of_heq HEq.rfl)]
  unfold nuE at e1
  simp only [List.map_nil] at e1
  have u : itemsR (.rng 0 (many : Nat)) = .ok ((List.range many).map fun k => D.int (k : Nat)) := up_range' hm
  simp only [_law_numbers_fn, _law_numbers_body, startE, z_exs, z_set, List.map_cons, List.map_nil, List.length_cons, List.length_nil, List.replicate, List.cons_append, List.nil_append, hcell, r_o, o_nx, List.set_cons_succ, List.set_cons_zero]
  simp [u, e1, frzE]
end PF

namespace PF
open PySem
theorem low1 (a : Int) : lowQ a 1 = (a, 1) := by
  have g : Nat.gcd a.natAbs (1 : Int).natAbs = 1 := Nat.gcd_one_right _
  unfold lowQ
  rw [g]
  simp
def cnt (vs : List Int) (k : Nat) : Int := (((vs[k]?).getD 0).fdiv (1 + 7 * (k : Nat))).fmod 4 - 1
def prow (vs : List Int) (m : Nat) : List Fq := (List.range m).map fun k => (cnt vs k, 1)
theorem cnt_b (vs : List Int) (k : Nat) : -1 ≤ cnt vs k ∧ cnt vs k ≤ 2 := by
  have h1 := fm_lo (((vs[k]?).getD 0).fdiv (1 + 7 * (k : Nat))) (b := 4) (by decide)
  have h2 := fm_hi (((vs[k]?).getD 0).fdiv (1 + 7 * (k : Nat))) (b := 4) (by decide)
  unfold cnt
  omega
theorem prow_ok {vs : List Int} {m : Nat} (h1 : 1 ≤ m) (h2 : m ≤ 10) : OkR (prow vs m) := ⟨fun q hq => by
  obtain ⟨k, _, rfl⟩ := List.mem_map.mp hq
  have := cnt_b vs k
  have hl : lim = 1000000000000 := rfl
  refine ⟨show (0 : Int) < 1 by decide, Nat.gcd_one_right _, ?_, show (1 : Int).natAbs ≤ lim by decide⟩
  show (cnt vs k).natAbs ≤ lim
  omega, by simp [prow]; exact h1, by simp [prow]; exact h2⟩
theorem prow_spec {T : Prg} {n : Nat} (h32 : T.fns 32 = some _law_low_fn) (h : T.fns 85 = some _law_plain_row_fn) {vs : List Int} (hv : vs.length = 6) {m : Nat} (hm : m ≤ 6) : callF T (n + 2) 85 [.lst (vs.map D.int), .int (m : Nat)] = .ok (rw (prow vs m)) := by
  rw [callF_eq h (eq_of_heq HEq.rfl)]
  have q : compL (compF ⟨callF T (n + 1), T.con⟩ [.fr (.lst (vs.map D.int)), .fr (.int (m : Nat)), .un] (.nm 2) .noE (.call 32 [.bin .sub (.bin .mod (.blt .int [.bin .fdiv (.idx (.var 0) (.bin .mod (.var 2) (.blt .len [.var 0]))) (.bin .add (.int 1) (.bin .mul (.int 7) (.var 2)))]) (.int 4)) (.int 1), .int 1]) [2]) ((List.range m).map fun i => D.int (i : Nat)) = .ok ((List.range m).map fun k => fr (cnt vs k, 1)) := by
    refine compL_mapG fun k hk => ?_
    have hk : k < m := List.mem_range.mp hk
    have e1 : ((k : Nat) : Int).fmod 6 = (k : Nat) := by
      rw [Int.fmod_eq_emod_of_nonneg _ (by decide)]
      omega
    have e2 : atL (vs.map D.int) (k : Nat) = .ok (.int ((vs[k]?).getD 0)) := atL_nat (by simp [show k < vs.length by omega])
    have m1 : mulOk 7 (k : Nat) = true := mulOk_l (by decide)
    have d1 : divOk (1 + 7 * ((k : Nat) : Int)) = true := by
      unfold divOk
      have h1 : 1 + 7 * ((k : Nat) : Int) ≠ 0 := by omega
      have h2 : (1 + 7 * ((k : Nat) : Int)).natAbs < 1073741824 := by omega
      simp [h1, h2]
    have d2 : divOk 6 = true := by decide
    have d3 : divOk 4 = true := by decide
    have L := low_spec (n := n) h32 (a := cnt vs k) (b := 1) (by decide) (by decide)
    rw [low1] at L
    unfold cnt at L
    simp [cF, e1, e2, m1, d1, d2, d3, hv, L, cnt]
  have c1 : ((List.range m).map fun k => fr (cnt vs k, 1)).length ≤ 1000 := by simp; omega
  have u := up_range (n := m) (by omega)
  unfold up at u
  simp [_law_plain_row_fn, _law_plain_row_body, startE, u, q, capL_ok c1]
  simp [rw, prow]
end PF

namespace PF
open PySem
def plOf (v : Int) : Pl := (lowQ (v.fmod 13 - 5) (1 + (v.fdiv 13).fmod 2), addQ (lowQ (v.fmod 13 - 5) (1 + (v.fdiv 13).fmod 2)) (lowQ ((v.fdiv 26).fmod 6) (1 + (v.fdiv 156).fmod 2)))
theorem lowQ_num {a b : Int} (hb : 0 < b) (ha : 0 ≤ a) : 0 ≤ (lowQ a b).1 := by
  obtain ⟨g, c, d, hg, e1, e2, _, e, hd⟩ := lowQ_ex (a := a) hb
  rw [e]
  rw [e1] at ha
  exact Int.nonneg_of_mul_nonneg_right ha (by omega)
theorem plOf_ok (v : Int) : OkF 8 (lowQ (v.fmod 13 - 5) (1 + (v.fdiv 13).fmod 2)) ∧ OkF 5 (lowQ ((v.fdiv 26).fmod 6) (1 + (v.fdiv 156).fmod 2)) ∧ OkP 80 (plOf v) := by
  have a1 := fm_lo v (b := 13) (by decide)
  have a2 := fm_hi v (b := 13) (by decide)
  have a3 := fm_lo (v.fdiv 13) (b := 2) (by decide)
  have a4 := fm_hi (v.fdiv 13) (b := 2) (by decide)
  have a5 := fm_lo (v.fdiv 26) (b := 6) (by decide)
  have a6 := fm_hi (v.fdiv 26) (b := 6) (by decide)
  have a7 := fm_lo (v.fdiv 156) (b := 2) (by decide)
  have a8 := fm_hi (v.fdiv 156) (b := 2) (by decide)
  have o1 : OkF 8 (lowQ (v.fmod 13 - 5) (1 + (v.fdiv 13).fmod 2)) := OkF.low (by omega) (by omega) (by omega)
  have o2 : OkF 5 (lowQ ((v.fdiv 26).fmod 6) (1 + (v.fdiv 156).fmod 2)) := OkF.low (by omega) (by omega) (by omega)
  refine ⟨o1, o2, o1.mono (by decide), (o1.add o2).mono (by decide), add_up o1 o2 (lowQ_num (by omega) a5)⟩
theorem lb_step {T : Prg} {n : Nat} (h32 : T.fns 32 = some _law_low_fn) (h33 : T.fns 33 = some _law_plus_fn) (cs : Nat → Option D) (d0 : D) {s : List Pl} (v : Int) (x3 : SV) (hs : s.length ≤ 1000) :
    exs ⟨callF T (n + 2), cs⟩ [.fr d0, .own (s.map pl), .fr (.int v), x3] _law_bounds_b1 = .nx [.fr d0, .own ((s ++ [plOf v]).map pl), .fr (.int v), .fr (fr (plOf v).1)] := by
  obtain ⟨o1, o2, _⟩ := plOf_ok v
  have a3 := fm_lo (v.fdiv 13) (b := 2) (by decide)
  have a4 := fm_hi (v.fdiv 13) (b := 2) (by decide)
  have a7 := fm_lo (v.fdiv 156) (b := 2) (by decide)
  have a8 := fm_hi (v.fdiv 156) (b := 2) (by decide)
  have q1 : (1 + (v.fdiv 13).fmod 2).natAbs < 2 ^ 200 := Nat.lt_of_le_of_lt (show _ ≤ 2 by omega) (by decide)
  have q2 : (1 + (v.fdiv 156).fmod 2).natAbs < 2 ^ 200 := Nat.lt_of_le_of_lt (show _ ≤ 2 by omega) (by decide)
  have L1 := low_spec (n := n + 1) h32 (a := v.fmod 13 - 5) (b := 1 + (v.fdiv 13).fmod 2) (by omega) q1
  have L2 := low_spec (n := n + 1) h32 (a := (v.fdiv 26).fmod 6) (b := 1 + (v.fdiv 156).fmod 2) (by omega) q2
  have P := plus_spec (n := n) h32 h33 (o1.mono (show 8 ≤ lim by decide)) (o2.mono (show 5 ≤ lim by decide))
  have b1 : s.length < big := Nat.lt_of_le_of_lt hs (by decide)
  have d1 : divOk 13 = true := by decide
  have d2 : divOk 26 = true := by decide
  have d3 : divOk 156 = true := by decide
  simp [_law_bounds_b1, L1, L2, P, b1, d1, d2, d3, plOf, pl]
theorem lb_loop {T : Prg} {n : Nat} (h32 : T.fns 32 = some _law_low_fn) (h33 : T.fns 33 = some _law_plus_fn) (cs : Nat → Option D) (d0 : D) : ∀ (l : List Int) (s : List Pl) (x2 x3 : SV), s.length + l.length ≤ 1000 →
    ∃ y2 y3, forL (.nm 2) (fun ρ1 => exs ⟨callF T (n + 2), cs⟩ ρ1 _law_bounds_b1) (l.map D.int) [.fr d0, .own (s.map pl), x2, x3] = .nx [.fr d0, .own ((s ++ l.map plOf).map pl), y2, y3]
  | [], s, x2, x3, _ => ⟨x2, x3, by rw [List.map_nil, List.map_nil, List.append_nil]; exact eq_of_heq HEq.rfl⟩
  | v :: l, s, x2, x3, hl => by
    simp only [List.length_cons] at hl
    obtain ⟨y2, y3, e⟩ := lb_loop (n := n) h32 h33 cs d0 l (s ++ [plOf v]) (.fr (.int v)) (.fr (fr (plOf v).1)) (by simp; omega)
    refine ⟨y2, y3, ?_⟩
    rw [List.map_cons]
    unfold forL
    rw [as_nm, r_o]
    simp only [List.set_cons_succ, List.set_cons_zero]
    rw [lb_step h32 h33 cs d0 v x3 (by omega)]
    simp only [e]
    rw [List.map_cons, List.append_assoc]
    rfl
theorem lbounds_spec {T : Prg} {n : Nat} (h32 : T.fns 32 = some _law_low_fn) (h33 : T.fns 33 = some _law_plus_fn) (h : T.fns 41 = some _law_bounds_fn) {vs : List Int} (h1 : 10 ≤ vs.length) (h2 : vs.length ≤ 100) : ∃ l : List Pl, (∀ x ∈ l, OkP 80 x) ∧ 3 ≤ l.length ∧ l.length ≤ 6 ∧ callF T (n + 3) 41 [.lst (vs.map .int)] = .ok (bd l) := by
  obtain ⟨v0, a0⟩ : ∃ v0, atL (vs.map D.int) 0 = .ok (.int v0) := by
    cases vs with
    | nil => simp at h1
    | cons a l => exact ⟨a, atL_nat (i := 0) (by simp)⟩
  have m1 := fm_lo v0 (b := 4) (by decide)
  have m2 := fm_hi v0 (b := 4) (by decide)
  generalize hk : v0.fmod 4 = k at *
  have c : cutL (vs.map D.int) (some 1) (some (4 + k)) = ((vs.drop 1).take (3 + k.toNat)).map D.int := by
    have s1 : six vs.length 0 (some 1) = 1 := by
      have e : six vs.length 0 (some 1) = if (1 : Int) < 0 then ((1 : Int) + vs.length).toNat else min (1 : Int).toNat vs.length := rfl
      rw [e, if_neg (by decide)]
      omega
    have s2 : six vs.length vs.length (some (4 + k)) = 4 + k.toNat := by
      have e : six vs.length vs.length (some (4 + k)) = if (4 + k : Int) < 0 then ((4 + k : Int) + vs.length).toNat else min (4 + k : Int).toNat vs.length := rfl
      rw [e, if_neg (by omega)]
      omega
    unfold cutL
    rw [List.length_map, s1, s2, List.map_take, List.map_drop]
    congr 1
    omega
  have w1 : 3 ≤ ((vs.drop 1).take (3 + k.toNat)).length := by simp; omega
  have w2 : ((vs.drop 1).take (3 + k.toNat)).length ≤ 6 := by simp; omega
  generalize (vs.drop 1).take (3 + k.toNat) = ws at *
  obtain ⟨y2, y3, e⟩ := lb_loop (n := n) h32 h33 T.con (.lst (vs.map .int)) ws [] .un .un (by simp; omega)
  refine ⟨ws.map plOf, fun x hx => ?_, by simpa using w1, by simpa using w2, ?_⟩
  · obtain ⟨v, _, rfl⟩ := List.mem_map.mp hx
    exact (plOf_ok v).2.2
  · rw [callF_eq h (eq_of_heq HEq.rfl)]
    simp only [List.map_nil, List.nil_append] at e
    simp [_law_bounds_fn, _law_bounds_body, startE, a0, hk, optI, c, e, bd]
end PF

namespace PF
open PySem
theorem divOk_s {j : Int} (h0 : 0 < j) (h : j ≤ 1000000) : divOk j = true := by
  unfold divOk
  have h1 : j ≠ 0 := by omega
  have h2 : j.natAbs < 1073741824 := by omega
  simp [h1, h2]
theorem ix_pl (x : Pl) {r : Int} (h0 : 0 ≤ r) (h1 : r < 2) : ∃ q, (q = x.1 ∨ q = x.2) ∧ idxR (pl x) (.int r) = .ok (fr q) := by
  by_cases h : r = 0
  · subst h
    exact ⟨x.1, .inl rfl, ix_pl0 x⟩
  · have : r = 1 := by omega
    subst this
    exact ⟨x.2, .inr rfl, ix_pl1 x⟩
theorem okP_set {N : Nat} {s : List Pl} (hs : ∀ x ∈ s, OkP N x) {y : Pl} (hy : OkP (2 * N) y) (j : Nat) : ∀ x ∈ s.set j y, OkP (2 * N) x := fun x hx => by
  rcases List.mem_or_eq_of_mem_set hx with h | h
  · exact (hs x h).mono (by omega)
  · rw [h]
    exact hy
theorem touch_step {T : Prg} {n : Nat} (h32 : T.fns 32 = some _law_low_fn) (h33 : T.fns 33 = some _law_plus_fn) (h36 : T.fns 36 = some _law_minus_fn) (cs : Nat → Option D) (d0 : D) (num : Int) {N : Nat} (h1N : 1 ≤ N) (hN : N ≤ lim) {s : List Pl} (hs : ∀ x ∈ s, OkP N x) {i : Nat} (hi : i + 1 < s.length) (hl : s.length ≤ 1000) (x4 : SV) :
    ∃ (s' : List Pl) (x4' : SV), exs ⟨callF T (n + 2), cs⟩ [.fr d0, .fr (.int num), .own (s.map pl), .fr (.int (1 + (i : Nat))), x4] _law_touching_b2 = .nx [.fr d0, .fr (.int num), .own (s'.map pl), .fr (.int (1 + (i : Nat))), x4'] ∧ s'.length = s.length ∧ ∀ x ∈ s', OkP (2 * N) x := by
  have m3 : mulOk 3 (1 + (i : Nat)) = true := mulOk_l (by decide)
  have d1 : divOk (1 + 3 * (1 + (i : Nat))) = true := divOk_s (by omega) (by omega)
  have d2 : divOk (1 + (1 + (i : Nat))) = true := divOk_s (by omega) (by omega)
  have d3 : divOk (2 + (1 + (i : Nat))) = true := divOk_s (by omega) (by omega)
  have e1 : (1 + (i : Int)) - 1 = (i : Nat) := by omega
  have at1 : atL (s.map pl) (i : Nat) = .ok (pl (lp s i)) := at_pl (by omega)
  by_cases c1 : (num.fdiv (1 + 3 * (1 + (i : Int)))).fmod 2 = 0
  · have r0 := fm_lo (num.fdiv (1 + (1 + (i : Int)))) (b := 2) (by decide)
    have r1 := fm_hi (num.fdiv (1 + (1 + (i : Int)))) (b := 2) (by decide)
    obtain ⟨q, hq, eq⟩ := ix_pl (lp s i) r0 r1
    have ho := hs _ (lp_mem (l := s) (i := i) (by omega))
    have hqF : OkF N q := by
      rcases hq with rfl | rfl
      · exact ho.lo
      · exact ho.hi
    have one : OkF 1 ((1, 1) : Fq) := ⟨by decide, by decide, by decide, by decide⟩
    have P : callF T (n + 2) 33 [fr q, .tup [.int 1, .int 1]] = .ok (fr (addQ q (1, 1))) := plus_spec (n := n) h32 h33 (hqF.mono hN) (one.mono (show 1 ≤ lim by decide))
    have Mn : callF T (n + 2) 36 [fr q, .tup [.int 1, .int 1]] = .ok (fr (subQ q (1, 1))) := minus_spec (n := n) h32 h36 (hqF.mono hN) (one.mono (show 1 ≤ lim by decide))
    have k1 : OkP (2 * N) (q, addQ q (1, 1)) := ⟨hqF.mono (by omega), (hqF.add one).mono (by omega), add_up hqF one (by decide)⟩
    have k2 : OkP (2 * N) (subQ q (1, 1), q) := ⟨(hqF.sub one).mono (by omega), hqF.mono (by omega), sub_dn hqF one (by decide)⟩
    have hpl : ∀ a b : Fq, D.tup [fr a, fr b] = pl (a, b) := fun _ _ => eq_of_heq HEq.rfl
    have g1 : (0 : Int) ≤ 1 + (i : Int) := by omega
    have g2 : 1 + (i : Int) < (s.length : Int) := by omega
    by_cases c2 : (num.fdiv (2 + (1 + (i : Int)))).fmod 2 = 0
    · refine ⟨s.set (1 + (i : Int)).toNat (q, addQ q (1, 1)), .fr (fr q), ?_, by simp, okP_set hs k1 _⟩
      simp [_law_touching_b2, _law_touching_b1, m3, d1, d2, d3, c1, e1, at1, eq, P, c2, g1, g2, hpl, List.map_set]
    · refine ⟨s.set (1 + (i : Int)).toNat (subQ q (1, 1), q), .fr (fr q), ?_, by simp, okP_set hs k2 _⟩
      simp [_law_touching_b2, _law_touching_b1, m3, d1, d2, d3, c1, e1, at1, eq, Mn, c2, g1, g2, hpl, List.map_set]
  · refine ⟨s, x4, ?_, rfl, fun x hx => (hs x hx).mono (by omega)⟩
    simp [_law_touching_b2, m3, d1, c1]
theorem touch_loop {T : Prg} {n : Nat} (h32 : T.fns 32 = some _law_low_fn) (h33 : T.fns 33 = some _law_plus_fn) (h36 : T.fns 36 = some _law_minus_fn) (cs : Nat → Option D) (d0 : D) (num : Int) : ∀ (l : List Nat) (N : Nat) (s : List Pl) (x3 x4 : SV), 1 ≤ N → N * 2 ^ l.length ≤ lim → (∀ x ∈ s, OkP N x) → (∀ i ∈ l, i + 1 < s.length) → s.length ≤ 1000 →
    ∃ (s' : List Pl) (y3 y4 : SV), forL (.nm 3) (fun ρ1 => exs ⟨callF T (n + 2), cs⟩ ρ1 _law_touching_b2) (l.map fun i => D.int (1 + (i : Nat))) [.fr d0, .fr (.int num), .own (s.map pl), x3, x4] = .nx [.fr d0, .fr (.int num), .own (s'.map pl), y3, y4] ∧ s'.length = s.length ∧ ∀ x ∈ s', OkP lim x
  | [], N, s, x3, x4, _, hN, hs, _, _ => ⟨s, x3, x4, eq_of_heq HEq.rfl, rfl, fun x hx => (hs x hx).mono (by simpa using hN)⟩
  | i :: l, N, s, x3, x4, h1, hN, hs, hi, hl => by
    have hp : N * 2 ^ (l.length + 1) = 2 * N * 2 ^ l.length := by rw [Nat.pow_succ, Nat.mul_comm (2 ^ l.length) 2, ← Nat.mul_assoc, Nat.mul_comm N 2]
    rw [List.length_cons, hp] at hN
    have hN1 : N ≤ lim := by
      have : 1 ≤ 2 ^ l.length := Nat.one_le_two_pow
      have := Nat.mul_le_mul_left (2 * N) this
      omega
    obtain ⟨s', z4, e1, l1, o1⟩ := touch_step (n := n) h32 h33 h36 cs d0 num h1 hN1 hs (hi i List.mem_cons_self) hl x4
    obtain ⟨s2, y3, y4, e2, l2, o2⟩ := touch_loop (n := n) h32 h33 h36 cs d0 num l (2 * N) s' (.fr (.int (1 + (i : Nat)))) z4 (by omega) hN o1 (fun j hj => by rw [l1]; exact hi j (List.mem_cons_of_mem _ hj)) (by omega)
    refine ⟨s2, y3, y4, ?_, by omega, o2⟩
    rw [List.map_cons]
    unfold forL
    rw [as_nm, r_o]
    simp only [List.set_cons_succ, List.set_cons_zero, e1, e2]
theorem touching_spec {T : Prg} {n : Nat} (h32 : T.fns 32 = some _law_low_fn) (h33 : T.fns 33 = some _law_plus_fn) (h36 : T.fns 36 = some _law_minus_fn) (h : T.fns 70 = some _law_touching_fn) {l : List Pl} (hl : ∀ x ∈ l, OkP 80 x) (h1 : 1 ≤ l.length) (h2 : l.length ≤ 10) (num : Int) : ∃ s : List Pl, (∀ x ∈ s, OkP lim x) ∧ s.length = l.length ∧ callF T (n + 3) 70 [bd l, .int num] = .ok (bd s) := by
  have u : itemsR (.rng 1 (l.length : Nat)) = .ok ((List.range (l.length - 1)).map fun i => D.int (1 + (i : Nat))) := by
    rw [it_rng, if_pos (by omega), upL_eq]
    congr 3
    omega
  obtain ⟨s, y3, y4, e, e1, o⟩ := touch_loop (n := n) h32 h33 h36 T.con (bd l) num (List.range (l.length - 1)) 80 l .un .un (by decide) (by
    rw [List.length_range]
    have : 2 ^ (l.length - 1) ≤ 2 ^ 9 := Nat.pow_le_pow_right (by decide) (by omega)
    have := Nat.mul_le_mul_left 80 this
    exact Nat.le_trans this (by decide)) hl (fun i hi => by
    have := List.mem_range.mp hi
    omega) (by omega)
  refine ⟨s, o, e1, ?_⟩
  rw [callF_eq h (eq_of_heq HEq.rfl)]
  have b1 : bltR .list [bd l] = .ok (.lst (l.map pl)) := eq_of_heq HEq.rfl
  simp [_law_touching_fn, _law_touching_body, startE, b1, u, e]
  rfl
end PF

namespace PF
open PySem
theorem row_eq {n i : Nat} (hi : i < n) (P : Nat → Bool) : ((List.range (n - (i + 1))).map (i + 1 + ·)).filter P = (List.range n).filter fun j => decide (i < j) && P j := by
  have e : List.range n = List.range (i + 1) ++ (List.range (n - (i + 1))).map (i + 1 + ·) := by
    rw [← List.range_add]
    congr 1
    omega
  rw [e, List.filter_append]
  have h1 : (List.range (i + 1)).filter (fun j => decide (i < j) && P j) = [] := by
    rw [List.filter_eq_nil_iff]
    intro j hj
    have := List.mem_range.mp hj
    simp
    omega
  rw [h1, List.nil_append]
  apply List.filter_congr
  intro j hj
  obtain ⟨t, _, rfl⟩ := List.mem_map.mp hj
  have : i < i + 1 + t := by omega
  simp [this]
def row (n : Nat) (f : Nat → Nat → Bool) (i : Nat) : List (Nat × Nat) := ((List.range n).filter (f i)).map fun j => (i, j)
theorem row_len {n : Nat} (h : n ≤ 10) (f : Nat → Nat → Bool) (i : Nat) : (row n f i).length ≤ 10 := by
  unfold row
  rw [List.length_map]
  exact Nat.le_trans (List.length_filter_le _ _) (by simpa using h)
theorem lf_loop {body : Env → O} {l : List Pl} {n : Nat} (hn : n ≤ 10) {f : Nat → Nat → Bool} (hstep : ∀ i < n, ∀ (acc : List (Nat × Nat)) (x3 : SV), acc.length ≤ 1000 → ∃ y3, body [.fr (bd l), .fr (.lst (acc.map prD)), .fr (.int (i : Nat)), x3] = .nx [.fr (bd l), .fr (.lst ((acc ++ row n f i).map prD)), .fr (.int (i : Nat)), y3]) :
    ∀ (is : List Nat) (acc : List (Nat × Nat)) (x2 x3 : SV), (∀ i ∈ is, i < n) → acc.length + 10 * is.length ≤ 1000 → ∃ y2 y3, forL (.nm 2) body (is.map fun i => D.int (i : Nat)) [.fr (bd l), .fr (.lst (acc.map prD)), x2, x3] = .nx [.fr (bd l), .fr (.lst ((acc ++ is.flatMap (row n f)).map prD)), y2, y3]
  | [], acc, x2, x3, _, _ => ⟨x2, x3, by rw [List.flatMap_nil, List.append_nil]; exact eq_of_heq HEq.rfl⟩
  | i :: is, acc, x2, x3, hi, hl => by
    simp only [List.length_cons] at hl
    obtain ⟨y3, e⟩ := hstep i (hi i List.mem_cons_self) acc x3 (by omega)
    have := row_len hn f i
    obtain ⟨z2, z3, e2⟩ := lf_loop hn hstep is (acc ++ row n f i) (.fr (.int (i : Nat))) y3 (fun j hj => hi j (List.mem_cons_of_mem _ hj)) (by rw [List.length_append]; omega)
    refine ⟨z2, z3, ?_⟩
    rw [List.map_cons]
    unfold forL
    rw [as_nm, r_o]
    simp only [List.set_cons_succ, List.set_cons_zero, e, e2]
    rw [List.flatMap_cons, List.append_assoc]
theorem up_from {i n : Nat} (hi : i < n) (hn : n ≤ 10) : itemsR (.rng ((i : Nat) + 1) (n : Nat)) = .ok (((List.range (n - (i + 1))).map (i + 1 + ·)).map fun j => D.int (j : Nat)) := by
  rw [it_rng, if_pos (by omega), upL_eq, List.map_map]
  have e : ((n : Int) - ((i : Int) + 1)).toNat = n - (i + 1) := by omega
  rw [e]
  congr 1
theorem lfalls_step {T : Prg} {k : Nat} (h35 : T.fns 35 = some _law_less_fn) (cs : Nat → Option D) {l : List Pl} (hl : OkB l) {i : Nat} (hi : i < l.length) (acc : List (Nat × Nat)) (x3 : SV) (ha : acc.length ≤ 1000) :
    ∃ y3, exs ⟨callF T (k + 1), cs⟩ [.fr (bd l), .fr (.lst (acc.map prD)), .fr (.int (i : Nat)), x3] _law_falls_b1 = .nx [.fr (bd l), .fr (.lst ((acc ++ row l.length (fallB l) i).map prD)), .fr (.int (i : Nat)), y3] := by
  refine ⟨x3, ?_⟩
  have q : compL (compF ⟨callF T (k + 1), cs⟩ [.fr (bd l), .fr (.lst (acc.map prD)), .fr (.int (i : Nat)), x3] (.nm 3) (.call 35 [.idx (.idx (.var 0) (.var 3)) (.int 1), .idx (.idx (.var 0) (.var 2)) (.int 0)]) (.tup [.var 2, .var 3]) [3]) (((List.range (l.length - (i + 1))).map (i + 1 + ·)).map fun j => D.int (j : Nat)) = .ok ((row l.length (fallB l) i).map prD) := by
    have e : (row l.length (fallB l) i).map prD = (((List.range (l.length - (i + 1))).map (i + 1 + ·)).filter (fun j => ltQ (lp l j).2 (lp l i).1)).map fun j => prD (i, j) := by
      unfold row
      rw [row_eq hi, List.map_map]
      rfl
    rw [e]
    refine compL_filter fun j hj => ?_
    obtain ⟨t, ht, rfl⟩ := List.mem_map.mp hj
    have hj : i + 1 + t < l.length := by have := List.mem_range.mp ht; omega
    have L := lless_spec (n := k) h35 (hl.ok _ (lp_mem hj)).hi (hl.ok _ (lp_mem hi)).lo
    have a1 : idxR (bd l) (.int ((i + 1 + t : Nat) : Nat)) = .ok (pl (lp l (i + 1 + t))) := at_pl hj
    have a2 : idxR (bd l) (.int (i : Nat)) = .ok (pl (lp l i)) := at_pl hi
    generalize i + 1 + t = j at *
    simp [cF, a1, a2, L, prD]
    cases ltQ (lp l j).2 (lp l i).1 <;> rfl
  have e0 : bltR .len [bd l] = .ok (.int (l.length : Nat)) := by simp [bd]
  have r1 := row_len hl.most (fallB l) i
  have e1 : ((row l.length (fallB l) i).map prD).length ≤ 1000 := by rw [List.length_map]; omega
  have e2 : acc.length + (row l.length (fallB l) i).length ≤ big := by
    have : big = 1000000 := rfl
    omega
  simp [_law_falls_b1, e0, up_from hi hl.most, q, capL_ok e1, e2, -List.map_map]
theorem lrises_step {T : Prg} {k : Nat} (h35 : T.fns 35 = some _law_less_fn) (cs : Nat → Option D) {l : List Pl} (hl : OkB l) {i : Nat} (hi : i < l.length) (acc : List (Nat × Nat)) (x3 : SV) (ha : acc.length ≤ 1000) :
    ∃ y3, exs ⟨callF T (k + 1), cs⟩ [.fr (bd l), .fr (.lst (acc.map prD)), .fr (.int (i : Nat)), x3] _law_rises_b1 = .nx [.fr (bd l), .fr (.lst ((acc ++ row l.length (riseB l) i).map prD)), .fr (.int (i : Nat)), y3] := by
  refine ⟨x3, ?_⟩
  have q : compL (compF ⟨callF T (k + 1), cs⟩ [.fr (bd l), .fr (.lst (acc.map prD)), .fr (.int (i : Nat)), x3] (.nm 3) (.call 35 [.idx (.idx (.var 0) (.var 2)) (.int 1), .idx (.idx (.var 0) (.var 3)) (.int 0)]) (.tup [.var 2, .var 3]) [3]) (((List.range (l.length - (i + 1))).map (i + 1 + ·)).map fun j => D.int (j : Nat)) = .ok ((row l.length (riseB l) i).map prD) := by
    have e : (row l.length (riseB l) i).map prD = (((List.range (l.length - (i + 1))).map (i + 1 + ·)).filter (fun j => ltQ (lp l i).2 (lp l j).1)).map fun j => prD (i, j) := by
      unfold row
      rw [row_eq hi, List.map_map]
      rfl
    rw [e]
    refine compL_filter fun j hj => ?_
    obtain ⟨t, ht, rfl⟩ := List.mem_map.mp hj
    have hj : i + 1 + t < l.length := by have := List.mem_range.mp ht; omega
    have L := lless_spec (n := k) h35 (hl.ok _ (lp_mem hi)).hi (hl.ok _ (lp_mem hj)).lo
    have a1 : idxR (bd l) (.int ((i + 1 + t : Nat) : Nat)) = .ok (pl (lp l (i + 1 + t))) := at_pl hj
    have a2 : idxR (bd l) (.int (i : Nat)) = .ok (pl (lp l i)) := at_pl hi
    generalize i + 1 + t = j at *
    simp [cF, a1, a2, L, prD]
    cases ltQ (lp l i).2 (lp l j).1 <;> rfl
  have e0 : bltR .len [bd l] = .ok (.int (l.length : Nat)) := by simp [bd]
  have r1 := row_len hl.most (riseB l) i
  have e1 : ((row l.length (riseB l) i).map prD).length ≤ 1000 := by rw [List.length_map]; omega
  have e2 : acc.length + (row l.length (riseB l) i).length ≤ big := by
    have : big = 1000000 := rfl
    omega
  simp [_law_rises_b1, e0, up_from hi hl.most, q, capL_ok e1, e2, -List.map_map]
theorem lfalls_spec {T : Prg} {k : Nat} (h35 : T.fns 35 = some _law_less_fn) (h : T.fns 68 = some _law_falls_fn) {l : List Pl} (hl : OkB l) : callF T (k + 2) 68 [bd l] = .ok (.lst ((pairs l.length (fallB l)).map prD)) := by
  rw [callF_eq h (eq_of_heq HEq.rfl)]
  have hm : ([] : List (Nat × Nat)).length + 10 * (List.range l.length).length ≤ 1000 := by
    have := hl.most
    rw [List.length_range, List.length_nil]
    omega
  have e := lf_loop (l := l) hl.most (f := fallB l) (body := fun ρ1 => exs ⟨callF T (k + 1), T.con⟩ ρ1 _law_falls_b1) (fun i hi acc x3 ha => lfalls_step (k := k) h35 T.con hl hi acc x3 ha) (List.range l.length) [] .un .un (fun i hi => List.mem_range.mp hi) hm
  obtain ⟨y2, y3, e⟩ := e
  have e0 : bltR .len [bd l] = .ok (.int (l.length : Nat)) := by simp [bd]
  have u := up_range hl.most
  unfold up at u
  simp only [List.map_nil, List.nil_append] at e
  simp [_law_falls_fn, _law_falls_body, startE, e0, u, e]
  rfl
theorem lrises_spec {T : Prg} {k : Nat} (h35 : T.fns 35 = some _law_less_fn) (h : T.fns 69 = some _law_rises_fn) {l : List Pl} (hl : OkB l) : callF T (k + 2) 69 [bd l] = .ok (.lst ((pairs l.length (riseB l)).map prD)) := by
  rw [callF_eq h (eq_of_heq HEq.rfl)]
  have hm : ([] : List (Nat × Nat)).length + 10 * (List.range l.length).length ≤ 1000 := by
    have := hl.most
    rw [List.length_range, List.length_nil]
    omega
  have e := lf_loop (l := l) hl.most (f := riseB l) (body := fun ρ1 => exs ⟨callF T (k + 1), T.con⟩ ρ1 _law_rises_b1) (fun i hi acc x3 ha => lrises_step (k := k) h35 T.con hl hi acc x3 ha) (List.range l.length) [] .un .un (fun i hi => List.mem_range.mp hi) hm
  obtain ⟨y2, y3, e⟩ := e
  have e0 : bltR .len [bd l] = .ok (.int (l.length : Nat)) := by simp [bd]
  have u := up_range hl.most
  unfold up at u
  simp only [List.map_nil, List.nil_append] at e
  simp [_law_rises_fn, _law_rises_body, startE, e0, u, e]
  rfl
end PF

namespace PF
open PySem
theorem bdS_true (l : List Pl) : bdS true l = bd l := by
  simp [bdS, bd, plS, pl, frS, fr, seqD]
theorem ltQ_le {a b c : Fq} (ha : 0 < a.2) (hb : 0 < b.2) (hc : 0 < c.2) (h1 : ltQ a b = true) (h2 : ltQ c b = false) : ltQ a c = true := by
  unfold ltQ at *
  have h1 := of_decide_eq_true h1
  have h2 := of_decide_eq_false h2
  apply decide_eq_true
  have e1 : a.1 * b.2 * c.2 < b.1 * a.2 * c.2 := Int.mul_lt_mul_of_pos_right h1 hc
  have e2 : b.1 * c.2 * a.2 ≤ c.1 * b.2 * a.2 := Int.mul_le_mul_of_nonneg_right (by omega) (by omega)
  have e3 : a.1 * c.2 * b.2 < c.1 * a.2 * b.2 := by
    have t1 : a.1 * c.2 * b.2 = a.1 * b.2 * c.2 := by rw [Int.mul_assoc, Int.mul_comm c.2, ← Int.mul_assoc]
    have t2 : b.1 * a.2 * c.2 = b.1 * c.2 * a.2 := by rw [Int.mul_assoc, Int.mul_comm a.2, ← Int.mul_assoc]
    have t3 : c.1 * a.2 * b.2 = c.1 * b.2 * a.2 := by rw [Int.mul_assoc, Int.mul_comm a.2, ← Int.mul_assoc]
    omega
  exact Int.lt_of_mul_lt_mul_right e3 (by omega)
theorem ltQ_asym {a b : Fq} (h : ltQ a b = true) : ltQ b a = false := by
  unfold ltQ at *
  have h := of_decide_eq_true h
  apply decide_eq_false
  omega
theorem mem_pairs {n : Nat} {f : Nat → Nat → Bool} {i j : Nat} : (i, j) ∈ pairs n f ↔ i < n ∧ j < n ∧ f i j = true := by
  unfold pairs
  simp only [List.mem_flatMap, List.mem_range, List.mem_map, List.mem_filter, Prod.mk.injEq]
  constructor
  · rintro ⟨a, ha, b, ⟨hb, hf⟩, rfl, rfl⟩
    exact ⟨ha, hb, hf⟩
  · rintro ⟨ha, hb, hf⟩
    exact ⟨i, ha, j, ⟨hb, hf⟩, rfl, rfl⟩
def Tr (ps : List (Nat × Nat)) : Prop := ∀ i j k, (i, j) ∈ ps → (j, k) ∈ ps → (i, k) ∈ ps
theorem fall_tr {l : List Pl} (hl : OkB l) : Tr (pairs l.length (fallB l)) := fun i j k h1 h2 => by
  obtain ⟨hi, hj, h1⟩ := mem_pairs.mp h1
  obtain ⟨_, hk, h2⟩ := mem_pairs.mp h2
  refine mem_pairs.mpr ⟨hi, hk, ?_⟩
  unfold fallB at *
  simp only [Bool.and_eq_true, decide_eq_true_eq] at *
  have oi := hl.ok _ (lp_mem hi)
  have oj := hl.ok _ (lp_mem hj)
  have ok := hl.ok _ (lp_mem hk)
  refine ⟨by omega, ?_⟩
  have s1 : ltQ (lp l k).2 (lp l j).2 = true := ltQ_le ok.hi.pos oj.lo.pos oj.hi.pos h2.2 oj.le
  exact ltQ_le ok.hi.pos oj.hi.pos oi.lo.pos s1 (ltQ_asym h1.2)
theorem rise_tr {l : List Pl} (hl : OkB l) : Tr (pairs l.length (riseB l)) := fun i j k h1 h2 => by
  obtain ⟨hi, hj, h1⟩ := mem_pairs.mp h1
  obtain ⟨_, hk, h2⟩ := mem_pairs.mp h2
  refine mem_pairs.mpr ⟨hi, hk, ?_⟩
  unfold riseB at *
  simp only [Bool.and_eq_true, decide_eq_true_eq] at *
  have oi := hl.ok _ (lp_mem hi)
  have oj := hl.ok _ (lp_mem hj)
  have ok := hl.ok _ (lp_mem hk)
  refine ⟨by omega, ?_⟩
  have s1 : ltQ (lp l i).2 (lp l j).2 = true := ltQ_le oi.hi.pos oj.lo.pos oj.hi.pos h1.2 oj.le
  exact ltQ_le oi.hi.pos oj.hi.pos ok.lo.pos s1 (ltQ_asym h2.2)
theorem pairs_congr {n : Nat} {f g : Nat → Nat → Bool} (h : ∀ i < n, ∀ j < n, f i j = g i j) : pairs n f = pairs n g := by
  unfold pairs
  have e : ∀ i ∈ List.range n, ((List.range n).filter (f i)).map (fun j => (i, j)) = ((List.range n).filter (g i)).map fun j => (i, j) := fun i hi => by
    congr 1
    exact List.filter_congr fun j hj => h i (List.mem_range.mp hi) j (List.mem_range.mp hj)
  rw [List.flatMap_def, List.flatMap_def, List.map_congr_left e]
theorem lp_up {l : List Pl} {i : Nat} (h : i < l.length) : lp (l.map upP) i = upP (lp l i) := by
  simp [lp, h]
theorem fall_up (l : List Pl) : pairs (l.map upP).length (fallB (l.map upP)) = pairs l.length (riseB l) := by
  rw [List.length_map]
  refine pairs_congr fun i hi j hj => ?_
  unfold fallB riseB
  rw [lp_up hi, lp_up hj]
  show (decide (i < j) && ltQ (negQ (lp l j).1) (negQ (lp l i).2)) = _
  rw [ltQ_neg]
theorem rise_up (l : List Pl) : pairs (l.map upP).length (riseB (l.map upP)) = pairs l.length (fallB l) := by
  rw [List.length_map]
  refine pairs_congr fun i hi j hj => ?_
  unfold fallB riseB
  rw [lp_up hi, lp_up hj]
  show (decide (i < j) && ltQ (negQ (lp l i).1) (negQ (lp l j).2)) = _
  rw [ltQ_neg]
theorem okD_pr (n : Nat) (p : Nat × Nat) : okD (n + 1) (prD p) = true := by simp [prD, okD, okDs]
theorem okDs_pr (n : Nat) (ps : List (Nat × Nat)) : okDs (n + 1) (ps.map prD) = true := by
  induction ps with
  | nil => rfl
  | cons p ps ih => simp [okDs, okD_pr, ih]
theorem eqv_pr (p q : Nat × Nat) : eqv (prD p) (prD q) = decide (p = q) := by
  obtain ⟨a, b⟩ := p
  obtain ⟨c, d⟩ := q
  simp [prD, eqv, eqvs, Bool.beq_eq_decide_eq]
  congr 1 <;> (apply decide_eq_decide.mpr; omega)
theorem any_pr (ps : List (Nat × Nat)) (q : Nat × Nat) : ((ps.map prD).any fun z => eqv z (prD q)) = decide (q ∈ ps) := by
  induction ps with
  | nil => simp
  | cons p ps ih =>
    rw [List.map_cons, List.any_cons, ih, eqv_pr]
    by_cases h : p = q
    · simp [h]
    · have : ¬ q = p := fun e => h e.symm
      simp [h, this]
theorem in_pr (ps : List (Nat × Nat)) (q : Nat × Nat) : inR (prD q) (.lst (ps.map prD)) = .ok (decide (q ∈ ps)) := by
  rw [in_lst, any_pr, if_pos (by rw [show deep = 29 + 1 from rfl, okD_pr, okDs_pr]; rfl)]
theorem tr_comp (C : Cal) {ps : List (Nat × Nat)} (tr : Tr ps) {i j : Nat} (h : (i, j) ∈ ps) (x0 x1 x2 x3 x4 x5 x9 : SV) : compL (compF C [x0, x1, x2, x3, x4, x5, .fr (.lst (ps.map prD)), .fr (.int (i : Nat)), .fr (.int (j : Nat)), x9] (.nm 9) (.and (.cmp .eq (.idx (.var 9) (.int 0)) (.var 8)) (.cmp .notin (.tup [.var 7, .idx (.var 9) (.int 1)]) (.var 6))) (.var 9) [9]) (ps.map prD) = .ok [] := by
  have e : ([] : List D) = (ps.filter fun p => decide (p.1 = j) && !decide ((i, p.2) ∈ ps)).map prD := by
    have : (ps.filter fun p => decide (p.1 = j) && !decide ((i, p.2) ∈ ps)) = [] := by
      rw [List.filter_eq_nil_iff]
      intro p hp
      simp only [Bool.and_eq_true, decide_eq_true_eq, Bool.not_eq_true', decide_eq_false_iff_not, not_and, Classical.not_not]
      intro e
      subst e
      exact tr i p.1 p.2 h hp
    rw [this, List.map_nil]
  rw [e]
  refine compL_filter fun p hp => ?_
  have a0 : idxR (prD p) (.int 0) = .ok (.int (p.1 : Nat)) := eq_of_heq HEq.rfl
  have a1 : idxR (prD p) (.int 1) = .ok (.int (p.2 : Nat)) := eq_of_heq HEq.rfl
  have a2 : inR (.tup [.int (i : Nat), .int (p.2 : Nat)]) (.lst (ps.map prD)) = .ok (decide ((i, p.2) ∈ ps)) := in_pr ps (i, p.2)
  have ci : ((p.1 : Int) = (j : Int)) ↔ p.1 = j := by omega
  have cb : ((p.1 : Int) == (j : Int)) = decide (p.1 = j) := by
    rw [Bool.beq_eq_decide_eq]
    exact decide_eq_decide.mpr ci
  by_cases c1 : p.1 = j <;> by_cases c2 : (i, p.2) ∈ ps <;> simp [cF, a0, a1, a2, ci, cb, c1, c2, -in_lst]
theorem tr_step (C : Cal) {ps : List (Nat × Nat)} (tr : Tr ps) {i j : Nat} (h : (i, j) ∈ ps) (x0 x1 x2 x3 x4 x5 x9 : SV) : exs C [x0, x1, x2, x3, x4, x5, .fr (.lst (ps.map prD)), .fr (.int (i : Nat)), .fr (.int (j : Nat)), x9] law_v2_b4 = .nx [x0, x1, x2, x3, x4, x5, .fr (.lst (ps.map prD)), .fr (.int (i : Nat)), .fr (.int (j : Nat)), x9] := by
  have q := tr_comp C tr h x0 x1 x2 x3 x4 x5 x9
  have e1 : eqR (.lst []) (.lst []) = .ok true := eq_of_heq HEq.rfl
  have e2 : capL [] = .ok (.lst []) := capL_ok (by simp)
  simp [law_v2_b4, q, e1, e2]
end PF

namespace PF
open PySem
/-! the evaluator by frames: what waits is syntax, so that simp goes no further than the run -/
def bq (C : Cal) (ρ : Env) (e : E) : R D := brw ρ e (ev C ρ e)
def isV : E → Bool
  | .var _ => true
  | _ => false
@[simp] theorem bq_var (C : Cal) (ρ : Env) (i : Nat) : bq C ρ (.var i) = brS (ρ.get i) := br_var ρ i _
@[simp] theorem bq_noE (C : Cal) (ρ : Env) : bq C ρ .noE = .bad := by show brw ρ .noE (ev C ρ .noE) = _; rw [z_noE]; rfl
@[simp] theorem bq_int (C : Cal) (ρ : Env) (n : Int) : bq C ρ (.int n) = .ok (.int n) := by show brw ρ (.int n) _ = _; rw [br_int_, z_int]
@[simp] theorem bq_bl (C : Cal) (ρ : Env) (n : Bool) : bq C ρ (.bl n) = .ok (.bl n) := by show brw ρ (.bl n) _ = _; rw [br_bl_, z_bl]
@[simp] theorem bq_non (C : Cal) (ρ : Env) : bq C ρ .non = .ok .non := by show brw ρ .non _ = _; rw [br_non_, z_non]
@[simp] theorem bq_str (C : Cal) (ρ : Env) (s : Str) : bq C ρ (.str s) = .ok (.str s) := by show brw ρ (.str s) _ = _; rw [br_str_, z_str]
@[simp] theorem bq_tup (C : Cal) (ρ : Env) (es : List E) : bq C ρ (.tup es) = ev C ρ (.tup es) := br_tup_ ρ es _
@[simp] theorem bq_lst (C : Cal) (ρ : Env) (es : List E) : bq C ρ (.lst es) = ev C ρ (.lst es) := br_lst_ ρ es _
@[simp] theorem bq_bin (C : Cal) (ρ : Env) (o : BOp) (a b : E) : bq C ρ (.bin o a b) = ev C ρ (.bin o a b) := br_bin_ ρ o a b _
@[simp] theorem bq_neg (C : Cal) (ρ : Env) (a : E) : bq C ρ (.neg a) = ev C ρ (.neg a) := br_neg_ ρ a _
@[simp] theorem bq_not (C : Cal) (ρ : Env) (a : E) : bq C ρ (.not a) = ev C ρ (.not a) := br_not_ ρ a _
@[simp] theorem bq_and (C : Cal) (ρ : Env) (a b : E) : bq C ρ (.and a b) = ev C ρ (.and a b) := br_and_ ρ a b _
@[simp] theorem bq_or (C : Cal) (ρ : Env) (a b : E) : bq C ρ (.or a b) = ev C ρ (.or a b) := br_or_ ρ a b _
@[simp] theorem bq_cmp (C : Cal) (ρ : Env) (o : COp) (a b : E) : bq C ρ (.cmp o a b) = ev C ρ (.cmp o a b) := br_cmp_ ρ o a b _
@[simp] theorem bq_chain (C : Cal) (ρ : Env) (o o2 : COp) (a b c : E) : bq C ρ (.chain o o2 a b c) = ev C ρ (.chain o o2 a b c) := br_chain_ ρ o o2 a b c _
@[simp] theorem bq_ifx (C : Cal) (ρ : Env) (c a b : E) : bq C ρ (.ifx c a b) = ev C ρ (.ifx c a b) := br_ifx_ ρ c a b _
@[simp] theorem bq_idx (C : Cal) (ρ : Env) (a i : E) : bq C ρ (.idx a i) = ev C ρ (.idx a i) := br_idx_ ρ a i _
@[simp] theorem bq_slc (C : Cal) (ρ : Env) (a lo hi : E) : bq C ρ (.slc a lo hi) = ev C ρ (.slc a lo hi) := br_slc_ ρ a lo hi _
@[simp] theorem bq_rev (C : Cal) (ρ : Env) (a : E) : bq C ρ (.rev a) = ev C ρ (.rev a) := br_rev_ ρ a _
@[simp] theorem bq_stp (C : Cal) (ρ : Env) (a : E) (k : Nat) : bq C ρ (.stp a k) = ev C ρ (.stp a k) := br_stp_ ρ a k _
@[simp] theorem bq_call (C : Cal) (ρ : Env) (f : Nat) (es : List E) : bq C ρ (.call f es) = ev C ρ (.call f es) := br_call_ ρ f es _
@[simp] theorem bq_callv (C : Cal) (ρ : Env) (f : Nat) (es : List E) : bq C ρ (.callv f es) = ev C ρ (.callv f es) := br_callv_ ρ f es _
@[simp] theorem bq_fnv (C : Cal) (ρ : Env) (f : Nat) : bq C ρ (.fnv f) = .ok (.fn f) := by show brw ρ (.fnv f) _ = _; rw [br_fnv_, z_fnv]
@[simp] theorem bq_gl (C : Cal) (ρ : Env) (k : Nat) : bq C ρ (.gl k) = optR (C.con k) := by show brw ρ (.gl k) _ = _; rw [br_gl_, z_gl]
@[simp] theorem bq_blt (C : Cal) (ρ : Env) (b : Blt) (es : List E) : bq C ρ (.blt b es) = ev C ρ (.blt b es) := br_blt_ ρ b es _
@[simp] theorem bq_isi (C : Cal) (ρ : Env) (a : E) (cs : List Ty) : bq C ρ (.isi a cs) = ev C ρ (.isi a cs) := br_isi_ ρ a cs _
@[simp] theorem bq_comp (C : Cal) (ρ : Env) (t : Tg) (it cond elt : E) (ws : List Nat) : bq C ρ (.comp t it cond elt ws) = ev C ρ (.comp t it cond elt ws) := br_comp_ ρ t it cond elt ws _
@[simp] theorem bq_comp2 (C : Cal) (ρ : Env) (t : Tg) (it : E) (t2 : Tg) (it2 cond elt : E) (ws ws2 : List Nat) : bq C ρ (.comp2 t it t2 it2 cond elt ws ws2) = ev C ρ (.comp2 t it t2 it2 cond elt ws ws2) := br_comp2_ ρ t it t2 it2 cond elt ws ws2 _
@[simp] theorem bq_index (C : Cal) (ρ : Env) (a x : E) : bq C ρ (.index a x) = ev C ρ (.index a x) := br_index_ ρ a x _
@[simp] theorem optR_some {α : Type} (a : α) : optR (some a) = .ok a := eq_of_heq HEq.rfl
/-- tuples, lists -/
def kTup (r : R (List D)) : R D := r.bind fun ds => .ok (.tup ds)
def kLst (r : R (List D)) : R D := r.bind fun ds => .ok (.lst ds)
@[simp] theorem kTup_ok (ds : List D) : kTup (.ok ds) = .ok (.tup ds) := eq_of_heq HEq.rfl
@[simp] theorem kLst_ok (ds : List D) : kLst (.ok ds) = .ok (.lst ds) := eq_of_heq HEq.rfl
@[simp high] theorem y_tup (C : Cal) (ρ : Env) (es : List E) : ev C ρ (.tup es) = kTup (evs C ρ es) := z_tup C ρ es
@[simp high] theorem y_lst (C : Cal) (ρ : Env) (es : List E) : ev C ρ (.lst es) = kLst (evs C ρ es) := z_lst C ρ es
def kC2 (d : D) (r : R (List D)) : R (List D) := r.bind fun ds => .ok (d :: ds)
def kC1 (C : Cal) (ρ : Env) (es : List E) (r : R D) : R (List D) := r.bind fun d => kC2 d (evs C ρ es)
def kQ1 (C : Cal) (ρ : Env) (es : List E) (r : R D) : R (List D) := r.bind fun d => kC2 d (evqs C ρ es)
@[simp] theorem kC2_ok (d : D) (ds : List D) : kC2 d (.ok ds) = .ok (d :: ds) := eq_of_heq HEq.rfl
@[simp] theorem kC1_ok (C : Cal) (ρ : Env) (es : List E) (d : D) : kC1 C ρ es (.ok d) = kC2 d (evs C ρ es) := eq_of_heq HEq.rfl
@[simp] theorem kQ1_ok (C : Cal) (ρ : Env) (es : List E) (d : D) : kQ1 C ρ es (.ok d) = kC2 d (evqs C ρ es) := eq_of_heq HEq.rfl
@[simp] theorem kC2_exc (d : D) (k : Nat) (m : Int) : kC2 d (.exc k m) = .exc k m := eq_of_heq HEq.rfl
@[simp] theorem kC1_exc (C : Cal) (ρ : Env) (es : List E) (k : Nat) (m : Int) : kC1 C ρ es (.exc k m) = .exc k m := eq_of_heq HEq.rfl
@[simp] theorem kQ1_exc (C : Cal) (ρ : Env) (es : List E) (k : Nat) (m : Int) : kQ1 C ρ es (.exc k m) = .exc k m := eq_of_heq HEq.rfl
@[simp] theorem kTup_exc (k : Nat) (m : Int) : kTup (.exc k m) = .exc k m := eq_of_heq HEq.rfl
@[simp] theorem kLst_exc (k : Nat) (m : Int) : kLst (.exc k m) = .exc k m := eq_of_heq HEq.rfl
@[simp high] theorem y_evs (C : Cal) (ρ : Env) (e : E) (es : List E) : evs C ρ (e :: es) = kC1 C ρ es (ev C ρ e) := z_evs C ρ e es
@[simp high] theorem y_evqs (C : Cal) (ρ : Env) (e : E) (es : List E) : evqs C ρ (e :: es) = kQ1 C ρ es (bq C ρ e) := z_evqs C ρ e es
/-- operators -/
def kB2 (o : BOp) (x : D) (r : R D) : R D := r.bind (binR o x)
def kB1 (C : Cal) (ρ : Env) (o : BOp) (b : E) (r : R D) : R D := r.bind fun x => kB2 o x (bq C ρ b)
@[simp] theorem kB2_ok (o : BOp) (x y : D) : kB2 o x (.ok y) = binR o x y := eq_of_heq HEq.rfl
@[simp] theorem kB1_ok (C : Cal) (ρ : Env) (o : BOp) (b : E) (x : D) : kB1 C ρ o b (.ok x) = kB2 o x (bq C ρ b) := eq_of_heq HEq.rfl
@[simp] theorem kB2_exc (o : BOp) (x : D) (k : Nat) (m : Int) : kB2 o x (.exc k m) = .exc k m := eq_of_heq HEq.rfl
@[simp] theorem kB1_exc (C : Cal) (ρ : Env) (o : BOp) (b : E) (k : Nat) (m : Int) : kB1 C ρ o b (.exc k m) = .exc k m := eq_of_heq HEq.rfl
@[simp high] theorem y_bin (C : Cal) (ρ : Env) (o : BOp) (a b : E) : ev C ρ (.bin o a b) = kB1 C ρ o b (bq C ρ a) := z_bin C ρ o a b
def kBl (r : R Bool) : R D := r.bind fun c => .ok (.bl c)
@[simp] theorem kBl_ok (c : Bool) : kBl (.ok c) = .ok (.bl c) := eq_of_heq HEq.rfl
def kP2 (o : COp) (x : D) (r : R D) : R D := r.bind fun y => kBl (cmpR o x y)
def kP1 (C : Cal) (ρ : Env) (o : COp) (b : E) (r : R D) : R D := r.bind fun x => kP2 o x (bq C ρ b)
@[simp] theorem kP2_ok (o : COp) (x y : D) : kP2 o x (.ok y) = kBl (cmpR o x y) := eq_of_heq HEq.rfl
@[simp] theorem kP1_ok (C : Cal) (ρ : Env) (o : COp) (b : E) (x : D) : kP1 C ρ o b (.ok x) = kP2 o x (bq C ρ b) := eq_of_heq HEq.rfl
@[simp] theorem kP2_exc (o : COp) (x : D) (k : Nat) (m : Int) : kP2 o x (.exc k m) = .exc k m := eq_of_heq HEq.rfl
@[simp] theorem kP1_exc (C : Cal) (ρ : Env) (o : COp) (b : E) (k : Nat) (m : Int) : kP1 C ρ o b (.exc k m) = .exc k m := eq_of_heq HEq.rfl
@[simp high] theorem y_cmp (C : Cal) (ρ : Env) (o : COp) (a b : E) : ev C ρ (.cmp o a b) = kP1 C ρ o b (bq C ρ a) := z_cmp C ρ o a b
def kH4 (r : R D) (o : COp) (y : D) : R D := r.bind fun z => kBl (cmpR o y z)
def kH3 (C : Cal) (ρ : Env) (o : COp) (c : E) (y : D) (r : R Bool) : R D := r.bind fun k => if k = true then kH4 (bq C ρ c) o y else .ok (.bl false)
def kH2 (C : Cal) (ρ : Env) (o o' : COp) (c : E) (x : D) (r : R D) : R D := r.bind fun y => kH3 C ρ o' c y (cmpR o x y)
def kH1 (C : Cal) (ρ : Env) (o o' : COp) (b c : E) (r : R D) : R D := r.bind fun x => kH2 C ρ o o' c x (bq C ρ b)
@[simp] theorem kH4_ok (z : D) (o : COp) (y : D) : kH4 (.ok z) o y = kBl (cmpR o y z) := eq_of_heq HEq.rfl
@[simp] theorem kH3_ok (C : Cal) (ρ : Env) (o : COp) (c : E) (y : D) (k : Bool) : kH3 C ρ o c y (.ok k) = if k = true then kH4 (bq C ρ c) o y else .ok (.bl false) := eq_of_heq HEq.rfl
@[simp] theorem kH2_ok (C : Cal) (ρ : Env) (o o' : COp) (c : E) (x y : D) : kH2 C ρ o o' c x (.ok y) = kH3 C ρ o' c y (cmpR o x y) := eq_of_heq HEq.rfl
@[simp] theorem kH1_ok (C : Cal) (ρ : Env) (o o' : COp) (b c : E) (x : D) : kH1 C ρ o o' b c (.ok x) = kH2 C ρ o o' c x (bq C ρ b) := eq_of_heq HEq.rfl
@[simp high] theorem y_chain (C : Cal) (ρ : Env) (o o' : COp) (a b c : E) : ev C ρ (.chain o o' a b c) = kH1 C ρ o o' b c (bq C ρ a) := z_chain C ρ o o' a b c
@[simp high] theorem y_neg (C : Cal) (ρ : Env) (a : E) : ev C ρ (.neg a) = (ev C ρ a).bind negR := z_neg C ρ a
def kNo (r : R Bool) : R D := r.bind fun b => .ok (.bl !b)
@[simp] theorem kNo_ok (b : Bool) : kNo (.ok b) = .ok (.bl !b) := eq_of_heq HEq.rfl
@[simp] theorem kNo_exc (k : Nat) (m : Int) : kNo (.exc k m) = .exc k m := eq_of_heq HEq.rfl
@[simp high] theorem y_not (C : Cal) (ρ : Env) (a : E) : ev C ρ (.not a) = kNo ((bq C ρ a).bind truth) := z_not C ρ a
def kA2 (C : Cal) (ρ : Env) (b : E) (x : D) (r : R Bool) : R D := r.bind fun c => if c = true then ev C ρ b else .ok x
def kA1 (C : Cal) (ρ : Env) (b : E) (r : R D) : R D := r.bind fun x => kA2 C ρ b x (truth x)
@[simp] theorem kA2_ok (C : Cal) (ρ : Env) (b : E) (x : D) (c : Bool) : kA2 C ρ b x (.ok c) = if c = true then ev C ρ b else .ok x := eq_of_heq HEq.rfl
@[simp] theorem kA1_ok (C : Cal) (ρ : Env) (b : E) (x : D) : kA1 C ρ b (.ok x) = kA2 C ρ b x (truth x) := eq_of_heq HEq.rfl
@[simp] theorem kA1_exc (C : Cal) (ρ : Env) (b : E) (k : Nat) (m : Int) : kA1 C ρ b (.exc k m) = .exc k m := eq_of_heq HEq.rfl
@[simp high] theorem y_and (C : Cal) (ρ : Env) (a b : E) : ev C ρ (.and a b) = kA1 C ρ b (ev C ρ a) := z_and C ρ a b
def kO2 (C : Cal) (ρ : Env) (b : E) (x : D) (r : R Bool) : R D := r.bind fun c => if c = true then .ok x else ev C ρ b
def kO1 (C : Cal) (ρ : Env) (b : E) (r : R D) : R D := r.bind fun x => kO2 C ρ b x (truth x)
@[simp] theorem kO2_ok (C : Cal) (ρ : Env) (b : E) (x : D) (c : Bool) : kO2 C ρ b x (.ok c) = if c = true then .ok x else ev C ρ b := eq_of_heq HEq.rfl
@[simp] theorem kO1_ok (C : Cal) (ρ : Env) (b : E) (x : D) : kO1 C ρ b (.ok x) = kO2 C ρ b x (truth x) := eq_of_heq HEq.rfl
@[simp] theorem kO1_exc (C : Cal) (ρ : Env) (b : E) (k : Nat) (m : Int) : kO1 C ρ b (.exc k m) = .exc k m := eq_of_heq HEq.rfl
@[simp high] theorem y_or (C : Cal) (ρ : Env) (a b : E) : ev C ρ (.or a b) = kO1 C ρ b (ev C ρ a) := z_or C ρ a b
def kI1 (C : Cal) (ρ : Env) (a b : E) (r : R Bool) : R D := r.bind fun c => if c = true then ev C ρ a else ev C ρ b
@[simp] theorem kI1_ok (C : Cal) (ρ : Env) (a b : E) (c : Bool) : kI1 C ρ a b (.ok c) = if c = true then ev C ρ a else ev C ρ b := eq_of_heq HEq.rfl
@[simp high] theorem y_ifx (C : Cal) (ρ : Env) (c a b : E) : ev C ρ (.ifx c a b) = kI1 C ρ a b ((bq C ρ c).bind truth) := z_ifx C ρ c a b
def kX2 (x : D) (r : R D) : R D := r.bind (idxR x)
def kX1 (C : Cal) (ρ : Env) (i : E) (r : R D) : R D := r.bind fun x => kX2 x (ev C ρ i)
@[simp] theorem kX2_ok (x y : D) : kX2 x (.ok y) = idxR x y := eq_of_heq HEq.rfl
@[simp] theorem kX1_ok (C : Cal) (ρ : Env) (i : E) (x : D) : kX1 C ρ i (.ok x) = kX2 x (ev C ρ i) := eq_of_heq HEq.rfl
@[simp] theorem kX1_exc (C : Cal) (ρ : Env) (i : E) (k : Nat) (m : Int) : kX1 C ρ i (.exc k m) = .exc k m := eq_of_heq HEq.rfl
@[simp high] theorem y_idx (C : Cal) (ρ : Env) (a i : E) : ev C ρ (.idx a i) = kX1 C ρ i (bq C ρ a) := z_idx C ρ a i
def oE (C : Cal) (ρ : Env) (e : E) : R (Option Int) := optI e (ev C ρ e)
def toI : D → R (Option Int)
  | .int i => .ok (some i)
  | _ => .bad
@[simp] theorem toI_int (i : Int) : toI (.int i) = .ok (some i) := eq_of_heq HEq.rfl
@[simp high] theorem oE_no (C : Cal) (ρ : Env) : oE C ρ .noE = .ok none := eq_of_heq HEq.rfl
def isNo : E → Bool
  | .noE => true
  | _ => false
theorem oE_some (C : Cal) (ρ : Env) {e : E} (h : isNo e = false) : oE C ρ e = (ev C ρ e).bind toI := by
  cases e <;> first | (exact absurd h (by decide)) | rfl
@[simp] theorem oE_var (C : Cal) (ρ : Env) (i : Nat) : oE C ρ (.var i) = (ev C ρ (.var i)).bind toI := oE_some C ρ rfl
@[simp] theorem oE_int (C : Cal) (ρ : Env) (i : Int) : oE C ρ (.int i) = .ok (some i) := by rw [oE_some C ρ rfl, z_int]; rfl
@[simp] theorem oE_bin (C : Cal) (ρ : Env) (o : BOp) (a b : E) : oE C ρ (.bin o a b) = (ev C ρ (.bin o a b)).bind toI := oE_some C ρ rfl
@[simp] theorem oE_neg (C : Cal) (ρ : Env) (a : E) : oE C ρ (.neg a) = (ev C ρ (.neg a)).bind toI := oE_some C ρ rfl
@[simp] theorem oE_idx (C : Cal) (ρ : Env) (a b : E) : oE C ρ (.idx a b) = (ev C ρ (.idx a b)).bind toI := oE_some C ρ rfl
@[simp] theorem oE_blt (C : Cal) (ρ : Env) (b : Blt) (es : List E) : oE C ρ (.blt b es) = (ev C ρ (.blt b es)).bind toI := oE_some C ρ rfl
@[simp] theorem oE_call (C : Cal) (ρ : Env) (b : Nat) (es : List E) : oE C ρ (.call b es) = (ev C ρ (.call b es)).bind toI := oE_some C ρ rfl
def kS3 (x : D) (l : Option Int) (r : R (Option Int)) : R D := r.bind (slcR x l)
def kS2 (C : Cal) (ρ : Env) (hi : E) (x : D) (r : R (Option Int)) : R D := r.bind fun l => kS3 x l (oE C ρ hi)
def kS1 (C : Cal) (ρ : Env) (lo hi : E) (r : R D) : R D := r.bind fun x => kS2 C ρ hi x (oE C ρ lo)
@[simp] theorem kS3_ok (x : D) (l h : Option Int) : kS3 x l (.ok h) = slcR x l h := eq_of_heq HEq.rfl
@[simp] theorem kS2_ok (C : Cal) (ρ : Env) (hi : E) (x : D) (l : Option Int) : kS2 C ρ hi x (.ok l) = kS3 x l (oE C ρ hi) := eq_of_heq HEq.rfl
@[simp] theorem kS1_ok (C : Cal) (ρ : Env) (lo hi : E) (x : D) : kS1 C ρ lo hi (.ok x) = kS2 C ρ hi x (oE C ρ lo) := eq_of_heq HEq.rfl
@[simp high] theorem y_slc (C : Cal) (ρ : Env) (a lo hi : E) : ev C ρ (.slc a lo hi) = kS1 C ρ lo hi (bq C ρ a) := z_slc C ρ a lo hi
@[simp high] theorem y_rev (C : Cal) (ρ : Env) (a : E) : ev C ρ (.rev a) = (bq C ρ a).bind revR := by rw [ev]; rfl
@[simp high] theorem y_stp (C : Cal) (ρ : Env) (a : E) (k : Nat) : ev C ρ (.stp a k) = (bq C ρ a).bind (stpR k) := by rw [ev]; rfl
@[simp] theorem st_lst (k : Nat) (ds : List D) : stpR k (.lst ds) = .ok (.lst (stpL k ds)) := eq_of_heq HEq.rfl
@[simp] theorem rv_tup (ds : List D) : revR (.tup ds) = .ok (.tup ds.reverse) := eq_of_heq HEq.rfl
@[simp] theorem rv_lst (ds : List D) : revR (.lst ds) = .ok (.lst ds.reverse) := eq_of_heq HEq.rfl
def kCl (C : Cal) (f : Nat) (r : R (List D)) : R D := r.bind (C.call f)
@[simp] theorem kCl_ok (g : Nat → List D → R D) (c : Nat → Option D) (f : Nat) (ds : List D) : kCl ⟨g, c⟩ f (.ok ds) = g f ds := eq_of_heq HEq.rfl
@[simp] theorem kCl_exc (C : Cal) (f : Nat) (k : Nat) (m : Int) : kCl C f (.exc k m) = .exc k m := eq_of_heq HEq.rfl
@[simp high] theorem y_call (C : Cal) (ρ : Env) (f : Nat) (es : List E) : ev C ρ (.call f es) = kCl C f (evs C ρ es) := z_call C ρ f es
def kCv (C : Cal) (ρ : Env) (es : List E) : SV → R D
  | .fr (.fn f) => kCl C f (evs C ρ es)
  | _ => .bad
@[simp] theorem kCv_ok (C : Cal) (ρ : Env) (es : List E) (f : Nat) : kCv C ρ es (.fr (.fn f)) = kCl C f (evs C ρ es) := eq_of_heq HEq.rfl
@[simp high] theorem y_callv (C : Cal) (ρ : Env) (i : Nat) (es : List E) : ev C ρ (.callv i es) = kCv C ρ es (ρ.get i) := by
  rw [z_callv]
  cases ρ.get i with
  | fr d => cases d <;> rfl
  | _ => rfl
def kBt (b : Blt) (r : R (List D)) : R D := r.bind fun ds => (bltR b ds).calm
@[simp] theorem kBt_ok (b : Blt) (ds : List D) : kBt b (.ok ds) = (bltR b ds).calm := eq_of_heq HEq.rfl
@[simp] theorem kBt_exc (b : Blt) (k : Nat) (m : Int) : kBt b (.exc k m) = .exc k m := eq_of_heq HEq.rfl
@[simp high] theorem y_blt (C : Cal) (ρ : Env) (b : Blt) (es : List E) : ev C ρ (.blt b es) = kBt b (if itB b = true then evs C ρ es else evqs C ρ es) := by
  rw [z_blt]
  split <;> rfl
def kTy (cs : List Ty) (r : R D) : R D := r.bind fun x => kBl (isTs x cs)
@[simp] theorem kTy_ok (cs : List Ty) (x : D) : kTy cs (.ok x) = kBl (isTs x cs) := eq_of_heq HEq.rfl
@[simp high] theorem y_isi (C : Cal) (ρ : Env) (a : E) (cs : List Ty) : ev C ρ (.isi a cs) = kTy cs (bq C ρ a) := z_isi C ρ a cs
@[simp] theorem ts_0 (d : D) : isTs d [] = .ok false := eq_of_heq HEq.rfl
def kOr2 (b : Bool) (r : R Bool) : R Bool := r.bind fun c => .ok (b || c)
def kOr1 (d : D) (ts : List Ty) (r : R Bool) : R Bool := r.bind fun b => kOr2 b (isTs d ts)
@[simp] theorem kOr2_ok (b c : Bool) : kOr2 b (.ok c) = .ok (b || c) := eq_of_heq HEq.rfl
@[simp] theorem kOr1_ok (d : D) (ts : List Ty) (b : Bool) : kOr1 d ts (.ok b) = kOr2 b (isTs d ts) := eq_of_heq HEq.rfl
@[simp] theorem ts_c (d : D) (t : Ty) (ts : List Ty) : isTs d (t :: ts) = kOr1 d ts (isT d t) := eq_of_heq HEq.rfl
@[simp] theorem ty_non (t : Ty) : isT .non t = .ok false := by cases t <;> rfl
@[simp] theorem ty_bi (b : Bool) : isT (.bl b) .int = .ok true := eq_of_heq HEq.rfl
@[simp] theorem ty_bb (b : Bool) : isT (.bl b) .bool = .ok true := eq_of_heq HEq.rfl
@[simp] theorem ty_bs (b : Bool) : isT (.bl b) .str = .ok false := eq_of_heq HEq.rfl
@[simp] theorem ty_bt (b : Bool) : isT (.bl b) .tuple = .ok false := eq_of_heq HEq.rfl
@[simp] theorem ty_bl (b : Bool) : isT (.bl b) .list = .ok false := eq_of_heq HEq.rfl
@[simp] theorem ty_ii (i : Int) : isT (.int i) .int = .ok true := eq_of_heq HEq.rfl
@[simp] theorem ty_ib (i : Int) : isT (.int i) .bool = .ok false := eq_of_heq HEq.rfl
@[simp] theorem ty_is (i : Int) : isT (.int i) .str = .ok false := eq_of_heq HEq.rfl
@[simp] theorem ty_it (i : Int) : isT (.int i) .tuple = .ok false := eq_of_heq HEq.rfl
@[simp] theorem ty_il (i : Int) : isT (.int i) .list = .ok false := eq_of_heq HEq.rfl
@[simp] theorem ty_si (s : Str) : isT (.str s) .int = .ok false := eq_of_heq HEq.rfl
@[simp] theorem ty_sb (s : Str) : isT (.str s) .bool = .ok false := eq_of_heq HEq.rfl
@[simp] theorem ty_ss (s : Str) : isT (.str s) .str = .ok true := eq_of_heq HEq.rfl
@[simp] theorem ty_st (s : Str) : isT (.str s) .tuple = .ok false := eq_of_heq HEq.rfl
@[simp] theorem ty_sl (s : Str) : isT (.str s) .list = .ok false := eq_of_heq HEq.rfl
@[simp] theorem ty_ti (s : List D) : isT (.tup s) .int = .ok false := eq_of_heq HEq.rfl
@[simp] theorem ty_tb (s : List D) : isT (.tup s) .bool = .ok false := eq_of_heq HEq.rfl
@[simp] theorem ty_ts (s : List D) : isT (.tup s) .str = .ok false := eq_of_heq HEq.rfl
@[simp] theorem ty_tt (s : List D) : isT (.tup s) .tuple = .ok true := eq_of_heq HEq.rfl
@[simp] theorem ty_tl (s : List D) : isT (.tup s) .list = .ok false := eq_of_heq HEq.rfl
@[simp] theorem ty_li (s : List D) : isT (.lst s) .int = .ok false := eq_of_heq HEq.rfl
@[simp] theorem ty_lb (s : List D) : isT (.lst s) .bool = .ok false := eq_of_heq HEq.rfl
@[simp] theorem ty_ls (s : List D) : isT (.lst s) .str = .ok false := eq_of_heq HEq.rfl
@[simp] theorem ty_lt (s : List D) : isT (.lst s) .tuple = .ok false := eq_of_heq HEq.rfl
@[simp] theorem ty_ll (s : List D) : isT (.lst s) .list = .ok true := eq_of_heq HEq.rfl
def kCm (C : Cal) (ρ : Env) (t : Tg) (cond elt : E) (ws : List Nat) (r : R (List D)) : R D := r.bind fun ds => (compL (compF C ρ t cond elt ws) ds).bind capL
@[simp] theorem kCm_ok (C : Cal) (ρ : Env) (t : Tg) (cond elt : E) (ws : List Nat) (ds : List D) : kCm C ρ t cond elt ws (.ok ds) = (compL (compF C ρ t cond elt ws) ds).bind capL := eq_of_heq HEq.rfl
@[simp high] theorem y_comp (C : Cal) (ρ : Env) (t : Tg) (it cond elt : E) (ws : List Nat) : ev C ρ (.comp t it cond elt ws) = kCm C ρ t cond elt ws ((bq C ρ it).bind itemsR) := z_comp C ρ t it cond elt ws
def kCn (C : Cal) (ρ : Env) (t t2 : Tg) (it2 cond elt : E) (ws ws2 : List Nat) (r : R (List D)) : R D := r.bind fun ds => (compL (compF2 C ρ t t2 it2 cond elt ws ws2) ds).bind capL
@[simp] theorem kCn_ok (C : Cal) (ρ : Env) (t t2 : Tg) (it2 cond elt : E) (ws ws2 : List Nat) (ds : List D) : kCn C ρ t t2 it2 cond elt ws ws2 (.ok ds) = (compL (compF2 C ρ t t2 it2 cond elt ws ws2) ds).bind capL := eq_of_heq HEq.rfl
@[simp high] theorem y_comp2 (C : Cal) (ρ : Env) (t : Tg) (it : E) (t2 : Tg) (it2 cond elt : E) (ws ws2 : List Nat) : ev C ρ (.comp2 t it t2 it2 cond elt ws ws2) = kCn C ρ t t2 it2 cond elt ws ws2 ((bq C ρ it).bind itemsR) := z_comp2 C ρ t it t2 it2 cond elt ws ws2
def kOne (r : R D) : R (List D) := r.bind fun x => .ok [x]
@[simp] theorem kOne_ok (x : D) : kOne (.ok x) = .ok [x] := eq_of_heq HEq.rfl
def kCd (C : Cal) (ρ : Env) (elt : E) (r : R Bool) : R (List D) := r.bind fun k => if k = true then kOne (ev C ρ elt) else .ok []
@[simp] theorem kCd_ok (C : Cal) (ρ : Env) (elt : E) (k : Bool) : kCd C ρ elt (.ok k) = if k = true then kOne (ev C ρ elt) else .ok [] := eq_of_heq HEq.rfl
def kEl (C : Cal) (cond elt : E) (ρ : Env) : R (List D) := condL cond ((brw ρ cond (ev C ρ cond)).bind truth) (ev C ρ elt)
theorem kEl_no (C : Cal) (elt : E) (ρ : Env) : kEl C .noE elt ρ = kOne (ev C ρ elt) := eq_of_heq HEq.rfl
theorem kEl_c (C : Cal) {cond : E} (elt : E) (ρ : Env) (h : isNo cond = false) : kEl C cond elt ρ = kCd C ρ elt ((bq C ρ cond).bind truth) := by
  cases cond <;> first | (exact absurd h (by decide)) | rfl
@[simp] theorem kEl_0 (C : Cal) (elt : E) (ρ : Env) : kEl C .noE elt ρ = kOne (ev C ρ elt) := kEl_no C elt ρ
@[simp] theorem kEl_var (C : Cal) (i : Nat) (elt : E) (ρ : Env) : kEl C (.var i) elt ρ = kCd C ρ elt ((bq C ρ (.var i)).bind truth) := kEl_c C elt ρ rfl
@[simp] theorem kEl_not (C : Cal) (a : E) (elt : E) (ρ : Env) : kEl C (.not a) elt ρ = kCd C ρ elt ((bq C ρ (.not a)).bind truth) := kEl_c C elt ρ rfl
@[simp] theorem kEl_and (C : Cal) (a b : E) (elt : E) (ρ : Env) : kEl C (.and a b) elt ρ = kCd C ρ elt ((bq C ρ (.and a b)).bind truth) := kEl_c C elt ρ rfl
@[simp] theorem kEl_or (C : Cal) (a b : E) (elt : E) (ρ : Env) : kEl C (.or a b) elt ρ = kCd C ρ elt ((bq C ρ (.or a b)).bind truth) := kEl_c C elt ρ rfl
@[simp] theorem kEl_cmp (C : Cal) (o : COp) (a b : E) (elt : E) (ρ : Env) : kEl C (.cmp o a b) elt ρ = kCd C ρ elt ((bq C ρ (.cmp o a b)).bind truth) := kEl_c C elt ρ rfl
@[simp] theorem kEl_chain (C : Cal) (o o' : COp) (a b c : E) (elt : E) (ρ : Env) : kEl C (.chain o o' a b c) elt ρ = kCd C ρ elt ((bq C ρ (.chain o o' a b c)).bind truth) := kEl_c C elt ρ rfl
@[simp] theorem kEl_idx (C : Cal) (a b : E) (elt : E) (ρ : Env) : kEl C (.idx a b) elt ρ = kCd C ρ elt ((bq C ρ (.idx a b)).bind truth) := kEl_c C elt ρ rfl
@[simp] theorem kEl_call (C : Cal) (f : Nat) (es : List E) (elt : E) (ρ : Env) : kEl C (.call f es) elt ρ = kCd C ρ elt ((bq C ρ (.call f es)).bind truth) := kEl_c C elt ρ rfl
@[simp] theorem kEl_blt (C : Cal) (f : Blt) (es : List E) (elt : E) (ρ : Env) : kEl C (.blt f es) elt ρ = kCd C ρ elt ((bq C ρ (.blt f es)).bind truth) := kEl_c C elt ρ rfl
@[simp] theorem kEl_isi (C : Cal) (a : E) (cs : List Ty) (elt : E) (ρ : Env) : kEl C (.isi a cs) elt ρ = kCd C ρ elt ((bq C ρ (.isi a cs)).bind truth) := kEl_c C elt ρ rfl
@[simp] theorem kEl_ifx (C : Cal) (a b c : E) (elt : E) (ρ : Env) : kEl C (.ifx a b c) elt ρ = kCd C ρ elt ((bq C ρ (.ifx a b c)).bind truth) := kEl_c C elt ρ rfl
theorem yF (C : Cal) (ρ : Env) (t : Tg) (cond elt : E) (ws : List Nat) (d : D) : compF C ρ t cond elt ws d = ((asg t d (wipeE ρ ws)).bind (kEl C cond elt)).calm := eq_of_heq HEq.rfl
def kF2 (C : Cal) (t2 : Tg) (cond elt : E) (ws2 : List Nat) (ρ1 : Env) (d2 : D) : R (List D) := (asg t2 d2 (wipeE ρ1 ws2)).bind (kEl C cond elt)
theorem kF2_eq (C : Cal) (t2 : Tg) (cond elt : E) (ws2 : List Nat) (ρ1 : Env) (d2 : D) : kF2 C t2 cond elt ws2 ρ1 d2 = (asg t2 d2 (wipeE ρ1 ws2)).bind (kEl C cond elt) := eq_of_heq HEq.rfl
def kCp (C : Cal) (t2 : Tg) (cond elt : E) (ws2 : List Nat) (ρ1 : Env) (r : R (List D)) : R (List D) := r.bind (compL (kF2 C t2 cond elt ws2 ρ1))
@[simp] theorem kCp_ok (C : Cal) (t2 : Tg) (cond elt : E) (ws2 : List Nat) (ρ1 : Env) (ds : List D) : kCp C t2 cond elt ws2 ρ1 (.ok ds) = compL (kF2 C t2 cond elt ws2 ρ1) ds := eq_of_heq HEq.rfl
def kE2 (C : Cal) (t2 : Tg) (it2 cond elt : E) (ws2 : List Nat) (ρ1 : Env) : R (List D) := kCp C t2 cond elt ws2 ρ1 ((ev C ρ1 it2).bind itemsR)
@[simp] theorem kE2_eq (C : Cal) (t2 : Tg) (it2 cond elt : E) (ws2 : List Nat) (ρ1 : Env) : kE2 C t2 it2 cond elt ws2 ρ1 = kCp C t2 cond elt ws2 ρ1 ((ev C ρ1 it2).bind itemsR) := eq_of_heq HEq.rfl
theorem yF2 (C : Cal) (ρ : Env) (t t2 : Tg) (it2 cond elt : E) (ws ws2 : List Nat) (d : D) : compF2 C ρ t t2 it2 cond elt ws ws2 d = ((asg t d (wipeE ρ ws)).bind (kE2 C t2 it2 cond elt ws2)).calm := eq_of_heq HEq.rfl
def kN2 (s : D) (r : R D) : R D := r.bind fun y => match s with
    | .lst ds => if okD deep y && okDs deep ds then (idxOf y 0 ds).bind fun n => .ok (.int (n : Nat)) else .bad
    | _ => .bad
def kN1 (C : Cal) (ρ : Env) (x : E) (r : R D) : R D := r.bind fun s => kN2 s (ev C ρ x)
@[simp] theorem kN1_ok (C : Cal) (ρ : Env) (x : E) (s : D) : kN1 C ρ x (.ok s) = kN2 s (ev C ρ x) := eq_of_heq HEq.rfl
@[simp] theorem kN2_ok (ds : List D) (y : D) : kN2 (.lst ds) (.ok y) = if okD deep y && okDs deep ds then (idxOf y 0 ds).bind fun n => .ok (.int (n : Nat)) else .bad := eq_of_heq HEq.rfl
@[simp high] theorem y_index (C : Cal) (ρ : Env) (a x : E) : ev C ρ (.index a x) = kN1 C ρ x (bq C ρ a) := by rw [ev]; rfl
/-! statements -/
def thn (C : Cal) (ss : List S) : O → O
  | .nx ρ => exs C ρ ss
  | o => o
@[simp] theorem thn_nx (C : Cal) (ss : List S) (ρ : Env) : thn C ss (.nx ρ) = exs C ρ ss := eq_of_heq HEq.rfl
@[simp] theorem thn_rt (C : Cal) (ss : List S) (d : D) : thn C ss (.rt d) = .rt d := eq_of_heq HEq.rfl
@[simp] theorem thn_ct (C : Cal) (ss : List S) (ρ : Env) : thn C ss (.ct ρ) = .ct ρ := eq_of_heq HEq.rfl
@[simp] theorem thn_bk (C : Cal) (ss : List S) (ρ : Env) : thn C ss (.bk ρ) = .bk ρ := eq_of_heq HEq.rfl
@[simp] theorem thn_exc (C : Cal) (ss : List S) (k : Nat) (m : Int) : thn C ss (.exc k m) = .exc k m := eq_of_heq HEq.rfl
@[simp high] theorem y_exs (C : Cal) (ρ : Env) (s : S) (ss : List S) : exs C ρ (s :: ss) = thn C ss (exS C ρ s) := by
  rw [z_exs]
  cases exS C ρ s <;> rfl
def qzSet (ρ : Env) (i : Nat) (r : R D) : O := r.o fun d => .nx (ρ.set i (.fr d))
@[simp] theorem qzSet_ok (ρ : Env) (i : Nat) (d : D) : qzSet ρ i (.ok d) = .nx (ρ.set i (.fr d)) := eq_of_heq HEq.rfl
@[simp] theorem qzSet_exc (ρ : Env) (i k : Nat) (m : Int) : qzSet ρ i (.exc k m) = .exc k m := eq_of_heq HEq.rfl
@[simp high] theorem y_set (C : Cal) (ρ : Env) (i : Nat) (e : E) : exS C ρ (.set i e) = qzSet ρ i (ev C ρ e) := z_set C ρ i e
def qzOwn (ρ : Env) (i : Nat) (r : R (List D)) : O := r.o fun ds => .nx (ρ.set i (.own ds))
@[simp] theorem qzOwn_ok (ρ : Env) (i : Nat) (ds : List D) : qzOwn ρ i (.ok ds) = .nx (ρ.set i (.own ds)) := eq_of_heq HEq.rfl
@[simp high] theorem y_own (C : Cal) (ρ : Env) (i : Nat) (e : E) : exS C ρ (.own i e) = qzOwn ρ i ((ev C ρ e).bind lstR) := z_own C ρ i e
def qzNx (r : R Env) : O := r.o .nx
@[simp] theorem qzNx_ok (ρ : Env) : qzNx (.ok ρ) = .nx ρ := eq_of_heq HEq.rfl
def qzUnp (t : Tg) (ρ : Env) (r : R D) : O := r.o fun d => qzNx (asg t d ρ)
@[simp] theorem qzUnp_ok (t : Tg) (ρ : Env) (d : D) : qzUnp t ρ (.ok d) = qzNx (asg t d ρ) := eq_of_heq HEq.rfl
@[simp] theorem qzUnp_exc (t : Tg) (ρ : Env) (k : Nat) (m : Int) : qzUnp t ρ (.exc k m) = .exc k m := eq_of_heq HEq.rfl
@[simp high] theorem y_unp (C : Cal) (ρ : Env) (t : Tg) (e : E) : exS C ρ (.unp t e) = qzUnp t ρ (ev C ρ e) := z_unp C ρ t e
def qzP2 (ρ : Env) (i j : Nat) (x : D) (r : R D) : O := r.o fun y => .nx ((ρ.set i (.fr x)).set j (.fr y))
def qzP1 (C : Cal) (ρ : Env) (i j : Nat) (b : E) (r : R D) : O := r.o fun x => qzP2 ρ i j x (ev C ρ b)
@[simp] theorem qzP2_ok (ρ : Env) (i j : Nat) (x y : D) : qzP2 ρ i j x (.ok y) = .nx ((ρ.set i (.fr x)).set j (.fr y)) := eq_of_heq HEq.rfl
@[simp] theorem qzP1_ok (C : Cal) (ρ : Env) (i j : Nat) (b : E) (x : D) : qzP1 C ρ i j b (.ok x) = qzP2 ρ i j x (ev C ρ b) := eq_of_heq HEq.rfl
@[simp high] theorem y_par (C : Cal) (ρ : Env) (i j : Nat) (a b : E) : exS C ρ (.par i j a b) = qzP1 C ρ i j b (ev C ρ a) := z_par C ρ i j a b
def qzExp (ρ : Env) (r : R D) : O := r.o fun _ => .nx ρ
@[simp] theorem qzExp_ok (ρ : Env) (d : D) : qzExp ρ (.ok d) = .nx ρ := eq_of_heq HEq.rfl
@[simp] theorem qzExp_exc (ρ : Env) (k : Nat) (m : Int) : qzExp ρ (.exc k m) = .exc k m := eq_of_heq HEq.rfl
@[simp high] theorem y_exp (C : Cal) (ρ : Env) (e : E) : exS C ρ (.exp e) = qzExp ρ (ev C ρ e) := z_exp C ρ e
def qzRet (r : R D) : O := r.o .rt
@[simp] theorem qzRet_ok (d : D) : qzRet (.ok d) = .rt d := eq_of_heq HEq.rfl
@[simp] theorem qzRet_exc (k : Nat) (m : Int) : qzRet (.exc k m) = .exc k m := eq_of_heq HEq.rfl
@[simp high] theorem y_ret (C : Cal) (ρ : Env) (e : E) : exS C ρ (.ret e) = qzRet (ev C ρ e) := z_ret C ρ e
def qzIte (C : Cal) (ρ : Env) (a b : List S) (r : R Bool) : O := r.o fun k => if k = true then exs C ρ a else exs C ρ b
@[simp] theorem qzIte_t (C : Cal) (ρ : Env) (a b : List S) : qzIte C ρ a b (.ok true) = exs C ρ a := eq_of_heq HEq.rfl
@[simp] theorem qzIte_f (C : Cal) (ρ : Env) (a b : List S) : qzIte C ρ a b (.ok false) = exs C ρ b := eq_of_heq HEq.rfl
@[simp] theorem qzIte_exc (C : Cal) (ρ : Env) (a b : List S) (k : Nat) (m : Int) : qzIte C ρ a b (.exc k m) = .exc k m := eq_of_heq HEq.rfl
@[simp high] theorem y_ite (C : Cal) (ρ : Env) (c : E) (a b : List S) : exS C ρ (.ite c a b) = qzIte C ρ a b ((bq C ρ c).bind truth) := z_ite C ρ c a b
/-- a loop over a block -/
def lop (C : Cal) (t : Tg) (body : List S) (ds : List D) (ρ : Env) : O := forL t (fun ρ1 => exs C ρ1 body) ds ρ
def qzFor (C : Cal) (t : Tg) (body : List S) (ρ : Env) (r : R (List D)) : O := r.o fun ds => lop C t body ds ρ
@[simp] theorem qzFor_ok (C : Cal) (t : Tg) (body : List S) (ρ : Env) (ds : List D) : qzFor C t body ρ (.ok ds) = lop C t body ds ρ := eq_of_heq HEq.rfl
@[simp high] theorem y_for (C : Cal) (ρ : Env) (t : Tg) (it : E) (body : List S) : exS C ρ (.for_ t it body) = qzFor C t body ρ ((ev C ρ it).bind itemsR) := z_for C ρ t it body
def lw (C : Cal) (c : E) (body : List S) (n : Nat) (ρ : Env) : O := whlL (fun ρ1 => (bq C ρ1 c).bind truth) (fun ρ1 => exs C ρ1 body) n ρ
@[simp high] theorem y_whl (C : Cal) (ρ : Env) (n : Nat) (c : E) (body : List S) : exS C ρ (.whl n c body) = lw C c body n ρ := by rw [exS]; rfl
def qzAg2 (ρ : Env) (i : Nat) (o : BOp) (x : D) (r : R D) : O := r.o fun y => qzSet ρ i (augR o x y)
def qzAg1 (C : Cal) (ρ : Env) (i : Nat) (o : BOp) (e : E) : SV → O
  | .fr x => qzAg2 ρ i o x (ev C ρ e)
  | _ => .bad
@[simp] theorem qzAg1_ok (C : Cal) (ρ : Env) (i : Nat) (o : BOp) (e : E) (x : D) : qzAg1 C ρ i o e (.fr x) = qzAg2 ρ i o x (ev C ρ e) := eq_of_heq HEq.rfl
@[simp] theorem qzAg2_ok (ρ : Env) (i : Nat) (o : BOp) (x y : D) : qzAg2 ρ i o x (.ok y) = qzSet ρ i (augR o x y) := eq_of_heq HEq.rfl
@[simp] theorem au_int (o : BOp) (a b : Int) : augR o (.int a) (.int b) = binR o (.int a) (.int b) := eq_of_heq HEq.rfl
@[simp high] theorem y_aug (C : Cal) (ρ : Env) (i : Nat) (o : BOp) (e : E) : exS C ρ (.aug i o e) = qzAg1 C ρ i o e (ρ.get i) := by
  rw [exS]
  cases ρ.get i <;> rfl
def qzAp2 (ρ : Env) (i : Nat) (ds : List D) (r : R D) : O := r.o fun d => if ds.length < big then .nx (ρ.set i (.own (ds ++ [d]))) else .bad
def qzAp1 (C : Cal) (ρ : Env) (i : Nat) (e : E) : SV → O
  | .own ds => qzAp2 ρ i ds (ev C ρ e)
  | _ => .bad
@[simp] theorem qzAp1_ok (C : Cal) (ρ : Env) (i : Nat) (e : E) (ds : List D) : qzAp1 C ρ i e (.own ds) = qzAp2 ρ i ds (ev C ρ e) := eq_of_heq HEq.rfl
@[simp] theorem qzAp2_ok (ρ : Env) (i : Nat) (ds : List D) (d : D) : qzAp2 ρ i ds (.ok d) = if ds.length < big then .nx (ρ.set i (.own (ds ++ [d]))) else .bad := eq_of_heq HEq.rfl
@[simp high] theorem y_app (C : Cal) (ρ : Env) (i : Nat) (e : E) : exS C ρ (.app i e) = qzAp1 C ρ i e (ρ.get i) := by
  rw [exS]
  cases ρ.get i <;> rfl
def qzIn3 (ρ : Env) (i : Nat) (ds : List D) (n : Int) (r : R D) : O := r.o fun d => if 0 ≤ n ∧ n ≤ ds.length ∧ ds.length < big then .nx (ρ.set i (.own (insAt ds n.toNat d))) else .bad
def qzIn2 (C : Cal) (ρ : Env) (i : Nat) (e : E) (ds : List D) (r : R Int) : O := r.o fun n => qzIn3 ρ i ds n (ev C ρ e)
def qzIn1 (C : Cal) (ρ : Env) (i : Nat) (k e : E) : SV → O
  | .own ds => qzIn2 C ρ i e ds ((ev C ρ k).bind intR)
  | _ => .bad
@[simp] theorem qzIn1_ok (C : Cal) (ρ : Env) (i : Nat) (k e : E) (ds : List D) : qzIn1 C ρ i k e (.own ds) = qzIn2 C ρ i e ds ((ev C ρ k).bind intR) := eq_of_heq HEq.rfl
@[simp] theorem qzIn2_ok (C : Cal) (ρ : Env) (i : Nat) (e : E) (ds : List D) (n : Int) : qzIn2 C ρ i e ds (.ok n) = qzIn3 ρ i ds n (ev C ρ e) := eq_of_heq HEq.rfl
@[simp] theorem qzIn3_ok (ρ : Env) (i : Nat) (ds : List D) (n : Int) (d : D) : qzIn3 ρ i ds n (.ok d) = if 0 ≤ n ∧ n ≤ ds.length ∧ ds.length < big then .nx (ρ.set i (.own (insAt ds n.toNat d))) else .bad := eq_of_heq HEq.rfl
@[simp high] theorem y_ins (C : Cal) (ρ : Env) (i : Nat) (k e : E) : exS C ρ (.ins i k e) = qzIn1 C ρ i k e (ρ.get i) := by
  rw [exS]
  cases ρ.get i <;> rfl
def qzEx2 (ρ : Env) (i : Nat) (ds : List D) (r : R (List D)) : O := r.o fun es => if ds.length + es.length < big then .nx (ρ.set i (.own (ds ++ es))) else .bad
def qzEx1 (C : Cal) (ρ : Env) (i : Nat) (e : E) : SV → O
  | .own ds => qzEx2 ρ i ds ((ev C ρ e).bind lstR)
  | _ => .bad
@[simp] theorem qzEx1_ok (C : Cal) (ρ : Env) (i : Nat) (e : E) (ds : List D) : qzEx1 C ρ i e (.own ds) = qzEx2 ρ i ds ((ev C ρ e).bind lstR) := eq_of_heq HEq.rfl
@[simp] theorem qzEx2_ok (ρ : Env) (i : Nat) (ds es : List D) : qzEx2 ρ i ds (.ok es) = if ds.length + es.length < big then .nx (ρ.set i (.own (ds ++ es))) else .bad := eq_of_heq HEq.rfl
@[simp high] theorem y_ext (C : Cal) (ρ : Env) (i : Nat) (e : E) : exS C ρ (.ext i e) = qzEx1 C ρ i e (ρ.get i) := by
  rw [exS]
  cases ρ.get i <;> rfl
def setO (ρ : Env) (i : Nat) (ds : List D) (n : Int) (d : D) : O := if 0 ≤ n ∧ n < ds.length then .nx (ρ.set i (.own (ds.set n.toNat d))) else if n < 0 ∧ -(ds.length : Int) ≤ n then .nx (ρ.set i (.own (ds.set (n + ds.length).toNat d))) else .bad
def qzSi3 (ρ : Env) (i : Nat) (d : D) (ds : List D) (r : R Int) : O := r.o fun n => setO ρ i ds n d
def qzSi2 (C : Cal) (ρ : Env) (i : Nat) (k : E) (d : D) : SV → O
  | .own ds => qzSi3 ρ i d ds ((ev C ρ k).bind intR)
  | _ => .bad
def qzSi1 (C : Cal) (ρ : Env) (i : Nat) (k : E) (r : R D) : O := r.o fun d => qzSi2 C ρ i k d (ρ.get i)
@[simp] theorem qzSi1_ok (C : Cal) (ρ : Env) (i : Nat) (k : E) (d : D) : qzSi1 C ρ i k (.ok d) = qzSi2 C ρ i k d (ρ.get i) := eq_of_heq HEq.rfl
@[simp] theorem qzSi2_ok (C : Cal) (ρ : Env) (i : Nat) (k : E) (d : D) (ds : List D) : qzSi2 C ρ i k d (.own ds) = qzSi3 ρ i d ds ((ev C ρ k).bind intR) := eq_of_heq HEq.rfl
@[simp] theorem qzSi3_ok (ρ : Env) (i : Nat) (d : D) (ds : List D) (n : Int) : qzSi3 ρ i d ds (.ok n) = setO ρ i ds n d := eq_of_heq HEq.rfl
@[simp high] theorem y_sit (C : Cal) (ρ : Env) (i : Nat) (k e : E) : exS C ρ (.sit i k e) = qzSi1 C ρ i k (ev C ρ e) := by
  rw [exS]
  cases ev C ρ e with
  | ok d =>
    show (ownR (ρ.get i)).o _ = qzSi2 C ρ i k d (ρ.get i)
    cases ρ.get i <;> rfl
  | _ => rfl
theorem setO_nat (ρ : Env) {i : Nat} {ds : List D} {n : Int} (m : Nat) (d : D) (h : n = (m : Int)) (hm : m < ds.length) : setO ρ i ds n d = .nx (ρ.set i (.own (ds.set m d))) := by
  unfold setO
  rw [if_pos (by omega)]
  subst h
  rfl
theorem setO_neg (ρ : Env) {i : Nat} {ds : List D} {n : Int} (m : Nat) (d : D) (h : n + ds.length = (m : Int)) (hn : n < 0) : setO ρ i ds n d = .nx (ρ.set i (.own (ds.set m d))) := by
  unfold setO
  rw [if_neg (by omega), if_pos (by omega), h]
  rfl
def qzRs (k : Nat) (r : R (List D)) : O := r.o (rseO k)
@[simp] theorem qzRs_ok (k : Nat) (n : Int) : qzRs k (.ok [.int n]) = .exc k n := eq_of_heq HEq.rfl
@[simp high] theorem y_rse (C : Cal) (ρ : Env) (k : Nat) (es : List E) : exS C ρ (.rse k es) = qzRs k (evs C ρ es) := z_rse C ρ k es
@[simp] theorem try_rt (d : D) (ρ : Env) (k : Nat) (j : Option Nat) : (O.rt d).try_ ρ k j = .rt d := eq_of_heq HEq.rfl
def frzS (ρ : Env) (i : Nat) : SV → Env
  | .own ds => ρ.set i (.fr (.lst ds))
  | _ => ρ
@[simp] theorem frzS_own (ρ : Env) (i : Nat) (ds : List D) : frzS ρ i (.own ds) = ρ.set i (.fr (.lst ds)) := eq_of_heq HEq.rfl
@[simp] theorem frzS_fr (ρ : Env) (i : Nat) (d : D) : frzS ρ i (.fr d) = ρ := eq_of_heq HEq.rfl
@[simp high] theorem y_frz (C : Cal) (ρ : Env) (i : Nat) : exS C ρ (.frz i) = .nx (frzS ρ i (ρ.get i)) := by
  rw [z_frz]
  unfold frzE
  cases ρ.get i <;> rfl
@[simp] theorem y_fgt (C : Cal) (ρ : Env) (is : List Nat) : exS C ρ (.fgt is) = .nx (wipeE ρ is) := by rw [exS]
/-! what becomes of a run -/
structure Wp (o : O) (Q : O → Prop) : Prop where
  mk ::
  get : Q o
@[simp] theorem wp_rt (d : D) (Q : O → Prop) : Wp (.rt d) Q = Q (.rt d) := propext ⟨fun h => h.get, fun h => ⟨h⟩⟩
@[simp] theorem wp_nx (ρ : Env) (Q : O → Prop) : Wp (.nx ρ) Q = Q (.nx ρ) := propext ⟨fun h => h.get, fun h => ⟨h⟩⟩
@[simp] theorem wp_ct (ρ : Env) (Q : O → Prop) : Wp (.ct ρ) Q = Q (.ct ρ) := propext ⟨fun h => h.get, fun h => ⟨h⟩⟩
@[simp] theorem wp_bk (ρ : Env) (Q : O → Prop) : Wp (.bk ρ) Q = Q (.bk ρ) := propext ⟨fun h => h.get, fun h => ⟨h⟩⟩
@[simp] theorem wp_exc (k : Nat) (n : Int) (Q : O → Prop) : Wp (.exc k n) Q = Q (.exc k n) := propext ⟨fun h => h.get, fun h => ⟨h⟩⟩
/-- what a def tells -/
def Tl (v : R D) (o : O) : Prop := o.r = v
@[simp] theorem tl_rt (v : R D) (d : D) : Tl v (.rt d) = (.ok d = v) := propext ⟨id, id⟩
@[simp] theorem tl_nx (v : R D) (ρ : Env) : Tl v (.nx ρ) = (.ok .non = v) := propext ⟨id, id⟩
@[simp] theorem tl_exc (v : R D) (k : Nat) (n : Int) : Tl v (.exc k n) = (.exc k n = v) := propext ⟨id, id⟩
theorem fn_wp {T : Prg} {n f : Nat} {F : Fn} {ds : List D} {v : R D} (h : T.fns f = some F) (hl : ds.length = F.np) (w : Wp (exs ⟨callF T n, T.con⟩ (startE ds F.ns) F.body) (Tl v)) : callF T (n + 1) f ds = v := (callF_eq h hl).trans w.get
/-- a turn of a loop goes on, in a state -/
def On (P : Env → Prop) : O → Prop
  | .nx ρ => P ρ
  | .ct ρ => P ρ
  | _ => False
@[simp] theorem on_nx (P : Env → Prop) (ρ : Env) : On P (.nx ρ) = P ρ := propext ⟨id, id⟩
@[simp] theorem on_ct (P : Env → Prop) (ρ : Env) : On P (.ct ρ) = P ρ := propext ⟨id, id⟩
/-- what a turn leaves: a state, or a value is told -/
def Sp (P : Env → Prop) : Option D → O → Prop
  | none, o => On P o
  | some d, o => o = .rt d
theorem sp_n (P : Env → Prop) (o : O) : Sp P none o = On P o := rfl
theorem sp_s (P : Env → Prop) (d : D) (o : O) : Sp P (some d) o = (o = .rt d) := rfl
@[simp] theorem sp_nn (P : Env → Prop) (ρ : Env) : Sp P none (.nx ρ) = P ρ := propext ⟨id, id⟩
@[simp] theorem sp_nc (P : Env → Prop) (ρ : Env) : Sp P none (.ct ρ) = P ρ := propext ⟨id, id⟩
@[simp] theorem sp_sr (P : Env → Prop) (d d' : D) : Sp P (some d) (.rt d') = (d' = d) := propext ⟨fun h => O.rt.inj h, fun h => h ▸ rfl⟩
/-- a turn -/
def tn (C : Cal) (t : Tg) (body : List S) (d : D) (ρ : Env) : O := (asg t d ρ).o fun ρ1 => exs C ρ1 body
def kTn (C : Cal) (body : List S) (r : R Env) : O := r.o fun ρ1 => exs C ρ1 body
@[simp] theorem kTn_ok (C : Cal) (body : List S) (ρ : Env) : kTn C body (.ok ρ) = exs C ρ body := eq_of_heq HEq.rfl
@[simp] theorem tn_eq (C : Cal) (t : Tg) (body : List S) (d : D) (ρ : Env) : tn C t body d ρ = kTn C body (asg t d ρ) := eq_of_heq HEq.rfl
def fcO (C : Cal) (t : Tg) (body : List S) (ds : List D) : O → O
  | .nx ρ2 => lop C t body ds ρ2
  | .ct ρ2 => lop C t body ds ρ2
  | .bk ρ2 => .nx ρ2
  | o => o
@[simp] theorem fc_nx (C : Cal) (t : Tg) (body : List S) (ds : List D) (ρ : Env) : fcO C t body ds (.nx ρ) = lop C t body ds ρ := eq_of_heq HEq.rfl
@[simp] theorem fc_ct (C : Cal) (t : Tg) (body : List S) (ds : List D) (ρ : Env) : fcO C t body ds (.ct ρ) = lop C t body ds ρ := eq_of_heq HEq.rfl
@[simp] theorem fc_bk (C : Cal) (t : Tg) (body : List S) (ds : List D) (ρ : Env) : fcO C t body ds (.bk ρ) = .nx ρ := eq_of_heq HEq.rfl
@[simp] theorem fc_rt (C : Cal) (t : Tg) (body : List S) (ds : List D) (d : D) : fcO C t body ds (.rt d) = .rt d := eq_of_heq HEq.rfl
theorem lp_c (C : Cal) (t : Tg) (body : List S) (d : D) (ds : List D) (ρ : Env) : lop C t body (d :: ds) ρ = fcO C t body ds (tn C t body d ρ) := by
  unfold lop tn
  rw [forL]
  cases asg t d ρ with
  | ok ρ1 =>
    rw [r_o, r_o]
    cases exs C ρ1 body <;> rfl
  | _ => rfl
theorem lp_0 (C : Cal) (t : Tg) (body : List S) (ρ : Env) : lop C t body [] ρ = .nx ρ := by unfold lop; rw [forL]
/-- a loop; I tells the state by what is behind it; stop tells where it stops with a value -/
theorem wp_stop {α : Type} {C : Cal} {t : Tg} {body ss : List S} {Q : O → Prop} {e : α → D} (I : List α → Env → Prop) (stop : List α → α → Option D) {l : List α} {ρ : Env} (h0 : I [] ρ)
    (step : ∀ pre a post ρ, l = pre ++ a :: post → I pre ρ → Wp (tn C t body (e a) ρ) (Sp (I (pre ++ [a])) (stop pre a)))
    (f1 : (∀ pre a post, l = pre ++ a :: post → stop pre a = none) → ∀ ρ', I l ρ' → Wp (exs C ρ' ss) Q)
    (f2 : ∀ pre a post d, l = pre ++ a :: post → (∀ p1 b p2, pre = p1 ++ b :: p2 → stop p1 b = none) → stop pre a = some d → Q (.rt d)) : Wp (thn C ss (lop C t body (l.map e) ρ)) Q := by
  have go : ∀ (post pre : List α) (ρ : Env), l = pre ++ post → (∀ p1 b p2, pre = p1 ++ b :: p2 → stop p1 b = none) → I pre ρ → Wp (thn C ss (lop C t body (post.map e) ρ)) Q := by
    intro post
    induction post with
    | nil =>
      intro pre ρ hl hn hI
      rw [List.append_nil] at hl
      subst hl
      rw [List.map_nil, lp_0, thn_nx]
      exact f1 (fun p1 b p2 h => hn p1 b p2 h) ρ hI
    | cons a post ih =>
      intro pre ρ hl hn hI
      have h := (step pre a post ρ hl hI).get
      rw [List.map_cons, lp_c]
      cases hs : stop pre a with
      | none =>
        rw [hs] at h
        have nx : ∀ ρ2, I (pre ++ [a]) ρ2 → Wp (thn C ss (lop C t body (post.map e) ρ2)) Q := fun ρ2 h2 => by
          refine ih (pre ++ [a]) ρ2 (by rw [hl]; simp) (fun p1 b p2 hp => ?_) h2
          rcases List.eq_nil_or_concat p2 with rfl | ⟨q, c, rfl⟩
          · have := List.append_inj' hp rfl
            obtain ⟨rfl, e2⟩ := this
            cases e2
            exact hs
          · have e3 : pre ++ [a] = (p1 ++ b :: q) ++ [c] := by rw [hp]; simp
            obtain ⟨e4, _⟩ := List.append_inj' e3 rfl
            exact hn p1 b q e4
        cases hb : tn C t body (e a) ρ with
        | nx ρ2 => rw [hb] at h; exact nx ρ2 h
        | ct ρ2 => rw [hb] at h; exact nx ρ2 h
        | _ => rw [hb] at h; exact False.elim h
      | some d =>
        rw [hs] at h
        have h : tn C t body (e a) ρ = .rt d := h
        rw [h]
        exact ⟨f2 pre a post d hl hn hs⟩
  exact go l [] ρ rfl (fun p1 b p2 h => by simp at h) h0
/-- a loop that goes through -/
theorem wp_pre {α : Type} {C : Cal} {t : Tg} {body ss : List S} {Q : O → Prop} {e : α → D} (I : List α → Env → Prop) {l : List α} {ρ : Env} (h0 : I [] ρ)
    (step : ∀ pre a post ρ, l = pre ++ a :: post → I pre ρ → Wp (tn C t body (e a) ρ) (On (I (pre ++ [a]))))
    (fin : ∀ ρ', I l ρ' → Wp (exs C ρ' ss) Q) : Wp (thn C ss (lop C t body (l.map e) ρ)) Q :=
  wp_stop I (fun _ _ => none) h0 step (fun _ => fin) (fun _ _ _ _ _ _ h => by cases h)
/-- all are so, or a value is told -/
theorem wp_all {α : Type} {C : Cal} {t : Tg} {body ss : List S} {Q : O → Prop} {e : α → D} (I : Env → Prop) (p : α → Bool) (d : D) {l : List α} {ρ : Env} (h0 : I ρ)
    (step : ∀ a ∈ l, ∀ ρ, I ρ → Wp (tn C t body (e a) ρ) (Sp I (if p a = true then none else some d))) (f1 : l.all p = true → ∀ ρ', I ρ' → Wp (exs C ρ' ss) Q) (f2 : l.all p = false → Q (.rt d)) : Wp (thn C ss (lop C t body (l.map e) ρ)) Q := by
  refine wp_stop (fun _ => I) (fun _ a => if p a = true then none else some d) h0 (fun pre a post ρ hl h => step a (by rw [hl]; simp) ρ h) (fun h ρ' hI => f1 ?_ ρ' hI) (fun pre a post d' hl _ hs => ?_)
  · rw [List.all_eq_true]
    intro a ha
    obtain ⟨pre, post, rfl⟩ := List.append_of_mem ha
    have := h pre a post rfl
    cases hp : p a with
    | true => rfl
    | false => rw [hp] at this; cases this
  · cases hp : p a with
    | true => rw [hp] at hs; cases hs
    | false =>
      rw [hp] at hs
      cases hs
      refine f2 ?_
      rw [hl]
      simp [hp]
theorem wp_mono {o : O} {P Q : O → Prop} (h : Wp o P) (m : ∀ o, P o → Q o) : Wp o Q := ⟨m o h.get⟩
/-! lists of what a block brings -/
theorem comp_map {α : Type} {f : D → R (List D)} {e : α → D} {l : List α} (g : α → D) (hl : l.length ≤ 1000000) (h : ∀ a ∈ l, f (e a) = .ok [g a]) : (compL f (l.map e)).bind capL = .ok (.lst (l.map g)) := by
  rw [compL_mapG h, r_bind]
  exact if_pos (by rw [List.length_map]; exact hl)
theorem comp_flt {α : Type} {f : D → R (List D)} {e : α → D} {l : List α} (g : α → D) (p : α → Bool) (hl : l.length ≤ 1000000) (h : ∀ a ∈ l, f (e a) = .ok (if p a = true then [g a] else [])) : (compL f (l.map e)).bind capL = .ok (.lst ((l.filter p).map g)) := by
  rw [compL_filter h, r_bind]
  exact if_pos (by rw [List.length_map]; exact Nat.le_trans (List.length_filter_le _ _) hl)
theorem comp_gen {α : Type} {f : D → R (List D)} {e : α → D} {l : List α} (g : α → List D) (hl : (l.flatMap g).length ≤ 1000000) (h : ∀ a ∈ l, f (e a) = .ok (g a)) : (compL f (l.map e)).bind capL = .ok (.lst (l.flatMap g)) := by
  rw [compL_gen h, r_bind]
  exact if_pos hl
/-- whole numbers from one on -/
abbrev nm (i : Nat) : D := .int (i : Nat)
theorem rng_items {a b : Int} (lo n : Nat) (h1 : a = lo) (h2 : b = (lo + n : Nat) ∨ n = 0 ∧ b ≤ a ∧ -1000000 ≤ b) (h3 : lo + n ≤ 1000000) : itemsR (.rng a b) = .ok ((List.range' lo n).map nm) := by
  rw [it_rng, if_pos (by omega), upL_eq]
  have e : (b - a).toNat = n := by omega
  rw [e, List.range'_eq_map_range, List.map_map]
  congr 1
  apply List.map_congr_left
  intro i _
  simp only [nm, Function.comp_apply, D.int.injEq]
  omega
theorem rng0 {b : Int} (n : Nat) (h2 : b = (n : Int)) (h3 : n ≤ 1000000) : itemsR (.rng 0 b) = .ok ((List.range n).map nm) := by
  subst h2
  rw [it_rng, if_pos (by omega), up0]
  congr 2
@[simp] theorem rngN (n : Nat) (h3 : n ≤ 1000000) : itemsR (.rng 0 (n : Nat)) = .ok ((List.range n).map nm) := rng0 n rfl h3
theorem rngM {a b : Nat} (h3 : b ≤ 1000000) (h4 : a ≤ 1000000) : itemsR (.rng (a : Nat) (b : Nat)) = .ok ((List.range' a (b - a)).map nm) := rng_items a (b - a) rfl (by omega) (by omega)
@[simp] theorem big_eq : big = 1000000 := eq_of_heq HEq.rfl
@[simp] theorem ng_int (i : Int) : negR (.int i) = .ok (.int (-i)) := eq_of_heq HEq.rfl
theorem atL_map {α : Type} {l : List α} {g : α → D} {z : Int} (i : Nat) (h : z = (i : Int)) (hi : i < l.length) : atL (l.map g) z = .ok (g l[i]) := by
  subst h
  exact atL_nat (by simp [hi])
theorem atL_neg {α : Type} {l : List α} {g : α → D} {z : Int} (i : Nat) (h : z + l.length = (i : Int)) (hz : z < 0) (hi : i < l.length) : atL (l.map g) z = .ok (g l[i]) := by
  unfold atL
  rw [if_neg (by omega), if_pos (by rw [List.length_map]; omega)]
  have e : (z + ((l.map g).length : Int)).toNat = i := by rw [List.length_map]; omega
  rw [e]
  simp [hi]
end PF

namespace PF
namespace K06
open PySem PySem.Spec PyProof.Rows L2
def top (i : Nat) : Stmt := PySem.Challenge.pw_turntold_k06_row_or_chain.main.body.getD i (.Pass ⟨0, 0, 0, 0⟩)
abbrev e_is_whole : FE := ⟨0, PySem.Str.ofString "is_whole", top 6, [PySem.Str.ofString "value"], [PySem.Str.ofString "value"], is_whole_body⟩
abbrev e_is_between : FE := ⟨1, PySem.Str.ofString "is_between", top 7, [PySem.Str.ofString "value", PySem.Str.ofString "low", PySem.Str.ofString "high"], [PySem.Str.ofString "value", PySem.Str.ofString "low", PySem.Str.ofString "high"], is_between_body⟩
abbrev e_is_sequence : FE := ⟨2, PySem.Str.ofString "is_sequence", top 8, [PySem.Str.ofString "value"], [PySem.Str.ofString "value"], is_sequence_body⟩
abbrev e_is_worded : FE := ⟨97, PySem.Str.ofString "is_worded", top 9, [PySem.Str.ofString "value", PySem.Str.ofString "word", PySem.Str.ofString "size"], [PySem.Str.ofString "value", PySem.Str.ofString "word", PySem.Str.ofString "size"], is_worded_body⟩
abbrev e_less : FE := ⟨7, PySem.Str.ofString "less", top 10, [PySem.Str.ofString "one", PySem.Str.ofString "other"], [PySem.Str.ofString "one", PySem.Str.ofString "other"], less_body⟩
abbrev e_smaller : FE := ⟨98, PySem.Str.ofString "smaller", top 11, [PySem.Str.ofString "one", PySem.Str.ofString "other"], [PySem.Str.ofString "one", PySem.Str.ofString "other"], smaller_body⟩
abbrev e_larger : FE := ⟨99, PySem.Str.ofString "larger", top 12, [PySem.Str.ofString "one", PySem.Str.ofString "other"], [PySem.Str.ofString "one", PySem.Str.ofString "other"], larger_body⟩
abbrev e_signed_kept : FE := ⟨8, PySem.Str.ofString "signed_kept", top 13, [PySem.Str.ofString "value"], [PySem.Str.ofString "value", PySem.Str.ofString "above", PySem.Str.ofString "below"], signed_kept_body⟩
abbrev e_ends_kept : FE := ⟨10, PySem.Str.ofString "ends_kept", top 14, [PySem.Str.ofString "value"], [PySem.Str.ofString "value", PySem.Str.ofString "low", PySem.Str.ofString "high"], ends_kept_body⟩
abbrev e_bounds_kept : FE := ⟨11, PySem.Str.ofString "bounds_kept", top 15, [PySem.Str.ofString "value"], [PySem.Str.ofString "value", PySem.Str.ofString "kept", PySem.Str.ofString "pair"], bounds_kept_body⟩
abbrev e_row_kept : FE := ⟨12, PySem.Str.ofString "row_kept", top 16, [PySem.Str.ofString "value", PySem.Str.ofString "size"], [PySem.Str.ofString "value", PySem.Str.ofString "size", PySem.Str.ofString "kept", PySem.Str.ofString "count"], row_kept_body⟩
abbrev e_places_kept : FE := ⟨72, PySem.Str.ofString "places_kept", top 17, [PySem.Str.ofString "value", PySem.Str.ofString "size", PySem.Str.ofString "many"], [PySem.Str.ofString "value", PySem.Str.ofString "size", PySem.Str.ofString "many", PySem.Str.ofString "least", PySem.Str.ofString "place"], places_kept_body⟩
abbrev e_pair_kept : FE := ⟨100, PySem.Str.ofString "pair_kept", top 18, [PySem.Str.ofString "value", PySem.Str.ofString "size"], [PySem.Str.ofString "value", PySem.Str.ofString "size"], pair_kept_body⟩
abbrev e_need_bounds : FE := ⟨14, PySem.Str.ofString "need_bounds", top 19, [PySem.Str.ofString "value", PySem.Str.ofString "at"], [PySem.Str.ofString "value", PySem.Str.ofString "at", PySem.Str.ofString "kept"], need_bounds_body⟩
abbrev e_need_between : FE := ⟨18, PySem.Str.ofString "need_between", top 20, [PySem.Str.ofString "value", PySem.Str.ofString "low", PySem.Str.ofString "high", PySem.Str.ofString "at"], [PySem.Str.ofString "value", PySem.Str.ofString "low", PySem.Str.ofString "high", PySem.Str.ofString "at"], need_between_body⟩
abbrev e_need_shape : FE := ⟨101, PySem.Str.ofString "need_shape", top 21, [PySem.Str.ofString "bounds", PySem.Str.ofString "first", PySem.Str.ofString "many"], [PySem.Str.ofString "bounds", PySem.Str.ofString "first", PySem.Str.ofString "many", PySem.Str.ofString "kept"], need_shape_body⟩
abbrev e_sure_tables : FE := ⟨64, PySem.Str.ofString "sure_tables", top 23, [PySem.Str.ofString "bounds"], [PySem.Str.ofString "bounds", PySem.Str.ofString "size", PySem.Str.ofString "falls", PySem.Str.ofString "j", PySem.Str.ofString "i", PySem.Str.ofString "rises"], sure_tables_body⟩
abbrev e_first_pair : FE := ⟨103, PySem.Str.ofString "first_pair", top 24, [PySem.Str.ofString "table", PySem.Str.ofString "size", PySem.Str.ofString "start"], [PySem.Str.ofString "table", PySem.Str.ofString "size", PySem.Str.ofString "start", PySem.Str.ofString "j", PySem.Str.ofString "i"], first_pair_body⟩
abbrev e_chain_in : FE := ⟨104, PySem.Str.ofString "chain_in", top 25, [PySem.Str.ofString "sure", PySem.Str.ofString "size", PySem.Str.ofString "first", PySem.Str.ofString "start", PySem.Str.ofString "most"], [PySem.Str.ofString "sure", PySem.Str.ofString "size", PySem.Str.ofString "first", PySem.Str.ofString "start", PySem.Str.ofString "most", PySem.Str.ofString "chain", PySem.Str.ofString "word", PySem.Str.ofString "found"], chain_in_body⟩
abbrev e_words_by : FE := ⟨75, PySem.Str.ofString "words_by", top 26, [PySem.Str.ofString "first", PySem.Str.ofString "places", PySem.Str.ofString "size"], [PySem.Str.ofString "first", PySem.Str.ofString "places", PySem.Str.ofString "size", PySem.Str.ofString "words", PySem.Str.ofString "step", PySem.Str.ofString "ahead", PySem.Str.ofString "place"], words_by_body⟩
abbrev e_within : FE := ⟨105, PySem.Str.ofString "within", top 27, [PySem.Str.ofString "bounds", PySem.Str.ofString "row"], [PySem.Str.ofString "bounds", PySem.Str.ofString "row", PySem.Str.ofString "place", PySem.Str.ofString "count", PySem.Str.ofString "low", PySem.Str.ofString "high"], within_body⟩
abbrev e_narrowed_turns : FE := ⟨106, PySem.Str.ofString "narrowed_turns", top 28, [PySem.Str.ofString "bounds", PySem.Str.ofString "words"], [PySem.Str.ofString "bounds", PySem.Str.ofString "words", PySem.Str.ofString "told", PySem.Str.ofString "place", PySem.Str.ofString "end"], narrowed_turns_body⟩
abbrev e_row_along : FE := ⟨107, PySem.Str.ofString "row_along", top 29, [PySem.Str.ofString "bounds", PySem.Str.ofString "words"], [PySem.Str.ofString "bounds", PySem.Str.ofString "words", PySem.Str.ofString "narrow", PySem.Str.ofString "count", PySem.Str.ofString "row", PySem.Str.ofString "step", PySem.Str.ofString "word"], row_along_body⟩
abbrev e_told_row : FE := ⟨108, PySem.Str.ofString "told_row", top 30, [PySem.Str.ofString "bounds", PySem.Str.ofString "first", PySem.Str.ofString "many"], [PySem.Str.ofString "bounds", PySem.Str.ofString "first", PySem.Str.ofString "many", PySem.Str.ofString "size", PySem.Str.ofString "chain", PySem.Str.ofString "places", PySem.Str.ofString "pair"], told_row_body⟩
abbrev e_goes : FE := ⟨76, PySem.Str.ofString "goes", top 31, [PySem.Str.ofString "row", PySem.Str.ofString "first", PySem.Str.ofString "places"], [PySem.Str.ofString "row", PySem.Str.ofString "first", PySem.Str.ofString "places", PySem.Str.ofString "step", PySem.Str.ofString "word"], goes_body⟩
abbrev e_shows_row : FE := ⟨109, PySem.Str.ofString "shows_row", top 32, [PySem.Str.ofString "bounds", PySem.Str.ofString "first", PySem.Str.ofString "many", PySem.Str.ofString "told"], [PySem.Str.ofString "bounds", PySem.Str.ofString "first", PySem.Str.ofString "many", PySem.Str.ofString "told", PySem.Str.ofString "row", PySem.Str.ofString "places"], shows_row_body⟩
abbrev e_chain_kept : FE := ⟨110, PySem.Str.ofString "chain_kept", top 33, [PySem.Str.ofString "bounds", PySem.Str.ofString "first", PySem.Str.ofString "value"], [PySem.Str.ofString "bounds", PySem.Str.ofString "first", PySem.Str.ofString "value", PySem.Str.ofString "sure", PySem.Str.ofString "word", PySem.Str.ofString "least", PySem.Str.ofString "chain", PySem.Str.ofString "member", PySem.Str.ofString "pair"], chain_kept_body⟩
abbrev e_can : FE := ⟨111, PySem.Str.ofString "can", top 35, [PySem.Str.ofString "bounds", PySem.Str.ofString "first", PySem.Str.ofString "many"], [PySem.Str.ofString "bounds", PySem.Str.ofString "first", PySem.Str.ofString "many", PySem.Str.ofString "kept", PySem.Str.ofString "told"], can_body⟩
abbrev e_can_shows : FE := ⟨112, PySem.Str.ofString "can_shows", top 36, [PySem.Str.ofString "kept", PySem.Str.ofString "first", PySem.Str.ofString "many", PySem.Str.ofString "answer"], [PySem.Str.ofString "kept", PySem.Str.ofString "first", PySem.Str.ofString "many", PySem.Str.ofString "answer", PySem.Str.ofString "chain"], can_shows_body⟩
abbrev e_can_holds : FE := ⟨113, PySem.Str.ofString "can_holds", top 37, [PySem.Str.ofString "bounds", PySem.Str.ofString "first", PySem.Str.ofString "many", PySem.Str.ofString "answer"], [PySem.Str.ofString "bounds", PySem.Str.ofString "first", PySem.Str.ofString "many", PySem.Str.ofString "answer", PySem.Str.ofString "kept"], can_holds_body⟩
abbrev e__law_int : FE := ⟨114, PySem.Str.ofString "_law_int", top 39, [PySem.Str.ofString "value"], [PySem.Str.ofString "value"], _law_int_body⟩
abbrev e__law_same : FE := ⟨29, PySem.Str.ofString "_law_same", top 40, [PySem.Str.ofString "one", PySem.Str.ofString "other"], [PySem.Str.ofString "one", PySem.Str.ofString "other", PySem.Str.ofString "k"], _law_same_body⟩
abbrev e__law_listed_v1 : FE := ⟨57, PySem.Str.ofString "_law_listed", top 41, [PySem.Str.ofString "value"], [PySem.Str.ofString "value", PySem.Str.ofString "part"], _law_listed_v1_body⟩
abbrev e__law_refused : FE := ⟨31, PySem.Str.ofString "_law_refused", top 42, [PySem.Str.ofString "call", PySem.Str.ofString "parts", PySem.Str.ofString "spot"], [PySem.Str.ofString "call", PySem.Str.ofString "parts", PySem.Str.ofString "spot", PySem.Str.ofString "refused"], _law_refused_body⟩
abbrev e__law_low : FE := ⟨32, PySem.Str.ofString "_law_low", top 43, [PySem.Str.ofString "above", PySem.Str.ofString "below"], [PySem.Str.ofString "above", PySem.Str.ofString "below", PySem.Str.ofString "one", PySem.Str.ofString "other", PySem.Str.ofString "turn", PySem.Str.ofString "rest"], _law_low_body⟩
abbrev e__law_plus : FE := ⟨33, PySem.Str.ofString "_law_plus", top 44, [PySem.Str.ofString "one", PySem.Str.ofString "other"], [PySem.Str.ofString "one", PySem.Str.ofString "other"], _law_plus_body⟩
abbrev e__law_times : FE := ⟨34, PySem.Str.ofString "_law_times", top 45, [PySem.Str.ofString "one", PySem.Str.ofString "other"], [PySem.Str.ofString "one", PySem.Str.ofString "other"], _law_times_body⟩
abbrev e__law_less : FE := ⟨35, PySem.Str.ofString "_law_less", top 46, [PySem.Str.ofString "one", PySem.Str.ofString "other"], [PySem.Str.ofString "one", PySem.Str.ofString "other"], _law_less_body⟩
abbrev e__law_minus : FE := ⟨36, PySem.Str.ofString "_law_minus", top 47, [PySem.Str.ofString "one", PySem.Str.ofString "other"], [PySem.Str.ofString "one", PySem.Str.ofString "other"], _law_minus_body⟩
abbrev e__law_is_fraction : FE := ⟨115, PySem.Str.ofString "_law_is_fraction", top 48, [PySem.Str.ofString "value", PySem.Str.ofString "signed"], [PySem.Str.ofString "value", PySem.Str.ofString "signed"], _law_is_fraction_body⟩
abbrev e__law_numbers : FE := ⟨37, PySem.Str.ofString "_law_numbers", top 49, [PySem.Str.ofString "script", PySem.Str.ofString "place", PySem.Str.ofString "many"], [PySem.Str.ofString "script", PySem.Str.ofString "place", PySem.Str.ofString "many", PySem.Str.ofString "cell", PySem.Str.ofString "numbers", PySem.Str.ofString "rest", PySem.Str.ofString "k", PySem.Str.ofString "twice"], _law_numbers_body⟩
abbrev e__law_falls : FE := ⟨68, PySem.Str.ofString "_law_falls", top 50, [PySem.Str.ofString "bounds"], [PySem.Str.ofString "bounds", PySem.Str.ofString "found", PySem.Str.ofString "i", PySem.Str.ofString "j"], _law_falls_body⟩
abbrev e__law_rises : FE := ⟨69, PySem.Str.ofString "_law_rises", top 51, [PySem.Str.ofString "bounds"], [PySem.Str.ofString "bounds", PySem.Str.ofString "found", PySem.Str.ofString "i", PySem.Str.ofString "j"], _law_rises_body⟩
abbrev e__law_is_row : FE := ⟨116, PySem.Str.ofString "_law_is_row", top 52, [PySem.Str.ofString "value", PySem.Str.ofString "many"], [PySem.Str.ofString "value", PySem.Str.ofString "many", PySem.Str.ofString "one"], _law_is_row_body⟩
abbrev e__law_fits : FE := ⟨117, PySem.Str.ofString "_law_fits", top 53, [PySem.Str.ofString "bounds", PySem.Str.ofString "row"], [PySem.Str.ofString "bounds", PySem.Str.ofString "row", PySem.Str.ofString "k"], _law_fits_body⟩
abbrev e__law_is_places : FE := ⟨118, PySem.Str.ofString "_law_is_places", top 54, [PySem.Str.ofString "many", PySem.Str.ofString "value", PySem.Str.ofString "count"], [PySem.Str.ofString "many", PySem.Str.ofString "value", PySem.Str.ofString "count", PySem.Str.ofString "k"], _law_is_places_body⟩
abbrev e__law_all_places : FE := ⟨83, PySem.Str.ofString "_law_all_places", top 55, [PySem.Str.ofString "many", PySem.Str.ofString "count"], [PySem.Str.ofString "many", PySem.Str.ofString "count", PySem.Str.ofString "found", PySem.Str.ofString "k", PySem.Str.ofString "longer", PySem.Str.ofString "row", PySem.Str.ofString "p"], _law_all_places_body⟩
abbrev e__law_goes_by : FE := ⟨84, PySem.Str.ofString "_law_goes_by", top 56, [PySem.Str.ofString "row", PySem.Str.ofString "first", PySem.Str.ofString "places"], [PySem.Str.ofString "row", PySem.Str.ofString "first", PySem.Str.ofString "places", PySem.Str.ofString "ends", PySem.Str.ofString "k", PySem.Str.ofString "i"], _law_goes_by_body⟩
abbrev e__law_bounds_go_by : FE := ⟨119, PySem.Str.ofString "_law_bounds_go_by", top 57, [PySem.Str.ofString "bounds", PySem.Str.ofString "first", PySem.Str.ofString "places"], [PySem.Str.ofString "bounds", PySem.Str.ofString "first", PySem.Str.ofString "places", PySem.Str.ofString "ends", PySem.Str.ofString "runs", PySem.Str.ofString "k", PySem.Str.ofString "word", PySem.Str.ofString "tables", PySem.Str.ofString "start", PySem.Str.ofString "end", PySem.Str.ofString "pair"], _law_bounds_go_by_body⟩
abbrev e__law_good_places : FE := ⟨120, PySem.Str.ofString "_law_good_places", top 58, [PySem.Str.ofString "bounds", PySem.Str.ofString "first", PySem.Str.ofString "many"], [PySem.Str.ofString "bounds", PySem.Str.ofString "first", PySem.Str.ofString "many", PySem.Str.ofString "row"], _law_good_places_body⟩
abbrev e__law_is_chain : FE := ⟨121, PySem.Str.ofString "_law_is_chain", top 59, [PySem.Str.ofString "bounds", PySem.Str.ofString "first", PySem.Str.ofString "value"], [PySem.Str.ofString "bounds", PySem.Str.ofString "first", PySem.Str.ofString "value", PySem.Str.ofString "row", PySem.Str.ofString "tables", PySem.Str.ofString "k"], _law_is_chain_body⟩
abbrev e__law_all_chains : FE := ⟨122, PySem.Str.ofString "_law_all_chains", top 60, [PySem.Str.ofString "bounds", PySem.Str.ofString "first", PySem.Str.ofString "many"], [PySem.Str.ofString "bounds", PySem.Str.ofString "first", PySem.Str.ofString "many", PySem.Str.ofString "tables", PySem.Str.ofString "found", PySem.Str.ofString "k", PySem.Str.ofString "longer", PySem.Str.ofString "row", PySem.Str.ofString "pair"], _law_all_chains_body⟩
abbrev e__law_bounds : FE := ⟨41, PySem.Str.ofString "_law_bounds", top 61, [PySem.Str.ofString "numbers"], [PySem.Str.ofString "numbers", PySem.Str.ofString "found", PySem.Str.ofString "number", PySem.Str.ofString "low"], _law_bounds_body⟩
abbrev e__law_row_in_v1 : FE := ⟨123, PySem.Str.ofString "_law_row_in", top 62, [PySem.Str.ofString "numbers", PySem.Str.ofString "bounds"], [PySem.Str.ofString "numbers", PySem.Str.ofString "bounds", PySem.Str.ofString "found", PySem.Str.ofString "k", PySem.Str.ofString "low", PySem.Str.ofString "high", PySem.Str.ofString "part"], _law_row_in_v1_body⟩
abbrev e__law_so : FE := ⟨124, PySem.Str.ofString "_law_so", top 63, [PySem.Str.ofString "bounds", PySem.Str.ofString "first", PySem.Str.ofString "many", PySem.Str.ofString "answer"], [PySem.Str.ofString "bounds", PySem.Str.ofString "first", PySem.Str.ofString "many", PySem.Str.ofString "answer"], _law_so_body⟩
abbrev e__law_shape_asked_v1 : FE := ⟨125, PySem.Str.ofString "_law_shape_asked", top 64, [PySem.Str.ofString "bounds", PySem.Str.ofString "first", PySem.Str.ofString "many", PySem.Str.ofString "drawn"], [PySem.Str.ofString "bounds", PySem.Str.ofString "first", PySem.Str.ofString "many", PySem.Str.ofString "drawn", PySem.Str.ofString "good", PySem.Str.ofString "told", PySem.Str.ofString "chains", PySem.Str.ofString "tries", PySem.Str.ofString "one", PySem.Str.ofString "answer", PySem.Str.ofString "wrong"], _law_shape_asked_v1_body⟩
abbrev e_law_v5 : FE := ⟨126, PySem.Str.ofString "law", top 65, [PySem.Str.ofString "script"], [PySem.Str.ofString "script", PySem.Str.ofString "numbers", PySem.Str.ofString "bounds", PySem.Str.ofString "drawn", PySem.Str.ofString "first", PySem.Str.ofString "many"], law_v5_body⟩
def tx : Tx := ⟨[e_is_whole, e_is_between, e_is_sequence, e_is_worded, e_less, e_smaller, e_larger, e_signed_kept, e_ends_kept, e_bounds_kept, e_row_kept, e_places_kept, e_pair_kept, e_need_bounds, e_need_between, e_need_shape, e_sure_tables, e_first_pair, e_chain_in, e_words_by, e_within, e_narrowed_turns, e_row_along, e_told_row, e_goes, e_shows_row, e_chain_kept, e_can, e_can_shows, e_can_holds, e__law_int, e__law_same, e__law_listed_v1, e__law_refused, e__law_low, e__law_plus, e__law_times, e__law_less, e__law_minus, e__law_is_fraction, e__law_numbers, e__law_falls, e__law_rises, e__law_is_row, e__law_fits, e__law_is_places, e__law_all_places, e__law_goes_by, e__law_bounds_go_by, e__law_good_places, e__law_is_chain, e__law_all_chains, e__law_bounds, e__law_row_in_v1, e__law_so, e__law_shape_asked_v1, e_law_v5], [(0, PySem.Str.ofString "MOST", .int 10)], [⟨0, PySem.Str.ofString "BadValue", PySem.Str.ofString "BadValue.__init__", ⟨7, 17, 7, 21⟩, ⟨7, 23, 7, 25⟩, ⟨8, 8, 8, 12⟩, ⟨8, 8, 8, 15⟩, ⟨8, 18, 8, 20⟩, ⟨8, 8, 8, 20⟩⟩], [PySem.Str.ofString "isinstance", PySem.Str.ofString "len", PySem.Str.ofString "tuple", PySem.Str.ofString "list", PySem.Str.ofString "range", PySem.Str.ofString "abs", PySem.Str.ofString "int", PySem.Str.ofString "bool", PySem.Str.ofString "str", PySem.Str.ofString "enumerate"], true⟩
theorem b_is_whole : e_is_whole.bnd := fun _ _ _ _ _ _ us hl => match us, hl with | [_], _ => rfl
theorem b_is_between : e_is_between.bnd := fun _ _ _ _ _ _ us hl => match us, hl with | [_, _, _], _ => rfl
theorem b_is_sequence : e_is_sequence.bnd := fun _ _ _ _ _ _ us hl => match us, hl with | [_], _ => rfl
theorem b_is_worded : e_is_worded.bnd := fun _ _ _ _ _ _ us hl => match us, hl with | [_, _, _], _ => rfl
theorem b_less : e_less.bnd := fun _ _ _ _ _ _ us hl => match us, hl with | [_, _], _ => rfl
theorem b_smaller : e_smaller.bnd := fun _ _ _ _ _ _ us hl => match us, hl with | [_, _], _ => rfl
theorem b_larger : e_larger.bnd := fun _ _ _ _ _ _ us hl => match us, hl with | [_, _], _ => rfl
theorem b_signed_kept : e_signed_kept.bnd := fun _ _ _ _ _ _ us hl => match us, hl with | [_], _ => rfl
theorem b_ends_kept : e_ends_kept.bnd := fun _ _ _ _ _ _ us hl => match us, hl with | [_], _ => rfl
theorem b_bounds_kept : e_bounds_kept.bnd := fun _ _ _ _ _ _ us hl => match us, hl with | [_], _ => rfl
theorem b_row_kept : e_row_kept.bnd := fun _ _ _ _ _ _ us hl => match us, hl with | [_, _], _ => rfl
theorem b_places_kept : e_places_kept.bnd := fun _ _ _ _ _ _ us hl => match us, hl with | [_, _, _], _ => rfl
theorem b_pair_kept : e_pair_kept.bnd := fun _ _ _ _ _ _ us hl => match us, hl with | [_, _], _ => rfl
theorem b_need_bounds : e_need_bounds.bnd := fun _ _ _ _ _ _ us hl => match us, hl with | [_, _], _ => rfl
theorem b_need_between : e_need_between.bnd := fun _ _ _ _ _ _ us hl => match us, hl with | [_, _, _, _], _ => rfl
theorem b_need_shape : e_need_shape.bnd := fun _ _ _ _ _ _ us hl => match us, hl with | [_, _, _], _ => rfl
theorem b_sure_tables : e_sure_tables.bnd := fun _ _ _ _ _ _ us hl => match us, hl with | [_], _ => rfl
theorem b_first_pair : e_first_pair.bnd := fun _ _ _ _ _ _ us hl => match us, hl with | [_, _, _], _ => rfl
theorem b_chain_in : e_chain_in.bnd := fun _ _ _ _ _ _ us hl => match us, hl with | [_, _, _, _, _], _ => rfl
theorem b_words_by : e_words_by.bnd := fun _ _ _ _ _ _ us hl => match us, hl with | [_, _, _], _ => rfl
theorem b_within : e_within.bnd := fun _ _ _ _ _ _ us hl => match us, hl with | [_, _], _ => rfl
theorem b_narrowed_turns : e_narrowed_turns.bnd := fun _ _ _ _ _ _ us hl => match us, hl with | [_, _], _ => rfl
theorem b_row_along : e_row_along.bnd := fun _ _ _ _ _ _ us hl => match us, hl with | [_, _], _ => rfl
theorem b_told_row : e_told_row.bnd := fun _ _ _ _ _ _ us hl => match us, hl with | [_, _, _], _ => rfl
theorem b_goes : e_goes.bnd := fun _ _ _ _ _ _ us hl => match us, hl with | [_, _, _], _ => rfl
theorem b_shows_row : e_shows_row.bnd := fun _ _ _ _ _ _ us hl => match us, hl with | [_, _, _, _], _ => rfl
theorem b_chain_kept : e_chain_kept.bnd := fun _ _ _ _ _ _ us hl => match us, hl with | [_, _, _], _ => rfl
theorem b_can : e_can.bnd := fun _ _ _ _ _ _ us hl => match us, hl with | [_, _, _], _ => rfl
theorem b_can_shows : e_can_shows.bnd := fun _ _ _ _ _ _ us hl => match us, hl with | [_, _, _, _], _ => rfl
theorem b_can_holds : e_can_holds.bnd := fun _ _ _ _ _ _ us hl => match us, hl with | [_, _, _, _], _ => rfl
theorem b__law_int : e__law_int.bnd := fun _ _ _ _ _ _ us hl => match us, hl with | [_], _ => rfl
theorem b__law_same : e__law_same.bnd := fun _ _ _ _ _ _ us hl => match us, hl with | [_, _], _ => rfl
theorem b__law_listed_v1 : e__law_listed_v1.bnd := fun _ _ _ _ _ _ us hl => match us, hl with | [_], _ => rfl
theorem b__law_refused : e__law_refused.bnd := fun _ _ _ _ _ _ us hl => match us, hl with | [_, _, _], _ => rfl
theorem b__law_low : e__law_low.bnd := fun _ _ _ _ _ _ us hl => match us, hl with | [_, _], _ => rfl
theorem b__law_plus : e__law_plus.bnd := fun _ _ _ _ _ _ us hl => match us, hl with | [_, _], _ => rfl
theorem b__law_times : e__law_times.bnd := fun _ _ _ _ _ _ us hl => match us, hl with | [_, _], _ => rfl
theorem b__law_less : e__law_less.bnd := fun _ _ _ _ _ _ us hl => match us, hl with | [_, _], _ => rfl
theorem b__law_minus : e__law_minus.bnd := fun _ _ _ _ _ _ us hl => match us, hl with | [_, _], _ => rfl
theorem b__law_is_fraction : e__law_is_fraction.bnd := fun _ _ _ _ _ _ us hl => match us, hl with | [_, _], _ => rfl
theorem b__law_numbers : e__law_numbers.bnd := fun _ _ _ _ _ _ us hl => match us, hl with | [_, _, _], _ => rfl
theorem b__law_falls : e__law_falls.bnd := fun _ _ _ _ _ _ us hl => match us, hl with | [_], _ => rfl
theorem b__law_rises : e__law_rises.bnd := fun _ _ _ _ _ _ us hl => match us, hl with | [_], _ => rfl
theorem b__law_is_row : e__law_is_row.bnd := fun _ _ _ _ _ _ us hl => match us, hl with | [_, _], _ => rfl
theorem b__law_fits : e__law_fits.bnd := fun _ _ _ _ _ _ us hl => match us, hl with | [_, _], _ => rfl
theorem b__law_is_places : e__law_is_places.bnd := fun _ _ _ _ _ _ us hl => match us, hl with | [_, _, _], _ => rfl
theorem b__law_all_places : e__law_all_places.bnd := fun _ _ _ _ _ _ us hl => match us, hl with | [_, _], _ => rfl
theorem b__law_goes_by : e__law_goes_by.bnd := fun _ _ _ _ _ _ us hl => match us, hl with | [_, _, _], _ => rfl
theorem b__law_bounds_go_by : e__law_bounds_go_by.bnd := fun _ _ _ _ _ _ us hl => match us, hl with | [_, _, _], _ => rfl
theorem b__law_good_places : e__law_good_places.bnd := fun _ _ _ _ _ _ us hl => match us, hl with | [_, _, _], _ => rfl
theorem b__law_is_chain : e__law_is_chain.bnd := fun _ _ _ _ _ _ us hl => match us, hl with | [_, _, _], _ => rfl
theorem b__law_all_chains : e__law_all_chains.bnd := fun _ _ _ _ _ _ us hl => match us, hl with | [_, _, _], _ => rfl
theorem b__law_bounds : e__law_bounds.bnd := fun _ _ _ _ _ _ us hl => match us, hl with | [_], _ => rfl
theorem b__law_row_in_v1 : e__law_row_in_v1.bnd := fun _ _ _ _ _ _ us hl => match us, hl with | [_, _], _ => rfl
theorem b__law_so : e__law_so.bnd := fun _ _ _ _ _ _ us hl => match us, hl with | [_, _, _, _], _ => rfl
theorem b__law_shape_asked_v1 : e__law_shape_asked_v1.bnd := fun _ _ _ _ _ _ us hl => match us, hl with | [_, _, _, _], _ => rfl
theorem b_law_v5 : e_law_v5.bnd := fun _ _ _ _ _ _ us hl => match us, hl with | [_], _ => rfl
theorem tx_bnd : ∀ e ∈ tx.L, e.bnd := by
  intro e he
  simp only [tx, List.mem_cons, List.not_mem_nil, or_false] at he
  rcases he with rfl | rfl | rfl | rfl | rfl | rfl | rfl | rfl | rfl | rfl | rfl | rfl | rfl | rfl | rfl | rfl | rfl | rfl | rfl | rfl | rfl | rfl | rfl | rfl | rfl | rfl | rfl | rfl | rfl | rfl | rfl | rfl | rfl | rfl | rfl | rfl | rfl | rfl | rfl | rfl | rfl | rfl | rfl | rfl | rfl | rfl | rfl | rfl | rfl | rfl | rfl | rfl | rfl | rfl | rfl | rfl | rfl
  · exact b_is_whole
  · exact b_is_between
  · exact b_is_sequence
  · exact b_is_worded
  · exact b_less
  · exact b_smaller
  · exact b_larger
  · exact b_signed_kept
  · exact b_ends_kept
  · exact b_bounds_kept
  · exact b_row_kept
  · exact b_places_kept
  · exact b_pair_kept
  · exact b_need_bounds
  · exact b_need_between
  · exact b_need_shape
  · exact b_sure_tables
  · exact b_first_pair
  · exact b_chain_in
  · exact b_words_by
  · exact b_within
  · exact b_narrowed_turns
  · exact b_row_along
  · exact b_told_row
  · exact b_goes
  · exact b_shows_row
  · exact b_chain_kept
  · exact b_can
  · exact b_can_shows
  · exact b_can_holds
  · exact b__law_int
  · exact b__law_same
  · exact b__law_listed_v1
  · exact b__law_refused
  · exact b__law_low
  · exact b__law_plus
  · exact b__law_times
  · exact b__law_less
  · exact b__law_minus
  · exact b__law_is_fraction
  · exact b__law_numbers
  · exact b__law_falls
  · exact b__law_rises
  · exact b__law_is_row
  · exact b__law_fits
  · exact b__law_is_places
  · exact b__law_all_places
  · exact b__law_goes_by
  · exact b__law_bounds_go_by
  · exact b__law_good_places
  · exact b__law_is_chain
  · exact b__law_all_chains
  · exact b__law_bounds
  · exact b__law_row_in_v1
  · exact b__law_so
  · exact b__law_shape_asked_v1
  · exact b_law_v5
theorem tx_chk : tx.L.all (fun e => e.ok tx.mt) = true := by decide +kernel
abbrev hk : PySem.W.Hook := hookP 6 tx
def ob (s : PySem.W.SharedT) : He.AlD × Bool := obsP 6 tx (HandSHeadRun.getT s)
theorem ob_eq (s : PySem.W.SharedT) : ob s = hk.obs s.abs := obsP_eq (HandSHeadRun.getT_eq s)
abbrev R : PySem.W.OpenRow := PySem.W.OpenLaw.row PySem.Challenge.rw_turntold_k06_row_or_chain
def loose : List PySem.Str := [PySem.Str.ofString "gcd", PySem.Str.ofString "RowError", PySem.Str.ofString "BadValue", PySem.Str.ofString "MOST", PySem.Str.ofString "is_whole", PySem.Str.ofString "is_between", PySem.Str.ofString "is_sequence", PySem.Str.ofString "is_worded", PySem.Str.ofString "less", PySem.Str.ofString "smaller", PySem.Str.ofString "larger", PySem.Str.ofString "signed_kept", PySem.Str.ofString "ends_kept", PySem.Str.ofString "bounds_kept", PySem.Str.ofString "row_kept", PySem.Str.ofString "places_kept", PySem.Str.ofString "pair_kept", PySem.Str.ofString "need_bounds", PySem.Str.ofString "need_between", PySem.Str.ofString "need_shape", PySem.Str.ofString "sure_tables", PySem.Str.ofString "first_pair", PySem.Str.ofString "chain_in", PySem.Str.ofString "words_by", PySem.Str.ofString "within", PySem.Str.ofString "narrowed_turns", PySem.Str.ofString "row_along", PySem.Str.ofString "told_row", PySem.Str.ofString "goes", PySem.Str.ofString "shows_row", PySem.Str.ofString "chain_kept", PySem.Str.ofString "can", PySem.Str.ofString "can_shows", PySem.Str.ofString "can_holds", PySem.Str.ofString "_law_int", PySem.Str.ofString "_law_same", PySem.Str.ofString "_law_listed", PySem.Str.ofString "_law_refused", PySem.Str.ofString "_law_low", PySem.Str.ofString "_law_plus", PySem.Str.ofString "_law_times", PySem.Str.ofString "_law_less", PySem.Str.ofString "_law_minus", PySem.Str.ofString "_law_is_fraction", PySem.Str.ofString "_law_numbers", PySem.Str.ofString "_law_falls", PySem.Str.ofString "_law_rises", PySem.Str.ofString "_law_is_row", PySem.Str.ofString "_law_fits", PySem.Str.ofString "_law_is_places", PySem.Str.ofString "_law_all_places", PySem.Str.ofString "_law_goes_by", PySem.Str.ofString "_law_bounds_go_by", PySem.Str.ofString "_law_good_places", PySem.Str.ofString "_law_is_chain", PySem.Str.ofString "_law_all_chains", PySem.Str.ofString "_law_bounds", PySem.Str.ofString "_law_row_in", PySem.Str.ofString "_law_so", PySem.Str.ofString "_law_shape_asked"]
theorem run (w : World) : HandSHeadRun.RunEqI R (PySem.W.view R.prog [0, 65]) hk ob 4000 loose w := by
  unfold HandSHeadRun.RunEqI
  kernel_rfl
end K06
end PF

namespace PF
open PySem
def KT : Prg := K06.tx.prg
theorem f0 : KT.fns 0 = some is_whole_fn := rfl
theorem f1 : KT.fns 1 = some is_between_fn := rfl
theorem f2 : KT.fns 2 = some is_sequence_fn := rfl
theorem f7 : KT.fns 7 = some less_fn := rfl
theorem f8 : KT.fns 8 = some signed_kept_fn := rfl
theorem f10 : KT.fns 10 = some ends_kept_fn := rfl
theorem f11 : KT.fns 11 = some bounds_kept_fn := rfl
theorem f12 : KT.fns 12 = some row_kept_fn := rfl
theorem f14 : KT.fns 14 = some need_bounds_fn := rfl
theorem f18 : KT.fns 18 = some need_between_fn := rfl
theorem f29 : KT.fns 29 = some _law_same_fn := rfl
theorem f31 : KT.fns 31 = some _law_refused_fn := rfl
theorem f32 : KT.fns 32 = some _law_low_fn := rfl
theorem f33 : KT.fns 33 = some _law_plus_fn := rfl
theorem f34 : KT.fns 34 = some _law_times_fn := rfl
theorem f35 : KT.fns 35 = some _law_less_fn := rfl
theorem f36 : KT.fns 36 = some _law_minus_fn := rfl
theorem f37 : KT.fns 37 = some _law_numbers_fn := rfl
theorem f41 : KT.fns 41 = some _law_bounds_fn := rfl
theorem f57 : KT.fns 57 = some _law_listed_v1_fn := rfl
theorem f64 : KT.fns 64 = some sure_tables_fn := rfl
theorem f68 : KT.fns 68 = some _law_falls_fn := rfl
theorem f69 : KT.fns 69 = some _law_rises_fn := rfl
theorem f72 : KT.fns 72 = some places_kept_fn := rfl
theorem f75 : KT.fns 75 = some words_by_fn := rfl
theorem f76 : KT.fns 76 = some goes_fn := rfl
theorem f83 : KT.fns 83 = some _law_all_places_fn := rfl
theorem f84 : KT.fns 84 = some _law_goes_by_fn := rfl
theorem f97 : KT.fns 97 = some is_worded_fn := rfl
theorem f98 : KT.fns 98 = some smaller_fn := rfl
theorem f99 : KT.fns 99 = some larger_fn := rfl
theorem f100 : KT.fns 100 = some pair_kept_fn := rfl
theorem f101 : KT.fns 101 = some need_shape_fn := rfl
theorem f103 : KT.fns 103 = some first_pair_fn := rfl
theorem f104 : KT.fns 104 = some chain_in_fn := rfl
theorem f105 : KT.fns 105 = some within_fn := rfl
theorem f106 : KT.fns 106 = some narrowed_turns_fn := rfl
theorem f107 : KT.fns 107 = some row_along_fn := rfl
theorem f108 : KT.fns 108 = some told_row_fn := rfl
theorem f109 : KT.fns 109 = some shows_row_fn := rfl
theorem f110 : KT.fns 110 = some chain_kept_fn := rfl
theorem f111 : KT.fns 111 = some can_fn := rfl
theorem f112 : KT.fns 112 = some can_shows_fn := rfl
theorem f113 : KT.fns 113 = some can_holds_fn := rfl
theorem f114 : KT.fns 114 = some _law_int_fn := rfl
theorem f115 : KT.fns 115 = some _law_is_fraction_fn := rfl
theorem f116 : KT.fns 116 = some _law_is_row_fn := rfl
theorem f117 : KT.fns 117 = some _law_fits_fn := rfl
theorem f118 : KT.fns 118 = some _law_is_places_fn := rfl
theorem f119 : KT.fns 119 = some _law_bounds_go_by_fn := rfl
theorem f120 : KT.fns 120 = some _law_good_places_fn := rfl
theorem f121 : KT.fns 121 = some _law_is_chain_fn := rfl
theorem f122 : KT.fns 122 = some _law_all_chains_fn := rfl
theorem f123 : KT.fns 123 = some _law_row_in_v1_fn := rfl
theorem f124 : KT.fns 124 = some _law_so_fn := rfl
theorem f125 : KT.fns 125 = some _law_shape_asked_v1_fn := rfl
theorem f126 : KT.fns 126 = some law_v5_fn := rfl
@[simp] theorem c0 : KT.con 0 = some (.int 10) := rfl
@[simp] theorem x_is_whole_body (C : Cal) (ρ : Env) : exs C ρ is_whole_body = exs C ρ [.ret (.and (.isi (.var 0) [.int]) (.not (.isi (.var 0) [.bool])))] := eq_of_heq HEq.rfl
@[simp] theorem ns_is_whole_fn : is_whole_fn.ns = 1 := eq_of_heq HEq.rfl
@[simp] theorem np_is_whole_fn : is_whole_fn.np = 1 := eq_of_heq HEq.rfl
@[simp] theorem bo_is_whole_fn : is_whole_fn.body = is_whole_body := eq_of_heq HEq.rfl
@[simp] theorem x_is_between_body (C : Cal) (ρ : Env) : exs C ρ is_between_body = exs C ρ [.ret (.and (.call 0 [.var 0]) (.chain .le .le (.var 1) (.var 0) (.var 2)))] := eq_of_heq HEq.rfl
@[simp] theorem ns_is_between_fn : is_between_fn.ns = 3 := eq_of_heq HEq.rfl
@[simp] theorem np_is_between_fn : is_between_fn.np = 3 := eq_of_heq HEq.rfl
@[simp] theorem bo_is_between_fn : is_between_fn.body = is_between_body := eq_of_heq HEq.rfl
@[simp] theorem x_is_sequence_body (C : Cal) (ρ : Env) : exs C ρ is_sequence_body = exs C ρ [.ret (.isi (.var 0) [.tuple, .list])] := eq_of_heq HEq.rfl
@[simp] theorem ns_is_sequence_fn : is_sequence_fn.ns = 1 := eq_of_heq HEq.rfl
@[simp] theorem np_is_sequence_fn : is_sequence_fn.np = 1 := eq_of_heq HEq.rfl
@[simp] theorem bo_is_sequence_fn : is_sequence_fn.body = is_sequence_body := eq_of_heq HEq.rfl
@[simp] theorem x_is_worded_b1 (C : Cal) (ρ : Env) : exs C ρ is_worded_b1 = exs C ρ [.ret (.bl false)] := eq_of_heq HEq.rfl
@[simp] theorem x_is_worded_body (C : Cal) (ρ : Env) : exs C ρ is_worded_body = exs C ρ [.ite (.or (.not (.call 2 [.var 0])) (.cmp .ne (.blt .len [.var 0]) (.var 2))) is_worded_b1 [], .ret (.and (.isi (.idx (.var 0) (.int 0)) [.str]) (.cmp .eq (.idx (.var 0) (.int 0)) (.var 1)))] := eq_of_heq HEq.rfl
@[simp] theorem ns_is_worded_fn : is_worded_fn.ns = 3 := eq_of_heq HEq.rfl
@[simp] theorem np_is_worded_fn : is_worded_fn.np = 3 := eq_of_heq HEq.rfl
@[simp] theorem bo_is_worded_fn : is_worded_fn.body = is_worded_body := eq_of_heq HEq.rfl
@[simp] theorem x_less_body (C : Cal) (ρ : Env) : exs C ρ less_body = exs C ρ [.ret (.cmp .lt (.bin .mul (.idx (.var 0) (.int 0)) (.idx (.var 1) (.int 1))) (.bin .mul (.idx (.var 1) (.int 0)) (.idx (.var 0) (.int 1))))] := eq_of_heq HEq.rfl
@[simp] theorem ns_less_fn : less_fn.ns = 2 := eq_of_heq HEq.rfl
@[simp] theorem np_less_fn : less_fn.np = 2 := eq_of_heq HEq.rfl
@[simp] theorem bo_less_fn : less_fn.body = less_body := eq_of_heq HEq.rfl
@[simp] theorem x_smaller_body (C : Cal) (ρ : Env) : exs C ρ smaller_body = exs C ρ [.ret (.ifx (.call 7 [.var 1, .var 0]) (.var 1) (.var 0))] := eq_of_heq HEq.rfl
@[simp] theorem ns_smaller_fn : smaller_fn.ns = 2 := eq_of_heq HEq.rfl
@[simp] theorem np_smaller_fn : smaller_fn.np = 2 := eq_of_heq HEq.rfl
@[simp] theorem bo_smaller_fn : smaller_fn.body = smaller_body := eq_of_heq HEq.rfl
@[simp] theorem x_larger_body (C : Cal) (ρ : Env) : exs C ρ larger_body = exs C ρ [.ret (.ifx (.call 7 [.var 0, .var 1]) (.var 1) (.var 0))] := eq_of_heq HEq.rfl
@[simp] theorem ns_larger_fn : larger_fn.ns = 2 := eq_of_heq HEq.rfl
@[simp] theorem np_larger_fn : larger_fn.np = 2 := eq_of_heq HEq.rfl
@[simp] theorem bo_larger_fn : larger_fn.body = larger_body := eq_of_heq HEq.rfl
@[simp] theorem x_signed_kept_b1 (C : Cal) (ρ : Env) : exs C ρ signed_kept_b1 = exs C ρ [.ret .non] := eq_of_heq HEq.rfl
@[simp] theorem x_signed_kept_b2 (C : Cal) (ρ : Env) : exs C ρ signed_kept_b2 = exs C ρ [.ret .non] := eq_of_heq HEq.rfl
@[simp] theorem x_signed_kept_body (C : Cal) (ρ : Env) : exs C ρ signed_kept_body = exs C ρ [.ite (.or (.not (.call 2 [.var 0])) (.cmp .ne (.blt .len [.var 0]) (.int 2))) signed_kept_b1 [], .set 1 (.idx (.var 0) (.int 0)), .set 2 (.idx (.var 0) (.int 1)), .ite (.or (.not (.call 0 [.var 1])) (.or (.not (.call 0 [.var 2])) (.or (.cmp .lt (.var 2) (.int 1)) (.cmp .ne (.blt .gcd [.var 1, .var 2]) (.int 1))))) signed_kept_b2 [], .ret (.tup [.var 1, .var 2])] := eq_of_heq HEq.rfl
@[simp] theorem ns_signed_kept_fn : signed_kept_fn.ns = 3 := eq_of_heq HEq.rfl
@[simp] theorem np_signed_kept_fn : signed_kept_fn.np = 1 := eq_of_heq HEq.rfl
@[simp] theorem bo_signed_kept_fn : signed_kept_fn.body = signed_kept_body := eq_of_heq HEq.rfl
@[simp] theorem x_ends_kept_b1 (C : Cal) (ρ : Env) : exs C ρ ends_kept_b1 = exs C ρ [.ret .non] := eq_of_heq HEq.rfl
@[simp] theorem x_ends_kept_b2 (C : Cal) (ρ : Env) : exs C ρ ends_kept_b2 = exs C ρ [.ret .non] := eq_of_heq HEq.rfl
@[simp] theorem x_ends_kept_body (C : Cal) (ρ : Env) : exs C ρ ends_kept_body = exs C ρ [.ite (.or (.not (.call 2 [.var 0])) (.cmp .ne (.blt .len [.var 0]) (.int 2))) ends_kept_b1 [], .set 1 (.call 8 [.idx (.var 0) (.int 0)]), .set 2 (.call 8 [.idx (.var 0) (.int 1)]), .ite (.or (.cmp .is_ (.var 1) .non) (.or (.cmp .is_ (.var 2) .non) (.call 7 [.var 2, .var 1]))) ends_kept_b2 [], .ret (.tup [.var 1, .var 2])] := eq_of_heq HEq.rfl
@[simp] theorem ns_ends_kept_fn : ends_kept_fn.ns = 3 := eq_of_heq HEq.rfl
@[simp] theorem np_ends_kept_fn : ends_kept_fn.np = 1 := eq_of_heq HEq.rfl
@[simp] theorem bo_ends_kept_fn : ends_kept_fn.body = ends_kept_body := eq_of_heq HEq.rfl
@[simp] theorem x_bounds_kept_b1 (C : Cal) (ρ : Env) : exs C ρ bounds_kept_b1 = exs C ρ [.ret .non] := eq_of_heq HEq.rfl
@[simp] theorem x_bounds_kept_b2 (C : Cal) (ρ : Env) : exs C ρ bounds_kept_b2 = exs C ρ [.ret .non] := eq_of_heq HEq.rfl
@[simp] theorem x_bounds_kept_body (C : Cal) (ρ : Env) : exs C ρ bounds_kept_body = exs C ρ [.ite (.or (.not (.call 2 [.var 0])) (.not (.chain .le .le (.int 1) (.blt .len [.var 0]) (.gl 0)))) bounds_kept_b1 [], .set 1 (.comp (.nm 2) (.var 0) .noE (.call 10 [.var 2]) [2]), .ite (.cmp .in_ .non (.var 1)) bounds_kept_b2 [], .ret (.blt .tuple [.var 1])] := eq_of_heq HEq.rfl
@[simp] theorem ns_bounds_kept_fn : bounds_kept_fn.ns = 3 := eq_of_heq HEq.rfl
@[simp] theorem np_bounds_kept_fn : bounds_kept_fn.np = 1 := eq_of_heq HEq.rfl
@[simp] theorem bo_bounds_kept_fn : bounds_kept_fn.body = bounds_kept_body := eq_of_heq HEq.rfl
@[simp] theorem x_row_kept_b1 (C : Cal) (ρ : Env) : exs C ρ row_kept_b1 = exs C ρ [.ret .non] := eq_of_heq HEq.rfl
@[simp] theorem x_row_kept_b2 (C : Cal) (ρ : Env) : exs C ρ row_kept_b2 = exs C ρ [.ret .non] := eq_of_heq HEq.rfl
@[simp] theorem x_row_kept_body (C : Cal) (ρ : Env) : exs C ρ row_kept_body = exs C ρ [.ite (.or (.not (.call 2 [.var 0])) (.cmp .ne (.blt .len [.var 0]) (.var 1))) row_kept_b1 [], .set 2 (.comp (.nm 3) (.var 0) .noE (.call 8 [.var 3]) [3]), .ite (.cmp .in_ .non (.var 2)) row_kept_b2 [], .ret (.blt .tuple [.var 2])] := eq_of_heq HEq.rfl
@[simp] theorem ns_row_kept_fn : row_kept_fn.ns = 4 := eq_of_heq HEq.rfl
@[simp] theorem np_row_kept_fn : row_kept_fn.np = 2 := eq_of_heq HEq.rfl
@[simp] theorem bo_row_kept_fn : row_kept_fn.body = row_kept_body := eq_of_heq HEq.rfl
@[simp] theorem x_places_kept_b1 (C : Cal) (ρ : Env) : exs C ρ places_kept_b1 = exs C ρ [.ret .non] := eq_of_heq HEq.rfl
@[simp] theorem x_places_kept_b2 (C : Cal) (ρ : Env) : exs C ρ places_kept_b2 = exs C ρ [.ret .non] := eq_of_heq HEq.rfl
@[simp] theorem x_places_kept_b3 (C : Cal) (ρ : Env) : exs C ρ places_kept_b3 = exs C ρ [.ite (.not (.call 1 [.var 4, .var 3, .bin .sub (.var 1) (.int 1)])) places_kept_b2 [], .set 3 (.var 4)] := eq_of_heq HEq.rfl
@[simp] theorem x_places_kept_body (C : Cal) (ρ : Env) : exs C ρ places_kept_body = exs C ρ [.ite (.or (.not (.call 2 [.var 0])) (.cmp .ne (.blt .len [.var 0]) (.bin .sub (.var 2) (.int 1)))) places_kept_b1 [], .set 3 (.int 0), .for_ (.nm 4) (.var 0) places_kept_b3, .ret (.blt .tuple [.var 0])] := eq_of_heq HEq.rfl
@[simp] theorem ns_places_kept_fn : places_kept_fn.ns = 5 := eq_of_heq HEq.rfl
@[simp] theorem np_places_kept_fn : places_kept_fn.np = 3 := eq_of_heq HEq.rfl
@[simp] theorem bo_places_kept_fn : places_kept_fn.body = places_kept_body := eq_of_heq HEq.rfl
@[simp] theorem x_pair_kept_b1 (C : Cal) (ρ : Env) : exs C ρ pair_kept_b1 = exs C ρ [.ret .non] := eq_of_heq HEq.rfl
@[simp] theorem x_pair_kept_b2 (C : Cal) (ρ : Env) : exs C ρ pair_kept_b2 = exs C ρ [.ret .non] := eq_of_heq HEq.rfl
@[simp] theorem x_pair_kept_body (C : Cal) (ρ : Env) : exs C ρ pair_kept_body = exs C ρ [.ite (.or (.not (.call 2 [.var 0])) (.cmp .ne (.blt .len [.var 0]) (.int 2))) pair_kept_b1 [], .ite (.or (.not (.call 1 [.idx (.var 0) (.int 0), .int 0, .bin .sub (.var 1) (.int 1)])) (.not (.call 1 [.idx (.var 0) (.int 1), .int 0, .bin .sub (.var 1) (.int 1)]))) pair_kept_b2 [], .ret (.tup [.idx (.var 0) (.int 0), .idx (.var 0) (.int 1)])] := eq_of_heq HEq.rfl
@[simp] theorem ns_pair_kept_fn : pair_kept_fn.ns = 2 := eq_of_heq HEq.rfl
@[simp] theorem np_pair_kept_fn : pair_kept_fn.np = 2 := eq_of_heq HEq.rfl
@[simp] theorem bo_pair_kept_fn : pair_kept_fn.body = pair_kept_body := eq_of_heq HEq.rfl
@[simp] theorem x_need_bounds_b1 (C : Cal) (ρ : Env) : exs C ρ need_bounds_b1 = exs C ρ [.rse 0 [.var 1]] := eq_of_heq HEq.rfl
@[simp] theorem x_need_bounds_body (C : Cal) (ρ : Env) : exs C ρ need_bounds_body = exs C ρ [.set 2 (.call 11 [.var 0]), .ite (.cmp .is_ (.var 2) .non) need_bounds_b1 [], .ret (.var 2)] := eq_of_heq HEq.rfl
@[simp] theorem ns_need_bounds_fn : need_bounds_fn.ns = 3 := eq_of_heq HEq.rfl
@[simp] theorem np_need_bounds_fn : need_bounds_fn.np = 2 := eq_of_heq HEq.rfl
@[simp] theorem bo_need_bounds_fn : need_bounds_fn.body = need_bounds_body := eq_of_heq HEq.rfl
@[simp] theorem x_need_between_b1 (C : Cal) (ρ : Env) : exs C ρ need_between_b1 = exs C ρ [.rse 0 [.var 3]] := eq_of_heq HEq.rfl
@[simp] theorem x_need_between_body (C : Cal) (ρ : Env) : exs C ρ need_between_body = exs C ρ [.ite (.not (.call 1 [.var 0, .var 1, .var 2])) need_between_b1 [], .ret (.var 0)] := eq_of_heq HEq.rfl
@[simp] theorem ns_need_between_fn : need_between_fn.ns = 4 := eq_of_heq HEq.rfl
@[simp] theorem np_need_between_fn : need_between_fn.np = 4 := eq_of_heq HEq.rfl
@[simp] theorem bo_need_between_fn : need_between_fn.body = need_between_body := eq_of_heq HEq.rfl
@[simp] theorem x_need_shape_body (C : Cal) (ρ : Env) : exs C ρ need_shape_body = exs C ρ [.set 3 (.call 14 [.var 0, .int 1]), .exp (.call 18 [.var 1, .int 0, .int 1, .int 2]), .exp (.call 18 [.var 2, .int 1, .gl 0, .int 3]), .ret (.var 3)] := eq_of_heq HEq.rfl
@[simp] theorem ns_need_shape_fn : need_shape_fn.ns = 4 := eq_of_heq HEq.rfl
@[simp] theorem np_need_shape_fn : need_shape_fn.np = 3 := eq_of_heq HEq.rfl
@[simp] theorem bo_need_shape_fn : need_shape_fn.body = need_shape_body := eq_of_heq HEq.rfl
@[simp] theorem x_sure_tables_body (C : Cal) (ρ : Env) : exs C ρ sure_tables_body = exs C ρ [.set 1 (.blt .rng1 [.blt .len [.var 0]]), .set 2 (.blt .tuple [.comp (.nm 4) (.var 1) .noE (.blt .tuple [.comp (.nm 3) (.var 1) .noE (.and (.cmp .lt (.var 4) (.var 3)) (.call 7 [.idx (.idx (.var 0) (.var 3)) (.int 1), .idx (.idx (.var 0) (.var 4)) (.int 0)])) [3]]) [4]]), .set 5 (.blt .tuple [.comp (.nm 4) (.var 1) .noE (.blt .tuple [.comp (.nm 3) (.var 1) .noE (.and (.cmp .lt (.var 4) (.var 3)) (.call 7 [.idx (.idx (.var 0) (.var 4)) (.int 1), .idx (.idx (.var 0) (.var 3)) (.int 0)])) [3]]) [4]]), .ret (.tup [.var 2, .var 5])] := eq_of_heq HEq.rfl
@[simp] theorem ns_sure_tables_fn : sure_tables_fn.ns = 6 := eq_of_heq HEq.rfl
@[simp] theorem np_sure_tables_fn : sure_tables_fn.np = 1 := eq_of_heq HEq.rfl
@[simp] theorem bo_sure_tables_fn : sure_tables_fn.body = sure_tables_body := eq_of_heq HEq.rfl
@[simp] theorem x_first_pair_b1 (C : Cal) (ρ : Env) : exs C ρ first_pair_b1 = exs C ρ [.ret (.tup [.var 4, .var 3])] := eq_of_heq HEq.rfl
@[simp] theorem x_first_pair_b2 (C : Cal) (ρ : Env) : exs C ρ first_pair_b2 = exs C ρ [.ite (.idx (.idx (.var 0) (.var 4)) (.var 3)) first_pair_b1 []] := eq_of_heq HEq.rfl
@[simp] theorem x_first_pair_b3 (C : Cal) (ρ : Env) : exs C ρ first_pair_b3 = exs C ρ [.for_ (.nm 4) (.blt .rng2 [.var 2, .var 3]) first_pair_b2] := eq_of_heq HEq.rfl
@[simp] theorem x_first_pair_body (C : Cal) (ρ : Env) : exs C ρ first_pair_body = exs C ρ [.for_ (.nm 3) (.blt .rng2 [.bin .add (.var 2) (.int 1), .var 1]) first_pair_b3, .ret .non] := eq_of_heq HEq.rfl
@[simp] theorem ns_first_pair_fn : first_pair_fn.ns = 5 := eq_of_heq HEq.rfl
@[simp] theorem np_first_pair_fn : first_pair_fn.np = 3 := eq_of_heq HEq.rfl
@[simp] theorem bo_first_pair_fn : first_pair_fn.body = first_pair_body := eq_of_heq HEq.rfl
@[simp] theorem x_chain_in_b1 (C : Cal) (ρ : Env) : exs C ρ chain_in_b1 = exs C ρ [.brk] := eq_of_heq HEq.rfl
@[simp] theorem x_chain_in_b2 (C : Cal) (ρ : Env) : exs C ρ chain_in_b2 = exs C ρ [.set 7 (.call 103 [.idx (.var 0) (.var 6), .var 1, .var 3]), .ite (.cmp .is_ (.var 7) .non) chain_in_b1 [], .app 5 (.var 7), .set 3 (.bin .sub (.idx (.var 7) (.int 1)) (.int 1)), .set 6 (.bin .sub (.int 1) (.var 6))] := eq_of_heq HEq.rfl
@[simp] theorem x_chain_in_body (C : Cal) (ρ : Env) : exs C ρ chain_in_body = exs C ρ [.own 5 (.lst []), .set 6 (.var 2), .whl 1000000 (.cmp .lt (.blt .len [.var 5]) (.var 4)) chain_in_b2, .ret (.blt .tuple [.var 5])] := eq_of_heq HEq.rfl
@[simp] theorem ns_chain_in_fn : chain_in_fn.ns = 8 := eq_of_heq HEq.rfl
@[simp] theorem np_chain_in_fn : chain_in_fn.np = 5 := eq_of_heq HEq.rfl
@[simp] theorem bo_chain_in_fn : chain_in_fn.body = chain_in_body := eq_of_heq HEq.rfl
@[simp] theorem x_words_by_b1 (C : Cal) (ρ : Env) : exs C ρ words_by_b1 = exs C ρ [.set 5 (.blt .len [.comp (.nm 6) (.var 1) (.cmp .le (.var 6) (.var 4)) (.var 6) [6]]), .app 3 (.bin .mod (.bin .add (.var 0) (.var 5)) (.int 2))] := eq_of_heq HEq.rfl
@[simp] theorem x_words_by_body (C : Cal) (ρ : Env) : exs C ρ words_by_body = exs C ρ [.own 3 (.lst []), .for_ (.nm 4) (.blt .rng1 [.bin .sub (.var 2) (.int 1)]) words_by_b1, .ret (.blt .tuple [.var 3])] := eq_of_heq HEq.rfl
@[simp] theorem ns_words_by_fn : words_by_fn.ns = 7 := eq_of_heq HEq.rfl
@[simp] theorem np_words_by_fn : words_by_fn.np = 3 := eq_of_heq HEq.rfl
@[simp] theorem bo_words_by_fn : words_by_fn.body = words_by_body := eq_of_heq HEq.rfl
@[simp] theorem x_within_b1 (C : Cal) (ρ : Env) : exs C ρ within_b1 = exs C ρ [.ret (.bl false)] := eq_of_heq HEq.rfl
@[simp] theorem x_within_b2 (C : Cal) (ρ : Env) : exs C ρ within_b2 = exs C ρ [.unp (.tp [(.nm 4), (.nm 5)]) (.idx (.var 0) (.var 2)), .ite (.or (.call 7 [.var 3, .var 4]) (.call 7 [.var 5, .var 3])) within_b1 []] := eq_of_heq HEq.rfl
@[simp] theorem x_within_body (C : Cal) (ρ : Env) : exs C ρ within_body = exs C ρ [.for_ (.tp [(.nm 2), (.nm 3)]) (.blt .enum [.var 1]) within_b2, .ret (.bl true)] := eq_of_heq HEq.rfl
@[simp] theorem ns_within_fn : within_fn.ns = 6 := eq_of_heq HEq.rfl
@[simp] theorem np_within_fn : within_fn.np = 2 := eq_of_heq HEq.rfl
@[simp] theorem bo_within_fn : within_fn.body = within_body := eq_of_heq HEq.rfl
@[simp] theorem x_narrowed_turns_b1 (C : Cal) (ρ : Env) : exs C ρ narrowed_turns_b1 = exs C ρ [.set 4 (.idx (.idx (.var 0) (.var 3)) (.bin .sub (.int 1) (.idx (.var 1) (.bin .sub (.var 3) (.int 1))))), .sit 2 (.var 3) (.tup [.var 4, .var 4])] := eq_of_heq HEq.rfl
@[simp] theorem x_narrowed_turns_b2 (C : Cal) (ρ : Env) : exs C ρ narrowed_turns_b2 = exs C ρ [.ite (.cmp .ne (.idx (.var 1) (.bin .sub (.var 3) (.int 1))) (.idx (.var 1) (.var 3))) narrowed_turns_b1 []] := eq_of_heq HEq.rfl
@[simp] theorem x_narrowed_turns_body (C : Cal) (ρ : Env) : exs C ρ narrowed_turns_body = exs C ρ [.own 2 (.blt .list [.var 0]), .for_ (.nm 3) (.blt .rng2 [.int 1, .blt .len [.var 1]]) narrowed_turns_b2, .ret (.blt .tuple [.var 2])] := eq_of_heq HEq.rfl
@[simp] theorem ns_narrowed_turns_fn : narrowed_turns_fn.ns = 5 := eq_of_heq HEq.rfl
@[simp] theorem np_narrowed_turns_fn : narrowed_turns_fn.np = 2 := eq_of_heq HEq.rfl
@[simp] theorem bo_narrowed_turns_fn : narrowed_turns_fn.body = narrowed_turns_body := eq_of_heq HEq.rfl
@[simp] theorem x_row_along_b1 (C : Cal) (ρ : Env) : exs C ρ row_along_b1 = exs C ρ [.set 3 (.call 99 [.var 3, .idx (.idx (.var 2) (.bin .add (.var 5) (.int 1))) (.int 0)])] := eq_of_heq HEq.rfl
@[simp] theorem x_row_along_b2 (C : Cal) (ρ : Env) : exs C ρ row_along_b2 = exs C ρ [.set 3 (.call 98 [.var 3, .idx (.idx (.var 2) (.bin .add (.var 5) (.int 1))) (.int 1)])] := eq_of_heq HEq.rfl
@[simp] theorem x_row_along_b3 (C : Cal) (ρ : Env) : exs C ρ row_along_b3 = exs C ρ [.ite (.cmp .eq (.var 6) (.int 0)) row_along_b1 row_along_b2, .app 4 (.var 3)] := eq_of_heq HEq.rfl
@[simp] theorem x_row_along_b4 (C : Cal) (ρ : Env) : exs C ρ row_along_b4 = exs C ρ [.ret .non] := eq_of_heq HEq.rfl
@[simp] theorem x_row_along_body (C : Cal) (ρ : Env) : exs C ρ row_along_body = exs C ρ [.set 2 (.call 106 [.var 0, .var 1]), .set 3 (.ifx (.and (.cmp .gt (.blt .len [.var 1]) (.int 0)) (.cmp .eq (.idx (.var 1) (.int 0)) (.int 1))) (.idx (.idx (.var 2) (.int 0)) (.int 1)) (.idx (.idx (.var 2) (.int 0)) (.int 0))), .own 4 (.lst [.var 3]), .for_ (.tp [(.nm 5), (.nm 6)]) (.blt .enum [.var 1]) row_along_b3, .frz 4, .ite (.not (.call 105 [.var 2, .var 4])) row_along_b4 [], .ret (.blt .tuple [.var 4])] := eq_of_heq HEq.rfl
@[simp] theorem ns_row_along_fn : row_along_fn.ns = 7 := eq_of_heq HEq.rfl
@[simp] theorem np_row_along_fn : row_along_fn.np = 2 := eq_of_heq HEq.rfl
@[simp] theorem bo_row_along_fn : row_along_fn.body = row_along_body := eq_of_heq HEq.rfl
@[simp] theorem x_told_row_b1 (C : Cal) (ρ : Env) : exs C ρ told_row_b1 = exs C ρ [.ret .non] := eq_of_heq HEq.rfl
@[simp] theorem x_told_row_b2 (C : Cal) (ρ : Env) : exs C ρ told_row_b2 = exs C ρ [.app 5 (.bin .sub (.var 3) (.int 1))] := eq_of_heq HEq.rfl
@[simp] theorem x_told_row_body (C : Cal) (ρ : Env) : exs C ρ told_row_body = exs C ρ [.set 3 (.blt .len [.var 0]), .set 4 (.call 104 [.call 64 [.var 0], .var 3, .var 1, .int 0, .var 2]), .ite (.cmp .eq (.blt .len [.var 4]) (.var 2)) told_row_b1 [], .own 5 (.comp (.nm 6) (.var 4) .noE (.bin .sub (.idx (.var 6) (.int 1)) (.int 1)) [6]), .whl 1000000 (.cmp .lt (.blt .len [.var 5]) (.bin .sub (.var 2) (.int 1))) told_row_b2, .frz 5, .ret (.tup [.call 107 [.var 0, .call 75 [.var 1, .var 5, .var 3]], .blt .tuple [.var 5]])] := eq_of_heq HEq.rfl
@[simp] theorem ns_told_row_fn : told_row_fn.ns = 7 := eq_of_heq HEq.rfl
@[simp] theorem np_told_row_fn : told_row_fn.np = 3 := eq_of_heq HEq.rfl
@[simp] theorem bo_told_row_fn : told_row_fn.body = told_row_body := eq_of_heq HEq.rfl
@[simp] theorem x_goes_b1 (C : Cal) (ρ : Env) : exs C ρ goes_b1 = exs C ρ [.ret (.bl false)] := eq_of_heq HEq.rfl
@[simp] theorem x_goes_b2 (C : Cal) (ρ : Env) : exs C ρ goes_b2 = exs C ρ [.ret (.bl false)] := eq_of_heq HEq.rfl
@[simp] theorem x_goes_b3 (C : Cal) (ρ : Env) : exs C ρ goes_b3 = exs C ρ [.ite (.and (.cmp .eq (.var 4) (.int 0)) (.call 7 [.idx (.var 0) (.bin .add (.var 3) (.int 1)), .idx (.var 0) (.var 3)])) goes_b1 [], .ite (.and (.cmp .eq (.var 4) (.int 1)) (.call 7 [.idx (.var 0) (.var 3), .idx (.var 0) (.bin .add (.var 3) (.int 1))])) goes_b2 []] := eq_of_heq HEq.rfl
@[simp] theorem x_goes_body (C : Cal) (ρ : Env) : exs C ρ goes_body = exs C ρ [.for_ (.tp [(.nm 3), (.nm 4)]) (.blt .enum [.call 75 [.var 1, .var 2, .blt .len [.var 0]]]) goes_b3, .ret (.bl true)] := eq_of_heq HEq.rfl
@[simp] theorem ns_goes_fn : goes_fn.ns = 5 := eq_of_heq HEq.rfl
@[simp] theorem np_goes_fn : goes_fn.np = 3 := eq_of_heq HEq.rfl
@[simp] theorem bo_goes_fn : goes_fn.body = goes_body := eq_of_heq HEq.rfl
@[simp] theorem x_shows_row_b1 (C : Cal) (ρ : Env) : exs C ρ shows_row_b1 = exs C ρ [.ret (.bl false)] := eq_of_heq HEq.rfl
@[simp] theorem x_shows_row_b2 (C : Cal) (ρ : Env) : exs C ρ shows_row_b2 = exs C ρ [.ret (.bl false)] := eq_of_heq HEq.rfl
@[simp] theorem x_shows_row_body (C : Cal) (ρ : Env) : exs C ρ shows_row_body = exs C ρ [.ite (.or (.not (.call 2 [.var 3])) (.cmp .ne (.blt .len [.var 3]) (.int 2))) shows_row_b1 [], .set 4 (.call 12 [.idx (.var 3) (.int 0), .blt .len [.var 0]]), .set 5 (.call 72 [.idx (.var 3) (.int 1), .blt .len [.var 0], .var 2]), .ite (.or (.cmp .is_ (.var 4) .non) (.cmp .is_ (.var 5) .non)) shows_row_b2 [], .ret (.and (.call 105 [.var 0, .var 4]) (.call 76 [.var 4, .var 1, .var 5]))] := eq_of_heq HEq.rfl
@[simp] theorem ns_shows_row_fn : shows_row_fn.ns = 6 := eq_of_heq HEq.rfl
@[simp] theorem np_shows_row_fn : shows_row_fn.np = 4 := eq_of_heq HEq.rfl
@[simp] theorem bo_shows_row_fn : shows_row_fn.body = shows_row_body := eq_of_heq HEq.rfl
@[simp] theorem x_chain_kept_b1 (C : Cal) (ρ : Env) : exs C ρ chain_kept_b1 = exs C ρ [.ret .non] := eq_of_heq HEq.rfl
@[simp] theorem x_chain_kept_b2 (C : Cal) (ρ : Env) : exs C ρ chain_kept_b2 = exs C ρ [.ret .non] := eq_of_heq HEq.rfl
@[simp] theorem x_chain_kept_b3 (C : Cal) (ρ : Env) : exs C ρ chain_kept_b3 = exs C ρ [.set 8 (.call 100 [.var 7, .blt .len [.var 0]]), .ite (.or (.cmp .is_ (.var 8) .non) (.or (.cmp .lt (.idx (.var 8) (.int 0)) (.var 5)) (.not (.idx (.idx (.idx (.var 3) (.var 4)) (.idx (.var 8) (.int 0))) (.idx (.var 8) (.int 1)))))) chain_kept_b2 [], .app 6 (.var 8), .set 5 (.bin .sub (.idx (.var 8) (.int 1)) (.int 1)), .set 4 (.bin .sub (.int 1) (.var 4))] := eq_of_heq HEq.rfl
@[simp] theorem x_chain_kept_body (C : Cal) (ρ : Env) : exs C ρ chain_kept_body = exs C ρ [.ite (.or (.not (.call 2 [.var 2])) (.cmp .eq (.blt .len [.var 2]) (.int 0))) chain_kept_b1 [], .set 3 (.call 64 [.var 0]), .set 4 (.var 1), .set 5 (.int 0), .own 6 (.lst []), .for_ (.nm 7) (.var 2) chain_kept_b3, .ret (.blt .tuple [.var 6])] := eq_of_heq HEq.rfl
@[simp] theorem ns_chain_kept_fn : chain_kept_fn.ns = 9 := eq_of_heq HEq.rfl
@[simp] theorem np_chain_kept_fn : chain_kept_fn.np = 3 := eq_of_heq HEq.rfl
@[simp] theorem bo_chain_kept_fn : chain_kept_fn.body = chain_kept_body := eq_of_heq HEq.rfl
@[simp] theorem x_can_b1 (C : Cal) (ρ : Env) : exs C ρ can_b1 = exs C ρ [.ret (.tup [.str (PySem.Str.ofString "chain"), .call 104 [.call 64 [.var 3], .blt .len [.var 3], .var 1, .int 0, .var 2]])] := eq_of_heq HEq.rfl
@[simp] theorem x_can_body (C : Cal) (ρ : Env) : exs C ρ can_body = exs C ρ [.set 3 (.call 101 [.var 0, .var 1, .var 2]), .set 4 (.call 108 [.var 3, .var 1, .var 2]), .ite (.cmp .is_ (.var 4) .non) can_b1 [], .ret (.tup [.str (PySem.Str.ofString "row"), .idx (.var 4) (.int 0), .idx (.var 4) (.int 1)])] := eq_of_heq HEq.rfl
@[simp] theorem ns_can_fn : can_fn.ns = 5 := eq_of_heq HEq.rfl
@[simp] theorem np_can_fn : can_fn.np = 3 := eq_of_heq HEq.rfl
@[simp] theorem bo_can_fn : can_fn.body = can_body := eq_of_heq HEq.rfl
@[simp] theorem x_can_shows_b1 (C : Cal) (ρ : Env) : exs C ρ can_shows_b1 = exs C ρ [.ret (.call 109 [.var 0, .var 1, .var 2, .tup [.idx (.var 3) (.int 1), .idx (.var 3) (.int 2)]])] := eq_of_heq HEq.rfl
@[simp] theorem x_can_shows_b2 (C : Cal) (ρ : Env) : exs C ρ can_shows_b2 = exs C ρ [.set 4 (.call 110 [.var 0, .var 1, .idx (.var 3) (.int 1)]), .ret (.and (.cmp .isnot (.var 4) .non) (.cmp .eq (.blt .len [.var 4]) (.var 2)))] := eq_of_heq HEq.rfl
@[simp] theorem x_can_shows_body (C : Cal) (ρ : Env) : exs C ρ can_shows_body = exs C ρ [.ite (.call 97 [.var 3, .str (PySem.Str.ofString "row"), .int 3]) can_shows_b1 [], .ite (.call 97 [.var 3, .str (PySem.Str.ofString "chain"), .int 2]) can_shows_b2 [], .ret (.bl false)] := eq_of_heq HEq.rfl
@[simp] theorem ns_can_shows_fn : can_shows_fn.ns = 5 := eq_of_heq HEq.rfl
@[simp] theorem np_can_shows_fn : can_shows_fn.np = 4 := eq_of_heq HEq.rfl
@[simp] theorem bo_can_shows_fn : can_shows_fn.body = can_shows_body := eq_of_heq HEq.rfl
@[simp] theorem x_can_holds_body (C : Cal) (ρ : Env) : exs C ρ can_holds_body = exs C ρ [.set 4 (.call 101 [.var 0, .var 1, .var 2]), .ret (.call 112 [.var 4, .var 1, .var 2, .var 3])] := eq_of_heq HEq.rfl
@[simp] theorem ns_can_holds_fn : can_holds_fn.ns = 5 := eq_of_heq HEq.rfl
@[simp] theorem np_can_holds_fn : can_holds_fn.np = 4 := eq_of_heq HEq.rfl
@[simp] theorem bo_can_holds_fn : can_holds_fn.body = can_holds_body := eq_of_heq HEq.rfl
@[simp] theorem x__law_int_body (C : Cal) (ρ : Env) : exs C ρ _law_int_body = exs C ρ [.ret (.and (.isi (.var 0) [.int]) (.not (.isi (.var 0) [.bool])))] := eq_of_heq HEq.rfl
@[simp] theorem ns__law_int_fn : _law_int_fn.ns = 1 := eq_of_heq HEq.rfl
@[simp] theorem np__law_int_fn : _law_int_fn.np = 1 := eq_of_heq HEq.rfl
@[simp] theorem bo__law_int_fn : _law_int_fn.body = _law_int_body := eq_of_heq HEq.rfl
@[simp] theorem x__law_same_b1 (C : Cal) (ρ : Env) : exs C ρ _law_same_b1 = exs C ρ [.ret (.bl false)] := eq_of_heq HEq.rfl
@[simp] theorem x__law_same_b2 (C : Cal) (ρ : Env) : exs C ρ _law_same_b2 = exs C ρ [.ret (.bl false)] := eq_of_heq HEq.rfl
@[simp] theorem x__law_same_b3 (C : Cal) (ρ : Env) : exs C ρ _law_same_b3 = exs C ρ [.ite (.not (.call 29 [.idx (.var 0) (.var 2), .idx (.var 1) (.var 2)])) _law_same_b2 []] := eq_of_heq HEq.rfl
@[simp] theorem x__law_same_b4 (C : Cal) (ρ : Env) : exs C ρ _law_same_b4 = exs C ρ [.ite (.or (.not (.isi (.var 0) [.tuple])) (.or (.not (.isi (.var 1) [.tuple])) (.cmp .ne (.blt .len [.var 0]) (.blt .len [.var 1])))) _law_same_b1 [], .for_ (.nm 2) (.blt .rng1 [.blt .len [.var 1]]) _law_same_b3, .ret (.bl true)] := eq_of_heq HEq.rfl
@[simp] theorem x__law_same_b5 (C : Cal) (ρ : Env) : exs C ρ _law_same_b5 = exs C ρ [.ret (.and (.cmp .is_ (.var 0) .non) (.cmp .is_ (.var 1) .non))] := eq_of_heq HEq.rfl
@[simp] theorem x__law_same_b6 (C : Cal) (ρ : Env) : exs C ρ _law_same_b6 = exs C ρ [.ret (.bl false)] := eq_of_heq HEq.rfl
@[simp] theorem x__law_same_body (C : Cal) (ρ : Env) : exs C ρ _law_same_body = exs C ρ [.ite (.or (.isi (.var 1) [.tuple]) (.isi (.var 0) [.tuple])) _law_same_b4 [], .ite (.or (.cmp .is_ (.var 0) .non) (.cmp .is_ (.var 1) .non)) _law_same_b5 [], .ite (.or (.cmp .ne (.isi (.var 0) [.bool]) (.isi (.var 1) [.bool])) (.cmp .ne (.isi (.var 0) [.str]) (.isi (.var 1) [.str]))) _law_same_b6 [], .ret (.and (.isi (.var 0) [.int, .str]) (.cmp .eq (.var 0) (.var 1)))] := eq_of_heq HEq.rfl
@[simp] theorem ns__law_same_fn : _law_same_fn.ns = 3 := eq_of_heq HEq.rfl
@[simp] theorem np__law_same_fn : _law_same_fn.np = 2 := eq_of_heq HEq.rfl
@[simp] theorem bo__law_same_fn : _law_same_fn.body = _law_same_body := eq_of_heq HEq.rfl
@[simp] theorem x__law_listed_v1_b1 (C : Cal) (ρ : Env) : exs C ρ _law_listed_v1_b1 = exs C ρ [.ret (.comp (.nm 1) (.var 0) .noE (.call 57 [.var 1]) [1])] := eq_of_heq HEq.rfl
@[simp] theorem x__law_listed_v1_body (C : Cal) (ρ : Env) : exs C ρ _law_listed_v1_body = exs C ρ [.ite (.isi (.var 0) [.tuple]) _law_listed_v1_b1 [], .ret (.var 0)] := eq_of_heq HEq.rfl
@[simp] theorem ns__law_listed_v1_fn : _law_listed_v1_fn.ns = 2 := eq_of_heq HEq.rfl
@[simp] theorem np__law_listed_v1_fn : _law_listed_v1_fn.np = 1 := eq_of_heq HEq.rfl
@[simp] theorem bo__law_listed_v1_fn : _law_listed_v1_fn.body = _law_listed_v1_body := eq_of_heq HEq.rfl
@[simp] theorem x__law_refused_b1 (C : Cal) (ρ : Env) : exs C ρ _law_refused_b1 = exs C ρ [.exp (.callv 0 [.idx (.var 1) (.int 0)])] := eq_of_heq HEq.rfl
@[simp] theorem x__law_refused_b2 (C : Cal) (ρ : Env) : exs C ρ _law_refused_b2 = exs C ρ [.exp (.callv 0 [.idx (.var 1) (.int 0), .idx (.var 1) (.int 1)])] := eq_of_heq HEq.rfl
@[simp] theorem x__law_refused_b3 (C : Cal) (ρ : Env) : exs C ρ _law_refused_b3 = exs C ρ [.exp (.callv 0 [.idx (.var 1) (.int 0), .idx (.var 1) (.int 1), .idx (.var 1) (.int 2)])] := eq_of_heq HEq.rfl
@[simp] theorem x__law_refused_b4 (C : Cal) (ρ : Env) : exs C ρ _law_refused_b4 = exs C ρ [.exp (.callv 0 [.idx (.var 1) (.int 0), .idx (.var 1) (.int 1), .idx (.var 1) (.int 2), .idx (.var 1) (.int 3)])] := eq_of_heq HEq.rfl
@[simp] theorem x__law_refused_b5 (C : Cal) (ρ : Env) : exs C ρ _law_refused_b5 = exs C ρ [.exp (.callv 0 [.idx (.var 1) (.int 0), .idx (.var 1) (.int 1), .idx (.var 1) (.int 2), .idx (.var 1) (.int 3), .idx (.var 1) (.int 4)])] := eq_of_heq HEq.rfl
@[simp] theorem x__law_refused_b6 (C : Cal) (ρ : Env) : exs C ρ _law_refused_b6 = exs C ρ [.exp (.callv 0 [.idx (.var 1) (.int 0), .idx (.var 1) (.int 1), .idx (.var 1) (.int 2), .idx (.var 1) (.int 3), .idx (.var 1) (.int 4), .idx (.var 1) (.int 5)])] := eq_of_heq HEq.rfl
@[simp] theorem x__law_refused_b7 (C : Cal) (ρ : Env) : exs C ρ _law_refused_b7 = exs C ρ [.ite (.cmp .eq (.blt .len [.var 1]) (.int 5)) _law_refused_b5 _law_refused_b6] := eq_of_heq HEq.rfl
@[simp] theorem x__law_refused_b8 (C : Cal) (ρ : Env) : exs C ρ _law_refused_b8 = exs C ρ [.ite (.cmp .eq (.blt .len [.var 1]) (.int 4)) _law_refused_b4 _law_refused_b7] := eq_of_heq HEq.rfl
@[simp] theorem x__law_refused_b9 (C : Cal) (ρ : Env) : exs C ρ _law_refused_b9 = exs C ρ [.ite (.cmp .eq (.blt .len [.var 1]) (.int 3)) _law_refused_b3 _law_refused_b8] := eq_of_heq HEq.rfl
@[simp] theorem x__law_refused_b10 (C : Cal) (ρ : Env) : exs C ρ _law_refused_b10 = exs C ρ [.ite (.cmp .eq (.blt .len [.var 1]) (.int 2)) _law_refused_b2 _law_refused_b9] := eq_of_heq HEq.rfl
@[simp] theorem x__law_refused_b11 (C : Cal) (ρ : Env) : exs C ρ _law_refused_b11 = exs C ρ [.ite (.cmp .eq (.blt .len [.var 1]) (.int 1)) _law_refused_b1 _law_refused_b10] := eq_of_heq HEq.rfl
@[simp] theorem x__law_refused_body (C : Cal) (ρ : Env) : exs C ρ _law_refused_body = exs C ρ [.tryR _law_refused_b11 0 3 (some 2), .ret (.bl false)] := eq_of_heq HEq.rfl
@[simp] theorem ns__law_refused_fn : _law_refused_fn.ns = 4 := eq_of_heq HEq.rfl
@[simp] theorem np__law_refused_fn : _law_refused_fn.np = 3 := eq_of_heq HEq.rfl
@[simp] theorem bo__law_refused_fn : _law_refused_fn.body = _law_refused_body := eq_of_heq HEq.rfl
@[simp] theorem x__law_low_b1 (C : Cal) (ρ : Env) : exs C ρ _law_low_b1 = exs C ρ [.brk] := eq_of_heq HEq.rfl
@[simp] theorem x__law_low_b2 (C : Cal) (ρ : Env) : exs C ρ _law_low_b2 = exs C ρ [.ite (.cmp .eq (.var 3) (.int 0)) _law_low_b1 [], .set 5 (.bin .mod (.blt .int [.var 2]) (.var 3)), .set 2 (.var 3), .set 3 (.var 5)] := eq_of_heq HEq.rfl
@[simp] theorem x__law_low_body (C : Cal) (ρ : Env) : exs C ρ _law_low_body = exs C ρ [.set 2 (.blt .abs [.var 0]), .set 3 (.var 1), .for_ (.nm 4) (.blt .rng1 [.int 9000]) _law_low_b2, .ret (.tup [.bin .fdiv (.var 0) (.var 2), .bin .fdiv (.var 1) (.var 2)])] := eq_of_heq HEq.rfl
@[simp] theorem ns__law_low_fn : _law_low_fn.ns = 6 := eq_of_heq HEq.rfl
@[simp] theorem np__law_low_fn : _law_low_fn.np = 2 := eq_of_heq HEq.rfl
@[simp] theorem bo__law_low_fn : _law_low_fn.body = _law_low_body := eq_of_heq HEq.rfl
@[simp] theorem x__law_plus_body (C : Cal) (ρ : Env) : exs C ρ _law_plus_body = exs C ρ [.ret (.call 32 [.bin .add (.bin .mul (.idx (.var 0) (.int 0)) (.idx (.var 1) (.int 1))) (.bin .mul (.idx (.var 1) (.int 0)) (.idx (.var 0) (.int 1))), .bin .mul (.idx (.var 0) (.int 1)) (.idx (.var 1) (.int 1))])] := eq_of_heq HEq.rfl
@[simp] theorem ns__law_plus_fn : _law_plus_fn.ns = 2 := eq_of_heq HEq.rfl
@[simp] theorem np__law_plus_fn : _law_plus_fn.np = 2 := eq_of_heq HEq.rfl
@[simp] theorem bo__law_plus_fn : _law_plus_fn.body = _law_plus_body := eq_of_heq HEq.rfl
@[simp] theorem x__law_times_body (C : Cal) (ρ : Env) : exs C ρ _law_times_body = exs C ρ [.ret (.call 32 [.bin .mul (.idx (.var 0) (.int 0)) (.idx (.var 1) (.int 0)), .bin .mul (.idx (.var 0) (.int 1)) (.idx (.var 1) (.int 1))])] := eq_of_heq HEq.rfl
@[simp] theorem ns__law_times_fn : _law_times_fn.ns = 2 := eq_of_heq HEq.rfl
@[simp] theorem np__law_times_fn : _law_times_fn.np = 2 := eq_of_heq HEq.rfl
@[simp] theorem bo__law_times_fn : _law_times_fn.body = _law_times_body := eq_of_heq HEq.rfl
@[simp] theorem x__law_less_body (C : Cal) (ρ : Env) : exs C ρ _law_less_body = exs C ρ [.ret (.cmp .lt (.bin .mul (.idx (.var 0) (.int 0)) (.idx (.var 1) (.int 1))) (.bin .mul (.idx (.var 1) (.int 0)) (.idx (.var 0) (.int 1))))] := eq_of_heq HEq.rfl
@[simp] theorem ns__law_less_fn : _law_less_fn.ns = 2 := eq_of_heq HEq.rfl
@[simp] theorem np__law_less_fn : _law_less_fn.np = 2 := eq_of_heq HEq.rfl
@[simp] theorem bo__law_less_fn : _law_less_fn.body = _law_less_body := eq_of_heq HEq.rfl
@[simp] theorem x__law_minus_body (C : Cal) (ρ : Env) : exs C ρ _law_minus_body = exs C ρ [.ret (.call 32 [.bin .sub (.bin .mul (.idx (.var 0) (.int 0)) (.idx (.var 1) (.int 1))) (.bin .mul (.idx (.var 1) (.int 0)) (.idx (.var 0) (.int 1))), .bin .mul (.idx (.var 0) (.int 1)) (.idx (.var 1) (.int 1))])] := eq_of_heq HEq.rfl
@[simp] theorem ns__law_minus_fn : _law_minus_fn.ns = 2 := eq_of_heq HEq.rfl
@[simp] theorem np__law_minus_fn : _law_minus_fn.np = 2 := eq_of_heq HEq.rfl
@[simp] theorem bo__law_minus_fn : _law_minus_fn.body = _law_minus_body := eq_of_heq HEq.rfl
@[simp] theorem x__law_is_fraction_b1 (C : Cal) (ρ : Env) : exs C ρ _law_is_fraction_b1 = exs C ρ [.ret (.bl false)] := eq_of_heq HEq.rfl
@[simp] theorem x__law_is_fraction_body (C : Cal) (ρ : Env) : exs C ρ _law_is_fraction_body = exs C ρ [.ite (.or (.not (.isi (.var 0) [.tuple])) (.or (.cmp .ne (.blt .len [.var 0]) (.int 2)) (.or (.not (.call 114 [.idx (.var 0) (.int 0)])) (.not (.call 114 [.idx (.var 0) (.int 1)]))))) _law_is_fraction_b1 [], .ret (.and (.cmp .gt (.idx (.var 0) (.int 1)) (.int 0)) (.and (.or (.var 1) (.cmp .ge (.idx (.var 0) (.int 0)) (.int 0))) (.cmp .eq (.call 32 [.idx (.var 0) (.int 0), .idx (.var 0) (.int 1)]) (.var 0))))] := eq_of_heq HEq.rfl
@[simp] theorem ns__law_is_fraction_fn : _law_is_fraction_fn.ns = 2 := eq_of_heq HEq.rfl
@[simp] theorem np__law_is_fraction_fn : _law_is_fraction_fn.np = 2 := eq_of_heq HEq.rfl
@[simp] theorem bo__law_is_fraction_fn : _law_is_fraction_fn.body = _law_is_fraction_body := eq_of_heq HEq.rfl
@[simp] theorem x__law_numbers_b1 (C : Cal) (ρ : Env) : exs C ρ _law_numbers_b1 = exs C ρ [.app 4 (.bin .mod (.blt .int [.var 5]) (.bin .pow (.int 10) (.int 9))), .set 5 (.bin .fdiv (.var 5) (.bin .pow (.int 10) (.int 9)))] := eq_of_heq HEq.rfl
@[simp] theorem x__law_numbers_b2 (C : Cal) (ρ : Env) : exs C ρ _law_numbers_b2 = exs C ρ [.set 7 (.bin .mod (.blt .int [.bin .add (.bin .add (.bin .mul (.var 3) (.int 48271)) (.bin .mul (.bin .add (.var 6) (.int 1)) (.int 69621))) (.var 1)]) (.int 2147483647)), .app 4 (.bin .mod (.bin .mod (.blt .int [.bin .add (.bin .mul (.var 7) (.int 16807)) (.bin .mul (.bin .add (.var 6) (.int 3)) (.int 40692))]) (.int 2147483399)) (.bin .pow (.int 10) (.int 9)))] := eq_of_heq HEq.rfl
@[simp] theorem x__law_numbers_b3 (C : Cal) (ρ : Env) : exs C ρ _law_numbers_b3 = exs C ρ [.ite (.cmp .ge (.var 3) (.bin .pow (.int 10) (.int 18))) _law_numbers_b1 _law_numbers_b2] := eq_of_heq HEq.rfl
@[simp] theorem x__law_numbers_body (C : Cal) (ρ : Env) : exs C ρ _law_numbers_body = exs C ρ [.set 3 (.ifx (.cmp .lt (.var 1) (.blt .len [.var 0])) (.idx (.var 0) (.var 1)) (.int 0)), .own 4 (.lst []), .set 5 (.var 3), .for_ (.nm 6) (.blt .rng1 [.var 2]) _law_numbers_b3, .frz 4, .ret (.var 4)] := eq_of_heq HEq.rfl
@[simp] theorem ns__law_numbers_fn : _law_numbers_fn.ns = 8 := eq_of_heq HEq.rfl
@[simp] theorem np__law_numbers_fn : _law_numbers_fn.np = 3 := eq_of_heq HEq.rfl
@[simp] theorem bo__law_numbers_fn : _law_numbers_fn.body = _law_numbers_body := eq_of_heq HEq.rfl
@[simp] theorem x__law_falls_b1 (C : Cal) (ρ : Env) : exs C ρ _law_falls_b1 = exs C ρ [.set 1 (.bin .add (.var 1) (.comp (.nm 3) (.blt .rng2 [.bin .add (.var 2) (.int 1), .blt .len [.var 0]]) (.call 35 [.idx (.idx (.var 0) (.var 3)) (.int 1), .idx (.idx (.var 0) (.var 2)) (.int 0)]) (.tup [.var 2, .var 3]) [3]))] := eq_of_heq HEq.rfl
@[simp] theorem x__law_falls_body (C : Cal) (ρ : Env) : exs C ρ _law_falls_body = exs C ρ [.set 1 (.lst []), .for_ (.nm 2) (.blt .rng1 [.blt .len [.var 0]]) _law_falls_b1, .ret (.var 1)] := eq_of_heq HEq.rfl
@[simp] theorem ns__law_falls_fn : _law_falls_fn.ns = 4 := eq_of_heq HEq.rfl
@[simp] theorem np__law_falls_fn : _law_falls_fn.np = 1 := eq_of_heq HEq.rfl
@[simp] theorem bo__law_falls_fn : _law_falls_fn.body = _law_falls_body := eq_of_heq HEq.rfl
@[simp] theorem x__law_rises_b1 (C : Cal) (ρ : Env) : exs C ρ _law_rises_b1 = exs C ρ [.set 1 (.bin .add (.var 1) (.comp (.nm 3) (.blt .rng2 [.bin .add (.var 2) (.int 1), .blt .len [.var 0]]) (.call 35 [.idx (.idx (.var 0) (.var 2)) (.int 1), .idx (.idx (.var 0) (.var 3)) (.int 0)]) (.tup [.var 2, .var 3]) [3]))] := eq_of_heq HEq.rfl
@[simp] theorem x__law_rises_body (C : Cal) (ρ : Env) : exs C ρ _law_rises_body = exs C ρ [.set 1 (.lst []), .for_ (.nm 2) (.blt .rng1 [.blt .len [.var 0]]) _law_rises_b1, .ret (.var 1)] := eq_of_heq HEq.rfl
@[simp] theorem ns__law_rises_fn : _law_rises_fn.ns = 4 := eq_of_heq HEq.rfl
@[simp] theorem np__law_rises_fn : _law_rises_fn.np = 1 := eq_of_heq HEq.rfl
@[simp] theorem bo__law_rises_fn : _law_rises_fn.body = _law_rises_body := eq_of_heq HEq.rfl
@[simp] theorem x__law_is_row_body (C : Cal) (ρ : Env) : exs C ρ _law_is_row_body = exs C ρ [.ret (.and (.isi (.var 0) [.tuple]) (.and (.cmp .eq (.blt .len [.var 0]) (.var 1)) (.cmp .eq (.comp (.nm 2) (.var 0) (.not (.call 115 [.var 2, .bl true])) (.var 2) [2]) (.lst []))))] := eq_of_heq HEq.rfl
@[simp] theorem ns__law_is_row_fn : _law_is_row_fn.ns = 3 := eq_of_heq HEq.rfl
@[simp] theorem np__law_is_row_fn : _law_is_row_fn.np = 2 := eq_of_heq HEq.rfl
@[simp] theorem bo__law_is_row_fn : _law_is_row_fn.body = _law_is_row_body := eq_of_heq HEq.rfl
@[simp] theorem x__law_fits_b1 (C : Cal) (ρ : Env) : exs C ρ _law_fits_b1 = exs C ρ [.ret (.bl false)] := eq_of_heq HEq.rfl
@[simp] theorem x__law_fits_body (C : Cal) (ρ : Env) : exs C ρ _law_fits_body = exs C ρ [.ite (.not (.call 116 [.var 1, .blt .len [.var 0]])) _law_fits_b1 [], .ret (.cmp .eq (.comp (.nm 2) (.blt .rng1 [.blt .len [.var 1]]) (.or (.call 35 [.idx (.var 1) (.var 2), .idx (.idx (.var 0) (.var 2)) (.int 0)]) (.call 35 [.idx (.idx (.var 0) (.var 2)) (.int 1), .idx (.var 1) (.var 2)])) (.var 2) [2]) (.lst []))] := eq_of_heq HEq.rfl
@[simp] theorem ns__law_fits_fn : _law_fits_fn.ns = 3 := eq_of_heq HEq.rfl
@[simp] theorem np__law_fits_fn : _law_fits_fn.np = 2 := eq_of_heq HEq.rfl
@[simp] theorem bo__law_fits_fn : _law_fits_fn.body = _law_fits_body := eq_of_heq HEq.rfl
@[simp] theorem x__law_is_places_b1 (C : Cal) (ρ : Env) : exs C ρ _law_is_places_b1 = exs C ρ [.ret (.bl false)] := eq_of_heq HEq.rfl
@[simp] theorem x__law_is_places_body (C : Cal) (ρ : Env) : exs C ρ _law_is_places_body = exs C ρ [.ite (.or (.not (.isi (.var 1) [.tuple])) (.or (.cmp .ne (.blt .len [.var 1]) (.var 2)) (.cmp .ne (.comp (.nm 3) (.var 1) (.or (.not (.call 114 [.var 3])) (.cmp .notin (.var 3) (.blt .rng1 [.var 0]))) (.var 3) [3]) (.lst [])))) _law_is_places_b1 [], .ret (.cmp .eq (.comp (.nm 3) (.blt .rng2 [.int 1, .blt .len [.var 1]]) (.cmp .gt (.idx (.var 1) (.bin .sub (.var 3) (.int 1))) (.idx (.var 1) (.var 3))) (.var 3) [3]) (.lst []))] := eq_of_heq HEq.rfl
@[simp] theorem ns__law_is_places_fn : _law_is_places_fn.ns = 4 := eq_of_heq HEq.rfl
@[simp] theorem np__law_is_places_fn : _law_is_places_fn.np = 3 := eq_of_heq HEq.rfl
@[simp] theorem bo__law_is_places_fn : _law_is_places_fn.body = _law_is_places_body := eq_of_heq HEq.rfl
@[simp] theorem x__law_all_places_b1 (C : Cal) (ρ : Env) : exs C ρ _law_all_places_b1 = exs C ρ [.set 4 (.bin .add (.var 4) (.comp (.nm 6) (.blt .rng2 [.ifx (.cmp .ne (.var 5) (.tup [])) (.idx (.var 5) (.neg (.int 1))) (.int 0), .var 0]) .noE (.bin .add (.var 5) (.tup [.var 6])) [6]))] := eq_of_heq HEq.rfl
@[simp] theorem x__law_all_places_b2 (C : Cal) (ρ : Env) : exs C ρ _law_all_places_b2 = exs C ρ [.set 4 (.lst []), .for_ (.nm 5) (.var 2) _law_all_places_b1, .set 2 (.var 4)] := eq_of_heq HEq.rfl
@[simp] theorem x__law_all_places_body (C : Cal) (ρ : Env) : exs C ρ _law_all_places_body = exs C ρ [.set 2 (.lst [.tup []]), .for_ (.nm 3) (.blt .rng1 [.var 1]) _law_all_places_b2, .ret (.var 2)] := eq_of_heq HEq.rfl
@[simp] theorem ns__law_all_places_fn : _law_all_places_fn.ns = 7 := eq_of_heq HEq.rfl
@[simp] theorem np__law_all_places_fn : _law_all_places_fn.np = 2 := eq_of_heq HEq.rfl
@[simp] theorem bo__law_all_places_fn : _law_all_places_fn.body = _law_all_places_body := eq_of_heq HEq.rfl
@[simp] theorem x__law_goes_by_b1 (C : Cal) (ρ : Env) : exs C ρ _law_goes_by_b1 = exs C ρ [.ret (.bl false)] := eq_of_heq HEq.rfl
@[simp] theorem x__law_goes_by_b2 (C : Cal) (ρ : Env) : exs C ρ _law_goes_by_b2 = exs C ρ [.ite (.or (.and (.cmp .eq (.bin .mod (.blt .int [.bin .add (.var 1) (.var 4)]) (.int 2)) (.int 0)) (.call 35 [.idx (.var 0) (.bin .add (.var 5) (.int 1)), .idx (.var 0) (.var 5)])) (.and (.cmp .eq (.bin .mod (.blt .int [.bin .add (.var 1) (.var 4)]) (.int 2)) (.int 1)) (.call 35 [.idx (.var 0) (.var 5), .idx (.var 0) (.bin .add (.var 5) (.int 1))]))) _law_goes_by_b1 []] := eq_of_heq HEq.rfl
@[simp] theorem x__law_goes_by_b3 (C : Cal) (ρ : Env) : exs C ρ _law_goes_by_b3 = exs C ρ [.for_ (.nm 5) (.blt .rng2 [.idx (.var 3) (.var 4), .idx (.var 3) (.bin .add (.var 4) (.int 1))]) _law_goes_by_b2] := eq_of_heq HEq.rfl
@[simp] theorem x__law_goes_by_body (C : Cal) (ρ : Env) : exs C ρ _law_goes_by_body = exs C ρ [.set 3 (.bin .add (.bin .add (.tup [.int 0]) (.var 2)) (.tup [.bin .sub (.blt .len [.var 0]) (.int 1)])), .for_ (.nm 4) (.blt .rng1 [.bin .sub (.blt .len [.var 3]) (.int 1)]) _law_goes_by_b3, .ret (.bl true)] := eq_of_heq HEq.rfl
@[simp] theorem ns__law_goes_by_fn : _law_goes_by_fn.ns = 6 := eq_of_heq HEq.rfl
@[simp] theorem np__law_goes_by_fn : _law_goes_by_fn.np = 3 := eq_of_heq HEq.rfl
@[simp] theorem bo__law_goes_by_fn : _law_goes_by_fn.body = _law_goes_by_body := eq_of_heq HEq.rfl
@[simp] theorem x__law_bounds_go_by_b1 (C : Cal) (ρ : Env) : exs C ρ _law_bounds_go_by_b1 = exs C ρ [.sit 4 (.neg (.int 1)) (.tup [.var 6, .idx (.idx (.var 4) (.neg (.int 1))) (.int 1), .idx (.var 3) (.bin .add (.var 5) (.int 1))])] := eq_of_heq HEq.rfl
@[simp] theorem x__law_bounds_go_by_b2 (C : Cal) (ρ : Env) : exs C ρ _law_bounds_go_by_b2 = exs C ρ [.app 4 (.tup [.var 6, .idx (.var 3) (.var 5), .idx (.var 3) (.bin .add (.var 5) (.int 1))])] := eq_of_heq HEq.rfl
@[simp] theorem x__law_bounds_go_by_b3 (C : Cal) (ρ : Env) : exs C ρ _law_bounds_go_by_b3 = exs C ρ [.ite (.and (.cmp .ne (.var 4) (.lst [])) (.cmp .eq (.idx (.idx (.var 4) (.neg (.int 1))) (.int 0)) (.var 6))) _law_bounds_go_by_b1 _law_bounds_go_by_b2] := eq_of_heq HEq.rfl
@[simp] theorem x__law_bounds_go_by_b4 (C : Cal) (ρ : Env) : exs C ρ _law_bounds_go_by_b4 = exs C ρ [.set 6 (.bin .mod (.blt .int [.bin .add (.var 1) (.var 5)]) (.int 2)), .ite (.cmp .lt (.idx (.var 3) (.var 5)) (.idx (.var 3) (.bin .add (.var 5) (.int 1)))) _law_bounds_go_by_b3 []] := eq_of_heq HEq.rfl
@[simp] theorem x__law_bounds_go_by_b5 (C : Cal) (ρ : Env) : exs C ρ _law_bounds_go_by_b5 = exs C ρ [.ret (.bl false)] := eq_of_heq HEq.rfl
@[simp] theorem x__law_bounds_go_by_b6 (C : Cal) (ρ : Env) : exs C ρ _law_bounds_go_by_b6 = exs C ρ [.ite (.cmp .ne (.comp (.nm 10) (.idx (.var 7) (.var 6)) (.and (.cmp .le (.var 8) (.idx (.var 10) (.int 0))) (.cmp .le (.idx (.var 10) (.int 1)) (.var 9))) (.var 10) [10]) (.lst [])) _law_bounds_go_by_b5 []] := eq_of_heq HEq.rfl
@[simp] theorem x__law_bounds_go_by_body (C : Cal) (ρ : Env) : exs C ρ _law_bounds_go_by_body = exs C ρ [.set 3 (.bin .add (.bin .add (.tup [.int 0]) (.var 2)) (.tup [.bin .sub (.blt .len [.var 0]) (.int 1)])), .own 4 (.lst []), .for_ (.nm 5) (.blt .rng1 [.bin .sub (.blt .len [.var 3]) (.int 1)]) _law_bounds_go_by_b4, .set 7 (.lst [.call 68 [.var 0], .call 69 [.var 0]]), .frz 4, .for_ (.tp [(.nm 6), (.nm 8), (.nm 9)]) (.var 4) _law_bounds_go_by_b6, .ret (.bl true)] := eq_of_heq HEq.rfl
@[simp] theorem ns__law_bounds_go_by_fn : _law_bounds_go_by_fn.ns = 11 := eq_of_heq HEq.rfl
@[simp] theorem np__law_bounds_go_by_fn : _law_bounds_go_by_fn.np = 3 := eq_of_heq HEq.rfl
@[simp] theorem bo__law_bounds_go_by_fn : _law_bounds_go_by_fn.body = _law_bounds_go_by_body := eq_of_heq HEq.rfl
@[simp] theorem x__law_good_places_body (C : Cal) (ρ : Env) : exs C ρ _law_good_places_body = exs C ρ [.ret (.comp (.nm 3) (.call 83 [.blt .len [.var 0], .bin .sub (.var 2) (.int 1)]) (.call 119 [.var 0, .var 1, .var 3]) (.var 3) [3])] := eq_of_heq HEq.rfl
@[simp] theorem ns__law_good_places_fn : _law_good_places_fn.ns = 4 := eq_of_heq HEq.rfl
@[simp] theorem np__law_good_places_fn : _law_good_places_fn.np = 3 := eq_of_heq HEq.rfl
@[simp] theorem bo__law_good_places_fn : _law_good_places_fn.body = _law_good_places_body := eq_of_heq HEq.rfl
@[simp] theorem x__law_is_chain_b1 (C : Cal) (ρ : Env) : exs C ρ _law_is_chain_b1 = exs C ρ [.ret (.bl false)] := eq_of_heq HEq.rfl
@[simp] theorem x__law_is_chain_b2 (C : Cal) (ρ : Env) : exs C ρ _law_is_chain_b2 = exs C ρ [.ret (.bl false)] := eq_of_heq HEq.rfl
@[simp] theorem x__law_is_chain_b3 (C : Cal) (ρ : Env) : exs C ρ _law_is_chain_b3 = exs C ρ [.ite (.or (.cmp .notin (.idx (.var 2) (.var 5)) (.idx (.var 4) (.bin .mod (.blt .int [.bin .add (.var 1) (.var 5)]) (.int 2)))) (.or (.not (.call 114 [.idx (.idx (.var 2) (.var 5)) (.int 0)])) (.and (.cmp .gt (.var 5) (.int 0)) (.cmp .lt (.idx (.idx (.var 2) (.var 5)) (.int 0)) (.bin .sub (.idx (.idx (.var 2) (.bin .sub (.var 5) (.int 1))) (.int 1)) (.int 1)))))) _law_is_chain_b2 []] := eq_of_heq HEq.rfl
@[simp] theorem x__law_is_chain_body (C : Cal) (ρ : Env) : exs C ρ _law_is_chain_body = exs C ρ [.ite (.or (.not (.isi (.var 2) [.tuple])) (.or (.cmp .eq (.var 2) (.tup [])) (.cmp .ne (.comp (.nm 3) (.var 2) (.or (.not (.isi (.var 3) [.tuple])) (.cmp .ne (.blt .len [.var 3]) (.int 2))) (.var 3) [3]) (.lst [])))) _law_is_chain_b1 [], .set 4 (.lst [.call 68 [.var 0], .call 69 [.var 0]]), .for_ (.nm 5) (.blt .rng1 [.blt .len [.var 2]]) _law_is_chain_b3, .ret (.bl true)] := eq_of_heq HEq.rfl
@[simp] theorem ns__law_is_chain_fn : _law_is_chain_fn.ns = 6 := eq_of_heq HEq.rfl
@[simp] theorem np__law_is_chain_fn : _law_is_chain_fn.np = 3 := eq_of_heq HEq.rfl
@[simp] theorem bo__law_is_chain_fn : _law_is_chain_fn.body = _law_is_chain_body := eq_of_heq HEq.rfl
@[simp] theorem x__law_all_chains_b1 (C : Cal) (ρ : Env) : exs C ρ _law_all_chains_b1 = exs C ρ [.set 6 (.bin .add (.var 6) (.comp (.nm 8) (.idx (.var 3) (.bin .mod (.blt .int [.bin .add (.var 1) (.var 5)]) (.int 2))) (.or (.cmp .eq (.var 7) (.tup [])) (.cmp .ge (.idx (.var 8) (.int 0)) (.bin .sub (.idx (.idx (.var 7) (.neg (.int 1))) (.int 1)) (.int 1)))) (.bin .add (.var 7) (.tup [.var 8])) [8]))] := eq_of_heq HEq.rfl
@[simp] theorem x__law_all_chains_b2 (C : Cal) (ρ : Env) : exs C ρ _law_all_chains_b2 = exs C ρ [.set 6 (.lst []), .for_ (.nm 7) (.var 4) _law_all_chains_b1, .set 4 (.slc (.var 6) .noE (.int 3000))] := eq_of_heq HEq.rfl
@[simp] theorem x__law_all_chains_body (C : Cal) (ρ : Env) : exs C ρ _law_all_chains_body = exs C ρ [.set 3 (.lst [.call 68 [.var 0], .call 69 [.var 0]]), .set 4 (.lst [.tup []]), .for_ (.nm 5) (.blt .rng1 [.var 2]) _law_all_chains_b2, .ret (.var 4)] := eq_of_heq HEq.rfl
@[simp] theorem ns__law_all_chains_fn : _law_all_chains_fn.ns = 9 := eq_of_heq HEq.rfl
@[simp] theorem np__law_all_chains_fn : _law_all_chains_fn.np = 3 := eq_of_heq HEq.rfl
@[simp] theorem bo__law_all_chains_fn : _law_all_chains_fn.body = _law_all_chains_body := eq_of_heq HEq.rfl
@[simp] theorem x__law_bounds_b1 (C : Cal) (ρ : Env) : exs C ρ _law_bounds_b1 = exs C ρ [.set 3 (.call 32 [.bin .sub (.bin .mod (.blt .int [.var 2]) (.int 13)) (.int 5), .bin .add (.int 1) (.bin .mod (.blt .int [.bin .fdiv (.var 2) (.int 13)]) (.int 2))]), .app 1 (.tup [.var 3, .call 33 [.var 3, .call 32 [.bin .mod (.blt .int [.bin .fdiv (.var 2) (.int 26)]) (.int 6), .bin .add (.int 1) (.bin .mod (.blt .int [.bin .fdiv (.var 2) (.int 156)]) (.int 2))]]])] := eq_of_heq HEq.rfl
@[simp] theorem x__law_bounds_body (C : Cal) (ρ : Env) : exs C ρ _law_bounds_body = exs C ρ [.own 1 (.lst []), .for_ (.nm 2) (.slc (.var 0) (.int 1) (.bin .add (.int 4) (.bin .mod (.blt .int [.idx (.var 0) (.int 0)]) (.int 4)))) _law_bounds_b1, .ret (.blt .tuple [.var 1])] := eq_of_heq HEq.rfl
@[simp] theorem ns__law_bounds_fn : _law_bounds_fn.ns = 4 := eq_of_heq HEq.rfl
@[simp] theorem np__law_bounds_fn : _law_bounds_fn.np = 1 := eq_of_heq HEq.rfl
@[simp] theorem bo__law_bounds_fn : _law_bounds_fn.body = _law_bounds_body := eq_of_heq HEq.rfl
@[simp] theorem x__law_row_in_v1_b1 (C : Cal) (ρ : Env) : exs C ρ _law_row_in_v1_b1 = exs C ρ [.unp (.tp [(.nm 4), (.nm 5)]) (.idx (.var 1) (.var 3)), .set 6 (.call 32 [.bin .mod (.blt .int [.bin .fdiv (.idx (.var 0) (.bin .mod (.var 3) (.blt .len [.var 0]))) (.bin .add (.int 1) (.bin .mul (.int 3) (.var 3)))]) (.int 5), .int 4]), .app 2 (.call 33 [.var 4, .call 34 [.var 6, .call 36 [.var 5, .var 4]]])] := eq_of_heq HEq.rfl
@[simp] theorem x__law_row_in_v1_body (C : Cal) (ρ : Env) : exs C ρ _law_row_in_v1_body = exs C ρ [.own 2 (.lst []), .for_ (.nm 3) (.blt .rng1 [.blt .len [.var 1]]) _law_row_in_v1_b1, .ret (.blt .tuple [.var 2])] := eq_of_heq HEq.rfl
@[simp] theorem ns__law_row_in_v1_fn : _law_row_in_v1_fn.ns = 7 := eq_of_heq HEq.rfl
@[simp] theorem np__law_row_in_v1_fn : _law_row_in_v1_fn.np = 2 := eq_of_heq HEq.rfl
@[simp] theorem bo__law_row_in_v1_fn : _law_row_in_v1_fn.body = _law_row_in_v1_body := eq_of_heq HEq.rfl
@[simp] theorem x__law_so_b1 (C : Cal) (ρ : Env) : exs C ρ _law_so_b1 = exs C ρ [.ret (.bl false)] := eq_of_heq HEq.rfl
@[simp] theorem x__law_so_b2 (C : Cal) (ρ : Env) : exs C ρ _law_so_b2 = exs C ρ [.ite (.or (.not (.call 117 [.var 0, .idx (.var 3) (.int 1)])) (.not (.call 118 [.blt .len [.var 0], .idx (.var 3) (.int 2), .bin .sub (.var 2) (.int 1)]))) _law_so_b1 [], .ret (.call 84 [.idx (.var 3) (.int 1), .var 1, .idx (.var 3) (.int 2)])] := eq_of_heq HEq.rfl
@[simp] theorem x__law_so_body (C : Cal) (ρ : Env) : exs C ρ _law_so_body = exs C ρ [.ite (.and (.cmp .eq (.idx (.var 3) (.int 0)) (.str (PySem.Str.ofString "row"))) (.cmp .eq (.blt .len [.var 3]) (.int 3))) _law_so_b2 [], .ret (.and (.cmp .eq (.idx (.var 3) (.int 0)) (.str (PySem.Str.ofString "chain"))) (.and (.cmp .eq (.blt .len [.var 3]) (.int 2)) (.and (.call 121 [.var 0, .var 1, .idx (.var 3) (.int 1)]) (.cmp .eq (.blt .len [.idx (.var 3) (.int 1)]) (.var 2)))))] := eq_of_heq HEq.rfl
@[simp] theorem ns__law_so_fn : _law_so_fn.ns = 4 := eq_of_heq HEq.rfl
@[simp] theorem np__law_so_fn : _law_so_fn.np = 4 := eq_of_heq HEq.rfl
@[simp] theorem bo__law_so_fn : _law_so_fn.body = _law_so_body := eq_of_heq HEq.rfl
@[simp] theorem x__law_shape_asked_v1_b1 (C : Cal) (ρ : Env) : exs C ρ _law_shape_asked_v1_b1 = exs C ρ [.ret (.bl false)] := eq_of_heq HEq.rfl
@[simp] theorem x__law_shape_asked_v1_b2 (C : Cal) (ρ : Env) : exs C ρ _law_shape_asked_v1_b2 = exs C ρ [.ret (.bl false)] := eq_of_heq HEq.rfl
@[simp] theorem x__law_shape_asked_v1_b3 (C : Cal) (ρ : Env) : exs C ρ _law_shape_asked_v1_b3 = exs C ρ [.app 7 (.tup [.str (PySem.Str.ofString "row"), .var 3, .var 8])] := eq_of_heq HEq.rfl
@[simp] theorem x__law_shape_asked_v1_b4 (C : Cal) (ρ : Env) : exs C ρ _law_shape_asked_v1_b4 = exs C ρ [.set 7 (.bin .add (.var 7) (.lst [.tup [.str (PySem.Str.ofString "row"), .idx (.var 5) (.int 1), .idx (.var 4) (.neg (.int 1))], .tup [.str (PySem.Str.ofString "row"), .rev (.idx (.var 5) (.int 1)), .idx (.var 5) (.int 2)], .tup [.str (PySem.Str.ofString "row"), .blt .tuple [.comp (.nm 8) (.idx (.var 5) (.int 1)) .noE (.call 33 [.var 8, .tup [.int 9, .int 1]]) [8]], .idx (.var 5) (.int 2)]]))] := eq_of_heq HEq.rfl
@[simp] theorem x__law_shape_asked_v1_b5 (C : Cal) (ρ : Env) : exs C ρ _law_shape_asked_v1_b5 = exs C ρ [.ret (.bl false)] := eq_of_heq HEq.rfl
@[simp] theorem x__law_shape_asked_v1_b6 (C : Cal) (ρ : Env) : exs C ρ _law_shape_asked_v1_b6 = exs C ρ [.ite (.not (.call 29 [.call 113 [.var 0, .var 1, .var 2, .var 9], .call 124 [.var 0, .var 1, .var 2, .var 9]])) _law_shape_asked_v1_b5 []] := eq_of_heq HEq.rfl
@[simp] theorem x__law_shape_asked_v1_b7 (C : Cal) (ρ : Env) : exs C ρ _law_shape_asked_v1_b7 = exs C ρ [.ret (.bl false)] := eq_of_heq HEq.rfl
@[simp] theorem x__law_shape_asked_v1_b8 (C : Cal) (ρ : Env) : exs C ρ _law_shape_asked_v1_b8 = exs C ρ [.ite (.cmp .ne (.call 113 [.var 0, .var 1, .var 2, .var 10]) (.bl false)) _law_shape_asked_v1_b7 []] := eq_of_heq HEq.rfl
@[simp] theorem x__law_shape_asked_v1_body (C : Cal) (ρ : Env) : exs C ρ _law_shape_asked_v1_body = exs C ρ [.set 4 (.call 120 [.var 0, .var 1, .var 2]), .set 5 (.call 111 [.call 57 [.var 0], .var 1, .var 2]), .ite (.or (.not (.isi (.var 5) [.tuple])) (.or (.cmp .eq (.var 5) (.tup [])) (.or (.cmp .ne (.idx (.var 5) (.int 0)) (.ifx (.cmp .ne (.var 4) (.lst [])) (.str (PySem.Str.ofString "row")) (.str (PySem.Str.ofString "chain")))) (.not (.call 124 [.var 0, .var 1, .var 2, .var 5]))))) _law_shape_asked_v1_b1 [], .set 6 (.call 122 [.var 0, .var 1, .var 2]), .ite (.or (.cmp .ne (.cmp .eq (.var 6) (.lst [])) (.cmp .ne (.var 4) (.lst []))) (.cmp .ne (.call 113 [.call 57 [.var 0], .var 1, .var 2, .call 57 [.var 5]]) (.bl true))) _law_shape_asked_v1_b2 [], .own 7 (.comp (.nm 8) (.bin .add (.bin .add (.slc (.var 6) .noE (.int 3)) (.slc (.call 122 [.var 0, .var 1, .bin .add (.var 2) (.int 1)]) .noE (.int 2))) (.slc (.call 122 [.var 0, .bin .sub (.int 1) (.var 1), .var 2]) .noE (.int 3))) .noE (.tup [.str (PySem.Str.ofString "chain"), .var 8]) [8]), .for_ (.nm 8) (.stp (.call 83 [.blt .len [.var 0], .bin .sub (.var 2) (.int 1)]) 5) _law_shape_asked_v1_b3, .ite (.cmp .ne (.var 4) (.lst [])) _law_shape_asked_v1_b4 [], .frz 7, .for_ (.nm 9) (.var 7) _law_shape_asked_v1_b6, .for_ (.nm 10) (.lst [.non, .tup [], .slc (.var 5) .noE (.int 1), .bin .add (.tup [.str (PySem.Str.ofString "some")]) (.slc (.var 5) (.int 1) .noE), .tup [.idx (.var 5) (.int 0), .non], .tup [.str (PySem.Str.ofString "chain"), .tup []], .tup [.str (PySem.Str.ofString "row"), .non, .non]]) _law_shape_asked_v1_b8, .ret (.bl true)] := eq_of_heq HEq.rfl
@[simp] theorem ns__law_shape_asked_v1_fn : _law_shape_asked_v1_fn.ns = 11 := eq_of_heq HEq.rfl
@[simp] theorem np__law_shape_asked_v1_fn : _law_shape_asked_v1_fn.np = 4 := eq_of_heq HEq.rfl
@[simp] theorem bo__law_shape_asked_v1_fn : _law_shape_asked_v1_fn.body = _law_shape_asked_v1_body := eq_of_heq HEq.rfl
@[simp] theorem x_law_v5_b1 (C : Cal) (ρ : Env) : exs C ρ law_v5_b1 = exs C ρ [.ret (.bl false)] := eq_of_heq HEq.rfl
@[simp] theorem x_law_v5_b2 (C : Cal) (ρ : Env) : exs C ρ law_v5_b2 = exs C ρ [.ite (.not (.call 125 [.var 2, .var 4, .var 5, .var 3])) law_v5_b1 []] := eq_of_heq HEq.rfl
@[simp] theorem x_law_v5_b3 (C : Cal) (ρ : Env) : exs C ρ law_v5_b3 = exs C ρ [.for_ (.nm 5) (.lst [.int 1, .int 2, .int 3, .int 4]) law_v5_b2] := eq_of_heq HEq.rfl
@[simp] theorem x_law_v5_b4 (C : Cal) (ρ : Env) : exs C ρ law_v5_b4 = exs C ρ [.ret (.bl false)] := eq_of_heq HEq.rfl
@[simp] theorem x_law_v5_body (C : Cal) (ρ : Env) : exs C ρ law_v5_body = exs C ρ [.set 1 (.call 37 [.var 0, .int 0, .int 14]), .set 2 (.call 41 [.var 1]), .set 3 (.call 123 [.slc (.var 1) (.int 8) .noE, .var 2]), .for_ (.nm 4) (.lst [.int 0, .int 1]) law_v5_b3, .ite (.or (.not (.call 31 [.fnv 111, .lst [.non, .int 0, .int 1], .int 1])) (.or (.not (.call 31 [.fnv 111, .lst [.var 2, .int 2, .int 1], .int 2])) (.not (.call 31 [.fnv 111, .lst [.var 2, .int 0, .int 0], .int 3])))) law_v5_b4 [], .ret (.and (.call 31 [.fnv 111, .lst [.var 2, .int 2, .int 0], .int 2]) (.and (.call 31 [.fnv 111, .lst [.var 2, .int 0, .int 11], .int 3]) (.call 31 [.fnv 113, .lst [.var 2, .bl true, .int 1, .non], .int 2])))] := eq_of_heq HEq.rfl
@[simp] theorem ns_law_v5_fn : law_v5_fn.ns = 6 := eq_of_heq HEq.rfl
@[simp] theorem np_law_v5_fn : law_v5_fn.np = 1 := eq_of_heq HEq.rfl
@[simp] theorem bo_law_v5_fn : law_v5_fn.body = law_v5_body := eq_of_heq HEq.rfl
end PF

namespace PF
open PySem
def Fd (I : Env → Prop) (C : Cal) (ss : List S) (Q : O → Prop) : Option D → Prop
  | none => ∀ ρ', I ρ' → Wp (exs C ρ' ss) Q
  | some d => Q (.rt d)
/-- a loop that stops at the first item that tells a value -/
theorem wp_find {α : Type} {C : Cal} {t : Tg} {body ss : List S} {Q : O → Prop} {e : α → D} (I : Env → Prop) (stop : α → Option D) {l : List α} {ρ : Env} (h0 : I ρ)
    (step : ∀ a ∈ l, ∀ ρ, I ρ → Wp (tn C t body (e a) ρ) (Sp I (stop a))) (fin : Fd I C ss Q (l.findSome? stop)) : Wp (thn C ss (lop C t body (l.map e) ρ)) Q := by
  induction l generalizing ρ with
  | nil => rw [List.map_nil, lp_0, thn_nx]; exact fin ρ h0
  | cons a l ih =>
    have h := (step a List.mem_cons_self ρ h0).get
    rw [List.map_cons, lp_c]
    rw [List.findSome?_cons] at fin
    cases hs : stop a with
    | none =>
      rw [hs] at h fin
      cases hb : tn C t body (e a) ρ with
      | nx ρ2 => rw [hb] at h; exact ih h (fun b hb => step b (List.mem_cons_of_mem _ hb)) fin
      | ct ρ2 => rw [hb] at h; exact ih h (fun b hb => step b (List.mem_cons_of_mem _ hb)) fin
      | _ => rw [hb] at h; exact False.elim h
    | some d =>
      rw [hs] at h fin
      have h : tn C t body (e a) ρ = .rt d := h
      rw [h]
      exact ⟨fin⟩
/-- the last of a block -/
theorem thn_nil (C : Cal) (o : O) : thn C [] o = o := by
  cases o with
  | nx ρ => rw [thn_nx, z_exs0]
  | _ => rfl
theorem exs_app (C : Cal) : ∀ (b : List S) (ρ : Env) (a : List S), exs C ρ (b ++ a) = thn C a (exs C ρ b)
  | [], ρ, a => by rw [List.nil_append, z_exs0, thn_nx]
  | s :: b, ρ, a => by
    rw [List.cons_append, y_exs, y_exs]
    cases exS C ρ s with
    | nx ρ1 => rw [thn_nx, thn_nx, exs_app C b ρ1 a]
    | _ => rfl
@[simp] theorem thn_thn (C : Cal) (a b : List S) (o : O) : thn C a (thn C b o) = thn C (b ++ a) o := by
  cases o with
  | nx ρ => rw [thn_nx, thn_nx, exs_app]
  | _ => rfl
theorem nm_eq {i : Nat} {z : Int} (h : z = (i : Int)) : D.int z = nm i := by rw [h]
@[simp] theorem at_0 (d : D) (ds : List D) : atL (d :: ds) 0 = .ok d := eq_of_heq HEq.rfl
@[simp] theorem at_1 (a d : D) (ds : List D) : atL (a :: d :: ds) 1 = .ok d := eq_of_heq HEq.rfl
@[simp] theorem at_2 (a b d : D) (ds : List D) : atL (a :: b :: d :: ds) 2 = .ok d := eq_of_heq HEq.rfl
theorem findSome_map {α β γ : Type} (e : β → γ) (h : α → Option β) : ∀ l : List α, l.findSome? (fun a => (h a).map e) = (l.findSome? h).map e
  | [] => rfl
  | a :: l => by
    rw [List.findSome?_cons, List.findSome?_cons]
    cases h a with
    | none => exact findSome_map e h l
    | some b => rfl
theorem filt_any {α : Type} (l : List α) (p : α → Bool) : (l.filter p).isEmpty = !(l.any p) := by
  induction l with
  | nil => rfl
  | cons a l ih => rw [List.filter_cons, List.any_cons]; cases p a <;> simp [ih]
/-! == of plain values; the law's own same -/
mutual
/-- made of None, bools, whole numbers, strings and tuples, at most n deep, no tuple long -/
def plD : Nat → D → Bool
  | _, .non => true
  | _, .bl _ => true
  | _, .int _ => true
  | _, .str s => PyData.strOk s
  | n + 1, .tup ds => decide (ds.length ≤ 100000) && plDs n ds
  | _, _ => false
def plDs : Nat → List D → Bool
  | _, [] => true
  | n, d :: ds => plD n d && plDs n ds
end
mutual
def smD : D → D → Bool
  | .non, .non => true
  | .bl a, .bl b => a == b
  | .int a, .int b => a == b
  | .str a, .str b => a == b
  | .tup a, .tup b => smDs a b
  | _, _ => false
def smDs : List D → List D → Bool
  | [], [] => true
  | a :: as, b :: bs => smD a b && smDs as bs
  | _, _ => false
end
theorem smDs_len : ∀ {a b : List D}, smDs a b = true → a.length = b.length
  | [], [], _ => rfl
  | _ :: a, _ :: b, h => by
    simp only [smDs, Bool.and_eq_true] at h
    simp [smDs_len h.2]
  | [], _ :: _, h => by cases h
  | _ :: _, [], h => by cases h
theorem smDs_all : ∀ {a b : List D}, a.length = b.length → smDs a b = (List.range b.length).all fun i => smD (a[i]?.getD .non) (b[i]?.getD .non)
  | [], [], _ => rfl
  | x :: a, y :: b, h => by
    have h : a.length = b.length := by simpa using h
    rw [List.length_cons, List.range_succ_eq_map, List.all_cons, List.all_map, smDs, smDs_all h]
    rfl
  | [], _ :: _, h => by simp at h
  | _ :: _, [], h => by simp at h
theorem plDs_mem {n : Nat} : ∀ {ds : List D}, plDs n ds = true → ∀ d ∈ ds, plD n d = true
  | [], _, d, hd => by cases hd
  | x :: ds, h, d, hd => by
    simp only [plDs, Bool.and_eq_true] at h
    rcases List.mem_cons.mp hd with rfl | hd
    · exact h.1
    · exact plDs_mem h.2 d hd
mutual
theorem smD_refl : ∀ (n : Nat) (d : D), plD n d = true → smD d d = true
  | _, .non, _ => rfl
  | _, .bl a, _ => by simp [smD]
  | _, .int a, _ => by simp [smD]
  | _, .str a, _ => by simp [smD]
  | n + 1, .tup ds, h => by
    simp only [plD, Bool.and_eq_true] at h
    simp only [smD]
    exact smDs_refl n ds h.2
  | 0, .tup ds, h => by cases h
  | n, .lst ds, h => by cases n <;> cases h
  | n, .fz ds, h => by cases n <;> cases h
  | n, .rng _ _, h => by cases n <;> cases h
  | n, .fn _, h => by cases n <;> cases h
  | n, .itr _, h => by cases n <;> cases h
theorem smDs_refl : ∀ (n : Nat) (ds : List D), plDs n ds = true → smDs ds ds = true
  | _, [], _ => rfl
  | n, d :: ds, h => by
    simp only [plDs, Bool.and_eq_true] at h
    simp only [smDs, smD_refl n d h.1, smDs_refl n ds h.2, Bool.and_self]
end
mutual
theorem okD_plD : ∀ (n : Nat) (d : D), plD n d = true → ∀ m, n ≤ m → okD m d = true
  | _, .non, _, m, _ => by cases m <;> rfl
  | _, .bl a, _, m, _ => by cases m <;> rfl
  | _, .int a, _, m, _ => by cases m <;> rfl
  | n, .str a, h, m, _ => by
    have h : PyData.strOk a = true := by cases n <;> exact h
    cases m <;> exact h
  | n + 1, .tup ds, h, m + 1, hm => by
    simp only [plD, Bool.and_eq_true] at h
    exact okDs_plD n ds h.2 m (by omega)
  | 0, .tup ds, h, _, _ => by cases h
  | n + 1, .tup ds, h, 0, hm => by omega
  | n, .lst ds, h, _, _ => by cases n <;> cases h
  | n, .fz ds, h, _, _ => by cases n <;> cases h
  | n, .rng _ _, h, _, _ => by cases n <;> cases h
  | n, .fn _, h, _, _ => by cases n <;> cases h
  | n, .itr _, h, _, _ => by cases n <;> cases h
theorem okDs_plD : ∀ (n : Nat) (ds : List D), plDs n ds = true → ∀ m, n ≤ m → okDs m ds = true
  | _, [], _, m, _ => by cases m <;> rfl
  | n, d :: ds, h, m, hm => by
    simp only [plDs, Bool.and_eq_true] at h
    simp only [okDs, okD_plD n d h.1 m hm, okDs_plD n ds h.2 m hm, Bool.and_self]
end
theorem eqR_str {a b : Str} (ha : PyData.strOk a = true) (hb : PyData.strOk b = true) : eqR (.str a) (.str b) = .ok (a == b) := eq_str ha hb
theorem eqR_mix1 (i : Int) (a : Str) (ha : PyData.strOk a = true) : eqR (.int i) (.str a) = .ok false := by
  unfold eqR
  rw [if_pos (by simp [okD, ha])]
  rfl
theorem plDs_map {α : Type} {n : Nat} {f : α → D} : ∀ {l : List α}, (∀ a ∈ l, plD n (f a) = true) → plDs n (l.map f) = true
  | [], _ => by cases n <;> rfl
  | a :: l, h => by
    rw [List.map_cons, plDs, h a List.mem_cons_self, plDs_map fun b hb => h b (List.mem_cons_of_mem _ hb)]
    rfl
theorem plD_tup {α : Type} {n : Nat} {f : α → D} {l : List α} (hl : l.length ≤ 100000) (h : ∀ a ∈ l, plD n (f a) = true) : plD (n + 1) (.tup (l.map f)) = true := by
  simp only [plD, plDs_map h, List.length_map, hl, decide_true, Bool.and_self]
theorem plD_nm (n i : Nat) : plD n (nm i) = true := by cases n <;> rfl
theorem plD_int (n : Nat) (i : Int) : plD n (.int i) = true := by cases n <;> rfl

theorem same29 : ∀ (k n : Nat) (a b : D), plD k a = true → plD k b = true → callF KT (n + k + 1) 29 [a, b] = .ok (.bl (smD a b)) := by
  intro k
  induction k with
  | zero =>
    intro n a b ha hb
    refine fn_wp f29 (by simp) ?_
    cases a <;> first | (exact absurd ha Bool.false_ne_true) | (cases b <;> first | (exact absurd hb Bool.false_ne_true) | skip)
    all_goals simp [startE, isNon, smD]
    rename_i x y
    have hx : PyData.strOk x = true := ha
    have hy : PyData.strOk y = true := hb
    simp [eqR_str hx hy]
  | succ k ih =>
    intro n a b ha hb
    refine fn_wp f29 (by simp) ?_
    cases a <;> first | (exact absurd ha Bool.false_ne_true) | (cases b <;> first | (exact absurd hb Bool.false_ne_true) | skip)
    case tup.tup as bs =>
      simp only [plD, Bool.and_eq_true, decide_eq_true_eq] at ha hb
      simp [startE, smD]
      by_cases hl : as.length = bs.length
      · simp [hl, show bs.length ≤ 1000000 by omega]
        rw [smDs_all hl]
        refine wp_all (fun ρ => ∃ y2, ρ = [.fr (.tup as), .fr (.tup bs), y2]) (fun (i : Nat) => smD (as[i]?.getD .non) (bs[i]?.getD .non)) (.bl false) ⟨_, rfl⟩ ?_ ?_ ?_
        · rintro i hi ρ ⟨y2, rfl⟩
          have hi : i < bs.length := by simpa using hi
          have a1 : atL as (i : Nat) = .ok as[i] := atL_nat (by simp [show i < as.length by omega])
          have a2 : atL bs (i : Nat) = .ok bs[i] := atL_nat (by simp [hi])
          have c := ih n as[i] bs[i] (plDs_mem ha.2 _ (List.getElem_mem _)) (plDs_mem hb.2 _ (List.getElem_mem _))
          rw [show n + k + 1 = n + (k + 1) by omega] at c
          have g1 : as[i]? = some as[i] := List.getElem?_eq_getElem (by omega)
          have g2 : bs[i]? = some bs[i] := List.getElem?_eq_getElem hi
          rw [g1, g2]
          simp only [Option.getD_some]
          rcases Bool.eq_false_or_eq_true (smD as[i] bs[i]) with q | q <;> simp [a1, a2, c, q]
        · rintro h ρ' ⟨y2, rfl⟩
          simp [h]
        · intro h
          simp [h]
      · have : smDs as bs = false := by
          cases h : smDs as bs with
          | false => rfl
          | true => exact absurd (smDs_len h) hl
        simp [this, hl, show ((as.length : Int) == (bs.length : Int)) = false by simp; omega]
    all_goals simp [startE, isNon, smD]
    rename_i x y
    have hx : PyData.strOk x = true := ha
    have hy : PyData.strOk y = true := hb
    simp [eqR_str hx hy]
theorem same_refl {k n : Nat} {a : D} (h : plD k a = true) (hk : k ≤ n) : callF KT (n + 1) 29 [a, a] = .ok (.bl true) := by
  have e := same29 k (n - k) a a h h
  rw [show n - k + k + 1 = n + 1 by omega, smD_refl k a h] at e
  exact e
end PF

namespace PF
open PySem
/-- through a list with a state, until a value is told -/
def thru {α St : Type} (g : St → α → St ⊕ D) : St → List α → St ⊕ D
  | s, [] => .inl s
  | s, a :: l => match g s a with
    | .inl s' => thru g s' l
    | .inr d => .inr d
def Tn {St : Type} (I : St → Env → Prop) : St ⊕ D → O → Prop
  | .inl s, o => On (I s) o
  | .inr d, o => o = .rt d
@[simp] theorem tn_ln {St : Type} (I : St → Env → Prop) (s : St) (ρ : Env) : Tn I (.inl s) (.nx ρ) = I s ρ := propext ⟨id, id⟩
@[simp] theorem tn_lc {St : Type} (I : St → Env → Prop) (s : St) (ρ : Env) : Tn I (.inl s) (.ct ρ) = I s ρ := propext ⟨id, id⟩
@[simp] theorem tn_r {St : Type} (I : St → Env → Prop) (d d' : D) : Tn I (.inr d) (.rt d') = (d' = d) := propext ⟨fun h => O.rt.inj h, fun h => h ▸ rfl⟩
def Ed {St : Type} (I : St → Env → Prop) (C : Cal) (ss : List S) (Q : O → Prop) : St ⊕ D → Prop
  | .inl s => ∀ ρ', I s ρ' → Wp (exs C ρ' ss) Q
  | .inr d => Q (.rt d)
theorem wp_thru {α St : Type} {C : Cal} {t : Tg} {body ss : List S} {Q : O → Prop} {e : α → D} (I : St → Env → Prop) (g : St → α → St ⊕ D) {l : List α} (s : St) {ρ : Env} (h0 : I s ρ)
    (step : ∀ a ∈ l, ∀ s ρ, I s ρ → Wp (tn C t body (e a) ρ) (Tn I (g s a))) (fin : Ed I C ss Q (thru g s l)) : Wp (thn C ss (lop C t body (l.map e) ρ)) Q := by
  induction l generalizing s ρ with
  | nil => rw [List.map_nil, lp_0, thn_nx]; exact fin ρ h0
  | cons a l ih =>
    have h := (step a List.mem_cons_self s ρ h0).get
    rw [List.map_cons, lp_c]
    unfold thru at fin
    cases hg : g s a with
    | inl s' =>
      rw [hg] at h fin
      cases hb : tn C t body (e a) ρ with
      | nx ρ2 => rw [hb] at h; exact ih s' h (fun b hb => step b (List.mem_cons_of_mem _ hb)) fin
      | ct ρ2 => rw [hb] at h; exact ih s' h (fun b hb => step b (List.mem_cons_of_mem _ hb)) fin
      | _ => rw [hb] at h; exact False.elim h
    | inr d =>
      rw [hg] at h fin
      have h : tn C t body (e a) ρ = .rt d := h
      rw [h]
      exact ⟨fin⟩
@[simp] theorem at_3 (a b c d : D) (ds : List D) : atL (a :: b :: c :: d :: ds) 3 = .ok d := eq_of_heq HEq.rfl
@[simp] theorem at_4 (a b c e d : D) (ds : List D) : atL (a :: b :: c :: e :: d :: ds) 4 = .ok d := eq_of_heq HEq.rfl
@[simp] theorem at_5 (a b c e f d : D) (ds : List D) : atL (a :: b :: c :: e :: f :: d :: ds) 5 = .ok d := eq_of_heq HEq.rfl

theorem refd1 {n f : Nat} {a : D} {k s : Int} (h : callF KT n f [a] = .exc 0 k) : callF KT (n + 1) 31 [.fn f, .lst [a], .int s] = .ok (.bl (k == s)) := by
  refine fn_wp f31 (by simp) ?_
  simp [startE, h]
theorem refd2 {n f : Nat} {a b : D} {k s : Int} (h : callF KT n f [a, b] = .exc 0 k) : callF KT (n + 1) 31 [.fn f, .lst [a, b], .int s] = .ok (.bl (k == s)) := by
  refine fn_wp f31 (by simp) ?_
  simp [startE, h]
theorem refd3 {n f : Nat} {a b c : D} {k s : Int} (h : callF KT n f [a, b, c] = .exc 0 k) : callF KT (n + 1) 31 [.fn f, .lst [a, b, c], .int s] = .ok (.bl (k == s)) := by
  refine fn_wp f31 (by simp) ?_
  simp [startE, h]
theorem refd4 {n f : Nat} {a b c d : D} {k s : Int} (h : callF KT n f [a, b, c, d] = .exc 0 k) : callF KT (n + 1) 31 [.fn f, .lst [a, b, c, d], .int s] = .ok (.bl (k == s)) := by
  refine fn_wp f31 (by simp) ?_
  simp [startE, h]
theorem refd5 {n f : Nat} {a b c d e : D} {k s : Int} (h : callF KT n f [a, b, c, d, e] = .exc 0 k) : callF KT (n + 1) 31 [.fn f, .lst [a, b, c, d, e], .int s] = .ok (.bl (k == s)) := by
  refine fn_wp f31 (by simp) ?_
  simp [startE, h]

theorem s1 {n : Nat} (v lo hi : Int) : callF KT (n + 2) 1 [.int v, .int lo, .int hi] = .ok (.bl (decide (lo ≤ v) && decide (v ≤ hi))) := by
  refine fn_wp f1 (by simp) ?_
  have w := is_whole_int (n := n) f0 v
  by_cases h1 : lo ≤ v <;> by_cases h2 : v ≤ hi <;> simp [startE, w, h1, h2]

theorem s18 {n : Nat} {v lo hi k : Int} (h1 : lo ≤ v) (h2 : v ≤ hi) : callF KT (n + 3) 18 [.int v, .int lo, .int hi, .int k] = .ok (.int v) := by
  refine fn_wp f18 (by simp) ?_
  simp [startE, s1, h1, h2]
theorem s18x {n : Nat} {v lo hi k : Int} (h : ¬(lo ≤ v ∧ v ≤ hi)) : callF KT (n + 3) 18 [.int v, .int lo, .int hi, .int k] = .exc 0 k := by
  refine fn_wp f18 (by simp) ?_
  by_cases h1 : lo ≤ v
  · have h2 : ¬ v ≤ hi := fun h2 => h ⟨h1, h2⟩
    simp [startE, s1, h1, h2]
  · simp [startE, s1, h1]

def ascZ (size : Int) : Int → List Int → Bool
  | _, [] => true
  | lo, z :: zs => decide (lo ≤ z) && decide (z ≤ size - 1) && ascZ size z zs

theorem s72 {n : Nat} (b : Bool) (zs : List Int) (hz : zs.length ≤ 1000) (size many : Int) : callF KT (n + 3) 72 [seqD b (zs.map .int), .int size, .int many] = .ok (if (zs.length : Int) = many - 1 ∧ ascZ size 0 zs = true then .tup (zs.map .int) else .non) := by
  refine fn_wp f72 (by simp) ?_
  have e1 : callF KT (n + 2) 2 [seqD b (zs.map .int)] = .ok (.bl true) := is_seq_spec (n := n + 1) f2 b _
  by_cases hl : (zs.length : Int) = many - 1
  · simp [startE, e1, hl]
    refine wp_thru (fun (lo : Int) ρ => ∃ y4, ρ = [.fr (seqD b (zs.map .int)), .fr (.int size), .fr (.int many), .fr (.int lo), y4]) (fun lo z => if lo ≤ z ∧ z ≤ size - 1 then .inl z else .inr .non) 0 ⟨_, rfl⟩ ?_ ?_
    · rintro z hz lo ρ ⟨y4, rfl⟩
      by_cases h1 : lo ≤ z <;> by_cases h2 : z ≤ size - 1 <;> simp [s1, h1, h2]
    · have key : ∀ (zs : List Int) (lo : Int), thru (fun lo z => if lo ≤ z ∧ z ≤ size - 1 then (.inl z : Int ⊕ D) else .inr .non) lo zs = if ascZ size lo zs = true then .inl ((zs.getLast?).getD lo) else .inr .non := by
        intro zs
        induction zs with
        | nil => intro lo; simp [thru, ascZ]
        | cons z zs ih =>
          intro lo
          unfold thru ascZ
          by_cases h1 : lo ≤ z <;> by_cases h2 : z ≤ size - 1 <;> simp [h1, h2, ih]
          cases zs <;> simp [List.getLast?_cons_cons, List.getLast?_cons]
      rw [key]
      by_cases ha : ascZ size 0 zs = true
      · simp only [ha, if_true]
        rintro ρ' ⟨y4, rfl⟩
        cases b <;> simp [seqD, ha]
      · simp [ha, Ed]
  · have hl2 : ((zs.length : Int) == many - 1) = false := by simp [hl]
    simp [startE, e1, hl, hl2]
end PF

namespace PF
open PySem
/-- what a turn of a while leaves -/
def Wt (J : Env → Prop) (C : Cal) (ss : List S) (Q : O → Prop) : O → Prop
  | .nx ρ => J ρ
  | .ct ρ => J ρ
  | .bk ρ => Wp (exs C ρ ss) Q
  | .rt d => Q (.rt d)
  | _ => False
@[simp] theorem wt_nx (J : Env → Prop) (C : Cal) (ss : List S) (Q : O → Prop) (ρ : Env) : Wt J C ss Q (.nx ρ) = J ρ := propext ⟨id, id⟩
@[simp] theorem wt_ct (J : Env → Prop) (C : Cal) (ss : List S) (Q : O → Prop) (ρ : Env) : Wt J C ss Q (.ct ρ) = J ρ := propext ⟨id, id⟩
@[simp] theorem wt_bk (J : Env → Prop) (C : Cal) (ss : List S) (Q : O → Prop) (ρ : Env) : Wt J C ss Q (.bk ρ) = Wp (exs C ρ ss) Q := propext ⟨id, id⟩
@[simp] theorem wt_rt (J : Env → Prop) (C : Cal) (ss : List S) (Q : O → Prop) (d : D) : Wt J C ss Q (.rt d) = Q (.rt d) := propext ⟨id, id⟩
theorem whl_s (c : Env → R Bool) (body : Env → O) (n : Nat) (ρ : Env) : whlL c body (n + 1) ρ = (c ρ).o fun b => if b = true then (match body ρ with
    | .nx ρ2 => whlL c body n ρ2
    | .ct ρ2 => whlL c body n ρ2
    | .bk ρ2 => .nx ρ2
    | o => o) else .nx ρ := by rw [whlL] <;> rfl
/-- a while loop, by a number that goes down -/
theorem wp_whl {C : Cal} {c : E} {body ss : List S} {Q : O → Prop} (I : Nat → Env → Prop) :
    ∀ {n k : Nat} {ρ : Env}, k < n → I k ρ →
    (∀ k ρ, I k ρ → ∃ b, (bq C ρ c).bind truth = .ok b ∧ (b = false → Wp (exs C ρ ss) Q) ∧ (b = true → Wp (exs C ρ body) (Wt (fun ρ2 => ∃ k', k' < k ∧ I k' ρ2) C ss Q))) →
    Wp (thn C ss (lw C c body n ρ)) Q
  | 0, k, ρ, h, _, _ => absurd h (by omega)
  | n + 1, k, ρ, hk, hI, step => by
    obtain ⟨b, hb, h0, h1⟩ := step k ρ hI
    unfold lw
    rw [whl_s, hb, r_o]
    cases b with
    | false => rw [if_neg (by decide), thn_nx]; exact h0 rfl
    | true =>
      rw [if_pos rfl]
      have h := (h1 rfl).get
      have go : ∀ ρ2, (∃ k', k' < k ∧ I k' ρ2) → Wp (thn C ss (lw C c body n ρ2)) Q := fun ρ2 ⟨k', h2, h3⟩ => wp_whl I (by omega) h3 step
      cases hb : exs C ρ body with
      | nx ρ2 => rw [hb] at h; exact go ρ2 h
      | ct ρ2 => rw [hb] at h; exact go ρ2 h
      | bk ρ2 => rw [hb] at h; exact h
      | rt d => rw [hb] at h; exact ⟨h⟩
      | exc k n => rw [hb] at h; exact False.elim h
      | bad => rw [hb] at h; exact False.elim h
end PF

namespace PF
open PySem

theorem hb14 : HB KT := ⟨c0, f0, f2, f7, f8, f10, f11, f14⟩
theorem s14 {n : Nat} (b : Bool) {l : List Pl} (hl : OkB l) (k : Int) : callF KT (n + 5) 14 [bdS b l, .int k] = .ok (bd l) := need_spec hb14 b hl k

/-- what is sure: by the word that it breaks -/
def sur (l : List Pl) (w i j : Nat) : Bool := if w = 0 then fallB l i j else riseB l i j
def surD (l : List Pl) : D := .tup [tabD l.length (sur l 0), tabD l.length (sur l 1)]
theorem s64 {n : Nat} {l : List Pl} (hl : OkB l) : callF KT (n + 2) 64 [bd l] = .ok (surD l) := sure_spec f7 f64 hl
theorem ix_sur {l : List Pl} {w : Nat} (h : w ≤ 1) : idxR (surD l) (.int (w : Nat)) = .ok (tabD l.length (sur l w)) := by
  have : w = 0 ∨ w = 1 := by omega
  rcases this with rfl | rfl <;> rfl
theorem len_bd {l : List Pl} : bltR .len [bd l] = .ok (.int (l.length : Nat)) := by simp [bd]

/-- the first pair: the least j -/
def fpP (f : Nat → Nat → Bool) (size start : Nat) : Option (Nat × Nat) := (List.range' (start + 1) (size - (start + 1))).findSome? fun j => (List.range' start (j - start)).findSome? fun i => if f i j = true then some (i, j) else none
def opD : Option (Nat × Nat) → D
  | none => .non
  | some p => prD p
theorem s103 {n m : Nat} (hm : m ≤ 10) (f : Nat → Nat → Bool) {size start : Nat} (hs : size ≤ m) (h0 : start ≤ 1000) : callF KT (n + 1) 103 [tabD m f, nm size, nm start] = .ok (opD (fpP f size start)) := by
  refine fn_wp f103 (by simp) ?_
  simp [startE]
  rw [rng_items (start + 1) (size - (start + 1)) (by simp) (by omega) (by omega)]
  simp only [qzFor_ok]
  have stop : ∀ j, ((List.range' start (j - start)).findSome? fun i => if f i j = true then some (prD (i, j)) else none) = ((List.range' start (j - start)).findSome? fun i => if f i j = true then some (i, j) else none).map prD := fun j => by
    generalize List.range' start (j - start) = l
    induction l with
    | nil => rfl
    | cons i l ih => rw [List.findSome?_cons, List.findSome?_cons]; cases f i j <;> simp [ih]
  refine wp_find (fun ρ => ∃ y3 y4, ρ = [.fr (tabD m f), .fr (nm size), .fr (nm start), y3, y4]) (fun j => (List.range' start (j - start)).findSome? fun i => if f i j = true then some (prD (i, j)) else none) ⟨_, _, rfl⟩ ?_ ?_
  · rintro j hj ρ ⟨y3, y4, rfl⟩
    rw [List.mem_range'_1] at hj
    simp
    rw [rngM (by omega) (by omega)]
    simp only [qzFor_ok]
    refine wp_find (fun ρ => ∃ y4, ρ = [.fr (tabD m f), .fr (nm size), .fr (nm start), .fr (nm j), y4]) (fun i => if f i j = true then some (prD (i, j)) else none) ⟨_, rfl⟩ ?_ ?_
    · rintro i hi ρ ⟨y4, rfl⟩
      rw [List.mem_range'_1] at hi
      have a1 := at_tab (f := f) (show i < m by omega)
      have a2 := at_row (g := f i) (show j < m by omega)
      cases c : f i j <;> rw [c] at a2 <;> simp [a1, a2, c, prD]
    · cases (List.range' start (j - start)).findSome? fun i => if f i j = true then some (prD (i, j)) else none with
      | none => rintro ρ' ⟨y4, rfl⟩; simp
      | some d => simp [Fd, Sp]
  · simp only [stop]
    rw [findSome_map]
    unfold fpP
    cases (List.range' (start + 1) (size - (start + 1))).findSome? fun j => (List.range' start (j - start)).findSome? fun i => if f i j = true then some (i, j) else none with
    | none => rintro ρ' ⟨y3, y4, rfl⟩; simp [opD]
    | some p => simp [Fd, opD]
theorem fpP_some {f : Nat → Nat → Bool} {size start : Nat} {p : Nat × Nat} (h : fpP f size start = some p) : start ≤ p.1 ∧ p.1 < p.2 ∧ p.2 < size ∧ f p.1 p.2 = true ∧ ∀ i j, start ≤ i → i < j → j < p.2 → f i j = false := by
  unfold fpP at h
  have key : ∀ (m lo : Nat), start + 1 ≤ lo → (∀ i j, start ≤ i → i < j → j < lo → f i j = false) → ((List.range' lo m).findSome? fun j => (List.range' start (j - start)).findSome? fun i => if f i j = true then some (i, j) else none) = some p → start ≤ p.1 ∧ p.1 < p.2 ∧ p.2 < lo + m ∧ f p.1 p.2 = true ∧ ∀ i j, start ≤ i → i < j → j < p.2 → f i j = false := by
    intro m
    induction m with
    | zero => intro lo _ _ h; simp at h
    | succ m ih =>
      intro lo h1 h2 h
      rw [List.range'_succ, List.findSome?_cons] at h
      cases hc : ((List.range' start (lo - start)).findSome? fun i => if f i lo = true then some (i, lo) else none) with
      | none =>
        rw [hc] at h
        rw [List.findSome?_eq_none_iff] at hc
        have := ih (lo + 1) (by omega) (fun i j h3 h4 h5 => by
          by_cases e : j = lo
          · subst e
            have := hc i (by rw [List.mem_range'_1]; omega)
            cases hf : f i j with
            | false => rfl
            | true => rw [hf] at this; cases this
          · exact h2 i j h3 h4 (by omega)) h
        obtain ⟨a, b, c, d, e⟩ := this
        exact ⟨a, b, by omega, d, e⟩
      | some q =>
        rw [hc] at h
        have h := Option.some.inj h
        subst h
        obtain ⟨l1, i, l2, e1, e2, e3⟩ := List.findSome?_eq_some_iff.mp hc
        have hi : i ∈ List.range' start (lo - start) := by rw [e1]; simp
        rw [List.mem_range'_1] at hi
        cases hf : f i lo with
        | false => rw [hf] at e2; cases e2
        | true =>
          rw [hf] at e2
          have e2 := Option.some.inj e2
          subst e2
          exact ⟨hi.1, by show i < lo; omega, by show lo < lo + (m + 1); omega, hf, h2⟩
  have := key (size - (start + 1)) (start + 1) (by omega) (fun i j h1 h2 h3 => by omega) h
  obtain ⟨a, b, c, d, e⟩ := this
  refine ⟨a, b, ?_, d, e⟩
  by_cases hs : start + 1 ≤ size
  · omega
  · rw [show size - (start + 1) = 0 by omega] at h
    simp at h
theorem fpP_none {f : Nat → Nat → Bool} {size start : Nat} (h : fpP f size start = none) : ∀ i j, start ≤ i → i < j → j < size → f i j = false := by
  intro i j h1 h2 h3
  unfold fpP at h
  rw [List.findSome?_eq_none_iff] at h
  have := h j (by rw [List.mem_range'_1]; omega)
  rw [List.findSome?_eq_none_iff] at this
  have := this i (by rw [List.mem_range'_1]; omega)
  cases hf : f i j with
  | false => rfl
  | true => rw [hf] at this; cases this

/-- the chain that takes the least j each time -/
def chn (Sr : Nat → Nat → Nat → Bool) (size : Nat) : Nat → Nat → Nat → List (Nat × Nat)
  | 0, _, _ => []
  | m + 1, w, start => match fpP (Sr w) size start with
    | none => []
    | some p => p :: chn Sr size m (1 - w) (p.2 - 1)
theorem chn_len (Sr : Nat → Nat → Nat → Bool) (size : Nat) : ∀ m w start, (chn Sr size m w start).length ≤ m
  | 0, _, _ => Nat.le_refl _
  | m + 1, w, start => by
    unfold chn
    cases fpP (Sr w) size start with
    | none => simp
    | some p =>
      have := chn_len Sr size m (1 - w) (p.2 - 1)
      simp
      omega
theorem s104 {n : Nat} {l : List Pl} (hl : OkB l) {size w start most : Nat} (hs : size ≤ l.length) (hw : w ≤ 1) (h0 : start ≤ 1000) (hm : most ≤ 1000) :
    callF KT (n + 2) 104 [surD l, nm size, nm w, nm start, nm most] = .ok (.tup ((chn (sur l) size most w start).map prD)) := by
  refine fn_wp f104 (by simp) ?_
  simp [startE]
  have hlm := hl.most
  refine wp_whl (fun k ρ => ∃ (c : List (Nat × Nat)) (w' st : Nat) (y7 : SV), ρ = [.fr (surD l), .fr (nm size), .fr (nm w), .fr (nm st), .fr (nm most), .own (c.map prD), .fr (nm w'), y7] ∧ k + c.length = most ∧ w' ≤ 1 ∧ st ≤ 1000 ∧ c ++ chn (sur l) size k w' st = chn (sur l) size most w start) (k := most) (by omega) ⟨[], w, start, _, rfl, rfl, hw, h0, rfl⟩ ?_
  rintro k ρ ⟨c, w', st, y7, rfl, hk, hw', hst, hc⟩
  refine ⟨decide ((c.length : Int) < (most : Int)), by simp, ?_, ?_⟩
  · intro h
    have h : ¬ (c.length < most) := by simpa using h
    have : k = 0 := by omega
    subst this
    rw [chn, List.append_nil] at hc
    simp [hc]
  · intro h
    have h : c.length < most := by simpa using h
    obtain ⟨k', rfl⟩ : ∃ k', k = k' + 1 := ⟨k - 1, by omega⟩
    have F := s103 (n := n) hlm (sur l w') hs hst
    rw [chn] at hc
    cases hp : fpP (sur l w') size st with
    | none =>
      rw [hp] at F hc
      simp only [List.append_nil] at hc
      have F : callF KT (n + 1) 103 [tabD l.length (sur l w'), nm size, nm st] = .ok .non := F
      simp [ix_sur hw', F, isNon, hc]
    | some p =>
      rw [hp] at F hc
      have hc : c ++ (p :: chn (sur l) size k' (1 - w') (p.2 - 1)) = chn (sur l) size most w start := hc
      obtain ⟨q1, q2, q3, _⟩ := fpP_some hp
      have F : callF KT (n + 1) 103 [tabD l.length (sur l w'), nm size, nm st] = .ok (prD p) := F
      have n0 : isNon (prD p) = false := rfl
      have i1 : idxR (prD p) (.int 1) = .ok (nm p.2) := rfl
      simp [ix_sur hw', F, n0, i1, show c.length < 1000000 by omega]
      exact ⟨k', by omega, c ++ [p], 1 - w', p.2 - 1, ⟨by omega, by simp, by omega⟩, by simp; omega, by omega, by omega, by rw [← hc]; simp⟩

theorem s101 {n : Nat} (b : Bool) {l : List Pl} (hl : OkB l) {first many : Nat} (hf : first ≤ 1) (h1 : 1 ≤ many) (h2 : many ≤ 10) : callF KT (n + 6) 101 [bdS b l, nm first, nm many] = .ok (bd l) := by
  refine fn_wp f101 (by simp) ?_
  have B1 : callF KT (n + 5) 18 [nm first, .int 0, .int 1, .int 2] = .ok (nm first) := s18 (n := n + 2) (by omega) (by omega)
  have B2 : callF KT (n + 5) 18 [nm many, .int 1, .int 10, .int 3] = .ok (nm many) := s18 (n := n + 2) (by omega) (by omega)
  simp [startE, s14 b hl, B1, B2]

/-- whether the bounds can have the shape -/
def canH (l : List Pl) (first many : Nat) : Bool := decide ((chn (sur l) l.length many first 0).length < many)

end PF

namespace PF
open PySem

/-- turning places -/
def plc (ps : List Nat) : D := .tup (ps.map nm)
def lastP (ps : List Nat) : Nat := (ps.getLast?).getD 0
def nextP (m : Nat) (rows : List (List Nat)) : List (List Nat) := rows.flatMap fun ps => (List.range' (lastP ps) (m - lastP ps)).map fun p => ps ++ [p]
def allP (m : Nat) : Nat → List (List Nat)
  | 0 => [[]]
  | c + 1 => nextP m (allP m c)
theorem okD_nm (n i : Nat) : okD n (nm i) = true := by cases n <;> rfl
theorem okDs_nm (n : Nat) (l : List Nat) : okDs n (l.map nm) = true := by
  induction l with
  | nil => cases n <;> rfl
  | cons a l ih => simp [okDs, okD_nm, ih]
theorem eqv_nm (x y : Nat) : eqv (nm x) (nm y) = (x == y) := by
  simp only [nm, eqv]
  rw [Bool.eq_iff_iff]
  simp
  omega
theorem eqv_plc (a b : List Nat) : eqv (plc a) (plc b) = (a == b) := by
  unfold plc eqv
  induction a generalizing b with
  | nil => cases b <;> simp [eqvs]
  | cons x a ih =>
    cases b with
    | nil => simp [eqvs]
    | cons y b => rw [List.map_cons, List.map_cons, eqvs, eqv_nm, ih]; rfl
theorem okD_plc (n : Nat) (l : List Nat) : okD (n + 1) (plc l) = true := okDs_nm n l
theorem okDs_plc (n : Nat) (l : List (List Nat)) : okDs (n + 1) (l.map plc) = true := by
  induction l with
  | nil => rfl
  | cons a l ih => simp [okDs, okD_plc, ih]
theorem eq_lst0 {l : List (List Nat)} : eqR (.lst (l.map plc)) (.lst []) = .ok l.isEmpty := by
  unfold eqR
  rw [if_pos (by
    have : okD deep (.lst (l.map plc)) = true := okDs_plc 28 l
    rw [this]; rfl)]
  cases l <;> rfl
theorem eq_plc (a b : List Nat) : eqR (plc a) (plc b) = .ok (a == b) := by
  unfold eqR
  rw [if_pos, eqv_plc]
  show (okD (29 + 1) (plc a) && okD (29 + 1) (plc b)) = true
  rw [okD_plc 29, okD_plc 29]; rfl
@[simp] theorem eq_plc0 (a : List Nat) : eqR (plc a) (.tup []) = .ok a.isEmpty := by
  have := eq_plc a []
  rw [show plc [] = .tup [] from rfl] at this
  rw [this]
  cases a <;> rfl
theorem ix_last {l : List Nat} (h : l ≠ []) : idxR (plc l) (.int (-1)) = .ok (nm (lastP l)) := by
  have h1 : 0 < l.length := List.length_pos_iff.mpr h
  unfold plc
  rw [ix_tup, atL_neg (l.length - 1) (by omega) (by decide) (by omega)]
  congr 2
  unfold lastP
  rw [List.getLast?_eq_getElem?, List.getElem?_eq_getElem (by omega)]
  rfl
@[simp] theorem add_plc (a : List Nat) (p : Nat) (h : a.length < 1000000) : binR .add (plc a) (.tup [.int (p : Nat)]) = .ok (plc (a ++ [p])) := by
  unfold plc
  rw [bi_addt, if_pos (by rw [List.length_map, List.length_singleton, big_eq]; omega), List.map_append]
  rfl

theorem places_in {n : Nat} {many : Nat} (hm : many ≤ 1000) {ps : List Nat} (hp : ps.length < 1000) (hl : lastP ps ≤ many) (acc : List (List Nat)) (ha : acc.length ≤ 900000) (x0 x1 x2 x3 x4 : SV) :
    Wp (tn ⟨callF KT n, KT.con⟩ (.nm 5) _law_all_places_b1 (plc ps) [.fr (nm many), x1, x2, x3, .fr (.lst (acc.map plc)), x4, x0]) (On fun ρ => ∃ y0, ρ = [.fr (nm many), x1, x2, x3, .fr (.lst ((acc ++ nextP many [ps]).map plc)), y0, x0]) := by
  have it : itemsR (.rng (lastP ps : Nat) (many : Nat)) = .ok ((List.range' (lastP ps) (many - lastP ps)).map nm) := rng_items _ _ rfl (by omega) (by omega)
  have e : nextP many [ps] = (List.range' (lastP ps) (many - lastP ps)).map fun p => ps ++ [p] := by simp [nextP]
  rw [e]
  by_cases c : ps = []
  · subst c
    have it : itemsR (.rng 0 (many : Nat)) = .ok ((List.range' 0 (many - 0)).map nm) := rng_items _ _ rfl (by omega) (by omega)
    simp [it]
    rw [comp_map (fun p => plc ([] ++ [p])) (by simp; omega) fun p hp => by simp [yF]]
    simp [show acc.length + many ≤ 1000000 by omega, lastP]
  · simp [c, ix_last c, it]
    rw [comp_map (fun p => plc (ps ++ [p])) (by simp; omega) fun p hq => by simp [yF, show ps.length < 1000000 by omega]]
    simp [show acc.length + (many - lastP ps) ≤ 1000000 by omega]

theorem nextP_append (m : Nat) (a b : List (List Nat)) : nextP m (a ++ b) = nextP m a ++ nextP m b := by simp [nextP]
theorem nextP_len (m : Nat) (a : List (List Nat)) : (nextP m a).length ≤ m * a.length := by
  induction a with
  | nil => simp [nextP]
  | cons x a ih =>
    have e : nextP m (x :: a) = nextP m [x] ++ nextP m a := nextP_append m [x] a
    have e1 : (nextP m [x]).length ≤ m := by simp [nextP]
    rw [e, List.length_append, List.length_cons, Nat.mul_succ]
    omega
theorem allP_len (m : Nat) : ∀ c, (allP m c).length ≤ m ^ c
  | 0 => by simp [allP]
  | c + 1 => by
    have h := nextP_len m (allP m c)
    have i := Nat.mul_le_mul_left m (allP_len m c)
    unfold allP
    rw [Nat.pow_succ, Nat.mul_comm]
    omega
theorem allP_mem {m : Nat} : ∀ {c : Nat} {ps : List Nat}, ps ∈ allP m c → ps.length = c ∧ ∀ p ∈ ps, p < m
  | 0, ps, h => by
    have : ps = [] := by simpa [allP] using h
    subst this
    simp
  | c + 1, ps, h => by
    unfold allP nextP at h
    rw [List.mem_flatMap] at h
    obtain ⟨qs, hq, h⟩ := h
    rw [List.mem_map] at h
    obtain ⟨p, hp, rfl⟩ := h
    obtain ⟨h1, h2⟩ := allP_mem hq
    rw [List.mem_range'_1] at hp
    refine ⟨by simp [h1], fun q hq => ?_⟩
    rcases List.mem_append.mp hq with hq | hq
    · exact h2 q hq
    · rw [List.mem_singleton.mp hq]; omega
theorem lastP_le {m : Nat} {ps : List Nat} (h : ∀ p ∈ ps, p < m) : lastP ps ≤ m := by
  unfold lastP
  cases hg : ps.getLast? with
  | none => simp
  | some x => have := h x (List.mem_of_getLast? hg); simp; omega

theorem allp_spec {n m c : Nat} (hm : 1 ≤ m) (hm2 : m ≤ 1000) (hc : c ≤ 900) (hb : m ^ c ≤ 800000) : callF KT (n + 1) 83 [nm m, nm c] = .ok (.lst ((allP m c).map plc)) := by
  refine fn_wp f83 (by simp) ?_
  simp [startE]
  rw [rngN c (by omega)]
  simp
  refine wp_pre (fun pre ρ => ∃ y3 y4 y5 y6, ρ = [.fr (nm m), .fr (nm c), .fr (.lst ((allP m pre.length).map plc)), y3, y4, y5, y6]) ⟨_, _, _, _, rfl⟩ ?_ ?_
  · rintro pre a post ρ hl ⟨y3, y4, y5, y6, rfl⟩
    have lc : pre.length + 1 + post.length = c := by
      have := congrArg List.length hl
      simp at this
      omega
    have pb : m ^ pre.length ≤ 800000 := Nat.le_trans (Nat.pow_le_pow_right hm (by omega)) hb
    have pb2 : m * m ^ pre.length ≤ 800000 := by
      rw [Nat.mul_comm, ← Nat.pow_succ]
      exact Nat.le_trans (Nat.pow_le_pow_right hm (by omega)) hb
    have al := allP_len m pre.length
    have am := @allP_mem m pre.length
    simp
    refine wp_pre (fun pr ρ => ∃ y5, ρ = [.fr (nm m), .fr (nm c), .fr (.lst ((allP m pre.length).map plc)), .fr (nm a), .fr (.lst ((nextP m pr).map plc)), y5, y6]) ⟨_, rfl⟩ ?_ ?_
    · rintro pr ps po ρ hl2 ⟨y5, rfl⟩
      have mem : ps ∈ allP m pre.length := by rw [hl2]; simp
      obtain ⟨a1, a2⟩ := am mem
      have l2 := nextP_len m pr
      have l3 : pr.length ≤ (allP m pre.length).length := by rw [hl2]; simp
      have l4 := Nat.mul_le_mul_left m (Nat.le_trans l3 al)
      refine wp_mono (places_in (n := n) hm2 (ps := ps) (by omega) (lastP_le a2) (nextP m pr) (by omega) y6 (.fr (nm c)) (.fr (.lst ((allP m pre.length).map plc))) (.fr (nm a)) y5) fun o ho => ?_
      rw [nextP_append]
      exact ho
    · rintro ρ' ⟨y5, rfl⟩
      simp
      rfl
  · rintro ρ' ⟨y3, y4, y5, y6, rfl⟩
    simp
end PF

namespace PF
open PySem

theorem eq_fr (p q : Fq) : eqR (fr p) (fr q) = .ok (p == q) := by
  unfold eqR
  rw [if_pos (by show (okD (29 + 1) (fr p) && okD (29 + 1) (fr q)) = true; rw [okD_fr, okD_fr]; rfl)]
  congr 1
  obtain ⟨a, b⟩ := p
  obtain ⟨c, d⟩ := q
  simp only [fr, eqv, eqvs, Bool.and_true]
  rw [Bool.eq_iff_iff]
  simp

@[simp] theorem s35 {n : Nat} {p q : Fq} (hp : OkF lim p) (hq : OkF lim q) : callF KT (n + 1) 35 [fr p, fr q] = .ok (.bl (ltQ p q)) := lless_spec f35 hp hq

/-- the word of a step: 0 rise, 1 fall, 2 level -/
def wd (r : List Fq) (i : Nat) : Nat := if ltQ (qa r i) (qa r (i + 1)) = true then 0 else if ltQ (qa r (i + 1)) (qa r i) = true then 1 else 2
def pieceB (w : Nat → Nat) (word a b : Nat) : Bool := (List.range' a (b - a)).all fun i => w i != 1 - word
def ends (ps : List Nat) (size : Nat) : List Nat := 0 :: ps ++ [size - 1]
def enAt (es : List Nat) (k : Nat) : Nat := (es[k]?).getD 0
def goB (w : Nat → Nat) (size first : Nat) (ps : List Nat) : Bool := (List.range (ps.length + 1)).all fun k => pieceB w ((first + k) % 2) (enAt (ends ps size) k) (enAt (ends ps size) (k + 1))
theorem ltQ_asm {p q : Fq} (h : ltQ p q = true) : ltQ q p = false := by
  unfold ltQ at *
  simp only [decide_eq_true_eq, decide_eq_false_iff_not] at *
  omega
theorem wd_rise (r : List Fq) (i : Nat) : ltQ (qa r i) (qa r (i + 1)) = (wd r i == 0) := by
  unfold wd
  cases h : ltQ (qa r i) (qa r (i + 1)) <;> simp
  split <;> simp
theorem wd_fall (r : List Fq) (i : Nat) : ltQ (qa r (i + 1)) (qa r i) = (wd r i == 1) := by
  unfold wd
  cases h : ltQ (qa r i) (qa r (i + 1))
  · cases h2 : ltQ (qa r (i + 1)) (qa r i) <;> simp
  · rw [ltQ_asm h]; simp
theorem fmod2 (a b : Nat) : ((a : Int) + (b : Int)).fmod 2 = (((a + b) % 2 : Nat) : Int) := by
  rw [← Int.natCast_add]
  exact fmod_nat (a + b) 2
theorem wd_cases (r : List Fq) (i : Nat) : wd r i = 0 ∨ wd r i = 1 ∨ wd r i = 2 := by
  unfold wd
  split
  · exact .inl rfl
  · split
    · exact .inr (.inl rfl)
    · exact .inr (.inr rfl)
theorem enAt_get {es : List Nat} {k : Nat} (h : k < es.length) : es[k] = enAt es k := by simp [enAt, h]
theorem ends_lt {ps : List Nat} {size : Nat} (h1 : 1 ≤ size) (hp : ∀ p ∈ ps, p < size) : ∀ x ∈ ends ps size, x < size := by
  intro x m
  simp only [ends, List.cons_append, List.mem_cons, List.mem_append, List.not_mem_nil, or_false] at m
  rcases m with m | m | m
  · omega
  · exact hp _ m
  · omega

theorem goes_spec {n : Nat} {r : List Fq} (hr : OkR r) {first : Nat} (h1 : first ≤ 1) {ps : List Nat} (hp : ∀ p ∈ ps, p < r.length) (hl : ps.length ≤ 100) :
    callF KT (n + 2) 84 [rw r, nm first, plc ps] = .ok (.bl (goB (wd r) r.length first ps)) := by
  refine fn_wp f84 (by simp) ?_
  have e0 : bltR .len [rw r] = .ok (.int (r.length : Nat)) := by simp [rw]
  have en : (D.int 0 :: (ps.map nm ++ [.int ((r.length : Int) - 1)])) = (ends ps r.length).map nm := by
    have := hr.pos
    simp [ends]
    omega
  have el : (ends ps r.length).length = ps.length + 2 := by simp [ends]
  have eb : ∀ k, k < ps.length + 2 → enAt (ends ps r.length) k < r.length := fun k hk => by
    rw [← enAt_get (by omega)]
    exact ends_lt hr.pos hp _ (List.getElem_mem _)
  simp [startE, plc, e0, show 1 + ps.length ≤ 1000000 by omega, show ps.length + 1 + 1 ≤ 1000000 by omega]
  rw [en]
  generalize hE : ends ps r.length = es at *
  rw [rng0 (ps.length + 1) (by omega) (by omega)]
  simp
  unfold goB
  rw [hE]
  refine wp_all (fun ρ => ∃ y4 y5, ρ = [.fr (rw r), .fr (nm first), .fr (.tup (ps.map nm)), .fr (.tup (es.map nm)), y4, y5]) (fun k => pieceB (wd r) ((first + k) % 2) (enAt es k) (enAt es (k + 1))) (.bl false) ⟨_, _, rfl⟩ ?_ ?_ ?_
  · rintro k hk ρ ⟨y4, y5, rfl⟩
    have hk : k < ps.length + 1 := by simpa using hk
    have b1 := eb k (by omega)
    have b2 := eb (k + 1) (by omega)
    have a1 : atL (es.map nm) (k : Nat) = .ok (nm (enAt es k)) := by rw [atL_map k rfl (by omega), enAt_get]
    have a2 : atL (es.map nm) ((k : Nat) + 1) = .ok (nm (enAt es (k + 1))) := by rw [atL_map (k + 1) (by omega) (by omega), enAt_get]
    simp [a1, a2]
    rw [rngM (by have := hr.most; omega) (by have := hr.most; omega)]
    simp
    refine wp_all (fun ρ => ∃ y5, ρ = [.fr (rw r), .fr (nm first), .fr (.tup (ps.map nm)), .fr (.tup (es.map nm)), .fr (nm k), y5]) (fun i => wd r i != 1 - (first + k) % 2) (.bl false) ⟨_, rfl⟩ ?_ ?_ ?_
    · rintro i hi ρ ⟨y5, rfl⟩
      rw [List.mem_range'_1] at hi
      have hi : i + 1 < r.length := by omega
      have i1 : idxR (rw r) (.int (i : Nat)) = .ok (fr (qa r i)) := at_qa (by omega)
      have i2 : idxR (rw r) (.int ((i : Nat) + 1)) = .ok (fr (qa r (i + 1))) := at_qa hi
      have o1 := hr.ok _ (qa_mem (r := r) (i := i) (by omega))
      have o2 := hr.ok _ (qa_mem hi)
      have fm : ((first : Int) + (k : Int)).fmod 2 = (((first + k) % 2 : Nat) : Int) := fmod2 first k
      have w1 : (first + k) % 2 = 0 ∨ (first + k) % 2 = 1 := by omega
      generalize (first + k) % 2 = w at *
      have v3 : wd r i = 0 ∨ wd r i = 1 ∨ wd r i = 2 := wd_cases r i
      rcases w1 with rfl | rfl <;> rcases v3 with v | v | v <;> simp [i1, i2, o1, o2, wd_rise, wd_fall, fm, v]
    · rintro h ρ' ⟨y5, rfl⟩
      have h : pieceB (wd r) ((first + k) % 2) (enAt es k) (enAt es (k + 1)) = true := h
      simp [h]
    · intro h
      have h : pieceB (wd r) ((first + k) % 2) (enAt es k) (enAt es (k + 1)) = false := h
      simp [h]
  · rintro h ρ' ⟨y4, y5, rfl⟩
    simp [h]
  · intro h
    simp [h]

def wS (v : Nat) : Str := if v = 0 then PySem.Str.ofString "rise" else if v = 1 then PySem.Str.ofString "fall" else PySem.Str.ofString "level"

end PF

namespace PF
open PySem

def unC (ws : List Nat) : List Nat := ws.filter (· != 2)
def ca (u : List Nat) (i : Nat) : Nat := (u[i]?).getD 2
def chC (u : List Nat) : Nat := ((List.range (u.length - 1)).filter fun i => ca u (i + 1) != ca u i).length
def wsC (r : List Fq) : List Nat := (List.range (r.length - 1)).map (wd r)
theorem wS_ok (v : Nat) : PyData.strOk (wS v) = true := by
  unfold wS
  split
  · decide +kernel
  · split <;> decide +kernel
theorem wS_eq {a b : Nat} (ha : a ≤ 2) (hb : b ≤ 2) : (wS a == wS b) = (a == b) := by
  have : a = 0 ∨ a = 1 ∨ a = 2 := by omega
  have : b = 0 ∨ b = 1 ∨ b = 2 := by omega
  rcases ‹a = 0 ∨ a = 1 ∨ a = 2› with rfl | rfl | rfl <;> rcases ‹b = 0 ∨ b = 1 ∨ b = 2› with rfl | rfl | rfl <;> decide +kernel
theorem wsC_le (r : List Fq) : ∀ v ∈ wsC r, v ≤ 2 := fun v hv => by
  obtain ⟨i, _, rfl⟩ := List.mem_map.mp hv
  have := wd_cases r i
  omega

def exG (w : Nat → Nat) (size many first : Nat) : Bool := (allP size (many - 1)).any (goB w size first)

end PF

namespace PF
open PySem

theorem leQ_not (p q : Fq) : leQ p q = !ltQ q p := by
  unfold leQ ltQ
  rw [Bool.eq_iff_iff]
  simp
/-- the neighbours of a place, in the law's own words -/
def nbL (r : List Fq) (k : Nat) : List Fq := (if 1 ≤ k then [qa r (k - 1)] else []) ++ (if k + 1 < r.length then [qa r (k + 1)] else [])
theorem nb_eq {r : List Fq} {k : Nat} (hk : k < r.length) : nbL r k = besL r k := by
  unfold nbL besL
  congr 1
  · by_cases h : 1 ≤ k
    · rw [if_pos h, show k - (k - 1) = 1 by omega, List.take_one, List.head?_drop]
      simp [qa, show k - 1 < r.length by omega]
    · rw [if_neg h, show k - (k - 1) = 0 by omega, List.take_zero]
  · rw [show k + 2 - (k + 1) = 1 by omega, List.take_one, List.head?_drop]
    by_cases h : k + 1 < r.length
    · rw [if_pos h]
      simp [qa, h]
    · rw [if_neg h]
      simp [show r.length ≤ k + 1 by omega]
def nbI (n k : Nat) : List Nat := (if 1 ≤ k then [k - 1] else []) ++ (if k + 1 < n then [k + 1] else [])
theorem eq_lstF {l : List Fq} : eqR (.lst (l.map fr)) (.lst []) = .ok l.isEmpty := by
  unfold eqR
  rw [if_pos (by
    have : okD deep (.lst (l.map fr)) = true := okDs_fr 28 l
    rw [this]; rfl)]
  cases l <;> rfl
theorem in_rng (i a b : Int) : inR (.int i) (.rng a b) = .ok (decide (a ≤ i ∧ i < b)) := rfl

end PF

namespace PF
open PySem

@[simp] theorem li_rw {n : Nat} {r : List Fq} (h : r.length ≤ 1000) : callF KT (n + 3) 57 [rw r] = .ok (rwS false r) := by
  have := listed_tup (n := n + 2) f57 (l := r) (e := fr) (g := frS false) h fun q _ => listed_fr f57 q
  simpa [rw, rwS, seqD] using this

end PF

namespace PF
open PySem

@[simp] theorem s7 {n : Nat} {p q : Fq} (hp : OkF lim p) (hq : OkF lim q) : callF KT (n + 1) 7 [fr p, fr q] = .ok (.bl (ltQ p q)) := less_spec f7 hp hq

def ahead (ps : List Nat) (i : Nat) : Nat := (ps.filter fun p => decide (p ≤ i)).length
def wordAt (first : Nat) (ps : List Nat) (i : Nat) : Nat := (first + ahead ps i) % 2

theorem s75 {n : Nat} {first : Nat} {ps : List Nat} (hl : ps.length ≤ 1000) {size : Nat} (h1 : 1 ≤ size) (hs : size ≤ 1000) : callF KT (n + 1) 75 [nm first, plc ps, nm size] = .ok (.tup (((List.range (size - 1)).map (wordAt first ps)).map nm)) := by
  refine fn_wp f75 (by simp) ?_
  simp [startE]
  rw [rng0 (size - 1) (by omega) (by omega)]
  simp
  refine wp_pre (fun pre ρ => ∃ y4 y5 y6, ρ = [.fr (nm first), .fr (plc ps), .fr (nm size), .own ((pre.map (wordAt first ps)).map nm), y4, y5, y6]) ⟨_, _, _, rfl⟩ ?_ ?_
  · rintro pre i post ρ hl2 ⟨y4, y5, y6, rfl⟩
    have lc : pre.length < 1000000 := by
      have := congrArg List.length hl2
      simp at this
      omega
    simp
    rw [show itemsR (plc ps) = .ok (ps.map nm) from rfl]
    simp
    rw [comp_flt nm (fun p => decide (p ≤ i)) (by omega) fun p hp => ?_]
    · have fm : ((first : Int) + ((ps.filter fun p => decide (p ≤ i)).length : Nat)).fmod 2 = ((wordAt first ps i : Nat) : Int) := fmod2 first _
      simp [fm, lc]
    · by_cases h : p ≤ i <;> simp [yF, h]
  · rintro ρ' ⟨y4, y5, y6, rfl⟩
    simp

def goesB (w : Nat → Nat) (size first : Nat) (ps : List Nat) : Bool := (List.range (size - 1)).all fun i => w i != 1 - wordAt first ps i
theorem enum_eq {α : Type} (g : α → D) : ∀ (l : List α) (n : Nat), enumL n (l.map g) = (l.zipIdx n).map fun x => D.tup [nm x.2, g x.1]
  | [], _ => rfl
  | a :: l, n => by rw [List.map_cons, enumL, enum_eq g l (n + 1), List.zipIdx_cons, List.map_cons]
theorem enum_rg (m : Nat) (f : Nat → Nat) : enumL 0 (((List.range m).map f).map nm) = (List.range m).map fun i => D.tup [nm i, nm (f i)] := by
  rw [enum_eq]
  apply List.ext_getElem
  · simp
  · intro i h1 h2
    simp

theorem s76 {n : Nat} {r : List Fq} (hr : OkR r) {first : Nat} {ps : List Nat} (hl : ps.length ≤ 1000) : callF KT (n + 2) 76 [rw r, nm first, plc ps] = .ok (.bl (goesB (wd r) r.length first ps)) := by
  refine fn_wp f76 (by simp) ?_
  have e0 : bltR .len [rw r] = .ok (.int (r.length : Nat)) := by simp [rw]
  have w : callF KT (n + 1) 75 [nm first, plc ps, .int (r.length : Nat)] = _ := s75 (n := n) (first := first) hl hr.pos (by have := hr.most; omega)
  simp [startE, e0, w]
  have en := enum_rg (r.length - 1) (wordAt first ps)
  simp only [List.map_map] at en
  rw [en]
  refine wp_all (fun ρ => ∃ y3 y4, ρ = [.fr (rw r), .fr (nm first), .fr (plc ps), y3, y4]) (fun i => wd r i != 1 - wordAt first ps i) (.bl false) ⟨_, _, rfl⟩ ?_ ?_ ?_
  · rintro i hi ρ ⟨y3, y4, rfl⟩
    have hi : i < r.length - 1 := by simpa using hi
    have i1 : idxR (rw r) (.int (i : Nat)) = .ok (fr (qa r i)) := at_qa (by omega)
    have i2 : idxR (rw r) (.int ((i : Nat) + 1)) = .ok (fr (qa r (i + 1))) := at_qa (show i + 1 < r.length by omega)
    have o1 := hr.ok _ (qa_mem (r := r) (i := i) (by omega))
    have o2 := hr.ok _ (qa_mem (show i + 1 < r.length by omega))
    have w1 : wordAt first ps i = 0 ∨ wordAt first ps i = 1 := by unfold wordAt; omega
    rcases w1 with w1 | w1 <;> rcases wd_cases r i with v | v | v <;> simp [i1, i2, o1, o2, wd_rise, wd_fall, w1, v]
  · rintro h ρ' ⟨y3, y4, rfl⟩
    simp [goesB, h]
  · intro h
    simp [goesB, h]

def canR (w : Nat → Nat) (size : Nat) : Nat → Nat → Nat → Bool
  | 0, word, a => pieceB w word a (size - 1)
  | c + 1, word, a => (List.range' a (size - a)).any fun e => canR w size c (1 - word) e && pieceB w word a e
def canP (w : Nat → Nat) (size first many p a : Nat) : Bool := canR w size (many - 1 - p) ((first + p) % 2) a
def rowT (w : Nat → Nat) (size first many p : Nat) : D := .lst ((List.range size).map fun a => .bl (canP w size first many p a))
theorem rng3_dn {m : Nat} (h1 : 1 ≤ m) (h2 : m ≤ 10) : bltR .rng3 [.int ((m : Int) - 2), .int (-1), .int (-1)] = .ok (.itr ((List.range (m - 1)).reverse.map nm)) := by
  have : m = 1 ∨ m = 2 ∨ m = 3 ∨ m = 4 ∨ m = 5 ∨ m = 6 ∨ m = 7 ∨ m = 8 ∨ m = 9 ∨ m = 10 := by omega
  rcases this with rfl | rfl | rfl | rfl | rfl | rfl | rfl | rfl | rfl | rfl <;> exact eq_of_heq HEq.rfl
theorem rev_at {m : Nat} {pre post : List Nat} {a : Nat} (h : (List.range m).reverse = pre ++ a :: post) : a + pre.length + 1 = m := by
  have hl := congrArg List.length h
  simp at hl
  have e : (List.range m).reverse[pre.length]? = some a := by rw [h]; simp
  rw [List.getElem?_reverse (by simp; omega), List.length_range, List.getElem?_range (by omega)] at e
  have e := Option.some.inj e
  omega
theorem rng_at {m : Nat} {pre post : List Nat} {a : Nat} (h : List.range m = pre ++ a :: post) : a = pre.length ∧ pre.length < m := by
  have hl := congrArg List.length h
  simp at hl
  have e : (List.range m)[pre.length]? = some a := by rw [h]; simp
  rw [List.getElem?_range (by omega)] at e
  have e := Option.some.inj e
  omega
theorem gt_any {α : Type} (l : List α) (p : α → Bool) : decide ((0 : Int) < ((l.filter p).length : Nat)) = l.any p := by
  induction l with
  | nil => rfl
  | cons a l ih =>
    rw [List.filter_cons, List.any_cons]
    cases p a with
    | true => simp
    | false => simpa using ih

def pickE (g : Bool) (l : List Nat) : Nat := if g = true then (l.getLast?).getD 0 else (l.head?).getD 0
def walkS (w : Nat → Nat) (size : Nat) (g : Bool) : Nat → Nat → Nat → List Nat
  | 0, _, _ => []
  | c + 1, word, a => let e := pickE g ((List.range' a (size - a)).filter fun e => canR w size c (1 - word) e && pieceB w word a e)
    e :: walkS w size g c (1 - word) e
theorem pickE_mem {g : Bool} {l : List Nat} (h : l ≠ []) : pickE g l ∈ l := by
  unfold pickE
  cases g with
  | true =>
    rw [if_pos rfl]
    cases hg : l.getLast? with
    | none => exact absurd (List.getLast?_eq_none_iff.mp hg) h
    | some x => exact List.mem_of_getLast? hg
  | false =>
    rw [if_neg (by decide)]
    cases l with
    | nil => exact absurd rfl h
    | cons x l => exact List.mem_cons_self
theorem pickE_idx {g : Bool} {l : List Nat} (h : l ≠ []) : atL (l.map nm) (if g = true then -1 else 0) = .ok (nm (pickE g l)) := by
  have h1 : 0 < l.length := List.length_pos_iff.mpr h
  cases g with
  | true =>
    rw [if_pos rfl, atL_neg (l.length - 1) (by omega) (by decide) (by omega)]
    unfold pickE
    rw [if_pos rfl, List.getLast?_eq_getElem?, List.getElem?_eq_getElem (by omega)]
    rfl
  | false =>
    cases l with
    | nil => exact absurd rfl h
    | cons x l => rfl

/-- turning places that go up -/
def ascN (size : Nat) : Nat → List Nat → Bool
  | _, [] => true
  | lo, p :: ps => decide (lo ≤ p) && decide (p < size) && ascN size p ps
theorem ascZ_nat {size : Nat} : ∀ (ps : List Nat) (lo : Nat), ascZ (size : Int) (lo : Int) (ps.map fun (p : Nat) => (p : Int)) = ascN size lo ps
  | [], _ => rfl
  | p :: ps, lo => by
    rw [List.map_cons, ascZ, ascN, ascZ_nat ps p]
    congr 1
    rw [Bool.eq_iff_iff]
    simp
    omega

end PF

namespace PF
open PySem

/-- by pieces, one after the other -/
def goR (w : Nat → Nat) (word a : Nat) : List Nat → Nat → Bool
  | [], b => pieceB w word a b
  | p :: ps, b => pieceB w word a p && goR w (1 - word) p ps b
theorem goB_go (w : Nat → Nat) (b : Nat) : ∀ (ps : List Nat) (first a : Nat), first ≤ 1 → ((List.range (ps.length + 1)).all fun k => pieceB w ((first + k) % 2) (enAt (a :: ps ++ [b]) k) (enAt (a :: ps ++ [b]) (k + 1))) = goR w first a ps b
  | [], first, a, hf => by
    simp [goR, enAt, Nat.mod_eq_of_lt (show first < 2 by omega)]
  | p :: ps, first, a, hf => by
    have ih := goB_go w b ps (1 - first) p (by omega)
    rw [List.length_cons, List.range_succ_eq_map, List.all_cons, List.all_map, goR, ← ih]
    have e0 : enAt (a :: p :: ps ++ [b]) 0 = a := rfl
    have e1 : enAt (a :: p :: ps ++ [b]) (0 + 1) = p := rfl
    rw [e0, e1, Nat.add_zero, Nat.mod_eq_of_lt (show first < 2 by omega)]
    congr 1
    congr 1
    funext k
    have m : (first + (k + 1)) % 2 = (1 - first + k) % 2 := by omega
    simp only [Function.comp_apply, Nat.succ_eq_add_one, m]
    rfl
theorem goB_eq (w : Nat → Nat) (size first : Nat) (ps : List Nat) (hf : first ≤ 1) : goB w size first ps = goR w first 0 ps (size - 1) := goB_go w (size - 1) ps first 0 hf
theorem ahead_c (p : Nat) (ps : List Nat) (i : Nat) : ahead (p :: ps) i = (if p ≤ i then 1 else 0) + ahead ps i := by
  unfold ahead
  rw [List.filter_cons]
  by_cases h : p ≤ i
  · simp [h]; omega
  · simp [h]
theorem ahead_0 {lo size i : Nat} (h : i < lo) : ∀ {ps : List Nat}, ascN size lo ps = true → ahead ps i = 0
  | [], _ => rfl
  | p :: ps, ha => by
    simp only [ascN, Bool.and_eq_true, decide_eq_true_eq] at ha
    rw [ahead_c, if_neg (by omega), ahead_0 (by omega) ha.2]
theorem goR_steps (w : Nat → Nat) (b size : Nat) : ∀ (ps : List Nat) (first a : Nat), first ≤ 1 → ascN size a ps = true → (∀ p ∈ ps, p ≤ b) →
    (goR w first a ps b = true ↔ ∀ i, a ≤ i → i < b → w i ≠ 1 - wordAt first ps i)
  | [], first, a, hf, _, _ => by
    unfold goR pieceB
    rw [List.all_eq_true]
    simp only [List.mem_range'_1, bne_iff_ne, wordAt, ahead, List.filter_nil, List.length_nil, Nat.add_zero, Nat.mod_eq_of_lt (show first < 2 by omega)]
    exact ⟨fun h i h1 h2 => h i ⟨h1, by omega⟩, fun h i hi => h i hi.1 (by omega)⟩
  | p :: ps, first, a, hf, ha, hb => by
    simp only [ascN, Bool.and_eq_true, decide_eq_true_eq] at ha
    have ih := goR_steps w b size ps (1 - first) p (by omega) ha.2 fun q hq => hb q (List.mem_cons_of_mem _ hq)
    unfold goR
    rw [Bool.and_eq_true, ih]
    unfold pieceB
    rw [List.all_eq_true]
    simp only [List.mem_range'_1, bne_iff_ne]
    have w1 : ∀ i, i < p → wordAt first (p :: ps) i = first := fun i hi => by
      unfold wordAt
      rw [ahead_c, if_neg (by omega), ahead_0 hi ha.2]
      omega
    have w2 : ∀ i, p ≤ i → wordAt first (p :: ps) i = wordAt (1 - first) ps i := fun i hi => by
      unfold wordAt
      rw [ahead_c, if_pos hi]
      omega
    have hpb := hb p List.mem_cons_self
    constructor
    · rintro ⟨h1, h2⟩ i ia ib
      by_cases hi : i < p
      · rw [w1 i hi]; exact h1 i ⟨ia, by omega⟩
      · rw [w2 i (by omega)]; exact h2 i (by omega) ib
    · intro h
      refine ⟨fun i hi => ?_, fun i ia ib => ?_⟩
      · have := h i hi.1 (by omega)
        rwa [w1 i (by omega)] at this
      · have := h i (by omega) ib
        rwa [w2 i ia] at this
theorem ascN_lt {size : Nat} : ∀ {ps : List Nat} {lo : Nat}, ascN size lo ps = true → ∀ p ∈ ps, lo ≤ p ∧ p < size
  | [], _, _, p, hp => by cases hp
  | q :: ps, lo, h, p, hp => by
    simp only [ascN, Bool.and_eq_true, decide_eq_true_eq] at h
    rcases List.mem_cons.mp hp with rfl | hp
    · exact h.1
    · have := ascN_lt h.2 p hp
      omega
/-- the program's way to see whether a row goes, and the law's -/
theorem goes_go {w : Nat → Nat} {size first : Nat} {ps : List Nat} (hf : first ≤ 1) (h : ascN size 0 ps = true) : goesB w size first ps = goB w size first ps := by
  rw [goB_eq w size first ps hf, Bool.eq_iff_iff, goR_steps w (size - 1) size ps first 0 hf h fun p hp => by have := ascN_lt h p hp; omega]
  unfold goesB
  rw [List.all_eq_true]
  simp only [List.mem_range, bne_iff_ne]
  exact ⟨fun h i _ hi => h i hi, fun h i hi => h i (by omega) hi⟩
theorem ascN_app {size : Nat} : ∀ {ps : List Nat} {lo p : Nat}, ascN size lo ps = true → (ps.getLast?).getD lo ≤ p → p < size → ascN size lo (ps ++ [p]) = true
  | [], lo, p, _, h1, h2 => by
    have h1 : lo ≤ p := h1
    simp [ascN, h1, h2]
  | q :: ps, lo, p, h, h1, h2 => by
    simp only [ascN, Bool.and_eq_true, decide_eq_true_eq] at h
    simp only [List.cons_append, ascN, Bool.and_eq_true, decide_eq_true_eq]
    refine ⟨h.1, ascN_app h.2 ?_ h2⟩
    cases ps with
    | nil => simpa using h1
    | cons x ps =>
      have e1 : ((q :: x :: ps).getLast?).getD lo = ((x :: ps).getLast?).getD q := by
        rw [List.getLast?_cons_cons, List.getLast?_eq_some_getLast (List.cons_ne_nil x ps)]
        rfl
      rw [← e1]
      exact h1
theorem allP_asc {m : Nat} : ∀ {c : Nat} {ps : List Nat}, ps ∈ allP m c → ascN m 0 ps = true
  | 0, ps, h => by
    have : ps = [] := by simpa [allP] using h
    subst this
    rfl
  | c + 1, ps, h => by
    unfold allP nextP at h
    rw [List.mem_flatMap] at h
    obtain ⟨qs, hq, h⟩ := h
    rw [List.mem_map] at h
    obtain ⟨p, hp, rfl⟩ := h
    rw [List.mem_range'_1] at hp
    exact ascN_app (allP_asc hq) hp.1 (by have h2 : lastP qs ≤ m := lastP_le (allP_mem hq).2; omega)
/-! all turning places from a place on, front first -/
def allQ (m : Nat) : Nat → Nat → List (List Nat)
  | 0, _ => [[]]
  | c + 1, a => (List.range' a (m - a)).flatMap fun e => (allQ m c e).map (e :: ·)
def nextA (m a : Nat) (rows : List (List Nat)) : List (List Nat) := rows.flatMap fun ps => (List.range' ((ps.getLast?).getD a) (m - (ps.getLast?).getD a)).map fun p => ps ++ [p]
theorem getLast_cons (e a : Nat) (ps : List Nat) : ((e :: ps).getLast?).getD a = (ps.getLast?).getD e := by
  cases ps with
  | nil => rfl
  | cons x ps =>
    rw [List.getLast?_cons_cons, List.getLast?_eq_some_getLast (List.cons_ne_nil x ps)]
    rfl
theorem allQ_next (m : Nat) : ∀ (c a : Nat), allQ m (c + 1) a = nextA m a (allQ m c a)
  | 0, a => by
    simp only [allQ, nextA, List.map_cons, List.map_nil, List.flatMap_cons, List.flatMap_nil, List.append_nil, List.getLast?_nil, Option.getD_none, List.nil_append]
    generalize List.range' a (m - a) = l
    induction l with
    | nil => rfl
    | cons x l ih => rw [List.flatMap_cons, ih]; rfl
  | c + 1, a => by
    have ih := allQ_next m c
    show (List.range' a (m - a)).flatMap (fun e => (allQ m (c + 1) e).map (e :: ·)) = nextA m a ((List.range' a (m - a)).flatMap fun e => (allQ m c e).map (e :: ·))
    unfold nextA
    rw [List.flatMap_assoc]
    congr 1
    funext e
    rw [ih e]
    unfold nextA
    rw [List.map_flatMap, List.flatMap_map]
    congr 1
    funext ps
    rw [getLast_cons, List.map_map]
    rfl
theorem allP_Q (m : Nat) : ∀ c, allP m c = allQ m c 0
  | 0 => rfl
  | c + 1 => by rw [allQ_next, ← allP_Q m c]; rfl
theorem head_flat {α β : Type} (f : α → List β) : ∀ l : List α, (l.flatMap f).head? = ((l.filter fun a => !(f a).isEmpty).head?).bind fun a => (f a).head?
  | [] => rfl
  | a :: l => by
    rw [List.flatMap_cons, List.filter_cons]
    cases hf : f a with
    | nil => simpa using head_flat f l
    | cons b bs => simp [hf]
theorem last_flat {α β : Type} (f : α → List β) : ∀ l : List α, (l.flatMap f).getLast? = ((l.filter fun a => !(f a).isEmpty).getLast?).bind fun a => (f a).getLast?
  | [] => rfl
  | a :: l => by
    have ih := last_flat f l
    rw [List.flatMap_cons, List.filter_cons, List.getLast?_append, ih]
    have mem : ∀ x ∈ l.filter (fun a => !(f a).isEmpty), f x ≠ [] := fun x hx h => by
      rw [List.mem_filter, h] at hx
      simp at hx
    generalize l.filter (fun a => !(f a).isEmpty) = L at *
    cases hf : f a with
    | nil => simp
    | cons b bs =>
      simp only [List.isEmpty_cons, Bool.not_false, if_true]
      cases hg : L.getLast? with
      | none => simp [List.getLast?_cons, hf, hg]
      | some x =>
        have hx := mem x (List.mem_of_getLast? hg)
        cases hfx : f x with
        | nil => exact absurd hfx hx
        | cons y ys => simp [List.getLast?_cons, hg, hfx]
theorem isEmpty_app {α : Type} (a b : List α) : (a ++ b).isEmpty = (a.isEmpty && b.isEmpty) := by cases a <;> rfl
/-- those of them that a row goes by -/
def goodQ (w : Nat → Nat) (size c word a : Nat) : List (List Nat) := (allQ size c a).filter fun ps => goR w word a ps (size - 1)
theorem goodQ_s (w : Nat → Nat) (size c word a : Nat) : goodQ w size (c + 1) word a = (List.range' a (size - a)).flatMap fun e => if pieceB w word a e = true then (goodQ w size c (1 - word) e).map (e :: ·) else [] := by
  unfold goodQ
  rw [allQ, List.filter_flatMap]
  congr 1
  funext e
  rw [List.filter_map]
  cases h : pieceB w word a e with
  | true =>
    rw [if_pos rfl]
    congr 1
    apply List.filter_congr
    intro ps _
    simp [goR, h]
  | false =>
    rw [if_neg (by decide)]
    rw [List.map_eq_nil_iff, List.filter_eq_nil_iff]
    intro ps _
    simp [goR, h]
theorem goodQ_can (w : Nat → Nat) (size : Nat) : ∀ (c word a : Nat), (goodQ w size c word a).isEmpty = !(canR w size c word a)
  | 0, word, a => by
    unfold goodQ canR
    cases h : pieceB w word a (size - 1) <;> simp [allQ, goR, h]
  | c + 1, word, a => by
    rw [goodQ_s, canR]
    generalize List.range' a (size - a) = l
    induction l with
    | nil => rfl
    | cons e l ih =>
      rw [List.flatMap_cons, List.any_cons, isEmpty_app, ih, Bool.not_or]
      congr 1
      have := goodQ_can w size c (1 - word) e
      cases h : pieceB w word a e
      · simp
      · simp [this]
theorem goodQ_ends (w : Nat → Nat) (size : Nat) : ∀ (c word a : Nat), (goodQ w size c word a).head? = (if canR w size c word a = true then some (walkS w size false c word a) else none) ∧ (goodQ w size c word a).getLast? = (if canR w size c word a = true then some (walkS w size true c word a) else none)
  | 0, word, a => by
    unfold goodQ canR walkS
    cases h : pieceB w word a (size - 1) <;> simp [allQ, goR, h]
  | c + 1, word, a => by
    have hf : ∀ e, (!(if pieceB w word a e = true then (goodQ w size c (1 - word) e).map (e :: ·) else []).isEmpty) = (canR w size c (1 - word) e && pieceB w word a e) := fun e => by
      have := goodQ_can w size c (1 - word) e
      cases h : pieceB w word a e
      · simp
      · simp [this]
    rw [goodQ_s, head_flat, last_flat]
    simp only [hf]
    have cR : canR w size (c + 1) word a = (List.range' a (size - a)).any fun e => canR w size c (1 - word) e && pieceB w word a e := rfl
    have wS : ∀ g, walkS w size g (c + 1) word a = pickE g ((List.range' a (size - a)).filter fun e => canR w size c (1 - word) e && pieceB w word a e) :: walkS w size g c (1 - word) (pickE g ((List.range' a (size - a)).filter fun e => canR w size c (1 - word) e && pieceB w word a e)) := fun g => rfl
    rw [cR, wS, wS]
    have any : ((List.range' a (size - a)).any fun e => canR w size c (1 - word) e && pieceB w word a e) = !((List.range' a (size - a)).filter fun e => canR w size c (1 - word) e && pieceB w word a e).isEmpty := by
      rw [filt_any, Bool.not_not]
    rw [any]
    have mem : ∀ e ∈ (List.range' a (size - a)).filter (fun e => canR w size c (1 - word) e && pieceB w word a e), canR w size c (1 - word) e = true ∧ pieceB w word a e = true := fun e he => by
      rw [List.mem_filter, Bool.and_eq_true] at he
      exact he.2
    generalize (List.range' a (size - a)).filter (fun e => canR w size c (1 - word) e && pieceB w word a e) = F at *
    have h1 : ∀ e ∈ F, (if pieceB w word a e = true then (goodQ w size c (1 - word) e).map (e :: ·) else []).head? = some (e :: walkS w size false c (1 - word) e) := fun e he => by
      obtain ⟨m1, m2⟩ := mem e he
      have := (goodQ_ends w size c (1 - word) e).1
      rw [m1, if_pos rfl] at this
      rw [m2, if_pos rfl, List.head?_map, this]
      rfl
    have h2 : ∀ e ∈ F, (if pieceB w word a e = true then (goodQ w size c (1 - word) e).map (e :: ·) else []).getLast? = some (e :: walkS w size true c (1 - word) e) := fun e he => by
      obtain ⟨m1, m2⟩ := mem e he
      have := (goodQ_ends w size c (1 - word) e).2
      rw [m1, if_pos rfl] at this
      rw [m2, if_pos rfl, List.getLast?_map, this]
      rfl
    constructor
    · cases F with
      | nil => rfl
      | cons e F =>
        have := h1 e List.mem_cons_self
        simp only [List.head?_cons, Option.bind_some, List.isEmpty_cons, Bool.not_false, if_true, this]
        simp [pickE]
    · cases hg : F.getLast? with
      | none =>
        rw [List.getLast?_eq_none_iff] at hg
        subst hg
        rfl
      | some e =>
        have me := List.mem_of_getLast? hg
        have := h2 e me
        have ne : F.isEmpty = false := by
          cases F with
          | nil => cases me
          | cons x F => rfl
        simp only [Option.bind_some, ne, Bool.not_false, if_true, this]
        simp [pickE, hg]
theorem piece_same (w : Nat → Nat) (word a : Nat) : pieceB w word a a = true := by simp [pieceB]
theorem can_other {w : Nat → Nat} {size c word a : Nat} (ha : a < size) (hw : word ≤ 1) (h : canR w size c word a = true) : canR w size (c + 1) (1 - word) a = true := by
  unfold canR
  rw [List.any_eq_true]
  refine ⟨a, by rw [List.mem_range'_1]; omega, ?_⟩
  rw [show 1 - (1 - word) = word by omega, h, piece_same]
  rfl
theorem can_more {w : Nat → Nat} {size : Nat} : ∀ {c word a : Nat}, a < size → canR w size c word a = true → canR w size (c + 1) word a = true
  | 0, word, a, ha, h => by
    unfold canR at h ⊢
    rw [List.any_eq_true]
    refine ⟨size - 1, by rw [List.mem_range'_1]; omega, ?_⟩
    rw [h]
    unfold canR
    rw [piece_same]
    rfl
  | c + 1, word, a, ha, h => by
    unfold canR at h ⊢
    rw [List.any_eq_true] at h ⊢
    obtain ⟨e, he, hh⟩ := h
    rw [Bool.and_eq_true] at hh
    rw [List.mem_range'_1] at he
    refine ⟨e, by rw [List.mem_range'_1]; exact he, ?_⟩
    rw [can_more (by omega) hh.1, hh.2]
    rfl
theorem good_eq (w : Nat → Nat) (size first c : Nat) (hf : first ≤ 1) : (allP size c).filter (goB w size first) = goodQ w size c first 0 := by
  unfold goodQ
  rw [allP_Q]
  apply List.filter_congr
  intro ps _
  exact goB_eq w size first ps hf
end PF

namespace PF
open PySem

section
variable (Sr : Nat → Nat → Nat → Bool)
/-- no pair within -/
def noP (w a b : Nat) : Prop := ∀ i j, a ≤ i → i < j → j ≤ b → Sr w i j = false
/-- each piece has none against it -/
def pcOK : Nat → Nat → List Nat → Nat → Prop
  | word, a, [], b => noP Sr word a b
  | word, a, p :: ps, b => noP Sr word a p ∧ pcOK (1 - word) p ps b
/-- a chain, among n places from lo on -/
def IsCh (n : Nat) : Nat → Nat → List (Nat × Nat) → Prop
  | _, _, [] => True
  | word, lo, p :: c => lo ≤ p.1 ∧ p.1 < p.2 ∧ p.2 < n ∧ Sr word p.1 p.2 = true ∧ IsCh n (1 - word) (p.2 - 1) c
/-- words by steps with nothing against them, up to place m -/
def okUp (v : Nat → Nat) (a m : Nat) : Prop := ∀ w i j, a ≤ i → i < j → j ≤ m → (∀ s, i ≤ s → s < j → v s = w) → Sr w i j = false
end
variable {Sr : Nat → Nat → Nat → Bool}
theorem IsCh.mono {n : Nat} {word lo lo' : Nat} {c : List (Nat × Nat)} (h : IsCh Sr n word lo c) (hl : lo' ≤ lo) : IsCh Sr n word lo' c := by
  cases c with
  | nil => trivial
  | cons p c =>
    obtain ⟨a, b⟩ := h
    exact ⟨Nat.le_trans hl a, b⟩
theorem IsCh.size {n m : Nat} (hn : n ≤ m) : ∀ {word lo : Nat} {c : List (Nat × Nat)}, IsCh Sr n word lo c → IsCh Sr m word lo c
  | _, _, [], _ => trivial
  | _, _, _ :: _, ⟨a, b, c, d, e⟩ => ⟨a, b, by omega, d, e.size hn⟩
theorem ch_bound {n : Nat} : ∀ {ps : List Nat} {word a lo b : Nat} {c : List (Nat × Nat)}, pcOK Sr word a ps b → n ≤ b + 1 → a ≤ lo → IsCh Sr n word lo c → c.length ≤ ps.length
  | _, _, _, _, _, [], _, _, _, _ => Nat.zero_le _
  | [], word, a, lo, b, p :: c, hp, hn, ha, ⟨h1, h2, h3, h4, _⟩ => by
    have := hp p.1 p.2 (by omega) h2 (by omega)
    rw [this] at h4
    cases h4
  | q :: ps, word, a, lo, b, p :: c, ⟨hp1, hp2⟩, hn, ha, ⟨h1, h2, h3, h4, h5⟩ => by
    by_cases h : p.2 ≤ q
    · have := hp1 p.1 p.2 (by omega) h2 h
      rw [this] at h4
      cases h4
    · have := ch_bound hp2 hn (show q ≤ p.2 - 1 by omega) h5
      simp
      omega
theorem chn_ch (n : Nat) : ∀ (m w start : Nat), IsCh Sr n w start (chn Sr n m w start)
  | 0, _, _ => trivial
  | m + 1, w, start => by
    unfold chn
    cases h : fpP (Sr w) n start with
    | none => trivial
    | some p =>
      obtain ⟨a, b, c, d, _⟩ := fpP_some h
      exact ⟨a, b, c, d, chn_ch n m (1 - w) (p.2 - 1)⟩
/-- what intervals bring -/
structure Iv (Sr : Nat → Nat → Nat → Bool) : Prop where
  lt : ∀ {w i j}, Sr w i j = true → i < j
  tr : ∀ {w i j k}, w ≤ 1 → i < j → j < k → Sr w i k = true → Sr (1 - w) j k = true → Sr w i j = true
  no : ∀ {w i j}, w ≤ 1 → Sr w i j = true → Sr (1 - w) i j = false
/-- the word of a step, by a chain -/
def vOf : Nat → List (Nat × Nat) → Nat → Nat
  | word, [], _ => word
  | word, p :: c, s => if s < p.2 - 1 then word else vOf (1 - word) c s
theorem vOf_01 : ∀ {word : Nat} {c : List (Nat × Nat)} (s : Nat), word ≤ 1 → vOf word c s ≤ 1
  | _, [], _, h => h
  | word, p :: c, s, h => by
    unfold vOf
    split
    · exact h
    · exact vOf_01 s (by omega)
/-- the greedy chain's words have nothing against them -/
theorem greedy_ok (iv : Iv Sr) {n : Nat} : ∀ (m word lo : Nat), word ≤ 1 → (chn Sr n m word lo).length < m → okUp Sr (vOf word (chn Sr n m word lo)) lo (n - 1)
  | 0, _, _, _, h => absurd h (by simp)
  | m + 1, word, lo, hw, h => by
    unfold chn at h ⊢
    cases hp : fpP (Sr word) n lo with
    | none =>
      intro w i j h1 h2 h3 hc
      have e : word = w := hc i (Nat.le_refl _) h2
      subst e
      exact fpP_none hp i j h1 h2 (by omega)
    | some p =>
      rw [hp] at h
      obtain ⟨q1, q2, q3, q4, q5⟩ := fpP_some hp
      have h' : (chn Sr n m (1 - word) (p.2 - 1)).length < m := by
        have h : (p :: chn Sr n m (1 - word) (p.2 - 1)).length < m + 1 := h
        simp at h
        exact h
      have ih := greedy_ok iv m (1 - word) (p.2 - 1) (by omega) h'
      show okUp Sr (vOf word (p :: chn Sr n m (1 - word) (p.2 - 1))) lo (n - 1)
      have hm : 0 < m := by omega
      have nx : ∀ q c, chn Sr n m (1 - word) (p.2 - 1) = q :: c → p.2 < q.2 := by
        intro q c hq
        obtain ⟨k, rfl⟩ : ∃ k, m = k + 1 := ⟨m - 1, by omega⟩
        unfold chn at hq
        cases hp2 : fpP (Sr (1 - word)) n (p.2 - 1) with
        | none => rw [hp2] at hq; cases hq
        | some q' =>
          rw [hp2] at hq
          have hq : q' :: chn Sr n k (1 - (1 - word)) (q'.2 - 1) = q :: c := hq
          have hq := (List.cons.inj hq).1
          subst hq
          obtain ⟨r1, r2, r3, r4, r5⟩ := fpP_some hp2
          by_cases e : q'.2 ≤ p.2
          · exfalso
            have e1 : q'.2 = p.2 := by omega
            have e2 : q'.1 = p.2 - 1 := by omega
            rw [e1, e2] at r4
            by_cases e3 : p.1 < p.2 - 1
            · have := iv.tr hw e3 (by omega) q4 r4
              rw [q5 p.1 (p.2 - 1) q1 e3 (by omega)] at this
              cases this
            · have e4 : p.1 = p.2 - 1 := by omega
              rw [← e4] at r4
              have := iv.no hw q4
              rw [this] at r4
              cases r4
          · omega
      generalize chn Sr n m (1 - word) (p.2 - 1) = c at *
      intro w i j h1 h2 h3 hc
      by_cases a : j ≤ p.2 - 1
      · have e := hc i (Nat.le_refl _) h2
        unfold vOf at e
        rw [if_pos (by omega)] at e
        subst e
        exact q5 i j h1 h2 (by omega)
      · by_cases b : p.2 - 1 ≤ i
        · refine ih w i j b h2 h3 fun s s1 s2 => ?_
          have := hc s s1 s2
          unfold vOf at this
          rw [if_neg (by omega)] at this
          exact this
        · exfalso
          have c1 := hc (p.2 - 2) (by omega) (by omega)
          have c2 := hc (p.2 - 1) (by omega) (by omega)
          unfold vOf at c1 c2
          rw [if_pos (by omega)] at c1
          rw [if_neg (by omega)] at c2
          have c3 : vOf (1 - word) c (p.2 - 1) = 1 - word := by
            cases c with
            | nil => rfl
            | cons q c =>
              have := nx q c rfl
              unfold vOf
              rw [if_pos (by omega)]
          rw [c3] at c2
          omega
/-- the greedy turning places -/
def gPl (c : List (Nat × Nat)) (n many : Nat) : List Nat := c.map (fun p => p.2 - 1) ++ List.replicate (many - 1 - c.length) (n - 1)
theorem gPl_len {c : List (Nat × Nat)} {n many : Nat} (h : c.length ≤ many - 1) : (gPl c n many).length = many - 1 := by
  unfold gPl
  rw [List.length_append, List.length_map, List.length_replicate]
  omega
theorem ahead_app (a b : List Nat) (i : Nat) : ahead (a ++ b) i = ahead a i + ahead b i := by simp [ahead]
theorem ahead_rep (k x i : Nat) (h : i < x) : ahead (List.replicate k x) i = 0 := by
  unfold ahead
  rw [List.length_eq_zero_iff, List.filter_eq_nil_iff]
  intro y hy
  rw [List.eq_of_mem_replicate hy]
  simp
  omega
/-- pairs go up -/
theorem ch_up {n : Nat} : ∀ {word lo : Nat} {c : List (Nat × Nat)}, IsCh Sr n word lo c → ∀ p ∈ c, lo ≤ p.2 - 1 ∧ p.2 < n ∧ 1 ≤ p.2
  | _, _, [], _, p, hp => by cases hp
  | word, lo, q :: c, ⟨h1, h2, h3, h4, h5⟩, p, hp => by
    rcases List.mem_cons.mp hp with rfl | hp
    · omega
    · have := ch_up h5 p hp
      omega
theorem vOf_ahead {n : Nat} : ∀ {word lo : Nat} {c : List (Nat × Nat)}, word ≤ 1 → IsCh Sr n word lo c → ∀ s, vOf word c s = (word + ahead (c.map fun p => p.2 - 1) s) % 2
  | word, lo, [], hw, _, s => by
    unfold vOf ahead
    simp
    omega
  | word, lo, p :: c, hw, ⟨h1, h2, h3, h4, h5⟩, s => by
    unfold vOf
    rw [List.map_cons, ahead_c]
    by_cases h : s < p.2 - 1
    · rw [if_pos h, if_neg (by omega)]
      have z : ahead (c.map fun p => p.2 - 1) s = 0 := by
        unfold ahead
        rw [List.length_eq_zero_iff, List.filter_eq_nil_iff]
        intro y hy
        obtain ⟨q, hq, rfl⟩ := List.mem_map.mp hy
        have := ch_up h5 q hq
        simp
        omega
      rw [z]
      omega
    · rw [if_neg h, if_pos (by omega), vOf_ahead (by omega) h5 s]
      omega
theorem gPl_word {n many : Nat} {word lo : Nat} {c : List (Nat × Nat)} (hw : word ≤ 1) (hc : IsCh Sr n word lo c) {s : Nat} (hs : s < n - 1) : wordAt word (gPl c n many) s = vOf word c s := by
  unfold wordAt gPl
  rw [ahead_app, ahead_rep _ _ _ hs, Nat.add_zero, vOf_ahead hw hc]
theorem asc_map {n : Nat} : ∀ {word lo : Nat} {c : List (Nat × Nat)}, IsCh Sr n word lo c → ascN n lo (c.map fun p => p.2 - 1) = true
  | _, _, [], _ => rfl
  | word, lo, p :: c, ⟨h1, h2, h3, h4, h5⟩ => by
    rw [List.map_cons, ascN, asc_map h5]
    simp
    omega
theorem ascN_ge {size : Nat} : ∀ {ps qs : List Nat} {lo : Nat}, ascN size lo ps = true → (∀ p ∈ ps, ∀ q ∈ qs, p ≤ q) → (∀ q ∈ qs, lo ≤ q) → ascN size lo qs = true → ascN size lo (ps ++ qs) = true
  | [], qs, lo, _, _, _, h => h
  | p :: ps, qs, lo, h, h1, h2, h3 => by
    simp only [ascN, Bool.and_eq_true, decide_eq_true_eq] at h
    simp only [List.cons_append, ascN, Bool.and_eq_true, decide_eq_true_eq]
    refine ⟨h.1, ascN_ge h.2 (fun x hx q hq => h1 x (List.mem_cons_of_mem _ hx) q hq) (fun q hq => h1 p List.mem_cons_self q hq) ?_⟩
    cases qs with
    | nil => rfl
    | cons q qs =>
      simp only [ascN, Bool.and_eq_true, decide_eq_true_eq] at h3 ⊢
      exact ⟨⟨h1 p List.mem_cons_self q List.mem_cons_self, h3.1.2⟩, h3.2⟩
theorem asc_rep {n : Nat} (hn : 1 ≤ n) : ∀ (k lo : Nat), lo ≤ n - 1 → ascN n lo (List.replicate k (n - 1)) = true
  | 0, _, _ => rfl
  | k + 1, lo, h => by
    rw [List.replicate_succ, ascN, asc_rep hn k (n - 1) (Nat.le_refl _)]
    simp
    omega
theorem gPl_asc {n many : Nat} (hn : 1 ≤ n) {word lo : Nat} (hlo : lo ≤ n - 1) {c : List (Nat × Nat)} (hc : IsCh Sr n word lo c) : ascN n lo (gPl c n many) = true := by
  unfold gPl
  refine ascN_ge (asc_map hc) (fun p hp q hq => ?_) (fun q hq => ?_) (asc_rep hn _ _ hlo)
  · obtain ⟨r, hr, rfl⟩ := List.mem_map.mp hp
    have := ch_up hc r hr
    rw [List.eq_of_mem_replicate hq]
    omega
  · rw [List.eq_of_mem_replicate hq]
    exact hlo
/-- words with nothing against them: no piece has anything against it -/
theorem pc_of_ok {size b : Nat} : ∀ {ps : List Nat} {first a : Nat}, first ≤ 1 → ascN size a ps = true → (∀ p ∈ ps, p ≤ b) → okUp Sr (wordAt first ps) a b → pcOK Sr first a ps b
  | [], first, a, hf, _, _, h => by
    intro i j h1 h2 h3
    refine h first i j h1 h2 h3 fun s _ _ => ?_
    unfold wordAt ahead
    simp
    omega
  | p :: ps, first, a, hf, ha, hb, h => by
    simp only [ascN, Bool.and_eq_true, decide_eq_true_eq] at ha
    have w1 : ∀ i, i < p → wordAt first (p :: ps) i = first := fun i hi => by
      unfold wordAt
      rw [ahead_c, if_neg (by omega), ahead_0 hi ha.2]
      omega
    have w2 : ∀ i, p ≤ i → wordAt first (p :: ps) i = wordAt (1 - first) ps i := fun i hi => by
      unfold wordAt
      rw [ahead_c, if_pos hi]
      omega
    have hpb := hb p List.mem_cons_self
    refine ⟨fun i j h1 h2 h3 => h first i j h1 h2 (by omega) fun s s1 s2 => w1 s (by omega), ?_⟩
    refine pc_of_ok (by omega) ha.2 (fun q hq => hb q (List.mem_cons_of_mem _ hq)) fun w i j h1 h2 h3 hc => ?_
    refine h w i j (by omega) h2 h3 fun s s1 s2 => ?_
    rw [w2 s (by omega)]
    exact hc s s1 s2
/-- turning places by which bounds go -/
def GoodP (Sr : Nat → Nat → Nat → Bool) (n first : Nat) (ps : List Nat) : Prop := ascN n 0 ps = true ∧ okUp Sr (wordAt first ps) 0 (n - 1)
theorem good_none {n first : Nat} (hf : first ≤ 1) {ps : List Nat} (h : GoodP Sr n first ps) {c : List (Nat × Nat)} (hc : IsCh Sr n first 0 c) : c.length ≤ ps.length :=
  ch_bound (pc_of_ok hf h.1 (fun p hp => by have := ascN_lt h.1 p hp; omega) h.2) (by omega) (Nat.le_refl _) hc
theorem good_some (iv : Iv Sr) {n first many : Nat} (hn : 1 ≤ n) (hf : first ≤ 1) (h : (chn Sr n many first 0).length < many) : GoodP Sr n first (gPl (chn Sr n many first 0) n many) ∧ (gPl (chn Sr n many first 0) n many).length = many - 1 := by
  have hc := chn_ch (Sr := Sr) n many first 0
  have ok := greedy_ok iv many first 0 hf h
  refine ⟨⟨gPl_asc hn (by omega) hc, ?_⟩, gPl_len (by omega)⟩
  intro w i j h1 h2 h3 h4
  refine ok w i j h1 h2 h3 fun s s1 s2 => ?_
  rw [← gPl_word (many := many) hf hc (show s < n - 1 by omega)]
  exact h4 s s1 s2
/-- the greedy chain is as long as any -/
theorem chn_max (iv : Iv Sr) {n first many : Nat} (hn : 1 ≤ n) (hf : first ≤ 1) {c : List (Nat × Nat)} (hc : IsCh Sr n first 0 c) (hl : many ≤ c.length) : (chn Sr n many first 0).length = many := by
  by_cases h : (chn Sr n many first 0).length < many
  · obtain ⟨g, gl⟩ := good_some iv hn hf h
    have := good_none hf g hc
    omega
  · have := chn_len Sr n many first 0
    omega
end PF

namespace PF
open PySem

/-- the worth of a fraction -/
def vq (q : Fq) : Rat := (q.1 : Rat) / (q.2 : Rat)
theorem ltQ_iff {p q : Fq} (hp : 0 < p.2) (hq : 0 < q.2) : ltQ p q = true ↔ vq p < vq q := by
  have hp' : (0 : Rat) < (p.2 : Rat) := by rw [← Rat.intCast_zero, Rat.intCast_lt_intCast]; exact hp
  have hq' : (0 : Rat) < (q.2 : Rat) := by rw [← Rat.intCast_zero, Rat.intCast_lt_intCast]; exact hq
  unfold vq ltQ
  rw [Rat.div_lt_iff hp', decide_eq_true_eq, ← Rat.intCast_lt_intCast, Rat.intCast_mul, Rat.intCast_mul]
  have e : (q.1 : Rat) / (q.2 : Rat) * (p.2 : Rat) = (q.1 : Rat) * (p.2 : Rat) / (q.2 : Rat) := by grind
  rw [e, Rat.lt_div_iff hq']
theorem ltQ_val {N M : Nat} {p q : Fq} (hp : OkF N p) (hq : OkF M q) : ltQ p q = decide (vq p < vq q) := by
  rw [Bool.eq_iff_iff, ltQ_iff hp.pos hq.pos, decide_eq_true_eq]
theorem ltQ_f {N M : Nat} {p q : Fq} (hp : OkF N p) (hq : OkF M q) : ltQ p q = false ↔ ¬ (vq p < vq q) := by
  rw [ltQ_val hp hq, decide_eq_false_iff_not]
def lo (l : List Pl) (i : Nat) : Rat := vq (lp l i).1
def hi (l : List Pl) (i : Nat) : Rat := vq (lp l i).2
theorem sur_v {l : List Pl} (hl : OkB l) {i j : Nat} (hi' : i < l.length) (hj : j < l.length) (w : Nat) : sur l w i j = (decide (i < j) && if w = 0 then decide (hi l j < lo l i) else decide (hi l i < lo l j)) := by
  have a := hl.ok _ (lp_mem hi')
  have b := hl.ok _ (lp_mem hj)
  unfold sur
  split
  · unfold fallB hi lo
    rw [ltQ_val b.hi a.lo]
  · unfold riseB hi lo
    rw [ltQ_val a.hi b.lo]
theorem lo_hi {l : List Pl} (hl : OkB l) {i : Nat} (h : i < l.length) : lo l i ≤ hi l i := by
  have a := hl.ok _ (lp_mem h)
  have := (ltQ_f a.hi a.lo).mp a.le
  unfold lo hi
  exact Rat.not_lt.mp this
/-- what is sure is sure of places of the bounds; for all numbers -/
def surN (l : List Pl) (w i j : Nat) : Bool := decide (j < l.length) && sur l w i j
theorem sur_lt {l : List Pl} {w i j : Nat} (h : sur l w i j = true) : i < j := by
  unfold sur fallB riseB at h
  split at h <;> simp at h <;> exact h.1
theorem iv_sur {l : List Pl} (hl : OkB l) : Iv (surN l) where
  lt := fun h => by
    simp only [surN, Bool.and_eq_true] at h
    exact sur_lt h.2
  tr := fun {w i j k} hw h1 h2 h3 h4 => by
    simp only [surN, Bool.and_eq_true, decide_eq_true_eq] at h3 h4 ⊢
    refine ⟨by omega, ?_⟩
    have hk := h3.1
    have s3 := h3.2
    have s4 := h4.2
    have e1 := lo_hi hl (show i < l.length by omega)
    have e2 := lo_hi hl (show j < l.length by omega)
    have e3 := lo_hi hl hk
    rw [sur_v hl (by omega) (by omega)] at s3 s4 ⊢
    have : w = 0 ∨ w = 1 := by omega
    rcases this with rfl | rfl
    · simp at s3 s4 ⊢
      exact ⟨h1, by grind⟩
    · simp at s3 s4 ⊢
      exact ⟨h1, by grind⟩
  no := fun {w i j} hw h => by
    simp only [surN, Bool.and_eq_true, decide_eq_true_eq] at h
    have hj := h.1
    have hij := sur_lt h.2
    have s := h.2
    have e1 := lo_hi hl (show i < l.length by omega)
    have e2 := lo_hi hl hj
    unfold surN
    rw [sur_v hl (by omega) hj] at s ⊢
    have : w = 0 ∨ w = 1 := by omega
    rcases this with rfl | rfl
    · simp at s ⊢
      intro _ _
      grind
    · simp at s ⊢
      intro _ _
      grind
theorem fpP_cg {f g : Nat → Nat → Bool} {size start : Nat} (h : ∀ i j, j < size → f i j = g i j) : fpP f size start = fpP g size start := by
  unfold fpP
  have key : ∀ (l : List Nat), (∀ j ∈ l, j < size) → (l.findSome? fun j => (List.range' start (j - start)).findSome? fun i => if f i j = true then some (i, j) else none) = l.findSome? fun j => (List.range' start (j - start)).findSome? fun i => if g i j = true then some (i, j) else none := by
    intro l
    induction l with
    | nil => intro _; rfl
    | cons j l ih =>
      intro hl
      rw [List.findSome?_cons, List.findSome?_cons, ih fun k hk => hl k (List.mem_cons_of_mem _ hk)]
      simp only [h _ j (hl j List.mem_cons_self)]
  exact key _ fun j hj => by rw [List.mem_range'_1] at hj; omega
theorem chn_cg {S1 S2 : Nat → Nat → Nat → Bool} {size : Nat} (h : ∀ w i j, j < size → S1 w i j = S2 w i j) : ∀ m w start, chn S1 size m w start = chn S2 size m w start
  | 0, _, _ => rfl
  | m + 1, w, start => by
    unfold chn
    rw [fpP_cg (f := S1 w) (g := S2 w) fun i j hj => h w i j hj]
    cases fpP (S2 w) size start with
    | none => rfl
    | some p =>
      show p :: chn S1 size m (1 - w) (p.2 - 1) = p :: chn S2 size m (1 - w) (p.2 - 1)
      rw [chn_cg h m (1 - w) (p.2 - 1)]
theorem surN_eq {l : List Pl} {w i j : Nat} (h : j < l.length) : surN l w i j = sur l w i j := by simp [surN, h]
theorem chn_N {l : List Pl} {size : Nat} (h : size ≤ l.length) (m w start : Nat) : chn (sur l) size m w start = chn (surN l) size m w start := chn_cg (fun w i j hj => (surN_eq (by omega)).symm) m w start
/-! words with nothing against them, by runs -/
def addR (acc : List (Nat × Nat × Nat)) (w a b : Nat) : List (Nat × Nat × Nat) := if a < b then (match acc.getLast? with
    | some r => if r.1 = w then acc.dropLast ++ [(w, r.2.1, b)] else acc ++ [(w, a, b)]
    | none => acc ++ [(w, a, b)]) else acc
def runP (acc : List (Nat × Nat × Nat)) (word a : Nat) : List Nat → Nat → List (Nat × Nat × Nat)
  | [], b => addR acc word a b
  | p :: ps, b => runP (addR acc word a p) (1 - word) p ps b
def nopB (Sr : Nat → Nat → Nat → Bool) (n : Nat) (r : Nat × Nat × Nat) : Bool := (pairs n (Sr r.1)).all fun p => !(decide (r.2.1 ≤ p.1) && decide (p.2 ≤ r.2.2))
/-- by the law's own hand: bounds go by the places -/
def bgB (Sr : Nat → Nat → Nat → Bool) (n first : Nat) (ps : List Nat) : Bool := (runP [] first 0 ps (n - 1)).all (nopB Sr n)
theorem addR_ne (acc : List (Nat × Nat × Nat)) (w a b : Nat) (h : a < b) : ∃ acc' st, addR acc w a b = acc' ++ [(w, st, b)] ∧ ∀ c, addR acc w a c = if a < c then acc' ++ [(w, st, c)] else acc := by
  unfold addR
  rw [if_pos h]
  cases hg : acc.getLast? with
  | none => exact ⟨acc, a, rfl, fun c => rfl⟩
  | some r =>
    by_cases e : r.1 = w
    · refine ⟨acc.dropLast, r.2.1, by simp [e], fun c => by simp [e]⟩
    · refine ⟨acc, a, by simp [e], fun c => by simp [e]⟩
theorem addR_step (acc : List (Nat × Nat × Nat)) (w a b : Nat) (h : a ≤ b) : addR acc w a (b + 1) = addR (addR acc w a b) w b (b + 1) := by
  by_cases e : a = b
  · subst e
    have : addR acc w a a = acc := by unfold addR; rw [if_neg (by omega)]
    rw [this]
  · obtain ⟨acc', st, e1, e2⟩ := addR_ne acc w a b (by omega)
    rw [e2 (b + 1), if_pos (by omega), e1]
    unfold addR
    rw [if_pos (by omega)]
    simp
def stepsR (v : Nat → Nat) : List (Nat × Nat × Nat) → Nat → Nat → List (Nat × Nat × Nat)
  | acc, _, 0 => acc
  | acc, a, k + 1 => stepsR v (addR acc (v a) a (a + 1)) (a + 1) k
theorem stepsR_add (v : Nat → Nat) : ∀ (k1 k2 a : Nat) (acc : List (Nat × Nat × Nat)), stepsR v acc a (k1 + k2) = stepsR v (stepsR v acc a k1) (a + k1) k2
  | 0, k2, a, acc => by rw [Nat.zero_add]; rfl
  | k1 + 1, k2, a, acc => by
    rw [show k1 + 1 + k2 = (k1 + k2) + 1 by omega]
    show stepsR v (addR acc (v a) a (a + 1)) (a + 1) (k1 + k2) = _
    rw [stepsR_add v k1 k2, show a + 1 + k1 = a + (k1 + 1) by omega]
    rfl
theorem stepsR_piece (v : Nat → Nat) (w a : Nat) (acc : List (Nat × Nat × Nat)) : ∀ k, (∀ s, a ≤ s → s < a + k → v s = w) → stepsR v acc a k = addR acc w a (a + k)
  | 0, _ => by
    unfold addR
    rw [if_neg (by omega)]
    rfl
  | k + 1, h => by
    rw [stepsR_add v k 1, stepsR_piece v w a acc k fun s s1 s2 => h s s1 (by omega)]
    show addR (addR acc w a (a + k)) (v (a + k)) (a + k) (a + k + 1) = _
    rw [h (a + k) (by omega) (by omega), ← addR_step acc w a (a + k) (by omega)]
    rfl
theorem runP_steps {size b : Nat} (v : Nat → Nat) : ∀ {ps : List Nat} {first a : Nat} {acc : List (Nat × Nat × Nat)}, first ≤ 1 → a ≤ b → ascN size a ps = true → (∀ p ∈ ps, p ≤ b) → (∀ s, a ≤ s → s < b → v s = wordAt first ps s) → runP acc first a ps b = stepsR v acc a (b - a)
  | [], first, a, acc, hf, hab, _, _, h => by
    rw [stepsR_piece v first a acc (b - a) fun s s1 s2 => by
      rw [h s s1 (by omega)]
      unfold wordAt ahead
      simp
      omega]
    rw [show a + (b - a) = b by omega]
    rfl
  | p :: ps, first, a, acc, hf, hab, ha, hb, h => by
    simp only [ascN, Bool.and_eq_true, decide_eq_true_eq] at ha
    have hpb := hb p List.mem_cons_self
    have e : b - a = (p - a) + (b - p) := by omega
    rw [e, stepsR_add, stepsR_piece v first a acc (p - a) fun s s1 s2 => by
      rw [h s s1 (by omega)]
      unfold wordAt
      rw [ahead_c, if_neg (by omega), ahead_0 (show s < p by omega) ha.2]
      omega]
    rw [show a + (p - a) = p by omega]
    show runP (addR acc first a p) (1 - first) p ps b = _
    exact runP_steps v (by omega) hpb ha.2 (fun q hq => hb q (List.mem_cons_of_mem _ hq)) fun s s1 s2 => by
      rw [h s (by omega) s2]
      unfold wordAt
      rw [ahead_c, if_pos s1]
      omega
theorem nopB_iff {Sr : Nat → Nat → Nat → Bool} {n : Nat} {w a b : Nat} (hb : b < n) : nopB Sr n (w, a, b) = true ↔ ∀ i j, a ≤ i → i < n → j ≤ b → Sr w i j = false := by
  unfold nopB
  rw [List.all_eq_true]
  constructor
  · intro h i j h1 h2 h3
    cases hs : Sr w i j with
    | false => rfl
    | true =>
      have := h (i, j) (mem_pairs.mpr ⟨h2, by omega, hs⟩)
      simp at this
      omega
  · rintro h ⟨i, j⟩ hp
    obtain ⟨h1, h2, h3⟩ := mem_pairs.mp hp
    simp
    by_cases c1 : i < a
    · exact .inl c1
    · by_cases c2 : b < j
      · exact .inr c2
      · have := h i j (by omega) h1 (by omega)
        rw [this] at h3
        cases h3
theorem steps_ok {Sr : Nat → Nat → Nat → Bool} (lt : ∀ {w i j}, Sr w i j = true → i < j) {n : Nat} (v : Nat → Nat) : ∀ m, m < n → (m = 0 ∧ stepsR v [] 0 m = [] ∨ ∃ acc w st, stepsR v [] 0 m = acc ++ [(w, st, m)] ∧ st < m ∧ (∀ s, st ≤ s → s < m → v s = w) ∧ (st = 0 ∨ v (st - 1) ≠ w)) ∧ ((stepsR v [] 0 m).all (nopB Sr n) = true ↔ okUp Sr v 0 m)
  | 0, _ => ⟨.inl ⟨rfl, rfl⟩, by
    constructor
    · intro _ w i j h1 h2 h3 _
      exact absurd h2 (by omega)
    · intro _
      rfl⟩
  | m + 1, hm => by
    obtain ⟨sh, ih⟩ := steps_ok (n := n) lt v m (by omega)
    have e : stepsR v [] 0 (m + 1) = addR (stepsR v [] 0 m) (v m) m (m + 1) := by
      rw [stepsR_add v m 1, Nat.zero_add]
      rfl
    have nf : ∀ {w i j}, j ≤ i → Sr w i j = false := fun {w i j} h => by
      cases hs : Sr w i j with
      | false => rfl
      | true => have := lt hs; omega
    have new : ∀ {acc : List (Nat × Nat × Nat)} {st : Nat}, st ≤ m → (acc.all (nopB Sr n) = true ∧ noP Sr (v m) st m ↔ okUp Sr v 0 m) → (∀ s, st ≤ s → s < m → v s = v m) → (st = 0 ∨ v (st - 1) ≠ v m) → ((acc ++ [(v m, st, m + 1)]).all (nopB Sr n) = true ↔ okUp Sr v 0 (m + 1)) := by
      intro acc st h1 h2 h3 h4
      rw [List.all_append, Bool.and_eq_true, List.all_cons, List.all_nil, Bool.and_true, nopB_iff hm]
      constructor
      · rintro ⟨a, b⟩ w i j i1 i2 i3 hc
        by_cases hj : j ≤ m
        · refine h2.mp ⟨a, fun i j x1 x2 x3 => b i j x1 (by omega) (by omega)⟩ w i j i1 i2 hj hc
        · have hj : j = m + 1 := by omega
          subst hj
          have ew : v m = w := hc m (by omega) (by omega)
          by_cases hi : st ≤ i
          · rw [← ew]
            exact b i (m + 1) hi (by omega) (Nat.le_refl _)
          · exfalso
            rcases h4 with h4 | h4
            · omega
            · exact h4 (by rw [hc (st - 1) (by omega) (by omega), ew])
      · intro h
        have h' : okUp Sr v 0 m := fun w i j x1 x2 x3 x4 => h w i j x1 x2 (by omega) x4
        refine ⟨(h2.mpr h').1, fun i j x1 x2 x3 => ?_⟩
        by_cases hij : i < j
        · refine h (v m) i j (by omega) hij x3 fun s s1 s2 => ?_
          by_cases hs : s < m
          · exact h3 s (by omega) hs
          · rw [show s = m by omega]
        · exact nf (by omega)
    rcases sh with ⟨rfl, e0⟩ | ⟨acc, w, st, e0, s1, s2, s3⟩
    · have e2 : stepsR v [] 0 (0 + 1) = [] ++ [(v 0, 0, 0 + 1)] := by rw [e, e0]; rfl
      refine ⟨.inr ⟨[], v 0, 0, e2, by omega, fun s _ h => by rw [show s = 0 by omega], .inl rfl⟩, ?_⟩
      rw [e2]
      refine new (Nat.le_refl _) ?_ (fun s x1 x2 => by omega) (.inl rfl)
      constructor
      · intro _ w i j x1 x2 x3 _
        exact absurd x2 (by omega)
      · intro _
        exact ⟨rfl, fun i j x1 x2 x3 => absurd x2 (by omega)⟩
    · rw [e0] at e ih
      by_cases hw : w = v m
      · have e2 : stepsR v [] 0 (m + 1) = acc ++ [(v m, st, m + 1)] := by
          rw [e]
          unfold addR
          rw [if_pos (by omega)]
          simp [hw]
        refine ⟨.inr ⟨acc, v m, st, e2, by omega, fun s x1 x2 => ?_, by rw [← hw]; exact s3⟩, ?_⟩
        · by_cases hs : s < m
          · rw [s2 s x1 hs, hw]
          · rw [show s = m by omega]
        · rw [e2]
          refine new (by omega) ?_ (fun s x1 x2 => by rw [s2 s x1 x2, hw]) (by rw [← hw]; exact s3)
          rw [← ih, List.all_append, Bool.and_eq_true, List.all_cons, List.all_nil, Bool.and_true, nopB_iff (by omega), hw]
          constructor
          · rintro ⟨a, b⟩
            refine ⟨a, fun i j x1 x2 x3 => ?_⟩
            by_cases hij : i < j
            · exact b i j x1 hij x3
            · exact nf (by omega)
          · rintro ⟨a, b⟩
            exact ⟨a, fun i j x1 x2 x3 => b i j x1 (by omega) x3⟩
      · have e2 : stepsR v [] 0 (m + 1) = (acc ++ [(w, st, m)]) ++ [(v m, m, m + 1)] := by
          rw [e]
          unfold addR
          rw [if_pos (by omega)]
          simp [hw]
        have hv : v (m - 1) = w := s2 (m - 1) (by omega) (by omega)
        refine ⟨.inr ⟨_, v m, m, e2, by omega, fun s x1 x2 => by rw [show s = m by omega], .inr (by rw [hv]; exact hw)⟩, ?_⟩
        rw [e2]
        refine new (Nat.le_refl _) ?_ (fun s x1 x2 => by omega) (.inr (by rw [hv]; exact hw))
        rw [ih]
        constructor
        · exact fun h => h.1
        · exact fun h => ⟨h, fun i j x1 x2 x3 => by omega⟩
/-- the law's own hand tells just the turning places by which bounds go -/
theorem bgB_good {Sr : Nat → Nat → Nat → Bool} (lt : ∀ {w i j}, Sr w i j = true → i < j) {n first : Nat} (hn : 1 ≤ n) (hf : first ≤ 1) {ps : List Nat} (ha : ascN n 0 ps = true) : bgB Sr n first ps = true ↔ GoodP Sr n first ps := by
  unfold bgB
  rw [runP_steps (wordAt first ps) hf (Nat.zero_le _) ha (fun p hp => by have := ascN_lt ha p hp; omega) (fun s _ _ => rfl), Nat.sub_zero]
  rw [(steps_ok (n := n) lt (wordAt first ps) (n - 1) (by omega)).2]
  exact ⟨fun h => ⟨ha, h⟩, fun h => h.2⟩
end PF

namespace PF
open PySem

def rnD (r : Nat × Nat × Nat) : D := .tup [nm r.1, nm r.2.1, nm r.2.2]
theorem okD_rn (n : Nat) (r : Nat × Nat × Nat) : okD (n + 1) (rnD r) = true := by simp [rnD, okD, okDs]
theorem eq_lst_any {α : Type} (f : α → D) (hf : ∀ a, okD 29 (f a) = true) (l : List α) : eqR (.lst (l.map f)) (.lst []) = .ok l.isEmpty := by
  unfold eqR
  rw [if_pos (by
    have h : okDs 29 (l.map f) = true := by
      induction l with
      | nil => rfl
      | cons a l ih => simp [okDs, hf a, ih]
    have : okD deep (.lst (l.map f)) = true := h
    rw [this]; rfl)]
  cases l <;> rfl
theorem eq_rn (l : List (Nat × Nat × Nat)) : eqR (.lst (l.map rnD)) (.lst []) = .ok l.isEmpty := eq_lst_any rnD (okD_rn 28) l
theorem eq_prs (l : List (Nat × Nat)) : eqR (.lst (l.map prD)) (.lst []) = .ok l.isEmpty := eq_lst_any prD (okD_pr 28) l
theorem at_last {α : Type} (f : α → D) (l : List α) (x : α) : atL (l.map f ++ [f x]) (-1) = .ok (f x) := by
  have := atL_neg (l := l ++ [x]) (g := f) (z := -1) l.length (by simp; omega) (by decide) (by simp)
  simpa using this
theorem set_last (ρ : Env) {i : Nat} (xs : List D) (x d : D) : setO ρ i (xs ++ [x]) (-1) d = .nx (ρ.set i (.own (xs ++ [d]))) := by
  rw [setO_neg ρ (xs.length) d (by simp; omega) (by decide)]
  simp
def runF (first : Nat) (es : List Nat) (acc : List (Nat × Nat × Nat)) (k : Nat) : List (Nat × Nat × Nat) := addR acc ((first + k) % 2) (enAt es k) (enAt es (k + 1))
theorem runF_P (b : Nat) : ∀ (ps : List Nat) (first a : Nat) (acc : List (Nat × Nat × Nat)), first ≤ 1 → (List.range (ps.length + 1)).foldl (runF first (a :: ps ++ [b])) acc = runP acc first a ps b
  | [], first, a, acc, hf => by
    simp [runF, enAt, runP, Nat.mod_eq_of_lt (show first < 2 by omega)]
  | p :: ps, first, a, acc, hf => by
    rw [List.length_cons, List.range_succ_eq_map, List.foldl_cons, List.foldl_map]
    have e0 : runF first (a :: p :: ps ++ [b]) acc 0 = addR acc first a p := by
      simp [runF, enAt, Nat.mod_eq_of_lt (show first < 2 by omega)]
    rw [e0, runP, ← runF_P b ps (1 - first) p _ (by omega)]
    have ef : (fun acc k => runF first (a :: p :: ps ++ [b]) acc (Nat.succ k)) = runF (1 - first) (p :: ps ++ [b]) := by
      funext acc k
      have m : (first + (k + 1)) % 2 = (1 - first + k) % 2 := by omega
      simp only [runF, Nat.succ_eq_add_one, m]
      rfl
    rw [ef]
theorem addR_w {acc : List (Nat × Nat × Nat)} {w a b : Nat} (hw : w ≤ 1) (h : ∀ r ∈ acc, r.1 ≤ 1) : ∀ r ∈ addR acc w a b, r.1 ≤ 1 := by
  unfold addR
  split
  · split
    · split
      · intro r hr
        rcases List.mem_append.mp hr with hr | hr
        · exact h r (List.dropLast_subset acc hr)
        · rw [List.mem_singleton.mp hr]; exact hw
      · intro r hr
        rcases List.mem_append.mp hr with hr | hr
        · exact h r hr
        · rw [List.mem_singleton.mp hr]; exact hw
    · intro r hr
      rcases List.mem_append.mp hr with hr | hr
      · exact h r hr
      · rw [List.mem_singleton.mp hr]; exact hw
  · exact h
theorem addR_len (acc : List (Nat × Nat × Nat)) (w a b : Nat) : (addR acc w a b).length ≤ acc.length + 1 := by
  unfold addR
  split
  · split
    · split
      · simp
      · simp
    · simp
  · omega
theorem fold_w (first : Nat) (es : List Nat) : ∀ (ks : List Nat) (acc : List (Nat × Nat × Nat)), (∀ r ∈ acc, r.1 ≤ 1) → (∀ r ∈ ks.foldl (runF first es) acc, r.1 ≤ 1) ∧ (ks.foldl (runF first es) acc).length ≤ acc.length + ks.length
  | [], acc, h => ⟨h, by simp⟩
  | k :: ks, acc, h => by
    have := fold_w first es ks (runF first es acc k) (addR_w (by omega) h)
    have l := addR_len acc ((first + k) % 2) (enAt es k) (enAt es (k + 1))
    refine ⟨this.1, Nat.le_trans this.2 ?_⟩
    have l2 : (runF first es acc k).length ≤ acc.length + 1 := l
    rw [List.length_cons]
    omega

theorem s68 {n : Nat} {l : List Pl} (hl : OkB l) : callF KT (n + 2) 68 [bd l] = .ok (.lst ((pairs l.length (sur l 0)).map prD)) := lfalls_spec f35 f68 hl
theorem s69 {n : Nat} {l : List Pl} (hl : OkB l) : callF KT (n + 2) 69 [bd l] = .ok (.lst ((pairs l.length (sur l 1)).map prD)) := lrises_spec f35 f69 hl

theorem s119 {n : Nat} {l : List Pl} (hl : OkB l) {first : Nat} (hf : first ≤ 1) {ps : List Nat} (hp : ps.length ≤ 1000) : callF KT (n + 3) 119 [bd l, nm first, plc ps] = .ok (.bl (bgB (sur l) l.length first ps)) := by
  refine fn_wp f119 (by simp) ?_
  have hm := hl.most
  have hp1 := hl.pos
  have en : (D.int 0 :: (ps.map nm ++ [.int ((l.length : Int) - 1)])) = (ends ps l.length).map nm := by
    simp [ends]
    omega
  have el : (ends ps l.length).length = ps.length + 2 := by simp [ends]
  simp [startE, plc, len_bd, show 1 + ps.length ≤ 1000000 by omega, show ps.length + 1 + 1 ≤ 1000000 by omega]
  rw [en]
  have key : bgB (sur l) l.length first ps = ((List.range (ps.length + 1)).foldl (runF first (ends ps l.length)) []).all (nopB (sur l) l.length) := by
    unfold bgB
    rw [← runF_P (l.length - 1) ps first 0 [] hf]
    rfl
  rw [key]
  generalize hE : ends ps l.length = es at *
  rw [rng0 (ps.length + 1) (by omega) (by omega)]
  simp
  refine wp_pre (fun pre ρ => ∃ y5 y6, ρ = [.fr (bd l), .fr (nm first), .fr (.tup (ps.map nm)), .fr (.tup (es.map nm)), .own ((pre.foldl (runF first es) []).map rnD), y5, y6, .un, .un, .un, .un]) ⟨_, _, rfl⟩ ?_ ?_
  · rintro pre k post ρ hl2 ⟨y5, y6, rfl⟩
    have hk := (rng_at hl2)
    have a1 : atL (es.map nm) (k : Nat) = .ok (nm (enAt es k)) := by rw [atL_map k rfl (by omega), enAt_get]
    have a2 : atL (es.map nm) ((k : Nat) + 1) = .ok (nm (enAt es (k + 1))) := by rw [atL_map (k + 1) (by omega) (by omega), enAt_get]
    have fm : ((first : Int) + (k : Int)).fmod 2 = (((first + k) % 2 : Nat) : Int) := fmod2 _ _
    have fl := (fold_w first es pre [] (by simp)).2
    rw [List.foldl_append, List.foldl_cons, List.foldl_nil]
    have hacc : (pre.foldl (runF first es) []).length ≤ 2000 := by simp at fl; omega
    have rf : ∀ acc, runF first es acc k = addR acc ((first + k) % 2) (enAt es k) (enAt es (k + 1)) := fun _ => rfl
    rw [rf]
    generalize pre.foldl (runF first es) [] = acc at *
    generalize hW : (first + k) % 2 = W at *
    generalize enAt es k = a at *
    generalize enAt es (k + 1) = b at *
    by_cases hab : a < b
    · rcases List.eq_nil_or_concat acc with rfl | ⟨acc', r, hcc⟩
      · have e2 : eqR (.lst []) (.lst []) = .ok true := rfl
        have e3 : addR [] W a b = [(W, a, b)] := by unfold addR; rw [if_pos hab]; rfl
        rw [e3]
        simp [a1, a2, fm, hab, e2]
        simp [rnD]
      · rw [List.concat_eq_append] at hcc
        subst hcc
        have e2 : eqR (.lst (acc'.map rnD ++ [rnD r])) (.lst []) = .ok false := by
          have := eq_rn (acc' ++ [r])
          rw [List.map_append, show (acc' ++ [r]).isEmpty = false by cases acc' <;> rfl] at this
          exact this
        have l1 : atL (acc'.map rnD ++ [rnD r]) (-1) = .ok (rnD r) := at_last rnD acc' r
        have i0 : idxR (rnD r) (.int 0) = .ok (nm r.1) := rfl
        have i1 : idxR (rnD r) (.int 1) = .ok (nm r.2.1) := rfl
        have lc : acc'.length + 1 ≤ 2000 := by simpa using hacc
        by_cases hr : r.1 = W
        · have e3 : addR (acc' ++ [r]) W a b = acc' ++ [(W, r.2.1, b)] := by unfold addR; rw [if_pos hab]; simp [hr]
          rw [e3]
          simp [a1, a2, fm, hab, e2, l1, i0, i1, hr, set_last]
          simp [rnD]
        · have e3 : addR (acc' ++ [r]) W a b = acc' ++ [r] ++ [(W, a, b)] := by unfold addR; rw [if_pos hab]; simp [hr]
          rw [e3]
          have hr2 : ((r.1 : Int) == (W : Int)) = false := by simp; omega
          simp [a1, a2, fm, hab, e2, l1, i0, i1, hr, hr2, show acc'.length + 1 < 1000000 by omega]
          simp [rnD]
    · have e3 : addR acc W a b = acc := by unfold addR; rw [if_neg hab]
      rw [e3]
      simp [a1, a2, fm, hab]
  · rintro ρ' ⟨y5, y6, rfl⟩
    have fw := (fold_w first es (List.range (ps.length + 1)) [] (by simp)).1
    generalize (List.range (ps.length + 1)).foldl (runF first es) [] = runs at *
    have s0 := s68 (n := n) hl
    have s1 := s69 (n := n) hl
    simp [s0, s1]
    refine wp_all (fun ρ => ∃ y6 y8 y9 y10, ρ = [.fr (bd l), .fr (nm first), .fr (.tup (ps.map nm)), .fr (.tup (es.map nm)), .fr (.lst (runs.map rnD)), y5, y6, .fr (.lst [.lst ((pairs l.length (sur l 0)).map prD), .lst ((pairs l.length (sur l 1)).map prD)]), y8, y9, y10]) (nopB (sur l) l.length) (.bl false) ⟨_, _, _, _, rfl⟩ ?_ ?_ ?_
    · rintro r hr ρ ⟨y6, y8, y9, y10, rfl⟩
      have hw := fw r hr
      obtain ⟨w, a, b⟩ := r
      have tw : atL [D.lst ((pairs l.length (sur l 0)).map prD), .lst ((pairs l.length (sur l 1)).map prD)] (w : Nat) = .ok (.lst ((pairs l.length (sur l w)).map prD)) := by
        have : w = 0 ∨ w = 1 := by have : w ≤ 1 := hw; omega
        rcases this with rfl | rfl <;> rfl
      have pl := pairs_len hm (sur l w)
      unfold nopB
      simp only []
      generalize pairs l.length (sur l w) = prs at *
      simp [rnD, tw]
      rw [comp_flt prD (fun p => decide (a ≤ p.1) && decide (p.2 ≤ b)) (by omega) fun p hp => ?_]
      · have ea : (prs.all fun p => !(decide (a ≤ p.1) && decide (p.2 ≤ b))) = (prs.filter fun p => decide (a ≤ p.1) && decide (p.2 ≤ b)).isEmpty := by
          rw [filt_any, List.not_any_eq_all_not]
        rw [ea]
        generalize prs.filter (fun p => decide (a ≤ p.1) && decide (p.2 ≤ b)) = F
        have e := eq_prs F
        rcases Bool.eq_false_or_eq_true F.isEmpty with c | c <;> rw [c] at e ⊢ <;> simp [e]
      · have i0 : idxR (prD p) (.int 0) = .ok (nm p.1) := rfl
        have i1 : idxR (prD p) (.int 1) = .ok (nm p.2) := rfl
        by_cases c1 : a ≤ p.1 <;> by_cases c2 : p.2 ≤ b <;> simp [yF, i0, i1, c1, c2]
    · rintro h ρ' ⟨y6, y8, y9, y10, rfl⟩
      simp [h]
    · intro h
      simp [h]

/-- the law's own good places -/
def goodL (l : List Pl) (first many : Nat) : List (List Nat) := (allP l.length (many - 1)).filter (bgB (sur l) l.length first)
theorem s120 {n : Nat} {l : List Pl} (hl : OkB l) {first many : Nat} (hf : first ≤ 1) (h1 : 1 ≤ many) (h9 : many ≤ 900) (hb : l.length ^ (many - 1) ≤ 800000) : callF KT (n + 4) 120 [bd l, nm first, nm many] = .ok (.lst ((goodL l first many).map plc)) := by
  refine fn_wp f120 (by simp) ?_
  have A : callF KT (n + 3) 83 [nm l.length, .int ((many : Int) - 1)] = .ok (.lst ((allP l.length (many - 1)).map plc)) := by
    rw [nm_eq (show (many : Int) - 1 = ((many - 1 : Nat) : Int) by omega)]
    exact allp_spec (n := n + 2) hl.pos (by have := hl.most; omega) (by omega) hb
  have al := allP_len l.length (many - 1)
  simp [startE, len_bd, A]
  rw [comp_flt plc (bgB (sur l) l.length first) (by omega) fun ps h => ?_]
  · simp [goodL]
  · have := s119 (n := n) hl hf (ps := ps) (by rw [(allP_mem h).1]; omega)
    rcases Bool.eq_false_or_eq_true (bgB (sur l) l.length first ps) with c | c <;> rw [c] at this <;> simp [yF, this, c]

theorem bgB_cg {S1 S2 : Nat → Nat → Nat → Bool} {n : Nat} (h : ∀ w i j, j < n → S1 w i j = S2 w i j) (first : Nat) (ps : List Nat) : bgB S1 n first ps = bgB S2 n first ps := by
  unfold bgB
  congr 1
  funext r
  unfold nopB
  rw [pairs_congr (f := S1 r.1) (g := S2 r.1) fun i hi j hj => h r.1 i j hj]
theorem bgB_N (l : List Pl) (first : Nat) (ps : List Nat) : bgB (sur l) l.length first ps = bgB (surN l) l.length first ps := bgB_cg (fun w i j hj => (surN_eq hj).symm) first ps
theorem goodL_mem {l : List Pl} (hl : OkB l) {first many : Nat} (hf : first ≤ 1) {ps : List Nat} : ps ∈ goodL l first many ↔ ps ∈ allP l.length (many - 1) ∧ GoodP (surN l) l.length first ps := by
  unfold goodL
  rw [List.mem_filter]
  constructor
  · rintro ⟨h1, h2⟩
    rw [bgB_N, bgB_good (iv_sur hl).lt hl.pos hf (allP_asc h1)] at h2
    exact ⟨h1, h2⟩
  · rintro ⟨h1, h2⟩
    refine ⟨h1, ?_⟩
    rw [bgB_N, bgB_good (iv_sur hl).lt hl.pos hf (allP_asc h1)]
    exact h2
/-- all turning places are told -/
theorem allQ_mem {m : Nat} : ∀ {ps : List Nat} {a : Nat}, ascN m a ps = true → ps ∈ allQ m ps.length a
  | [], _, _ => by simp [allQ]
  | p :: ps, a, h => by
    simp only [ascN, Bool.and_eq_true, decide_eq_true_eq] at h
    rw [List.length_cons, allQ, List.mem_flatMap]
    exact ⟨p, by rw [List.mem_range'_1]; omega, List.mem_map.mpr ⟨ps, allQ_mem h.2, rfl⟩⟩
theorem allP_of {m c : Nat} {ps : List Nat} (h : ascN m 0 ps = true) (hl : ps.length = c) : ps ∈ allP m c := by
  rw [allP_Q, ← hl]
  exact allQ_mem h
/-- there are good places just where the chain is short -/
theorem good_iff {l : List Pl} (hl : OkB l) {first many : Nat} (hf : first ≤ 1) (h1 : 1 ≤ many) : goodL l first many ≠ [] ↔ canH l first many = true := by
  unfold canH
  rw [decide_eq_true_eq, chn_N (Nat.le_refl _)]
  constructor
  · intro h
    cases hg : goodL l first many with
    | nil => exact absurd hg h
    | cons ps rest =>
      have hm : ps ∈ goodL l first many := by rw [hg]; exact List.mem_cons_self
      obtain ⟨m1, m2⟩ := (goodL_mem hl hf).mp hm
      have := good_none hf m2 (chn_ch (Sr := surN l) l.length many first 0)
      rw [(allP_mem m1).1] at this
      omega
  · intro h
    obtain ⟨g, gl⟩ := good_some (iv_sur hl) hl.pos hf h
    have : gPl (chn (surN l) l.length many first 0) l.length many ∈ goodL l first many := (goodL_mem hl hf).mpr ⟨allP_of g.1 gl, g⟩
    exact List.ne_nil_of_mem this
end PF

namespace PF
open PySem

def lgQ (p q : Fq) : Fq := if ltQ p q = true then q else p
def smQ (p q : Fq) : Fq := if ltQ q p = true then q else p
theorem OkF.lg {N : Nat} {p q : Fq} (hp : OkF N p) (hq : OkF N q) : OkF N (lgQ p q) := by unfold lgQ; split <;> assumption
theorem OkF.sm {N : Nat} {p q : Fq} (hp : OkF N p) (hq : OkF N q) : OkF N (smQ p q) := by unfold smQ; split <;> assumption
theorem lgQ_v {N : Nat} {p q : Fq} (hp : OkF N p) (hq : OkF N q) : (lgQ p q = p ∧ vq q ≤ vq p) ∨ (lgQ p q = q ∧ vq p ≤ vq q) := by
  unfold lgQ
  cases h : ltQ p q with
  | true =>
    right
    rw [if_pos rfl]
    rw [ltQ_iff hp.pos hq.pos] at h
    exact ⟨rfl, by grind⟩
  | false =>
    left
    rw [if_neg (by decide)]
    rw [ltQ_f hp hq] at h
    exact ⟨rfl, by grind⟩
theorem smQ_v {N : Nat} {p q : Fq} (hp : OkF N p) (hq : OkF N q) : (smQ p q = p ∧ vq p ≤ vq q) ∨ (smQ p q = q ∧ vq q ≤ vq p) := by
  unfold smQ
  cases h : ltQ q p with
  | true =>
    right
    rw [if_pos rfl]
    rw [ltQ_iff hq.pos hp.pos] at h
    exact ⟨rfl, by grind⟩
  | false =>
    left
    rw [if_neg (by decide)]
    rw [ltQ_f hq hp] at h
    exact ⟨rfl, by grind⟩
def va (vs : List Nat) (i : Nat) : Nat := (vs[i]?).getD 0
theorem va_get {vs : List Nat} {i : Nat} (h : i < vs.length) : vs[i] = va vs i := by simp [va, h]
theorem va_le {vs : List Nat} (h : ∀ v ∈ vs, v ≤ 1) (i : Nat) : va vs i ≤ 1 := by
  by_cases hi : i < vs.length
  · rw [← va_get hi]
    exact h _ (List.getElem_mem _)
  · simp [va, show vs.length ≤ i by omega]
/-- the bounds in which turning places have their high or low alone -/
def nwP (l : List Pl) (vs : List Nat) (p : Nat) : Pl := if 1 ≤ p ∧ p < vs.length ∧ va vs (p - 1) ≠ va vs p then (if va vs (p - 1) = 0 then ((lp l p).2, (lp l p).2) else ((lp l p).1, (lp l p).1)) else lp l p
def nwU (l : List Pl) (vs : List Nat) (k : Nat) : List Pl := (List.range l.length).map fun p => if p < k then nwP l vs p else lp l p
def nwL (l : List Pl) (vs : List Nat) : List Pl := (List.range l.length).map (nwP l vs)
theorem nwU_1 (l : List Pl) (vs : List Nat) : nwU l vs 1 = l := by
  apply List.ext_getElem
  · simp [nwU]
  · intro i h1 h2
    have e : nwP l vs 0 = lp l 0 := by unfold nwP; rw [if_neg (by omega)]
    simp only [nwU, List.getElem_map, List.getElem_range]
    by_cases h : i < 1
    · have : i = 0 := by omega
      subst this
      rw [if_pos h, e]
      simp [lp, show 0 < l.length by omega]
    · rw [if_neg h]
      simp [lp, h2]
theorem nwU_s (l : List Pl) (vs : List Nat) {k : Nat} (hk : k < l.length) : nwU l vs (k + 1) = (nwU l vs k).set k (nwP l vs k) := by
  apply List.ext_getElem
  · simp [nwU]
  · intro i h1 h2
    rw [List.getElem_set]
    simp only [nwU, List.getElem_map, List.getElem_range]
    by_cases e : k = i
    · subst e; simp
    · rw [if_neg e]
      by_cases h : i < k
      · rw [if_pos h, if_pos (by omega)]
      · rw [if_neg h, if_neg (by omega)]
theorem nwU_same (l : List Pl) (vs : List Nat) {k : Nat} (h : nwP l vs k = lp l k) : nwU l vs (k + 1) = nwU l vs k := by
  unfold nwU
  apply List.map_congr_left
  intro p _
  by_cases h1 : p < k
  · rw [if_pos h1, if_pos (by omega)]
  · by_cases h2 : p = k
    · subst h2
      rw [if_pos (by omega), if_neg h1, h]
    · rw [if_neg h1, if_neg (by omega)]
theorem nwU_end (l : List Pl) (vs : List Nat) {k : Nat} (h : vs.length ≤ k) : nwU l vs k = nwL l vs := by
  unfold nwU nwL
  apply List.map_congr_left
  intro p _
  by_cases h1 : p < k
  · rw [if_pos h1]
  · rw [if_neg h1]
    unfold nwP
    rw [if_neg (by omega)]
theorem nw_ok {l : List Pl} (hl : OkB l) (vs : List Nat) {p : Nat} (hp : p < l.length) : OkP lim (nwP l vs p) := by
  have h := hl.ok _ (lp_mem hp)
  have irr : ∀ q : Fq, ltQ q q = false := fun q => by unfold ltQ; simp
  unfold nwP
  split
  · split
    · exact ⟨h.hi, h.hi, irr _⟩
    · exact ⟨h.lo, h.lo, irr _⟩
  · exact h
theorem nwL_ok {l : List Pl} (hl : OkB l) (vs : List Nat) : OkB (nwL l vs) := ⟨fun x hx => by
  obtain ⟨p, hp, rfl⟩ := List.mem_map.mp hx
  exact nw_ok hl vs (by simpa using hp), by simpa [nwL] using hl.pos, by simpa [nwL] using hl.most⟩
theorem lp_nw {l : List Pl} {vs : List Nat} {p : Nat} (hp : p < l.length) : lp (nwL l vs) p = nwP l vs p := by simp [lp, nwL, hp]

theorem s106 {n : Nat} {l : List Pl} (hl : OkB l) {vs : List Nat} (hv : vs.length ≤ l.length) (h1 : ∀ v ∈ vs, v ≤ 1) : callF KT (n + 1) 106 [bd l, plc vs] = .ok (bd (nwL l vs)) := by
  refine fn_wp f106 (by simp) ?_
  have hm := hl.most
  have b1 : bltR .list [bd l] = .ok (.lst (l.map pl)) := rfl
  have b2 : bltR .len [plc vs] = .ok (.int (vs.length : Nat)) := by simp [plc]
  have it : itemsR (.rng 1 (vs.length : Nat)) = .ok ((List.range' 1 (vs.length - 1)).map nm) := by
    by_cases h : vs = []
    · subst h; exact rng_items 1 0 rfl (by simp) (by omega)
    · have := List.length_pos_iff.mpr h
      exact rng_items 1 _ rfl (by omega) (by omega)
  simp [startE, b1, b2, it]
  refine wp_pre (fun pre ρ => ∃ y3 y4, ρ = [.fr (bd l), .fr (plc vs), .own ((nwU l vs (1 + pre.length)).map pl), y3, y4]) ⟨_, _, by rw [List.length_nil, nwU_1]⟩ ?_ ?_
  · rintro pre p post ρ hl2 ⟨y3, y4, rfl⟩
    have hp : p = 1 + pre.length ∧ p < vs.length := by
      have h2 := congrArg List.length hl2
      have e : (List.range' 1 (vs.length - 1))[pre.length]? = some p := by rw [hl2]; simp
      simp at h2
      rw [List.getElem?_range' (by omega)] at e
      have e := Option.some.inj e
      omega
    obtain ⟨hp1, hp2⟩ := hp
    have a1 : idxR (plc vs) (.int ((p : Nat) - 1)) = .ok (nm (va vs (p - 1))) := by
      unfold plc
      rw [ix_tup, atL_map (p - 1) (by omega) (by omega), va_get]
    have a2 : idxR (plc vs) (.int (p : Nat)) = .ok (nm (va vs p)) := by
      unfold plc
      rw [ix_tup, atL_map p rfl (by omega), va_get]
    have a3 : idxR (bd l) (.int (p : Nat)) = .ok (pl (lp l p)) := at_pl (by omega)
    rw [List.length_append, List.length_singleton, ← hp1, show 1 + (pre.length + 1) = p + 1 by omega]
    have ul : (nwU l vs p).length = l.length := by simp [nwU]
    by_cases c : va vs (p - 1) = va vs p
    · rw [nwU_same l vs (k := p) (by unfold nwP; rw [if_neg (by omega)])]
      simp [a1, a2, c]
    · rw [nwU_s l vs (show p < l.length by omega)]
      have c2 : ((va vs (p - 1) : Int) == (va vs p : Int)) = false := by simp; omega
      have w : va vs (p - 1) = 0 ∨ va vs (p - 1) = 1 := by have := va_le h1 (p - 1); omega
      generalize nwU l vs p = U at *
      rcases w with w | w
      · have e : nwP l vs p = ((lp l p).2, (lp l p).2) := by unfold nwP; rw [if_pos ⟨by omega, hp2, c⟩, if_pos w]
        rw [w] at a1
        have c2 : ((0 : Int) == (va vs p : Int)) = false := by simp; omega
        simp [a1, a2, c2, a3, w]
        rw [setO_nat _ p _ rfl (by simp; omega)]
        simp [e, pl]
      · have e : nwP l vs p = ((lp l p).1, (lp l p).1) := by unfold nwP; rw [if_pos ⟨by omega, hp2, c⟩, if_neg (by omega)]
        rw [w] at a1
        have c2 : ((1 : Int) == (va vs p : Int)) = false := by simp; omega
        simp [a1, a2, c2, a3, w]
        rw [setO_nat _ p _ rfl (by simp; omega)]
        simp [e, pl]
  · rintro ρ' ⟨y3, y4, rfl⟩
    rw [nwU_end l vs (by simp; omega)]
    simp [bd]

@[simp] theorem s98 {n : Nat} {p q : Fq} (hp : OkF lim p) (hq : OkF lim q) : callF KT (n + 2) 98 [fr p, fr q] = .ok (fr (smQ p q)) := by
  refine fn_wp f98 (by simp) ?_
  unfold smQ
  rcases Bool.eq_false_or_eq_true (ltQ q p) with c | c <;> simp [startE, hp, hq, c]
@[simp] theorem s99 {n : Nat} {p q : Fq} (hp : OkF lim p) (hq : OkF lim q) : callF KT (n + 2) 99 [fr p, fr q] = .ok (fr (lgQ p q)) := by
  refine fn_wp f99 (by simp) ?_
  unfold lgQ
  rcases Bool.eq_false_or_eq_true (ltQ p q) with c | c <;> simp [startE, hp, hq, c]

def wiB (l : List Pl) (r : List Fq) : Bool := (List.range r.length).all fun i => !(ltQ (qa r i) (lp l i).1) && !(ltQ (lp l i).2 (qa r i))
theorem enum_fr (r : List Fq) : enumL 0 (r.map fr) = (List.range r.length).map fun i => D.tup [nm i, fr (qa r i)] := enum_row r
@[simp] theorem sq_seqD (b : Bool) (ds : List D) : seqR (seqD b ds) = .ok ds := by cases b <;> rfl

theorem s105 {n : Nat} (b : Bool) {l : List Pl} (hl : OkB l) {r : List Fq} (hr : ∀ q ∈ r, OkF lim q) (hlen : r.length ≤ l.length) : callF KT (n + 2) 105 [bd l, seqD b (r.map fr)] = .ok (.bl (wiB l r)) := by
  refine fn_wp f105 (by simp) ?_
  simp [startE]
  rw [enum_fr]
  refine wp_all (fun ρ => ∃ y2 y3 y4 y5, ρ = [.fr (bd l), .fr (seqD b (r.map fr)), y2, y3, y4, y5]) (fun i => !(ltQ (qa r i) (lp l i).1) && !(ltQ (lp l i).2 (qa r i))) (.bl false) ⟨_, _, _, _, rfl⟩ ?_ ?_ ?_
  · rintro i hi ρ ⟨y2, y3, y4, y5, rfl⟩
    have hi : i < r.length := by simpa using hi
    have a1 : idxR (bd l) (.int (i : Nat)) = .ok (pl (lp l i)) := at_pl (by omega)
    have o1 := hr _ (qa_mem hi)
    have o2 := hl.ok _ (lp_mem (show i < l.length by omega))
    have o3 := o2.lo
    have o4 := o2.hi
    rcases Bool.eq_false_or_eq_true (ltQ (qa r i) (lp l i).1) with c1 | c1 <;> rcases Bool.eq_false_or_eq_true (ltQ (lp l i).2 (qa r i)) with c2 | c2 <;> simp [a1, pl, o1, o3, o4, c1, c2]
  · rintro h ρ' ⟨y2, y3, y4, y5, rfl⟩
    have h : wiB l r = true := h
    simp [h]
  · intro h
    have h : wiB l r = false := h
    simp [h]

/-- the row along words -/
def cR (l : List Pl) (vs : List Nat) : Nat → Fq
  | 0 => if 0 < vs.length ∧ va vs 0 = 1 then (nwP l vs 0).2 else (nwP l vs 0).1
  | s + 1 => if va vs s = 0 then lgQ (cR l vs s) (nwP l vs (s + 1)).1 else smQ (cR l vs s) (nwP l vs (s + 1)).2
def rowA (l : List Pl) (vs : List Nat) : List Fq := (List.range (vs.length + 1)).map (cR l vs)
theorem cR_ok {l : List Pl} (hl : OkB l) (vs : List Nat) : ∀ s, s < l.length → OkF lim (cR l vs s)
  | 0, h => by
    have o := nw_ok hl vs h
    unfold cR
    split
    · exact o.hi
    · exact o.lo
  | s + 1, h => by
    have o := nw_ok hl vs h
    have ih := cR_ok hl vs s (by omega)
    unfold cR
    split
    · exact ih.lg o.lo
    · exact ih.sm o.hi
theorem qa_rowA {l : List Pl} {vs : List Nat} {s : Nat} (h : s ≤ vs.length) : qa (rowA l vs) s = cR l vs s := by simp [qa, rowA, show s < vs.length + 1 by omega]
theorem rowA_ok {l : List Pl} (hl : OkB l) {vs : List Nat} (hv : vs.length + 1 = l.length) : ∀ q ∈ rowA l vs, OkF lim q := fun q hq => by
  obtain ⟨s, hs, rfl⟩ := List.mem_map.mp hq
  have : s < vs.length + 1 := by simpa using hs
  exact cR_ok hl vs s (by omega)
theorem enum_nm (vs : List Nat) : enumL 0 (vs.map nm) = (List.range vs.length).map fun i => D.tup [nm i, nm (va vs i)] := by
  rw [enum_eq]
  apply List.ext_getElem
  · simp
  · intro i h1 h2
    have : i < vs.length := by simpa using h2
    simp [va, this]

theorem s107 {n : Nat} {l : List Pl} (hl : OkB l) {vs : List Nat} (hv : vs.length + 1 = l.length) (h1 : ∀ v ∈ vs, v ≤ 1) : callF KT (n + 3) 107 [bd l, plc vs] = .ok (if wiB (nwL l vs) (rowA l vs) = true then .tup ((rowA l vs).map fr) else .non) := by
  refine fn_wp f107 (by simp) ?_
  have hm := hl.most
  have hp := hl.pos
  have N := s106 (n := n + 1) hl (vs := vs) (by omega) h1
  have b2 : bltR .len [plc vs] = .ok (.int (vs.length : Nat)) := by simp [plc]
  have n0 : idxR (bd (nwL l vs)) (.int 0) = .ok (pl (nwP l vs 0)) := by
    have := at_pl (l := nwL l vs) (i := 0) (by simp [nwL]; omega)
    rw [lp_nw (by omega)] at this
    exact this
  have nx : ∀ p, p < l.length → idxR (bd (nwL l vs)) (.int (p : Nat)) = .ok (pl (nwP l vs p)) := fun p hp => by
    have := at_pl (l := nwL l vs) (i := p) (by simp [nwL]; omega)
    rw [lp_nw hp] at this
    exact this
  have c0' : ev ⟨callF KT (n + 2), KT.con⟩ [.fr (bd l), .fr (plc vs), .fr (bd (nwL l vs)), .un, .un, .un, .un] (.ifx (.and (.cmp .gt (.blt .len [.var 1]) (.int 0)) (.cmp .eq (.idx (.var 1) (.int 0)) (.int 1))) (.idx (.idx (.var 2) (.int 0)) (.int 1)) (.idx (.idx (.var 2) (.int 0)) (.int 0))) = .ok (fr (cR l vs 0)) := by
    unfold cR
    by_cases h : 0 < vs.length
    · have a0 : idxR (plc vs) (.int 0) = .ok (nm (va vs 0)) := by
        unfold plc
        rw [ix_tup, atL_map (z := 0) 0 rfl h, va_get]
      have w : va vs 0 = 0 ∨ va vs 0 = 1 := by have := va_le h1 0; omega
      rcases w with w | w <;> simp [b2, h, a0, w, n0]
    · simp [b2, h, n0]
  simp [startE, N, -y_ifx, -z_ifx, c0']
  rw [show seqR (plc vs) = .ok (vs.map nm) from rfl]
  simp
  rw [enum_nm]
  refine wp_pre (fun pre ρ => ∃ y5 y6, ρ = [.fr (bd l), .fr (plc vs), .fr (bd (nwL l vs)), .fr (fr (cR l vs pre.length)), .own (((List.range (pre.length + 1)).map (cR l vs)).map fr), y5, y6]) ⟨_, _, rfl⟩ ?_ ?_
  · rintro pre s post ρ hl2 ⟨y5, y6, rfl⟩
    have hs := rng_at hl2
    rw [← hs.1]
    have hs2 : s < vs.length := by have := hs.2; omega
    have o1 := cR_ok hl vs s (by omega)
    have o2 := nw_ok hl vs (show s + 1 < l.length by omega)
    have o3 := o2.lo
    have o4 := o2.hi
    have n1 : idxR (bd (nwL l vs)) (.int ((s : Nat) + 1)) = .ok (pl (nwP l vs (s + 1))) := nx (s + 1) (by omega)
    rw [List.length_append, List.length_singleton, ← hs.1, List.range_succ (n := s + 1), List.map_append, List.map_append]
    have cs : cR l vs (s + 1) = if va vs s = 0 then lgQ (cR l vs s) (nwP l vs (s + 1)).1 else smQ (cR l vs s) (nwP l vs (s + 1)).2 := rfl
    have w : va vs s = 0 ∨ va vs s = 1 := by have := va_le h1 s; omega
    generalize cR l vs s = c at *
    have ll : ((List.range (s + 1)).map (cR l vs)).length < 1000000 := by simp; omega
    generalize (List.range (s + 1)).map (cR l vs) = L at *
    rcases w with w | w
    · rw [w, if_pos rfl] at cs
      simp [w, n1, o1, o3, cs, ll]
    · rw [w, if_neg (by decide)] at cs
      simp [w, n1, o1, o4, cs, ll]
  · rintro ρ' ⟨y5, y6, rfl⟩
    rw [List.length_range]
    have W : callF KT (n + 2) 105 [bd (nwL l vs), .lst ((rowA l vs).map fr)] = .ok (.bl (wiB (nwL l vs) (rowA l vs))) := s105 (n := n) false (nwL_ok hl vs) (rowA_ok hl hv) (by simp [rowA, nwL]; omega)
    rw [show (List.range (vs.length + 1)).map (cR l vs) = rowA l vs from rfl]
    rcases Bool.eq_false_or_eq_true (wiB (nwL l vs) (rowA l vs)) with c | c <;> rw [c] at W <;> simp [W, c]

theorem wiB_iff {l : List Pl} (hl : OkB l) {r : List Fq} (hr : ∀ q ∈ r, OkF lim q) (hlen : r.length ≤ l.length) : wiB l r = true ↔ ∀ i, i < r.length → lo l i ≤ vq (qa r i) ∧ vq (qa r i) ≤ hi l i := by
  unfold wiB
  rw [List.all_eq_true]
  simp only [List.mem_range, Bool.and_eq_true, Bool.not_eq_true']
  have e : ∀ i, i < r.length → ((ltQ (qa r i) (lp l i).1 = false ∧ ltQ (lp l i).2 (qa r i) = false) ↔ (lo l i ≤ vq (qa r i) ∧ vq (qa r i) ≤ hi l i)) := fun i hi' => by
    have o1 := hr _ (qa_mem hi')
    have o2 := hl.ok _ (lp_mem (show i < l.length by omega))
    rw [ltQ_f o1 o2.lo, ltQ_f o2.hi o1]
    unfold lo hi
    rw [Rat.not_lt, Rat.not_lt]
  exact ⟨fun h i hi => (e i hi).mp (h i hi), fun h i hi => (e i hi).mpr (h i hi)⟩
/-- a row that fits and goes by words: nothing is against the words -/
theorem ok_of_row {l : List Pl} (hl : OkB l) {v : Nat → Nat} (c : Nat → Rat) {a b : Nat} (hb : b < l.length) (hv : ∀ s, v s ≤ 1) (f : ∀ i, a ≤ i → i ≤ b → lo l i ≤ c i ∧ c i ≤ hi l i) (g : ∀ s, a ≤ s → s < b → (v s = 0 → c s ≤ c (s + 1)) ∧ (v s = 1 → c (s + 1) ≤ c s)) : okUp (surN l) v a b := by
  intro w i j h1 h2 h3 hc
  have mono : ∀ k, i + k ≤ j → (w = 0 → c i ≤ c (i + k)) ∧ (w = 1 → c (i + k) ≤ c i) := by
    intro k
    induction k with
    | zero => intro _; exact ⟨fun _ => Rat.le_refl, fun _ => Rat.le_refl⟩
    | succ k ih =>
      intro hk
      have ih := ih (by omega)
      have hw := hc (i + k) (by omega) (by omega)
      have g2 := g (i + k) (by omega) (by omega)
      exact ⟨fun e => Rat.le_trans (ih.1 e) (g2.1 (by rw [hw, e])), fun e => Rat.le_trans (g2.2 (by rw [hw, e])) (ih.2 e)⟩
  have m := mono (j - i) (by omega)
  rw [show i + (j - i) = j by omega] at m
  have f1 := f i h1 (by omega)
  have f2 := f j (by omega) h3
  have hw : w ≤ 1 := by rw [← hc i (Nat.le_refl _) h2]; exact hv i
  unfold surN
  rw [sur_v hl (by omega) (by omega)]
  have : w = 0 ∨ w = 1 := by omega
  rcases this with rfl | rfl
  · have := m.1 rfl
    simp
    intro _ _
    grind
  · have := m.2 rfl
    simp
    intro _ _
    grind
/-- the row along words with nothing against them is within -/
theorem rowA_in {l : List Pl} (hl : OkB l) {vs : List Nat} (hv : vs.length + 1 = l.length) (h1 : ∀ v ∈ vs, v ≤ 1) (ok : okUp (surN l) (va vs) 0 (l.length - 1)) :
    ∀ s, s < l.length → (vq (nwP l vs s).1 ≤ vq (cR l vs s) ∧ vq (cR l vs s) ≤ vq (nwP l vs s).2) ∧ (s < vs.length → ∃ i, i ≤ s ∧ (∀ t, i ≤ t → t ≤ s → va vs t = va vs s) ∧ vq (cR l vs s) = if va vs s = 0 then lo l i else hi l i)
  | 0, h => by
    have n0 : nwP l vs 0 = lp l 0 := by unfold nwP; rw [if_neg (by omega)]
    have lh := lo_hi hl h
    unfold cR
    rw [n0]
    refine ⟨?_, fun hs => ⟨0, Nat.le_refl _, fun t _ ht => by rw [show t = 0 by omega], ?_⟩⟩
    · split
      · exact ⟨lh, Rat.le_refl⟩
      · exact ⟨Rat.le_refl, lh⟩
    · have w : va vs 0 = 0 ∨ va vs 0 = 1 := by have := va_le h1 0; omega
      rcases w with w | w
      · rw [if_neg (by omega), if_pos w]; rfl
      · rw [if_pos ⟨hs, w⟩, if_neg (by omega)]; rfl
  | s + 1, h => by
    obtain ⟨⟨b1, b2⟩, k⟩ := rowA_in hl hv h1 ok s (by omega)
    obtain ⟨i, i1, i2, i3⟩ := k (by omega)
    have o1 := cR_ok hl vs s (by omega)
    have o2 := nw_ok hl vs h
    have lh2 : vq (nwP l vs (s + 1)).1 ≤ vq (nwP l vs (s + 1)).2 := Rat.not_lt.mp ((ltQ_f o2.hi o2.lo).mp o2.le)
    have lh := lo_hi hl h
    have no := ok (va vs s) i (s + 1) (Nat.zero_le _) (by omega) (by omega) (fun t t1 t2 => i2 t t1 (by omega))
    unfold surN at no
    rw [sur_v hl (show i < l.length by omega) h] at no
    have w : va vs s = 0 ∨ va vs s = 1 := by have := va_le h1 s; omega
    -- what the narrowed place has
    have nw : (s + 1 < vs.length ∧ va vs s ≠ va vs (s + 1) ∧ nwP l vs (s + 1) = (if va vs s = 0 then ((lp l (s + 1)).2, (lp l (s + 1)).2) else ((lp l (s + 1)).1, (lp l (s + 1)).1))) ∨ ((s + 1 < vs.length → va vs (s + 1) = va vs s) ∧ nwP l vs (s + 1) = lp l (s + 1)) := by
      unfold nwP
      by_cases c : 1 ≤ s + 1 ∧ s + 1 < vs.length ∧ va vs (s + 1 - 1) ≠ va vs (s + 1)
      · left
        rw [if_pos c]
        exact ⟨c.2.1, c.2.2, rfl⟩
      · right
        rw [if_neg c]
        refine ⟨fun hs => ?_, rfl⟩
        have c3 : ¬ (va vs s ≠ va vs (s + 1)) := fun h3 => c ⟨by omega, hs, h3⟩
        omega
    have cs : cR l vs (s + 1) = if va vs s = 0 then lgQ (cR l vs s) (nwP l vs (s + 1)).1 else smQ (cR l vs s) (nwP l vs (s + 1)).2 := rfl
    have dl : lo l (s + 1) = vq (lp l (s + 1)).1 := rfl
    have dh : hi l (s + 1) = vq (lp l (s + 1)).2 := rfl
    generalize cR l vs s = c at *
    generalize cR l vs (s + 1) = c' at *
    rcases w with w | w
    · rw [w, if_pos rfl] at cs i3
      rw [w] at no
      have no2 : lo l i ≤ hi l (s + 1) := by
        simp at no
        have := no (by omega) (by omega)
        grind
      have L := lgQ_v o1 o2.lo
      rw [← cs] at L
      rcases nw with ⟨n1, n2, n3⟩ | ⟨n1, n3⟩
      · rw [w, if_pos rfl] at n3
        rw [n3] at L ⊢
        simp only [] at L ⊢
        have ev' : vq c' = hi l (s + 1) := by
          rcases L with ⟨L1, L2⟩ | ⟨L1, L2⟩
          · rw [L1]; rw [dh]; rw [dh] at no2; grind
          · rw [L1]; rfl
        refine ⟨⟨by rw [ev', dh]; exact Rat.le_refl, by rw [ev', dh]; exact Rat.le_refl⟩, fun hs => ⟨s + 1, Nat.le_refl _, fun t t1 t2 => by rw [show t = s + 1 by omega], ?_⟩⟩
        have : va vs (s + 1) ≠ 0 := by rw [w] at n2; exact fun h => n2 h.symm
        rw [if_neg this, ev']
      · rw [n3] at L ⊢
        rcases L with ⟨L1, L2⟩ | ⟨L1, L2⟩
        · rw [L1]
          refine ⟨⟨L2, by rw [i3, ← dh]; exact no2⟩, fun hs => ⟨i, by omega, fun t t1 t2 => ?_, ?_⟩⟩
          · by_cases ht : t ≤ s
            · rw [i2 t t1 ht, n1 hs]
            · rw [show t = s + 1 by omega]
          · rw [n1 hs, w, if_pos rfl, i3]
        · rw [L1]
          refine ⟨⟨Rat.le_refl, by rw [← dl, ← dh]; exact lh⟩, fun hs => ⟨s + 1, Nat.le_refl _, fun t t1 t2 => by rw [show t = s + 1 by omega], ?_⟩⟩
          rw [n1 hs, w, if_pos rfl]
          rfl
    · rw [w, if_neg (by decide)] at cs i3
      rw [w] at no
      have no2 : lo l (s + 1) ≤ hi l i := by
        simp at no
        have := no (by omega) (by omega)
        grind
      have L := smQ_v o1 o2.hi
      rw [← cs] at L
      rcases nw with ⟨n1, n2, n3⟩ | ⟨n1, n3⟩
      · rw [w, if_neg (by decide)] at n3
        rw [n3] at L ⊢
        simp only [] at L ⊢
        have ev' : vq c' = lo l (s + 1) := by
          rcases L with ⟨L1, L2⟩ | ⟨L1, L2⟩
          · rw [L1]; rw [dl]; rw [dl] at no2; grind
          · rw [L1]; rfl
        refine ⟨⟨by rw [ev', dl]; exact Rat.le_refl, by rw [ev', dl]; exact Rat.le_refl⟩, fun hs => ⟨s + 1, Nat.le_refl _, fun t t1 t2 => by rw [show t = s + 1 by omega], ?_⟩⟩
        have w2 : va vs (s + 1) = 0 := by have := va_le h1 (s + 1); rw [w] at n2; omega
        rw [if_pos w2, ev']
      · rw [n3] at L ⊢
        rcases L with ⟨L1, L2⟩ | ⟨L1, L2⟩
        · rw [L1]
          refine ⟨⟨by rw [i3, ← dl]; exact no2, L2⟩, fun hs => ⟨i, by omega, fun t t1 t2 => ?_, ?_⟩⟩
          · by_cases ht : t ≤ s
            · rw [i2 t t1 ht, n1 hs]
            · rw [show t = s + 1 by omega]
          · rw [n1 hs, w, if_neg (by decide), i3]
        · rw [L1]
          refine ⟨⟨by rw [← dl, ← dh]; exact lh, Rat.le_refl⟩, fun hs => ⟨s + 1, Nat.le_refl _, fun t t1 t2 => by rw [show t = s + 1 by omega], ?_⟩⟩
          rw [n1 hs, w, if_neg (by decide)]
          rfl
theorem nw_sub {l : List Pl} (hl : OkB l) (vs : List Nat) {p : Nat} (hp : p < l.length) : lo l p ≤ vq (nwP l vs p).1 ∧ vq (nwP l vs p).2 ≤ hi l p := by
  have lh := lo_hi hl hp
  have a : lo l p ≤ lo l p := Rat.le_refl
  have b : hi l p ≤ hi l p := Rat.le_refl
  unfold nwP
  split
  · split
    · exact ⟨lh, b⟩
    · exact ⟨a, lh⟩
  · exact ⟨a, b⟩
theorem rowA_step {l : List Pl} (hl : OkB l) (vs : List Nat) {s : Nat} (hs : s + 1 < l.length) (h1 : ∀ v ∈ vs, v ≤ 1) : (va vs s = 0 → vq (cR l vs s) ≤ vq (cR l vs (s + 1))) ∧ (va vs s = 1 → vq (cR l vs (s + 1)) ≤ vq (cR l vs s)) := by
  have o1 := cR_ok hl vs s (by omega)
  have o2 := nw_ok hl vs hs
  have cs : cR l vs (s + 1) = if va vs s = 0 then lgQ (cR l vs s) (nwP l vs (s + 1)).1 else smQ (cR l vs s) (nwP l vs (s + 1)).2 := rfl
  refine ⟨fun w => ?_, fun w => ?_⟩
  · rw [w, if_pos rfl] at cs
    have L := lgQ_v o1 o2.lo
    rw [← cs] at L
    rcases L with ⟨L1, L2⟩ | ⟨L1, L2⟩
    · rw [L1]; exact Rat.le_refl
    · rw [L1]; exact L2
  · rw [w, if_neg (by decide)] at cs
    have L := smQ_v o1 o2.hi
    rw [← cs] at L
    rcases L with ⟨L1, L2⟩ | ⟨L1, L2⟩
    · rw [L1]; exact Rat.le_refl
    · rw [L1]; exact L2
/-- the program tells a row along words just where nothing is against them -/
theorem rowA_iff {l : List Pl} (hl : OkB l) {vs : List Nat} (hv : vs.length + 1 = l.length) (h1 : ∀ v ∈ vs, v ≤ 1) : wiB (nwL l vs) (rowA l vs) = true ↔ okUp (surN l) (va vs) 0 (l.length - 1) := by
  have hlen : (rowA l vs).length = l.length := by simp [rowA]; omega
  have nl : (nwL l vs).length = l.length := by simp [nwL]
  rw [wiB_iff (nwL_ok hl vs) (rowA_ok hl hv) (by omega)]
  have cv : ∀ i, i < l.length → lo (nwL l vs) i = vq (nwP l vs i).1 ∧ hi (nwL l vs) i = vq (nwP l vs i).2 ∧ vq (qa (rowA l vs) i) = vq (cR l vs i) := fun i hi' => by
    unfold lo hi
    rw [lp_nw hi', qa_rowA (by omega)]
    exact ⟨rfl, rfl, rfl⟩
  constructor
  · intro h
    refine ok_of_row hl (fun i => vq (cR l vs i)) (by have := hl.pos; omega) (va_le h1) (fun i _ i2 => ?_) (fun s _ s2 => rowA_step hl vs (by omega) h1)
    have hi' : i < l.length := by have := hl.pos; omega
    have := h i (by omega)
    obtain ⟨e1, e2, e3⟩ := cv i hi'
    rw [e1, e2, e3] at this
    have n := nw_sub hl vs hi'
    exact ⟨Rat.le_trans n.1 this.1, Rat.le_trans this.2 n.2⟩
  · intro ok i hi'
    obtain ⟨e1, e2, e3⟩ := cv i (by omega)
    rw [e1, e2, e3]
    exact (rowA_in hl hv h1 ok i (by omega)).1
/-- the row fits -/
theorem rowA_fits {l : List Pl} (hl : OkB l) {vs : List Nat} (hv : vs.length + 1 = l.length) (h1 : ∀ v ∈ vs, v ≤ 1) (ok : okUp (surN l) (va vs) 0 (l.length - 1)) : wiB l (rowA l vs) = true := by
  have hlen : (rowA l vs).length = l.length := by simp [rowA]; omega
  rw [wiB_iff hl (rowA_ok hl hv) (by omega)]
  intro i hi'
  rw [qa_rowA (by omega)]
  have b := (rowA_in hl hv h1 ok i (by omega)).1
  have n := nw_sub hl vs (show i < l.length by omega)
  exact ⟨Rat.le_trans n.1 b.1, Rat.le_trans b.2 n.2⟩
/-- the row goes by the words -/
theorem rowA_goes {l : List Pl} (hl : OkB l) {vs : List Nat} (hv : vs.length + 1 = l.length) (h1 : ∀ v ∈ vs, v ≤ 1) {s : Nat} (hs : s < vs.length) : wd (rowA l vs) s ≠ 1 - va vs s := by
  have o1 := cR_ok hl vs s (by omega)
  have o2 := cR_ok hl vs (s + 1) (by omega)
  have st := rowA_step hl vs (show s + 1 < l.length by omega) h1
  unfold wd
  rw [qa_rowA (by omega), qa_rowA (by omega), ltQ_val o1 o2, ltQ_val o2 o1]
  have w : va vs s = 0 ∨ va vs s = 1 := by have := va_le h1 s; omega
  rcases w with w | w
  · have := st.1 w
    have c : ¬ (vq (cR l vs (s + 1)) < vq (cR l vs s)) := by grind
    rw [w]
    by_cases c2 : vq (cR l vs s) < vq (cR l vs (s + 1)) <;> simp [c, c2]
  · have := st.2 w
    have c : ¬ (vq (cR l vs s) < vq (cR l vs (s + 1))) := by grind
    rw [w]
    by_cases c2 : vq (cR l vs (s + 1)) < vq (cR l vs s) <;> simp [c, c2]
end PF

namespace PF
open PySem

/-! where a turn can be -/
/-- sure pairs, with place p at its high (h) or its low alone -/
structure Pin (S Sp : Nat → Nat → Nat → Bool) (p wl : Nat) : Prop where
  same : ∀ {w i j}, i ≠ p → j ≠ p → Sp w i j = S w i j
  sub : ∀ {w i j}, w ≤ 1 → S w i j = true → Sp w i j = true
  last : ∀ {i}, Sp wl i p = true → S wl i p = true
  next : ∀ {j}, Sp (1 - wl) p j = true → S (1 - wl) p j = true
  span : ∀ {w i j}, w ≤ 1 → i < p → p < j → S w i j = true → Sp w i p = true ∨ Sp w p j = true
  over : ∀ {w j k}, w ≤ 1 → p < j → j < k → Sp w p j = true → Sp (1 - w) p k = true → S (1 - w) j k = true
  noov : ∀ {w j}, w ≤ 1 → Sp w p j = true → Sp (1 - w) p j = false
section
variable {S Sp : Nat → Nat → Nat → Bool} {p wl : Nat}
theorem pin_last (pin : Pin S Sp p wl) (iv : Iv Sp) (hwl : wl ≤ 1) : ∀ {c : List (Nat × Nat)} {w lo : Nat}, w ≤ 1 → IsCh Sp (p + 1) w lo c → c ≠ [] → (w + (c.length - 1)) % 2 = wl → ∃ c', IsCh S (p + 1) w lo c' ∧ c'.length = c.length
  | [], _, _, _, _, h, _ => absurd rfl h
  | [q], w, lo, hw, ⟨h1, h2, h3, h4, _⟩, _, hl => by
    have e : w = wl := by simp at hl; omega
    subst e
    refine ⟨[q], ⟨h1, h2, h3, ?_, trivial⟩, rfl⟩
    by_cases hj : q.2 = p
    · rw [hj] at h4 ⊢
      exact pin.last h4
    · rw [← pin.same (show q.1 ≠ p by omega) hj]
      exact h4
  | q :: q' :: c, w, lo, hw, ⟨h1, h2, h3, h4, h5⟩, _, hl => by
    by_cases hj : q.2 = p
    · obtain ⟨g1, g2, g3, g4, g5⟩ := h5
      have e1 : q'.1 = p - 1 := by omega
      have e2 : q'.2 = p := by omega
      have hp : 1 ≤ p := by omega
      cases c with
      | cons r c =>
        exfalso
        obtain ⟨k1, k2, k3, k4, _⟩ := g5
        have f1 : r.1 = p - 1 := by omega
        have f2 : r.2 = p := by omega
        rw [f1, f2] at k4
        rw [e1, e2] at g4
        have := iv.no (by omega) g4
        rw [this] at k4
        cases k4
      | nil =>
        have ew : 1 - w = wl := by simp at hl; omega
        rw [e1, e2] at g4
        rw [hj] at h4
        have hi : q.1 < p - 1 := by
          by_cases hh : q.1 = p - 1
          · rw [hh] at h4
            have := iv.no hw h4
            rw [this] at g4
            cases g4
          · omega
        have t := iv.tr hw hi (by omega) h4 g4
        rw [pin.same (by omega) (by omega)] at t
        rw [ew] at g4
        have l := pin.last g4
        refine ⟨[(q.1, p - 1), (p - 1, p)], ⟨h1, hi, by show p - 1 < p + 1; omega, t, ⟨by show p - 1 - 1 ≤ p - 1; omega, by show p - 1 < p; omega, by show p < p + 1; omega, by rw [ew]; exact l, trivial⟩⟩, rfl⟩
    · obtain ⟨c', k1, k2⟩ := pin_last pin iv hwl (c := q' :: c) (w := 1 - w) (by omega) h5 (by simp) (by simp at hl ⊢; omega)
      refine ⟨q :: c', ⟨h1, h2, h3, ?_, k1⟩, by simp [k2]⟩
      rw [← pin.same (show q.1 ≠ p by omega) hj]
      exact h4
theorem ch_off (pin : Pin S Sp p wl) {n : Nat} : ∀ {c : List (Nat × Nat)} {w lo : Nat}, p < lo → IsCh Sp n w lo c → IsCh S n w lo c
  | [], _, _, _, _ => trivial
  | q :: c, w, lo, hp, ⟨h1, h2, h3, h4, h5⟩ => ⟨h1, h2, h3, by rw [← pin.same (show q.1 ≠ p by omega) (show q.2 ≠ p by omega)]; exact h4, ch_off pin (by omega) h5⟩
theorem pin_next (pin : Pin S Sp p wl) (hwl : wl ≤ 1) {n : Nat} {c : List (Nat × Nat)} (h : IsCh Sp n (1 - wl) p c) : ∃ c', IsCh S n (1 - wl) p c' ∧ c'.length = c.length := by
  match c, h with
  | [], _ => exact ⟨[], trivial, rfl⟩
  | q :: c, ⟨h1, h2, h3, h4, h5⟩ =>
    have s1 : S (1 - wl) q.1 q.2 = true := by
      by_cases e : q.1 = p
      · rw [e] at h4 ⊢
        exact pin.next h4
      · rw [← pin.same e (by omega)]
        exact h4
    by_cases hq : q.2 = p + 1
    · have e : q.1 = p := by omega
      match c, h5 with
      | [], _ => exact ⟨[q], ⟨h1, h2, h3, s1, trivial⟩, rfl⟩
      | r :: c, ⟨g1, g2, g3, g4, g5⟩ =>
        by_cases er : r.1 = p
        · rw [e, hq] at h4
          rw [er] at g4
          have hr : p + 1 < r.2 := by
            by_cases hh : r.2 = p + 1
            · rw [hh] at g4
              have := pin.noov (by omega) h4
              rw [this] at g4
              cases g4
            · omega
          have o := pin.over (by omega) (by omega) hr h4 g4
          exact ⟨q :: (p + 1, r.2) :: c, ⟨h1, h2, h3, s1, ⟨by show q.2 - 1 ≤ p + 1; omega, hr, g3, o, ch_off pin (by show p < r.2 - 1; omega) g5⟩⟩, rfl⟩
        · refine ⟨q :: r :: c, ⟨h1, h2, h3, s1, ⟨g1, g2, g3, ?_, ch_off pin (by omega) g5⟩⟩, rfl⟩
          rw [← pin.same er (by omega)]
          exact g4
    · exact ⟨q :: c, ⟨h1, h2, h3, s1, ch_off pin (by omega) h5⟩, rfl⟩
end
theorem pcOK_split {S : Nat → Nat → Nat → Bool} {p b : Nat} {ps2 : List Nat} : ∀ {ps1 : List Nat} {w a : Nat}, w ≤ 1 → pcOK S w a (ps1 ++ p :: ps2) b → pcOK S w a ps1 p ∧ pcOK S ((w + (ps1.length + 1)) % 2) p ps2 b
  | [], w, a, hw, h => ⟨h.1, by
    have := h.2
    rw [show (w + (([] : List Nat).length + 1)) % 2 = 1 - w by simp; omega]
    exact this⟩
  | q :: ps1, w, a, hw, h => by
    obtain ⟨h1, h2⟩ := pcOK_split (ps1 := ps1) (by omega) h.2
    refine ⟨⟨h.1, h1⟩, ?_⟩
    rw [show (w + ((q :: ps1).length + 1)) % 2 = (1 - w + (ps1.length + 1)) % 2 by simp; omega]
    exact h2
/-- whether turn k can be at the place -/
def canTn (S : Nat → Nat → Nat → Bool) (n first many k p : Nat) : Bool := decide ((chn S (p + 1) k first 0).length < k) && decide ((chn S n (many - k) ((first + k) % 2) p).length < many - k)
theorem canT_of {S : Nat → Nat → Nat → Bool} {n first many k p : Nat} (hf : first ≤ 1) {ps : List Nat} (hg : GoodP S n first ps) (hl : ps.length = many - 1) (hk : 1 ≤ k) (hk2 : k < many) (hp : ps[k - 1]? = some p) (hpn : p < n) : canTn S n first many k p = true := by
  have hpc := pc_of_ok hf hg.1 (b := n - 1) (fun q hq => by have := ascN_lt hg.1 q hq; omega) hg.2
  obtain ⟨hlt, he⟩ := List.getElem?_eq_some_iff.mp hp
  have e : ps = ps.take (k - 1) ++ p :: ps.drop k := by
    have := (List.take_append_drop (k - 1) ps).symm
    rw [List.drop_eq_getElem_cons hlt, he, show k - 1 + 1 = k by omega] at this
    exact this
  have l1 : (ps.take (k - 1)).length = k - 1 := by rw [List.length_take]; omega
  have l2 : (ps.drop k).length = many - 1 - k := by rw [List.length_drop, hl]
  rw [e] at hpc
  obtain ⟨p1, p2⟩ := pcOK_split hf hpc
  rw [l1, show first + (k - 1 + 1) = first + k by omega] at p2
  have b1 := ch_bound p1 (Nat.le_refl (p + 1)) (Nat.le_refl 0) (chn_ch (Sr := S) (p + 1) k first 0)
  have b2 := ch_bound p2 (n := n) (by omega) (Nat.le_refl p) (chn_ch (Sr := S) n (many - k) ((first + k) % 2) p)
  rw [l1] at b1
  rw [l2] at b2
  unfold canTn
  rw [Bool.and_eq_true, decide_eq_true_eq, decide_eq_true_eq]
  omega
theorem chn_lo {S : Nat → Nat → Nat → Bool} (iv : Iv S) {n w lo many : Nat} (hn : lo < n) (hw : w ≤ 1) {c : List (Nat × Nat)} (hc : IsCh S n w lo c) (hl : many ≤ c.length) : (chn S n many w lo).length = many := by
  by_cases h : (chn S n many w lo).length < many
  · exfalso
    have ok := greedy_ok iv many w lo hw h
    have h2 := chn_ch (Sr := S) n many w lo
    have asc := gPl_asc (many := many) (show 1 ≤ n by omega) (show lo ≤ n - 1 by omega) h2
    have pc : pcOK S w lo (gPl (chn S n many w lo) n many) (n - 1) := pc_of_ok hw asc (fun q hq => by have := ascN_lt asc q hq; omega) fun w' i j i1 i2 i3 i4 => ok w' i j i1 i2 i3 fun s s1 s2 => by
      rw [← gPl_word (many := many) hw h2 (show s < n - 1 by omega)]
      exact i4 s s1 s2
    have b := ch_bound pc (n := n) (by omega) (Nat.le_refl lo) hc
    rw [gPl_len (by omega)] at b
    omega
  · have := chn_len S n many w lo
    omega
theorem ascN_mono {size : Nat} : ∀ {ps : List Nat} {lo lo' : Nat}, lo' ≤ lo → ascN size lo ps = true → ascN size lo' ps = true
  | [], _, _, _, _ => rfl
  | p :: ps, lo, lo', h, ha => by
    simp only [ascN, Bool.and_eq_true, decide_eq_true_eq] at ha ⊢
    exact ⟨⟨by omega, ha.1.2⟩, ha.2⟩
theorem ascN_size {m n : Nat} (h : m ≤ n) : ∀ {ps : List Nat} {lo : Nat}, ascN m lo ps = true → ascN n lo ps = true
  | [], _, _ => rfl
  | p :: ps, lo, ha => by
    simp only [ascN, Bool.and_eq_true, decide_eq_true_eq] at ha ⊢
    exact ⟨⟨ha.1.1, by omega⟩, ascN_size h ha.2⟩
theorem ahead_all {ps : List Nat} {i : Nat} (h : ∀ p ∈ ps, p ≤ i) : ahead ps i = ps.length := by
  unfold ahead
  rw [List.filter_eq_self.mpr fun p hp => by simpa using h p hp]
theorem canT_some {S Sp : Nat → Nat → Nat → Bool} {n first many k p : Nat} (hf : first ≤ 1) (hk : 1 ≤ k) (hk2 : k < many) (hp : p < n) (iv : Iv S) (ivp : Iv Sp) (pin : Pin S Sp p ((first + (k - 1)) % 2)) (h : canTn S n first many k p = true) :
    ∃ ps, GoodP S n first ps ∧ ps.length = many - 1 ∧ ps[k - 1]? = some p := by
  unfold canTn at h
  rw [Bool.and_eq_true, decide_eq_true_eq, decide_eq_true_eq] at h
  obtain ⟨h1, h2⟩ := h
  have wl1 : (first + (k - 1)) % 2 ≤ 1 := by omega
  have w2 : (first + k) % 2 = 1 - (first + (k - 1)) % 2 := by omega
  -- ahead
  have s1 : (chn Sp (p + 1) k first 0).length < k := by
    by_cases hh : (chn Sp (p + 1) k first 0).length < k
    · exact hh
    · exfalso
      have e := chn_len Sp (p + 1) k first 0
      have el : (chn Sp (p + 1) k first 0).length = k := by omega
      obtain ⟨c', k1, k2⟩ := pin_last pin ivp wl1 hf (chn_ch (Sr := Sp) (p + 1) k first 0) (by intro h0; rw [h0] at el; simp at el; omega) (by rw [el])
      have := chn_max iv (by omega) hf k1 (many := k) (by omega)
      omega
  have s2 : (chn Sp n (many - k) ((first + k) % 2) p).length < many - k := by
    by_cases hh : (chn Sp n (many - k) ((first + k) % 2) p).length < many - k
    · exact hh
    · exfalso
      have e := chn_len Sp n (many - k) ((first + k) % 2) p
      have cc := chn_ch (Sr := Sp) n (many - k) ((first + k) % 2) p
      rw [w2] at cc hh e
      obtain ⟨c', k1, k2⟩ := pin_next pin wl1 cc
      have := chn_lo iv hp (show 1 - (first + (k - 1)) % 2 ≤ 1 by omega) k1 (many := many - k) (by omega)
      rw [w2] at h2
      omega
  have o1 := greedy_ok ivp k first 0 hf s1
  have o2 := greedy_ok ivp (many - k) ((first + k) % 2) p (by omega) s2
  have c1 := chn_ch (Sr := Sp) (p + 1) k first 0
  have c2 := chn_ch (Sr := Sp) n (many - k) ((first + k) % 2) p
  generalize chn Sp (p + 1) k first 0 = C1 at *
  generalize chn Sp n (many - k) ((first + k) % 2) p = C2 at *
  have a1 := gPl_asc (n := p + 1) (many := k) (by omega) (Nat.zero_le _) c1
  have a2 := gPl_asc (n := n) (many := many - k) (by omega) (show p ≤ n - 1 by omega) c2
  have l1 : (gPl C1 (p + 1) k).length = k - 1 := gPl_len (by omega)
  have l2 : (gPl C2 n (many - k)).length = many - k - 1 := gPl_len (by omega)
  have g1 : ∀ s, s < p → wordAt first (gPl C1 (p + 1) k) s = vOf first C1 s := fun s hs => gPl_word hf c1 (by omega)
  have g2 : ∀ s, s < n - 1 → wordAt ((first + k) % 2) (gPl C2 n (many - k)) s = vOf ((first + k) % 2) C2 s := fun s hs => gPl_word (by omega) c2 hs
  generalize gPl C1 (p + 1) k = P1 at *
  generalize gPl C2 n (many - k) = P2 at *
  have m1 : ∀ q ∈ P1, q ≤ p := fun q hq => by have := ascN_lt a1 q hq; omega
  have m2 : ∀ q ∈ P2, p ≤ q := fun q hq => (ascN_lt a2 q hq).1
  have asc : ascN n 0 (P1 ++ p :: P2) = true := by
    refine ascN_ge (ascN_size (by omega) a1) (fun x hx q hq => ?_) (fun q _ => Nat.zero_le q) ?_
    · rcases List.mem_cons.mp hq with rfl | hq
      · exact m1 x hx
      · exact Nat.le_trans (m1 x hx) (m2 q hq)
    · simp only [ascN, Bool.and_eq_true, decide_eq_true_eq]
      exact ⟨⟨Nat.zero_le _, hp⟩, a2⟩
  have v1 : ∀ s, s < p → wordAt first (P1 ++ p :: P2) s = vOf first C1 s := fun s hs => by
    rw [← g1 s hs]
    unfold wordAt
    have z : ahead (p :: P2) s = 0 := by
      rw [ahead_c, if_neg (by omega)]
      unfold ahead
      rw [Nat.zero_add, List.length_eq_zero_iff, List.filter_eq_nil_iff]
      intro y hy
      have := m2 y hy
      simp
      omega
    rw [ahead_app, z, Nat.add_zero]
  have v2 : ∀ s, p ≤ s → s < n - 1 → wordAt first (P1 ++ p :: P2) s = vOf ((first + k) % 2) C2 s := fun s hs hs2 => by
    rw [← g2 s hs2]
    unfold wordAt
    rw [ahead_app, ahead_all (fun q hq => Nat.le_trans (m1 q hq) hs), ahead_c, if_pos hs, l1]
    omega
  refine ⟨P1 ++ p :: P2, ⟨asc, ?_⟩, by simp [l1, l2]; omega, ?_⟩
  · have neg : ∀ {w i j}, w ≤ 1 → Sp w i j = false → S w i j = false := fun {w i j} hw hs => by
      cases hh : S w i j with
      | false => rfl
      | true => rw [pin.sub hw hh] at hs; cases hs
    intro w i j i1 i2 i3 hc
    have hw : w ≤ 1 := by
      rw [← hc i (Nat.le_refl _) i2]
      unfold wordAt
      omega
    have left : ∀ j', i < j' → j' ≤ p → j' ≤ j → Sp w i j' = false := fun j' x1 x2 x3 => o1 w i j' i1 x1 (by omega) fun s s1 s2 => by
      rw [← v1 s (by omega)]
      exact hc s s1 (by omega)
    have right : ∀ i', p ≤ i' → i ≤ i' → i' < j → Sp w i' j = false := fun i' x1 x2 x3 => o2 w i' j x1 x3 (by omega) fun s s1 s2 => by
      rw [← v2 s (by omega) (by omega)]
      exact hc s (by omega) s2
    by_cases hj : j ≤ p
    · exact neg hw (left j i2 hj (Nat.le_refl _))
    · by_cases hi' : p ≤ i
      · exact neg hw (right i hi' (Nat.le_refl _) i2)
      · cases hh : S w i j with
        | false => rfl
        | true =>
          rcases pin.span hw (by omega) (by omega) hh with q | q
          · rw [left p (by omega) (Nat.le_refl _) (by omega)] at q
            cases q
          · rw [right p (Nat.le_refl _) (by omega) (by omega)] at q
            cases q
  · rw [List.getElem?_append_right (by omega), l1, Nat.sub_self]
    rfl
end PF

namespace PF
open PySem

def pinV (l : List Pl) (p wl : Nat) : Fq := if wl = 0 then (lp l p).2 else (lp l p).1
def pinL (l : List Pl) (p wl : Nat) : List Pl := l.set p (pinV l p wl, pinV l p wl)
theorem pin_ok {l : List Pl} (hl : OkB l) {p : Nat} (hp : p < l.length) (wl : Nat) : OkB (pinL l p wl) := by
  have h := hl.ok _ (lp_mem hp)
  have irr : ∀ q : Fq, ltQ q q = false := fun q => by unfold ltQ; simp
  have hv : OkF lim (pinV l p wl) := by
    unfold pinV
    split
    · exact h.hi
    · exact h.lo
  refine ⟨fun x hx => ?_, by simpa [pinL] using hl.pos, by simpa [pinL] using hl.most⟩
  rcases List.mem_or_eq_of_mem_set hx with hx | rfl
  · exact hl.ok x hx
  · exact ⟨hv, hv, irr _⟩
theorem lp_pin {l : List Pl} {p wl i : Nat} (hp : p < l.length) : lp (pinL l p wl) i = if i = p then (pinV l p wl, pinV l p wl) else lp l i := by
  unfold lp pinL
  rw [List.getElem?_set]
  by_cases h : p = i
  · subst h
    simp [hp]
  · rw [if_neg h, if_neg (fun e => h e.symm)]
theorem pin_pin {l : List Pl} (hl : OkB l) {p wl : Nat} (hp : p < l.length) (hw : wl ≤ 1) : Pin (surN l) (surN (pinL l p wl)) p wl := by
  have hl' := pin_ok hl hp wl
  have len : (pinL l p wl).length = l.length := by simp [pinL]
  have lh := lo_hi hl hp
  have ve : vq (pinV l p wl) = if wl = 0 then hi l p else lo l p := by
    unfold pinV
    split <;> rfl
  have lo1 : ∀ i, lo (pinL l p wl) i = if i = p then vq (pinV l p wl) else lo l i := fun i => by
    unfold lo
    rw [lp_pin hp]
    split <;> rfl
  have hi1 : ∀ i, hi (pinL l p wl) i = if i = p then vq (pinV l p wl) else hi l i := fun i => by
    unfold hi
    rw [lp_pin hp]
    split <;> rfl
  have v1 : lo l p ≤ vq (pinV l p wl) := by
    rw [ve]
    split
    · exact lh
    · exact Rat.le_refl
  have v2 : vq (pinV l p wl) ≤ hi l p := by
    rw [ve]
    split
    · exact Rat.le_refl
    · exact lh
  have SN : ∀ {w i j}, surN l w i j = true ↔ i < j ∧ j < l.length ∧ (if w = 0 then hi l j < lo l i else hi l i < lo l j) := fun {w i j} => by
    unfold surN
    rw [Bool.and_eq_true, decide_eq_true_eq]
    constructor
    · rintro ⟨a, b⟩
      have c := sur_lt b
      rw [sur_v hl (by omega) a, Bool.and_eq_true] at b
      refine ⟨c, a, ?_⟩
      have b := b.2
      split at b <;> rename_i hw <;> simp [hw] <;> simpa using b
    · rintro ⟨a, b, c⟩
      refine ⟨b, ?_⟩
      rw [sur_v hl (by omega) b, Bool.and_eq_true, decide_eq_true_eq]
      refine ⟨a, ?_⟩
      split at c <;> rename_i hw <;> simp [hw] <;> simpa using c
  have SP : ∀ {w i j}, surN (pinL l p wl) w i j = true ↔ i < j ∧ j < l.length ∧ (if w = 0 then hi (pinL l p wl) j < lo (pinL l p wl) i else hi (pinL l p wl) i < lo (pinL l p wl) j) := fun {w i j} => by
    unfold surN
    rw [Bool.and_eq_true, decide_eq_true_eq, len]
    constructor
    · rintro ⟨a, b⟩
      have c := sur_lt b
      rw [sur_v hl' (by omega) (by omega), Bool.and_eq_true] at b
      refine ⟨c, a, ?_⟩
      have b := b.2
      split at b <;> rename_i hw <;> simp [hw] <;> simpa using b
    · rintro ⟨a, b, c⟩
      refine ⟨b, ?_⟩
      rw [sur_v hl' (by omega) (by omega), Bool.and_eq_true, decide_eq_true_eq]
      refine ⟨a, ?_⟩
      split at c <;> rename_i hw <;> simp [hw] <;> simpa using c
  generalize vq (pinV l p wl) = e at *
  refine ⟨?_, ?_, ?_, ?_, ?_, ?_, ?_⟩
  · intro w i j h1 h2
    rw [Bool.eq_iff_iff, SN, SP, lo1, lo1, hi1, hi1, if_neg h1, if_neg h1, if_neg h2, if_neg h2]
  · intro w i j hw1 h
    rw [SN] at h
    rw [SP]
    refine ⟨h.1, h.2.1, ?_⟩
    have h3 := h.2.2
    rw [lo1, lo1, hi1, hi1]
    have : w = 0 ∨ w = 1 := by omega
    rcases this with rfl | rfl
    · simp at h3 ⊢
      grind
    · simp at h3 ⊢
      grind
  · intro i h
    rw [SP, lo1, lo1, hi1, hi1] at h
    rw [SN]
    have hip : i ≠ p := by omega
    refine ⟨h.1, h.2.1, ?_⟩
    have h3 := h.2.2
    rw [if_neg hip, if_neg hip, if_pos rfl, if_pos rfl] at h3
    have : wl = 0 ∨ wl = 1 := by omega
    rcases this with rfl | rfl
    · simp at h3 ve ⊢
      grind
    · simp at h3 ve ⊢
      grind
  · intro j h
    rw [SP, lo1, lo1, hi1, hi1] at h
    rw [SN]
    have hjp : j ≠ p := by omega
    refine ⟨h.1, h.2.1, ?_⟩
    have h3 := h.2.2
    rw [if_neg hjp, if_neg hjp, if_pos rfl, if_pos rfl] at h3
    have : wl = 0 ∨ wl = 1 := by omega
    rcases this with rfl | rfl
    · simp at h3 ve ⊢
      grind
    · simp at h3 ve ⊢
      grind
  · intro w i j hw1 h1 h2 h
    rw [SN] at h
    rw [SP, SP, lo1, lo1, lo1, hi1, hi1, hi1, if_pos rfl, if_pos rfl, if_neg (show i ≠ p by omega), if_neg (show i ≠ p by omega), if_neg (show j ≠ p by omega), if_neg (show j ≠ p by omega)]
    have h3 := h.2.2
    have : w = 0 ∨ w = 1 := by omega
    rcases this with rfl | rfl
    · simp at h3 ⊢
      by_cases c : e < lo l i
      · exact .inl ⟨by omega, by omega, c⟩
      · exact .inr ⟨by omega, by omega, by grind⟩
    · simp at h3 ⊢
      by_cases c : hi l i < e
      · exact .inl ⟨by omega, by omega, c⟩
      · exact .inr ⟨by omega, by omega, by grind⟩
  · intro w j k hw1 h1 h2 h3 h4
    rw [SP, lo1, lo1, hi1, hi1, if_pos rfl, if_pos rfl, if_neg (show j ≠ p by omega), if_neg (show j ≠ p by omega)] at h3
    rw [SP, lo1, lo1, hi1, hi1, if_pos rfl, if_pos rfl, if_neg (show k ≠ p by omega), if_neg (show k ≠ p by omega)] at h4
    rw [SN]
    refine ⟨h2, h4.2.1, ?_⟩
    have h5 := h3.2.2
    have h6 := h4.2.2
    have lj := lo_hi hl (show j < l.length by omega)
    have : w = 0 ∨ w = 1 := by omega
    rcases this with rfl | rfl
    · simp at h5 h6 ⊢
      grind
    · simp at h5 h6 ⊢
      grind
  · intro w j hw1 h
    cases hh : surN (pinL l p wl) (1 - w) p j with
    | false => rfl
    | true =>
      rw [SP] at h hh
      have lj := lo_hi hl' (show j < (pinL l p wl).length by omega)
      have lp' := lo_hi hl' (show p < (pinL l p wl).length by omega)
      have h5 := h.2.2
      have h6 := hh.2.2
      exfalso
      have : w = 0 ∨ w = 1 := by omega
      rcases this with rfl | rfl
      · simp at h5 h6
        grind
      · simp at h5 h6
        grind
/-- where a turn can be, by the program and by the law's own hand -/
theorem canT_iff {l : List Pl} (hl : OkB l) {first many k p : Nat} (hf : first ≤ 1) (hk : 1 ≤ k) (hk2 : k < many) (hp : p < l.length) : canTn (surN l) l.length first many k p = true ↔ ∃ ps ∈ goodL l first many, ps[k - 1]? = some p := by
  constructor
  · intro h
    obtain ⟨ps, g1, g2, g3⟩ := canT_some hf hk hk2 hp (iv_sur hl) (iv_sur (pin_ok hl hp _)) (pin_pin hl hp (by omega)) h
    exact ⟨ps, (goodL_mem hl hf).mpr ⟨allP_of g1.1 g2, g1⟩, g3⟩
  · rintro ⟨ps, hps, h⟩
    obtain ⟨m1, m2⟩ := (goodL_mem hl hf).mp hps
    exact canT_of hf m2 (allP_mem m1).1 hk hk2 h hp
end PF

namespace PF
open PySem

theorem fp_next {S : Nat → Nat → Nat → Bool} (iv : Iv S) {n word lo : Nat} (hw : word ≤ 1) {p q : Nat × Nat} (hp : fpP (S word) n lo = some p) (hq : fpP (S (1 - word)) n (p.2 - 1) = some q) : p.2 < q.2 := by
  obtain ⟨q1, q2, q3, q4, q5⟩ := fpP_some hp
  obtain ⟨r1, r2, r3, r4, r5⟩ := fpP_some hq
  by_cases e : q.2 ≤ p.2
  · exfalso
    have e1 : q.2 = p.2 := by omega
    have e2 : q.1 = p.2 - 1 := by omega
    rw [e1, e2] at r4
    by_cases e3 : p.1 < p.2 - 1
    · have := iv.tr hw e3 (by omega) q4 r4
      rw [q5 p.1 (p.2 - 1) q1 e3 (by omega)] at this
      cases this
    · have e4 : p.1 = p.2 - 1 := by omega
      rw [← e4] at r4
      have := iv.no hw q4
      rw [this] at r4
      cases r4
  · omega
theorem chn_bnd {S : Nat → Nat → Nat → Bool} (iv : Iv S) {n : Nat} : ∀ (m w lo x : Nat), w ≤ 1 → x < n → (∀ q, fpP (S w) n lo = some q → x < q.2) → (chn S n m w lo).length ≤ n - 1 - x
  | 0, _, _, _, _, _, _ => Nat.zero_le _
  | m + 1, w, lo, x, hw, hx, h => by
    unfold chn
    cases hp : fpP (S w) n lo with
    | none => simp
    | some p =>
      have h1 := h p hp
      obtain ⟨q1, q2, q3, q4, q5⟩ := fpP_some hp
      have := chn_bnd iv m (1 - w) (p.2 - 1) p.2 (by omega) q3 fun q hq => fp_next iv hw hp hq
      show (p :: chn S n m (1 - w) (p.2 - 1)).length ≤ n - 1 - x
      rw [List.length_cons]
      omega
theorem chn_size {S : Nat → Nat → Nat → Bool} (iv : Iv S) {n m w : Nat} (hw : w ≤ 1) (hn : 1 ≤ n) : (chn S n m w 0).length ≤ n - 1 := by
  have := chn_bnd iv (n := n) m w 0 0 hw (by omega) fun q hq => by
    obtain ⟨q1, q2, _⟩ := fpP_some hq
    omega
  omega
theorem can_big {l : List Pl} (hl : OkB l) {first many : Nat} (hf : first ≤ 1) (hm : l.length ≤ many) : canH l first many = true := by
  unfold canH
  rw [chn_N (Nat.le_refl _), decide_eq_true_eq]
  have := chn_size (iv_sur hl) (n := l.length) (m := many) hf hl.pos
  have := hl.pos
  omega

def chV (c : List (Nat × Nat)) : D := .tup (c.map prD)

/-- the places of a turn -/
def strP (l : List Pl) (first many k : Nat) : List Nat := (List.range l.length).filter (canTn (surN l) l.length first many k)
def stA (l : List Pl) (first many k : Nat) : Nat := ((strP l first many k).head?).getD 0
def stZ (l : List Pl) (first many k : Nat) : Nat := ((strP l first many k).getLast?).getD 0
theorem strP_ne {l : List Pl} (hl : OkB l) {first many k : Nat} (hf : first ≤ 1) (hk : 1 ≤ k) (hk2 : k < many) (hc : canH l first many = true) : strP l first many k ≠ [] := by
  have := (good_iff hl hf (by omega)).mpr hc
  cases hg : goodL l first many with
  | nil => exact absurd hg this
  | cons ps rest =>
    have hm : ps ∈ goodL l first many := by rw [hg]; exact List.mem_cons_self
    obtain ⟨m1, m2⟩ := (goodL_mem hl hf).mp hm
    obtain ⟨p1, p2⟩ := allP_mem m1
    have hk3 : k - 1 < ps.length := by omega
    have : ps[k - 1] ∈ strP l first many k := by
      unfold strP
      rw [List.mem_filter, List.mem_range]
      have hlt := p2 _ (List.getElem_mem hk3)
      exact ⟨hlt, (canT_iff hl hf hk hk2 hlt).mpr ⟨ps, hm, List.getElem?_eq_getElem hk3⟩⟩
    exact List.ne_nil_of_mem this
theorem sorted_head {L : List Nat} (hs : L.Pairwise (· < ·)) (hn : L ≠ []) : (L.head?).getD 0 ∈ L ∧ ∀ x ∈ L, (L.head?).getD 0 ≤ x := by
  cases L with
  | nil => exact absurd rfl hn
  | cons a L =>
    refine ⟨List.mem_cons_self, fun x hx => ?_⟩
    rcases List.mem_cons.mp hx with rfl | hx
    · exact Nat.le_refl _
    · exact Nat.le_of_lt (List.rel_of_pairwise_cons hs hx)
theorem sorted_last {L : List Nat} (hs : L.Pairwise (· < ·)) (hn : L ≠ []) : (L.getLast?).getD 0 ∈ L ∧ ∀ x ∈ L, x ≤ (L.getLast?).getD 0 := by
  rcases List.eq_nil_or_concat L with h | ⟨L', a, h⟩
  · exact absurd h hn
  · rw [List.concat_eq_append] at h
    subst h
    rw [List.pairwise_append] at hs
    refine ⟨by simp, fun x hx => ?_⟩
    rcases List.mem_append.mp hx with hx | hx
    · have := hs.2.2 x hx a List.mem_cons_self
      simp
      omega
    · rw [List.mem_singleton.mp hx]
      simp
theorem strP_sorted (l : List Pl) (first many k : Nat) : (strP l first many k).Pairwise (· < ·) := List.Pairwise.sublist List.filter_sublist List.pairwise_lt_range
/-- what the turn's places are, by the good places -/
theorem strP_mem {l : List Pl} (hl : OkB l) {first many k p : Nat} (hf : first ≤ 1) (hk : 1 ≤ k) (hk2 : k < many) : p ∈ strP l first many k ↔ ∃ ps ∈ goodL l first many, ps[k - 1]? = some p := by
  unfold strP
  rw [List.mem_filter, List.mem_range]
  constructor
  · rintro ⟨h1, h2⟩
    exact (canT_iff hl hf hk hk2 h1).mp h2
  · rintro ⟨ps, h1, h2⟩
    have m := ((goodL_mem hl hf).mp h1).1
    obtain ⟨hlt, he⟩ := List.getElem?_eq_some_iff.mp h2
    have hp : p < l.length := by rw [← he]; exact (allP_mem m).2 _ (List.getElem_mem _)
    exact ⟨hp, (canT_iff hl hf hk hk2 hp).mpr ⟨ps, h1, h2⟩⟩
theorem idx_first {L : List Nat} (h : L ≠ []) : atL (L.map nm) 0 = .ok (nm ((L.head?).getD 0)) := by
  have := pickE_idx (g := false) h
  simpa [pickE] using this
theorem idx_last {L : List Nat} (h : L ≠ []) : atL (L.map nm) (-1) = .ok (nm ((L.getLast?).getD 0)) := by
  have := pickE_idx (g := true) h
  simpa [pickE] using this

def byS (a z p : Nat) : Str := if z ≤ p then PySem.Str.ofString "turned" else if p < a then PySem.Str.ofString "not yet" else PySem.Str.ofString "open"
theorem byS_ok (a z p : Nat) : PyData.strOk (byS a z p) = true := by
  unfold byS
  split
  · decide +kernel
  · split <;> decide +kernel

theorem min_nm {L : List Nat} {m : Nat} (hm : m ∈ L) (h : ∀ x ∈ L, m ≤ x) : bltR .minl [.lst (L.map nm)] = .ok (nm m) := by
  have hints : ∀ L : List Nat, intsR (L.map nm) = .ok (L.map fun (x : Nat) => (x : Int)) := fun L => by
    induction L with
    | nil => rfl
    | cons a L ih => rw [List.map_cons, intsR, ih]; rfl
  have e : bltR .minl [.lst (L.map nm)] = (intsR (L.map nm)).bind fun l => match l with | [] => .bad | x :: xs => .ok (.int (minL x xs)) := rfl
  have mn : ∀ (xs : List Int) (a : Int), (∀ y ∈ a :: xs, (m : Int) ≤ y) → (m : Int) ∈ a :: xs → minL a xs = (m : Int) := by
    intro xs
    induction xs with
    | nil => intro a h1 h2; simp at h2; rw [h2]; rfl
    | cons x xs ih =>
      intro a h1 h2
      show minL (if x < a then x else a) xs = m
      refine ih _ (fun y hy => ?_) ?_
      · rcases List.mem_cons.mp hy with rfl | hy
        · split
          · exact h1 x (by simp)
          · exact h1 a (by simp)
        · exact h1 y (by simp [hy])
      · have a1 := h1 a (by simp)
        have a2 := h1 x (by simp)
        simp only [List.mem_cons] at h2 ⊢
        rcases h2 with h2 | h2 | h2
        · left; split <;> omega
        · left; split <;> omega
        · exact .inr h2
  rw [e, hints, r_bind]
  cases L with
  | nil => cases hm
  | cons a L =>
    show R.ok (D.int (minL (a : Int) (L.map fun (x : Nat) => (x : Int)))) = _
    rw [mn (L.map fun (x : Nat) => (x : Int)) a (fun y hy => by
      obtain ⟨z, hz, rfl⟩ := List.mem_map.mp (show y ∈ (a :: L).map fun (x : Nat) => (x : Int) from hy)
      have := h z hz
      omega) (by
      show (m : Int) ∈ (a :: L).map fun (x : Nat) => (x : Int)
      exact List.mem_map.mpr ⟨m, hm, rfl⟩)]
theorem max_nm {L : List Nat} {m : Nat} (hm : m ∈ L) (h : ∀ x ∈ L, x ≤ m) : bltR .maxl [.lst (L.map nm)] = .ok (nm m) := by
  have hints : ∀ L : List Nat, intsR (L.map nm) = .ok (L.map fun (x : Nat) => (x : Int)) := fun L => by
    induction L with
    | nil => rfl
    | cons a L ih => rw [List.map_cons, intsR, ih]; rfl
  have e : bltR .maxl [.lst (L.map nm)] = (intsR (L.map nm)).bind fun l => match l with | [] => .bad | x :: xs => .ok (.int (maxL x xs)) := rfl
  have mn : ∀ (xs : List Int) (a : Int), (∀ y ∈ a :: xs, y ≤ (m : Int)) → (m : Int) ∈ a :: xs → maxL a xs = (m : Int) := by
    intro xs
    induction xs with
    | nil => intro a h1 h2; simp at h2; rw [h2]; rfl
    | cons x xs ih =>
      intro a h1 h2
      show maxL (if a < x then x else a) xs = m
      refine ih _ (fun y hy => ?_) ?_
      · rcases List.mem_cons.mp hy with rfl | hy
        · split
          · exact h1 x (by simp)
          · exact h1 a (by simp)
        · exact h1 y (by simp [hy])
      · have a1 := h1 a (by simp)
        have a2 := h1 x (by simp)
        simp only [List.mem_cons] at h2 ⊢
        rcases h2 with h2 | h2 | h2
        · left; split <;> omega
        · left; split <;> omega
        · exact .inr h2
  rw [e, hints, r_bind]
  cases L with
  | nil => cases hm
  | cons a L =>
    show R.ok (D.int (maxL (a : Int) (L.map fun (x : Nat) => (x : Int)))) = _
    rw [mn (L.map fun (x : Nat) => (x : Int)) a (fun y hy => by
      obtain ⟨z, hz, rfl⟩ := List.mem_map.mp (show y ∈ (a :: L).map fun (x : Nat) => (x : Int) from hy)
      have := h z hz
      omega) (by
      show (m : Int) ∈ (a :: L).map fun (x : Nat) => (x : Int)
      exact List.mem_map.mpr ⟨m, hm, rfl⟩)]
def paAt (ps : List Nat) (i : Nat) : Nat := (ps[i]?).getD 0
theorem ix_plc {ps : List Nat} {i : Nat} (h : i < ps.length) : idxR (plc ps) (.int (i : Nat)) = .ok (nm (paAt ps i)) := by
  unfold plc paAt
  rw [ix_tup, atL_map i rfl h]
  simp [h]
/-- the stretch of a turn, by the good places -/
theorem st_ends {l : List Pl} (hl : OkB l) {first many k : Nat} (hf : first ≤ 1) (hk : 1 ≤ k) (hk2 : k < many) (hc : canH l first many = true) :
    (stA l first many k ∈ (goodL l first many).map (paAt · (k - 1)) ∧ stZ l first many k ∈ (goodL l first many).map (paAt · (k - 1))) ∧ ∀ x ∈ (goodL l first many).map (paAt · (k - 1)), stA l first many k ≤ x ∧ x ≤ stZ l first many k := by
  have ne := strP_ne hl hf hk hk2 hc
  have so := strP_sorted l first many k
  have hd := sorted_head so ne
  have ls := sorted_last so ne
  have tr : ∀ p, p ∈ strP l first many k ↔ p ∈ (goodL l first many).map (paAt · (k - 1)) := fun p => by
    rw [strP_mem hl hf hk hk2, List.mem_map]
    constructor
    · rintro ⟨ps, h1, h2⟩
      exact ⟨ps, h1, by simp [paAt, h2]⟩
    · rintro ⟨ps, h1, h2⟩
      have m := (allP_mem ((goodL_mem hl hf).mp h1).1).1
      refine ⟨ps, h1, ?_⟩
      rw [← h2]
      simp [paAt, show k - 1 < ps.length by omega]
  refine ⟨⟨(tr _).mp hd.1, (tr _).mp ls.1⟩, fun x hx => ⟨hd.2 x ((tr x).mpr hx), ls.2 x ((tr x).mpr hx)⟩⟩

end PF

namespace PF
open PySem

/-- how many pieces words need -/
def ned : Nat → List Nat → Nat
  | _, [] => 1
  | w, x :: xs => if x = w then ned w xs else 1 + ned x xs
theorem ned_flip {w : Nat} (hw : w ≤ 1) : ∀ {B : List Nat}, (∀ x ∈ B, x ≤ 1) → ned w B ≤ 1 + ned (1 - w) B
  | [], _ => by simp [ned]
  | x :: xs, h => by
    have hx := h x List.mem_cons_self
    unfold ned
    by_cases e : x = w
    · rw [if_pos e, if_neg (by omega), e]
      omega
    · rw [if_neg e, if_pos (by omega), show x = 1 - w by omega]
      omega
theorem ned_app {w : Nat} : ∀ {A B : List Nat}, (∀ x ∈ A, x = w) → ned w (A ++ B) = ned w B
  | [], _, _ => rfl
  | x :: A, B, h => by
    rw [List.cons_append, ned, if_pos (h x List.mem_cons_self), ned_app fun y hy => h y (List.mem_cons_of_mem _ hy)]
def seg (v : Nat → Nat) (a b : Nat) : List Nat := (List.range' a (b - a)).map v
theorem seg_cg {v v' : Nat → Nat} {a b : Nat} (h : ∀ s, a ≤ s → s < b → v s = v' s) : seg v a b = seg v' a b := by
  unfold seg
  exact List.map_congr_left fun s hs => by
    rw [List.mem_range'_1] at hs
    exact h s hs.1 (by omega)
theorem seg_split {v : Nat → Nat} {a p b : Nat} (h1 : a ≤ p) (h2 : p ≤ b) : seg v a b = seg v a p ++ seg v p b := by
  unfold seg
  rw [← List.map_append, show b - a = (p - a) + (b - p) by omega, ← List.range'_append_1]
  rw [show a + (p - a) = p by omega]
theorem ned_const {v : Nat → Nat} {w a b : Nat} (h : ∀ s, a ≤ s → s < b → v s = w) : ned w (seg v a b) = 1 := by
  have := ned_app (w := w) (A := seg v a b) (B := []) fun x hx => by
    unfold seg at hx
    obtain ⟨s, hs, rfl⟩ := List.mem_map.mp hx
    rw [List.mem_range'_1] at hs
    exact h s hs.1 (by omega)
  rw [List.append_nil] at this
  rw [this]
  rfl
theorem ned_places {size hi : Nat} : ∀ {ps : List Nat} {w lo : Nat}, w ≤ 1 → ascN size lo ps = true → (∀ p ∈ ps, p ≤ hi) → lo ≤ hi → ned w (seg (wordAt w ps) lo hi) ≤ ps.length + 1
  | [], w, lo, hw, _, _, _ => by
    rw [ned_const (w := w) fun s _ _ => by unfold wordAt ahead; simp; omega]
    simp
  | p :: ps, w, lo, hw, ha, hb, hl => by
    simp only [ascN, Bool.and_eq_true, decide_eq_true_eq] at ha
    have hpb := hb p List.mem_cons_self
    have w1 : ∀ s, lo ≤ s → s < p → wordAt w (p :: ps) s = w := fun s _ hs => by
      unfold wordAt
      rw [ahead_c, if_neg (by omega), ahead_0 hs ha.2]
      omega
    have w2 : ∀ s, p ≤ s → s < hi → wordAt w (p :: ps) s = wordAt (1 - w) ps s := fun s hs _ => by
      unfold wordAt
      rw [ahead_c, if_pos hs]
      omega
    rw [seg_split ha.1.1 hpb, ned_app fun x hx => by
      unfold seg at hx
      obtain ⟨s, hs, rfl⟩ := List.mem_map.mp hx
      rw [List.mem_range'_1] at hs
      exact w1 s hs.1 (by omega), seg_cg w2]
    have f := ned_flip (w := w) hw (B := seg (wordAt (1 - w) ps) p hi) fun x hx => by
      unfold seg at hx
      obtain ⟨s, _, rfl⟩ := List.mem_map.mp hx
      unfold wordAt
      omega
    have := ned_places (w := 1 - w) (by omega) ha.2 (fun q hq => hb q (List.mem_cons_of_mem _ hq)) hpb
    rw [List.length_cons]
    omega
theorem places_ned {v : Nat → Nat} (hv : ∀ s, v s ≤ 1) {hi : Nat} : ∀ (m : Nat) {w lo c : Nat}, lo + m = hi → w ≤ 1 → ned w (seg v lo hi) ≤ c + 1 → ∃ ps, ascN (hi + 1) lo ps = true ∧ ps.length = c ∧ ∀ s, lo ≤ s → s < hi → wordAt w ps s = v s
  | 0, w, lo, c, h, hw, _ => ⟨List.replicate c hi, by
      have := asc_rep (n := hi + 1) (by omega) c lo (by omega)
      simpa using this, by simp, fun s s1 s2 => by omega⟩
  | m + 1, w, lo, c, h, hw, hn => by
    have e : seg v lo hi = v lo :: seg v (lo + 1) hi := by
      rw [seg_split (show lo ≤ lo + 1 by omega) (show lo + 1 ≤ hi by omega)]
      unfold seg
      rw [show lo + 1 - lo = 1 by omega]
      rfl
    rw [e, ned] at hn
    have hvl := hv lo
    by_cases ew : v lo = w
    · rw [if_pos ew] at hn
      obtain ⟨ps, p1, p2, p3⟩ := places_ned hv m (w := w) (lo := lo + 1) (c := c) (by omega) hw hn
      refine ⟨ps, ascN_mono (by omega) p1, p2, fun s s1 s2 => ?_⟩
      by_cases hs : s = lo
      · subst hs
        unfold wordAt
        rw [ahead_0 (show s < s + 1 by omega) p1, ew]
        omega
      · exact p3 s (by omega) s2
    · rw [if_neg ew] at hn
      have e1 : v lo = 1 - w := by omega
      rw [e1] at hn
      have n1 : 1 ≤ ned (1 - w) (seg v (lo + 1) hi) := by
        have go : ∀ (l : List Nat) (w : Nat), 1 ≤ ned w l := by
          intro l
          induction l with
          | nil => intro w; simp [ned]
          | cons x l ih => intro w; unfold ned; split; exact ih w; omega
        exact go _ _
      obtain ⟨c', rfl⟩ : ∃ c', c = c' + 1 := ⟨c - 1, by omega⟩
      obtain ⟨ps, p1, p2, p3⟩ := places_ned hv (hi := hi) m (w := 1 - w) (lo := lo + 1) (c := c') (by omega) (by omega) (by omega)
      refine ⟨lo :: ps, ?_, by simp [p2], fun s s1 s2 => ?_⟩
      · simp only [ascN, Bool.and_eq_true, decide_eq_true_eq]
        exact ⟨⟨Nat.le_refl _, by omega⟩, ascN_mono (by omega) p1⟩
      · have e2 : wordAt w (lo :: ps) s = wordAt (1 - w) ps s := by
          unfold wordAt
          rw [ahead_c, if_pos s1]
          omega
        rw [e2]
        by_cases hs : s = lo
        · subst hs
          unfold wordAt
          rw [ahead_0 (show s < s + 1 by omega) p1, e1]
          omega
        · exact p3 s (by omega) s2
/-- steps with these words let turn k be at a and the next one at b -/
def splB (ws : List Nat) (first many k a b : Nat) : Bool := decide (ned first (ws.take a) ≤ k) && decide (ned ((first + k) % 2) ((ws.drop a).take (b - a)) ≤ 1) && decide (ned ((first + k + 1) % 2) (ws.drop b) ≤ many - k - 1)
theorem seg_va (ws : List Nat) : ws = seg (va ws) 0 ws.length := by
  unfold seg
  apply List.ext_getElem
  · simp
  · intro i h1 h2
    simp [va, h1]
theorem take_seg {v : Nat → Nat} {a n : Nat} (h : a ≤ n) : (seg v 0 n).take a = seg v 0 a := by
  rw [seg_split (Nat.zero_le a) h, List.take_append_of_le_length (by simp [seg]), List.take_of_length_le (by simp [seg])]
theorem drop_seg {v : Nat → Nat} {a n : Nat} (h : a ≤ n) : (seg v 0 n).drop a = seg v a n := by
  rw [seg_split (Nat.zero_le a) h, List.drop_append_of_le_length (by simp [seg]), List.drop_of_length_le (by simp [seg]), List.nil_append]
theorem mid_seg {v : Nat → Nat} {a b n : Nat} (h : a ≤ b) (h2 : b ≤ n) : (seg v a n).take (b - a) = seg v a b := by
  rw [seg_split h h2, List.take_append_of_le_length (by simp [seg]), List.take_of_length_le (by simp [seg])]
theorem splB_seg {ws : List Nat} {first many k a b : Nat} (h1 : a ≤ b) (h2 : b ≤ ws.length) : splB ws first many k a b = (decide (ned first (seg (va ws) 0 a) ≤ k) && decide (ned ((first + k) % 2) (seg (va ws) a b) ≤ 1) && decide (ned ((first + k + 1) % 2) (seg (va ws) b ws.length) ≤ many - k - 1)) := by
  unfold splB
  have e1 : ws.take a = seg (va ws) 0 a := by
    have := congrArg (List.take a) (seg_va ws)
    rw [take_seg (by omega)] at this
    exact this
  have e2 : ∀ x, x ≤ ws.length → ws.drop x = seg (va ws) x ws.length := fun x hx => by
    have := congrArg (List.drop x) (seg_va ws)
    rw [drop_seg hx] at this
    exact this
  rw [e1, e2 a (by omega), e2 b h2, mid_seg h1 h2]
theorem ned_one {v : Nat → Nat} (hv : ∀ s, v s ≤ 1) {w : Nat} (hw : w ≤ 1) {a b : Nat} (h : ned w (seg v a b) ≤ 1) : ∀ s, a ≤ s → s < b → v s = w := fun s s1 s2 => by
  obtain ⟨ps, p1, p2, p3⟩ := places_ned hv (b - a) (w := w) (lo := a) (c := 0) (hi := b) (by omega) hw h
  have : ps = [] := List.length_eq_zero_iff.mp p2
  subst this
  rw [← p3 s s1 s2]
  unfold wordAt ahead
  simp
  omega
/-- words that let turns be so: good places -/
theorem good_of_words {S : Nat → Nat → Nat → Bool} {n first many k a b : Nat} (hf : first ≤ 1) {ws : List Nat} (hl : ws.length + 1 = n) (h1 : ∀ x ∈ ws, x ≤ 1) (ok : okUp S (va ws) 0 (n - 1)) (hk : 1 ≤ k) (hk2 : k + 1 < many) (hab : a ≤ b) (hb : b < n) (h : splB ws first many k a b = true) :
    ∃ ps, GoodP S n first ps ∧ ps.length = many - 1 ∧ paAt ps (k - 1) = a ∧ paAt ps k = b := by
  rw [splB_seg hab (by omega), Bool.and_eq_true, Bool.and_eq_true, decide_eq_true_eq, decide_eq_true_eq, decide_eq_true_eq] at h
  obtain ⟨⟨n1, n2⟩, n3⟩ := h
  have hv := va_le h1
  obtain ⟨P1, a1, l1, v1⟩ := places_ned hv a (w := first) (lo := 0) (c := k - 1) (hi := a) (by omega) hf (by omega)
  have mid := ned_one hv (show (first + k) % 2 ≤ 1 by omega) n2
  obtain ⟨P2, a2, l2, v2⟩ := places_ned hv (ws.length - b) (w := (first + k + 1) % 2) (lo := b) (c := many - k - 2) (hi := ws.length) (by omega) (by omega) (by omega)
  have m1 : ∀ q ∈ P1, q ≤ a := fun q hq => by have := ascN_lt a1 q hq; omega
  have m2 : ∀ q ∈ P2, b ≤ q := fun q hq => (ascN_lt a2 q hq).1
  have asc : ascN n 0 (P1 ++ a :: b :: P2) = true := by
    refine ascN_ge (ascN_size (by omega) a1) (fun x hx q hq => ?_) (fun q _ => Nat.zero_le q) ?_
    · have := m1 x hx
      rcases List.mem_cons.mp hq with rfl | hq
      · exact this
      · rcases List.mem_cons.mp hq with rfl | hq
        · omega
        · have := m2 q hq; omega
    · simp only [ascN, Bool.and_eq_true, decide_eq_true_eq]
      rw [show ws.length + 1 = n by omega] at a2
      exact ⟨⟨Nat.zero_le _, by omega⟩, ⟨hab, hb⟩, a2⟩
  have z2 : ∀ s, s < b → ahead P2 s = 0 := fun s hs => by
    unfold ahead
    rw [List.length_eq_zero_iff, List.filter_eq_nil_iff]
    intro y hy
    have := m2 y hy
    simp
    omega
  have wv : ∀ s, s < n - 1 → wordAt first (P1 ++ a :: b :: P2) s = va ws s := fun s hs => by
    by_cases h1 : s < a
    · rw [← v1 s (Nat.zero_le _) h1]
      unfold wordAt
      rw [ahead_app, ahead_c, if_neg (by omega), ahead_c, if_neg (by omega), z2 s (by omega)]
      simp
    · have f1 := ahead_all (ps := P1) (i := s) fun q hq => by have := m1 q hq; omega
      by_cases h2 : s < b
      · rw [mid s (by omega) h2]
        unfold wordAt
        rw [ahead_app, f1, ahead_c, if_pos (by omega), ahead_c, if_neg (by omega), z2 s h2, l1]
        omega
      · rw [← v2 s (by omega) (by omega)]
        unfold wordAt
        rw [ahead_app, f1, ahead_c, if_pos (by omega), ahead_c, if_pos (by omega), l1]
        omega
  refine ⟨P1 ++ a :: b :: P2, ⟨asc, fun w i j i1 i2 i3 hc => ok w i j i1 i2 i3 fun s s1 s2 => ?_⟩, by simp [l1, l2]; omega, ?_, ?_⟩
  · rw [← wv s (by omega)]
    exact hc s s1 s2
  · unfold paAt
    rw [List.getElem?_append_right (by omega), l1, Nat.sub_self]
    rfl
  · unfold paAt
    rw [List.getElem?_append_right (by omega), l1, show k - (k - 1) = 1 by omega]
    rfl
/-- good places: words that let turns be so -/
theorem words_of_good {S : Nat → Nat → Nat → Bool} {n first many k : Nat} (hn : 1 ≤ n) (hf : first ≤ 1) {ps : List Nat} (hg : GoodP S n first ps) (hl : ps.length = many - 1) (hk : 1 ≤ k) (hk2 : k + 1 < many) :
    ∃ ws : List Nat, ws.length + 1 = n ∧ (∀ x ∈ ws, x ≤ 1) ∧ okUp S (va ws) 0 (n - 1) ∧ ned first ws ≤ many ∧ paAt ps (k - 1) ≤ paAt ps k ∧ paAt ps k < n ∧ splB ws first many k (paAt ps (k - 1)) (paAt ps k) = true := by
  obtain ⟨asc, ok⟩ := hg
  have h0 : k - 1 < ps.length := by omega
  have h1 : k < ps.length := by omega
  have e : ps = ps.take (k - 1) ++ paAt ps (k - 1) :: paAt ps k :: ps.drop (k + 1) := by
    have := (List.take_append_drop (k - 1) ps).symm
    rw [List.drop_eq_getElem_cons h0, show k - 1 + 1 = k by omega, List.drop_eq_getElem_cons h1] at this
    simp only [paAt, List.getElem?_eq_getElem h0, List.getElem?_eq_getElem h1, Option.getD_some]
    exact this
  have l1 : (ps.take (k - 1)).length = k - 1 := by rw [List.length_take]; omega
  have l2 : (ps.drop (k + 1)).length = many - k - 2 := by rw [List.length_drop, hl]; omega
  generalize paAt ps (k - 1) = a at *
  generalize paAt ps k = b at *
  generalize ps.take (k - 1) = P1 at *
  generalize ps.drop (k + 1) = P2 at *
  subst e
  have lt := ascN_lt asc
  have ha : a < n := (lt a (by simp)).2
  have hb : b < n := (lt b (by simp)).2
  have parts : ∀ {P1 : List Nat} {lo : Nat}, ascN n lo (P1 ++ a :: b :: P2) = true → ascN n lo P1 = true ∧ (∀ p ∈ P1, p ≤ a) ∧ a ≤ b ∧ ascN n b P2 = true := by
    intro P1
    induction P1 with
    | nil =>
      intro lo h
      simp only [List.nil_append, ascN, Bool.and_eq_true, decide_eq_true_eq] at h
      exact ⟨rfl, (fun p hp => by cases hp), h.2.1.1, h.2.2⟩
    | cons p P1 ih =>
      intro lo h
      simp only [List.cons_append, ascN, Bool.and_eq_true, decide_eq_true_eq] at h
      obtain ⟨q1, q2, q3, q4⟩ := ih h.2
      refine ⟨by simp only [ascN, Bool.and_eq_true, decide_eq_true_eq]; exact ⟨h.1, q1⟩, fun x hx => ?_, q3, q4⟩
      rcases List.mem_cons.mp hx with rfl | hx
      · exact (ascN_lt h.2 a (by simp)).1
      · exact q2 x hx
  obtain ⟨a1, m1, hab, a2⟩ := parts asc
  have m2 : ∀ q ∈ P2, b ≤ q := fun q hq => (ascN_lt a2 q hq).1
  have z2 : ∀ s, s < b → ahead P2 s = 0 := fun s hs => ahead_0 hs a2
  refine ⟨seg (wordAt first (P1 ++ a :: b :: P2)) 0 (n - 1), by simp [seg]; omega, fun x hx => ?_, ?_, ?_, hab, hb, ?_⟩
  · unfold seg at hx
    obtain ⟨s, _, rfl⟩ := List.mem_map.mp hx
    unfold wordAt
    omega
  · intro w i j i1 i2 i3 hc
    refine ok w i j i1 i2 i3 fun s s1 s2 => ?_
    rw [← hc s s1 s2]
    unfold va seg
    simp [show s < n - 1 by omega]
  · have := ned_places (size := n) (hi := n - 1) hf asc (fun p hp => by have := lt p hp; omega) (Nat.zero_le _)
    rw [hl] at this
    omega
  · unfold splB
    rw [take_seg (by omega), drop_seg (by omega), drop_seg (by omega), mid_seg hab (by omega), Bool.and_eq_true, Bool.and_eq_true, decide_eq_true_eq, decide_eq_true_eq, decide_eq_true_eq]
    refine ⟨⟨?_, ?_⟩, ?_⟩
    · rw [seg_cg (v' := wordAt first P1) fun s s1 s2 => by
        unfold wordAt
        rw [ahead_app, ahead_c, if_neg (by omega), ahead_c, if_neg (by omega), z2 s (by omega)]
        simp]
      have := ned_places (size := n) (hi := a) hf a1 m1 (Nat.zero_le _)
      omega
    · rw [ned_const fun s s1 s2 => by
        unfold wordAt
        rw [ahead_app, ahead_all (fun q hq => by have := m1 q hq; omega), ahead_c, if_pos (by omega), ahead_c, if_neg (by omega), z2 s s2, l1]
        omega]
      exact Nat.le_refl _
    · rw [seg_cg (v' := wordAt ((first + k + 1) % 2) P2) fun s s1 s2 => by
        unfold wordAt
        rw [ahead_app, ahead_all (fun q hq => by have := m1 q hq; omega), ahead_c, if_pos (by omega), ahead_c, if_pos (by omega), l1]
        omega]
      have := ned_places (size := n) (hi := n - 1) (show (first + k + 1) % 2 ≤ 1 by omega) a2 (fun p hp => by have := ascN_lt a2 p hp; omega) (by omega)
      rw [l2] at this
      omega
end PF

namespace PF
open PySem

theorem ned_pre : ∀ (xs : List Nat) (w many : Nat), xs.foldl (fun (s : Nat × Nat) x => if x = s.2 then s else (s.1 + 1, x)) (many, w) = ((many + ned w xs - 1), (xs.getLast?).getD w)
  | [], w, many => by simp [ned]
  | x :: xs, w, many => by
    have pos : ∀ (l : List Nat) (w : Nat), 1 ≤ ned w l := by
      intro l
      induction l with
      | nil => intro w; simp [ned]
      | cons x l ih => intro w; unfold ned; split; exact ih w; omega
    have gl : ((x :: xs).getLast?).getD w = (xs.getLast?).getD x := getLast_cons x w xs
    rw [List.foldl_cons, gl]
    unfold ned
    by_cases e : x = w
    · subst e
      rw [if_pos rfl, if_pos rfl, ned_pre xs x many]
    · rw [if_neg e, if_neg e, ned_pre xs x (many + 1)]
      have := pos xs x
      congr 1
      omega

def allV : Nat → List (List Nat)
  | 0 => [[]]
  | k + 1 => (allV k).flatMap fun ws => [ws ++ [0], ws ++ [1]]
theorem allV_len : ∀ k, (allV k).length = 2 ^ k
  | 0 => rfl
  | k + 1 => by
    have := allV_len k
    unfold allV
    have go : ∀ L : List (List Nat), (L.flatMap fun ws => [ws ++ [0], ws ++ [1]]).length = 2 * L.length := by
      intro L
      induction L with
      | nil => rfl
      | cons a L ih => rw [List.flatMap_cons, List.length_append, ih]; simp; omega
    rw [go, this, Nat.pow_succ]
    omega
theorem allV_mem : ∀ {k : Nat} {ws : List Nat}, ws ∈ allV k ↔ ws.length = k ∧ ∀ x ∈ ws, x ≤ 1
  | 0, ws => by
    unfold allV
    rw [List.mem_singleton]
    constructor
    · rintro rfl; simp
    · rintro ⟨h, _⟩; exact List.length_eq_zero_iff.mp h
  | k + 1, ws => by
    unfold allV
    rw [List.mem_flatMap]
    constructor
    · rintro ⟨vs, h1, h2⟩
      obtain ⟨l, m⟩ := allV_mem.mp h1
      simp only [List.mem_cons, List.not_mem_nil, or_false] at h2
      rcases h2 with rfl | rfl
      · refine ⟨by simp [l], fun x hx => ?_⟩
        rcases List.mem_append.mp hx with hx | hx
        · exact m x hx
        · rw [List.mem_singleton.mp hx]; omega
      · refine ⟨by simp [l], fun x hx => ?_⟩
        rcases List.mem_append.mp hx with hx | hx
        · exact m x hx
        · rw [List.mem_singleton.mp hx]; omega
    · rintro ⟨l, m⟩
      rcases List.eq_nil_or_concat ws with h | ⟨vs, x, h⟩
      · rw [h] at l; simp at l
      · rw [List.concat_eq_append] at h
        subst h
        have hx := m x (by simp)
        refine ⟨vs, allV_mem.mpr ⟨by simpa using l, fun y hy => m y (by simp [hy])⟩, ?_⟩
        have : x = 0 ∨ x = 1 := by omega
        rcases this with rfl | rfl <;> simp

theorem cut_to {ws : List Nat} {a : Nat} : slcR (plc ws) none (some (a : Nat)) = .ok (plc (ws.take a)) := by
  unfold plc
  rw [sl_tup]
  have e : six ws.length ws.length (some (a : Nat)) = min a ws.length := by
    have e : six ws.length ws.length (some (a : Nat)) = if ((a : Nat) : Int) < 0 then (((a : Nat) : Int) + ws.length).toNat else min ((a : Nat) : Int).toNat ws.length := rfl
    rw [e, if_neg (by omega)]
    omega
  have e0 : six ws.length 0 none = 0 := rfl
  unfold cutL
  rw [List.length_map, e0, e, List.drop_zero, ← List.map_take]
  congr 3
  rw [List.take_eq_take_iff]
  omega
theorem cut_on {ws : List Nat} {a : Nat} (h : a ≤ ws.length) : slcR (plc ws) (some (a : Nat)) none = .ok (plc (ws.drop a)) := by
  unfold plc
  rw [sl_tup]
  have e : six ws.length 0 (some (a : Nat)) = a := by
    have e : six ws.length 0 (some (a : Nat)) = if ((a : Nat) : Int) < 0 then (((a : Nat) : Int) + ws.length).toNat else min ((a : Nat) : Int).toNat ws.length := rfl
    rw [e, if_neg (by omega)]
    omega
  have e0 : six ws.length ws.length none = ws.length := rfl
  unfold cutL
  rw [List.length_map, e0, e, ← List.map_drop, ← List.map_take]
  congr 3
  rw [List.take_of_length_le (by simp)]
theorem cut_mid {ws : List Nat} {a b : Nat} (h : a ≤ ws.length) : slcR (plc ws) (some (a : Nat)) (some (b : Nat)) = .ok (plc ((ws.drop a).take (b - a))) := by
  unfold plc
  rw [sl_tup, cut_nat nm b h]

/-- words that the program goes by -/
def vwB (l : List Pl) (first many : Nat) (ws : List Nat) : Bool := decide (ned first ws ≤ many) && wiB (nwL l ws) (rowA l ws)
def mnF (m x : Nat) : Nat := if x < m then x else m
theorem mnF_all : ∀ (L : List Nat) (m : Nat), (L.foldl mnF m = m ∨ L.foldl mnF m ∈ L) ∧ (∀ x ∈ L, L.foldl mnF m ≤ x) ∧ L.foldl mnF m ≤ m
  | [], m => ⟨.inl rfl, (fun x hx => by cases hx), Nat.le_refl _⟩
  | x :: L, m => by
    obtain ⟨h1, h2, h3⟩ := mnF_all L (mnF m x)
    rw [List.foldl_cons]
    have e : mnF m x ≤ m ∧ mnF m x ≤ x ∧ (mnF m x = m ∨ mnF m x = x) := by
      unfold mnF
      split <;> omega
    refine ⟨?_, fun y hy => ?_, by omega⟩
    · rcases h1 with h1 | h1
      · rw [h1]
        rcases e.2.2 with q | q
        · exact .inl q
        · exact .inr (by rw [q]; exact List.mem_cons_self)
      · exact .inr (List.mem_cons_of_mem _ h1)
    · rcases List.mem_cons.mp hy with rfl | hy
      · omega
      · exact h2 y hy
def dfA (first many k : Nat) (ws : List Nat) (a b : Nat) : List Nat := if splB ws first many k a b = true then [b - a] else []
def dfB (n first many k : Nat) (ws : List Nat) (a : Nat) : List Nat := (List.range' a (n - a)).flatMap (dfA first many k ws a)
def dfC (n first many k : Nat) (ws : List Nat) : List Nat := (List.range n).flatMap (dfB n first many k ws)
def dfD (l : List Pl) (first many k : Nat) (ws : List Nat) : List Nat := if vwB l first many ws = true then dfC l.length first many k ws else []
/-- the least number of places that the next turn is behind -/
def apL (l : List Pl) (first many k : Nat) : Nat := ((allV (l.length - 1)).flatMap (dfD l first many k)).foldl mnF l.length

theorem mem_dfD {l : List Pl} {first many k x : Nat} : x ∈ (allV (l.length - 1)).flatMap (dfD l first many k) ↔ ∃ ws ∈ allV (l.length - 1), vwB l first many ws = true ∧ ∃ a b, a ≤ b ∧ b < l.length ∧ splB ws first many k a b = true ∧ x = b - a := by
  rw [List.mem_flatMap]
  constructor
  · rintro ⟨ws, h1, h2⟩
    unfold dfD at h2
    split at h2
    · rename_i hv
      unfold dfC at h2
      rw [List.mem_flatMap] at h2
      obtain ⟨a, h3, h4⟩ := h2
      unfold dfB at h4
      rw [List.mem_flatMap] at h4
      obtain ⟨b, h5, h6⟩ := h4
      rw [List.mem_range'_1] at h5
      rw [List.mem_range] at h3
      unfold dfA at h6
      split at h6
      · rename_i hs
        rw [List.mem_singleton] at h6
        exact ⟨ws, h1, hv, a, b, h5.1, by omega, hs, h6⟩
      · cases h6
    · cases h2
  · rintro ⟨ws, h1, hv, a, b, h2, h3, h4, rfl⟩
    refine ⟨ws, h1, ?_⟩
    unfold dfD
    rw [if_pos hv]
    unfold dfC
    rw [List.mem_flatMap]
    refine ⟨a, by rw [List.mem_range]; omega, ?_⟩
    unfold dfB
    rw [List.mem_flatMap]
    refine ⟨b, by rw [List.mem_range'_1]; omega, ?_⟩
    unfold dfA
    rw [if_pos h4]
    exact List.mem_singleton.mpr rfl
/-- by the good places -/
theorem apL_good {l : List Pl} (hl : OkB l) {first many k : Nat} (hf : first ≤ 1) (hk : 1 ≤ k) (hk2 : k + 1 < many) (hc : canH l first many = true) :
    apL l first many k ∈ (goodL l first many).map (fun ps => paAt ps k - paAt ps (k - 1)) ∧ ∀ x ∈ (goodL l first many).map (fun ps => paAt ps k - paAt ps (k - 1)), apL l first many k ≤ x := by
  have tr : ∀ x, x ∈ (allV (l.length - 1)).flatMap (dfD l first many k) ↔ x ∈ (goodL l first many).map (fun ps => paAt ps k - paAt ps (k - 1)) := fun x => by
    rw [mem_dfD, List.mem_map]
    have hlp := hl.pos
    constructor
    · rintro ⟨ws, h1, hv, a, b, h2, h3, h4, rfl⟩
      obtain ⟨wl, w1⟩ := allV_mem.mp h1
      unfold vwB at hv
      rw [Bool.and_eq_true, rowA_iff hl (by omega) w1] at hv
      obtain ⟨ps, g1, g2, g3, g4⟩ := good_of_words hf (show ws.length + 1 = l.length by omega) w1 hv.2 hk hk2 h2 h3 h4
      exact ⟨ps, (goodL_mem hl hf).mpr ⟨allP_of g1.1 g2, g1⟩, by rw [g3, g4]⟩
    · rintro ⟨ps, h1, rfl⟩
      obtain ⟨m1, m2⟩ := (goodL_mem hl hf).mp h1
      obtain ⟨ws, w1, w2, w3, w4, w5, w6, w7⟩ := words_of_good hlp hf m2 (allP_mem m1).1 hk hk2
      refine ⟨ws, allV_mem.mpr ⟨by omega, w2⟩, ?_, _, _, w5, w6, w7, rfl⟩
      unfold vwB
      rw [Bool.and_eq_true, decide_eq_true_eq, rowA_iff hl w1 w2]
      exact ⟨w4, w3⟩
  obtain ⟨h1, h2, h3⟩ := mnF_all ((allV (l.length - 1)).flatMap (dfD l first many k)) l.length
  have ne := (good_iff hl hf (show 1 ≤ many by omega)).mpr hc
  have some : ∃ x, x ∈ (allV (l.length - 1)).flatMap (dfD l first many k) ∧ x < l.length := by
    cases hg : goodL l first many with
    | nil => exact absurd hg ne
    | cons ps rest =>
      have hm : ps ∈ goodL l first many := by rw [hg]; exact List.mem_cons_self
      obtain ⟨m1, m2⟩ := (goodL_mem hl hf).mp hm
      obtain ⟨p1, p2⟩ := allP_mem m1
      refine ⟨paAt ps k - paAt ps (k - 1), (tr _).mpr (List.mem_map.mpr ⟨ps, hm, rfl⟩), ?_⟩
      have : paAt ps k < l.length := by
        unfold paAt
        rw [List.getElem?_eq_getElem (show k < ps.length by omega)]
        exact p2 _ (List.getElem_mem _)
      omega
  obtain ⟨x, x1, x2⟩ := some
  have := h2 x x1
  refine ⟨?_, fun y hy => h2 y ((tr y).mpr hy)⟩
  rcases h1 with h1 | h1
  · omega
  · exact (tr _).mp h1
end PF

namespace PF
open PySem

theorem eq_good (L : List (List Nat)) : eqR (.lst (L.map plc)) (.lst []) = .ok L.isEmpty := eq_lst0
theorem good_emp {l : List Pl} (hl : OkB l) {first many : Nat} (hf : first ≤ 1) (h1 : 1 ≤ many) : (goodL l first many).isEmpty = !(canH l first many) := by
  have := good_iff hl hf h1
  cases hc : canH l first many with
  | true =>
    have := this.mpr hc
    cases hg : goodL l first many with
    | nil => exact absurd hg this
    | cons a b => rfl
  | false =>
    cases hg : goodL l first many with
    | nil => rfl
    | cons a b =>
      have := this.mp (by rw [hg]; simp)
      rw [hc] at this
      cases this
theorem pow6 {n c : Nat} (h : n ≤ 6) (hc : c ≤ 7) : n ^ c ≤ 800000 := Nat.le_trans (Nat.pow_le_pow_left h _) (Nat.le_trans (Nat.pow_le_pow_right (by decide) hc) (by decide))

theorem st_mono {l : List Pl} (hl : OkB l) {first many k : Nat} (hf : first ≤ 1) (hk : 1 ≤ k) (hk2 : k + 1 < many) (hc : canH l first many = true) : stA l first many k ≤ stA l first many (k + 1) ∧ stZ l first many k ≤ stZ l first many (k + 1) := by
  obtain ⟨⟨a1, z1⟩, e1⟩ := st_ends hl hf hk (show k < many by omega) hc
  obtain ⟨⟨a2, z2⟩, e2⟩ := st_ends hl hf (show 1 ≤ k + 1 by omega) hk2 hc
  have up : ∀ ps ∈ goodL l first many, paAt ps (k - 1) ≤ paAt ps k := fun ps hps => by
    obtain ⟨m1, m2⟩ := (goodL_mem hl hf).mp hps
    obtain ⟨ws, w1, w2, w3, w4, w5, w6, w7⟩ := words_of_good hl.pos hf m2 (allP_mem m1).1 hk hk2
    exact w5
  rw [List.mem_map] at a2 z1
  obtain ⟨p2, q2, r2⟩ := a2
  obtain ⟨p1, q1, r1⟩ := z1
  have u1 := up p2 q2
  have u2 := up p1 q1
  have x1 := (e1 _ (List.mem_map.mpr ⟨p2, q2, rfl⟩)).1
  have x2 := (e2 _ (List.mem_map.mpr ⟨p1, q1, rfl⟩)).2
  rw [show k + 1 - 1 = k by omega] at r2 x2
  omega
theorem pa_up {l : List Pl} (hl : OkB l) {first many k : Nat} (hf : first ≤ 1) (hk : 1 ≤ k) (hk2 : k + 1 < many) : ∀ ps ∈ goodL l first many, paAt ps (k - 1) ≤ paAt ps k := fun ps hps => by
  obtain ⟨m1, m2⟩ := (goodL_mem hl hf).mp hps
  obtain ⟨ws, w1, w2, w3, w4, w5, w6, w7⟩ := words_of_good hl.pos hf m2 (allP_mem m1).1 hk hk2
  exact w5

/-- the law's numbers and bounds -/
theorem drawn (ns : List Int) (k : Nat) (h10 : 10 ≤ k) (hk : k ≤ 100) : ∃ (vs : List Int) (l : List Pl), vs.length = k ∧ OkB l ∧ 3 ≤ l.length ∧ l.length ≤ 6 ∧ (∀ x ∈ l, OkP 80 x) ∧ callF KT 59 37 [.fz (ns.map .int), .int 0, .int (k : Nat)] = .ok (.lst (vs.map .int)) ∧ callF KT 59 41 [.lst (vs.map .int)] = .ok (bd l) := by
  obtain ⟨vs, hv, _, N⟩ := numbers_spec (n := 58) f37 ns 0 k (by omega)
  obtain ⟨l, h80, l3, l6, B⟩ := lbounds_spec (n := 56) f32 f33 f41 (vs := vs) (by omega) (by omega)
  exact ⟨vs, l, hv, ⟨fun x hx => (h80 x hx).mono (by decide), by omega, by omega⟩, l3, l6, h80, N, B⟩
end PF

namespace PF
open PySem

def prS (b : Bool) (p : Nat × Nat) : D := seqD b [nm p.1, nm p.2]
def chS (b : Bool) (c : List (Nat × Nat)) : D := seqD b (c.map (prS b))
theorem prS_t (p : Nat × Nat) : prS true p = prD p := rfl
theorem chS_t (c : List (Nat × Nat)) : chS true c = chV c := rfl
def caAt (c : List (Nat × Nat)) (k : Nat) : Nat × Nat := (c[k]?).getD (0, 0)
def loAt (c : List (Nat × Nat)) (k : Nat) : Nat := if k = 0 then 0 else (caAt c (k - 1)).2 - 1
/-- member k of a chain is as it should be -/
def okC (l : List Pl) (first : Nat) (c : List (Nat × Nat)) (k : Nat) : Bool := decide ((caAt c k).1 < l.length) && decide ((caAt c k).2 < l.length) && decide (loAt c k ≤ (caAt c k).1) && sur l ((first + k) % 2) (caAt c k).1 (caAt c k).2
def chB (l : List Pl) (first : Nat) (c : List (Nat × Nat)) : Bool := !c.isEmpty && (List.range c.length).all (okC l first c)
theorem caAt_pre {pre post : List (Nat × Nat)} {p : Nat × Nat} : caAt (pre ++ p :: post) pre.length = p := by simp [caAt]
theorem loAt_pre {pre post : List (Nat × Nat)} {p : Nat × Nat} : loAt (pre ++ p :: post) pre.length = (match pre.getLast? with | some q => q.2 - 1 | none => 0) := by
  unfold loAt
  rcases List.eq_nil_or_concat pre with h | ⟨pre', q, h⟩
  · subst h; rfl
  · rw [List.concat_eq_append] at h
    subst h
    rw [if_neg (by simp)]
    simp [caAt]

theorem s100 {n : Nat} (b : Bool) (p : Nat × Nat) (m : Nat) (hm : 1 ≤ m) : callF KT (n + 3) 100 [prS b p, nm m] = .ok (if p.1 < m ∧ p.2 < m then prD p else .non) := by
  refine fn_wp f100 (by simp) ?_
  have e1 : callF KT (n + 2) 2 [prS b p] = .ok (.bl true) := is_seq_spec (n := n + 1) f2 b _
  have l2 : bltR .len [prS b p] = .ok (.int 2) := by unfold prS; rw [len_seqD]; rfl
  have i0 : idxR (prS b p) (.int 0) = .ok (nm p.1) := by unfold prS; rw [idx_seqD]; rfl
  have i1 : idxR (prS b p) (.int 1) = .ok (nm p.2) := by unfold prS; rw [idx_seqD]; rfl
  by_cases h1 : p.1 < m <;> by_cases h2 : p.2 < m <;> simp [startE, e1, l2, i0, i1, s1, show ((p.1 : Int) ≤ (m : Int) - 1) = (p.1 < m) by apply propext; omega, show ((p.2 : Int) ≤ (m : Int) - 1) = (p.2 < m) by apply propext; omega, h1, h2, prD]

theorem s110 {n : Nat} (b : Bool) {l : List Pl} (hl : OkB l) {first : Nat} (hf : first ≤ 1) (c : List (Nat × Nat)) (hc : c.length ≤ 10000) : callF KT (n + 4) 110 [bd l, nm first, chS b c] = .ok (if chB l first c = true then chV c else .non) := by
  refine fn_wp f110 (by simp) ?_
  have e1 : callF KT (n + 3) 2 [chS b c] = .ok (.bl true) := is_seq_spec (n := n + 2) f2 b _
  have l2 : bltR .len [chS b c] = .ok (.int (c.length : Nat)) := by unfold chS; rw [len_seqD, List.length_map]
  have t := s64 (n := n + 1) hl
  have hlp := hl.pos
  by_cases h0 : c = []
  · subst h0
    simp [startE, e1, l2, chB]
  · have h00 : ((c.length : Int) == 0) = false := by simp [h0]
    have em : c.isEmpty = false := by cases c with | nil => exact absurd rfl h0 | cons a b => rfl
    simp [startE, e1, l2, h0, h00, t]
    rw [show itemsR (chS b c) = .ok (c.map (prS b)) from items_seqD b _]
    simp
    refine wp_stop (fun pre ρ => ∃ y7 y8, ρ = [.fr (bd l), .fr (nm first), .fr (chS b c), .fr (surD l), .fr (nm ((first + pre.length) % 2)), .fr (nm (match pre.getLast? with | some q => q.2 - 1 | none => 0)), .own (pre.map prD), y7, y8]) (fun pre p => if okC l first (pre ++ [p]) pre.length = true then none else some .non) ⟨.un, .un, by simp [Nat.mod_eq_of_lt (show first < 2 by omega)]⟩ ?_ ?_ ?_
    · rintro pre p post ρ hl2 ⟨y7, y8, rfl⟩
      have lc : pre.length < 1000000 := by
        have := congrArg List.length hl2
        simp at this
        omega
      have P := s100 (n := n) b p l.length hlp
      have ok : okC l first (pre ++ [p]) pre.length = (decide (p.1 < l.length) && decide (p.2 < l.length) && decide ((match pre.getLast? with | some q => q.2 - 1 | none => 0) ≤ p.1) && sur l ((first + pre.length) % 2) p.1 p.2) := by
        unfold okC
        rw [caAt_pre, loAt_pre]
      have w1 : (first + pre.length) % 2 ≤ 1 := by omega
      have wn : (first + (pre ++ [p]).length) % 2 = 1 - (first + pre.length) % 2 := by rw [List.length_append, List.length_singleton]; omega
      rw [ok, wn]
      have gl : (match (pre ++ [p]).getLast? with | some q => q.2 - 1 | none => 0) = p.2 - 1 := by simp
      rw [gl]
      generalize (first + pre.length) % 2 = w at *
      generalize (match pre.getLast? with | some q => q.2 - 1 | none => 0) = lo at *
      have n0 : isNon .non = true := rfl
      have n1 : isNon (prD p) = false := rfl
      have i0 : idxR (prD p) (.int 0) = .ok (nm p.1) := rfl
      have i1 : idxR (prD p) (.int 1) = .ok (nm p.2) := rfl
      by_cases h1 : p.1 < l.length ∧ p.2 < l.length
      · rw [if_pos h1] at P
        by_cases h2 : lo ≤ p.1
        · have a1 := at_tab (f := sur l w) h1.1
          have a2 := at_row (g := sur l w p.1) h1.2
          rcases Bool.eq_false_or_eq_true (sur l w p.1 p.2) with h3 | h3
          · rw [h3] at a2
            have hlt := sur_lt h3
            simp [len_bd, P, n1, i0, h1.1, h1.2, h2, show ¬ ((p.1 : Int) < (lo : Int)) by omega, ix_sur w1, a1, a2, h3, i1, lc]
            omega
          · rw [h3] at a2
            simp [len_bd, P, n1, i0, h1.1, h1.2, h2, show ¬ ((p.1 : Int) < (lo : Int)) by omega, ix_sur w1, a1, a2, h3, i1]
        · simp [len_bd, P, n1, i0, h1.1, h1.2, h2, show (p.1 : Int) < (lo : Int) by omega]
      · rw [if_neg h1] at P
        have : (decide (p.1 < l.length) && decide (p.2 < l.length)) = false := by
          rw [Bool.and_eq_false_iff]
          simp
          omega
        simp [len_bd, P, n0, this]
    · rintro h ρ' ⟨y7, y8, rfl⟩
      have : chB l first c = true := by
        unfold chB
        rw [em, Bool.not_false, Bool.true_and, List.all_eq_true]
        intro k hk
        have hk : k < c.length := by simpa using hk
        have e : c = c.take k ++ c[k] :: c.drop (k + 1) := by
          rw [← List.drop_eq_getElem_cons hk, List.take_append_drop]
        have lk : (c.take k).length = k := by rw [List.length_take]; omega
        have h2 := h _ _ _ e
        have h3 : okC l first (c.take k ++ [c[k]]) (c.take k).length = true := by
          cases hh : okC l first (c.take k ++ [c[k]]) (c.take k).length with
          | true => rfl
          | false => rw [hh] at h2; cases h2
        have h4 : okC l first (c.take k ++ c[k] :: c.drop (k + 1)) (c.take k).length = true := by
          unfold okC at h3 ⊢
          rw [caAt_pre, loAt_pre] at h3 ⊢
          exact h3
        rw [← e, lk] at h4
        exact h4
      simp [this, chV]
    · intro pre p post d hl2 _ hs
      have hs2 : okC l first (pre ++ [p]) pre.length = false ∧ d = .non := by
        cases hh : okC l first (pre ++ [p]) pre.length with
        | true => rw [hh] at hs; cases hs
        | false => rw [hh] at hs; exact ⟨rfl, (Option.some.inj hs).symm⟩
      obtain ⟨h1, rfl⟩ := hs2
      have : chB l first c = false := by
        unfold chB
        rw [em, Bool.not_false, Bool.true_and]
        have h2 : okC l first c pre.length = false := by
          rw [hl2]
          unfold okC at h1 ⊢
          rw [caAt_pre, loAt_pre] at h1 ⊢
          exact h1
        rw [List.all_eq_false]
        exact ⟨pre.length, by rw [List.mem_range, hl2]; simp, by rw [h2]; simp⟩
      simp [this]

theorem s114 {n : Nat} (i : Int) : callF KT (n + 1) 114 [.int i] = .ok (.bl true) := by
  refine fn_wp f114 (by simp) ?_
  simp [startE]

theorem s121 {n : Nat} {l : List Pl} (hl : OkB l) {first : Nat} (hf : first ≤ 1) (c : List (Nat × Nat)) (hc : c.length ≤ 10000) : callF KT (n + 3) 121 [bd l, nm first, chV c] = .ok (.bl (chB l first c)) := by
  refine fn_wp f121 (by simp) ?_
  have s0 := s68 (n := n) hl
  have s1' := s69 (n := n) hl
  have e0 : eqR (chV c) (.tup []) = .ok c.isEmpty := by
    unfold eqR
    rw [if_pos (by
      have : okD deep (chV c) = true := okDs_pr 28 c
      rw [this]; rfl)]
    cases c <;> rfl
  by_cases h0 : c = []
  · subst h0
    have t : isT (chV []) .tuple = .ok true := rfl
    simp [startE, t, e0, chB]
  · have em : c.isEmpty = false := by cases c with | nil => exact absurd rfl h0 | cons a b => rfl
    rw [em] at e0
    have t : isT (chV c) .tuple = .ok true := rfl
    have it : itemsR (chV c) = .ok (c.map prD) := rfl
    have lv : bltR .len [chV c] = .ok (.int (c.length : Nat)) := by simp [chV]
    simp [startE, t, e0, it]
    rw [comp_flt prD (fun _ => false) (by omega) fun p hp => ?_]
    rotate_left
    · have t2 : isT (prD p) .tuple = .ok true := rfl
      have l2 : bltR .len [prD p] = .ok (.int 2) := rfl
      simp [yF, t2, l2]
    have ee : eqR (.lst []) (.lst []) = .ok true := rfl
    have fe : c.filter (fun _ => false) = [] := by
      rw [List.filter_eq_nil_iff]
      intro _ _ h
      cases h
    rw [fe]
    simp [ee, s0, s1', lv, show c.length ≤ 1000000 by omega]
    refine wp_all (fun ρ => ∃ y5, ρ = [.fr (bd l), .fr (nm first), .fr (chV c), .un, .fr (.lst [.lst ((pairs l.length (sur l 0)).map prD), .lst ((pairs l.length (sur l 1)).map prD)]), y5]) (okC l first c) (.bl false) ⟨_, rfl⟩ ?_ ?_ ?_
    · rintro k hk ρ ⟨y5, rfl⟩
      have hk : k < c.length := by simpa using hk
      have a1 : idxR (chV c) (.int (k : Nat)) = .ok (prD (caAt c k)) := by
        unfold chV
        rw [ix_tup, atL_map k rfl hk]
        simp [caAt, hk]
      have fm : ((first : Int) + (k : Int)).fmod 2 = (((first + k) % 2 : Nat) : Int) := fmod2 _ _
      have w1 : (first + k) % 2 ≤ 1 := by omega
      have tw : ∀ w, w ≤ 1 → atL [D.lst ((pairs l.length (sur l 0)).map prD), .lst ((pairs l.length (sur l 1)).map prD)] (w : Nat) = .ok (.lst ((pairs l.length (sur l w)).map prD)) := fun w h => by
        have : w = 0 ∨ w = 1 := by omega
        rcases this with rfl | rfl <;> rfl
      have tw := tw _ w1
      have i0 : ∀ p : Nat × Nat, idxR (prD p) (.int 0) = .ok (nm p.1) := fun _ => rfl
      have i1 : ∀ p : Nat × Nat, idxR (prD p) (.int 1) = .ok (nm p.2) := fun _ => rfl
      have mem : decide (caAt c k ∈ pairs l.length (sur l ((first + k) % 2))) = (decide ((caAt c k).1 < l.length) && decide ((caAt c k).2 < l.length) && sur l ((first + k) % 2) (caAt c k).1 (caAt c k).2) := by
        rw [Bool.eq_iff_iff, decide_eq_true_eq, show caAt c k = ((caAt c k).1, (caAt c k).2) from rfl, mem_pairs]
        simp [and_assoc]
      have inn := in_pr (pairs l.length (sur l ((first + k) % 2))) (caAt c k)
      rw [mem] at inn
      unfold okC
      generalize (first + k) % 2 = w at *
      by_cases kz : k = 0
      · subst kz
        have lz : loAt c 0 = 0 := rfl
        rw [lz]
        generalize caAt c 0 = p at *
        have a1n := a1
        have fm0 : ((first : Int)).fmod 2 = (w : Int) := by simpa using fm
        have a1 : idxR (chV c) (.int 0) = .ok (prD p) := a1
        rcases Bool.eq_false_or_eq_true (decide (p.1 < l.length) && decide (p.2 < l.length) && sur l w p.1 p.2) with h | h
        · rw [h] at inn
          have h' := h
          simp only [Bool.and_eq_true, decide_eq_true_eq] at h'
          simp [-in_lst, a1, a1n, fm, fm0, tw, inn, i0, s114, h'.1.1, h'.1.2, h'.2]
        · rw [h] at inn
          have h2 : (decide (p.1 < l.length) && decide (p.2 < l.length) && decide (0 ≤ p.1) && sur l w p.1 p.2) = false := by simpa using h
          rw [h2]
          simp [-in_lst, a1, a1n, fm, fm0, tw, inn]
      · have a2 : idxR (chV c) (.int ((k : Int) - 1)) = .ok (prD (caAt c (k - 1))) := by
          unfold chV
          rw [ix_tup, atL_map (k - 1) (by omega) (by omega)]
          simp [caAt, show k - 1 < c.length by omega]
        have lz : loAt c k = (caAt c (k - 1)).2 - 1 := by unfold loAt; rw [if_neg kz]
        rw [lz]
        generalize caAt c k = p at *
        generalize caAt c (k - 1) = q at *
        rcases Bool.eq_false_or_eq_true (decide (p.1 < l.length) && decide (p.2 < l.length) && sur l w p.1 p.2) with h | h
        · rw [h] at inn
          have h' := h
          simp only [Bool.and_eq_true, decide_eq_true_eq] at h'
          by_cases g : q.2 - 1 ≤ p.1
          · simp [-in_lst, a1, a2, fm, tw, inn, i0, i1, s114, show (0 : Int) < k by omega, show 0 < k by omega, show ¬ ((p.1 : Int) < (q.2 : Int) - 1) by omega, h'.1.1, h'.1.2, h'.2, g]
          · simp [-in_lst, a1, a2, fm, tw, inn, i0, i1, s114, show (0 : Int) < k by omega, show 0 < k by omega, show (p.1 : Int) < (q.2 : Int) - 1 by omega, g]
        · rw [h] at inn
          have h2 : (decide (p.1 < l.length) && decide (p.2 < l.length) && decide (q.2 - 1 ≤ p.1) && sur l w p.1 p.2) = false := by
            rw [Bool.and_assoc, Bool.and_comm (decide (q.2 - 1 ≤ p.1)), ← Bool.and_assoc, h, Bool.false_and]
          rw [h2]
          simp [-in_lst, a1, fm, tw, inn]
    · rintro h ρ' ⟨y5, rfl⟩
      have : chB l first c = true := by unfold chB; rw [em, h]; rfl
      simp [this]
    · intro h
      have : chB l first c = false := by unfold chB; rw [em, h]; rfl
      simp [this]
end PF

namespace PF
open PySem

def extC (l : List Pl) (w : Nat) (P : Nat → Bool) (row : List (Nat × Nat)) : List (List (Nat × Nat)) := (List.range l.length).flatMap fun i => if P i = true then ((List.range l.length).filter (sur l w i)).map fun j => row ++ [(i, j)] else []
def lastC (lo : Nat) (row : List (Nat × Nat)) : Nat := match row.getLast? with
  | some q => q.2 - 1
  | none => lo
def acN (l : List Pl) (w lo : Nat) (rows : List (List (Nat × Nat))) : List (List (Nat × Nat)) := rows.flatMap fun row => extC l w (fun i => decide (lastC lo row ≤ i)) row
/-- all chains by the law's own hand, of which 3000 at most are kept -/
def acF (l : List Pl) (first : Nat) : Nat → List (List (Nat × Nat))
  | 0 => [[]]
  | k + 1 => (acN l ((first + k) % 2) 0 (acF l first k)).take 3000
theorem pairs_flt {α : Type} (n : Nat) (f : Nat → Nat → Bool) (P : Nat → Bool) (g : Nat × Nat → α) : ((pairs n f).filter fun q => P q.1).map g = (List.range n).flatMap fun i => if P i = true then ((List.range n).filter (f i)).map fun j => g (i, j) else [] := by
  unfold pairs
  rw [List.filter_flatMap, List.map_flatMap]
  congr 1
  funext i
  rw [List.filter_map, List.map_map]
  cases h : P i with
  | true =>
    rw [if_pos rfl, List.filter_eq_self.mpr fun j _ => by simp [h]]
    rfl
  | false =>
    rw [if_neg (by decide), List.filter_eq_nil_iff.mpr fun j _ => by simp [h]]
    rfl
theorem pairs_sq (n : Nat) (f : Nat → Nat → Bool) : (pairs n f).length ≤ n * n := by
  have one : ∀ i, (((List.range n).filter (f i)).map fun j => (i, j)).length ≤ n := fun i => by
    rw [List.length_map]
    exact Nat.le_trans (List.length_filter_le _ _) (by simp)
  have go : ∀ l : List Nat, (l.flatMap fun i => ((List.range n).filter (f i)).map fun j => (i, j)).length ≤ l.length * n := by
    intro l
    induction l with
    | nil => simp
    | cons a l ih =>
      rw [List.flatMap_cons, List.length_append, List.length_cons, Nat.succ_mul]
      have := one a
      omega
  have := go (List.range n)
  simpa [pairs] using this
theorem eq_chV (c : List (Nat × Nat)) : eqR (chV c) (.tup []) = .ok c.isEmpty := by
  unfold eqR
  rw [if_pos (by
    have : okD deep (chV c) = true := okDs_pr 28 c
    rw [this]; rfl)]
  cases c <;> rfl
theorem extC_map {l : List Pl} {w : Nat} {P : Nat → Bool} {row : List (Nat × Nat)} : ((pairs l.length (sur l w)).filter fun q => P q.1).map (fun q => chV (row ++ [q])) = (extC l w P row).map chV := by
  rw [pairs_flt]
  unfold extC
  rw [List.map_flatMap]
  congr 1
  funext i
  split
  · rw [List.map_map]; rfl
  · rfl
theorem extC_len {l : List Pl} (hm : l.length ≤ 10) {w : Nat} {P : Nat → Bool} {row : List (Nat × Nat)} : (extC l w P row).length ≤ 100 := by
  have e := congrArg List.length (extC_map (l := l) (w := w) (P := P) (row := row))
  rw [List.length_map, List.length_map] at e
  have h1 := List.length_filter_le (fun q : Nat × Nat => P q.1) (pairs l.length (sur l w))
  have h2 := pairs_sq l.length (sur l w)
  have h3 : l.length * l.length ≤ 10 * 10 := Nat.mul_le_mul hm hm
  omega
theorem acN_len {l : List Pl} (hm : l.length ≤ 10) (w lo : Nat) : ∀ rows : List (List (Nat × Nat)), (acN l w lo rows).length ≤ 100 * rows.length
  | [] => by simp [acN]
  | r :: rows => by
    have := acN_len hm w lo rows
    have := extC_len hm (w := w) (P := fun i => decide (lastC lo r ≤ i)) (row := r)
    unfold acN at *
    rw [List.flatMap_cons, List.length_append, List.length_cons]
    omega
theorem acF_rows {l : List Pl} {first : Nat} : ∀ {k : Nat} {row : List (Nat × Nat)}, row ∈ acF l first k → row.length = k
  | 0, row, h => by
    have : row = [] := by simpa [acF] using h
    rw [this]; rfl
  | k + 1, row, h => by
    have h := List.mem_of_mem_take h
    unfold acN at h
    rw [List.mem_flatMap] at h
    obtain ⟨r, h1, h2⟩ := h
    unfold extC at h2
    rw [List.mem_flatMap] at h2
    obtain ⟨i, _, h3⟩ := h2
    split at h3
    · obtain ⟨j, _, rfl⟩ := List.mem_map.mp h3
      rw [List.length_append, acF_rows h1]
      rfl
    · cases h3
theorem acF_len (l : List Pl) (first : Nat) : ∀ k, (acF l first k).length ≤ 3000
  | 0 => by simp [acF]
  | k + 1 => by
    unfold acF
    rw [List.length_take]
    omega
theorem cut_lst {α : Type} (f : α → D) (L : List α) (b : Nat) : slcR (.lst (L.map f)) none (some (b : Nat)) = .ok (.lst ((L.take b).map f)) := by
  rw [sl_lst]
  have e : six L.length L.length (some (b : Nat)) = min b L.length := by
    have e : six L.length L.length (some (b : Nat)) = if ((b : Nat) : Int) < 0 then (((b : Nat) : Int) + L.length).toNat else min ((b : Nat) : Int).toNat L.length := rfl
    rw [e, if_neg (by omega)]
    omega
  have e0 : six L.length 0 none = 0 := rfl
  unfold cutL
  rw [List.length_map, e0, e, List.drop_zero, ← List.map_take]
  congr 3
  rw [List.take_eq_take_iff]
  omega

theorem s122 {n : Nat} {l : List Pl} (hl : OkB l) {first many : Nat} (hf : first ≤ 1) (hk : many ≤ 1000) : callF KT (n + 3) 122 [bd l, nm first, nm many] = .ok (.lst ((acF l first many).map chV)) := by
  refine fn_wp f122 (by simp) ?_
  have hm := hl.most
  have s0 := s68 (n := n) hl
  have s1' := s69 (n := n) hl
  simp [startE, s0, s1', show many ≤ 1000000 by omega]
  refine wp_pre (fun pre ρ => ∃ y5 y6 y7, ρ = [.fr (bd l), .fr (nm first), .fr (nm many), .fr (.lst [.lst ((pairs l.length (sur l 0)).map prD), .lst ((pairs l.length (sur l 1)).map prD)]), .fr (.lst ((acF l first pre.length).map chV)), y5, y6, y7, .un]) ⟨_, _, _, rfl⟩ ?_ ?_
  · rintro pre k post ρ hl2 ⟨y5, y6, y7, rfl⟩
    have hp := rng_at hl2
    have fl := acF_len l first pre.length
    have fr' := @acF_rows l first pre.length
    rw [List.length_append, List.length_singleton]
    have ac : acF l first (pre.length + 1) = (acN l ((first + pre.length) % 2) 0 (acF l first pre.length)).take 3000 := rfl
    rw [ac, ← hp.1]
    rw [← hp.1] at fl fr'
    generalize acF l first k = L at *
    have fm : ((first : Int) + (k : Int)).fmod 2 = (((first + k) % 2 : Nat) : Int) := fmod2 _ _
    have w1 : (first + k) % 2 ≤ 1 := by omega
    generalize (first + k) % 2 = w at *
    have tw : atL [D.lst ((pairs l.length (sur l 0)).map prD), .lst ((pairs l.length (sur l 1)).map prD)] (w : Nat) = .ok (.lst ((pairs l.length (sur l w)).map prD)) := by
      have : w = 0 ∨ w = 1 := by omega
      rcases this with rfl | rfl <;> rfl
    simp
    refine wp_pre (fun pr ρ => ∃ y7, ρ = [.fr (bd l), .fr (nm first), .fr (nm many), .fr (.lst [.lst ((pairs l.length (sur l 0)).map prD), .lst ((pairs l.length (sur l 1)).map prD)]), .fr (.lst (L.map chV)), .fr (nm k), .fr (.lst ((acN l w 0 pr).map chV)), y7, .un]) ⟨_, rfl⟩ ?_ ?_
    · rintro pr row po ρ hl3 ⟨y7, rfl⟩
      have lr : pr.length + 1 ≤ L.length := by rw [hl3]; simp
      have al := acN_len hm w 0 pr
      have rl : row.length = k := fr' (by rw [hl3]; simp)
      have an : acN l w 0 (pr ++ [row]) = acN l w 0 pr ++ extC l w (fun i => decide (lastC 0 row ≤ i)) row := by
        unfold acN
        rw [List.flatMap_append]
        simp
      rw [an]
      have el := extC_len hm (w := w) (P := fun i => decide (lastC 0 row ≤ i)) (row := row)
      have em := extC_map (l := l) (w := w) (P := fun i => decide (lastC 0 row ≤ i)) (row := row)
      have pq := pairs_sq l.length (sur l w)
      have pq2 : l.length * l.length ≤ 10 * 10 := Nat.mul_le_mul hm hm
      generalize acN l w 0 pr = A at *
      generalize extC l w (fun i => decide (lastC 0 row ≤ i)) row = X at *
      generalize pairs l.length (sur l w) = prs at *
      simp [fm, tw]
      rw [comp_flt (fun q => chV (row ++ [q])) (fun q => decide (lastC 0 row ≤ q.1)) (by omega) fun q hq => ?_]
      · rw [em]
        simp [show A.length + X.length ≤ 1000000 by omega]
      · have i0 : idxR (prD q) (.int 0) = .ok (nm q.1) := rfl
        have ap : binR .add (chV row) (.tup [prD q]) = .ok (chV (row ++ [q])) := by
          unfold chV
          rw [bi_addt, if_pos (by rw [List.length_map, big_eq]; simp; omega), List.map_append]
          rfl
        rcases List.eq_nil_or_concat row with h | ⟨r', x, h⟩
        · subst h
          have e := eq_chV []
          have lz : lastC 0 [] = 0 := rfl
          simp [yF, e, lz]
          have ap : binR .add (chV []) (.tup [prD q]) = .ok (chV [q]) := ap
          simp [ap]
        · rw [List.concat_eq_append] at h
          subst h
          have e := eq_chV (r' ++ [x])
          have ee : (r' ++ [x]).isEmpty = false := by cases r' <;> rfl
          rw [ee] at e
          have lz : lastC 0 (r' ++ [x]) = x.2 - 1 := by simp [lastC]
          have il : idxR (chV (r' ++ [x])) (.int (-1)) = .ok (prD x) := by
            unfold chV
            rw [ix_tup, List.map_append]
            exact at_last prD r' x
          have i1 : idxR (prD x) (.int 1) = .ok (nm x.2) := rfl
          rw [lz]
          by_cases h : x.2 - 1 ≤ q.1
          · simp [yF, e, il, i0, i1, h, show (x.2 : Int) - 1 ≤ (q.1 : Int) by omega]
            have ap : binR .add (chV (r' ++ [x])) (.tup [prD q]) = .ok (chV (r' ++ [x] ++ [q])) := ap
            simp only [List.append_assoc, List.cons_append, List.nil_append] at ap
            simp [ap]
          · simp [yF, e, il, i0, i1, h, show ¬ ((x.2 : Int) - 1 ≤ (q.1 : Int)) by omega]
    · rintro ρ' ⟨y7, rfl⟩
      have c := cut_lst chV (acN l w 0 L) 3000
      have c : slcR (.lst ((acN l w 0 L).map chV)) none (some 3000) = .ok (.lst (((acN l w 0 L).take 3000).map chV)) := c
      simp [-sl_lst, c]
  · rintro ρ' ⟨y5, y6, y7, rfl⟩
    simp

/-! none are lost -/
def chQ (l : List Pl) : Nat → Nat → Nat → List (List (Nat × Nat))
  | 0, _, _ => [[]]
  | k + 1, w, lo => (List.range l.length).flatMap fun i => if decide (lo ≤ i) = true then ((List.range l.length).filter (sur l w i)).flatMap fun j => (chQ l k (1 - w) (j - 1)).map ((i, j) :: ·) else []
theorem lastC_cons (lo : Nat) (p : Nat × Nat) (row : List (Nat × Nat)) : lastC lo (p :: row) = lastC (p.2 - 1) row := by
  unfold lastC
  cases row with
  | nil => rfl
  | cons q row => rw [List.getLast?_cons_cons, List.getLast?_eq_some_getLast (List.cons_ne_nil q row)]
theorem chQ_next (l : List Pl) : ∀ (k w lo : Nat), w ≤ 1 → chQ l (k + 1) w lo = acN l ((w + k) % 2) lo (chQ l k w lo)
  | 0, w, lo, hw => by
    unfold chQ acN extC
    simp only [List.flatMap_cons, List.flatMap_nil, List.append_nil, Nat.add_zero, Nat.mod_eq_of_lt (show w < 2 by omega)]
    congr 1
    funext i
    have : lastC lo [] = lo := rfl
    rw [this]
    split
    · unfold chQ
      generalize (List.range l.length).filter (sur l w i) = L
      induction L with
      | nil => rfl
      | cons a L ih => rw [List.flatMap_cons, List.map_cons, ih]; rfl
    · rfl
  | k + 1, w, lo, hw => by
    have ih := chQ_next l k (1 - w)
    have e : ∀ i j, (chQ l (k + 1) (1 - w) (j - 1)).map ((i, j) :: ·) = acN l ((w + (k + 1)) % 2) lo ((chQ l k (1 - w) (j - 1)).map ((i, j) :: ·)) := fun i j => by
      rw [ih (j - 1) (by omega), show (1 - w + k) % 2 = (w + (k + 1)) % 2 by omega]
      unfold acN
      rw [List.map_flatMap, List.flatMap_map]
      congr 1
      funext row
      rw [lastC_cons]
      unfold extC
      rw [List.map_flatMap]
      congr 1
      funext x
      split
      · rw [List.map_map]; rfl
      · rfl
    show ((List.range l.length).flatMap fun i => if decide (lo ≤ i) = true then ((List.range l.length).filter (sur l w i)).flatMap fun j => (chQ l (k + 1) (1 - w) (j - 1)).map ((i, j) :: ·) else []) = acN l ((w + (k + 1)) % 2) lo ((List.range l.length).flatMap fun i => if decide (lo ≤ i) = true then ((List.range l.length).filter (sur l w i)).flatMap fun j => (chQ l k (1 - w) (j - 1)).map ((i, j) :: ·) else [])
    unfold acN at e ⊢
    rw [List.flatMap_assoc]
    congr 1
    funext i
    split
    · rw [List.flatMap_assoc]
      congr 1
      funext j
      rw [e i j]
    · rfl
def Bt (k lo : Nat) : Nat := ((([[1, 1, 1, 1, 1, 1], [15, 10, 6, 3, 1, 0], [70, 35, 15, 5, 1, 0], [210, 84, 28, 7, 1, 0], [495, 165, 45, 9, 1, 0], [1001, 286, 66, 11, 1, 0], [1820, 455, 91, 13, 1, 0]] : List (List Nat))[k]?).getD []).getD lo 0
theorem Bt_chk : ∀ k < 6, ∀ lo < 6, ((List.range 6).map fun i => if lo ≤ i then ((List.range 6).map fun j => if i < j then Bt k (j - 1) else 0).sum else 0).sum ≤ Bt (k + 1) lo := by decide +kernel
theorem sum_le {α : Type} {f g : α → Nat} : ∀ {L : List α}, (∀ a ∈ L, f a ≤ g a) → (L.map f).sum ≤ (L.map g).sum
  | [], _ => by simp
  | a :: L, h => by
    rw [List.map_cons, List.map_cons, List.sum_cons, List.sum_cons]
    have := h a List.mem_cons_self
    have := sum_le (L := L) fun b hb => h b (List.mem_cons_of_mem _ hb)
    omega
theorem sum_range {n : Nat} (hn : n ≤ 6) (g : Nat → Nat) : ((List.range n).map g).sum ≤ ((List.range 6).map g).sum := by
  have e : List.range 6 = List.range n ++ (List.range (6 - n)).map (n + ·) := by
    rw [← List.range_add]
    congr 1
    omega
  rw [e, List.map_append, List.sum_append]
  omega
theorem sum_filter {f : Nat → Nat} {p : Nat → Bool} : ∀ {L : List Nat}, ((L.filter p).map f).sum = (L.map fun a => if p a = true then f a else 0).sum
  | [] => rfl
  | a :: L => by
    rw [List.filter_cons, List.map_cons, List.sum_cons, ← sum_filter]
    cases p a <;> simp
theorem chQ_len {l : List Pl} (h6 : l.length ≤ 6) : ∀ (k w lo : Nat), k ≤ 6 → lo < 6 → (chQ l k w lo).length ≤ Bt k lo
  | 0, w, lo, _, hlo => by
    have one : (chQ l 0 w lo).length = 1 := rfl
    rw [one]
    have : lo = 0 ∨ lo = 1 ∨ lo = 2 ∨ lo = 3 ∨ lo = 4 ∨ lo = 5 := by omega
    rcases this with rfl | rfl | rfl | rfl | rfl | rfl <;> decide
  | k + 1, w, lo, hk, hlo => by
    refine Nat.le_trans ?_ (Bt_chk k (by omega) lo hlo)
    unfold chQ
    rw [List.length_flatMap]
    refine Nat.le_trans (sum_range h6 _) (sum_le fun i _ => ?_)
    by_cases hi' : lo ≤ i
    · rw [if_pos (by simpa using hi'), if_pos hi', List.length_flatMap, sum_filter]
      refine Nat.le_trans (sum_range h6 _) (sum_le fun j hj => ?_)
      have hj : j < 6 := by simpa using hj
      cases hs : sur l w i j with
      | false => simp
      | true =>
        have := sur_lt hs
        rw [if_pos rfl, if_pos this, List.length_map]
        exact chQ_len h6 k (1 - w) (j - 1) (by omega) (by omega)
    · rw [if_neg (by simpa using hi'), if_neg hi']
      simp
theorem Bt_small : ∀ k < 7, Bt k 0 ≤ 3000 := by decide +kernel
theorem acF_Q {l : List Pl} (h6 : l.length ≤ 6) {first : Nat} (hf : first ≤ 1) : ∀ k, k ≤ 6 → acF l first k = chQ l k first 0
  | 0, _ => rfl
  | k + 1, hk => by
    unfold acF
    rw [acF_Q h6 hf k (by omega), ← chQ_next l k first 0 hf]
    exact List.take_of_length_le (Nat.le_trans (chQ_len h6 (k + 1) first 0 hk (by omega)) (Bt_small (k + 1) (by omega)))
theorem chQ_mem {l : List Pl} : ∀ {k w lo : Nat} {c : List (Nat × Nat)}, c ∈ chQ l k w lo ↔ c.length = k ∧ IsCh (surN l) l.length w lo c
  | 0, w, lo, c => by
    unfold chQ
    rw [List.mem_singleton]
    constructor
    · rintro rfl; exact ⟨rfl, trivial⟩
    · rintro ⟨h, _⟩; exact List.length_eq_zero_iff.mp h
  | k + 1, w, lo, c => by
    unfold chQ
    rw [List.mem_flatMap]
    constructor
    · rintro ⟨i, h1, h2⟩
      split at h2
      · rename_i hlo
        rw [List.mem_flatMap] at h2
        obtain ⟨j, h3, h4⟩ := h2
        obtain ⟨c', h5, rfl⟩ := List.mem_map.mp h4
        obtain ⟨h6, h7⟩ := chQ_mem.mp h5
        rw [List.mem_filter, List.mem_range] at h3
        refine ⟨by simp [h6], by simpa using hlo, sur_lt h3.2, h3.1, ?_, h7⟩
        simp [surN, h3.1, h3.2]
      · cases h2
    · cases c with
      | nil => rintro ⟨h, _⟩; simp at h
      | cons p c =>
        rintro ⟨h, h1, h2, h3, h4, h5⟩
        refine ⟨p.1, by rw [List.mem_range]; omega, ?_⟩
        rw [if_pos (by simpa using h1), List.mem_flatMap]
        have h4' : sur l w p.1 p.2 = true := by
          simp only [surN, Bool.and_eq_true] at h4
          exact h4.2
        exact ⟨p.2, by rw [List.mem_filter, List.mem_range]; exact ⟨h3, h4'⟩, List.mem_map.mpr ⟨c, chQ_mem.mpr ⟨by simpa using h, h5⟩, rfl⟩⟩
/-- chains of so many pairs there are just where the greedy one has so many -/
theorem acF_iff {l : List Pl} (hl : OkB l) (h6 : l.length ≤ 6) {first k : Nat} (hf : first ≤ 1) (hk : k ≤ 6) : (acF l first k).isEmpty = canH l first k := by
  rw [acF_Q h6 hf k hk]
  unfold canH
  rw [chN k]
  cases hg : chQ l k first 0 with
  | nil =>
    symm
    rw [List.isEmpty_nil, decide_eq_true_eq]
    have e := chn_len (surN l) l.length k first 0
    by_cases h : (chn (surN l) l.length k first 0).length < k
    · exact h
    · exfalso
      have : chn (surN l) l.length k first 0 ∈ chQ l k first 0 := chQ_mem.mpr ⟨by omega, chn_ch _ _ _ _⟩
      rw [hg] at this
      cases this
  | cons c rest =>
    have hm : c ∈ chQ l k first 0 := by rw [hg]; exact List.mem_cons_self
    obtain ⟨m1, m2⟩ := chQ_mem.mp hm
    have := chn_max (iv_sur hl) hl.pos hf m2 (many := k) (by omega)
    symm
    rw [List.isEmpty_cons, decide_eq_false_iff_not]
    omega
where chN (k : Nat) : chn (sur l) l.length k first 0 = chn (surN l) l.length k first 0 := chn_N (Nat.le_refl _) _ _ _
end PF

namespace PF
open PySem

/-- what a def tells has a mark -/
def TlE (P : D → Prop) (o : O) : Prop := ∃ d, o.r = .ok d ∧ P d
@[simp] theorem tlE_rt (P : D → Prop) (d : D) : TlE P (.rt d) = P d := propext ⟨fun ⟨e, h1, h2⟩ => by cases h1; exact h2, fun h => ⟨d, rfl, h⟩⟩
theorem fn_wpE {T : Prg} {n f : Nat} {F : Fn} {ds : List D} {P : D → Prop} (h : T.fns f = some F) (hl : ds.length = F.np) (w : Wp (exs ⟨callF T n, T.con⟩ (startE ds F.ns) F.body) (TlE P)) : ∃ d, callF T (n + 1) f ds = .ok d ∧ P d := by
  obtain ⟨d, h1, h2⟩ := w.get
  exact ⟨d, (callF_eq h hl).trans h1, h2⟩
theorem chn_top {S : Nat → Nat → Nat → Bool} (iv : Iv S) {n m first : Nat} (hn : 1 ≤ n) (hf : first ≤ 1) (h : (chn S n m first 0).length < m) {c : List (Nat × Nat)} (hc : IsCh S n first 0 c) : c.length ≤ (chn S n m first 0).length := by
  have ok := greedy_ok iv m first 0 hf h
  have h2 := chn_ch (Sr := S) n m first 0
  have asc := gPl_asc (many := (chn S n m first 0).length + 1) hn (Nat.zero_le _) h2
  have pc : pcOK S first 0 (gPl (chn S n m first 0) n ((chn S n m first 0).length + 1)) (n - 1) := pc_of_ok hf asc (fun q hq => by have := ascN_lt asc q hq; omega) fun w' i j i1 i2 i3 i4 => ok w' i j i1 i2 i3 fun s s1 s2 => by
    rw [← gPl_word (many := (chn S n m first 0).length + 1) hf h2 (show s < n - 1 by omega)]
    exact i4 s s1 s2
  have b := ch_bound pc (n := n) (by omega) (Nat.le_refl 0) hc
  rw [gPl_len (by omega)] at b
  omega
/-- the longest chain -/
def lonL (l : List Pl) (first : Nat) : Nat := (chn (surN l) l.length l.length first 0).length
theorem lon_lt {l : List Pl} (hl : OkB l) {first : Nat} (hf : first ≤ 1) : lonL l first < l.length := by
  have := chn_size (iv_sur hl) (n := l.length) (m := l.length) hf hl.pos
  have := hl.pos
  unfold lonL
  omega
theorem ch_take {S : Nat → Nat → Nat → Bool} {n : Nat} : ∀ {c : List (Nat × Nat)} {w lo : Nat} (k : Nat), IsCh S n w lo c → IsCh S n w lo (c.take k)
  | _, _, _, 0, _ => by rw [List.take_zero]; trivial
  | [], _, _, _ + 1, h => by rw [List.take_nil]; exact h
  | p :: c, w, lo, k + 1, ⟨h1, h2, h3, h4, h5⟩ => by
    rw [List.take_succ_cons]
    exact ⟨h1, h2, h3, h4, ch_take k h5⟩
theorem can_lon {l : List Pl} (hl : OkB l) {first c : Nat} (hf : first ≤ 1) : canH l first c = decide (lonL l first < c) := by
  have ll := lon_lt hl hf
  unfold canH
  rw [chn_N (Nat.le_refl _), Bool.eq_iff_iff, decide_eq_true_eq, decide_eq_true_eq]
  have g := chn_ch (Sr := surN l) l.length l.length first 0
  have top : ∀ {c'}, IsCh (surN l) l.length first 0 c' → c'.length ≤ lonL l first := fun h => chn_top (iv_sur hl) hl.pos hf ll h
  constructor
  · intro h
    by_cases hc : lonL l first < c
    · exact hc
    · exfalso
      have t := ch_take c g
      have tl : ((chn (surN l) l.length l.length first 0).take c).length = c := by rw [List.length_take]; unfold lonL at hc; omega
      have := chn_max (iv_sur hl) hl.pos hf t (many := c) (by omega)
      omega
  · intro h
    have := top (chn_ch (Sr := surN l) l.length c first 0)
    have := chn_len (surN l) l.length c first 0
    omega

/-- how many places from the first on can have the shape -/
def reaL (l : List Pl) (first many : Nat) : Nat := if canH l first many = true then l.length else (((chn (surN l) l.length many first 0).getLast?).getD (0, 0)).2

theorem take_ok {l : List Pl} (hl : OkB l) {s : Nat} (h1 : 1 ≤ s) : OkB (l.take s) := ⟨fun x hx => hl.ok x (List.mem_of_mem_take hx), by rw [List.length_take]; have := hl.pos; omega, by rw [List.length_take]; have := hl.most; omega⟩
theorem take_sur {l : List Pl} {s w i j : Nat} (hj : j < s) (hjl : j < l.length) : surN (l.take s) w i j = surN l w i j := by
  have e : ∀ k, k < s → lp (l.take s) k = lp l k := fun k hk => by simp [lp, List.getElem?_take, hk]
  unfold surN sur
  rw [show decide (j < (l.take s).length) = true by simp; omega, show decide (j < l.length) = true by simpa using hjl]
  by_cases hi' : i < j
  · unfold fallB riseB
    rw [e i (by omega), e j hj]
  · unfold fallB riseB
    simp [hi']
theorem take_can {l : List Pl} {first many s : Nat} (hs : s ≤ l.length) : canH (l.take s) first many = decide ((chn (surN l) s many first 0).length < many) := by
  have len : (l.take s).length = s := by rw [List.length_take]; omega
  unfold canH
  rw [chn_N (Nat.le_refl _), len]
  rw [chn_cg (S1 := surN (l.take s)) (S2 := surN l) fun w i j hj => take_sur hj (by omega)]
theorem ch_size {S : Nat → Nat → Nat → Bool} {n : Nat} : ∀ {c : List (Nat × Nat)} {w lo : Nat}, IsCh S n w lo c → ∀ m, (∀ p ∈ c, p.2 < m) → IsCh S m w lo c
  | [], _, _, _, _, _ => trivial
  | p :: c, w, lo, ⟨h1, h2, h3, h4, h5⟩, m, h => ⟨h1, h2, h p List.mem_cons_self, h4, ch_size h5 m fun q hq => h q (List.mem_cons_of_mem _ hq)⟩
theorem ch_last {S : Nat → Nat → Nat → Bool} {n : Nat} : ∀ {c : List (Nat × Nat)} {w lo : Nat}, IsCh S n w lo c → ∀ p ∈ c, p.2 ≤ ((c.getLast?).getD (0, 0)).2
  | [], _, _, _, p, hp => by cases hp
  | [q], _, _, _, p, hp => by rw [List.mem_singleton.mp hp]; simp
  | q :: q' :: c, w, lo, ⟨h1, h2, h3, h4, h5⟩, p, hp => by
    have ih := ch_last h5
    rw [List.getLast?_cons_cons]
    rcases List.mem_cons.mp hp with rfl | hp
    · have := ih q' List.mem_cons_self
      obtain ⟨g1, g2, _⟩ := h5
      omega
    · exact ih p hp
/-- ahead of the greedy chain's last place nothing is in the way -/
theorem chn_pc {S : Nat → Nat → Nat → Bool} {n : Nat} : ∀ (m w lo : Nat), (chn S n m w lo).length = m → 1 ≤ m → pcOK S w lo (((chn S n m w lo).dropLast).map fun p => p.2 - 1) ((((chn S n m w lo).getLast?).getD (0, 0)).2 - 1)
  | 0, _, _, _, h => absurd h (by omega)
  | m + 1, w, lo, h, _ => by
    unfold chn at h ⊢
    cases hp : fpP (S w) n lo with
    | none => rw [hp] at h; simp at h
    | some p =>
      rw [hp] at h
      obtain ⟨q1, q2, q3, q4, q5⟩ := fpP_some hp
      show pcOK S w lo (((p :: chn S n m (1 - w) (p.2 - 1)).dropLast).map fun p => p.2 - 1) ((((p :: chn S n m (1 - w) (p.2 - 1)).getLast?).getD (0, 0)).2 - 1)
      have np : noP S w lo (p.2 - 1) := fun i j h1 h2 h3 => q5 i j h1 h2 (by omega)
      have h : (p :: chn S n m (1 - w) (p.2 - 1)).length = m + 1 := h
      cases hm : m with
      | zero =>
        subst hm
        show pcOK S w lo [] (p.2 - 1)
        exact np
      | succ m' =>
        have hl : (chn S n m (1 - w) (p.2 - 1)).length = m := by simpa using h
        have ih := chn_pc m (1 - w) (p.2 - 1) hl (by omega)
        rw [← hm]
        cases hg : chn S n m (1 - w) (p.2 - 1) with
        | nil => rw [hg] at hl; simp at hl; omega
        | cons q c =>
          rw [hg] at ih
          rw [List.dropLast_cons_of_ne_nil (List.cons_ne_nil q c), List.map_cons, List.getLast?_cons_cons]
          exact ⟨np, ih⟩
theorem rea_iff {l : List Pl} (hl : OkB l) {first many s : Nat} (hf : first ≤ 1) (h1 : 1 ≤ many) (hs : 1 ≤ s) (hs2 : s ≤ l.length) : canH (l.take s) first many = decide (s ≤ reaL l first many) := by
  rw [take_can hs2, Bool.eq_iff_iff, decide_eq_true_eq, decide_eq_true_eq]
  have g := chn_ch (Sr := surN l) l.length many first 0
  have gl := chn_len (surN l) l.length many first 0
  have cs := chn_ch (Sr := surN l) s many first 0
  have csl := chn_len (surN l) s many first 0
  unfold reaL canH
  rw [chn_N (Nat.le_refl _)]
  by_cases h : (chn (surN l) l.length many first 0).length < many
  · rw [if_pos (by simpa using h)]
    refine ⟨fun _ => hs2, fun _ => ?_⟩
    by_cases h2 : (chn (surN l) s many first 0).length < many
    · exact h2
    · exfalso
      have := chn_max (iv_sur hl) hl.pos hf (cs.size hs2) (many := many) (by omega)
      omega
  · rw [if_neg (by simpa using h)]
    have ml : (chn (surN l) l.length many first 0).length = many := by omega
    have pc := chn_pc (S := surN l) (n := l.length) many first 0 ml h1
    have la := ch_last g
    have up := ch_up g
    generalize chn (surN l) l.length many first 0 = G at *
    have dl : (G.dropLast.map fun p => p.2 - 1).length = many - 1 := by rw [List.length_map, List.length_dropLast]; omega
    constructor
    · intro h2
      by_cases h3 : s ≤ ((G.getLast?).getD (0, 0)).2
      · exact h3
      · exfalso
        have := chn_max (iv_sur hl) hs hf (ch_size g s fun p hp => by have := la p hp; omega) (many := many) (by omega)
        omega
    · intro h2
      have b := ch_bound pc (n := s) (by omega) (Nat.le_refl 0) cs
      omega
theorem rea_ge {l : List Pl} (hl : OkB l) {first many : Nat} (hf : first ≤ 1) (h1 : 1 ≤ many) : 1 ≤ reaL l first many ∧ reaL l first many ≤ l.length := by
  have hlp := hl.pos
  have g := chn_ch (Sr := surN l) l.length many first 0
  have up := ch_up g
  constructor
  · have := rea_iff hl hf h1 (Nat.le_refl 1) hlp
    have hc : canH (l.take 1) first many = true := can_big (take_ok hl (Nat.le_refl 1)) hf (by rw [List.length_take]; omega)
    rw [hc] at this
    simpa using this.symm
  · unfold reaL
    split
    · exact Nat.le_refl _
    · rename_i h
      cases hg : (chn (surN l) l.length many first 0).getLast? with
      | none => simp
      | some p =>
        have := up p (List.mem_of_getLast? hg)
        simp
        omega
theorem cut_bd {l : List Pl} {s : Nat} : slcR (bd l) none (some (s : Nat)) = .ok (bd (l.take s)) := by
  unfold bd
  rw [sl_tup]
  have e : six l.length l.length (some (s : Nat)) = min s l.length := by
    have e : six l.length l.length (some (s : Nat)) = if ((s : Nat) : Int) < 0 then (((s : Nat) : Int) + l.length).toNat else min ((s : Nat) : Int).toNat l.length := rfl
    rw [e, if_neg (by omega)]
    omega
  have e0 : six l.length 0 none = 0 := rfl
  unfold cutL
  rw [List.length_map, e0, e, List.drop_zero, ← List.map_take]
  congr 3
  rw [List.take_eq_take_iff]
  omega

end PF

namespace PF
open PySem

/-- what the law tries as a chain -/
def TryP (d : D) : Prop := (∃ c, c.length ≤ 100 ∧ d = chV c) ∨ d = .non ∨ d = .int 1 ∨ d = .tup [.non] ∨ d = .tup [.tup [.int 0, .int 1, .int 2]]
structure Tries (n : Nat) (ds : List D) : Prop where
  len : ds.length ≤ n
  ok : ∀ d ∈ ds, TryP d
theorem Tries.app {n m k : Nat} {a b : List D} (h1 : Tries n a) (h2 : Tries m b) (h : n + m ≤ k) : Tries k (a ++ b) := ⟨by have := h1.len; have := h2.len; rw [List.length_append]; omega, fun d hd => by
  rcases List.mem_append.mp hd with hd | hd
  · exact h1.ok d hd
  · exact h2.ok d hd⟩
theorem TryP.ch {c : List (Nat × Nat)} (h : c.length ≤ 100) : TryP (chV c) := .inl ⟨c, h, rfl⟩
theorem cut_ch1 (c : List (Nat × Nat)) : cutL (c.map prD) (some 1) none = (c.drop 1).map prD := by
  unfold cutL
  have e1 : six (c.map prD).length 0 (some 1) = min 1 c.length := by
    rw [List.length_map]; rfl
  have e2 : six (c.map prD).length (c.map prD).length none = c.length := by rw [List.length_map]; rfl
  rw [e1, e2, ← List.map_drop, ← List.map_take]
  congr 1
  cases c <;> simp
theorem cut_chZ (c : List (Nat × Nat)) : cutL (c.map prD) (some (-1)) none = (c.drop (c.length - 1)).map prD := by
  unfold cutL
  have e1 : six (c.map prD).length 0 (some (-1)) = c.length - 1 := by
    rw [List.length_map]
    have e : six c.length 0 (some (-1)) = if (-1 : Int) < 0 then ((-1 : Int) + (c.length : Int)).toNat else min (-1 : Int).toNat c.length := rfl
    rw [e, if_pos (by decide)]
    omega
  have e2 : six (c.map prD).length (c.map prD).length none = c.length := by rw [List.length_map]; rfl
  rw [e1, e2, ← List.map_drop, ← List.map_take]
  congr 1
  rw [List.take_of_length_le (by simp)]
theorem cutB {α : Type} (f : α → D) (L : List α) (b : Nat) : cutL (L.map f) none (some (b : Nat)) = (L.take b).map f := by
  have := cut_lst f L b
  rw [sl_lst] at this
  injection this with t
  injection t
theorem acF_pos {l : List Pl} {first : Nat} : ∀ {k : Nat} {row : List (Nat × Nat)}, row ∈ acF l first k → ∀ p ∈ row, p.1 < p.2
  | 0, row, h, p, hp => by
    have : row = [] := by simpa [acF] using h
    rw [this] at hp; cases hp
  | k + 1, row, h, p, hp => by
    have h := List.mem_of_mem_take h
    unfold acN at h
    rw [List.mem_flatMap] at h
    obtain ⟨r, h1, h2⟩ := h
    unfold extC at h2
    rw [List.mem_flatMap] at h2
    obtain ⟨i, _, h3⟩ := h2
    split at h3
    · obtain ⟨j, hj, rfl⟩ := List.mem_map.mp h3
      rcases List.mem_append.mp hp with hp | hp
      · exact acF_pos h1 p hp
      · rw [List.mem_singleton.mp hp]
        exact sur_lt (List.mem_filter.mp hj).2
    · cases h3

end PF

namespace PF
open PySem

theorem li_pr {n : Nat} (p : Nat × Nat) : callF KT (n + 2) 57 [prD p] = .ok (prS false p) := by
  have := listed_tup (T := KT) (n := n + 1) f57 (l := [p.1, p.2]) (e := nm) (g := nm) (by simp) fun i _ => listed_int f57 _
  simpa [prD, prS, seqD] using this
theorem li_ch {n : Nat} {c : List (Nat × Nat)} (h : c.length ≤ 1000) : callF KT (n + 3) 57 [chV c] = .ok (chS false c) := by
  have := listed_tup (T := KT) (n := n + 2) f57 (l := c) (e := prD) (g := prS false) h fun p _ => li_pr p
  simpa [chV, chS, seqD] using this

theorem x110a {n : Nat} {l : List Pl} (hl : OkB l) {first : Nat} (hf : first ≤ 1) {e : D} (h : e = .non ∨ e = .int 1) : callF KT (n + 4) 110 [bd l, nm first, e] = .ok .non := by
  refine fn_wp f110 (by simp) ?_
  have e1 : callF KT (n + 3) 2 [e] = .ok (.bl false) := by
    rcases h with rfl | rfl <;> (refine fn_wp f2 (by simp) ?_; simp [startE, isTs, isT])
  simp [startE, e1]
theorem x110b {n : Nat} {l : List Pl} (hl : OkB l) {first : Nat} (hf : first ≤ 1) {e : D} (h : e = .non ∨ e = .lst [.int 0, .int 1, .int 2]) : callF KT (n + 4) 110 [bd l, nm first, .lst [e]] = .ok .non := by
  refine fn_wp f110 (by simp) ?_
  have e1 : callF KT (n + 3) 2 [.lst [e]] = .ok (.bl true) := is_seq_spec (n := n + 2) f2 false [e]
  have t := s64 (n := n + 1) hl
  have pk : callF KT (n + 3) 100 [e, .int (l.length : Nat)] = .ok .non := by
    refine fn_wp f100 (by simp) ?_
    have e2 : callF KT (n + 2) 2 [.non] = .ok (.bl false) := by
      refine fn_wp f2 (by simp) ?_
      simp [startE, isTs, isT]
    have e3 : callF KT (n + 2) 2 [.lst [.int 0, .int 1, .int 2]] = .ok (.bl true) := is_seq_spec (n := n + 1) f2 false _
    rcases h with rfl | rfl <;> simp [startE, e2, e3]
  have n0 : isNon .non = true := rfl
  simp [startE, e1, t]
  rw [show [e] = [e].map id from rfl]
  refine wp_stop (fun pre ρ => pre = [] ∧ ∃ y7 y8, ρ = [.fr (bd l), .fr (nm first), .fr (.lst [e]), .fr (surD l), .fr (nm first), .fr (.int 0), .own [], y7, y8]) (fun pre p => some .non) ⟨rfl, _, _, rfl⟩ ?_ ?_ ?_
  · rintro pre p post ρ hl2 ⟨rfl, y7, y8, rfl⟩
    have : p = e := by simp at hl2; exact hl2.1.symm
    subst this
    simp [len_bd, pk, n0]
  · rintro h2 ρ' ⟨h3, _⟩
    cases h3
  · intro pre p post d hl2 _ hs
    simp at hs
    simp [hs]

theorem x121a {n : Nat} {l : List Pl} {first : Nat} {e : D} (h : e = .non ∨ e = .int 1) : callF KT (n + 3) 121 [bd l, nm first, e] = .ok (.bl false) := by
  refine fn_wp f121 (by simp) ?_
  rcases h with rfl | rfl <;> simp [startE, isT]
theorem x121b {n : Nat} {l : List Pl} {first : Nat} {e : D} (h : e = .non ∨ e = .tup [.int 0, .int 1, .int 2]) : callF KT (n + 3) 121 [bd l, nm first, .tup [e]] = .ok (.bl false) := by
  refine fn_wp f121 (by simp) ?_
  have e0 : eqR (.tup [e]) (.tup []) = .ok false := by rcases h with rfl | rfl <;> rfl
  have t : isT (.tup [e]) .tuple = .ok true := rfl
  have e1 : eqR (.lst [e]) (.lst []) = .ok false := by rcases h with rfl | rfl <;> rfl
  simp [startE, t, e0]
  rw [show [e] = [e].map id from rfl, comp_map id (by simp) fun x hx => ?_]
  · simp [e1]
  · have : x = e := by simpa using hx
    subst this
    rcases h with rfl | rfl <;> simp [yF, isT]

end PF

namespace PF
open PySem

/-- the end of a count at which a piece of this word ends -/
def endQ (l : List Pl) (w p : Nat) : Fq := if w = 0 then (lp l p).2 else (lp l p).1
def wsF (l : List Pl) (first : Nat) (ps : List Nat) : List Nat := (List.range (l.length - 1)).map (wordAt first ps)
theorem wsF_va {l : List Pl} {first : Nat} {ps : List Nat} {s : Nat} (h : s < l.length - 1) : va (wsF l first ps) s = wordAt first ps s := by simp [va, wsF, h]
theorem wsF_1 {l : List Pl} {first : Nat} {ps : List Nat} : ∀ v ∈ wsF l first ps, v ≤ 1 := fun v h => by
  obtain ⟨s, _, rfl⟩ := List.mem_map.mp h
  unfold wordAt
  omega
theorem wsF_len {l : List Pl} (hl : OkB l) {first : Nat} {ps : List Nat} : (wsF l first ps).length + 1 = l.length := by
  have := hl.pos
  simp [wsF]
  omega
/-- the row with its turning places at their ends -/
def tol (l : List Pl) (first : Nat) (ps : List Nat) (base : List Fq) : Nat → List Fq
  | 0 => base
  | k + 1 => (tol l first ps base k).set (paAt ps k) (endQ l ((first + k) % 2) (paAt ps k))
theorem tol_len (l : List Pl) (first : Nat) (ps : List Nat) (base : List Fq) : ∀ k, (tol l first ps base k).length = base.length
  | 0 => rfl
  | k + 1 => by
    show ((tol l first ps base k).set _ _).length = _
    rw [List.length_set, tol_len l first ps base k]
theorem qa_set_ne {r : List Fq} {i j : Nat} {q : Fq} (h : j ≠ i) : qa (r.set j q) i = qa r i := by
  unfold qa
  rw [List.getElem?_set_ne h]
theorem qa_set_eq {r : List Fq} {i : Nat} {q : Fq} (h : i < r.length) : qa (r.set i q) i = q := by
  simp [qa, h]
theorem tol_out {l : List Pl} {first : Nat} {ps : List Nat} {base : List Fq} {i : Nat} : ∀ k, (∀ a, a < k → paAt ps a ≠ i) → qa (tol l first ps base k) i = qa base i
  | 0, _ => rfl
  | k + 1, h => by
    show qa ((tol l first ps base k).set _ _) i = _
    rw [qa_set_ne (h k (by omega)), tol_out k fun a ha => h a (by omega)]
theorem tol_in {l : List Pl} {first : Nat} {ps : List Nat} {base : List Fq} (inj : ∀ a b, a < b → b < ps.length → paAt ps a < paAt ps b) : ∀ k a, k ≤ ps.length → a < k → paAt ps a < base.length → qa (tol l first ps base k) (paAt ps a) = endQ l ((first + a) % 2) (paAt ps a)
  | 0, a, _, h, _ => absurd h (by omega)
  | k + 1, a, hk, h, hb => by
    show qa ((tol l first ps base k).set _ _) _ = _
    by_cases e : a = k
    · subst e
      rw [qa_set_eq (by rw [tol_len]; exact hb)]
    · have := inj a k (by omega) (by omega)
      rw [qa_set_ne (by omega), tol_in inj k a (by omega) (by omega) hb]
/-- turning places that go up -/
structure Up (n first : Nat) (ps : List Nat) : Prop where
  lt : ∀ a, a < ps.length → paAt ps a < n
  inj : ∀ a b, a < b → b < ps.length → paAt ps a < paAt ps b
  w1 : ∀ a, a < ps.length → 1 ≤ paAt ps a → wordAt first ps (paAt ps a - 1) = (first + a) % 2
  w2 : ∀ a, a < ps.length → wordAt first ps (paAt ps a) = (first + a + 1) % 2
theorem up_of {n first : Nat} {ps : List Nat} (ha : ascN n 0 ps = true) (h2 : ps.length ≤ 2) (hd : ∀ k, 1 ≤ k → k < ps.length → paAt ps k ≠ paAt ps (k - 1)) : Up n first ps := by
  match ps, h2 with
  | [], _ => exact ⟨by simp, by simp, by simp, by simp⟩
  | [a], _ =>
    simp [ascN] at ha
    refine ⟨?_, ?_, ?_, ?_⟩
    · intro i hi; have : i = 0 := by simpa using hi
      subst this; simpa [paAt] using ha
    · intro i j h1 h2; simp at h2; omega
    · intro i hi; have : i = 0 := by simpa using hi
      subst this
      simp [paAt, wordAt, ahead_c]
      intro h
      rw [if_neg (by omega)]
      simp [ahead]
    · intro i hi; have : i = 0 := by simpa using hi
      subst this
      simp [paAt, wordAt, ahead_c]
      simp [ahead]
  | [a, b], _ =>
    simp [ascN] at ha
    have d := hd 1 (by omega) (by simp)
    simp [paAt] at d
    have lt : a < b := by omega
    refine ⟨?_, ?_, ?_, ?_⟩
    · intro i hi
      have : i = 0 ∨ i = 1 := by simp at hi; omega
      rcases this with rfl | rfl <;> simp [paAt] <;> omega
    · intro i j h1 h2
      have : i = 0 ∧ j = 1 := by simp at h2; omega
      obtain ⟨rfl, rfl⟩ := this
      simpa [paAt] using lt
    · intro i hi
      have : i = 0 ∨ i = 1 := by simp at hi; omega
      rcases this with rfl | rfl
      · simp [paAt, wordAt, ahead_c]
        intro h
        rw [if_neg (by omega), if_neg (by omega)]
        simp [ahead]
      · simp [paAt, wordAt, ahead_c]
        intro h
        rw [if_pos (by omega), if_neg (by omega)]
        simp [ahead]
    · intro i hi
      have : i = 0 ∨ i = 1 := by simp at hi; omega
      rcases this with rfl | rfl
      · simp [paAt, wordAt, ahead_c]
        rw [if_neg (by omega)]
        simp [ahead]
      · simp [paAt, wordAt, ahead_c]
        rw [if_pos (by omega)]
        simp [ahead]
        omega
  | _ :: _ :: _ :: _, h => simp at h
section
variable {l : List Pl} (hl : OkB l) (h3 : 2 ≤ l.length) {first : Nat} (hf : first ≤ 1) {ps : List Nat} (up : Up l.length first ps) (ok : okUp (surN l) (wordAt first ps) 0 (l.length - 1))
include hl h3 hf up ok
def rowX (l : List Pl) (first : Nat) (ps : List Nat) : List Fq := tol l first ps (rowA l (wsF l first ps)) ps.length
omit h3 hf up in
theorem okV : okUp (surN l) (va (wsF l first ps)) 0 (l.length - 1) := fun w i j h1 h2 h3 hc => ok w i j h1 h2 h3 fun s s1 s2 => by
  rw [← wsF_va (l := l) (show s < l.length - 1 by omega)]
  exact hc s s1 s2
theorem at_turn {a : Nat} (ha : a < ps.length) (hp : paAt ps a < l.length - 1) : vq (cR l (wsF l first ps) (paAt ps a)) = vq (endQ l ((first + a) % 2) (paAt ps a)) := by
  have hv := wsF_len hl (first := first) (ps := ps)
  have v2 : va (wsF l first ps) (paAt ps a) = (first + a + 1) % 2 := by rw [wsF_va hp]; exact up.w2 a ha
  by_cases z : paAt ps a = 0
  · have a0 : a = 0 := by
      by_cases h : a = 0
      · exact h
      · have := up.inj 0 a (by omega) ha
        omega
    subst a0
    rw [z] at v2 ⊢
    have n0 : nwP l (wsF l first ps) 0 = lp l 0 := by unfold nwP; rw [if_neg (by omega)]
    unfold cR endQ
    rw [n0, v2]
    have : first = 0 ∨ first = 1 := by omega
    rcases this with rfl | rfl
    · rw [if_pos (by constructor <;> omega), if_pos (by rfl)]
    · rw [if_neg (by omega), if_neg (by decide)]
  · have v1 : va (wsF l first ps) (paAt ps a - 1) = (first + a) % 2 := by rw [wsF_va (by omega)]; exact up.w1 a ha (by omega)
    have b := (rowA_in hl hv wsF_1 (okV hl ok) (paAt ps a) (by omega)).1
    have e : nwP l (wsF l first ps) (paAt ps a) = (endQ l ((first + a) % 2) (paAt ps a), endQ l ((first + a) % 2) (paAt ps a)) := by
      unfold nwP
      rw [if_pos ⟨by omega, by omega, by rw [v1, v2]; omega⟩, v1]
      unfold endQ
      split <;> rfl
    rw [e] at b
    exact Rat.le_antisymm b.2 b.1
theorem rowX_len : (rowX l first ps).length = l.length := by
  unfold rowX
  rw [tol_len]
  have := wsF_len hl (first := first) (ps := ps)
  simp [rowA]
  omega
theorem rowX_v {i : Nat} (h : i < l.length) : (qa (rowX l first ps) i = cR l (wsF l first ps) i ∧ ∀ a, a < ps.length → paAt ps a ≠ i) ∨ ∃ a, a < ps.length ∧ paAt ps a = i ∧ qa (rowX l first ps) i = endQ l ((first + a) % 2) i := by
  have hv := wsF_len hl (first := first) (ps := ps)
  by_cases e : ∃ a, a < ps.length ∧ paAt ps a = i
  · obtain ⟨a, h1, rfl⟩ := e
    exact .inr ⟨a, h1, rfl, tol_in up.inj ps.length a (Nat.le_refl _) h1 (by simp [rowA]; omega)⟩
  · refine .inl ⟨?_, fun a h1 h2 => e ⟨a, h1, h2⟩⟩
    unfold rowX
    rw [tol_out ps.length fun a h1 h2 => e ⟨a, h1, h2⟩, qa_rowA (by omega)]
omit h3 hf up ok in
theorem endQ_ok {w p : Nat} (h : p < l.length) : OkF lim (endQ l w p) := by
  have := hl.ok _ (lp_mem h)
  unfold endQ
  split
  · exact this.hi
  · exact this.lo
theorem rowX_ok : OkR (rowX l first ps) := by
  have ln := rowX_len hl h3 hf up ok
  have hv := wsF_len hl (first := first) (ps := ps)
  refine ⟨fun q hq => ?_, by omega, by have := hl.most; omega⟩
  obtain ⟨i, hi, rfl⟩ := List.getElem_of_mem hq
  have e : (rowX l first ps)[i] = qa (rowX l first ps) i := by simp [qa, hi]
  rw [e]
  rcases rowX_v hl h3 hf up ok (show i < l.length by omega) with ⟨h, _⟩ | ⟨a, _, _, h⟩
  · rw [h]; exact cR_ok hl _ i (by omega)
  · rw [h]; exact endQ_ok hl (by omega)
/-- but for the last place nothing is changed -/
theorem rowX_in {i : Nat} (h : i < l.length - 1) : vq (qa (rowX l first ps) i) = vq (cR l (wsF l first ps) i) := by
  rcases rowX_v hl h3 hf up ok (show i < l.length by omega) with ⟨e, _⟩ | ⟨a, h1, rfl, e⟩
  · rw [e]
  · rw [e, at_turn hl h3 hf up ok h1 h]
theorem rowX_fits : wiB l (rowX l first ps) = true := by
  have ln := rowX_len hl h3 hf up ok
  have hv := wsF_len hl (first := first) (ps := ps)
  rw [wiB_iff hl (rowX_ok hl h3 hf up ok).ok (by omega)]
  intro i hi'
  have lh := lo_hi hl (show i < l.length by omega)
  rcases rowX_v hl h3 hf up ok (show i < l.length by omega) with ⟨e, _⟩ | ⟨a, h1, _, e⟩
  · rw [e]
    have b := (rowA_in hl hv wsF_1 (okV hl ok) i (by omega)).1
    have n := nw_sub hl (wsF l first ps) (show i < l.length by omega)
    exact ⟨Rat.le_trans n.1 b.1, Rat.le_trans b.2 n.2⟩
  · rw [e]
    unfold endQ
    unfold lo hi at *
    split
    · exact ⟨lh, Rat.le_refl⟩
    · exact ⟨Rat.le_refl, lh⟩
theorem rowX_goes : goesB (wd (rowX l first ps)) l.length first ps = true := by
  have ln := rowX_len hl h3 hf up ok
  have hv := wsF_len hl (first := first) (ps := ps)
  have okr := (rowX_ok hl h3 hf up ok).ok
  unfold goesB
  rw [List.all_eq_true]
  intro s hs
  have hs : s < l.length - 1 := by simpa using hs
  have st := rowA_step hl (wsF l first ps) (show s + 1 < l.length by omega) wsF_1
  rw [wsF_va hs] at st
  have e1 := rowX_in hl h3 hf up ok hs
  have key : (wordAt first ps s = 0 → vq (qa (rowX l first ps) s) ≤ vq (qa (rowX l first ps) (s + 1))) ∧ (wordAt first ps s = 1 → vq (qa (rowX l first ps) (s + 1)) ≤ vq (qa (rowX l first ps) s)) := by
    rw [e1]
    by_cases h : s + 1 < l.length - 1
    · rw [rowX_in hl h3 hf up ok h]
      exact st
    · rcases rowX_v hl h3 hf up ok (show s + 1 < l.length by omega) with ⟨e, _⟩ | ⟨a, h1, h2, e⟩
      · rw [e]
        exact st
      · have w := up.w1 a h1 (by omega)
        rw [h2] at w
        have w : wordAt first ps s = (first + a) % 2 := w
        have b := (rowA_in hl hv wsF_1 (okV hl ok) (s + 1) (by omega)).1
        have n := nw_sub hl (wsF l first ps) (show s + 1 < l.length by omega)
        rw [e, ← w]
        unfold endQ
        unfold lo hi at n
        constructor
        · intro h0
          rw [if_pos h0]
          exact Rat.le_trans (st.1 h0) (Rat.le_trans b.2 n.2)
        · intro h0
          rw [if_neg (by omega)]
          exact Rat.le_trans n.1 (Rat.le_trans b.1 (st.2 h0))
  have o1 := okr _ (qa_mem (show s < (rowX l first ps).length by omega))
  have o2 := okr _ (qa_mem (show s + 1 < (rowX l first ps).length by omega))
  have wl : wordAt first ps s = 0 ∨ wordAt first ps s = 1 := by unfold wordAt; omega
  unfold wd
  rw [ltQ_val o1 o2, ltQ_val o2 o1]
  rcases wl with w | w
  · have := key.1 w
    have c : ¬ (vq (qa (rowX l first ps) (s + 1)) < vq (qa (rowX l first ps) s)) := by grind
    rw [w]
    by_cases c2 : vq (qa (rowX l first ps) s) < vq (qa (rowX l first ps) (s + 1)) <;> simp [c, c2]
  · have := key.2 w
    have c : ¬ (vq (qa (rowX l first ps) s) < vq (qa (rowX l first ps) (s + 1))) := by grind
    rw [w]
    by_cases c2 : vq (qa (rowX l first ps) (s + 1)) < vq (qa (rowX l first ps) s) <;> simp [c, c2]
end
end PF

namespace PF
open PySem

theorem lowQ_ok {N : Nat} {q : Fq} (h : OkF N q) : lowQ q.1 q.2 = q := by
  unfold lowQ
  rw [h.gcd]
  simp
/-- two neighbours are alike -/
def eqN (ps : List Nat) : Bool := (List.range' 1 (ps.length - 1)).any fun k => paAt ps k == paAt ps (k - 1)

theorem s115 {n : Nat} {q : Fq} (hq : OkF lim q) : callF KT (n + 2) 115 [fr q, .bl true] = .ok (.bl true) := by
  refine fn_wp f115 (by simp) ?_
  have h2 : q.2.natAbs < 2 ^ 200 := Nat.lt_of_le_of_lt hq.b2 (by decide)
  have L : callF KT (n + 1) 32 [.int q.1, .int q.2] = .ok (fr (lowQ q.1 q.2)) := low_spec f32 hq.pos h2
  rw [lowQ_ok hq] at L
  have e := eq_fr q q
  have t : isT (fr q) .tuple = .ok true := rfl
  have ln : bltR .len [fr q] = .ok (.int 2) := rfl
  have i0 : idxR (fr q) (.int 0) = .ok (.int q.1) := rfl
  have i1 : idxR (fr q) (.int 1) = .ok (.int q.2) := rfl
  have hp := hq.pos
  simp [startE, t, ln, i0, i1, s114, L, e, hp]

theorem s116 {n : Nat} {r : List Fq} (hr : OkR r) : callF KT (n + 3) 116 [rw r, .int (r.length : Nat)] = .ok (.bl true) := by
  refine fn_wp f116 (by simp) ?_
  have t : isT (rw r) .tuple = .ok true := rfl
  have ln : bltR .len [rw r] = .ok (.int (r.length : Nat)) := by simp [rw]
  have it : itemsR (rw r) = .ok (r.map fr) := rfl
  have ee : eqR (.lst []) (.lst []) = .ok true := rfl
  have hm := hr.most
  simp [startE, t, ln, it]
  rw [comp_flt fr (fun _ => false) (by omega) fun q hq => ?_]
  · have fe : r.filter (fun _ => false) = [] := by
      rw [List.filter_eq_nil_iff]
      intro _ _ h
      cases h
    rw [fe]
    simp [ee]
  · have := s115 (n := n) (hr.ok q hq)
    simp [yF, this]

theorem s117 {n : Nat} {l : List Pl} (hl : OkB l) {r : List Fq} (hr : OkR r) (hlen : r.length = l.length) (w : wiB l r = true) : callF KT (n + 4) 117 [bd l, rw r] = .ok (.bl true) := by
  refine fn_wp f117 (by simp) ?_
  have a := s116 (n := n) hr
  rw [hlen] at a
  have ln : bltR .len [rw r] = .ok (.int (r.length : Nat)) := by simp [rw]
  have hm := hr.most
  have ee : eqR (.lst []) (.lst []) = .ok true := rfl
  simp [startE, len_bd, a, ln]
  rw [rng0 r.length rfl (by omega)]
  simp
  rw [comp_flt nm (fun _ => false) (by simp; omega) fun i hi => ?_]
  · have fe : (List.range r.length).filter (fun _ => false) = [] := by
      rw [List.filter_eq_nil_iff]
      intro _ _ h
      cases h
    rw [fe]
    simp [ee]
  · have hi : i < r.length := by simpa using hi
    unfold wiB at w
    rw [List.all_eq_true] at w
    have w := w i (by simpa using hi)
    simp only [Bool.and_eq_true, Bool.not_eq_true'] at w
    have o1 := hr.ok _ (qa_mem hi)
    have o2 := hl.ok _ (lp_mem (show i < l.length by omega))
    have o3 := o2.lo
    have o4 := o2.hi
    have a1 : idxR (bd l) (.int (i : Nat)) = .ok (pl (lp l i)) := at_pl (by omega)
    have a2 : idxR (rw r) (.int (i : Nat)) = .ok (fr (qa r i)) := by
      show idxR (.tup (r.map fr)) _ = _
      rw [ix_tup, atL_map i rfl hi]
      simp [qa, hi]
    simp [yF, a1, a2, pl, o1, o3, o4, w.1, w.2]

theorem fc_exc' (C : Cal) (t : Tg) (body : List S) (ds : List D) (k : Nat) (n : Int) : fcO C t body ds (.exc k n) = .exc k n := by unfold fcO; rfl

end PF

namespace PF
open PySem

/-- the turning places of the greedy chain -/
def plL (l : List Pl) (first many : Nat) : List Nat := gPl (chn (surN l) l.length many first 0) l.length many
theorem can_good {l : List Pl} (hl : OkB l) {first many : Nat} (hf : first ≤ 1) (h : canH l first many = true) : GoodP (surN l) l.length first (plL l first many) ∧ (plL l first many).length = many - 1 := by
  unfold canH at h
  rw [chn_N (Nat.le_refl _), decide_eq_true_eq] at h
  exact good_some (iv_sur hl) hl.pos hf h
theorem okVs {l : List Pl} {first : Nat} {ps : List Nat} : okUp (surN l) (va (wsF l first ps)) 0 (l.length - 1) ↔ okUp (surN l) (wordAt first ps) 0 (l.length - 1) := by
  constructor
  · intro h w i j h1 h2 h3 hc
    refine h w i j h1 h2 h3 fun s s1 s2 => ?_
    rw [wsF_va (by omega)]
    exact hc s s1 s2
  · intro h w i j h1 h2 h3 hc
    refine h w i j h1 h2 h3 fun s s1 s2 => ?_
    rw [← wsF_va (l := l) (show s < l.length - 1 by omega)]
    exact hc s s1 s2
/-- the row by turning places -/
def rowP (l : List Pl) (first : Nat) (ps : List Nat) : List Fq := rowA l (wsF l first ps)
theorem rowP_okR {l : List Pl} (hl : OkB l) {first : Nat} {ps : List Nat} : OkR (rowP l first ps) := by
  have hv := wsF_len hl (first := first) (ps := ps)
  have := hl.most
  exact ⟨rowA_ok hl hv, by simp [rowP, rowA], by simp [rowP, rowA]; omega⟩
theorem rowP_len {l : List Pl} (hl : OkB l) {first : Nat} {ps : List Nat} : (rowP l first ps).length = l.length := by
  have hv := wsF_len hl (first := first) (ps := ps)
  simp [rowP, rowA, hv]
theorem rowP_fits {l : List Pl} (hl : OkB l) {first : Nat} {ps : List Nat} (h : okUp (surN l) (wordAt first ps) 0 (l.length - 1)) : wiB l (rowP l first ps) = true := rowA_fits hl (wsF_len hl) wsF_1 (okVs.mpr h)
theorem rowP_goes {l : List Pl} (hl : OkB l) {first : Nat} {ps : List Nat} : goesB (wd (rowP l first ps)) l.length first ps = true := by
  have hv := wsF_len hl (first := first) (ps := ps)
  unfold goesB
  rw [List.all_eq_true]
  intro s hs
  have hs : s < l.length - 1 := by simpa using hs
  have := rowA_goes hl hv wsF_1 (show s < (wsF l first ps).length by omega)
  rw [wsF_va hs] at this
  simpa [rowP] using this

theorem s75l {n : Nat} {first : Nat} {ps : List Nat} (hl : ps.length ≤ 1000) {size : Nat} (h1 : 1 ≤ size) (hs : size ≤ 1000) : callF KT (n + 1) 75 [nm first, .lst (ps.map nm), nm size] = .ok (.tup (((List.range (size - 1)).map (wordAt first ps)).map nm)) := by
  refine fn_wp f75 (by simp) ?_
  simp [startE]
  rw [rng0 (size - 1) (by omega) (by omega)]
  simp
  refine wp_pre (fun pre ρ => ∃ y4 y5 y6, ρ = [.fr (nm first), .fr (.lst (ps.map nm)), .fr (nm size), .own ((pre.map (wordAt first ps)).map nm), y4, y5, y6]) ⟨_, _, _, rfl⟩ ?_ ?_
  · rintro pre i post ρ hl2 ⟨y4, y5, y6, rfl⟩
    have lc : pre.length < 1000000 := by
      have := congrArg List.length hl2
      simp at this
      omega
    simp
    rw [comp_flt nm (fun p => decide (p ≤ i)) (by omega) fun p hp => ?_]
    · have fm : ((first : Int) + ((ps.filter fun p => decide (p ≤ i)).length : Nat)).fmod 2 = ((wordAt first ps i : Nat) : Int) := fmod2 first _
      simp [fm, lc]
    · by_cases h : p ≤ i <;> simp [yF, h]
  · rintro ρ' ⟨y4, y5, y6, rfl⟩
    simp

/-- the row that is told -/
def toldR (l : List Pl) (first many : Nat) : D := .tup [rw (rowP l first (plL l first many)), plc (plL l first many)]
theorem s108 {n : Nat} {l : List Pl} (hl : OkB l) {first many : Nat} (hf : first ≤ 1) (h1 : 1 ≤ many) (h2 : many ≤ 10) : callF KT (n + 4) 108 [bd l, nm first, nm many] = .ok (if canH l first many = true then toldR l first many else .non) := by
  refine fn_wp f108 (by simp) ?_
  have hlp := hl.pos
  have hlm := hl.most
  have a := s64 (n := n + 1) hl
  have c : callF KT (n + 3) 104 [surD l, .int (l.length : Nat), nm first, .int 0, nm many] = .ok (.tup ((chn (sur l) l.length many first 0).map prD)) := s104 (n := n + 1) hl (size := l.length) (w := first) (start := 0) (Nat.le_refl _) hf (by omega) (by omega)
  have cl := chn_len (sur l) l.length many first 0
  by_cases h : canH l first many = true
  · rw [if_pos h]
    obtain ⟨g1, g2⟩ := can_good hl hf h
    have W : callF KT (n + 3) 75 [nm first, plc (plL l first many), .int (l.length : Nat)] = .ok (plc (wsF l first (plL l first many))) := s75 (n := n + 2) (by omega) (by omega) (by omega)
    have R := s107 (n := n) hl (wsF_len hl (first := first) (ps := plL l first many)) wsF_1
    rw [(rowA_iff hl (wsF_len hl) wsF_1).mpr (okVs.mpr g1.2)] at R
    have R : callF KT (n + 3) 107 [bd l, plc (wsF l first (plL l first many))] = .ok (rw (rowP l first (plL l first many))) := R
    have hlt : (chn (sur l) l.length many first 0).length < many := by unfold canH at h; simpa using h
    have up := ch_up (chn_ch (Sr := surN l) l.length many first 0)
    have pe : plL l first many = (chn (sur l) l.length many first 0).map (fun p => p.2 - 1) ++ List.replicate (many - 1 - (chn (sur l) l.length many first 0).length) (l.length - 1) := by
      unfold plL gPl
      rw [chn_N (Nat.le_refl _)]
    rw [← chn_N (Nat.le_refl _)] at up
    have T : toldR l first many = .tup [rw (rowP l first (plL l first many)), plc (plL l first many)] := rfl
    rw [T]
    generalize rowP l first (plL l first many) = row at *
    generalize plL l first many = P at *
    generalize chn (sur l) l.length many first 0 = g at *
    have ne : ((g.length : Int) == (many : Int)) = false := by simp; omega
    simp [startE, len_bd, a, c, ne, show g.length ≠ many by omega]
    rw [comp_map (fun p => nm (p.2 - 1)) (by omega) fun p hp => ?_]
    rotate_left
    · have := up p hp
      have i1 : idxR (prD p) (.int 1) = .ok (nm p.2) := rfl
      simp [yF, i1]
      omega
    simp
    refine wp_whl (fun k ρ => ∃ (m : Nat), ρ = [.fr (bd l), .fr (nm first), .fr (nm many), .fr (nm l.length), .fr (.tup (g.map prD)), .own ((g.map (fun (p : Nat × Nat) => p.2 - 1) ++ List.replicate m (l.length - 1)).map nm), .un] ∧ k + (g.length + m) = many - 1) (k := many - 1 - g.length) (by omega) ⟨0, by simp, by omega⟩ ?_
    rintro k ρ ⟨m, rfl, hk⟩
    refine ⟨decide (g.length + m < many - 1), ?_, ?_, ?_⟩
    · simp
      omega
    · intro h
      have h : ¬ (g.length + m < many - 1) := by simpa using h
      have em : m = many - 1 - g.length := by omega
      subst em
      rw [← pe]
      have W' : callF KT (n + 3) 75 [nm first, .lst (P.map nm), .int (l.length : Nat)] = .ok (plc (wsF l first P)) := s75l (n := n + 2) (by omega) (by omega) (by omega)
      have pt : D.tup (P.map nm) = plc P := rfl
      simp [W', R, pt]
    · intro h
      have h : g.length + m < many - 1 := by simpa using h
      simp [show g.length + m < 1000000 by omega]
      exact ⟨k - 1, by omega, m + 1, by rw [List.replicate_succ', nm_eq (show ((l.length : Int) - 1) = ((l.length - 1 : Nat) : Int) by omega)], by omega⟩
  · rw [if_neg h]
    have hlt : (chn (sur l) l.length many first 0).length = many := by unfold canH at h; simp at h; omega
    simp [startE, len_bd, a, c, hlt]
end PF

namespace PF
open PySem

theorem s117g {n : Nat} {l : List Pl} (hl : OkB l) {r : List Fq} (hr : OkR r) (hlen : r.length = l.length) : callF KT (n + 4) 117 [bd l, rw r] = .ok (.bl (wiB l r)) := by
  refine fn_wp f117 (by simp) ?_
  have a := s116 (n := n) hr
  rw [hlen] at a
  have ln : bltR .len [rw r] = .ok (.int (r.length : Nat)) := by simp [rw]
  have hm := hr.most
  simp [startE, len_bd, a, ln]
  rw [rng0 r.length rfl (by omega)]
  simp
  rw [comp_flt nm (fun i => ltQ (qa r i) (lp l i).1 || ltQ (lp l i).2 (qa r i)) (by simp; omega) fun i hi => ?_]
  · have E3 := eq_lst_any nm (fun i => rfl) ((List.range r.length).filter fun i => ltQ (qa r i) (lp l i).1 || ltQ (lp l i).2 (qa r i))
    have en : ((List.range r.length).filter fun i => ltQ (qa r i) (lp l i).1 || ltQ (lp l i).2 (qa r i)).isEmpty = wiB l r := by
      rw [filt_any, List.not_any_eq_all_not]
      unfold wiB
      congr 1
      funext i
      rw [Bool.not_or]
    rw [en] at E3
    generalize ((List.range r.length).filter fun i => ltQ (qa r i) (lp l i).1 || ltQ (lp l i).2 (qa r i)) = FL at *
    simp [E3]
  · have hi : i < r.length := by simpa using hi
    have o1 := hr.ok _ (qa_mem hi)
    have o2 := hl.ok _ (lp_mem (show i < l.length by omega))
    have o3 := o2.lo
    have o4 := o2.hi
    have a1 : idxR (bd l) (.int (i : Nat)) = .ok (pl (lp l i)) := at_pl (by omega)
    have a2 : idxR (rw r) (.int (i : Nat)) = .ok (fr (qa r i)) := by
      show idxR (.tup (r.map fr)) _ = _
      rw [ix_tup, atL_map i rfl hi]
      simp [qa, hi]
    rcases Bool.eq_false_or_eq_true (ltQ (qa r i) (lp l i).1) with c1 | c1 <;> rcases Bool.eq_false_or_eq_true (ltQ (lp l i).2 (qa r i)) with c2 | c2 <;> simp [yF, a1, a2, pl, o1, o3, o4, c1, c2]

/-- a row and its turning places are shown -/
def shB (l : List Pl) (first many : Nat) (r : List Fq) (ps : List Nat) : Bool := decide (ps.length + 1 = many) && ascN l.length 0 ps && wiB l r && goesB (wd r) l.length first ps
theorem s109 {n : Nat} (b c d : Bool) {l : List Pl} (hl : OkB l) {first many : Nat} (hf : first ≤ 1) (h2 : many ≤ 20) {r : List Fq} (hr : OkR r) (hlen : r.length = l.length) {ps : List Nat} (hp : ps.length ≤ 20) : callF KT (n + 4) 109 [bd l, nm first, nm many, seqD b [rwS c r, seqD d (ps.map nm)]] = .ok (.bl (shB l first many r ps)) := by
  refine fn_wp f109 (by simp) ?_
  have e1 : callF KT (n + 3) 2 [seqD b [rwS c r, seqD d (ps.map nm)]] = .ok (.bl true) := is_seq_spec (n := n + 2) f2 b _
  have l2 : bltR .len [seqD b [rwS c r, seqD d (ps.map nm)]] = .ok (.int 2) := by rw [len_seqD]; rfl
  have i0 : idxR (seqD b [rwS c r, seqD d (ps.map nm)]) (.int 0) = .ok (rwS c r) := by rw [idx_seqD]; rfl
  have i1 : idxR (seqD b [rwS c r, seqD d (ps.map nm)]) (.int 1) = .ok (seqD d (ps.map nm)) := by rw [idx_seqD]; rfl
  have K : callF KT (n + 3) 12 [rwS c r, .int (l.length : Nat)] = .ok (rw r) := by rw [← hlen]; exact row_spec0 f0 f2 f8 f12 c hr
  have P := s72 (n := n) d (ps.map fun (p : Nat) => (p : Int)) (by simp; omega) (l.length : Nat) (many : Nat)
  rw [List.map_map, show (0 : Int) = ((0 : Nat) : Int) from rfl, ascZ_nat] at P
  have P : callF KT (n + 3) 72 [seqD d (ps.map nm), .int (l.length : Nat), nm many] = .ok (if ((ps.map fun (p : Nat) => (p : Int)).length : Int) = (many : Int) - 1 ∧ ascN l.length 0 ps = true then plc ps else .non) := P
  have W := s105 (n := n + 1) true hl hr.ok (by omega)
  have W : callF KT (n + 3) 105 [bd l, rw r] = .ok (.bl (wiB l r)) := W
  have G := s76 (n := n + 1) hr (first := first) (ps := ps) (by omega)
  rw [hlen] at G
  have n0 : isNon .non = true := rfl
  have n1 : isNon (rw r) = false := rfl
  have n2 : isNon (plc ps) = false := rfl
  generalize seqD b [rwS c r, seqD d (ps.map nm)] = T at *
  by_cases h1 : ps.length + 1 = many
  · by_cases h2 : ascN l.length 0 ps = true
    · rw [if_pos ⟨by simp; omega, h2⟩] at P
      unfold shB
      rw [h2]
      rcases Bool.eq_false_or_eq_true (wiB l r) with w | w <;> rw [w] at W <;> simp [startE, e1, l2, i0, i1, len_bd, K, P, n1, n2, W, G, h1, w]
    · rw [if_neg (by simp [h2])] at P
      have h2 : ascN l.length 0 ps = false := by simpa using h2
      have : shB l first many r ps = false := by unfold shB; rw [h2]; simp
      rw [this]
      simp [startE, e1, l2, i0, i1, len_bd, K, P, n1, n0]
  · rw [if_neg (by simp; omega)] at P
    have : shB l first many r ps = false := by unfold shB; simp [h1]
    rw [this]
    simp [startE, e1, l2, i0, i1, len_bd, K, P, n1, n0]

theorem asc_iff {n : Nat} : ∀ {ps : List Nat} {lo : Nat}, ascN n lo ps = true ↔ (∀ p ∈ ps, lo ≤ p ∧ p < n) ∧ ∀ k, 1 ≤ k → k < ps.length → paAt ps (k - 1) ≤ paAt ps k
  | [], lo => by simp [ascN]
  | p :: ps, lo => by
    have ih := asc_iff (n := n) (ps := ps) (lo := p)
    unfold ascN
    simp only [Bool.and_eq_true, decide_eq_true_eq]
    rw [ih]
    constructor
    · rintro ⟨⟨h1, h2⟩, h3, h4⟩
      refine ⟨fun q hq => ?_, fun k k1 k2 => ?_⟩
      · rcases List.mem_cons.mp hq with rfl | hq
        · exact ⟨h1, h2⟩
        · have := h3 q hq
          omega
      · obtain ⟨j, rfl⟩ : ∃ j, k = j + 1 := ⟨k - 1, by omega⟩
        have k2 : j < ps.length := by simpa using k2
        by_cases hj : j = 0
        · subst hj
          have := h3 ps[0] (List.getElem_mem _)
          simpa [paAt, k2] using this.1
        · have := h4 j (by omega) k2
          obtain ⟨i, rfl⟩ : ∃ i, j = i + 1 := ⟨j - 1, by omega⟩
          simpa [paAt] using this
    · rintro ⟨h1, h2⟩
      refine ⟨h1 p List.mem_cons_self, fun q hq => ?_, fun k k1 k2 => ?_⟩
      · refine ⟨?_, (h1 q (List.mem_cons_of_mem _ hq)).2⟩
        obtain ⟨i, hi, rfl⟩ := List.getElem_of_mem hq
        have go : ∀ j, j < ps.length → p ≤ paAt (p :: ps) (j + 1) := by
          intro j
          induction j with
          | zero => intro hj; have := h2 1 (by omega) (by simp; omega); simpa [paAt] using this
          | succ j ihj =>
            intro hj
            have a := ihj (by omega)
            have b := h2 (j + 2) (by omega) (by simp; omega)
            exact Nat.le_trans a b
        have := go i hi
        simpa [paAt, hi] using this
      · have := h2 (k + 1) (by omega) (by simp; omega)
        obtain ⟨i, rfl⟩ : ∃ i, k = i + 1 := ⟨k - 1, by omega⟩
        simpa [paAt] using this

theorem s118 {n : Nat} {m : Nat} {count : Int} {ps : List Nat} (hp : ps.length ≤ 1000) : callF KT (n + 2) 118 [nm m, plc ps, .int count] = .ok (.bl (decide ((ps.length : Int) = count) && ascN m 0 ps)) := by
  refine fn_wp f118 (by simp) ?_
  have t : isT (plc ps) .tuple = .ok true := rfl
  have ln : bltR .len [plc ps] = .ok (.int (ps.length : Nat)) := by simp [plc]
  have it : itemsR (plc ps) = .ok (ps.map nm) := rfl
  by_cases hc : (ps.length : Int) = count
  · subst hc
    simp [startE, t, ln, it]
    rw [comp_flt nm (fun p => !decide (p < m)) (by omega) fun p hp => ?_]
    rotate_left
    · by_cases h : p < m <;> simp [yF, s114, in_rng, h]
    have E3 := eq_lst_any nm (fun i => rfl) (ps.filter fun p => !decide (p < m))
    have en : (ps.filter fun p => !decide (p < m)).isEmpty = ps.all fun p => decide (p < m) := by
      rw [filt_any, List.not_any_eq_all_not]
      congr 1
      funext i
      rw [Bool.not_not]
    rw [en] at E3
    generalize (ps.filter fun p => !decide (p < m)) = FL at *
    rcases Bool.eq_false_or_eq_true (ps.all fun p => decide (p < m)) with h | h
    · rw [h] at E3
      simp [E3, ln]
      rw [rng_items (a := 1) 1 (ps.length - 1) rfl (by omega) (by omega)]
      simp
      rw [comp_flt nm (fun k => decide (paAt ps k < paAt ps (k - 1))) (by simp; omega) fun k hk => ?_]
      rotate_left
      · rw [List.mem_range'_1] at hk
        have i0 : idxR (plc ps) (nm k) = .ok (nm (paAt ps k)) := ix_plc (by omega)
        have i1 : idxR (plc ps) (.int ((k : Int) - 1)) = .ok (nm (paAt ps (k - 1))) := by
          rw [show (k : Int) - 1 = ((k - 1 : Nat) : Int) by omega]
          exact ix_plc (by omega)
        by_cases e : paAt ps k < paAt ps (k - 1) <;> simp [yF, i0, i1, e]
      have E4 := eq_lst_any nm (fun i => rfl) ((List.range' 1 (ps.length - 1)).filter fun k => decide (paAt ps k < paAt ps (k - 1)))
      have en2 : ((List.range' 1 (ps.length - 1)).filter fun k => decide (paAt ps k < paAt ps (k - 1))).isEmpty = ascN m 0 ps := by
        rw [filt_any, Bool.eq_iff_iff, asc_iff]
        rw [List.all_eq_true] at h
        simp only [Bool.not_eq_true', List.any_eq_false, decide_eq_true_eq, List.mem_range'_1]
        constructor
        · intro h1
          refine ⟨fun p hp => ⟨Nat.zero_le _, by simpa using h p hp⟩, fun k k1 k2 => ?_⟩
          have := h1 k (by omega)
          omega
        · rintro ⟨_, h1⟩ k hk
          have := h1 k (by omega) (by omega)
          omega
      rw [en2] at E4
      generalize ((List.range' 1 (ps.length - 1)).filter fun k => decide (paAt ps k < paAt ps (k - 1))) = FL2 at *
      simp [E4]
    · rw [h] at E3
      have : ascN m 0 ps = false := by
        cases ha : ascN m 0 ps with
        | false => rfl
        | true =>
          have h2 : (ps.all fun p => decide (p < m)) = true := by
            rw [List.all_eq_true]
            intro p hp
            have := (asc_iff.mp ha).1 p hp
            simpa using this.2
          rw [h] at h2
          cases h2
      rw [this]
      simp [E3]
  · have : ((ps.length : Int) == count) = false := by simpa using hc
    simp [startE, t, ln, hc, this]
end PF

namespace PF
open PySem

def mulQ (p q : Fq) : Fq := lowQ (p.1 * q.1) (p.2 * q.2)
theorem OkF.mul {N M : Nat} {p q : Fq} (hp : OkF N p) (hq : OkF M q) : OkF (N * M) (mulQ p q) := OkF.low (Int.mul_pos hp.pos hq.pos) (mul_abs hp.b1 hq.b1) (mul_abs hp.b2 hq.b2)

theorem s34 {n : Nat} {p q : Fq} (hp : OkF lim p) (hq : OkF lim q) : callF KT (n + 2) 34 [fr p, fr q] = .ok (fr (mulQ p q)) := by
  refine fn_wp f34 (by simp) ?_
  have hpos : 0 < p.2 * q.2 := Int.mul_pos hp.pos hq.pos
  have L : callF KT (n + 1) 32 [.int (p.1 * q.1), .int (p.2 * q.2)] = .ok (fr (mulQ p q)) := low_spec (n := n) f32 hpos (Nat.lt_of_le_of_lt (mul_abs hp.b2 hq.b2) (by decide))
  have i0 : ∀ q : Fq, idxR (fr q) (.int 0) = .ok (.int q.1) := fun _ => rfl
  have i1 : ∀ q : Fq, idxR (fr q) (.int 1) = .ok (.int q.2) := fun _ => rfl
  simp [startE, i0, i1, L, mulOk_l hp.b1, mulOk_l hp.b2]

theorem s123 {vs : List Int} (hv : 1 ≤ vs.length) (hv2 : vs.length ≤ 100) {l : List Pl} (hl : OkB l) (h80 : ∀ x ∈ l, OkP 80 x) : ∃ d, callF KT 59 123 [.lst (vs.map .int), bd l] = .ok d ∧ ∃ r, d = rw r ∧ OkR r ∧ r.length = l.length := by
  refine fn_wpE (n := 58) f123 (by simp) ?_
  have hlm := hl.most
  simp [startE, len_bd]
  rw [rng0 l.length rfl (by omega)]
  refine wp_pre (fun pre ρ => ∃ r y3 y4 y5 y6, ρ = [.fr (.lst (vs.map .int)), .fr (bd l), .own (r.map fr), y3, y4, y5, y6] ∧ r.length = pre.length ∧ ∀ q ∈ r, OkF lim q) ⟨[], _, _, _, _, rfl, rfl, by simp⟩ ?_ ?_
  · rintro pre k post ρ hl2 ⟨r, y3, y4, y5, y6, rfl, hr, ho⟩
    have hk := rng_at hl2
    have a1 : idxR (bd l) (.int (k : Nat)) = .ok (pl (lp l k)) := at_pl (by omega)
    have o := h80 _ (lp_mem (show k < l.length by omega))
    have b1 := o.lo.mono (show 80 ≤ lim by decide)
    have b2 := o.hi.mono (show 80 ≤ lim by decide)
    have md : ((k : Int)).fmod (vs.length : Int) = ((k % vs.length : Nat) : Int) := fmod_nat k vs.length
    have lk : k % vs.length < vs.length := Nat.mod_lt _ (by omega)
    obtain ⟨v, hv⟩ : ∃ v, atL (vs.map D.int) ((k % vs.length : Nat) : Int) = .ok (.int v) := ⟨vs[k % vs.length], atL_nat (i := k % vs.length) (by rw [List.getElem?_map, List.getElem?_eq_getElem lk]; rfl)⟩
    have m1 := fm_lo (v.fdiv (1 + 3 * (k : Int))) (b := 5) (by decide)
    have m2 := fm_hi (v.fdiv (1 + 3 * (k : Int))) (b := 5) (by decide)
    have kz : (1 + 3 * (k : Int) == 0) = false := by simp; omega
    have vz : vs ≠ [] := by rintro rfl; simp at lk
    have hv' : atL (vs.map D.int) ((k : Int) % (vs.length : Int)) = .ok (.int v) := by rw [← Int.natCast_emod]; exact hv
    have kz2 : ¬ (1 + 3 * (k : Int) = 0) := by omega
    have P : ∀ x : Int, 0 ≤ x → x < 5 → callF KT 58 32 [.int x, .int 4] = .ok (fr (lowQ x 4)) := fun x _ _ => low_spec (n := 57) f32 (by decide) (by decide)
    have OP : ∀ x : Int, 0 ≤ x → x < 5 → OkF 4 (lowQ x 4) := fun x h1 h2 => OkF.low (by decide) (by omega) (by decide)
    have P := P _ m1 m2
    have OP := OP _ m1 m2
    generalize hx : (v.fdiv (1 + 3 * (k : Int))).fmod 5 = x at *
    have o3 := o.hi.sub o.lo
    have o4 := OP.mul o3
    have o5 := o.lo.add o4
    have S1 : callF KT 58 36 [fr (lp l k).2, fr (lp l k).1] = .ok (fr (subQ (lp l k).2 (lp l k).1)) := minus_spec (n := 56) f32 f36 b2 b1
    have S2 := s34 (n := 56) (OP.mono (show 4 ≤ lim by decide)) (o3.mono (by decide))
    have S3 : callF KT 58 33 [fr (lp l k).1, fr (mulQ (lowQ x 4) (subQ (lp l k).2 (lp l k).1))] = .ok (fr (addQ (lp l k).1 (mulQ (lowQ x 4) (subQ (lp l k).2 (lp l k).1)))) := plus_spec (n := 56) f32 f33 b1 (o4.mono (by decide))
    have S2 : callF KT 58 34 [fr (lowQ x 4), fr (subQ (lp l k).2 (lp l k).1)] = .ok (fr (mulQ (lowQ x 4) (subQ (lp l k).2 (lp l k).1))) := S2
    have o6 := o5.mono (show 2 * (80 * (4 * (2 * (80 * 80)))) ≤ lim by decide)
    generalize addQ (lp l k).1 (mulQ (lowQ x 4) (subQ (lp l k).2 (lp l k).1)) = q at *
    generalize mulQ (lowQ x 4) (subQ (lp l k).2 (lp l k).1) = q2 at *
    generalize subQ (lp l k).2 (lp l k).1 = q3 at *
    generalize lowQ x 4 = q4 at *
    simp [a1, pl, md, hv, hv', kz, kz2, vz, hx, mulOk_l (show (3 : Int).natAbs ≤ lim by decide), show pre.length < 1000000 by omega, show divOk (1 + 3 * (k : Int)) = true from divOk_s (by omega) (by omega), P, S1, S2, S3, hr]
    refine ⟨r ++ [q], by simp, by simp [hr], fun a b hq => ?_⟩
    rcases List.mem_append.mp hq with hq | hq
    · exact ho _ hq
    · rw [List.mem_singleton.mp hq]; exact o6
  · rintro ρ' ⟨r, y3, y4, y5, y6, rfl, hr, ho⟩
    simp at hr
    simp
    exact ⟨r, rfl, ⟨ho, by have := hl.pos; omega, by omega⟩, by omega⟩
end PF

namespace PF
open PySem

/-- what can tells -/
def rowS : D := .str (PySem.Str.ofString "row")
def chnS : D := .str (PySem.Str.ofString "chain")
def canD (l : List Pl) (first many : Nat) : D := if canH l first many = true then .tup [rowS, rw (rowP l first (plL l first many)), plc (plL l first many)] else .tup [chnS, chV (chn (surN l) l.length many first 0)]
theorem s111 {n : Nat} (b : Bool) {l : List Pl} (hl : OkB l) {first many : Nat} (hf : first ≤ 1) (h1 : 1 ≤ many) (h2 : many ≤ 10) : callF KT (n + 7) 111 [bdS b l, nm first, nm many] = .ok (canD l first many) := by
  refine fn_wp f111 (by simp) ?_
  have N := s101 (n := n) b hl hf h1 h2
  have T := s108 (n := n + 2) hl hf h1 h2
  have n0 : isNon .non = true := rfl
  unfold canD
  by_cases h : canH l first many = true
  · rw [if_pos h] at T ⊢
    have n1 : isNon (toldR l first many) = false := rfl
    have i0 : idxR (toldR l first many) (.int 0) = .ok (rw (rowP l first (plL l first many))) := rfl
    have i1 : idxR (toldR l first many) (.int 1) = .ok (plc (plL l first many)) := rfl
    generalize rowP l first (plL l first many) = row at *
    simp [startE, N, T, n1, i0, i1, rowS]
  · rw [if_neg h] at T ⊢
    have a := s64 (n := n + 4) hl
    have c : callF KT (n + 6) 104 [surD l, .int (l.length : Nat), nm first, .int 0, nm many] = .ok (chV (chn (surN l) l.length many first 0)) := by
      rw [← chn_N (Nat.le_refl _)]
      exact s104 (n := n + 4) hl (size := l.length) (w := first) (start := 0) (Nat.le_refl _) hf (by omega) (by omega)
    simp [startE, N, T, n0, a, len_bd, c, chnS]

theorem s97 {n : Nat} (b : Bool) (s : Str) (ds : List D) (w : Str) (m : Int) (os : PyData.strOk s = true) (ow : PyData.strOk w = true) : callF KT (n + 2) 97 [seqD b (.str s :: ds), .str w, .int m] = .ok (.bl (decide ((ds.length : Int) + 1 = m) && (s == w))) := by
  refine fn_wp f97 (by simp) ?_
  have e1 : callF KT (n + 1) 2 [seqD b (.str s :: ds)] = .ok (.bl true) := is_seq_spec (n := n) f2 b _
  have l2 : bltR .len [seqD b (.str s :: ds)] = .ok (.int ((ds.length : Int) + 1)) := by rw [len_seqD]; simp
  have i0 : idxR (seqD b (.str s :: ds)) (.int 0) = .ok (.str s) := by rw [idx_seqD]; rfl
  have e : eqR (.str s) (.str w) = .ok (s == w) := eq_str os ow
  generalize seqD b (.str s :: ds) = T at *
  by_cases h : (ds.length : Int) + 1 = m
  · simp [startE, e1, l2, i0, h, e, isT]
  · have : (((ds.length : Int) + 1) == m) = false := by simpa using h
    simp [startE, e1, l2, i0, h, this]
theorem s97w {n : Nat} (b : Bool) (ds : List D) (w : Str) (m : Int) (h : (ds.length : Int) ≠ m) : callF KT (n + 2) 97 [seqD b ds, .str w, .int m] = .ok (.bl false) := by
  refine fn_wp f97 (by simp) ?_
  have e1 : callF KT (n + 1) 2 [seqD b ds] = .ok (.bl true) := is_seq_spec (n := n) f2 b _
  have l2 : bltR .len [seqD b ds] = .ok (.int (ds.length : Nat)) := by rw [len_seqD]
  generalize seqD b ds = T at *
  have : ((ds.length : Int) == m) = false := by simpa using h
  simp [startE, e1, l2, h, this]
theorem s97n {n : Nat} (w : Str) (m : Int) : callF KT (n + 2) 97 [.non, .str w, .int m] = .ok (.bl false) := by
  refine fn_wp f97 (by simp) ?_
  have e1 : callF KT (n + 1) 2 [.non] = .ok (.bl false) := by
    refine fn_wp f2 (by simp) ?_
    simp [startE, isTs, isT]
  simp [startE, e1]

theorem s112r {n : Nat} (b c d : Bool) {l : List Pl} (hl : OkB l) {first many : Nat} (hf : first ≤ 1) (h2 : many ≤ 20) {r : List Fq} (hr : OkR r) (hlen : r.length = l.length) {ps : List Nat} (hp : ps.length ≤ 20) : callF KT (n + 5) 112 [bd l, nm first, nm many, seqD b [rowS, rwS c r, seqD d (ps.map nm)]] = .ok (.bl (shB l first many r ps)) := by
  refine fn_wp f112 (by simp) ?_
  have w1 : callF KT (n + 4) 97 [seqD b [rowS, rwS c r, seqD d (ps.map nm)], .str (PySem.Str.ofString "row"), .int 3] = .ok (.bl true) := s97 (n := n + 2) b _ _ _ _ (by decide +kernel) (by decide +kernel)
  have i1 : idxR (seqD b [rowS, rwS c r, seqD d (ps.map nm)]) (.int 1) = .ok (rwS c r) := by rw [idx_seqD]; rfl
  have i2 : idxR (seqD b [rowS, rwS c r, seqD d (ps.map nm)]) (.int 2) = .ok (seqD d (ps.map nm)) := by rw [idx_seqD]; rfl
  have S : callF KT (n + 4) 109 [bd l, nm first, nm many, .tup [rwS c r, seqD d (ps.map nm)]] = .ok (.bl (shB l first many r ps)) := s109 (n := n) true c d hl hf h2 hr hlen hp
  generalize seqD b [rowS, rwS c r, seqD d (ps.map nm)] = T at *
  generalize rwS c r = x1 at *
  generalize seqD d (ps.map nm) = x2 at *
  simp [startE, w1, i1, i2, S]
theorem s112c {n : Nat} (b b' : Bool) {l : List Pl} (hl : OkB l) {first many : Nat} (hf : first ≤ 1) {c : List (Nat × Nat)} (hc : c.length ≤ 10000) : callF KT (n + 5) 112 [bd l, nm first, nm many, seqD b [chnS, chS b' c]] = .ok (.bl (chB l first c && decide (c.length = many))) := by
  refine fn_wp f112 (by simp) ?_
  have w1 : callF KT (n + 4) 97 [seqD b [chnS, chS b' c], .str (PySem.Str.ofString "row"), .int 3] = .ok (.bl false) := s97 (n := n + 2) b _ _ _ _ (by decide +kernel) (by decide +kernel)
  have w2 : callF KT (n + 4) 97 [seqD b [chnS, chS b' c], .str (PySem.Str.ofString "chain"), .int 2] = .ok (.bl true) := s97 (n := n + 2) b _ _ _ _ (by decide +kernel) (by decide +kernel)
  have i1 : idxR (seqD b [chnS, chS b' c]) (.int 1) = .ok (chS b' c) := by rw [idx_seqD]; rfl
  have K := s110 (n := n) b' hl hf c hc
  have n0 : isNon .non = true := rfl
  have n1 : isNon (chV c) = false := rfl
  have lv : bltR .len [chV c] = .ok (.int (c.length : Nat)) := by simp [chV]
  generalize seqD b [chnS, chS b' c] = T at *
  generalize chS b' c = x1 at *
  rcases Bool.eq_false_or_eq_true (chB l first c) with h | h <;> rw [h] at K
  · by_cases h3 : c.length = many
    · simp [startE, w1, w2, i1, K, n1, lv, h, h3]
    · have : ((c.length : Int) == (many : Int)) = false := by simp; omega
      simp [startE, w1, w2, i1, K, n1, lv, h, h3, this]
  · simp [startE, w1, w2, i1, K, n0, h]

theorem rowS_row : eqR rowS (.str (PySem.Str.ofString "row")) = .ok true := (eq_str (by decide +kernel) (by decide +kernel)).trans (congrArg R.ok (by decide +kernel))
theorem chnS_row : eqR chnS (.str (PySem.Str.ofString "row")) = .ok false := (eq_str (by decide +kernel) (by decide +kernel)).trans (congrArg R.ok (by decide +kernel))
theorem chnS_chain : eqR chnS (.str (PySem.Str.ofString "chain")) = .ok true := (eq_str (by decide +kernel) (by decide +kernel)).trans (congrArg R.ok (by decide +kernel))

theorem s124r {n : Nat} {l : List Pl} (hl : OkB l) {first many : Nat} (hf : first ≤ 1) {r : List Fq} (hr : OkR r) (hlen : r.length = l.length) {ps : List Nat} (hp : ps.length ≤ 20) : callF KT (n + 5) 124 [bd l, nm first, nm many, .tup [rowS, rw r, plc ps]] = .ok (.bl (shB l first many r ps)) := by
  refine fn_wp f124 (by simp) ?_
  have F := s117g (n := n) hl hr hlen
  have P : callF KT (n + 4) 118 [.int (l.length : Nat), plc ps, .int ((many : Int) - 1)] = .ok (.bl (decide ((ps.length : Int) = (many : Int) - 1) && ascN l.length 0 ps)) := s118 (n := n + 2) (by omega)
  have e := rowS_row
  have pe : decide ((ps.length : Int) = (many : Int) - 1) = decide (ps.length + 1 = many) := by
    rw [Bool.eq_iff_iff, decide_eq_true_eq, decide_eq_true_eq]; omega
  rw [pe] at P
  unfold shB
  rcases Bool.eq_false_or_eq_true (wiB l r) with w | w
  · rw [w] at F
    rcases Bool.eq_false_or_eq_true (decide (ps.length + 1 = many) && ascN l.length 0 ps) with q | q
    · rw [q] at P
      have q2 := q
      simp only [Bool.and_eq_true, decide_eq_true_eq] at q2
      have G : callF KT (n + 4) 84 [rw r, nm first, plc ps] = .ok (.bl (goesB (wd r) l.length first ps)) := by
        have := goes_spec (n := n + 2) hr hf (ps := ps) (fun p hp => by have := ascN_lt q2.2 p hp; omega) (by omega)
        rw [this, hlen, goes_go hf q2.2]
      rw [q]
      simp [startE, e, len_bd, F, P, G, w]
    · rw [q] at P
      rw [q]
      simp [startE, e, len_bd, F, P]
  · rw [w] at F
    simp [startE, e, len_bd, F, w]
theorem s124c {n : Nat} {l : List Pl} (hl : OkB l) {first many : Nat} (hf : first ≤ 1) {c : List (Nat × Nat)} (hc : c.length ≤ 10000) : callF KT (n + 5) 124 [bd l, nm first, nm many, .tup [chnS, chV c]] = .ok (.bl (chB l first c && decide (c.length = many))) := by
  refine fn_wp f124 (by simp) ?_
  have C := s121 (n := n + 1) hl hf c hc
  have e1 := chnS_row
  have e2 := chnS_chain
  have lv : bltR .len [chV c] = .ok (.int (c.length : Nat)) := by simp [chV]
  rcases Bool.eq_false_or_eq_true (chB l first c) with h | h <;> rw [h] at C
  · by_cases h3 : c.length = many
    · simp [startE, e1, e2, C, lv, h, h3]
    · have : ((c.length : Int) == (many : Int)) = false := by simp; omega
      simp [startE, e1, e2, C, lv, h, h3, this]
  · simp [startE, e1, e2, C, h]
end PF

namespace PF
open PySem

theorem s113 {n : Nat} (b : Bool) {l : List Pl} (hl : OkB l) {first many : Nat} (hf : first ≤ 1) (h1 : 1 ≤ many) (h2 : many ≤ 10) {x d : D} (h : callF KT (n + 6) 112 [bd l, nm first, nm many, x] = .ok d) : callF KT (n + 7) 113 [bdS b l, nm first, nm many, x] = .ok d := by
  refine fn_wp f113 (by simp) ?_
  have N := s101 (n := n) b hl hf h1 h2
  simp [startE, N, h]

/-- answers of no form -/
theorem w112a {n : Nat} {l : List Pl} {first many : Nat} : callF KT (n + 5) 112 [bd l, nm first, nm many, .non] = .ok (.bl false) := by
  refine fn_wp f112 (by simp) ?_
  have w1 := s97n (n := n + 2) (PySem.Str.ofString "row") 3
  have w2 := s97n (n := n + 2) (PySem.Str.ofString "chain") 2
  simp [startE, w1, w2]
theorem w112b {n : Nat} {l : List Pl} {first many : Nat} {ds : List D} (h : ds.length ≤ 1) : callF KT (n + 5) 112 [bd l, nm first, nm many, .tup ds] = .ok (.bl false) := by
  refine fn_wp f112 (by simp) ?_
  have w1 : callF KT (n + 4) 97 [.tup ds, .str (PySem.Str.ofString "row"), .int 3] = .ok (.bl false) := s97w (n := n + 2) true ds _ _ (by omega)
  have w2 : callF KT (n + 4) 97 [.tup ds, .str (PySem.Str.ofString "chain"), .int 2] = .ok (.bl false) := s97w (n := n + 2) true ds _ _ (by omega)
  simp [startE, w1, w2]
def somS : D := .str (PySem.Str.ofString "some")
theorem w112c {n : Nat} {l : List Pl} {first many : Nat} (ds : List D) : callF KT (n + 5) 112 [bd l, nm first, nm many, .tup (somS :: ds)] = .ok (.bl false) := by
  refine fn_wp f112 (by simp) ?_
  have e1 : (PySem.Str.ofString "some" == PySem.Str.ofString "row") = false := by decide +kernel
  have e2 : (PySem.Str.ofString "some" == PySem.Str.ofString "chain") = false := by decide +kernel
  have w1 := s97 (n := n + 2) true (PySem.Str.ofString "some") ds (PySem.Str.ofString "row") 3 (by decide +kernel) (by decide +kernel)
  have w2 := s97 (n := n + 2) true (PySem.Str.ofString "some") ds (PySem.Str.ofString "chain") 2 (by decide +kernel) (by decide +kernel)
  rw [e1, Bool.and_false] at w1
  rw [e2, Bool.and_false] at w2
  have w1 : callF KT (n + 4) 97 [.tup (somS :: ds), .str (PySem.Str.ofString "row"), .int 3] = .ok (.bl false) := w1
  have w2 : callF KT (n + 4) 97 [.tup (somS :: ds), .str (PySem.Str.ofString "chain"), .int 2] = .ok (.bl false) := w2
  simp [startE, w1, w2]
theorem w112d {n : Nat} {l : List Pl} {first many : Nat} : callF KT (n + 5) 112 [bd l, nm first, nm many, .tup [rowS, .non]] = .ok (.bl false) := by
  refine fn_wp f112 (by simp) ?_
  have e2 : (PySem.Str.ofString "row" == PySem.Str.ofString "chain") = false := by decide +kernel
  have w1 : callF KT (n + 4) 97 [.tup [rowS, .non], .str (PySem.Str.ofString "row"), .int 3] = .ok (.bl false) := s97w (n := n + 2) true [rowS, .non] _ _ (by decide)
  have w2 := s97 (n := n + 2) true (PySem.Str.ofString "row") [.non] (PySem.Str.ofString "chain") 2 (by decide +kernel) (by decide +kernel)
  rw [e2, Bool.and_false] at w2
  have w2 : callF KT (n + 4) 97 [.tup [rowS, .non], .str (PySem.Str.ofString "chain"), .int 2] = .ok (.bl false) := w2
  simp [startE, w1, w2]

theorem w112e {n : Nat} {l : List Pl} (hl : OkB l) {first many : Nat} (hf : first ≤ 1) : callF KT (n + 5) 112 [bd l, nm first, nm many, .tup [chnS, .non]] = .ok (.bl false) := by
  refine fn_wp f112 (by simp) ?_
  have w1 : callF KT (n + 4) 97 [.tup [chnS, .non], .str (PySem.Str.ofString "row"), .int 3] = .ok (.bl false) := s97w (n := n + 2) true [chnS, .non] _ _ (by decide)
  have w2 : callF KT (n + 4) 97 [.tup [chnS, .non], .str (PySem.Str.ofString "chain"), .int 2] = .ok (.bl true) := s97 (n := n + 2) true (PySem.Str.ofString "chain") [.non] (PySem.Str.ofString "chain") 2 (by decide +kernel) (by decide +kernel)
  have K := x110a (n := n) hl hf (e := .non) (.inl rfl)
  have n0 : isNon .non = true := rfl
  simp [startE, w1, w2, K, n0]

theorem w109 {n : Nat} {l : List Pl} {first many : Nat} : callF KT (n + 4) 109 [bd l, nm first, nm many, .tup [.non, .non]] = .ok (.bl false) := by
  refine fn_wp f109 (by simp) ?_
  have e1 : callF KT (n + 3) 2 [.tup [.non, .non]] = .ok (.bl true) := is_seq_spec (n := n + 2) f2 true _
  have e0 : ∀ m, callF KT (m + 1) 2 [.non] = .ok (.bl false) := fun m => by
    refine fn_wp f2 (by simp) ?_
    simp [startE, isTs, isT]
  have K : callF KT (n + 3) 12 [.non, .int (l.length : Nat)] = .ok .non := by
    refine fn_wp f12 (by simp) ?_
    simp [startE, e0]
  have P : callF KT (n + 3) 72 [.non, .int (l.length : Nat), nm many] = .ok .non := by
    refine fn_wp f72 (by simp) ?_
    simp [startE, e0]
  have n0 : isNon .non = true := rfl
  simp [startE, e1, len_bd, K, P, n0]

theorem w112f {n : Nat} {l : List Pl} {first many : Nat} : callF KT (n + 5) 112 [bd l, nm first, nm many, .tup [rowS, .non, .non]] = .ok (.bl false) := by
  refine fn_wp f112 (by simp) ?_
  have w1 : callF KT (n + 4) 97 [.tup [rowS, .non, .non], .str (PySem.Str.ofString "row"), .int 3] = .ok (.bl true) := s97 (n := n + 2) true (PySem.Str.ofString "row") [.non, .non] (PySem.Str.ofString "row") 3 (by decide +kernel) (by decide +kernel)
  have K := w109 (n := n) (l := l) (first := first) (many := many)
  simp [startE, w1, K]
end PF

namespace PF
open PySem

/-- an answer that is tried -/
def AnsP (l : List Pl) (d : D) : Prop := (∃ c, c.length ≤ 100 ∧ d = .tup [chnS, chV c]) ∨ ∃ r ps, OkR r ∧ r.length = l.length ∧ ps.length ≤ 20 ∧ d = .tup [rowS, rw r, plc ps]

theorem ans_ok {n : Nat} {l : List Pl} (hl : OkB l) {first many : Nat} (hf : first ≤ 1) (h1 : 1 ≤ many) (h2 : many ≤ 10) {d : D} (h : AnsP l d) : ∃ b, callF KT (n + 7) 113 [bd l, nm first, nm many, d] = .ok (.bl b) ∧ callF KT (n + 7) 124 [bd l, nm first, nm many, d] = .ok (.bl b) := by
  rcases h with ⟨c, hc, rfl⟩ | ⟨r, ps, hr, hlen, hp, rfl⟩
  · refine ⟨_, ?_, s124c (n := n + 2) hl hf (c := c) (by omega)⟩
    have := s113 (n := n) true hl hf h1 h2 (s112c (n := n + 1) true true hl hf (many := many) (c := c) (by omega))
    rw [bdS_true] at this
    exact this
  · refine ⟨_, ?_, s124r (n := n + 2) hl hf hr hlen hp⟩
    have := s113 (n := n) true hl hf h1 h2 (s112r (n := n + 1) true true true hl hf (many := many) (by omega) hr hlen hp)
    rw [bdS_true, rwS_true] at this
    exact this

theorem li_str {n : Nat} (s : Str) : callF KT (n + 1) 57 [.str s] = .ok (.str s) := by
  refine fn_wp f57 (by simp) ?_
  simp [startE, isTs, isT]
theorem li_plc {n : Nat} {ps : List Nat} (h : ps.length ≤ 1000) : callF KT (n + 2) 57 [plc ps] = .ok (.lst (ps.map nm)) := by
  exact listed_tup (T := KT) (n := n + 1) f57 (l := ps) (e := nm) (g := nm) h fun i _ => listed_int f57 _
theorem li_tup3 {n : Nat} {a b c a' b' c' : D} (h1 : callF KT n 57 [a] = .ok a') (h2 : callF KT n 57 [b] = .ok b') (h3 : callF KT n 57 [c] = .ok c') : callF KT (n + 1) 57 [.tup [a, b, c]] = .ok (.lst [a', b', c']) := by
  have := listed_tup (T := KT) (n := n) f57 (l := [(a, a'), (b, b'), (c, c')]) (e := fun x => x.1) (g := fun x => x.2) (by simp) fun x hx => by
    simp at hx
    rcases hx with rfl | rfl | rfl <;> assumption
  simpa using this
theorem li_tup2 {n : Nat} {a b a' b' : D} (h1 : callF KT n 57 [a] = .ok a') (h2 : callF KT n 57 [b] = .ok b') : callF KT (n + 1) 57 [.tup [a, b]] = .ok (.lst [a', b']) := by
  have := listed_tup (T := KT) (n := n) f57 (l := [(a, a'), (b, b')]) (e := fun x => x.1) (g := fun x => x.2) (by simp) fun x hx => by
    simp at hx
    rcases hx with rfl | rfl <;> assumption
  simpa using this
end PF

namespace PF
open PySem

/-- the counts of the told row are ends of bounds -/
def isEnd (l : List Pl) (q : Fq) : Prop := ∃ p, p < l.length ∧ (q = (lp l p).1 ∨ q = (lp l p).2)
theorem nwP_end {l : List Pl} {vs : List Nat} {p : Nat} (h : p < l.length) : isEnd l (nwP l vs p).1 ∧ isEnd l (nwP l vs p).2 := by
  have a : isEnd l (lp l p).1 := ⟨p, h, .inl rfl⟩
  have b : isEnd l (lp l p).2 := ⟨p, h, .inr rfl⟩
  unfold nwP
  split
  · split
    · exact ⟨b, b⟩
    · exact ⟨a, a⟩
  · exact ⟨a, b⟩
theorem cR_end {l : List Pl} (vs : List Nat) : ∀ s, s < l.length → isEnd l (cR l vs s)
  | 0, h => by
    have := nwP_end (vs := vs) h
    unfold cR
    split
    · exact this.2
    · exact this.1
  | s + 1, h => by
    have n := nwP_end (vs := vs) h
    have ih := cR_end (l := l) vs s (by omega)
    unfold cR
    split
    · unfold lgQ
      split
      · exact n.1
      · exact ih
    · unfold smQ
      split
      · exact n.2
      · exact ih
theorem rowP_80 {l : List Pl} (hl : OkB l) (h80 : ∀ x ∈ l, OkP 80 x) {first : Nat} {ps : List Nat} : ∀ q ∈ rowP l first ps, OkF 80 q := fun q hq => by
  have hv := wsF_len hl (first := first) (ps := ps)
  unfold rowP rowA at hq
  obtain ⟨s, hs, rfl⟩ := List.mem_map.mp hq
  have hs : s < (wsF l first ps).length + 1 := by simpa using hs
  obtain ⟨p, hp, e⟩ := cR_end (l := l) (wsF l first ps) s (by omega)
  have o := h80 _ (lp_mem hp)
  rcases e with e | e <;> rw [e]
  · exact o.lo
  · exact o.hi

theorem s33_9 {n : Nat} {q : Fq} (hq : OkF 80 q) : callF KT (n + 2) 33 [fr q, .tup [.int 9, .int 1]] = .ok (fr (addQ q (9, 1))) ∧ OkF lim (addQ q (9, 1)) := by
  have o : OkF 9 ((9, 1) : Fq) := ⟨by decide, by decide, by decide, by decide⟩
  have e : D.tup [.int 9, .int 1] = fr (9, 1) := rfl
  rw [e]
  generalize ((9, 1) : Fq) = p at o ⊢
  exact ⟨plus_spec (n := n) f32 f33 (hq.mono (by decide)) (o.mono (by decide)), (hq.add o).mono (by decide)⟩
end PF

namespace PF
open PySem

theorem stp_mem {α : Type} {k : Nat} {l : List α} {a : α} (h : a ∈ stpL k l) : a ∈ l := by
  unfold stpL at h
  rw [List.mem_filterMap] at h
  obtain ⟨i, _, e⟩ := h
  exact List.mem_of_getElem? e
theorem stp_map {α β : Type} (f : α → β) (k : Nat) (l : List α) : stpL k (l.map f) = (stpL k l).map f := by
  unfold stpL
  rw [List.length_map, List.map_filterMap]
  congr 1
  funext i
  simp
theorem rev_okR {r : List Fq} (h : OkR r) : OkR r.reverse := ⟨fun q hq => h.ok q (List.mem_reverse.mp hq), by simpa using h.pos, by simpa using h.most⟩
/-- answers that are tried, a list of them -/
structure Ans (l : List Pl) (n : Nat) (ds : List D) : Prop where
  len : ds.length ≤ n
  ok : ∀ d ∈ ds, AnsP l d
theorem Ans.app {l : List Pl} {n m k : Nat} {a b : List D} (h1 : Ans l n a) (h2 : Ans l m b) (h : n + m ≤ k) : Ans l k (a ++ b) := ⟨by have := h1.len; have := h2.len; rw [List.length_append]; omega, fun d hd => by
  rcases List.mem_append.mp hd with hd | hd
  · exact h1.ok d hd
  · exact h2.ok d hd⟩
theorem okDs_nm' (n : Nat) : ∀ ps : List Nat, okDs n (ps.map nm) = true
  | [] => by simp [okDs]
  | p :: ps => by
    have := okDs_nm' n ps
    cases n <;> simp [okDs, okD, this]
theorem eq_row0 (r : List Fq) (ps : List Nat) : eqR (.tup [rowS, rw r, plc ps]) (.tup []) = .ok false := by
  unfold eqR
  rw [if_pos]
  · rfl
  · have a : okDs 28 (r.map fr) = true := okDs_fr 27 r
    have b : okDs 28 (ps.map nm) = true := okDs_nm' 28 ps
    have c : PyData.strOk (PySem.Str.ofString "row") = true := by decide +kernel
    simp [deep, okD, okDs, rowS, rw, plc, a, b, c]
theorem eq_chn0 (c : List (Nat × Nat)) : eqR (.tup [chnS, chV c]) (.tup []) = .ok false := by
  unfold eqR
  rw [if_pos]
  · rfl
  · have a : okDs 28 (c.map prD) = true := by
      induction c with
      | nil => simp [okDs]
      | cons p c ih => simp [okDs, okD_pr, ih]
    have c : PyData.strOk (PySem.Str.ofString "chain") = true := by decide +kernel
    simp [deep, okD, okDs, chnS, chV, a, c]
/-- the greedy chain is one -/
theorem chB_of {l : List Pl} : ∀ {c : List (Nat × Nat)} {first lo : Nat}, first ≤ 1 → IsCh (surN l) l.length first lo c → ∀ k, k < c.length → (k = 0 → lo ≤ (caAt c 0).1) ∧ (caAt c k).1 < (caAt c k).2 ∧ (caAt c k).2 < l.length ∧ sur l ((first + k) % 2) (caAt c k).1 (caAt c k).2 = true ∧ (1 ≤ k → (caAt c (k - 1)).2 - 1 ≤ (caAt c k).1)
  | p :: c, first, lo, hf, h, 0, _ => by
    obtain ⟨h1, h2, h3, h4, h5⟩ := h
    rw [surN_eq h3] at h4
    refine ⟨fun _ => by simpa [caAt] using h1, by simpa [caAt] using h2, by simpa [caAt] using h3, ?_, fun h => absurd h (by omega)⟩
    rw [show (first + 0) % 2 = first by omega]
    simpa [caAt] using h4
  | p :: c, first, lo, hf, h, k + 1, hk => by
    obtain ⟨h1, h2, h3, h4, h5⟩ := h
    have ih := chB_of (show 1 - first ≤ 1 by omega) h5 k (by simpa using hk)
    have e : ∀ j, caAt (p :: c) (j + 1) = caAt c j := fun j => by simp [caAt]
    rw [e k]
    refine ⟨fun h => absurd h (by omega), ih.2.1, ih.2.2.1, ?_, fun _ => ?_⟩
    · rw [show (first + (k + 1)) % 2 = (1 - first + k) % 2 by omega]
      exact ih.2.2.2.1
    · cases k with
      | zero => simpa [caAt] using ih.1 rfl
      | succ j =>
        have := ih.2.2.2.2 (by omega)
        rw [show j + 1 + 1 - 1 = j + 1 by omega, e j]
        simpa using this
theorem chB_chn {l : List Pl} {first : Nat} (hf : first ≤ 1) {c : List (Nat × Nat)} (hc : c ≠ []) (h : IsCh (surN l) l.length first 0 c) : chB l first c = true := by
  unfold chB
  have : c.isEmpty = false := by cases c with | nil => exact absurd rfl hc | cons a b => rfl
  rw [this, Bool.not_false, Bool.true_and, List.all_eq_true]
  intro k hk
  have hk : k < c.length := by simpa using hk
  obtain ⟨a1, a2, a3, a4, a5⟩ := chB_of hf h k hk
  unfold okC loAt
  simp only [Bool.and_eq_true, decide_eq_true_eq]
  refine ⟨⟨⟨by omega, a3⟩, ?_⟩, a4⟩
  split
  · omega
  · exact a5 (by omega)

def t125 : List S := [.frz 7, .for_ (.nm 9) (.var 7) _law_shape_asked_v1_b6, .for_ (.nm 10) (.lst [.non, .tup [], .slc (.var 5) .noE (.int 1), .bin .add (.tup [.str (PySem.Str.ofString "some")]) (.slc (.var 5) (.int 1) .noE), .tup [.idx (.var 5) (.int 0), .non], .tup [.str (PySem.Str.ofString "chain"), .tup []], .tup [.str (PySem.Str.ofString "row"), .non, .non]]) _law_shape_asked_v1_b8, .ret (.bl true)]
theorem s125t {l : List Pl} (hl : OkB l) {first many : Nat} (hf : first ≤ 1) (h1 : 1 ≤ many) (h2 : many ≤ 4) {w : D} {ds : List D} (hw : w = rowS ∨ w = chnS) (hds : ds.length ≤ 10) {as : List D} (An : Ans l 900000 as) {y3 y4 y6 y7 y8 y9 y10 : SV} (h7 : y7 = .own as ∨ y7 = .fr (.lst as)) : Wp (exs ⟨callF KT 58, KT.con⟩ [.fr (bd l), .fr (nm first), .fr (nm many), y3, y4, .fr (.tup (w :: ds)), y6, y7, y8, y9, y10] t125) (Tl (.ok (.bl true))) := by
  have al := An.len
  have main : ∀ y7, Wp (thn ⟨callF KT 58, KT.con⟩ [.for_ (.nm 10) (.lst [.non, .tup [], .slc (.var 5) .noE (.int 1), .bin .add (.tup [.str (PySem.Str.ofString "some")]) (.slc (.var 5) (.int 1) .noE), .tup [.idx (.var 5) (.int 0), .non], .tup [.str (PySem.Str.ofString "chain"), .tup []], .tup [.str (PySem.Str.ofString "row"), .non, .non]]) _law_shape_asked_v1_b8, .ret (.bl true)] (lop ⟨callF KT 58, KT.con⟩ (.nm 9) _law_shape_asked_v1_b6 (as.map id) [.fr (bd l), .fr (nm first), .fr (nm many), y3, y4, .fr (.tup (w :: ds)), y6, y7, y8, y9, y10])) (Tl (.ok (.bl true))) := by
    intro y7
    refine wp_pre (fun _ ρ => ∃ y9, ρ = [.fr (bd l), .fr (nm first), .fr (nm many), y3, y4, .fr (.tup (w :: ds)), y6, y7, y8, y9, y10]) ⟨_, rfl⟩ ?_ ?_
    · rintro pre d post ρ hl3 ⟨y9, rfl⟩
      obtain ⟨b, k1, k2⟩ := ans_ok (n := 51) hl hf h1 (by omega) (An.ok d (by rw [hl3]; simp)) (many := many)
      have k1 : callF KT 58 113 [bd l, nm first, nm many, d] = .ok (.bl b) := k1
      have k2 : callF KT 58 124 [bd l, nm first, nm many, d] = .ok (.bl b) := k2
      have k3 : callF KT 58 29 [.bl b, .bl b] = .ok (.bl true) := same_refl (n := 57) (k := 2) rfl (by decide)
      simp [k1, k2, k3]
    · rintro ρ' ⟨y9, rfl⟩
      have c1 : cutL (w :: ds) none (some 1) = [w] := by simp [cutL, six]
      have c2 : cutL (w :: ds) (some 1) none = ds := by simp [cutL, six]
      have sw : ∀ x, callF KT 57 112 [bd l, nm first, nm many, x] = .ok (.bl false) → callF KT 58 113 [bd l, nm first, nm many, x] = .ok (.bl false) := fun x hx => by
        have := s113 (n := 51) true hl hf h1 (by omega) hx (many := many)
        rw [bdS_true] at this
        exact this
      have fw : D.str (PySem.Str.ofString "some") = somS := rfl
      have rS : D.str (PySem.Str.ofString "row") = rowS := rfl
      have cS : D.str (PySem.Str.ofString "chain") = chnS := rfl
      have i0 : idxR (.tup (w :: ds)) (.int 0) = .ok w := rfl
      have dl : ds.length + 1 < 1000000 := by omega
      simp [c1, c2, fw, rS, cS, show 1 + ds.length ≤ 1000000 by omega]
      have ev : ∀ x ∈ [.non, .tup [], .tup [w], .tup (somS :: ds), .tup [w, .non], .tup [chnS, .tup []], .tup [rowS, .non, .non]], callF KT 58 113 [bd l, nm first, nm many, x] = .ok (.bl false) := by
        intro x hx
        refine sw x ?_
        simp at hx
        rcases hx with rfl | rfl | rfl | rfl | rfl | rfl | rfl
        · exact w112a (n := 52)
        · exact w112b (n := 52) (by decide)
        · exact w112b (n := 52) (by simp)
        · exact w112c (n := 52) ds
        · rcases hw with rfl | rfl
          · exact w112d (n := 52)
          · exact w112e (n := 52) hl hf
        · have := s112c (n := 52) true true hl hf (many := many) (c := []) (by simp)
          simpa [chB, seqD, chS] using this
        · exact w112f (n := 52)
      generalize [D.non, .tup [], .tup [w], .tup (somS :: ds), .tup [w, .non], .tup [chnS, .tup []], .tup [rowS, .non, .non]] = xs at *
      rw [show xs = xs.map id by simp]
      refine wp_pre (fun _ ρ => ∃ y10, ρ = [.fr (bd l), .fr (nm first), .fr (nm many), y3, y4, .fr (.tup (w :: ds)), y6, y7, y8, y9, y10]) ⟨_, rfl⟩ ?_ ?_
      · rintro pre x post ρ hl3 ⟨y10, rfl⟩
        have k := ev x (by rw [hl3]; simp)
        simp [k]
      · rintro ρ' ⟨y10, rfl⟩
        simp
  rw [List.map_id] at main
  unfold t125
  rcases h7 with rfl | rfl
  · simpa using main (.fr (.lst as))
  · simpa using main (.fr (.lst as))

theorem s125 {l : List Pl} (hl : OkB l) (h80 : ∀ x ∈ l, OkP 80 x) (h6 : l.length ≤ 6) {first many : Nat} (hf : first ≤ 1) (h1 : 1 ≤ many) (h2 : many ≤ 4) {dr : List Fq} (hd : OkR dr) (hdl : dr.length = l.length) : callF KT 59 125 [bd l, nm first, nm many, rw dr] = .ok (.bl true) := by
  refine fn_wp (n := 58) f125 (by simp) ?_
  have li : callF KT 58 57 [bd l] = .ok (bdS false l) := listed_bd (n := 54) f57 hl.most
  have G := s120 (n := 54) hl hf h1 (by omega) (pow6 h6 (by omega))
  have C : callF KT 58 111 [bdS false l, nm first, nm many] = .ok (canD l first many) := s111 (n := 51) false hl hf h1 (by omega)
  have E1 := eq_good (goodL l first many)
  have A := s122 (n := 55) hl hf (many := many) (by omega)
  have E2 := eq_lst_any chV (fun c => okDs_pr 27 c) (acF l first many)
  obtain ⟨w, ds, T, LT, hT, tT, eT, wT, sT, lT, oT, rT⟩ : ∃ w ds T LT, canD l first many = T ∧ T = .tup (w :: ds) ∧ eqR T (.tup []) = .ok false ∧ w = (if canH l first many = true then rowS else chnS) ∧ callF KT 58 124 [bd l, nm first, nm many, T] = .ok (.bl true) ∧ callF KT 58 57 [T] = .ok LT ∧ callF KT 58 113 [bdS false l, nm first, nm many, LT] = .ok (.bl true) ∧ (canH l first many = true → ∃ r ps, ds = [rw r, plc ps] ∧ OkR r ∧ r.length = l.length ∧ ps.length = many - 1 ∧ ∀ q ∈ r, OkF 80 q) := by
    by_cases h : canH l first many = true
    · have td : canD l first many = .tup [rowS, rw (rowP l first (plL l first many)), plc (plL l first many)] := by unfold canD; rw [if_pos h]
      obtain ⟨g1, g2⟩ := can_good hl hf h
      have hr := rowP_okR hl (first := first) (ps := plL l first many)
      have hln := rowP_len hl (first := first) (ps := plL l first many)
      have sh : shB l first many (rowP l first (plL l first many)) (plL l first many) = true := by
        unfold shB
        rw [g1.1, rowP_fits hl g1.2, rowP_goes hl, g2]
        simp
        omega
      have s1 := s124r (n := 53) hl hf (many := many) hr hln (ps := plL l first many) (by omega)
      have s2 := s113 (n := 51) false hl hf h1 (by omega) (s112r (n := 52) false false false hl hf (many := many) (by omega) hr hln (ps := plL l first many) (by omega))
      rw [sh] at s1 s2
      exact ⟨_, _, _, _, td, rfl, eq_row0 _ _, (by rw [if_pos h]), s1, li_tup3 (n := 57) (li_str _) (li_rw (n := 54) (by have := hr.most; omega)) (li_plc (n := 55) (by omega)), s2, fun _ => ⟨_, _, rfl, hr, hln, by omega, rowP_80 hl h80⟩⟩
    · have td : canD l first many = .tup [chnS, chV (chn (surN l) l.length many first 0)] := by unfold canD; rw [if_neg h]
      have cl : (chn (surN l) l.length many first 0).length = many := by
        have := chn_len (surN l) l.length many first 0
        unfold canH at h
        rw [chn_N (Nat.le_refl _)] at h
        simp at h
        omega
      have cb := chB_chn hf (by intro e; rw [e] at cl; simp at cl; omega) (chn_ch (Sr := surN l) l.length many first 0)
      have s1 := s124c (n := 53) hl hf (many := many) (c := chn (surN l) l.length many first 0) (by omega)
      have s2 := s113 (n := 51) false hl hf h1 (by omega) (s112c (n := 52) false false hl hf (many := many) (c := chn (surN l) l.length many first 0) (by omega))
      rw [cb] at s1 s2
      simp only [cl, decide_true, Bool.and_self] at s1 s2
      exact ⟨_, _, _, _, td, rfl, eq_chn0 _, (by rw [if_neg h]), s1, li_tup2 (n := 57) (li_str _) (li_ch (n := 54) (by omega)), s2, fun h' => absurd h' h⟩
  have i0 : idxR T (.int 0) = .ok w := by rw [tT]; rfl
  have isT' : isT T .tuple = .ok true := by rw [tT]; rfl
  have rr : eqR rowS rowS = .ok true := rowS_row
  have cc : eqR chnS chnS = .ok true := chnS_chain
  rw [good_emp hl hf h1] at E1
  rw [acF_iff hl h6 hf (by omega)] at E2
  rw [hT] at C
  have hw : eqR w (if canH l first many = true then rowS else chnS) = .ok true := by rw [wT]; split <;> assumption
  have rS : D.str (PySem.Str.ofString "row") = rowS := rfl
  have cS : D.str (PySem.Str.ofString "chain") = chnS := rfl
  have eb : eqR (.bl true) (.bl true) = .ok true := rfl
  have A1 : callF KT 58 122 [bd l, nm first, .int ((many : Int) + 1)] = .ok (.lst ((acF l first (many + 1)).map chV)) := s122 (n := 55) hl hf (many := many + 1) (by omega)
  have A2 : callF KT 58 122 [bd l, .int (1 - (first : Int)), nm many] = .ok (.lst ((acF l (1 - first) many).map chV)) := by
    rw [show (1 - (first : Int)) = ((1 - first : Nat) : Int) by omega]
    exact s122 (n := 55) hl (by omega) (many := many) (by omega)
  have c3 := cutB chV (acF l first many) 3
  have c2 := cutB chV (acF l first (many + 1)) 2
  have c3' := cutB chV (acF l (1 - first) many) 3
  have c3 : cutL ((acF l first many).map chV) none (some 3) = ((acF l first many).take 3).map chV := c3
  have c2 : cutL ((acF l first (many + 1)).map chV) none (some 2) = ((acF l first (many + 1)).take 2).map chV := c2
  have c3' : cutL ((acF l (1 - first) many).map chV) none (some 3) = ((acF l (1 - first) many).take 3).map chV := c3'
  have X : ∀ c ∈ (acF l first many).take 3 ++ (acF l first (many + 1)).take 2 ++ (acF l (1 - first) many).take 3, c.length ≤ 100 := fun c hc => by
    rcases List.mem_append.mp hc with hc | hc
    · rcases List.mem_append.mp hc with hc | hc
      · have := acF_rows (List.mem_of_mem_take hc); omega
      · have := acF_rows (List.mem_of_mem_take hc); omega
    · have := acF_rows (List.mem_of_mem_take hc); omega
  have XL : ((acF l first many).take 3 ++ (acF l first (many + 1)).take 2 ++ (acF l (1 - first) many).take 3).length ≤ 8 := by
    rw [List.length_append, List.length_append, List.length_take, List.length_take, List.length_take]; omega
  have r1 : ((acF l first many).take 3).length ≤ 3 := by rw [List.length_take]; omega
  have r2 : ((acF l first (many + 1)).take 2).length ≤ 2 := by rw [List.length_take]; omega
  have r3 : ((acF l (1 - first) many).take 3).length ≤ 3 := by rw [List.length_take]; omega
  generalize (acF l first many).take 3 = R1 at *
  generalize (acF l first (many + 1)).take 2 = R2 at *
  generalize (acF l (1 - first) many).take 3 = R3 at *
  have q1 : R1.length + R2.length ≤ 1000000 := by omega
  have q2 : R1.length + R2.length + R3.length ≤ 1000000 := by omega
  have q3 : R1.length + (R2.length + R3.length) ≤ 1000000 := by omega
  have P : callF KT 58 83 [.int (l.length : Nat), .int ((many : Int) - 1)] = .ok (.lst ((allP l.length (many - 1)).map plc)) := by
    rw [show (many : Int) - 1 = ((many - 1 : Nat) : Int) by omega]
    exact allp_spec (n := 57) hl.pos (by omega) (by omega) (pow6 h6 (by omega))
  have PL : (stpL 5 (allP l.length (many - 1))).length ≤ 800000 := by
    have := stpL_len (k := 5) (by decide) (allP l.length (many - 1))
    exact Nat.le_trans this (Nat.le_trans (allP_len _ _) (pow6 h6 (by omega)))
  have PM : ∀ ps ∈ stpL 5 (allP l.length (many - 1)), ps.length = many - 1 := fun ps h => (allP_mem (stp_mem h)).1
  have An : Ans l 8 ((R1 ++ R2 ++ R3).map fun c => D.tup [chnS, chV c]) := ⟨by rw [List.length_map]; exact XL, fun d hd => by
    obtain ⟨c, hc, rfl⟩ := List.mem_map.mp hd
    exact .inl ⟨c, X c hc, rfl⟩⟩
  cases hc : canH l first many with
  | true =>
    rw [hc] at E1 E2 hw
    simp at E1 E2 hw
    simp [startE, G, li, C, isT', eT, i0, E1, rS, cS, hw, sT, A, E2, lT, oT, eb, A1, A2, c3, c2, c3', q1, q2, q3]
    rw [show R1.map chV ++ (R2.map chV ++ R3.map chV) = (R1 ++ R2 ++ R3).map chV by simp, comp_map (fun c => .tup [chnS, chV c]) (by simpa using q3) fun c hc => ?_]
    rotate_left
    · simp [yF, chnS]
    simp [len_bd, P]
    rw [stp_map]
    generalize stpL 5 (allP l.length (many - 1)) = PS at *
    refine wp_pre (fun pre ρ => ∃ ds y8 y9 y10, ρ = [.fr (bd l), .fr (nm first), .fr (nm many), .fr (rw dr), .fr (.lst ((goodL l first many).map plc)), .fr T, .fr (.lst ((acF l first many).map chV)), .own ds, y8, y9, y10] ∧ Ans l (8 + pre.length) ds) ⟨_, _, _, _, rfl, by simpa using An⟩ ?_ ?_
    · rintro pre ps post ρ hl3 ⟨ds, y8, y9, y10, rfl, An⟩
      have pm := PM ps (by rw [hl3]; simp)
      have pl : pre.length < 800000 := by
        have := congrArg List.length hl3
        simp at this
        omega
      have al := An.len
      simp [show ds.length < 1000000 by omega]
      refine An.app (m := 1) ⟨by simp, fun d hd' => ?_⟩ (by omega)
      rw [List.mem_singleton.mp hd']
      exact .inr ⟨dr, ps, hd, hdl, by omega, rfl⟩
    · rintro ρ' ⟨ds', y8, y9, y10, rfl, An⟩
      obtain ⟨r, ps, ed, hr, hrl, hpl, h8⟩ := rT hc
      subst ed
      have PL' : PS.length ≤ 800000 := PL
      have al := An.len
      have gne : goodL l first many ≠ [] := (good_iff hl hf h1).mpr hc
      obtain ⟨gi, gl, ge⟩ : ∃ gi gl, goodL l first many = gi ++ [gl] := by
        rcases List.eq_nil_or_concat (goodL l first many) with h | ⟨a, b, h⟩
        · exact absurd h gne
        · exact ⟨a, b, by simpa using h⟩
      have gm : gl ∈ goodL l first many := by rw [ge]; simp
      have gll : gl.length = many - 1 := (allP_mem ((goodL_mem hl hf).mp gm).1).1
      have glast : atL ((goodL l first many).map plc) (-1) = .ok (plc gl) := by rw [ge, List.map_append]; exact at_last plc gi gl
      have i1 : idxR T (.int 1) = .ok (rw r) := by rw [tT]; rfl
      have i2 : idxR T (.int 2) = .ok (plc ps) := by rw [tT]; rfl
      have rv : revR (rw r) = .ok (rw r.reverse) := by simp [rw, revR]
      have it : itemsR (rw r) = .ok (r.map fr) := rfl
      have N9 : ∀ q ∈ r, callF KT 58 33 [fr q, .tup [.int 9, .int 1]] = .ok (fr (addQ q (9, 1))) := fun q hq => (s33_9 (n := 56) (h8 q hq)).1
      have r9 : OkR (r.map fun q => addQ q (9, 1)) := ⟨fun q hq => by
        obtain ⟨q', hq', rfl⟩ := List.mem_map.mp hq
        exact (s33_9 (n := 56) (h8 q' hq')).2, by simpa using hr.pos, by simpa using hr.most⟩
      have rm := hr.most
      simp [E1, i1, i2, glast, rv, it, rS]
      rw [comp_map (fun q => fr (addQ q (9, 1))) (by omega) fun q hq => ?_]
      rotate_left
      · simp [yF, N9 q hq]
      have e9 : D.tup (r.map fun q => fr (addQ q (9, 1))) = rw (r.map fun q => addQ q (9, 1)) := by simp [rw, List.map_map, Function.comp_def]
      simp [e9, i1, i2, show ds'.length + 3 ≤ 1000000 by omega, show ds'.length ≤ 999997 by omega]
      have A9 : Ans l 900000 (ds' ++ [.tup [rowS, rw r, plc gl], .tup [rowS, rw r.reverse, plc ps], .tup [rowS, rw (r.map fun q => addQ q (9, 1)), plc ps]]) := An.app (m := 3) ⟨by simp, fun d hd' => by
        simp at hd'
        rcases hd' with rfl | rfl | rfl
        · exact .inr ⟨r, gl, hr, hrl, by omega, rfl⟩
        · exact .inr ⟨_, ps, rev_okR hr, by simpa using hrl, by omega, rfl⟩
        · exact .inr ⟨_, ps, r9, by simpa using hrl, by omega, rfl⟩⟩ (by omega)
      rw [tT]
      exact s125t hl hf h1 h2 (w := w) (ds := [rw r, plc ps]) (.inl (by rw [wT, if_pos hc])) (by simp) A9 (.inr rfl)
  | false =>
    rw [hc] at E1 E2 hw
    simp at E1 E2 hw
    simp [startE, G, li, C, isT', eT, i0, E1, rS, cS, hw, sT, A, E2, lT, oT, eb, A1, A2, c3, c2, c3', q1, q2, q3]
    rw [show R1.map chV ++ (R2.map chV ++ R3.map chV) = (R1 ++ R2 ++ R3).map chV by simp, comp_map (fun c => .tup [chnS, chV c]) (by simpa using q3) fun c hc => ?_]
    rotate_left
    · simp [yF, chnS]
    simp [len_bd, P]
    rw [stp_map]
    generalize stpL 5 (allP l.length (many - 1)) = PS at *
    refine wp_pre (fun pre ρ => ∃ ds y8 y9 y10, ρ = [.fr (bd l), .fr (nm first), .fr (nm many), .fr (rw dr), .fr (.lst ((goodL l first many).map plc)), .fr T, .fr (.lst ((acF l first many).map chV)), .own ds, y8, y9, y10] ∧ Ans l (8 + pre.length) ds) ⟨_, _, _, _, rfl, by simpa using An⟩ ?_ ?_
    · rintro pre ps post ρ hl3 ⟨ds, y8, y9, y10, rfl, An⟩
      have pm := PM ps (by rw [hl3]; simp)
      have pl : pre.length < 800000 := by
        have := congrArg List.length hl3
        simp at this
        omega
      have al := An.len
      simp [show ds.length < 1000000 by omega]
      refine An.app (m := 1) ⟨by simp, fun d hd' => ?_⟩ (by omega)
      rw [List.mem_singleton.mp hd']
      exact .inr ⟨dr, ps, hd, hdl, by omega, rfl⟩
    · rintro ρ' ⟨ds', y8, y9, y10, rfl, An⟩
      have dl : ds.length ≤ 10 := by
        have : T = canD l first many := hT.symm
        rw [tT] at this
        unfold canD at this
        rw [if_neg (by rw [hc]; decide)] at this
        have := D.tup.inj this
        cases this
        simp
      simp [E1]
      rw [tT]
      exact s125t hl hf h1 h2 (w := w) (ds := ds) (.inr (by rw [wT, if_neg (by rw [hc]; decide)])) dl (as := ds') ⟨by have := An.len; omega, An.ok⟩ (.inl rfl)
end PF

namespace PF
open PySem
theorem cutF (ds : List D) (k : Nat) : cutL ds (some (k : Nat)) none = ds.drop k := by
  unfold cutL six
  simp only [show ¬ ((k : Int) < 0) by omega, if_false, Int.toNat_natCast]
  by_cases h : k ≤ ds.length
  · rw [Nat.min_eq_left h, List.take_of_length_le (by simp)]
  · rw [Nat.min_eq_right (by omega), List.drop_of_length_le (Nat.le_refl _), List.drop_of_length_le (by omega)]
    simp
section
variable {l : List Pl} (hl : OkB l)
include hl
theorem x111 {a b : D} {k : Int} (h1 : callF KT 56 18 [a, .int 0, .int 1, .int 2] = .exc 0 k ∨ ∃ d, callF KT 56 18 [a, .int 0, .int 1, .int 2] = .ok d ∧ callF KT 56 18 [b, .int 1, .int 10, .int 3] = .exc 0 k) : callF KT 57 101 [bd l, a, b] = .exc 0 k := by
  have c := s14 (n := 51) true hl 1
  rw [bdS_true] at c
  refine fn_wp f101 (by simp) ?_
  rcases h1 with h | ⟨d, h, h'⟩
  · simp [startE, c, h]
  · simp [startE, c, h, h']
theorem x111r {a b : D} {k : Int} (h1 : callF KT 56 18 [a, .int 0, .int 1, .int 2] = .exc 0 k ∨ ∃ d, callF KT 56 18 [a, .int 0, .int 1, .int 2] = .ok d ∧ callF KT 56 18 [b, .int 1, .int 10, .int 3] = .exc 0 k) : callF KT 59 31 [.fn 111, .lst [bd l, a, b], .int k] = .ok (.bl true) := by
  have s := x111 hl h1
  have e : callF KT 58 111 [bd l, a, b] = .exc 0 k := by
    refine fn_wp f111 (by simp) ?_
    simp [startE, s]
  simpa using refd3 (s := k) e
theorem x113r {a b c : D} {k : Int} (h1 : callF KT 56 18 [a, .int 0, .int 1, .int 2] = .exc 0 k ∨ ∃ d, callF KT 56 18 [a, .int 0, .int 1, .int 2] = .ok d ∧ callF KT 56 18 [b, .int 1, .int 10, .int 3] = .exc 0 k) : callF KT 59 31 [.fn 113, .lst [bd l, a, b, c], .int k] = .ok (.bl true) := by
  have s := x111 hl h1
  have e : callF KT 58 113 [bd l, a, b, c] = .exc 0 k := by
    refine fn_wp f113 (by simp) ?_
    simp [startE, s]
  simpa using refd4 (s := k) e
end
theorem law6 (ns : List Int) : callF KT 60 126 [.fz (ns.map .int)] = .ok (.bl true) := by
  refine fn_wp (n := 59) f126 (by simp) ?_
  obtain ⟨vs, l, hv, hl, l3, l6, h80, N, B⟩ := drawn ns 14 (by decide) (by decide)
  have N : callF KT 59 37 [.fz (ns.map .int), .int 0, .int 14] = .ok (.lst (vs.map .int)) := N
  have cv : cutL (vs.map D.int) (some 8) none = (vs.map D.int).drop 8 := cutF _ 8
  obtain ⟨_, R, r, rfl, hr, hrl⟩ := s123 (vs := vs.drop 8) (by simp [hv]) (by simp [hv]) hl h80
  rw [List.map_drop] at R
  simp [startE, N, B, cv, R]
  rw [show [D.int 0, D.int 1] = [0, 1].map nm from rfl]
  refine wp_pre (fun _ ρ => ∃ y4 y5, ρ = [.fr (.fz (ns.map D.int)), .fr (.lst (vs.map D.int)), .fr (bd l), .fr (rw r), y4, y5]) ⟨_, _, rfl⟩ ?_ ?_
  · rintro pre f post ρ hl2 ⟨y4, y5, rfl⟩
    have hf : f ≤ 1 := by
      have : f ∈ [0, 1] := by rw [hl2]; simp
      simp at this
      omega
    simp
    rw [show [D.int 1, .int 2, .int 3, .int 4] = [1, 2, 3, 4].map nm from rfl]
    refine wp_pre (fun _ ρ => ∃ y5, ρ = [.fr (.fz (ns.map D.int)), .fr (.lst (vs.map D.int)), .fr (bd l), .fr (rw r), .fr (nm f), y5]) ⟨_, rfl⟩ ?_ ?_
    · rintro pre m post ρ hl3 ⟨y5, rfl⟩
      have hm : 1 ≤ m ∧ m ≤ 4 := by
        have : m ∈ [1, 2, 3, 4] := by rw [hl3]; simp
        simp at this
        omega
      have S := s125 hl h80 l6 hf hm.1 hm.2 hr hrl
      simp [S]
    · rintro ρ' ⟨y5, rfl⟩
      simp
  · rintro ρ' ⟨y4, y5, rfl⟩
    have b0 : callF KT 56 18 [.int 0, .int 0, .int 1, .int 2] = .ok (.int 0) := by kernel_rfl
    have b2 : callF KT 56 18 [.int 2, .int 0, .int 1, .int 2] = .exc 0 2 := by kernel_rfl
    have bT : callF KT 56 18 [.bl true, .int 0, .int 1, .int 2] = .exc 0 2 := by kernel_rfl
    have m0 : callF KT 56 18 [.int 0, .int 1, .int 10, .int 3] = .exc 0 3 := by kernel_rfl
    have m11 : callF KT 56 18 [.int 11, .int 1, .int 10, .int 3] = .exc 0 3 := by kernel_rfl
    have r1 : callF KT 59 31 [.fn 111, .lst [.non, .int 0, .int 1], .int 1] = .ok (.bl true) := by kernel_rfl
    have r2 : callF KT 59 31 [.fn 111, .lst [bd l, .int 2, .int 1], .int 2] = .ok (.bl true) := x111r hl (.inl b2)
    have r3 : callF KT 59 31 [.fn 111, .lst [bd l, .int 0, .int 0], .int 3] = .ok (.bl true) := x111r hl (.inr ⟨_, b0, m0⟩)
    have r4 : callF KT 59 31 [.fn 111, .lst [bd l, .int 2, .int 0], .int 2] = .ok (.bl true) := x111r hl (.inl b2)
    have r5 : callF KT 59 31 [.fn 111, .lst [bd l, .int 0, .int 11], .int 3] = .ok (.bl true) := x111r hl (.inr ⟨_, b0, m11⟩)
    have r6 : callF KT 59 31 [.fn 113, .lst [bd l, .bl true, .int 1, .non], .int 2] = .ok (.bl true) := x113r hl (.inl bT)
    simp [r1, r2, r3, r4, r5, r6]
end PF

namespace PF
namespace K06
open PySem
theorem hlaw (ns : List Int) (_ : ns.length ≤ 63) : callF tx.prg 60 126 [.fz (ns.map .int)] = .ok (.bl true) := law6 ns
end K06
end PF
open PySem PySem.W PySem.Calls PyProof.Rows
theorem PySem.Challenge.cw_turntold_k06_row_or_chain_holds : PySem.Challenge.rw_turntold_k06_row_or_chain.Holds := by
  w_on; o_law
  refine HandSHeadRun.head_imp (r := OpenLaw.row PySem.Challenge.rw_turntold_k06_row_or_chain) (q := view (OpenLaw.row PySem.Challenge.rw_turntold_k06_row_or_chain).prog [0, 65]) (H := PF.K06.hk) (ob := PF.K06.ob) (M := 4000) (loose := PF.K06.loose) (d := HandSHeadRun.topDef (OpenLaw.row PySem.Challenge.rw_turntold_k06_row_or_chain).prog 65) (kwd := []) PF.K06.ob_eq PF.K06.run
    (by kernel_rfl) (by kernel_rfl) (by kernel_rfl) (by rfl) (by first | assumption | decide +kernel) (by decide +kernel) ⟨rfl, rfl, rfl, rfl, rfl, by decide +kernel⟩ ?hw ?hc
  case hw => w_witness2
  case hc =>
    refine L2.walk_ofE (l := PySem.Challenge.rw_turntold_k06_row_or_chain) (n := 63) (k := 60) (x := "script") (CX := L2.CX0) rfl (by decide) (by kernel_rfl) ⟨rfl, by decide, by decide⟩ ?F (fun _ _ _ _ z => z)
    intro w mg fa h Y G hmg0
    obtain ⟨K, KX, c⟩ := Y
    have hmg : mg ("law" : PySem.Str) = some (.ref fa) := by
      have e : (HandSHeadRun.topDef (OpenLaw.row PySem.Challenge.rw_turntold_k06_row_or_chain).prog 65).name = ("law" : PySem.Str) := by kernel_rfl
      rw [← e]
      exact hmg0
    exact PF.law_fn (e := PF.K06.e_law_v5) (f := 126) KX G c PF.K06.tx_chk PF.K06.tx_bnd rfl rfl hmg PF.K06.hlaw
