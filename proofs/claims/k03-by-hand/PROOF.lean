import PyProof.Rows.All
import HandS.ForMost
import HandS.ForExc
import HandS.Walk
import HandS.Deep
import HandS.ExcCtx
import HandS.ExcIs
import HandS.HotCalls
import KE.SortData
import HandS.SortInts
import HandS.SortRule
import HandS.IsInst
import HandS.TupLe
import HandS.Style
import HandS.Wide
import HandS.Conv
import HandS.SetFor
import HandS.TupSets
import HandS.Strs
import HandS.TupAny
import KE.KRevSl
import HandS.ListItems
import KE.KDictList
import PySem.Challenge.RW_wishties_k03_by_hand
set_option Elab.async false
set_option linter.all false
set_option maxRecDepth 100000
set_option maxHeartbeats 2000003
/-! ## Plain data, a small tree language, and what it computes (no program in sight) -/
namespace Wt
open PySem

inductive D where
  | non | bl (b : Bool) | int (i : Int) | str (s : Str) | dic
  | tup (xs : List D) | lst (f : Bool) (xs : List D) | obj (c : Nat) (xs : List D) | fn (k : Nat) (xs : List D)
  /-- the script: read, never written -/
  | scr (ns : List Int)
  deriving Inhabited

inductive R (α : Type) where
  | ok (a : α) | exc (c : Nat) | bad
def R.bind {α β : Type} : R α → (α → R β) → R β
  | .ok a, f => f a
  | .exc c, _ => .exc c
  | .bad, _ => .bad
@[simp] theorem R.ok_bind {α β : Type} (a : α) (f : α → R β) : (R.ok a).bind f = f a := rfl
@[simp] theorem R.exc_bind {α β : Type} (c : Nat) (f : α → R β) : (R.exc c : R α).bind f = .exc c := rfl
@[simp] theorem R.bad_bind {α β : Type} (f : α → R β) : (R.bad : R α).bind f = .bad := rfl

mutual
def D.py : D → PyData
  | .non => .none
  | .bl b => .bool b
  | .int i => .int i
  | .str s => .str s
  | .tup xs => .tuple (pys xs)
  | .lst _ xs => .list (pys xs)
  | .dic => .dict []
  | .obj _ _ => .dict []
  | .fn _ _ => .dict []
  | .scr ns => .list (ns.map .int)
def pys : List D → List PyData
  | [] => []
  | x :: xs => x.py :: pys xs
end
theorem pys_eq : ∀ xs : List D, pys xs = xs.map D.py
  | [] => rfl
  | x :: xs => by rw [pys, pys_eq xs]; rfl

mutual
/-- what is handed on is no longer new -/
def D.old : D → D
  | .non => .non
  | .bl b => .bl b
  | .int i => .int i
  | .str s => .str s
  | .dic => .dic
  | .tup xs => .tup (olds xs)
  | .lst _ xs => .lst false (olds xs)
  | .obj c xs => .obj c (olds xs)
  | .fn k xs => .fn k (olds xs)
  | .scr ns => .scr ns
def olds : List D → List D
  | [] => []
  | x :: xs => x.old :: olds xs
end
theorem olds_eq : ∀ xs : List D, olds xs = xs.map D.old
  | [] => rfl
  | x :: xs => by rw [olds, olds_eq xs]; rfl

/-- no list is longer -/
def cap : Nat := 16777216
def mkL (ds : List D) : R D := if ds.length ≤ cap then .ok (.lst true ds) else .bad
def toB : D → R Bool
  | .bl b => .ok b
  | _ => .bad

inductive Op where
  | add | sub | mul | fdiv | mod | pow
  deriving DecidableEq
inductive Cm where
  | eq | ne | lt | le | gt | ge | isin | notin | is | isnot
  deriving DecidableEq
inductive Ty where
  | int | bool | list | tuple | own (c : Nat)
  deriving DecidableEq
inductive Bi where
  | len | sum | abs | min2 | max2 | minl | maxl | sorted | list | all | any
  deriving DecidableEq

def small (i : Int) : Bool := decide (-(2 ^ 64) < i) && decide (i < 2 ^ 64)
def opD : Op → D → D → R D
  | .add, .int i, .int j => .ok (.int (i + j))
  | .add, .lst _ xs, .lst _ ys => mkL (xs ++ ys)
  | .sub, .int i, .int j => .ok (.int (i - j))
  | .mul, .int i, .int j => if (small i || small j) = true then .ok (.int (i * j)) else .bad
  | .mul, .lst _ xs, .int j => if decide (-(2 ^ 63) ≤ j) && decide (j < 2 ^ 63) && decide (xs.length * j.toNat ≤ cap) then .ok (.lst true (List.replicate j.toNat xs).flatten) else .bad
  | .fdiv, .int i, .int j => if decide (0 < j) && decide (j < 1073741824) then .ok (.int (i / j)) else .bad
  | .mod, .int i, .int j => if 0 < j then .ok (.int (i % j)) else .bad
  | .pow, .int i, .int j => if decide (0 ≤ j) && decide (j ≤ 1000000) && decide (i.natAbs < 2 ^ 64) then .ok (.int (i ^ j.toNat)) else .bad
  | _, _, _ => .bad
def negD : D → R D
  | .int i => .ok (.int (-i))
  | _ => .bad
def eqD (a b : D) : R Bool := if SeqAt.shaped a.py && SeqAt.shaped b.py then .ok (PyData.eqv a.py b.py) else .bad
def inD (x : D) : D → R Bool
  | .lst _ ds => if SeqAt.shaped x.py && SeqAt.shaped (.list (pys ds)) then .ok ((pys ds).any fun z => PyData.eqv z x.py) else .bad
  | .tup ds => if SeqAt.shaped x.py && SeqAt.shaped (.list (pys ds)) then .ok ((pys ds).any fun z => PyData.eqv z x.py) else .bad
  | _ => .bad
def neg : R Bool → R Bool
  | .ok b => .ok (!b)
  | .exc c => .exc c
  | .bad => .bad
def cmpD : Cm → D → D → R Bool
  | .eq, a, b => eqD a b
  | .ne, a, b => neg (eqD a b)
  | .isin, a, b => inD a b
  | .notin, a, b => neg (inD a b)
  | .lt, .int i, .int j => .ok (decide (i < j))
  | .le, .int i, .int j => .ok (decide (i ≤ j))
  | .gt, .int i, .int j => .ok (decide (j < i))
  | .ge, .int i, .int j => .ok (decide (j ≤ i))
  | .ge, .tup [.int a, .int b], .tup [.int c, .int d] => .ok (if a = c then decide (d ≤ b) else decide (c ≤ a))
  | .is, .bl a, .bl b => .ok (decide (a = b))
  | .isnot, .bl a, .bl b => .ok (!decide (a = b))
  | _, _, _ => .bad
def ixN (n : Nat) (i : Int) : Option Nat := L2.ixN n i
def idxD : D → D → R D
  | .lst _ xs, .int i => (match L2.atI xs i with | some d => .ok d | none => .bad)
  | .tup xs, .int i => (match L2.atI xs i with | some d => .ok d | none => .bad)
  | _, _ => .bad
/-- a slice with no step -/
def cutD (xs : List D) (lo hi : Option Int) : List D := (xs.drop (HT.sIx xs.length 0 lo)).take (HT.sIx xs.length xs.length hi - HT.sIx xs.length 0 lo)
/-- each second one from the i-th on -/
def second {α : Type} : List α → List α
  | [] => []
  | [x] => [x]
  | x :: _ :: r => x :: second r
inductive Stp where
  | one | back | two (lo : Nat)
  deriving DecidableEq
def sliD : Stp → D → Option Int → Option Int → R D
  | .one, .lst _ xs, lo, hi => .ok (.lst true (cutD xs lo hi))
  | .one, .scr ns, lo, hi => .ok (.lst true (cutD (ns.map .int) lo hi))
  | .back, .lst _ xs, none, none => .ok (.lst true xs.reverse)
  | .back, .tup xs, none, none => .ok (.tup xs.reverse)
  | .two k, .lst _ xs, none, none => .ok (.lst true (second (xs.drop k)))
  | _, _, _, _ => .bad
def itemsD : D → R (List D)
  | .lst _ xs => .ok xs
  | .tup xs => .ok xs
  | _ => .bad
def lstD : D → R (List D)
  | .lst _ xs => .ok xs
  | _ => .bad
def okR (i : Int) : Bool := decide (-(2 ^ 62) ≤ i) && decide (i < 2 ^ 62)
def rangeD : List D → R (List D)
  | [.int n] => if okR n then .ok ((List.range n.toNat).map fun i => .int (0 + (i : Nat))) else .bad
  | [.int a, .int b] => if okR a && okR b then .ok ((List.range (b - a).toNat).map fun i => .int (a + (i : Nat))) else .bad
  | [.int a, .int b, .int c] => if decide (c ≠ 0) && decide (c.natAbs < 1073741824) && Builtin.Range.small a b c && decide (0 ≤ Builtin.Range.rangeSize a b c) then .ok ((List.range (Builtin.Range.rangeSize a b c).toNat).map fun i => .int (a + (i : Nat) * c)) else .bad
  | _ => .bad
def intsD : List D → Option (List Int)
  | [] => some []
  | .int i :: r => (intsD r).map (i :: ·)
  | _ :: _ => none
def blsD : List D → Option (List Bool)
  | [] => some []
  | .bl i :: r => (blsD r).map (i :: ·)
  | _ :: _ => none
def minI : Int → List Int → Int
  | m, [] => m
  | m, x :: r => minI (if x < m then x else m) r
def maxI : Int → List Int → Int
  | m, [] => m
  | m, x :: r => maxI (if m < x then x else m) r

/-! ### sorting: by a key, stable -/
inductive Ky where
  | int (i : Int) | ints (l : List Int) | pair (a b : Int) | lots (a b : List Int)
  deriving DecidableEq
def D.key : D → Option Ky
  | .int i => some (.int i)
  | .lst _ xs => (intsD xs).map .ints
  | .tup [.int a, .int b] => some (.pair a b)
  | .tup [.lst _ xs, .lst _ ys] => (match intsD xs, intsD ys with | some a, some b => some (.lots a b) | _, _ => none)
  | _ => none
def Ky.kind : Ky → Nat
  | .int _ => 0 | .ints _ => 1 | .pair _ _ => 2 | .lots _ _ => 3
def Ky.lt : Ky → Ky → Bool
  | .int i, .int j => decide (i < j)
  | .ints a, .ints b => HT.lexLt a b
  | .pair a b, .pair c d => if a = c then decide (b < d) else decide (a < c)
  | .lots a b, .lots c d => if a = c then HT.lexLt b d else HT.lexLt a c
  | _, _ => false
def D.ltK (x y : D) : Bool := match x.key, y.key with | some a, some b => a.lt b | _, _ => false
/-- a place behind all that are not above it -/
def insD (x : D) : List D → List D
  | [] => [x]
  | y :: r => if x.ltK y = true then x :: y :: r else y :: insD x r
def sortD : List D → List D → List D
  | acc, [] => acc
  | acc, x :: r => sortD (insD x acc) r
def oneKind (k : Nat) (ds : List D) : Bool := ds.all fun d => match d.key with | some a => a.kind == k | none => false
def sortedD (ds : List D) : R D :=
  if ds.length ≤ cap then (if oneKind 0 ds || oneKind 2 ds then .ok (.lst true (sortD [] ds)) else if oneKind 1 ds || oneKind 3 ds then .ok (.lst true (ds.mergeSort (PySem.W.dataLe false D.py))) else .bad) else .bad

def biD : Bi → List D → R D
  | .len, [.lst _ xs] => .ok (.int xs.length)
  | .len, [.tup xs] => .ok (.int xs.length)
  | .len, [.scr ns] => .ok (.int ns.length)
  | .sum, [.lst _ xs] => (match intsD xs with | some ns => .ok (.int ns.sum) | none => .bad)
  | .abs, [.int i] => .ok (.int (if i < 0 then -i else i))
  | .min2, [.int i, .int j] => .ok (.int (if j < i then j else i))
  | .max2, [.int i, .int j] => .ok (.int (if i < j then j else i))
  | .minl, [.lst _ xs] => (match intsD xs with | some (n :: ns) => .ok (.int (minI n ns)) | _ => .bad)
  | .maxl, [.lst _ xs] => (match intsD xs with | some (n :: ns) => .ok (.int (maxI n ns)) | _ => .bad)
  | .sorted, [.lst _ xs] => sortedD xs
  | .list, [.lst _ xs] => mkL xs
  | .list, [.tup xs] => mkL xs
  | .all, [.lst _ xs] => (match blsD xs with | some bs => .ok (.bl (bs.all id)) | none => .bad)
  | .any, [.lst _ xs] => (match blsD xs with | some bs => .ok (.bl (bs.any id)) | none => .bad)
  | _, _ => .bad
/-- what hands back no object -/
def Bi.atom : Bi → Bool
  | .len | .sum | .abs | .min2 | .max2 | .minl | .maxl | .all | .any => true
  | _ => false
/-- own classes: 0 Answer, 1 Chosen, 2 Barred, 3 Most; fields: 0 ties, 1 ahead, 2 behind -/
def isa (c k : Nat) : Bool := k == c || (k == 0 && (c == 1 || c == 2 || c == 3))
def fieldIx : Nat → Nat → Option Nat
  | 1, 0 => some 0
  | 2, 1 => some 0
  | 2, 2 => some 1
  | 3, 0 => some 0
  | 3, 1 => some 1
  | 3, 2 => some 2
  | _, _ => none
def isiD : D → Ty → R Bool
  | .int _, .int => .ok true
  | .bl _, .int => .ok true
  | .bl _, .bool => .ok true
  | .lst _ _, .list => .ok true
  | .scr _, .list => .ok true
  | .tup _, .tuple => .ok true
  | .obj c _, .own k => .ok (isa c k)
  | .obj _ _, _ => .bad
  | .non, .own _ => .bad
  | .bl _, .own _ => .bad
  | .int _, .own _ => .bad
  | .str _, .own _ => .bad
  | .dic, .own _ => .bad
  | .tup _, .own _ => .bad
  | .lst _ _, .own _ => .bad
  | .fn _ _, _ => .bad
  | _, _ => .ok false
def attrD : D → Nat → R D
  | .obj c xs, f => (match fieldIx c f with | some i => (match xs[i]? with | some d => .ok d | none => .bad) | none => .bad)
  | _, _ => .bad
/-- objects of the classes of a mask -/
def okC (mask c : Nat) : Bool := mask.testBit c && decide (1 ≤ c) && decide (c ≤ 3)
def okO (mask : Nat) : D → R Nat
  | .obj c _ => if okC mask c = true then .ok c else .bad
  | _ => .bad
def asList : D → Option (List D)
  | .lst _ xs => some xs
  | .tup xs => some xs
  | _ => none
def mkD (c : Nat) (ds : List D) : R D :=
  match c, ds.map asList with
  | 1, [some a] => .ok (.obj 1 [.lst true a])
  | 2, [some a, some b] => .ok (.obj 2 [.lst true a, .lst true b])
  | 3, [some a, some b, some d] => .ok (.obj 3 [.lst true a, .lst true b, .lst true d])
  | _, _ => .bad
def indexD (c x : D) : R D :=
  match c with
  | .lst _ ds => if SeqAt.shaped x.py && SeqAt.shaped (.list (pys ds)) then (match (pys ds).findIdx? fun z => PyData.eqv z x.py with | some i => .ok (.int (i : Nat)) | none => .bad) else .bad
  | _ => .bad

/-- each number once -/
def ddI : List Int → List Int
  | [] => []
  | x :: r => if x ∈ r then ddI r else x :: ddI r
/-- in order, each once -/
def sortI (ns : List Int) : List Int := (ddI ns).mergeSort fun a b => decide (a ≤ b)
def setL : D → R (List Int)
  | .lst _ xs => (match intsD xs with | some ns => if ns.length < 60 then .ok ns else .bad | none => .bad)
  | _ => .bad
/-! ### the trees -/
inductive Tg where
  | nm (i : Nat) | tp (ts : Tg) | nil | cons (t ts : Tg)
  deriving DecidableEq
inductive E where
  | var (i : Nat) | int (i : Int) | bl (b : Bool) | non | str (s : Str) | glob (x : Str) (i : Int)
  | bin (o : Op) (a b : E) | neg (a : E)
  | cmp (a cs : E) | ccons (c : Cm) (b cs : E) | cnil
  | and (es : E) | or (es : E) | not (a : E) | ite (c a b : E)
  | idx (a i : E) | sli (s : Stp) (a lo hi : E)
  | tup (es : E) | lst (es : E) | nil | cons (a es : E)
  | comp (elt : E) (t : Tg) (it cd : E) (own : List Nat)
  | lrng (a : E) | seq (a : E) | rng (es : E) | enum (a : E) | zip (a b : E)
  | call (f : Nat) (es : E) | bi (b : Bi) (es : E) | isi (a : E) (t : Ty) | attr (a : E) (f : Nat)
  | mk (c : Nat) (es : E) | meth (m : Nat) (a es : E) | index (a x : E) | isk (a : E) (k : Nat) | sets (o : Bool) (a : E)

inductive Sl where
  | no | val (d : D) | own (ds : List D)
  deriving Inhabited
abbrev Rho := List Sl
def Sl.share : Sl → Sl
  | .own ds => .val (.lst true ds)
  | s => s
def shareAll (ρ : Rho) : Rho := ρ.map Sl.share
def shareAt (ρ : Rho) : List Nat → Rho
  | [] => ρ
  | i :: is => shareAt (ρ.set i (ρ.getD i .no).share) is
def wipeR (ρ : Rho) : List Nat → Rho
  | [] => ρ
  | v :: vs => (wipeR ρ vs).set v .no
mutual
def bindT : Tg → D → Rho → Option Rho
  | .nm i, d, ρ => some (ρ.set i (.val d))
  | .tp ts, .tup ds, ρ => bindTs ts ds ρ
  | _, _, _ => none
def bindTs : Tg → List D → Rho → Option Rho
  | .nil, [], ρ => some ρ
  | .cons t ts, d :: ds, ρ => (match bindT t d ρ with | some ρ' => bindTs ts ds ρ' | none => none)
  | _, _, _ => none
end
def compR (f : D → R (Option D)) : List D → R (List D)
  | [] => .ok []
  | x :: xs => (f x).bind fun o => (compR f xs).bind fun ds => .ok (match o with | some d => d :: ds | none => ds)
/-- no exception leaves a comprehension -/
def noX {α : Type} : R α → R α
  | .ok a => .ok a
  | _ => .bad
def base (a : E) (ρ : Rho) (r : R D) : R D :=
  match a with
  | .var k => (match ρ.getD k .no with | .own ds => .ok (.lst true ds) | _ => r)
  | _ => r
def optI : R (List D) → R (Option Int)
  | .ok [] => .ok none
  | .ok [.int i] => .ok (some i)
  | .exc c => .exc c
  | _ => .bad
def isCnil : E → Bool
  | .cnil => true
  | _ => false
variable (Γ : Nat → List D → R D)
mutual
def ev : E → Rho → R D
  | .var i, ρ => (match ρ.getD i .no with | .val d => .ok d | _ => .bad)
  | .int i, _ => .ok (.int i)
  | .bl b, _ => .ok (.bl b)
  | .non, _ => .ok .non
  | .str s, _ => .ok (.str s)
  | .glob _ i, _ => .ok (.int i)
  | .bin o a b, ρ => (ev a ρ).bind fun x => (ev b ρ).bind fun y => opD o x y
  | .neg a, ρ => (ev a ρ).bind negD
  | .cmp a cs, ρ => (ev a (shareAll ρ)).bind fun x => (evc cs (shareAll ρ) x).bind fun b => .ok (.bl b)
  | .and es, ρ => (eva es (shareAll ρ)).bind fun b => .ok (.bl b)
  | .or es, ρ => (evo es (shareAll ρ)).bind fun b => .ok (.bl b)
  | .not a, ρ => ((ev a (shareAll ρ)).bind toB).bind fun t => .ok (.bl !t)
  | .ite c a b, ρ => ((ev c (shareAll ρ)).bind toB).bind fun t => if t = true then ev a ρ else ev b ρ
  | .idx a i, ρ => (base a ρ (ev a ρ)).bind fun x => (ev i ρ).bind fun y => idxD x y
  | .sli s a lo hi, ρ => (base a ρ (ev a ρ)).bind fun x => (optI (evs lo ρ)).bind fun l => (optI (evs hi ρ)).bind fun h => sliD s x l h
  | .tup es, ρ => (evs es ρ).bind fun ds => if ds.length ≤ cap then .ok (.tup ds) else .bad
  | .lst es, ρ => (evs es ρ).bind fun ds => mkL ds
  | .comp elt t it cd own, ρ => ((ev it ρ).bind itemsD).bind fun items => (noX (compR (fun d => match bindT t d (wipeR ρ own) with
      | none => .bad
      | some ρ' => (eva cd (shareAll ρ')).bind fun b => if b = true then (ev elt ρ').bind fun y => .ok (some y) else .ok none) items)).bind mkL
  | .call f es, ρ => (evs es ρ).bind fun ds => Γ f (olds ds)
  | .bi b es, ρ => if b.atom = true then (evs es (shareAll ρ)).bind (biD b) else (evs es ρ).bind (biD b)
  | .isi a t, ρ => (ev a (shareAll ρ)).bind fun x => (isiD x t).bind fun b => .ok (.bl b)
  | .attr a f, ρ => (ev a ρ).bind fun x => (okO (f / 8) x).bind fun _ => attrD x (f % 8)
  | .sets o a, ρ => (ev a ρ).bind fun x => (setL x).bind fun ns => if o = true then .ok (.lst true ((sortI ns).map .int)) else .ok (.int (ddI ns).length)
  | .isk a k, ρ => (ev a (shareAll ρ)).bind fun x => (okO (k / 8) x).bind fun c => .ok (.bl (isa c (k % 8)))
  | .mk c es, ρ => (evs es ρ).bind (mkD c)
  | .meth m a es, ρ => (ev a ρ).bind fun x => (okO (m % 16) x).bind fun c => (evs es ρ).bind fun ds => noX (Γ (m / 16 + c) (olds (x :: ds)))
  | .index a x, ρ => (base a ρ (ev a ρ)).bind fun c => (lstD c).bind fun ds => (ev x ρ).bind fun d => indexD (.lst true ds) d
  | .ccons _ _ _, _ => .bad
  | .cnil, _ => .bad
  | .nil, _ => .bad
  | .cons _ _, _ => .bad
  | .lrng a, ρ => (ev a ρ).bind fun x => (rangeD [x]).bind mkL
  | .seq a, ρ => ((ev a ρ).bind itemsD).bind fun xs => .ok (.lst true xs)
  | .rng es, ρ => ((evs es ρ).bind rangeD).bind fun xs => .ok (.lst true xs)
  | .enum a, ρ => ((ev a ρ).bind lstD).bind fun xs => .ok (.lst true (xs.zipIdx.map fun p => .tup [.int (p.2 : Nat), p.1]))
  | .zip a b, ρ => ((ev a ρ).bind lstD).bind fun xs => ((ev b ρ).bind lstD).bind fun ys => .ok (.lst true ((xs.zip ys).map fun p => .tup [p.1, p.2]))
def evs : E → Rho → R (List D)
  | .nil, _ => .ok []
  | .cons a es, ρ => (ev a ρ).bind fun d => (evs es ρ).bind fun ds => .ok (d :: ds)
  | _, _ => .bad
/-- all of them, one behind the other -/
def eva : E → Rho → R Bool
  | .nil, _ => .ok true
  | .cons a es, ρ => ((ev a ρ).bind toB).bind fun t => if t = true then eva es ρ else .ok false
  | _, _ => .bad
def evo : E → Rho → R Bool
  | .nil, _ => .ok false
  | .cons a es, ρ => ((ev a ρ).bind toB).bind fun t => if t = true then .ok true else evo es ρ
  | _, _ => .bad
def evc : E → Rho → D → R Bool
  | .ccons c b cs, ρ, x => (ev b ρ).bind fun y => (cmpD c x y).bind fun t => if isCnil cs = true then .ok t else if t = true then evc cs ρ y else .ok false
  | _, _, _ => .bad
end
end Wt
/-! ## What a value on the abstract heap stands for -/
namespace Wt
open PySem L2

def names : Nat → List Str
  | 1 => ["ties"]
  | 2 => ["ahead", "behind"]
  | 3 => ["ties", "ahead", "behind"]
  | _ => []

mutual
inductive Rp (cl : Nat → Addr) (H0 G : Hp) : V → D → Prop
  | non : Rp cl H0 G .non .non
  | bl (b : Bool) : Rp cl H0 G (.bl b) (.bl b)
  | int (i : Int) : Rp cl H0 G (.int i) (.int i)
  | str (x : Str) : Rp cl H0 G (.str x) (.str x)
  | dic {a : Addr} : G a = some (.dK []) → Rp cl H0 G (.ref a) .dic
  | tup {a : Addr} {xs : List V} {ds : List D} : G a = some (.tup xs) → RpA cl H0 G xs ds → Rp cl H0 G (.ref a) (.tup ds)
  | lst {a : Addr} {xs : List V} {ds : List D} {f : Bool} : G a = some (.lst xs) → (f = true → H0 a = none) → RpA cl H0 G xs ds → Rp cl H0 G (.ref a) (.lst f ds)
  | obj {a dx : Addr} {fs : List (Str × V)} {c : Nat} {xs : List V} {ds : List D} : G a = some (.ins (cl c) dx fs) → fs.map (·.1) = names c → fs.map (·.2) = xs → RpA cl H0 G xs ds → Rp cl H0 G (.ref a) (.obj c ds)
  | scr {a : Addr} {o : Obj} {ns : List Int} : G a = some (.frz o (.lst (ns.map V.int))) → Rp cl H0 G (.ref a) (.scr ns)
inductive RpA (cl : Nat → Addr) (H0 G : Hp) : List V → List D → Prop
  | nil : RpA cl H0 G [] []
  | cons {v : V} {vs : List V} {d : D} {ds : List D} : Rp cl H0 G v d → RpA cl H0 G vs ds → RpA cl H0 G (v :: vs) (d :: ds)
end

section
variable {cl : Nat → Addr} {H0 G G' H H' : Hp}
mutual
theorem Rp.mono (s : Same G G') : ∀ (d : D) {v : V}, Rp cl H0 G v d → Rp cl H0 G' v d
  | .non, _, h => by cases h; exact .non
  | .bl _, _, h => by cases h; exact .bl _
  | .int _, _, h => by cases h; exact .int _
  | .str _, _, h => by cases h; exact .str _
  | .dic, _, h => by cases h with | dic h => exact .dic (s _ _ h)
  | .tup ds, _, h => by cases h with | tup h1 h2 => exact .tup (s _ _ h1) (RpA.mono s ds h2)
  | .lst f ds, _, h => by cases h with | lst h1 hf h2 => exact .lst (s _ _ h1) hf (RpA.mono s ds h2)
  | .obj c ds, _, h => by cases h with | obj h1 h2 h3 h4 => exact .obj (s _ _ h1) h2 h3 (RpA.mono s ds h4)
  | .fn _ _, _, h => by cases h
  | .scr _, _, h => by cases h with | scr h => exact .scr (s _ _ h)
theorem RpA.mono (s : Same G G') : ∀ (ds : List D) {vs : List V}, RpA cl H0 G vs ds → RpA cl H0 G' vs ds
  | [], _, h => by cases h; exact .nil
  | d :: ds, _, h => by cases h with | cons h1 h2 => exact .cons (Rp.mono s d h1) (RpA.mono s ds h2)
end
theorem RpA.length : ∀ {ds : List D} {vs : List V}, RpA cl H0 G vs ds → vs.length = ds.length
  | [], _, h => by cases h; rfl
  | d :: ds, _, h => by cases h with | cons h1 h2 => simp [RpA.length h2]
theorem RpA.get : ∀ {ds : List D} {vs : List V} {i : Nat} {d : D}, RpA cl H0 G vs ds → ds[i]? = some d → ∃ v, vs[i]? = some v ∧ Rp cl H0 G v d
  | [], _, _, _, h, e => by simp at e
  | d :: ds, _, 0, x, h, e => by
    cases h with
    | cons h1 h2 => simp at e; subst e; exact ⟨_, rfl, h1⟩
  | d :: ds, _, i + 1, x, h, e => by
    cases h with
    | cons h1 h2 => simpa using RpA.get h2 (by simpa using e)
theorem RpA.getV : ∀ {ds : List D} {vs : List V} {i : Nat} {v : V}, RpA cl H0 G vs ds → vs[i]? = some v → ∃ d, ds[i]? = some d ∧ Rp cl H0 G v d
  | [], _, _, _, h, e => by cases h; simp at e
  | d :: ds, _, 0, x, h, e => by
    cases h with
    | cons h1 h2 => simp at e; subst e; exact ⟨_, rfl, h1⟩
  | d :: ds, _, i + 1, x, h, e => by
    cases h with
    | cons h1 h2 => simpa using RpA.getV h2 (by simpa using e)
theorem RpA.append : ∀ {ds es : List D} {vs ws : List V}, RpA cl H0 G vs ds → RpA cl H0 G ws es → RpA cl H0 G (vs ++ ws) (ds ++ es)
  | [], _, _, _, h, k => by cases h; exact k
  | d :: ds, _, _, _, h, k => by cases h with | cons h1 h2 => exact .cons h1 (RpA.append h2 k)
theorem RpA.take : ∀ {ds : List D} {vs : List V} (n : Nat), RpA cl H0 G vs ds → RpA cl H0 G (vs.take n) (ds.take n)
  | _, _, 0, _ => .nil
  | [], _, n + 1, h => by cases h; exact .nil
  | d :: ds, _, n + 1, h => by cases h with | cons h1 h2 => exact .cons h1 (RpA.take n h2)
theorem RpA.drop : ∀ {ds : List D} {vs : List V} (n : Nat), RpA cl H0 G vs ds → RpA cl H0 G (vs.drop n) (ds.drop n)
  | _, _, 0, h => h
  | [], _, n + 1, h => by cases h; exact .nil
  | d :: ds, _, n + 1, h => by cases h with | cons h1 h2 => exact RpA.drop n h2
theorem RpA.set {d : D} {v : V} (r : Rp cl H0 G v d) : ∀ {ds : List D} {vs : List V} (i : Nat), RpA cl H0 G vs ds → RpA cl H0 G (vs.set i v) (ds.set i d)
  | [], _, _, h => by cases h; exact .nil
  | d :: ds, _, 0, h => by cases h with | cons h1 h2 => exact .cons r h2
  | d :: ds, _, i + 1, h => by cases h with | cons h1 h2 => exact .cons h1 (RpA.set r i h2)
theorem RpA.reverse {ds : List D} {vs : List V} (h : RpA cl H0 G vs ds) : RpA cl H0 G vs.reverse ds.reverse := by
  induction ds generalizing vs with
  | nil => cases h; exact .nil
  | cons d ds ih =>
    cases h with
    | cons h1 h2 => rw [List.reverse_cons, List.reverse_cons]; exact (ih h2).append (.cons h1 .nil)
theorem RpA.rep {ds : List D} {vs : List V} (h : RpA cl H0 G vs ds) : ∀ k : Nat, RpA cl H0 G (List.replicate k vs).flatten (List.replicate k ds).flatten
  | 0 => .nil
  | k + 1 => by rw [List.replicate_succ, List.replicate_succ, List.flatten_cons, List.flatten_cons]; exact h.append (h.rep k)
theorem RpA.ints : ∀ {ds : List D} {vs : List V} {ns : List Int}, RpA cl H0 G vs ds → intsD ds = some ns → vs = ns.map V.int
  | [], _, _, h, e => by cases h; simp [intsD] at e; subst e; rfl
  | d :: ds, _, ns, h, e => by
    cases h with
    | cons h1 h2 =>
      cases d <;> simp [intsD] at e
      obtain ⟨m, e1, e2⟩ := e
      subst e2
      cases h1
      rw [RpA.ints h2 e1]; rfl
theorem RpA.bls : ∀ {ds : List D} {vs : List V} {ns : List Bool}, RpA cl H0 G vs ds → blsD ds = some ns → vs = ns.map V.bl
  | [], _, _, h, e => by cases h; simp [blsD] at e; subst e; rfl
  | d :: ds, _, ns, h, e => by
    cases h with
    | cons h1 h2 =>
      cases d <;> simp [blsD] at e
      obtain ⟨m, e1, e2⟩ := e
      subst e2
      cases h1
      rw [RpA.bls h2 e1]; rfl

/-! ### old -/
mutual
theorem Rp.old {H1 : Hp} : ∀ (d : D) {v : V}, Rp cl H0 G v d → Rp cl H1 G v d.old
  | .non, _, h => by cases h; exact .non
  | .bl _, _, h => by cases h; exact .bl _
  | .int _, _, h => by cases h; exact .int _
  | .str _, _, h => by cases h; exact .str _
  | .dic, _, h => by cases h with | dic h => exact .dic h
  | .tup ds, _, h => by cases h with | tup h1 h2 => exact .tup h1 (RpA.old ds h2)
  | .lst f ds, _, h => by cases h with | lst h1 hf h2 => exact .lst h1 (fun e => nomatch e) (RpA.old ds h2)
  | .obj c ds, _, h => by cases h with | obj h1 h2 h3 h4 => exact .obj h1 h2 h3 (RpA.old ds h4)
  | .fn _ _, _, h => by cases h
  | .scr _, _, h => by cases h with | scr h => exact .scr h
theorem RpA.old {H1 : Hp} : ∀ (ds : List D) {vs : List V}, RpA cl H0 G vs ds → RpA cl H1 G vs (olds ds)
  | [], _, h => by cases h; exact .nil
  | d :: ds, _, h => by cases h with | cons h1 h2 => exact .cons (Rp.old d h1) (RpA.old ds h2)
end
/-! an elder entry: what is new behind the younger is new behind the elder -/
mutual
theorem Rp.elder {H1 : Hp} (s : Same H1 H0) : ∀ (d : D) {v : V}, Rp cl H0 G v d → Rp cl H1 G v d
  | .non, _, h => by cases h; exact .non
  | .bl _, _, h => by cases h; exact .bl _
  | .int _, _, h => by cases h; exact .int _
  | .str _, _, h => by cases h; exact .str _
  | .dic, _, h => by cases h with | dic h => exact .dic h
  | .tup ds, _, h => by cases h with | tup h1 h2 => exact .tup h1 (RpA.elder s ds h2)
  | .lst f ds, _, h => by cases h with | lst h1 hf h2 => exact .lst h1 (fun e => s.free (hf e)) (RpA.elder s ds h2)
  | .obj c ds, _, h => by cases h with | obj h1 h2 h3 h4 => exact .obj h1 h2 h3 (RpA.elder s ds h4)
  | .fn _ _, _, h => by cases h
  | .scr _, _, h => by cases h with | scr h => exact .scr h
theorem RpA.elder {H1 : Hp} (s : Same H1 H0) : ∀ (ds : List D) {vs : List V}, RpA cl H0 G vs ds → RpA cl H1 G vs ds
  | [], _, h => by cases h; exact .nil
  | d :: ds, _, h => by cases h with | cons h1 h2 => exact .cons (Rp.elder s d h1) (RpA.elder s ds h2)
end

/-! ### data as the library has it -/
theorem DpAll.ofInts {K : PySem.W.Frag} : ∀ ns : List Int, DpAll K G (ns.map V.int) (ns.map PyData.int)
  | [] => .nil
  | n :: ns => .cons (.int n) (DpAll.ofInts ns)
mutual
theorem Rp.dp {K : PySem.W.Frag} : ∀ (d : D) {v : V}, d.py.canLay0 = true → Rp cl H0 G v d → Dp K G v d.py
  | .non, _, _, h => by cases h; exact .non
  | .bl _, _, _, h => by cases h; exact .bl _
  | .int _, _, _, h => by cases h; exact .int _
  | .str _, _, _, h => by cases h; exact .str _
  | .dic, _, c, h => by simp [D.py, PyData.canLay0] at c
  | .tup ds, _, c, h => by
    cases h with
    | tup h1 h2 =>
      rw [D.py]
      exact .tup (.inl (.inl h1)) (RpA.dp ds (by simpa [D.py, PyData.canLay0] using c) h2)
  | .lst f ds, _, c, h => by
    cases h with
    | lst h1 hf h2 =>
      rw [D.py]
      exact .lst (.inl (.inl h1)) (RpA.dp ds (by simpa [D.py, PyData.canLay0] using c) h2)
  | .obj _ ds, _, c, h => by simp [D.py, PyData.canLay0] at c
  | .fn _ _, _, c, h => by simp [D.py, PyData.canLay0] at c
  | .scr ns, _, _, h => by
    cases h with
    | scr h =>
      rw [D.py]
      exact .lst (.inl (.inr ⟨_, h⟩)) (DpAll.ofInts ns)
theorem RpA.dp {K : PySem.W.Frag} : ∀ (ds : List D) {vs : List V}, PyData.canLayAll0 (pys ds) = true → RpA cl H0 G vs ds → DpAll K G vs (pys ds)
  | [], _, _, h => by cases h; exact .nil
  | d :: ds, _, c, h => by
    cases h with
    | cons h1 h2 =>
      rw [pys, PyData.canLayAll0, Bool.and_eq_true] at c
      exact .cons (Rp.dp d c.1 h1) (RpA.dp ds c.2 h2)
end

/-! ### size; one place left out -/
mutual
def D.sz : D → Nat
  | .tup xs => szs xs + 1
  | .lst _ xs => szs xs + 1
  | .obj _ xs => szs xs + 1
  | .fn _ xs => szs xs + 1
  | _ => 1
def szs : List D → Nat
  | [] => 0
  | x :: xs => x.sz + szs xs
end
theorem some_ne {o u : HO} {x : Option HO} (h : x = some o) (h' : x = some u) (n : o ≠ u) : False := n (Option.some.inj (h.symm.trans h'))
mutual
theorem Rp.det {H1 : Hp} : ∀ (d : D) {v : V} {d' : D}, Rp cl H0 G v d → Rp cl H1 G v d' → d.sz = d'.sz
  | .non, _, _, h, h' => by cases h; cases h'; rfl
  | .bl _, _, _, h, h' => by cases h; cases h'; rfl
  | .int _, _, _, h, h' => by cases h; cases h'; rfl
  | .str _, _, _, h, h' => by cases h; cases h'; rfl
  | .dic, _, _, h, h' => by
    cases h with
    | dic h =>
      cases h' with
      | dic _ => rfl
      | tup k _ => exact (some_ne h k (fun z => nomatch z)).elim
      | lst k _ _ => exact (some_ne h k (fun z => nomatch z)).elim
      | obj k _ _ _ => exact (some_ne h k (fun z => nomatch z)).elim
      | scr k => exact (some_ne h k (fun z => nomatch z)).elim
  | .tup ds, _, _, h, h' => by
    cases h with
    | tup h1 h2 =>
      cases h' with
      | dic k => exact (some_ne h1 k (fun z => nomatch z)).elim
      | tup k1 k2 =>
        rw [h1] at k1
        injection k1 with e; injection e with e; subst e
        simp only [D.sz, RpA.det ds h2 k2]
      | lst k1 _ k2 => exact (some_ne h1 k1 (fun z => nomatch z)).elim
      | obj k _ _ _ => exact (some_ne h1 k (fun z => nomatch z)).elim
      | scr k => exact (some_ne h1 k (fun z => nomatch z)).elim
  | .lst f ds, _, _, h, h' => by
    cases h with
    | lst h1 _ h2 =>
      cases h' with
      | dic k => exact (some_ne h1 k (fun z => nomatch z)).elim
      | tup k1 k2 => exact (some_ne h1 k1 (fun z => nomatch z)).elim
      | lst k1 _ k2 =>
        rw [h1] at k1
        injection k1 with e; injection e with e; subst e
        simp only [D.sz, RpA.det ds h2 k2]
      | obj k _ _ _ => exact (some_ne h1 k (fun z => nomatch z)).elim
      | scr k => exact (some_ne h1 k (fun z => nomatch z)).elim
  | .obj c ds, _, _, h, h' => by
    cases h with
    | obj h1 h2 h3 h4 =>
      cases h' with
      | dic k => exact (some_ne h1 k (fun z => nomatch z)).elim
      | tup k _ => exact (some_ne h1 k (fun z => nomatch z)).elim
      | lst k _ _ => exact (some_ne h1 k (fun z => nomatch z)).elim
      | obj k1 k2 k3 k4 =>
        rw [h1] at k1
        injection k1 with e; injection e with e1 e2 e3
        subst e3; subst h3; subst k3
        simp only [D.sz, RpA.det ds h4 k4]
      | scr k => exact (some_ne h1 k (fun z => nomatch z)).elim
  | .fn _ _, _, _, h, _ => by cases h
  | .scr _, _, _, h, h' => by
    cases h with
    | scr h =>
      cases h' with
      | dic k => exact (some_ne h k (fun z => nomatch z)).elim
      | tup k _ => exact (some_ne h k (fun z => nomatch z)).elim
      | lst k _ _ => exact (some_ne h k (fun z => nomatch z)).elim
      | obj k _ _ _ => exact (some_ne h k (fun z => nomatch z)).elim
      | scr k => rfl
theorem RpA.det {H1 : Hp} : ∀ (ds : List D) {vs : List V} {ds' : List D}, RpA cl H0 G vs ds → RpA cl H1 G vs ds' → szs ds = szs ds'
  | [], _, _, h, h' => by cases h; cases h'; rfl
  | d :: ds, _, _, h, h' => by
    cases h with
    | cons h1 h2 =>
      cases h' with
      | cons k1 k2 => simp only [szs, Rp.det d h1 k1, RpA.det ds h2 k2]
end
def minus (G : Hp) (p : Addr) : Hp := fun a => if a = p then none else G a
theorem minus_ne {p a : Addr} (h : a ≠ p) : minus G p a = G a := by unfold minus; rw [if_neg h]
theorem minus_self {p : Addr} : minus G p p = none := by unfold minus; rw [if_pos rfl]
theorem minus_same {p : Addr} : Same (minus G p) G := fun a o h => by
  unfold minus at h
  split at h
  · cases h
  · exact h
mutual
theorem Rp.less {H1 : Hp} {p : Addr} {dp : D} (hp : Rp cl H1 G (.ref p) dp) : ∀ (d : D) {v : V}, Rp cl H0 G v d → d.sz < dp.sz → Rp cl H0 (minus G p) v d
  | .non, _, h, _ => by cases h; exact .non
  | .bl _, _, h, _ => by cases h; exact .bl _
  | .int _, _, h, _ => by cases h; exact .int _
  | .str _, _, h, _ => by cases h; exact .str _
  | .dic, _, h, l => by
    have h0 := h
    cases h with
    | @dic a h =>
      have ne : a ≠ p := fun e => by subst e; exact absurd (Rp.det _ h0 hp) (Nat.ne_of_lt l)
      exact .dic (by rw [minus_ne ne]; exact h)
  | .tup ds, _, h, l => by
    have h0 := h
    cases h with
    | @tup a _ _ h1 h2 =>
      have ne : a ≠ p := fun e => by subst e; exact absurd (Rp.det _ h0 hp) (Nat.ne_of_lt l)
      exact .tup (by rw [minus_ne ne]; exact h1) (RpA.less hp ds h2 (by simp only [D.sz] at l; omega))
  | .lst f ds, _, h, l => by
    have h0 := h
    cases h with
    | @lst a _ _ _ h1 hf h2 =>
      have ne : a ≠ p := fun e => by subst e; exact absurd (Rp.det _ h0 hp) (Nat.ne_of_lt l)
      exact .lst (by rw [minus_ne ne]; exact h1) hf (RpA.less hp ds h2 (by simp only [D.sz] at l; omega))
  | .obj c ds, _, h, l => by
    have h0 := h
    cases h with
    | @obj a _ _ _ _ _ h1 h2 h3 h4 =>
      have ne : a ≠ p := fun e => by subst e; exact absurd (Rp.det _ h0 hp) (Nat.ne_of_lt l)
      exact .obj (by rw [minus_ne ne]; exact h1) h2 h3 (RpA.less hp ds h4 (by simp only [D.sz] at l; omega))
  | .fn _ _, _, h, _ => by cases h
  | .scr _, _, h, l => by
    have h0 := h
    cases h with
    | @scr a _ _ h =>
      have ne : a ≠ p := fun e => by subst e; exact absurd (Rp.det _ h0 hp) (Nat.ne_of_lt l)
      exact .scr (by rw [minus_ne ne]; exact h)
theorem RpA.less {H1 : Hp} {p : Addr} {dp : D} (hp : Rp cl H1 G (.ref p) dp) : ∀ (ds : List D) {vs : List V}, RpA cl H0 G vs ds → szs ds < dp.sz → RpA cl H0 (minus G p) vs ds
  | [], _, h, _ => by cases h; exact .nil
  | d :: ds, _, h, l => by
    cases h with
    | cons h1 h2 =>
      simp only [szs] at l
      exact .cons (Rp.less hp d h1 (by omega)) (RpA.less hp ds h2 (by omega))
end
end

/-! ### the ground grows -/
/-- from (G, H) to (G', H'): all stands as it stood; the ground G' takes in new places alone -/
structure Gr (G H G' H' : Hp) : Prop where
  hh : Same H H'
  gg : Same G G'
  gh : Same G' H'
  old : ∀ a, H a ≠ none → G' a = G a
theorem Gr.refl {G H : Hp} (s : Same G H) : Gr G H G H := ⟨Same.refl _, Same.refl _, s, fun _ _ => rfl⟩
theorem Gr.trans {G H G1 H1 G2 H2 : Hp} (a : Gr G H G1 H1) (b : Gr G1 H1 G2 H2) : Gr G H G2 H2 :=
  ⟨a.hh.trans b.hh, a.gg.trans b.gg, b.gh, fun x h => by
    have h1 : H1 x ≠ none := fun z => by
      cases e : H x with
      | none => exact h e
      | some o => rw [a.hh _ _ e] at z; cases z
    exact (b.old x h1).trans (a.old x h)⟩
/-- all shared for a while -/
theorem Gr.back {G H G1 H1 : Hp} (s : Same G H) (a : Gr H H G1 H1) : ∃ G', Gr G H G' H1 ∧ Same G' G1 := by
  refine ⟨fun x => if (H x).isSome then G x else G1 x, ⟨a.hh, fun x o h => ?_, fun x o h => ?_, fun x h => ?_⟩, fun x o h => ?_⟩
  · have e := s _ _ h
    show (if (H x).isSome = true then G x else G1 x) = some o
    rw [if_pos (by rw [e]; rfl)]; exact h
  · change (if (H x).isSome = true then G x else G1 x) = some o at h
    split at h
    · exact a.hh _ _ (s _ _ h)
    · exact a.gh _ _ h
  · show (if (H x).isSome = true then G x else G1 x) = G x
    rw [if_pos (Option.isSome_iff_ne_none.mpr h)]
  · change (if (H x).isSome = true then G x else G1 x) = some o at h
    split at h
    · exact a.gg _ _ (s _ _ h)
    · exact h
/-- a new place, taken into the ground -/
theorem Gr.new {G H : Hp} {p : Addr} {o : HO} (s : Same G H) (n : H p = none) : Gr G H (upd G p o) (upd H p o) := by
  have ng : G p = none := s.free n
  refine ⟨fun a u h => by rw [upd_ne (ne_of_none h n)]; exact h, fun a u h => by rw [upd_ne (ne_of_none h ng)]; exact h, fun a u h => ?_, fun a h => ?_⟩
  · by_cases e : a = p
    · subst e; rw [upd_same] at h ⊢; exact h
    · rw [upd_ne e] at h ⊢; exact s _ _ h
  · have e : a ≠ p := fun e => by subst e; exact h n
    rw [upd_ne e]

/-! ### the slots -/
def SlOk (cl : Nat → Addr) (H0 G H : Hp) (v : Option V) : Sl → Prop
  | .no => True
  | .val d => ∃ x, v = some x ∧ Rp cl H0 G x d
  | .own ds => ∃ a xs, v = some (.ref a) ∧ G a = none ∧ H0 a = none ∧ H a = some (.lst xs) ∧ RpA cl H0 G xs ds
structure Rep (cl : Nat → Addr) (H0 : Hp) (ρ : Rho) (σ : L2.St) (G H : Hp) : Prop where
  len : σ.length = ρ.length
  sub : Same G H
  sub0 : Same H0 H
  slot : ∀ (i : Nat) (s : Sl), ρ[i]? = some s → ∃ v, σ[i]? = some v ∧ SlOk cl H0 G H v s
  apart : ∀ (i j : Nat) (ds es : List D) (a : Addr), ρ[i]? = some (.own ds) → ρ[j]? = some (.own es) → σ[i]? = some (some (.ref a)) → σ[j]? = some (some (.ref a)) → i = j
section
variable {cl : Nat → Addr} {H0 G G' H H' : Hp} {ρ : Rho} {σ : L2.St}
theorem Rep.mono (r : Rep cl H0 ρ σ G H) (g : Gr G H G' H') : Rep cl H0 ρ σ G' H' := by
  refine ⟨r.len, g.gh, r.sub0.trans g.hh, fun i s e => ?_, r.apart⟩
  obtain ⟨v, e1, h⟩ := r.slot i s e
  refine ⟨v, e1, ?_⟩
  cases s with
  | no => trivial
  | val d => obtain ⟨x, e2, h⟩ := h; exact ⟨x, e2, Rp.mono g.gg d h⟩
  | own ds =>
    obtain ⟨a, xs, e2, h1, h2, h3, h4⟩ := h
    exact ⟨a, xs, e2, by rw [g.old a (by rw [h3]; simp)]; exact h1, h2, g.hh _ _ h3, RpA.mono g.gg ds h4⟩
theorem getD_some {ρ : Rho} {i : Nat} {s : Sl} (h : ρ.getD i .no = s) (n : s ≠ .no) : ρ[i]? = some s := by
  rw [List.getD_eq_getElem?_getD] at h
  cases e : ρ[i]? with
  | none => rw [e] at h; exact absurd h.symm n
  | some x => rw [e] at h; exact congrArg some h
theorem Rep.val (r : Rep cl H0 ρ σ G H) {i : Nat} {d : D} (h : ρ.getD i .no = .val d) : ∃ v, σ[i]? = some (some v) ∧ Rp cl H0 G v d := by
  obtain ⟨v, e1, x, e2, h⟩ := r.slot i _ (getD_some h (fun z => nomatch z))
  subst e2
  exact ⟨x, e1, h⟩
theorem Rep.own (r : Rep cl H0 ρ σ G H) {i : Nat} {ds : List D} (h : ρ.getD i .no = .own ds) : ∃ a xs, σ[i]? = some (some (.ref a)) ∧ G a = none ∧ H0 a = none ∧ H a = some (.lst xs) ∧ RpA cl H0 G xs ds := by
  obtain ⟨v, e1, a, xs, e2, h⟩ := r.slot i _ (getD_some h (fun z => nomatch z))
  subst e2
  exact ⟨a, xs, e1, h⟩
theorem Rep.all (r : Rep cl H0 ρ σ G H) : Rep cl H0 (shareAll ρ) σ H H := by
  refine ⟨by simp [shareAll, r.len], Same.refl _, r.sub0, fun i s e => ?_, fun i j ds es a e1 => ?_⟩
  · simp only [shareAll, List.getElem?_map, Option.map_eq_some_iff] at e
    obtain ⟨s0, e0, rfl⟩ := e
    obtain ⟨v, e1, h⟩ := r.slot i s0 e0
    refine ⟨v, e1, ?_⟩
    cases s0 with
    | no => trivial
    | val d => obtain ⟨x, e2, h⟩ := h; exact ⟨x, e2, Rp.mono r.sub d h⟩
    | own ds =>
      obtain ⟨a, xs, e2, h1, h2, h3, h4⟩ := h
      exact ⟨.ref a, e2, .lst h3 (fun _ => h2) (RpA.mono r.sub ds h4)⟩
  · simp only [shareAll, List.getElem?_map, Option.map_eq_some_iff] at e1
    obtain ⟨s0, e0, e1⟩ := e1
    cases s0 <;> cases e1
theorem Rep.share1 (r : Rep cl H0 ρ σ G H) (i : Nat) : ∃ G', Same G G' ∧ (∀ a, H0 a ≠ none → G' a = G a) ∧ Rep cl H0 (ρ.set i (ρ.getD i .no).share) σ G' H := by
  by_cases hi : i < ρ.length
  · have e0 : ρ[i]? = some (ρ.getD i .no) := by rw [List.getD_eq_getElem?_getD, List.getElem?_eq_getElem hi]; rfl
    cases e : ρ.getD i .no with
    | no =>
      refine ⟨G, Same.refl _, fun _ _ => rfl, ?_⟩
      rw [e] at e0
      have : ρ.set i (Sl.share .no) = ρ := by
        apply List.ext_getElem?; intro j
        by_cases hj : i = j
        · subst hj; rw [List.getElem?_set_self hi, e0]; rfl
        · rw [List.getElem?_set_ne hj]
      rw [this]; exact r
    | val d =>
      refine ⟨G, Same.refl _, fun _ _ => rfl, ?_⟩
      rw [e] at e0
      have : ρ.set i (Sl.share (.val d)) = ρ := by
        apply List.ext_getElem?; intro j
        by_cases hj : i = j
        · subst hj; rw [List.getElem?_set_self hi, e0]; rfl
        · rw [List.getElem?_set_ne hj]
      rw [this]; exact r
    | own ds =>
      rw [e] at e0
      obtain ⟨a, xs, ea, h1, h2, h3, h4⟩ := r.own e
      have sg : Same G (upd G a (.lst xs)) := fun b o h => by rw [upd_ne (ne_of_none h h1)]; exact h
      refine ⟨upd G a (.lst xs), sg, fun c hc => upd_ne (fun z => by subst z; exact hc h2), ⟨by simp [r.len], fun b o h => ?_, r.sub0, fun j s e1 => ?_, fun j k ds' es' b e1 e2 => ?_⟩⟩
      · by_cases hb : b = a
        · subst hb; rw [upd_same] at h; cases h; exact h3
        · rw [upd_ne hb] at h; exact r.sub _ _ h
      · by_cases hj : i = j
        · subst hj
          rw [List.getElem?_set_self hi] at e1
          cases e1
          exact ⟨_, ea, .ref a, rfl, .lst upd_same (fun _ => h2) (RpA.mono sg ds h4)⟩
        · rw [List.getElem?_set_ne hj] at e1
          obtain ⟨v, e2, h⟩ := r.slot j s e1
          refine ⟨v, e2, ?_⟩
          cases s with
          | no => trivial
          | val d => obtain ⟨x, e3, h⟩ := h; exact ⟨x, e3, Rp.mono sg d h⟩
          | own es =>
            obtain ⟨b, ys, e3, k1, k2, k3, k4⟩ := h
            subst e3
            have hb : b ≠ a := fun z => by subst z; exact hj (r.apart i j ds es b e0 e1 ea e2)
            exact ⟨b, ys, rfl, by rw [upd_ne hb]; exact k1, k2, k3, RpA.mono sg es k4⟩
      · by_cases hj : i = j
        · subst hj; rw [List.getElem?_set_self hi] at e1; cases e1
        · by_cases hk : i = k
          · subst hk; rw [List.getElem?_set_self hi] at e2; cases e2
          · rw [List.getElem?_set_ne hj] at e1
            rw [List.getElem?_set_ne hk] at e2
            exact r.apart j k ds' es' b e1 e2
  · refine ⟨G, Same.refl _, fun _ _ => rfl, ?_⟩
    rw [List.set_eq_of_length_le (by omega)]
    exact r
theorem Rep.shareAt (r : Rep cl H0 ρ σ G H) (is : List Nat) : ∃ G', Same G G' ∧ (∀ a, H0 a ≠ none → G' a = G a) ∧ Rep cl H0 (shareAt ρ is) σ G' H := by
  induction is generalizing ρ G with
  | nil => exact ⟨G, Same.refl _, fun _ _ => rfl, r⟩
  | cons i is ih =>
    obtain ⟨G1, s1, o1, r1⟩ := r.share1 i
    obtain ⟨G2, s2, o2, r2⟩ := ih r1
    exact ⟨G2, s1.trans s2, fun a h => (o2 a h).trans (o1 a h), r2⟩
theorem Rep.clear (r : Rep cl H0 ρ σ G H) (i : Nat) (o : Option V) : Rep cl H0 (ρ.set i .no) (σ.set i o) G H := by
  refine ⟨by simp [r.len], r.sub, r.sub0, fun j s e => ?_, fun j k ds es a e1 e2 e3 e4 => ?_⟩
  · by_cases hj : i = j
    · subst hj
      have hi : i < ρ.length := by
        have := List.getElem?_eq_some_iff.mp e; obtain ⟨h, _⟩ := this; simpa using h
      rw [List.getElem?_set_self hi] at e
      cases e
      exact ⟨o, by rw [List.getElem?_set_self (by rw [r.len]; exact hi)], trivial⟩
    · rw [List.getElem?_set_ne hj] at e
      obtain ⟨v, e1, h⟩ := r.slot j s e
      exact ⟨v, by rw [List.getElem?_set_ne hj]; exact e1, h⟩
  · have hj : i ≠ j := fun z => by
      subst z
      have hi : i < ρ.length := by
        have := List.getElem?_eq_some_iff.mp e1; obtain ⟨h, _⟩ := this; simpa using h
      rw [List.getElem?_set_self hi] at e1; cases e1
    have hk : i ≠ k := fun z => by
      subst z
      have hi : i < ρ.length := by
        have := List.getElem?_eq_some_iff.mp e2; obtain ⟨h, _⟩ := this; simpa using h
      rw [List.getElem?_set_self hi] at e2; cases e2
    rw [List.getElem?_set_ne hj] at e1 e3
    rw [List.getElem?_set_ne hk] at e2 e4
    exact r.apart j k ds es a e1 e2 e3 e4
theorem Rep.wipe (r : Rep cl H0 ρ σ G H) : ∀ vs : List Nat, Rep cl H0 (wipeR ρ vs) (wipe σ vs) G H
  | [] => r
  | v :: vs => (r.wipe vs).clear v none
theorem Rep.setVal (r : Rep cl H0 ρ σ G H) (i : Nat) {v : V} {d : D} (h : Rp cl H0 G v d) : Rep cl H0 (ρ.set i (.val d)) (σ.set i (some v)) G H := by
  refine ⟨by simp [r.len], r.sub, r.sub0, fun j s e => ?_, fun j k ds es a e1 e2 e3 e4 => ?_⟩
  · by_cases hj : i = j
    · subst hj
      have hi : i < ρ.length := by
        have := List.getElem?_eq_some_iff.mp e; obtain ⟨h, _⟩ := this; simpa using h
      rw [List.getElem?_set_self hi] at e
      cases e
      exact ⟨some v, by rw [List.getElem?_set_self (by rw [r.len]; exact hi)], v, rfl, h⟩
    · rw [List.getElem?_set_ne hj] at e
      obtain ⟨v', e1, h⟩ := r.slot j s e
      exact ⟨v', by rw [List.getElem?_set_ne hj]; exact e1, h⟩
  · have hj : i ≠ j := fun z => by
      subst z
      have hi : i < ρ.length := by
        have := List.getElem?_eq_some_iff.mp e1; obtain ⟨h, _⟩ := this; simpa using h
      rw [List.getElem?_set_self hi] at e1; cases e1
    have hk : i ≠ k := fun z => by
      subst z
      have hi : i < ρ.length := by
        have := List.getElem?_eq_some_iff.mp e2; obtain ⟨h, _⟩ := this; simpa using h
      rw [List.getElem?_set_self hi] at e2; cases e2
    rw [List.getElem?_set_ne hj] at e1 e3
    rw [List.getElem?_set_ne hk] at e2 e4
    exact r.apart j k ds es a e1 e2 e3 e4
/-- a list that nobody else holds: G p = none, and no own slot stands at p -/
theorem Rep.setOwn (r : Rep cl H0 ρ σ G H) (i : Nat) {p : Addr} {xs : List V} {ds : List D} (h1 : G p = none) (h2 : H0 p = none) (h3 : H p = some (.lst xs)) (h4 : RpA cl H0 G xs ds)
    (hn : ∀ (j : Nat) (es : List D), j ≠ i → ρ[j]? = some (.own es) → σ[j]? ≠ some (some (.ref p))) : Rep cl H0 (ρ.set i (.own ds)) (σ.set i (some (.ref p))) G H := by
  refine ⟨by simp [r.len], r.sub, r.sub0, fun j s e => ?_, fun j k ds' es a e1 e2 e3 e4 => ?_⟩
  · by_cases hj : i = j
    · subst hj
      have hi : i < ρ.length := by
        have := List.getElem?_eq_some_iff.mp e; obtain ⟨h, _⟩ := this; simpa using h
      rw [List.getElem?_set_self hi] at e
      cases e
      exact ⟨_, by rw [List.getElem?_set_self (by rw [r.len]; exact hi)], p, xs, rfl, h1, h2, h3, h4⟩
    · rw [List.getElem?_set_ne hj] at e
      obtain ⟨v', e1, h⟩ := r.slot j s e
      exact ⟨v', by rw [List.getElem?_set_ne hj]; exact e1, h⟩
  · have lt : ∀ {m : Nat} {s : Sl}, (ρ.set i (.own ds))[m]? = some s → m < ρ.length := fun {m s} e => by
      have := List.getElem?_eq_some_iff.mp e; obtain ⟨h, _⟩ := this; simpa using h
    by_cases hj : i = j
    · by_cases hk : i = k
      · exact hj.symm.trans hk
      · exfalso
        subst hj
        have hi := lt e1
        rw [List.getElem?_set_self (by rw [r.len]; exact hi)] at e3
        rw [List.getElem?_set_ne hk] at e2 e4
        injection e3 with e3; injection e3 with e3; injection e3 with e3
        subst e3
        exact hn k es (fun z => hk z.symm) e2 e4
    · by_cases hk : i = k
      · exfalso
        subst hk
        have hi := lt e2
        rw [List.getElem?_set_self (by rw [r.len]; exact hi)] at e4
        rw [List.getElem?_set_ne hj] at e1 e3
        injection e4 with e4; injection e4 with e4; injection e4 with e4
        subst e4
        exact hn j ds' (fun z => hj z.symm) e1 e3
      · rw [List.getElem?_set_ne hj] at e1 e3
        rw [List.getElem?_set_ne hk] at e2 e4
        exact r.apart j k ds' es a e1 e2 e3 e4
/-- a list of one's own is changed -/
theorem Rep.updOwn (r : Rep cl H0 ρ σ G H) {x : Nat} {ds : List D} (e : ρ.getD x .no = .own ds) : ∃ a xs, σ[x]? = some (some (.ref a)) ∧ G a = none ∧ H0 a = none ∧ H a = some (.lst xs) ∧ RpA cl H0 G xs ds ∧
    ∀ ys es, RpA cl H0 G ys es → Rep cl H0 (ρ.set x (.own es)) σ G (upd H a (.lst ys)) := by
  obtain ⟨a, xs, e1, h1, h2, h3, h4⟩ := r.own e
  have e0 : ρ[x]? = some (.own ds) := getD_some e (fun z => nomatch z)
  have hx : x < ρ.length := by
    have := List.getElem?_eq_some_iff.mp e0; obtain ⟨h, _⟩ := this; exact h
  refine ⟨a, xs, e1, h1, h2, h3, h4, fun ys es ra => ⟨by simp [r.len], fun c o h => ?_, fun c o h => ?_, fun j s ej => ?_, fun i j ds' es' b ei ej hi hj => ?_⟩⟩
  · rw [upd_ne (ne_of_none h h1)]; exact r.sub _ _ h
  · rw [upd_ne (ne_of_none h h2)]; exact r.sub0 _ _ h
  · by_cases hj : x = j
    · subst hj
      rw [List.getElem?_set_self hx] at ej
      cases ej
      exact ⟨_, e1, a, ys, rfl, h1, h2, upd_same, ra⟩
    · rw [List.getElem?_set_ne hj] at ej
      obtain ⟨v, e2, h⟩ := r.slot j s ej
      refine ⟨v, e2, ?_⟩
      cases s with
      | no => trivial
      | val d => exact h
      | own fs =>
        obtain ⟨b, zs, e3, k1, k2, k3, k4⟩ := h
        subst e3
        have hb : b ≠ a := fun z => by subst z; exact hj (r.apart x j ds fs b e0 ej e1 e2)
        exact ⟨b, zs, rfl, k1, k2, by rw [upd_ne hb]; exact k3, k4⟩
  · have ei' : ∃ es'', ρ[i]? = some (.own es'') := by
      by_cases h : x = i
      · subst h; exact ⟨_, e0⟩
      · rw [List.getElem?_set_ne h] at ei; exact ⟨_, ei⟩
    have ej' : ∃ es'', ρ[j]? = some (.own es'') := by
      by_cases h : x = j
      · subst h; exact ⟨_, e0⟩
      · rw [List.getElem?_set_ne h] at ej; exact ⟨_, ej⟩
    obtain ⟨_, ei'⟩ := ei'
    obtain ⟨_, ej'⟩ := ej'
    exact r.apart i j _ _ b ei' ej' hi hj
/-- a value just made, as a slot takes it -/
def SlNew (cl : Nat → Addr) (H0 G H : Hp) (ρ : Rho) (σ : L2.St) (v : V) : Sl → Prop
  | .no => False
  | .val d => Rp cl H0 G v d
  | .own ds => ∃ p xs, v = .ref p ∧ G p = none ∧ H0 p = none ∧ H p = some (.lst xs) ∧ RpA cl H0 G xs ds ∧ ∀ (j : Nat) (es : List D), ρ[j]? = some (.own es) → σ[j]? ≠ some (some (.ref p))
theorem Rep.setSl (r : Rep cl H0 ρ σ G H) (i : Nat) {v : V} {s : Sl} (h : SlNew cl H0 G H ρ σ v s) : Rep cl H0 (ρ.set i s) (σ.set i (some v)) G H := by
  cases s with
  | no => exact h.elim
  | val d => exact r.setVal i h
  | own ds =>
    obtain ⟨p, xs, rfl, h1, h2, h3, h4, h5⟩ := h
    exact r.setOwn i h1 h2 h3 h4 fun j es _ e => h5 j es e
theorem SlNew.mono {v : V} {s : Sl} (h : SlNew cl H0 G H ρ σ v s) (g : Gr G H G' H') : SlNew cl H0 G' H' ρ σ v s := by
  cases s with
  | no => exact h.elim
  | val d => exact Rp.mono g.gg d h
  | own ds =>
    obtain ⟨p, xs, rfl, h1, h2, h3, h4, h5⟩ := h
    exact ⟨p, xs, rfl, by rw [g.old p (by rw [h3]; simp)]; exact h1, h2, g.hh _ _ h3, RpA.mono g.gg ds h4, h5⟩
end
mutual
theorem bindT_len : ∀ (t : Tg) {d : D} {ρ ρ' : Rho}, bindT t d ρ = some ρ' → ρ'.length = ρ.length
  | .nm i, d, ρ, ρ', h => by simp [bindT] at h; subst h; simp
  | .tp ts, d, ρ, ρ', h => by
    cases d <;> simp [bindT] at h
    exact bindTs_len ts h
  | .nil, d, ρ, ρ', h => by simp [bindT] at h
  | .cons _ _, d, ρ, ρ', h => by simp [bindT] at h
theorem bindTs_len : ∀ (t : Tg) {d : List D} {ρ ρ' : Rho}, bindTs t d ρ = some ρ' → ρ'.length = ρ.length
  | .nil, [], ρ, ρ', h => by simp [bindTs] at h; subst h; rfl
  | .nil, _ :: _, ρ, ρ', h => by simp [bindTs] at h
  | .cons t ts, [], ρ, ρ', h => by simp [bindTs] at h
  | .cons t ts, d :: ds, ρ, ρ', h => by
    simp only [bindTs] at h
    cases e : bindT t d ρ with
    | none => rw [e] at h; cases h
    | some ρ1 => rw [e] at h; exact (bindTs_len ts h).trans (bindT_len t e)
  | .nm _, _, ρ, ρ', h => by simp [bindTs] at h
  | .tp _, _, ρ, ρ', h => by simp [bindTs] at h
end
end Wt
/-! ## The operations, by what the values stand for -/
namespace Wt
open PySem PySem.Spec PyProof.Rows L2

/-- a new list stands at a place that was free -/
def NewV (H : Hp) (v : V) (d : D) : Prop := ∀ ds, d = .lst true ds → ∃ p, v = .ref p ∧ H p = none
theorem NewV.back {H H1 : Hp} {v : V} {d : D} (s : Same H H1) (n : NewV H1 v d) : NewV H v d := fun ds e => by
  obtain ⟨p, e1, e2⟩ := n ds e
  exact ⟨p, e1, s.free e2⟩
theorem cap_eq : cap = sizeLine := by rw [sizeLine_eq]; rfl

def opOf : Op → Operator
  | .add => .Add | .sub => .Sub | .mul => .Mult | .fdiv => .FloorDiv | .mod => .Mod | .pow => .Pow
def cmOf : Cm → CmpOp
  | .eq => .Eq | .ne => .NotEq | .lt => .Lt | .le => .LtE | .gt => .Gt | .ge => .GtE | .isin => .In | .notin => .NotIn | .is => .Is | .isnot => .IsNot

variable {X : Cx} {cl : Nat → Addr} {H0 : Hp}
def OpD (X : Cx) (cl : Nat → Addr) (H0 : Hp) (f : Value → Value → Sem Value) (g : D → D → R D) : Prop :=
  ∀ (pins : List (Addr × Obj)) (s : Shared) (σ : L2.St) (G H : Hp) (x y : V) (v u : Value) (a b c : D) (Q : VK), Inv X pins σ H s → Same G H → Same H0 H → RelV x v → RelV y u → Rp cl H0 G x a → Rp cl H0 G y b → g a b = .ok c →
    (∀ z G' H', Gr G H G' H' → Rp cl H0 G' z c → NewV H z c → Q z H') → wpAny (model X.prog X.w) X.A (f v u) (EP X pins σ Q) X.xe s
theorem newInt {H : Hp} {v : V} {i : Int} : NewV H v (.int i) := fun _ e => nomatch e
theorem small_or {i j : Int} (h : (small i || small j) = true) : CMul i j := by
  unfold small at h
  simp only [Bool.or_eq_true, Bool.and_eq_true, decide_eq_true_eq] at h
  exact h
/-- a new list at p: of things on the ground -/
theorem newList {G H : Hp} {xs : List V} {ds : List D} (s : Same G H) (s0 : Same H0 H) (h : RpA cl H0 G xs ds) {Q : VK} (q : ∀ z G' H', Gr G H G' H' → Rp cl H0 G' z (.lst true ds) → NewV H z (.lst true ds) → Q z H') :
    ∀ p, H p = none → Q (.ref p) (upd H p (.lst xs)) := fun p np => by
  have g := Gr.new (o := .lst xs) s np
  exact q _ _ _ g (.lst upd_same (fun _ => s0.free np) (RpA.mono g.gg ds h)) fun _ _ => ⟨p, rfl, np⟩
theorem newTup {G H : Hp} {xs : List V} {ds : List D} (s : Same G H) (h : RpA cl H0 G xs ds) {Q : VK} (q : ∀ z G' H', Gr G H G' H' → Rp cl H0 G' z (.tup ds) → NewV H z (.tup ds) → Q z H') :
    ∀ p, H p = none → Q (.ref p) (upd H p (.tup xs)) := fun p np => by
  have g := Gr.new (o := .tup xs) s np
  exact q _ _ _ g (.tup upd_same (RpA.mono g.gg ds h)) fun _ e => nomatch e
theorem mkL_ok {ds : List D} {c : D} (h : mkL ds = .ok c) : ds.length ≤ sizeLine ∧ c = .lst true ds := by
  unfold mkL at h
  split at h
  · rename_i l
    injection h with h
    exact ⟨by rw [← cap_eq]; exact l, h.symm⟩
  · cases h

theorem op_ok (o : Op) : OpD X cl H0 (binaryOp (opOf o)) (opD o) := by
  intro pins s σ G H x y v u a b c Q I sg s0 rv ru ra rb e k
  have fin : ∀ i : Int, R.ok c = R.ok (.int i) → Q (.int i) H := fun i e => by
    injection e with e; subst e
    exact k _ G H (Gr.refl sg) (.int _) newInt
  cases o with
  | add =>
    cases a <;> cases b <;> simp only [opD] at e <;> first | (cases e; done) | skip
    · cases ra; cases rb
      exact op_add pins s σ H _ _ v u Q I rv ru ⟨_, _, rfl, rfl, fin _ e.symm⟩
    · cases ra with
      | lst h1 _ h2 =>
        cases rb with
        | lst k1 _ k2 =>
          obtain ⟨l, rfl⟩ := mkL_ok e
          refine op_cat pins s σ H _ _ v u Q I rv ru ⟨_, _, _, _, rfl, rfl, sg _ _ h1, sg _ _ k1, ?_, newList sg s0 (h2.append k2) k⟩
          rw [h2.length, k2.length, ← List.length_append]
          exact l
  | sub =>
    cases a <;> cases b <;> simp only [opD] at e <;> first | (cases e; done) | skip
    cases ra; cases rb
    exact op_sub pins s σ H _ _ v u Q I rv ru ⟨_, _, rfl, rfl, fin _ e.symm⟩
  | mul =>
    cases a <;> cases b <;> simp only [opD] at e <;> first | (cases e; done) | skip
    · cases ra; cases rb
      split at e
      · rename_i h
        exact op_mul pins s σ H _ _ v u Q I rv ru ⟨_, _, rfl, rfl, small_or h, fin _ e.symm⟩
      · cases e
    · cases ra with
      | lst h1 _ h2 =>
        cases rb
        split at e
        · rename_i h
          simp only [Bool.and_eq_true, decide_eq_true_eq] at h
          injection e with e; subst e
          exact op_rep pins s σ H _ _ v u Q I rv ru ⟨_, _, _, rfl, rfl, sg _ _ h1, h.1.1, h.1.2, by rw [h2.length, ← cap_eq]; exact h.2, newList sg s0 (h2.rep _) k⟩
        · cases e
  | fdiv =>
    cases a <;> cases b <;> simp only [opD] at e <;> first | (cases e; done) | skip
    cases ra; cases rb
    split at e
    · rename_i h
      simp only [Bool.and_eq_true, decide_eq_true_eq] at h
      exact op_fdiv pins s σ H _ _ v u Q I rv ru ⟨_, _, rfl, rfl, h, fin _ e.symm⟩
    · cases e
  | mod =>
    cases a <;> cases b <;> simp only [opD] at e <;> first | (cases e; done) | skip
    cases ra; cases rb
    split at e
    · rename_i h
      exact op_mod pins s σ H _ _ v u Q I rv ru ⟨_, _, rfl, rfl, h, fin _ e.symm⟩
    · cases e
  | pow =>
    cases a <;> cases b <;> simp only [opD] at e <;> first | (cases e; done) | skip
    cases ra; cases rb
    split at e
    · rename_i h
      simp only [Bool.and_eq_true, decide_eq_true_eq] at h
      exact op_pow pins s σ H _ _ v u Q I rv ru ⟨_, _, rfl, rfl, ⟨h.1.1, h.1.2, h.2⟩, fin _ e.symm⟩
    · cases e

/-! ### comparisons -/
def CmD (X : Cx) (cl : Nat → Addr) (H0 : Hp) (f : Value → Value → Sem Value) (g : D → D → R Bool) : Prop :=
  ∀ (pins : List (Addr × Obj)) (s : Shared) (σ : L2.St) (G H : Hp) (x y : V) (v u : Value) (a b : D) (t : Bool) (Q : VK), Inv X pins σ H s → Same G H → RelV x v → RelV y u → Rp cl H0 G x a → Rp cl H0 G y b → g a b = .ok t →
    Q (.bl t) H → wpAny (model X.prog X.w) X.A (f v u) (EP X pins σ Q) X.xe s
theorem cl_of_shaped {d : D} (h : SeqAt.shaped d.py = true) : d.py.canLay0 = true := SeqAt.canLay_of_shaped h
theorem cl_of_shapedL {ds : List D} (h : SeqAt.shaped (.list (pys ds)) = true) : PyData.canLayAll0 (pys ds) = true := by
  have := SeqAt.canLay_of_shaped h
  simpa [PyData.canLay0] using this
theorem neg_ok {r : R Bool} {t : Bool} (h : neg r = .ok t) : r = .ok (!t) := by
  cases r with
  | ok b => simp only [neg] at h; injection h with h; subst h; simp
  | exc c => cases h
  | bad => cases h
theorem eqD_ok {a b : D} {t : Bool} (e : eqD a b = .ok t) : SeqAt.shaped a.py = true ∧ SeqAt.shaped b.py = true ∧ t = PyData.eqv a.py b.py := by
  unfold eqD at e
  split at e
  · rename_i h
    simp only [Bool.and_eq_true] at h
    injection e with e
    exact ⟨h.1, h.2, e.symm⟩
  · cases e
theorem inD_ok {a b : D} {t : Bool} (e : inD a b = .ok t) : ∃ ds, ((∃ f, b = .lst f ds) ∨ b = .tup ds) ∧ SeqAt.shaped a.py = true ∧ SeqAt.shaped (.list (pys ds)) = true ∧ t = (pys ds).any fun z => PyData.eqv z a.py := by
  cases b <;> simp only [inD] at e <;> first | (cases e; done) | skip
  all_goals
    split at e
    · rename_i h
      simp only [Bool.and_eq_true] at h
      injection e with e
      first
        | exact ⟨_, .inl ⟨_, rfl⟩, h.1, h.2, e.symm⟩
        | exact ⟨_, .inr rfl, h.1, h.2, e.symm⟩
    · cases e
theorem cm_eq (hu : X.A.units + 64 < cLine) : CmD X cl H0 (compareOp .Eq) eqD := by
  intro pins s σ G H x y v u a b t Q I sg rv ru ra rb e q
  obtain ⟨h1, h2, rfl⟩ := eqD_ok e
  exact op_eqD hu pins s σ H x y v u Q I rv ru ⟨_, _, Rp.dp (K := X.K) a (cl_of_shaped h1) (ra.mono sg), Rp.dp b (cl_of_shaped h2) (rb.mono sg), h1, h2, q⟩
theorem cm_ne (hu : X.A.units + 64 < cLine) : CmD X cl H0 (compareOp .NotEq) (fun a b => neg (eqD a b)) := by
  intro pins s σ G H x y v u a b t Q I sg rv ru ra rb e q
  obtain ⟨h1, h2, e2⟩ := eqD_ok (neg_ok e)
  refine op_neD hu pins s σ H x y v u Q I rv ru ⟨_, _, Rp.dp (K := X.K) a (cl_of_shaped h1) (ra.mono sg), Rp.dp b (cl_of_shaped h2) (rb.mono sg), h1, h2, ?_⟩
  rw [← e2, Bool.not_not]
  exact q
theorem cm_in (hu : X.A.units + 65 < cLine) : CmD X cl H0 (compareOp .In) inD := by
  intro pins s σ G H x y v u a b t Q I sg rv ru ra rb e q
  obtain ⟨ds, hb, h1, h2, rfl⟩ := inD_ok e
  have hx := Rp.dp (K := X.K) a (cl_of_shaped h1) (ra.mono sg)
  rcases hb with ⟨f, rfl⟩ | rfl
  · have hy := Rp.dp (K := X.K) (.lst f ds) (by rw [D.py, PyData.canLay0]; exact cl_of_shapedL h2) (rb.mono sg)
    rw [D.py] at hy
    exact op_inD hu pins s σ H x y v u Q I rv ru ⟨_, _, hx, hy, h1, h2, q⟩
  · have hy := Rp.dp (K := X.K) (.tup ds) (by rw [D.py, PyData.canLay0]; exact cl_of_shapedL h2) (rb.mono sg)
    rw [D.py] at hy
    obtain ⟨as, r1⟩ := Dp.reads I _ x v hx rv
    obtain ⟨bs, r2⟩ := Dp.reads I _ y u hy ru
    exact SeqAt.in_tuple_reads r2 r1 (cl_of_shapedL h2) (SeqAt.canLay_of_shaped h1) (room_in_shaped h1 hu) ⟨.bl _, H, I, rfl, q⟩
theorem cm_notin (hu : X.A.units + 65 < cLine) : CmD X cl H0 (compareOp .NotIn) (fun a b => neg (inD a b)) := by
  intro pins s σ G H x y v u a b t Q I sg rv ru ra rb e q
  obtain ⟨ds, hb, h1, h2, e2⟩ := inD_ok (neg_ok e)
  have hx := Rp.dp (K := X.K) a (cl_of_shaped h1) (ra.mono sg)
  have q' : Q (.bl (!(pys ds).any fun z => PyData.eqv z a.py)) H := by rw [← e2, Bool.not_not]; exact q
  rcases hb with ⟨f, rfl⟩ | rfl
  · have hy := Rp.dp (K := X.K) (.lst f ds) (by rw [D.py, PyData.canLay0]; exact cl_of_shapedL h2) (rb.mono sg)
    rw [D.py] at hy
    exact op_notInD hu pins s σ H x y v u Q I rv ru ⟨_, _, hx, hy, h1, h2, q'⟩
  · have hy := Rp.dp (K := X.K) (.tup ds) (by rw [D.py, PyData.canLay0]; exact cl_of_shapedL h2) (rb.mono sg)
    rw [D.py] at hy
    obtain ⟨as, r1⟩ := Dp.reads I _ x v hx rv
    obtain ⟨bs, r2⟩ := Dp.reads I _ y u hy ru
    exact SeqAt.notIn_tuple_reads r2 r1 (cl_of_shapedL h2) (SeqAt.canLay_of_shaped h1) (room_in_shaped h1 hu) ⟨.bl _, H, I, rfl, q'⟩
theorem ge_pair {pins : List (Addr × Obj)} {s : Shared} {σ : L2.St} {H : Hp} {a b : Addr} {i j k l : Int} {Q : VK} (hu : X.A.units < cLine) (I : Inv X pins σ H s) (ha : H a = some (.tup [.int i, .int j])) (hb : H b = some (.tup [.int k, .int l]))
    (q : Q (.bl (if i = k then decide (l ≤ j) else decide (k ≤ i))) H) : wpAny (model X.prog X.w) X.A (compareOp .GtE (.ref a) (.ref b)) (EP X pins σ Q) X.xe s := by
  obtain ⟨its, r1, p1, _⟩ := I.tuple (SqT.of ha)
  obtain ⟨its2, r2, p2, _⟩ := I.tuple (SqT.of hb)
  obtain ⟨t1, t2, rfl⟩ := Vals.int2 r1
  obtain ⟨t3, t4, rfl⟩ := Vals.int2 r2
  have R := Ob.RcOp.tuples_ge (A := X.A) (s := s) (e := fun m => if m = 0 then (i == k) else (j == l)) (r := fun m => if m = 0 then decide (k ≤ i) else decide (l ≤ j)) p1 p2 hu (fun m h1 h2 => by
    have hm : m = 0 ∨ m = 1 := by simp at h1; omega
    rcases hm with rfl | rfl
    · exact SeqAt.EqAt.int_int _ _ _ _
    · exact SeqAt.EqAt.int_int _ _ _ _) (fun m h1 h2 _ => by
    have hm : m = 0 ∨ m = 1 := by simp at h1; omega
    rcases hm with rfl | rfl
    · exact Ob.RcOp.ge_int _ _ _ _
    · exact Ob.RcOp.ge_int _ _ _ _)
  have z : wpAny (model X.prog X.w) X.A (compareOp .GtE (.ref a) (.ref b)) (EP X pins σ Q) X.xe s := by
    refine R X.prog X.w X.xe (EP X pins σ Q) ⟨.bl _, H, I, rfl, ?_⟩
    have e : Ob.lexAt (fun m => if m = 0 then (i == k) else (j == l)) (fun m => if m = 0 then decide (k ≤ i) else decide (l ≤ j)) (decide (2 ≥ 2)) 0 2 = (if i = k then decide (l ≤ j) else decide (k ≤ i)) := by
      simp only [Ob.lexAt]
      by_cases h : i = k
      · subst h
        by_cases h2 : j = l
        · subst h2; simp
        · simp [h2]
      · simp [h]
    have e2 : Ob.lexAt (fun m => if m = 0 then (i == k) else (j == l)) (fun m => if m = 0 then decide (k ≤ i) else decide (l ≤ j)) (decide (([Value.int i t1, Value.int j t2].toArray).size ≥ ([Value.int k t3, Value.int l t4].toArray).size)) 0 (min ([Value.int i t1, Value.int j t2].toArray).size ([Value.int k t3, Value.int l t4].toArray).size) = (if i = k then decide (l ≤ j) else decide (k ≤ i)) := e
    rw [e2]
    exact q
  exact z
theorem cm_ok (o : Cm) (hu : X.A.units + 65 < cLine) : CmD X cl H0 (compareOp (cmOf o)) (cmpD o) := by
  intro pins s σ G H x y v u a b t Q I sg rv ru ra rb e q
  cases o with
  | eq => exact cm_eq (by omega) pins s σ G H x y v u a b t Q I sg rv ru ra rb e q
  | ne => exact cm_ne (by omega) pins s σ G H x y v u a b t Q I sg rv ru ra rb e q
  | isin => exact cm_in hu pins s σ G H x y v u a b t Q I sg rv ru ra rb e q
  | notin => exact cm_notin hu pins s σ G H x y v u a b t Q I sg rv ru ra rb e q
  | lt =>
    cases a <;> cases b <;> simp only [cmpD] at e <;> first | (cases e; done) | skip
    injection e with e; subst e; cases ra; cases rb
    exact op_lt pins s σ H _ _ v u Q I rv ru ⟨_, _, rfl, rfl, q⟩
  | le =>
    cases a <;> cases b <;> simp only [cmpD] at e <;> first | (cases e; done) | skip
    injection e with e; subst e; cases ra; cases rb
    exact op_le pins s σ H _ _ v u Q I rv ru ⟨_, _, rfl, rfl, q⟩
  | gt =>
    cases a <;> cases b <;> simp only [cmpD] at e <;> first | (cases e; done) | skip
    injection e with e; subst e; cases ra; cases rb
    exact op_gt pins s σ H _ _ v u Q I rv ru ⟨_, _, rfl, rfl, q⟩
  | ge =>
    unfold cmpD at e
    split at e <;> first | (cases e; done) | skip
    all_goals first | (rename_i heq _ _; cases heq; done) | (rename_i heq; cases heq; done) | skip
    · injection e with e; subst e; cases ra; cases rb
      exact op_ge pins s σ H _ _ v u Q I rv ru ⟨_, _, rfl, rfl, q⟩
    · injection e with e; subst e
      cases ra with
      | tup h1 h2 =>
        cases rb with
        | tup k1 k2 =>
          cases h2 with
          | cons a1 h2 =>
            cases h2 with
            | cons a2 h2 =>
              cases h2
              cases k2 with
              | cons b1 k2 =>
                cases k2 with
                | cons b2 k2 =>
                  cases k2
                  cases a1; cases a2; cases b1; cases b2
                  cases rv; cases ru
                  exact ge_pair (by omega) I (sg _ _ h1) (sg _ _ k1) q
  | is =>
    cases a <;> cases b <;> simp only [cmpD] at e <;> first | (cases e; done) | skip
    injection e with e; subst e; cases ra; cases rb
    exact op_is_bl pins s σ H _ _ v u Q I rv ru ⟨_, _, rfl, rfl, q⟩
  | isnot =>
    cases a <;> cases b <;> simp only [cmpD] at e <;> first | (cases e; done) | skip
    injection e with e; subst e; cases ra; cases rb
    exact op_isnot_bl pins s σ H _ _ v u Q I rv ru ⟨_, _, rfl, rfl, q⟩
end Wt
/-! ## Sorting, built-ins, isinstance, by what the values stand for -/
namespace Wt
open PySem PySem.Spec PyProof.Rows L2 SrtO

section
variable {α β : Type} {lt : α → α → Bool}
def insG (lt : α → α → Bool) (x : α) : List α → List α
  | [] => [x]
  | y :: r => if lt x y = true then x :: y :: r else y :: insG lt x r
def sortG (lt : α → α → Bool) : List α → List α → List α
  | acc, [] => acc
  | acc, x :: r => sortG lt (insG lt x acc) r
theorem insG_split (O : Swo lt) (x : α) : ∀ {l : List α}, Srtd lt l → ∃ M N, l = M ++ N ∧ insG lt x l = M ++ x :: N ∧ (∀ m ∈ M, lt x m = false) ∧ ∀ n ∈ N, lt x n = true
  | [], _ => ⟨[], [], rfl, rfl, fun _ h => absurd h (by simp), fun _ h => absurd h (by simp)⟩
  | y :: r, h => by
    unfold insG
    by_cases c : lt x y = true
    · rw [if_pos c]
      exact ⟨[], y :: r, rfl, rfl, fun _ h => absurd h (by simp), O.lt_all h c⟩
    · rw [if_neg c]
      obtain ⟨M, N, e1, e2, h1, h2⟩ := insG_split O x (List.pairwise_cons.mp h).2
      refine ⟨y :: M, N, by rw [e1]; rfl, by rw [e2]; rfl, fun m hm => ?_, h2⟩
      rcases List.mem_cons.mp hm with e | hm
      · rw [e]; exact Bool.eq_false_iff.mpr c
      · exact h1 m hm
theorem sortG_ok (O : Swo lt) : ∀ (l acc : List α), Srtd lt acc → Srtd lt (sortG lt acc l) ∧ Stb lt (sortG lt acc l) (acc ++ l)
  | [], acc, h => ⟨h, by rw [List.append_nil]; exact Stb.refl _⟩
  | x :: r, acc, h => by
    obtain ⟨M, N, e1, e2, h1, h2⟩ := insG_split O x h
    have s1 : Srtd lt (insG lt x acc) := by rw [e2]; exact ins_srtd O (e1 ▸ h) h1 h2
    have b1 : Stb lt (insG lt x acc) (acc ++ [x]) := by rw [e2]; exact ins_stb O h2 (Stb.of_eq e1.symm)
    obtain ⟨s2, b2⟩ := sortG_ok O r (insG lt x acc) s1
    refine ⟨s2, b2.trans ?_⟩
    have q := b1.app (Stb.refl (lt := lt) r)
    rw [List.append_assoc] at q
    exact q
theorem insG_mem {x z : α} : ∀ {l : List α}, z ∈ insG lt x l → z = x ∨ z ∈ l
  | [], h => by simp [insG] at h; exact .inl h
  | y :: r, h => by
    unfold insG at h
    split at h
    · rcases List.mem_cons.mp h with e | h
      · exact .inl e
      · exact .inr h
    · rcases List.mem_cons.mp h with e | h
      · exact .inr (by rw [e]; exact List.mem_cons_self)
      · rcases insG_mem h with e | h
        · exact .inl e
        · exact .inr (List.mem_cons_of_mem _ h)
theorem insG_map {lt2 : β → β → Bool} {f : α → β} {x : α} : ∀ {l : List α}, (∀ y ∈ l, lt x y = lt2 (f x) (f y)) → (insG lt x l).map f = insG lt2 (f x) (l.map f)
  | [], _ => rfl
  | y :: r, h => by
    rw [List.map_cons]
    unfold insG
    rw [h y List.mem_cons_self]
    split
    · rfl
    · rw [List.map_cons, insG_map fun z hz => h z (List.mem_cons_of_mem _ hz)]
theorem sortG_map {lt2 : β → β → Bool} {f : α → β} : ∀ (l acc : List α), (∀ x ∈ acc ++ l, ∀ y ∈ acc ++ l, lt x y = lt2 (f x) (f y)) → (sortG lt acc l).map f = sortG lt2 (acc.map f) (l.map f)
  | [], _, _ => rfl
  | x :: r, acc, h => by
    rw [List.map_cons]
    unfold sortG
    have hx : x ∈ acc ++ x :: r := by simp
    rw [sortG_map r (insG lt x acc) fun a ha b hb => ?_, insG_map fun y hy => h x hx y (by simp [hy])]
    have sub : ∀ z, z ∈ insG lt x acc ++ r → z ∈ acc ++ x :: r := fun z hz => by
      rcases List.mem_append.mp hz with hz | hz
      · rcases insG_mem hz with e | hz
        · rw [e]; exact hx
        · simp [hz]
      · simp [hz]
    exact h a (sub a ha) b (sub b hb)
end
theorem insD_eq (x : D) : ∀ l : List D, insD x l = insG D.ltK x l
  | [] => rfl
  | y :: r => by unfold insD insG; rw [insD_eq x r]
theorem sortD_eq : ∀ (l acc : List D), sortD acc l = sortG D.ltK acc l
  | [], _ => rfl
  | x :: r, acc => by unfold sortD sortG; rw [insD_eq, sortD_eq r]

section
variable {cl : Nat → Addr} {H0 G : Hp}
theorem RpA.pairs : ∀ {ds : List D} {vs : List V}, RpA cl H0 G vs ds → (vs.zip ds).map Prod.fst = vs ∧ (vs.zip ds).map Prod.snd = ds ∧ ∀ p ∈ vs.zip ds, Rp cl H0 G p.1 p.2
  | [], _, h => by cases h; exact ⟨rfl, rfl, fun _ h => absurd h (by simp)⟩
  | d :: ds, _, h => by
    cases h with
    | cons h1 h2 =>
      obtain ⟨e1, e2, h3⟩ := RpA.pairs h2
      refine ⟨by rw [List.zip_cons_cons, List.map_cons, e1], by rw [List.zip_cons_cons, List.map_cons, e2], fun p hp => ?_⟩
      rw [List.zip_cons_cons] at hp
      rcases List.mem_cons.mp hp with e | hp
      · rw [e]; exact h1
      · exact h3 p hp
theorem RpA.ofPairs : ∀ {zs : List (V × D)}, (∀ p ∈ zs, Rp cl H0 G p.1 p.2) → RpA cl H0 G (zs.map Prod.fst) (zs.map Prod.snd)
  | [], _ => .nil
  | z :: zs, h => .cons (h z List.mem_cons_self) (RpA.ofPairs fun p hp => h p (List.mem_cons_of_mem _ hp))
/-- what a stable sort of the values leaves stands for what it leaves of the data -/
theorem sort_over {α : Type} {lt : α → α → Bool} (O : Swo lt) (kv : V → α) {xs ys : List V} {ds : List D} (r : RpA cl H0 G xs ds) (hs : Srtd (fun x y => lt (kv x) (kv y)) ys) (hb : Stb (fun x y => lt (kv x) (kv y)) ys xs)
    (hk : ∀ p ∈ xs.zip ds, ∀ q ∈ xs.zip ds, lt (kv p.1) (kv q.1) = D.ltK p.2 q.2) : RpA cl H0 G ys (sortD [] ds) := by
  obtain ⟨e1, e2, h3⟩ := r.pairs
  have Ov : Swo (fun x y : V => lt (kv x) (kv y)) := ⟨fun x y => O.asym _ _, fun x y z => O.tr _ _ _⟩
  have Op : Swo (fun p q : V × D => lt (kv p.1) (kv q.1)) := ⟨fun x y => O.asym _ _, fun x y z => O.tr _ _ _⟩
  obtain ⟨s1, b1⟩ := sortG_ok Op (xs.zip ds) [] List.Pairwise.nil
  rw [List.nil_append] at b1
  have b2 : Stb (fun x y : V => lt (kv x) (kv y)) ((sortG (fun p q : V × D => lt (kv p.1) (kv q.1)) [] (xs.zip ds)).map Prod.fst) ((xs.zip ds).map Prod.fst) := Stb.map (lt := fun x y : V => lt (kv x) (kv y)) Ov Prod.fst b1
  rw [e1] at b2
  have s2 : Srtd (fun x y : V => lt (kv x) (kv y)) ((sortG (fun p q : V × D => lt (kv p.1) (kv q.1)) [] (xs.zip ds)).map Prod.fst) := srtd_map (lt := fun x y : V => lt (kv x) (kv y)) s1
  have hb' : Stb (fun x y : V => lt (kv x) (kv y)) ys ((sortG (fun p q : V × D => lt (kv p.1) (kv q.1)) [] (xs.zip ds)).map Prod.fst) := hb.trans ⟨b2.perm.symm, fun x => (b2.cls x).symm⟩
  have e := stb_uniq Ov hs s2 hb'
  have e3 : (sortG (fun p q : V × D => lt (kv p.1) (kv q.1)) [] (xs.zip ds)).map Prod.snd = sortD [] ds := by
    rw [sortG_map (lt2 := D.ltK) (f := Prod.snd) (xs.zip ds) [] (fun x hx y hy => hk x hx y hy), e2, sortD_eq]
    rfl
  rw [e, ← e3]
  exact RpA.ofPairs fun p hp => h3 p (b1.perm.mem_iff.mp hp)
end

/-! ### sorted -/
def PairAt (H : Hp) (v : V) (p : Int × Int) : Prop := ∃ t, v = .ref t ∧ H t = some (.tup [.int p.1, .int p.2])
theorem PairAt.inj {H : Hp} {v : V} {p q : Int × Int} (h : PairAt H v p) (h' : PairAt H v q) : p = q := by
  obtain ⟨t, e, h⟩ := h
  obtain ⟨t', e', h'⟩ := h'
  subst e
  injection e' with e'
  subst e'
  rw [h] at h'
  injection h' with h'; injection h' with h'; injection h' with a b; injection b with b c
  injection a with a; injection b with b
  exact Prod.ext a b
open Classical in
noncomputable def kP (H : Hp) (v : V) : Int × Int := if h : ∃ p, PairAt H v p then choose h else (0, 0)
theorem kP_eq {H : Hp} {v : V} {p : Int × Int} (h : PairAt H v p) : kP H v = p := by
  have e : ∃ p, PairAt H v p := ⟨p, h⟩
  unfold kP
  rw [dif_pos e]
  exact PairAt.inj (Classical.choose_spec e) h
theorem swo_lexB : Swo lexB := by
  refine ⟨fun x y h => ?_, fun x y z h1 h2 => ?_⟩
  · have a := lexB_iff.mp h
    refine lexB_no.mpr ?_
    omega
  · have a := lexB_no.mp h1
    have b := lexB_no.mp h2
    refine lexB_no.mpr ?_
    omega
theorem key_kind {d : D} {k : Ky} (h : d.key = some k) : (k.kind = 0 → ∃ i, d = .int i) ∧ (k.kind = 2 → ∃ a b, d = .tup [.int a, .int b]) := by
  unfold D.key at h
  split at h
  · injection h with h; subst h
    exact ⟨fun _ => ⟨_, rfl⟩, fun z => by simp [Ky.kind] at z⟩
  · obtain ⟨l, _, rfl⟩ := Option.map_eq_some_iff.mp h
    exact ⟨fun z => by simp [Ky.kind] at z, fun z => by simp [Ky.kind] at z⟩
  · injection h with h; subst h
    exact ⟨fun z => by simp [Ky.kind] at z, fun _ => ⟨_, _, rfl⟩⟩
  · split at h
    · injection h with h; subst h
      exact ⟨fun z => by simp [Ky.kind] at z, fun z => by simp [Ky.kind] at z⟩
    · cases h
  · cases h
theorem oneKind_mem {n : Nat} {ds : List D} (h : oneKind n ds = true) {d : D} (hd : d ∈ ds) : ∃ k, d.key = some k ∧ k.kind = n := by
  have q := List.all_eq_true.mp h d hd
  cases e : d.key with
  | none => rw [e] at q; cases q
  | some k => rw [e] at q; exact ⟨k, rfl, by simpa using q⟩
theorem oneKind_pair {ds : List D} (h : oneKind 2 ds = true) : ∀ d ∈ ds, ∃ a b, d = .tup [.int a, .int b] := fun d hd => by
  obtain ⟨k, e1, e2⟩ := oneKind_mem h hd
  exact (key_kind e1).2 e2
theorem oneKind_int : ∀ {ds : List D}, oneKind 0 ds = true → ∃ ns, intsD ds = some ns ∧ ds = ns.map D.int
  | [], _ => ⟨[], rfl, rfl⟩
  | d :: ds, h => by
    obtain ⟨k, q1, q2⟩ := oneKind_mem h List.mem_cons_self
    obtain ⟨i, rfl⟩ := (key_kind q1).1 q2
    unfold oneKind at h
    rw [List.all_cons, Bool.and_eq_true] at h
    obtain ⟨ns, e1, e2⟩ := oneKind_int (ds := ds) h.2
    exact ⟨i :: ns, by simp [intsD, e1], by rw [e2]; rfl⟩
theorem swo_lt : Swo (fun a b : Int => decide (a < b)) := ⟨fun x y h => by simp at h ⊢; omega, fun x y z h1 h2 => by simp at h1 h2 ⊢; omega⟩
theorem sort_ints {ns ms : List Int} (hp : ms.Perm ns) (hs : ms.Pairwise (· ≤ ·)) : sortD [] (ns.map D.int) = ms.map D.int := by
  obtain ⟨s1, b1⟩ := sortG_ok swo_lt ns [] List.Pairwise.nil
  rw [List.nil_append] at b1
  have e : sortG (fun a b : Int => decide (a < b)) [] ns = ms := PySem.W.ksm_same (b1.perm.trans hp.symm) (s1.imp fun {a b} h => by simp at h; exact h) hs
  rw [sortD_eq, ← e, sortG_map (lt2 := D.ltK) (f := D.int) ns [] (fun x _ y _ => by simp [D.ltK, D.key, Ky.lt])]
  rfl
variable {X : Cx} {cl : Nat → Addr} {H0 : Hp}
/-- a built-in on values, by what they stand for -/
def CaD (X : Cx) (cl : Nat → Addr) (H0 : Hp) (f : Value) (g : List D → R D) : Prop :=
  ∀ (pins : List (Addr × Obj)) (s : Shared) (σ : L2.St) (G H : Hp) (xs : List V) (us : List Value) (ds : List D) (c : D) (Q : VK), Inv X pins σ H s → Same G H → Same H0 H → Vals xs us → RpA cl H0 G xs ds → g ds = .ok c →
    (∀ z G' H', Gr G H G' H' → Rp cl H0 G' z c → NewV H z c → Q z H') → wpAny (model X.prog X.w) X.A (call f us) (EP X pins σ Q) X.xe s
theorem ca_sorted_ints {pins : List (Addr × Obj)} {s : Shared} {σ : L2.St} {G H : Hp} {xs : List V} {us : List Value} {f : Bool} {ns : List Int} {Q : VK} (I : Inv X pins σ H s) (sg : Same G H) (s0 : Same H0 H) (rv : Vals xs us) (ra : RpA cl H0 G xs [.lst f (ns.map D.int)])
    (k : ∀ z G' H', Gr G H G' H' → Rp cl H0 G' z (.lst true (sortD [] (ns.map D.int))) → NewV H z (.lst true (sortD [] (ns.map D.int))) → Q z H') : wpAny (model X.prog X.w) X.A (call (.builtin "sorted") us) (EP X pins σ Q) X.xe s := by
  cases ra with
  | cons r1 r2 =>
    cases r2
    cases r1 with
    | @lst a vs _ _ h1 _ h2 =>
      have e : intsD (ns.map D.int) = some ns := by
        clear h2 k
        induction ns with
        | nil => rfl
        | cons n ns ih => simp [intsD, ih]
      have e2 := h2.ints e
      subst e2
      refine cr_sortedI pins s σ H _ us Q I rv ⟨a, ns, rfl, .inl (.inl (sg _ _ h1)), fun ms p hp hs np => ?_⟩
      rw [sort_ints hp hs] at k
      have rr : RpA cl H0 G (ms.map V.int) (ms.map D.int) := by
        clear k hp hs
        induction ms with
        | nil => exact .nil
        | cons m ms ih => exact .cons (.int m) ih
      exact newList sg s0 rr k p np
theorem ca_sorted_pairs {pins : List (Addr × Obj)} {s : Shared} {σ : L2.St} {G H : Hp} {xs : List V} {us : List Value} {f : Bool} {ds : List D} {Q : VK} (I : Inv X pins σ H s) (sg : Same G H) (s0 : Same H0 H) (rv : Vals xs us) (ra : RpA cl H0 G xs [.lst f ds]) (hp : ∀ d ∈ ds, ∃ a b, d = .tup [.int a, .int b])
    (k : ∀ z G' H', Gr G H G' H' → Rp cl H0 G' z (.lst true (sortD [] ds)) → NewV H z (.lst true (sortD [] ds)) → Q z H') : wpAny (model X.prog X.w) X.A (call (.builtin "sorted") us) (EP X pins σ Q) X.xe s := by
  cases ra with
  | cons r1 r2 =>
    cases r2
    cases r1 with
    | @lst a vs _ _ h1 _ h2 =>
      obtain ⟨e1, e2, h3⟩ := h2.pairs
      have at2 : ∀ p ∈ vs.zip ds, ∃ i j, p.2 = .tup [.int i, .int j] ∧ PairAt H p.1 (i, j) := fun p hm => by
        have hd : p.2 ∈ ds := by rw [← e2]; exact List.mem_map.mpr ⟨p, hm, rfl⟩
        obtain ⟨i, j, e⟩ := hp _ hd
        refine ⟨i, j, e, ?_⟩
        have r := h3 p hm
        rw [e] at r
        generalize p.1 = v at r
        cases r with
        | tup q1 q2 =>
          cases q2 with
          | cons b1 q2 =>
            cases q2 with
            | cons b2 q2 =>
              cases q2; cases b1; cases b2
              exact ⟨_, rfl, sg _ _ q1⟩
      refine cr_sortedPO pins s σ H _ us Q I rv ⟨a, vs, kP H, rfl, .inl (.inl (sg _ _ h1)), fun x hx => ?_, fun ys p h4 h5 np => ?_⟩
      · rw [← e1] at hx
        obtain ⟨p, hm, rfl⟩ := List.mem_map.mp hx
        obtain ⟨i, j, _, t, e3, e4⟩ := at2 p hm
        refine ⟨t, e3, ?_⟩
        rw [kP_eq (p := (i, j)) ⟨t, e3, e4⟩]
        exact e4
      · refine newList sg s0 (sort_over (lt := lexB) swo_lexB (kP H) h2 h4 h5 fun p hm q hn => ?_) k p np
        obtain ⟨i, j, e3, e4⟩ := at2 p hm
        obtain ⟨i', j', e5, e6⟩ := at2 q hn
        rw [kP_eq e4, kP_eq e6, e3, e5]
        rfl
theorem intsD_py : ∀ {xs : List D} {ns : List Int}, intsD xs = some ns → pys xs = ns.map PyData.int
  | [], ns, h => by simp [intsD] at h; subst h; rfl
  | d :: xs, ns, h => by
    cases d <;> simp [intsD] at h
    obtain ⟨m, e1, e2⟩ := h
    subst e2
    simp [pys, D.py, intsD_py e1]
/-- lists of numbers, or pairs of such -/
theorem kind_py {n : Nat} {d : D} (h : ∃ k, d.key = some k ∧ k.kind = n) : (n = 1 → ∃ ns : List Int, d.py = .list (ns.map .int)) ∧ (n = 3 → ∃ ns ms : List Int, d.py = .tuple [.list (ns.map .int), .list (ms.map .int)]) := by
  obtain ⟨k, e, ek⟩ := h
  unfold D.key at e
  split at e
  · injection e with e; subst e
    exact ⟨fun z => by subst z; simp [Ky.kind] at ek, fun z => by subst z; simp [Ky.kind] at ek⟩
  · obtain ⟨l, e1, rfl⟩ := Option.map_eq_some_iff.mp e
    exact ⟨fun _ => ⟨l, by rw [D.py, intsD_py e1]⟩, fun z => by subst z; simp [Ky.kind] at ek⟩
  · injection e with e; subst e
    exact ⟨fun z => by subst z; simp [Ky.kind] at ek, fun z => by subst z; simp [Ky.kind] at ek⟩
  · split at e
    · rename_i a b h1 h2
      injection e with e; subst e
      exact ⟨fun z => by subst z; simp [Ky.kind] at ek, fun _ => ⟨a, b, by simp [D.py, pys, intsD_py h1, intsD_py h2]⟩⟩
    · cases e
  · cases e
theorem each_of : ∀ {vs : List V} {us : List Value} {ds : List D} {cl : Nat → Addr} {H0 G : Hp}, Vals vs us → RpA cl H0 G vs ds → PySem.W.EachIs (fun u d => ∃ v, RelV v u ∧ Rp cl H0 G v d) us ds
  | [], _, _, _, _, _, r, h => by cases r; cases h; exact .nil
  | v :: vs, _, _, _, _, _, r, h => by
    cases r with
    | cons r1 r2 =>
      cases h with
      | cons h1 h2 => exact .cons ⟨v, r1, h1⟩ (each_of r2 h2)
theorem of_each {cl : Nat → Addr} {H0 G : Hp} : ∀ {us : List Value} {ds : List D}, PySem.W.EachIs (fun u d => ∃ v, RelV v u ∧ Rp cl H0 G v d) us ds → ∃ vs, Vals vs us ∧ RpA cl H0 G vs ds
  | _, _, .nil => ⟨[], .nil, .nil⟩
  | _, _, .cons ⟨v, r1, h1⟩ h => by
    obtain ⟨vs, r2, h2⟩ := of_each h
    exact ⟨v :: vs, .cons r1 r2, .cons h1 h2⟩
theorem each_mono {α β : Type} {R S : α → β → Prop} (i : ∀ a b, R a b → S a b) : ∀ {as : List α} {bs : List β}, PySem.W.EachIs R as bs → PySem.W.EachIs S as bs
  | _, _, .nil => .nil
  | _, _, .cons h t => .cons (i _ _ h) (each_mono i t)
theorem each_and {α β : Type} {R : α → β → Prop} {P : β → Prop} : ∀ {as : List α} {bs : List β}, PySem.W.EachIs R as bs → (∀ b ∈ bs, P b) → PySem.W.EachIs (fun a b => R a b ∧ P b) as bs
  | _, _, .nil, _ => .nil
  | _, _, .cons h t, p => .cons ⟨h, p _ List.mem_cons_self⟩ (each_and t fun b hb => p b (List.mem_cons_of_mem _ hb))
theorem ca_sorted_data {pins : List (Addr × Obj)} {s : Shared} {σ : L2.St} {G H : Hp} {xs : List V} {us : List Value} {f : Bool} {ds : List D} {Q : VK} (hu : X.A.units + 65 < cLine) (I : Inv X pins σ H s) (sg : Same G H) (s0 : Same H0 H) (rv : Vals xs us) (ra : RpA cl H0 G xs [.lst f ds]) (hd : oneKind 1 ds = true ∨ oneKind 3 ds = true)
    (k : ∀ z G' H', Gr G H G' H' → Rp cl H0 G' z (.lst true (ds.mergeSort (PySem.W.dataLe false D.py))) → NewV H z (.lst true (ds.mergeSort (PySem.W.dataLe false D.py))) → Q z H') : wpAny (model X.prog X.w) X.A (call (.builtin "sorted") us) (EP X pins σ Q) X.xe s := by
  cases ra with
  | cons r1 r2 =>
    cases r2
    cases r1 with
    | @lst a vs _ _ h1 _ h2 =>
      obtain ⟨its, rv2, hl, hz⟩ := I.list (SqL.of (sg _ _ h1))
      obtain ⟨u, rfl, ru⟩ := vals1 rv
      obtain rfl : u = Value.ref a := ru
      have pyk : ∀ d ∈ ds, (∃ ns : List Int, d.py = .list (ns.map .int)) ∨ (∃ ns ms : List Int, d.py = .tuple [.list (ns.map .int), .list (ms.map .int)]) := fun d hd' => by
        rcases hd with hd | hd
        · exact .inl ((kind_py (oneKind_mem hd hd')).1 rfl)
        · exact .inr ((kind_py (oneKind_mem hd hd')).2 rfl)
      have lay : ∀ d ∈ ds, d.py.canLay0 = true ∧ d.py.depth ≤ 2 := fun d hd' => by
        have li : ∀ ns : List Int, PyData.canLayAll0 (ns.map PyData.int) = true := fun ns => by induction ns <;> simp_all [PyData.canLayAll0, PyData.canLay0]
        rcases pyk d hd' with ⟨ns, e⟩ | ⟨ns, ms, e⟩
        · rw [e]; exact ⟨by simp [PyData.canLay0, li], by simp [PyData.depth, PySem.W.depth_ints]⟩
        · rw [e]; exact ⟨by simp [PyData.canLay0, PyData.canLayAll0, li], by simp [PyData.depth, PyData.depthAll, PySem.W.depth_ints]⟩
      have E := each_of rv2 h2
      have er : PySem.W.EachIs (fun v b => ∃ as, Reads s.heap v b.py as) its ds := each_mono (fun u d ⟨⟨v, q1, q2⟩, q3⟩ => Dp.reads I d.py v u ((Rp.mono sg d q2).dp (K := X.K) d q3.1) q1) (each_and E lay)
      have hal : PySem.W.AllAlike (ds.map D.py) := by
        intro d hd1 d' hd2
        obtain ⟨b, hb, rfl⟩ := List.mem_map.mp hd1
        obtain ⟨b', hb', rfl⟩ := List.mem_map.mp hd2
        rcases hd with hd | hd
        · obtain ⟨ns, e⟩ := (kind_py (oneKind_mem hd hb)).1 rfl
          obtain ⟨ms, e'⟩ := (kind_py (oneKind_mem hd hb')).1 rfl
          rw [e, e']
          simp [PySem.W.alike, PySem.W.alike_ints]
        · obtain ⟨ns, ms, e⟩ := (kind_py (oneKind_mem hd hb)).2 rfl
          obtain ⟨ns', ms', e'⟩ := (kind_py (oneKind_mem hd hb')).2 rfl
          rw [e, e']
          simp [PySem.W.alike, PySem.W.alikeAll, PySem.W.alike_ints]
      have hk : PySem.W.Sortable (ds.map D.py) := by
        rcases hd with hd | hd
        · refine .inr fun d hd1 => ?_
          obtain ⟨b, hb, rfl⟩ := List.mem_map.mp hd1
          obtain ⟨ns, e⟩ := (kind_py (oneKind_mem hd hb)).1 rfl
          rw [e]
          exact ⟨by simp, by simp⟩
        · refine .inl fun d hd1 => ?_
          obtain ⟨b, hb, rfl⟩ := List.mem_map.mp hd1
          obtain ⟨ns, ms, e⟩ := (kind_py (oneKind_mem hd hb)).2 rfl
          exact ⟨_, _, e⟩
      refine PySem.W.sorted_data (R := fun u d => ∃ v, RelV v u ∧ Rp cl H0 G v d) (bs := ds) (enc := D.py) hl.isList E er hal hk (by rw [← h2.length]; exact hz) (fun b hb => by have := (lay b hb).2; omega) fun out ho eo => ?_
      obtain ⟨ys, ry, rp⟩ := of_each eo
      have hd0 : s.heap.objs.size ≤ s.heap.objs.size + 1 := Nat.le_succ _
      obtain ⟨n, hn⟩ := sortedAll_at s.heap its out.toArray
      have np : H (s.heap.objs.size + 1) = none := I.hok.fresh hd0
      refine ⟨.ref (s.heap.objs.size + 1), upd H (s.heap.objs.size + 1) (.lst ys), I.laid (t' := s.toks) (fun b o e => sortedAll_old e) hd0 ⟨?_, out, n, ry, hn⟩, rfl, ?_⟩
      · rw [ry.length, ho, ← h2.length]; exact hz
      · exact newList sg s0 rp k _ np
theorem minI_le : ∀ (ns : List Int) (m : Int), minI m ns ≤ m ∧ (∀ y ∈ ns, minI m ns ≤ y) ∧ (minI m ns = m ∨ minI m ns ∈ ns)
  | [], m => ⟨Int.le_refl _, fun _ h => absurd h (by simp), .inl rfl⟩
  | x :: r, m => by
    obtain ⟨h1, h2, h3⟩ := minI_le r (if x < m then x else m)
    unfold minI
    refine ⟨?_, fun y hy => ?_, ?_⟩
    · by_cases c : x < m
      · rw [if_pos c] at h1 ⊢; omega
      · rw [if_neg c] at h1 ⊢; omega
    · rcases List.mem_cons.mp hy with e | hy
      · subst e
        by_cases c : y < m
        · rw [if_pos c] at h1 ⊢; omega
        · rw [if_neg c] at h1 ⊢; omega
      · exact h2 y hy
    · rcases h3 with e | h3
      · by_cases c : x < m
        · rw [if_pos c] at e ⊢; exact .inr (by rw [e]; exact List.mem_cons_self)
        · rw [if_neg c] at e ⊢; exact .inl e
      · exact .inr (List.mem_cons_of_mem _ h3)
theorem maxI_le : ∀ (ns : List Int) (m : Int), m ≤ maxI m ns ∧ (∀ y ∈ ns, y ≤ maxI m ns) ∧ (maxI m ns = m ∨ maxI m ns ∈ ns)
  | [], m => ⟨Int.le_refl _, fun _ h => absurd h (by simp), .inl rfl⟩
  | x :: r, m => by
    obtain ⟨h1, h2, h3⟩ := maxI_le r (if m < x then x else m)
    unfold maxI
    refine ⟨?_, fun y hy => ?_, ?_⟩
    · by_cases c : m < x
      · rw [if_pos c] at h1 ⊢; omega
      · rw [if_neg c] at h1 ⊢; omega
    · rcases List.mem_cons.mp hy with e | hy
      · subst e
        by_cases c : m < y
        · rw [if_pos c] at h1 ⊢; omega
        · rw [if_neg c] at h1 ⊢; omega
      · exact h2 y hy
    · rcases h3 with e | h3
      · by_cases c : m < x
        · rw [if_pos c] at e ⊢; exact .inr (by rw [e]; exact List.mem_cons_self)
        · rw [if_neg c] at e ⊢; exact .inl e
      · exact .inr (List.mem_cons_of_mem _ h3)
def biF : Bi → Value
  | .len => .builtin "len" | .sum => .builtin "sum" | .abs => .builtin "abs" | .min2 => .builtin "min" | .max2 => .builtin "max" | .minl => .builtin "min" | .maxl => .builtin "max"
  | .sorted => .builtin "sorted" | .list => .type "list" | .all => .builtin "all" | .any => .builtin "any"
theorem ca_ok (hu : X.A.units + 65 < cLine) (hc : X.calm = true) (b : Bi) : CaD X cl H0 (biF b) (biD b) := by
  intro pins s σ G H xs us ds c Q I sg s0 rv ra e k
  have fin : ∀ i : Int, R.ok c = R.ok (.int i) → Q (.int i) H := fun i e => by
    injection e with e; subst e
    exact k _ G H (Gr.refl sg) (.int _) newInt
  have finb : ∀ i : Bool, R.ok c = R.ok (.bl i) → Q (.bl i) H := fun i e => by
    injection e with e; subst e
    exact k _ G H (Gr.refl sg) (.bl _) fun _ z => nomatch z
  cases b with
  | len =>
    unfold biD at e
    split at e <;> first | (rename_i z _; cases z; done) | (rename_i z; cases z; done) | (cases e; done) | skip
    · cases ra with
      | cons r1 r2 =>
        cases r2
        cases r1 with
        | lst h1 _ h2 => exact call_len_seq pins s σ H _ us Q I rv ⟨_, _, rfl, .inl (.inl (.inl (sg _ _ h1))), fin _ (by rw [h2.length]; exact e.symm)⟩
    · cases ra with
      | cons r1 r2 =>
        cases r2
        cases r1 with
        | tup h1 h2 => exact call_len_seq pins s σ H _ us Q I rv ⟨_, _, rfl, .inr (.inl (.inl (sg _ _ h1))), fin _ (by rw [h2.length]; exact e.symm)⟩
    · cases ra with
      | cons r1 r2 =>
        cases r2
        cases r1 with
        | scr h1 => exact call_len_seq pins s σ H _ us Q I rv ⟨_, _, rfl, .inl (.inl (.inr ⟨_, sg _ _ h1⟩)), fin _ (by rw [List.length_map]; exact e.symm)⟩
  | sum =>
    unfold biD at e
    split at e <;> first | (rename_i z _; cases z; done) | (rename_i z; cases z; done) | (cases e; done) | skip
    split at e
    · rename_i ns hn
      cases ra with
      | cons r1 r2 =>
        cases r2
        cases r1 with
        | lst h1 _ h2 =>
          have e2 := h2.ints hn
          subst e2
          exact cr_sum hc pins s σ H _ us Q I rv ⟨_, _, rfl, .inl (.inl (sg _ _ h1)), fin _ e.symm⟩
    · cases e
  | abs =>
    unfold biD at e
    split at e <;> first | (rename_i z _; cases z; done) | (rename_i z; cases z; done) | (cases e; done) | skip
    cases ra with
    | cons r1 r2 =>
      cases r2; cases r1
      exact call_abs pins s σ H _ us Q I rv ⟨_, rfl, fin _ e.symm⟩
  | min2 =>
    unfold biD at e
    split at e <;> first | (rename_i z _; cases z; done) | (rename_i z; cases z; done) | (cases e; done) | skip
    cases ra with
    | cons r1 r2 =>
      cases r2 with
      | cons r2 r3 =>
        cases r3; cases r1; cases r2
        exact call_min2 hc pins s σ H _ us Q I rv ⟨_, _, rfl, fin _ e.symm⟩
  | max2 =>
    unfold biD at e
    split at e <;> first | (rename_i z _; cases z; done) | (rename_i z; cases z; done) | (cases e; done) | skip
    cases ra with
    | cons r1 r2 =>
      cases r2 with
      | cons r2 r3 =>
        cases r3; cases r1; cases r2
        exact call_max2 hc pins s σ H _ us Q I rv ⟨_, _, rfl, fin _ e.symm⟩
  | minl =>
    unfold biD at e
    split at e <;> first | (rename_i z _; cases z; done) | (rename_i z; cases z; done) | (cases e; done) | skip
    split at e
    · rename_i n ns hn
      cases ra with
      | cons r1 r2 =>
        cases r2
        cases r1 with
        | lst h1 _ h2 =>
          have e2 := h2.ints hn
          subst e2
          refine cr_min hc pins s σ H _ us Q I rv ⟨_, n :: ns, rfl, .inl (.inl (sg _ _ h1)), by simp, fun m hm hle => ?_⟩
          obtain ⟨q1, q2, q3⟩ := minI_le ns n
          have em : m = minI n ns := by
            have a1 : m ≤ minI n ns := by
              rcases q3 with e | q3
              · rw [e]; exact hle _ List.mem_cons_self
              · exact hle _ (List.mem_cons_of_mem _ q3)
            have a2 : minI n ns ≤ m := by
              rcases List.mem_cons.mp hm with e | hm
              · rw [e]; exact q1
              · exact q2 _ hm
            omega
          rw [em]
          exact fin _ e.symm
    · cases e
  | maxl =>
    unfold biD at e
    split at e <;> first | (rename_i z _; cases z; done) | (rename_i z; cases z; done) | (cases e; done) | skip
    split at e
    · rename_i n ns hn
      cases ra with
      | cons r1 r2 =>
        cases r2
        cases r1 with
        | lst h1 _ h2 =>
          have e2 := h2.ints hn
          subst e2
          refine cr_max hc pins s σ H _ us Q I rv ⟨_, n :: ns, rfl, .inl (.inl (sg _ _ h1)), by simp, fun m hm hle => ?_⟩
          obtain ⟨q1, q2, q3⟩ := maxI_le ns n
          have em : m = maxI n ns := by
            have a1 : maxI n ns ≤ m := by
              rcases q3 with e | q3
              · rw [e]; exact hle _ List.mem_cons_self
              · exact hle _ (List.mem_cons_of_mem _ q3)
            have a2 : m ≤ maxI n ns := by
              rcases List.mem_cons.mp hm with e | hm
              · rw [e]; exact q1
              · exact q2 _ hm
            omega
          rw [em]
          exact fin _ e.symm
    · cases e
  | sorted =>
    unfold biD at e
    split at e <;> first | (rename_i z _; cases z; done) | (rename_i z; cases z; done) | (cases e; done) | skip
    unfold sortedD at e
    split at e
    · split at e
      · rename_i hk
        injection e with e; subst e
        simp only [Bool.or_eq_true] at hk
        rcases hk with hk | hk
        · obtain ⟨ns, _, rfl⟩ := oneKind_int hk
          exact ca_sorted_ints I sg s0 rv ra k
        · exact ca_sorted_pairs I sg s0 rv ra (oneKind_pair hk) k
      · split at e
        · rename_i hk
          injection e with e; subst e
          simp only [Bool.or_eq_true] at hk
          exact ca_sorted_data hu I sg s0 rv ra hk k
        · cases e
    · cases e
  | list =>
    unfold biD at e
    split at e <;> first | (rename_i z _; cases z; done) | (rename_i z; cases z; done) | (cases e; done) | skip
    all_goals
      obtain ⟨l, rfl⟩ := mkL_ok e
      cases ra with
      | cons r1 r2 =>
        cases r2
        first
          | (cases r1 with
            | lst h1 _ h2 => exact call_list_of pins s σ H _ us Q I rv ⟨_, _, rfl, .inl (.inl (.inl (sg _ _ h1))), newList sg s0 h2 k⟩)
          | (cases r1 with
            | tup h1 h2 => exact call_list_of pins s σ H _ us Q I rv ⟨_, _, rfl, .inr (.inl (.inl (sg _ _ h1))), newList sg s0 h2 k⟩)
  | all =>
    unfold biD at e
    split at e <;> first | (rename_i z _; cases z; done) | (rename_i z; cases z; done) | (cases e; done) | skip
    split at e
    · rename_i ns hn
      cases ra with
      | cons r1 r2 =>
        cases r2
        cases r1 with
        | lst h1 _ h2 =>
          have e2 := h2.bls hn
          subst e2
          exact cr_all hc pins s σ H _ us Q I rv ⟨_, _, rfl, .inl (.inl (sg _ _ h1)), finb _ e.symm⟩
    · cases e
  | any =>
    unfold biD at e
    split at e <;> first | (rename_i z _; cases z; done) | (rename_i z; cases z; done) | (cases e; done) | skip
    split at e
    · rename_i ns hn
      cases ra with
      | cons r1 r2 =>
        cases r2
        cases r1 with
        | lst h1 _ h2 =>
          have e2 := h2.bls hn
          subst e2
          exact cr_any hc pins s σ H _ us Q I rv ⟨_, _, rfl, .inl (.inl (sg _ _ h1)), finb _ e.symm⟩
    · cases e
end Wt
/-! ## A syntax tree is one of ours -/
namespace Wt
open PySem PySem.Spec PyProof.Rows L2

/-- the names of a row -/
structure Tb where
  fname : Nat → Str
  pres : Nat → Bool
  glob : List (Str × Int)
  /-- classes: their names, which are known, which may be made; methods, by their first numbers -/
  cname : Nat → Str
  kpres : Nat → Bool
  cpres : Nat → Bool
  mname : Nat → Str
  mpres : Nat → Bool
/-- where a tree stands: its block's names, the names whose cells are the block's own -/
structure Bk where
  sc : Scope
  fn : Str → Bool

def visB (sc : Scope) (x : Str) : Bool := match sc.names.lookup x with | some .local => true | some .cell => true | some .free => true | _ => false
def glB (sc : Scope) (x : Str) : Bool := match sc.names.lookup x with | some .globalImplicit => true | _ => false
def locB (b : Bk) (x : Str) : Bool := match b.sc.names.lookup x with | some .local => true | some .cell => b.fn x | _ => false
def okName (x : Str) : Bool := !(x == ("__debug__" : Str)) && !(x == ("__classdict__" : Str)) && !decide (x = ("__name__" : Str))
def biName : Bi → Str
  | .len => "len" | .sum => "sum" | .abs => "abs" | .min2 => "min" | .max2 => "max" | .minl => "min" | .maxl => "max"
  | .sorted => "sorted" | .list => "list" | .all => "all" | .any => "any"
def bltNames : List Str := ["len", "sum", "abs", "min", "max", "sorted", "list", "all", "any", "range", "enumerate", "zip", "isinstance", "int", "bool", "tuple", "set"]
def tyName : Ty → Str
  | .int => "int" | .bool => "bool" | .list => "list" | .tuple => "tuple" | .own _ => ""
def blkOf (b : Bk) (scope : Scope) : Bk := ⟨relS scope b.sc, fun x => scope.names.lookup x == some .cell⟩
def ownP (N : List Str) (own : List Nat) : List (Str × Nat) := own.map fun i => (N.getD i "", i)
def notSet : Expr → Bool
  | .Set .. => false
  | _ => true
/-- which of our trees make a new list -/
def newTop : E → Bool
  | .bin _ _ _ | .sli _ _ _ _ | .lst _ | .comp _ _ _ _ _ | .call _ _ | .bi _ _ | .lrng _ => true
  | .sets o _ => o
  | _ => false

def setNm : Bool → Str
  | true => "sorted"
  | false => "len"
def fieldNm : Nat → Str
  | 0 => "ties"
  | 1 => "ahead"
  | _ => "behind"
def plainM : Expr → Bool
  | .Name _ _ => true
  | .Subscript _ _ _ => true
  | .Call (.Name _ _) (_ :: _) _ _ => true
  | _ => false
/-- the classes of a mask are there -/
def maskC (T : Tb) (mask : Nat) : Bool := [1, 2, 3].all fun c => !mask.testBit c || T.cpres c
/-- .. and each has the method -/
def maskM (T : Tb) (m : Nat) : Bool := decide (m / 16 % 10 = 0) && [1, 2, 3].all fun c => !(m % 16).testBit c || (T.cpres c && T.mpres (m / 16 + c))
variable (T : Tb) (N : List Str)
mutual
def tgIn (own : List Nat) : Tg → Bool
  | .nm i => own.contains i
  | .tp ts => tgIns own ts
  | _ => false
def tgIns (own : List Nat) : Tg → Bool
  | .nil => true
  | .cons t ts => tgIn own t && tgIns own ts
  | _ => false
end
mutual
def chkT (b : Bk) : Tg → Expr → Bool
  | .nm i, .Name x _ => decide (N[i]? = some x) && locB b x
  | .tp ts, .Tuple es _ _ => chkTs b ts es
  | _, _ => false
def chkTs (b : Bk) : Tg → List Expr → Bool
  | .nil, [] => true
  | .cons t ts, e :: es => chkT b t e && chkTs b ts es
  | _, _ => false
end
def isBack : Expr → Bool
  | .Slice none none (some (.UnaryOp .USub (.Constant (.int i) _ _) _)) _ => decide (i = 1)
  | _ => false
def isTwo : Nat → Expr → Bool
  | 0, .Slice none none (some (.Constant (.int i) _ _)) _ => decide (i = 2)
  | 1, .Slice (some (.Constant (.int j) _ _)) none (some (.Constant (.int i) _ _)) _ => decide (j = 1) && decide (i = 2)
  | _, _ => false
theorem isBack_ok {s : Expr} (h : isBack s = true) : ∃ k p1 p2 p3, s = .Slice none none (some (.UnaryOp .USub (.Constant (.int 1) k p1) p2)) p3 := by
  unfold isBack at h
  split at h
  · simp only [decide_eq_true_eq] at h
    subst h
    exact ⟨_, _, _, _, rfl⟩
  · cases h
theorem isTwo_ok {k : Nat} {s : Expr} (h : isTwo k s = true) : (k = 0 ∧ ∃ j p1 p3, s = .Slice none none (some (.Constant (.int 2) j p1)) p3) ∨ (k = 1 ∧ ∃ j j0 p0 p1 p3, s = .Slice (some (.Constant (.int 1) j0 p0)) none (some (.Constant (.int 2) j p1)) p3) := by
  unfold isTwo at h
  split at h
  · simp only [decide_eq_true_eq] at h
    subst h
    exact .inl ⟨rfl, _, _, _, rfl⟩
  · simp only [Bool.and_eq_true, decide_eq_true_eq] at h
    obtain ⟨rfl, rfl⟩ := h
    exact .inr ⟨rfl, _, _, _, _, _, rfl⟩
  · cases h
def isNil : E → Bool
  | .nil => true
  | _ => false
/-- what is never reached may be anything -/
def holeE : Expr → Bool
  | .Set _ _ _ => false
  | .Starred _ _ => false
  | .Slice _ _ _ _ => false
  | _ => true
def plainO : Expr → Bool
  | .Name _ _ => true
  | .Subscript _ _ _ => true
  | _ => false
mutual
def chk (b : Bk) : E → Expr → Bool
  | .cnil, x => holeE x
  | .sets o a, .Call (.Name x _) [.Call (.Name y _) [e] [] _] [] _ => decide (x = setNm o) && glB b.sc x && decide (y = "set") && glB b.sc y && chk b a e
  | .mk c es, .Call (.Name x _) (a :: as) [] _ => decide (x = T.cname c) && T.cpres c && glB b.sc x && okName x && chks b es (a :: as)
  | .attr a f, .Attribute e nm _ => decide (nm = fieldNm (f % 8)) && plainM e && maskC T (f / 8) && chk b a e
  | .meth m a es, .Call (.Attribute e nm apos) (x :: xs) [] cpos => decide (nm = T.mname (m / 16)) && plainM e && apos.endLine == cpos.line && decide ((x :: xs).length < 30) && maskM T m && chk b a e && chks b es (x :: xs)
  | .isk a j, .Call (.Name x _) [e, .Name y _] [] _ => decide (x = "isinstance") && glB b.sc x && decide (y = T.cname (j % 8)) && T.kpres (j % 8) && glB b.sc y && okName y && maskC T (j / 8) && chk b a e
  | .index a c, .Call (.Attribute e m apos) [y] [] cpos => decide (m = "index") && plainO e && apos.endLine == cpos.line && chk b a e && chk b c y
  | .var i, .Name x _ => decide (N[i]? = some x) && visB b.sc x && okName x
  | .int i, .Constant (.int j) _ _ => decide (i = j)
  | .bl i, .Constant (.bool j) _ _ => decide (i = j)
  | .non, .Constant .none _ _ => true
  | .str i, .Constant (.str j) _ _ => decide (i = j)
  | .glob x i, .Name y _ => decide (x = y) && glB b.sc y && okName y && decide ((x, i) ∈ T.glob)
  | .bin o a c, .BinOp l op r _ => decide (op = opOf o) && chk b a l && chk b c r
  | .neg a, .UnaryOp .USub l _ => chk b a l
  | .cmp a cs, .Compare l ops es _ => chk b a l && chkc b cs ops es
  | .and es, .BoolOp .And (x :: y :: r) _ => chks b es (x :: y :: r)
  | .or es, .BoolOp .Or (x :: y :: r) _ => chks b es (x :: y :: r)
  | .not a, .UnaryOp .Not l _ => chk b a l
  | .ite c a d, .IfExp t l r _ => chk b c t && chk b a l && chk b d r
  | .idx a i, .Subscript l r _ => chk b a l && chk b i r
  | .sli .one a lo hi, .Subscript l (.Slice lo' hi' none _) _ => chk b a l && chko b lo lo' && chko b hi hi'
  | .sli .back a lo hi, .Subscript l s _ => isBack s && chk b a l && isNil lo && isNil hi
  | .sli (.two k) a lo hi, .Subscript l s _ => isTwo k s && chk b a l && isNil lo && isNil hi
  | .tup es, .Tuple xs _ _ => chks b es xs
  | .lst es, .List xs _ => chks b es xs
  | .comp elt t it cd own, .ListComp x [⟨tg, iter, ifs, 0⟩] scope _ =>
    chkI b it tg iter && notSet iter && blkC N b.sc scope (ownP N own) && tgIn own t && chkT N (blkOf b scope) t tg && chkf (blkOf b scope) cd ifs && chk (blkOf b scope) elt x
  | .call f es, .Call (.Name x _) (a :: as) [] _ => decide (x = T.fname f) && T.pres f && glB b.sc x && okName x && chks b es (a :: as)
  | .lrng a, .Call (.Name x _) [.Call (.Name y _) [e] [] _] [] _ => decide (x = "list") && glB b.sc x && decide (y = "range") && glB b.sc y && chk b a e
  | .bi o es, .Call (.Name x _) (a :: as) [] _ => decide (x = biName o) && glB b.sc x && chks b es (a :: as)
  | .isi a t, .Call (.Name x _) [e, .Name y _] [] _ => decide (x = "isinstance") && glB b.sc x && decide (y = tyName t) && glB b.sc y && decide (y ≠ "") && chk b a e
  | _, _ => false
def chks (b : Bk) : E → List Expr → Bool
  | .nil, [] => true
  | .cons a es, x :: xs => chk b a x && chks b es xs
  | _, _ => false
def chkc (b : Bk) : E → List CmpOp → List Expr → Bool
  | .ccons c e cs, [op], [x] => isCnil cs && decide (op = cmOf c) && chk b e x
  | .ccons c e cs, op :: op' :: ops, x :: y :: xs => !isCnil cs && decide (op = cmOf c) && chk b e x && chkc b cs (op' :: ops) (y :: xs)
  | _, _, _ => false
def chko (b : Bk) : E → Option Expr → Bool
  | .nil, none => true
  | .cons e .nil, some x => chk b e x
  | _, _ => false
def chkf (b : Bk) : E → List Expr → Bool
  | .nil, [] => true
  | .cons e .nil, [x] => chk b e x
  | _, _ => false
/-- what is walked, by its target -/
def chkI (b : Bk) : E → Expr → Expr → Bool
  | .seq a, _, x => chk b a x
  | .rng es, _, .Call (.Name x _) (a :: as) [] _ => decide (x = "range") && glB b.sc x && decide (as.length ≤ 2) && chks b es (a :: as)
  | .enum e, .Tuple _ _ _, .Call (.Name x _) [a] [] _ => decide (x = "enumerate") && glB b.sc x && chk b e a
  | .zip e f, .Tuple _ _ _, .Call (.Name x _) [a, c] [] _ => decide (x = "zip") && glB b.sc x && chk b e a && chk b f c
  | _, _, _ => false
end
end Wt
/-! ## What the look at a tree says -/
namespace Wt
open PySem PySem.Spec PyProof.Rows L2
variable {T : Tb} {N : List Str} {b : Bk} {ex : Expr}

theorem okName_ok {x : Str} (h : okName x = true) : (x == ("__debug__" : Str)) = false ∧ (x == ("__classdict__" : Str)) = false ∧ x ≠ ("__name__" : Str) := by
  unfold okName at h
  simp only [Bool.and_eq_true, Bool.not_eq_true', decide_eq_false_iff_not] at h
  exact ⟨h.1.1, h.1.2, h.2⟩
theorem visB_ok {X : Cx} {x : Str} (hs : X.env.scope = b.sc) (h : visB b.sc x = true) : Vis X.env.scope x := by
  unfold visB at h
  rw [hs]
  split at h
  · exact .inl (by assumption)
  · exact .inr (.inl (by assumption))
  · exact .inr (.inr (by assumption))
  · cases h
theorem glB_ok {X : Cx} {x : Str} (hs : X.env.scope = b.sc) (h : glB b.sc x = true) : Gl X x := by
  unfold glB at h
  unfold Gl Env.kindOf
  rw [hs]
  split at h
  · assumption
  · cases h
theorem locB_ok {X : Cx} {x : Str} (hs : X.env.scope = b.sc) (hf : ∀ x, b.fn x = true → X.fn x = true) (h : locB b x = true) : Loc X.env.scope x ∧ (X.fn x = true ∨ X.env.scope.names.lookup x = some .local) := by
  unfold locB at h
  rw [hs]
  split at h
  · exact ⟨.inl (by assumption), .inr (by assumption)⟩
  · exact ⟨.inr (by assumption), .inl (hf _ h)⟩
  · cases h

theorem chk_var {i : Nat} (h : chk T N b (.var i) ex = true) : ∃ x p, ex = .Name x p ∧ N[i]? = some x ∧ visB b.sc x = true ∧ okName x = true := by
  cases ex <;> first | (exact (Bool.false_ne_true h).elim) | skip
  rename_i x p
  replace h : (decide (N[i]? = some x) && visB b.sc x && okName x) = true := h
  simp only [Bool.and_eq_true, decide_eq_true_eq] at h
  exact ⟨x, p, rfl, h.1.1, h.1.2, h.2⟩
theorem chk_int {i : Int} (h : chk T N b (.int i) ex = true) : ∃ j p, ex = .Constant (.int i) j p := by
  cases ex <;> first | (exact (Bool.false_ne_true h).elim) | skip
  rename_i c j p
  cases c <;> first | (exact (Bool.false_ne_true h).elim) | skip
  rename_i k
  exact ⟨j, p, by rw [of_decide_eq_true (p := i = k) h]⟩
theorem chk_bl {i : Bool} (h : chk T N b (.bl i) ex = true) : ∃ j p, ex = .Constant (.bool i) j p := by
  cases ex <;> first | (exact (Bool.false_ne_true h).elim) | skip
  rename_i c j p
  cases c <;> first | (exact (Bool.false_ne_true h).elim) | skip
  rename_i k
  exact ⟨j, p, by rw [of_decide_eq_true (p := i = k) h]⟩
theorem chk_str {i : Str} (h : chk T N b (.str i) ex = true) : ∃ j p, ex = .Constant (.str i) j p := by
  cases ex <;> first | (exact (Bool.false_ne_true h).elim) | skip
  rename_i c j p
  cases c <;> first | (exact (Bool.false_ne_true h).elim) | skip
  rename_i k
  exact ⟨j, p, by rw [of_decide_eq_true (p := i = k) h]⟩
theorem chk_non (h : chk T N b .non ex = true) : ∃ j p, ex = .Constant .none j p := by
  cases ex <;> first | (exact (Bool.false_ne_true h).elim) | skip
  rename_i c j p
  cases c <;> first | (exact (Bool.false_ne_true h).elim) | skip
  exact ⟨j, p, rfl⟩
theorem chk_glob {x : Str} {i : Int} (h : chk T N b (.glob x i) ex = true) : ∃ p, ex = .Name x p ∧ glB b.sc x = true ∧ okName x = true ∧ (x, i) ∈ T.glob := by
  cases ex <;> first | (exact (Bool.false_ne_true h).elim) | skip
  rename_i y p
  replace h : (decide (x = y) && glB b.sc y && okName y && decide ((x, i) ∈ T.glob)) = true := h
  simp only [Bool.and_eq_true, decide_eq_true_eq] at h
  obtain ⟨⟨⟨rfl, h1⟩, h2⟩, h3⟩ := h
  exact ⟨p, rfl, h1, h2, h3⟩
theorem chk_bin {o : Op} {a c : E} (h : chk T N b (.bin o a c) ex = true) : ∃ l r p, ex = .BinOp l (opOf o) r p ∧ chk T N b a l = true ∧ chk T N b c r = true := by
  cases ex <;> first | (exact (Bool.false_ne_true h).elim) | skip
  rename_i l op r p
  replace h : (decide (op = opOf o) && chk T N b a l && chk T N b c r) = true := h
  simp only [Bool.and_eq_true, decide_eq_true_eq] at h
  obtain ⟨⟨rfl, h1⟩, h2⟩ := h
  exact ⟨l, r, p, rfl, h1, h2⟩
theorem chk_neg {a : E} (h : chk T N b (.neg a) ex = true) : ∃ l p, ex = .UnaryOp .USub l p ∧ chk T N b a l = true := by
  cases ex <;> first | (exact (Bool.false_ne_true h).elim) | skip
  rename_i op l p
  cases op <;> first | (exact (Bool.false_ne_true h).elim) | skip
  exact ⟨l, p, rfl, h⟩
theorem chk_not {a : E} (h : chk T N b (.not a) ex = true) : ∃ l p, ex = .UnaryOp .Not l p ∧ chk T N b a l = true := by
  cases ex <;> first | (exact (Bool.false_ne_true h).elim) | skip
  rename_i op l p
  cases op <;> first | (exact (Bool.false_ne_true h).elim) | skip
  exact ⟨l, p, rfl, h⟩
theorem chk_cmp {a cs : E} (h : chk T N b (.cmp a cs) ex = true) : ∃ l ops es p, ex = .Compare l ops es p ∧ chk T N b a l = true ∧ chkc T N b cs ops es = true := by
  cases ex <;> first | (exact (Bool.false_ne_true h).elim) | skip
  rename_i l ops es p
  replace h : (chk T N b a l && chkc T N b cs ops es) = true := h
  simp only [Bool.and_eq_true] at h
  exact ⟨l, ops, es, p, rfl, h.1, h.2⟩
theorem chk_and {es : E} (h : chk T N b (.and es) ex = true) : ∃ x y r p, ex = .BoolOp .And (x :: y :: r) p ∧ chks T N b es (x :: y :: r) = true := by
  cases ex <;> first | (exact (Bool.false_ne_true h).elim) | skip
  rename_i op vs p
  cases op <;> first | (exact (Bool.false_ne_true h).elim) | skip
  cases vs with
  | nil => exact (Bool.false_ne_true h).elim
  | cons x vs =>
    cases vs with
    | nil => exact (Bool.false_ne_true h).elim
    | cons y r => exact ⟨x, y, r, p, rfl, h⟩
theorem chk_or {es : E} (h : chk T N b (.or es) ex = true) : ∃ x y r p, ex = .BoolOp .Or (x :: y :: r) p ∧ chks T N b es (x :: y :: r) = true := by
  cases ex <;> first | (exact (Bool.false_ne_true h).elim) | skip
  rename_i op vs p
  cases op <;> first | (exact (Bool.false_ne_true h).elim) | skip
  cases vs with
  | nil => exact (Bool.false_ne_true h).elim
  | cons x vs =>
    cases vs with
    | nil => exact (Bool.false_ne_true h).elim
    | cons y r => exact ⟨x, y, r, p, rfl, h⟩
theorem chk_ite {c a d : E} (h : chk T N b (.ite c a d) ex = true) : ∃ t l r p, ex = .IfExp t l r p ∧ chk T N b c t = true ∧ chk T N b a l = true ∧ chk T N b d r = true := by
  cases ex <;> first | (exact (Bool.false_ne_true h).elim) | skip
  rename_i t l r p
  replace h : (chk T N b c t && chk T N b a l && chk T N b d r) = true := h
  simp only [Bool.and_eq_true] at h
  exact ⟨t, l, r, p, rfl, h.1.1, h.1.2, h.2⟩
theorem chk_idx {a i : E} (h : chk T N b (.idx a i) ex = true) : ∃ l r p, ex = .Subscript l r p ∧ chk T N b a l = true ∧ chk T N b i r = true := by
  cases ex <;> first | (exact (Bool.false_ne_true h).elim) | skip
  rename_i l r p
  replace h : (chk T N b a l && chk T N b i r) = true := h
  simp only [Bool.and_eq_true] at h
  exact ⟨l, r, p, rfl, h.1, h.2⟩
theorem chk_index {a c : E} (h : chk T N b (.index a c) ex = true) : ∃ e apos y cpos, ex = .Call (.Attribute e "index" apos) [y] [] cpos ∧ plainO e = true ∧ (apos.endLine == cpos.line) = true ∧ chk T N b a e = true ∧ chk T N b c y = true := by
  cases ex <;> first | (exact (Bool.false_ne_true h).elim) | skip
  rename_i f as ks cpos
  cases f <;> first | (exact (Bool.false_ne_true h).elim) | skip
  rename_i e m apos
  cases as with
  | nil => exact (Bool.false_ne_true h).elim
  | cons y ys =>
    cases ys with
    | cons _ _ => exact (Bool.false_ne_true h).elim
    | nil =>
      cases ks with
      | cons _ _ => exact (Bool.false_ne_true h).elim
      | nil =>
        replace h : (decide (m = "index") && plainO e && apos.endLine == cpos.line && chk T N b a e && chk T N b c y) = true := h
        simp only [Bool.and_eq_true, decide_eq_true_eq] at h
        obtain ⟨⟨⟨⟨rfl, h2⟩, h3⟩, h4⟩, h5⟩ := h
        exact ⟨e, apos, y, cpos, rfl, h2, h3, h4, h5⟩
theorem plainO_base {e : Expr} (h : plainO e = true) (nm : Str) (env : Env) : attributeBase e nm env (eval e env) = eval e env := by
  cases e <;> first | rfl | exact (Bool.false_ne_true h).elim
theorem chk_mk {c : Nat} {es : E} (h : chk T N b (.mk c es) ex = true) : ∃ p a as pos, ex = .Call (.Name (T.cname c) p) (a :: as) [] pos ∧ T.cpres c = true ∧ glB b.sc (T.cname c) = true ∧ okName (T.cname c) = true ∧ chks T N b es (a :: as) = true := by
  cases ex <;> first | (exact (Bool.false_ne_true h).elim) | skip
  rename_i fn args kws pos
  cases fn <;> first | (exact (Bool.false_ne_true h).elim) | skip
  rename_i x p
  cases args with
  | nil => exact (Bool.false_ne_true h).elim
  | cons a as =>
    cases kws with
    | cons _ _ => exact (Bool.false_ne_true h).elim
    | nil =>
      replace h : (decide (x = T.cname c) && T.cpres c && glB b.sc x && okName x && chks T N b es (a :: as)) = true := h
      simp only [Bool.and_eq_true, decide_eq_true_eq] at h
      obtain ⟨⟨⟨⟨rfl, h1⟩, h2⟩, h3⟩, h4⟩ := h
      exact ⟨p, a, as, pos, rfl, h1, h2, h3, h4⟩
theorem chk_attr {a : E} {f : Nat} (h : chk T N b (.attr a f) ex = true) : ∃ e p, ex = .Attribute e (fieldNm (f % 8)) p ∧ plainM e = true ∧ maskC T (f / 8) = true ∧ chk T N b a e = true := by
  cases ex <;> first | (exact (Bool.false_ne_true h).elim) | skip
  rename_i e nm p
  replace h : (decide (nm = fieldNm (f % 8)) && plainM e && maskC T (f / 8) && chk T N b a e) = true := h
  simp only [Bool.and_eq_true, decide_eq_true_eq] at h
  obtain ⟨⟨⟨rfl, h1⟩, h2⟩, h3⟩ := h
  exact ⟨e, p, rfl, h1, h2, h3⟩
theorem chk_meth {m : Nat} {a es : E} (h : chk T N b (.meth m a es) ex = true) : ∃ e apos x xs cpos, ex = .Call (.Attribute e (T.mname (m / 16)) apos) (x :: xs) [] cpos ∧ plainM e = true ∧ (apos.endLine == cpos.line) = true ∧ (x :: xs).length < 30 ∧ maskM T m = true ∧ chk T N b a e = true ∧ chks T N b es (x :: xs) = true := by
  cases ex <;> first | (exact (Bool.false_ne_true h).elim) | skip
  rename_i fn args kws pos
  cases fn <;> first | (exact (Bool.false_ne_true h).elim) | skip
  rename_i e nm apos
  cases args with
  | nil => exact (Bool.false_ne_true h).elim
  | cons x xs =>
    cases kws with
    | cons _ _ => exact (Bool.false_ne_true h).elim
    | nil =>
      replace h : (decide (nm = T.mname (m / 16)) && plainM e && apos.endLine == pos.line && decide ((x :: xs).length < 30) && maskM T m && chk T N b a e && chks T N b es (x :: xs)) = true := h
      simp only [Bool.and_eq_true, decide_eq_true_eq] at h
      obtain ⟨⟨⟨⟨⟨⟨rfl, h1⟩, h5⟩, h6⟩, h2⟩, h3⟩, h4⟩ := h
      exact ⟨e, apos, x, xs, pos, rfl, h1, h5, h6, h2, h3, h4⟩
theorem chk_isk {a : E} {j : Nat} (h : chk T N b (.isk a j) ex = true) : ∃ p e p2 pos, ex = .Call (.Name "isinstance" p) [e, .Name (T.cname (j % 8)) p2] [] pos ∧ glB b.sc "isinstance" = true ∧ T.kpres (j % 8) = true ∧ glB b.sc (T.cname (j % 8)) = true ∧ okName (T.cname (j % 8)) = true ∧ maskC T (j / 8) = true ∧ chk T N b a e = true := by
  cases ex <;> first | (exact (Bool.false_ne_true h).elim) | skip
  rename_i fn args kws pos
  cases fn <;> first | (exact (Bool.false_ne_true h).elim) | skip
  rename_i x p
  cases args with
  | nil => exact (Bool.false_ne_true h).elim
  | cons e as =>
    cases as with
    | nil => exact (Bool.false_ne_true h).elim
    | cons y ys =>
      cases y <;> first | (exact (Bool.false_ne_true h).elim) | skip
      cases ys with
      | cons _ _ => exact (Bool.false_ne_true h).elim
      | nil =>
        cases kws with
        | cons _ _ => exact (Bool.false_ne_true h).elim
        | nil =>
          rename_i y p2
          replace h : (decide (x = "isinstance") && glB b.sc x && decide (y = T.cname (j % 8)) && T.kpres (j % 8) && glB b.sc y && okName y && maskC T (j / 8) && chk T N b a e) = true := h
          simp only [Bool.and_eq_true, decide_eq_true_eq] at h
          obtain ⟨⟨⟨⟨⟨⟨⟨rfl, h1⟩, rfl⟩, h2⟩, h3⟩, h4⟩, h5⟩, h6⟩ := h
          exact ⟨p, e, p2, pos, rfl, h1, h2, h3, h4, h5, h6⟩
theorem plainM_base {e : Expr} (h : plainM e = true) (nm : Str) (env : Env) : attributeBase e nm env (eval e env) = eval e env := by
  cases e <;> first | rfl | (exact (Bool.false_ne_true h).elim) | skip
  rename_i f as ks p
  cases f <;> first | (exact (Bool.false_ne_true h).elim) | skip
  cases as with
  | nil => exact (Bool.false_ne_true h).elim
  | cons a as => rfl
theorem mask_ok {mask c : Nat} (h : maskC T mask = true) (hc : okC mask c = true) : T.cpres c = true ∧ 1 ≤ c ∧ c ≤ 3 := by
  unfold okC at hc
  simp only [Bool.and_eq_true, decide_eq_true_eq] at hc
  obtain ⟨⟨h1, h2⟩, h3⟩ := hc
  have := List.all_eq_true.mp h c (by simp; omega)
  rw [h1] at this
  exact ⟨by simpa using this, h2, h3⟩
theorem maskm_ok {m c : Nat} (h : maskM T m = true) (hc : okC (m % 16) c = true) : T.cpres c = true ∧ T.mpres (m / 16 + c) = true ∧ 1 ≤ c ∧ c ≤ 3 ∧ m / 16 % 10 = 0 := by
  unfold okC at hc
  simp only [Bool.and_eq_true, decide_eq_true_eq] at hc
  obtain ⟨⟨h1, h2⟩, h3⟩ := hc
  unfold maskM at h
  simp only [Bool.and_eq_true, decide_eq_true_eq] at h
  have := List.all_eq_true.mp h.2 c (by simp; omega)
  rw [h1] at this
  simp at this
  exact ⟨this.1, this.2, h2, h3, h.1⟩
theorem okO_ok {mask : Nat} {d : D} {c : Nat} (h : okO mask d = .ok c) : ∃ ds, d = .obj c ds ∧ okC mask c = true := by
  unfold okO at h
  split at h
  · split at h
    · rename_i hk; injection h with h; subst h; exact ⟨_, rfl, hk⟩
    · cases h
  · cases h
theorem chk_slice {a : E} {lo hi st : Option Expr} {p : Pos} (h : chk T N b a (.Slice lo hi st p) = true) : False := by
  cases a <;> first | (exact (Bool.false_ne_true h).elim) | (rename_i s _ _ _; cases s <;> exact (Bool.false_ne_true h).elim) | skip
theorem chk_star {a : E} {x : Expr} {p : Pos} (h : chk T N b a (.Starred x p) = true) : False := by
  cases a <;> first | (exact (Bool.false_ne_true h).elim) | (rename_i s _ _ _; cases s <;> exact (Bool.false_ne_true h).elim) | skip
theorem chk_set {a : E} {x : List Expr} {k : Nat} {p : Pos} (h : chk T N b a (.Set x k p) = true) : False := by
  cases a <;> first | (exact (Bool.false_ne_true h).elim) | (rename_i s _ _ _; cases s <;> exact (Bool.false_ne_true h).elim) | skip
theorem chk_sli1 {a lo hi : E} (h : chk T N b (.sli .one a lo hi) ex = true) : ∃ l lo' hi' p p2, ex = .Subscript l (.Slice lo' hi' none p2) p ∧ chk T N b a l = true ∧ chko T N b lo lo' = true ∧ chko T N b hi hi' = true := by
  cases ex <;> first | (exact (Bool.false_ne_true h).elim) | skip
  rename_i l r p
  cases r <;> first | (exact (Bool.false_ne_true h).elim) | skip
  rename_i lo' hi' st p2
  cases st <;> first | (exact (Bool.false_ne_true h).elim) | skip
  replace h : (chk T N b a l && chko T N b lo lo' && chko T N b hi hi') = true := h
  simp only [Bool.and_eq_true] at h
  exact ⟨l, lo', hi', p, p2, rfl, h.1.1, h.1.2, h.2⟩
theorem isNil_ok {e : E} (h : isNil e = true) : e = .nil := by cases e <;> first | rfl | exact (Bool.false_ne_true h).elim
theorem chk_slib {a lo hi : E} (h : chk T N b (.sli .back a lo hi) ex = true) : ∃ l k p1 p2 p3 p, ex = .Subscript l (.Slice none none (some (.UnaryOp .USub (.Constant (.int 1) k p1) p2)) p3) p ∧ chk T N b a l = true ∧ lo = .nil ∧ hi = .nil := by
  cases ex <;> first | (exact (Bool.false_ne_true h).elim) | skip
  rename_i l r p
  replace h : (isBack r && chk T N b a l && isNil lo && isNil hi) = true := h
  simp only [Bool.and_eq_true] at h
  obtain ⟨⟨⟨h0, h1⟩, h2⟩, h3⟩ := h
  obtain ⟨k, p1, p2, p3, rfl⟩ := isBack_ok h0
  exact ⟨l, k, _, _, _, _, rfl, h1, isNil_ok h2, isNil_ok h3⟩
theorem chk_sli2 {k : Nat} {a lo hi : E} (h : chk T N b (.sli (.two k) a lo hi) ex = true) : ∃ l, chk T N b a l = true ∧ lo = .nil ∧ hi = .nil ∧ ((k = 0 ∧ ∃ j p1 p3 p, ex = .Subscript l (.Slice none none (some (.Constant (.int 2) j p1)) p3) p) ∨ (k = 1 ∧ ∃ j j0 p0 p1 p3 p, ex = .Subscript l (.Slice (some (.Constant (.int 1) j0 p0)) none (some (.Constant (.int 2) j p1)) p3) p)) := by
  cases ex <;> first | (exact (Bool.false_ne_true h).elim) | skip
  rename_i l r p
  replace h : (isTwo k r && chk T N b a l && isNil lo && isNil hi) = true := h
  simp only [Bool.and_eq_true] at h
  obtain ⟨⟨⟨h0, h1⟩, h2⟩, h3⟩ := h
  refine ⟨l, h1, isNil_ok h2, isNil_ok h3, ?_⟩
  rcases isTwo_ok h0 with ⟨rfl, j, p1, p3, rfl⟩ | ⟨rfl, j, j0, p0, p1, p3, rfl⟩
  · exact .inl ⟨rfl, _, _, _, _, rfl⟩
  · exact .inr ⟨rfl, _, _, _, _, _, _, rfl⟩
theorem chk_tup {es : E} (h : chk T N b (.tup es) ex = true) : ∃ xs k p, ex = .Tuple xs k p ∧ chks T N b es xs = true := by
  cases ex <;> first | (exact (Bool.false_ne_true h).elim) | skip
  exact ⟨_, _, _, rfl, h⟩
theorem chk_lst {es : E} (h : chk T N b (.lst es) ex = true) : ∃ xs p, ex = .List xs p ∧ chks T N b es xs = true := by
  cases ex <;> first | (exact (Bool.false_ne_true h).elim) | skip
  exact ⟨_, _, rfl, h⟩
theorem chk_comp {elt it cd : E} {t : Tg} {own : List Nat} (h : chk T N b (.comp elt t it cd own) ex = true) : ∃ x tg iter ifs scope p, ex = .ListComp x [⟨tg, iter, ifs, 0⟩] scope p ∧
    chkI T N b it tg iter = true ∧ notSet iter = true ∧ blkC N b.sc scope (ownP N own) = true ∧ tgIn own t = true ∧ chkT N (blkOf b scope) t tg = true ∧ chkf T N (blkOf b scope) cd ifs = true ∧ chk T N (blkOf b scope) elt x = true := by
  cases ex <;> first | (exact (Bool.false_ne_true h).elim) | skip
  rename_i x gs scope p
  cases gs with
  | nil => exact (Bool.false_ne_true h).elim
  | cons g gs =>
    cases gs with
    | cons _ _ => obtain ⟨tg, iter, ifs, n⟩ := g; (cases n; rename_i n; cases n <;> exact (Bool.false_ne_true h).elim; exact (Bool.false_ne_true h).elim)
    | nil =>
      obtain ⟨tg, iter, ifs, n⟩ := g
      by_cases hn : n = 0
      · subst hn
        replace h : (chkI T N b it tg iter && notSet iter && blkC N b.sc scope (ownP N own) && tgIn own t && chkT N (blkOf b scope) t tg && chkf T N (blkOf b scope) cd ifs && chk T N (blkOf b scope) elt x) = true := h
        simp only [Bool.and_eq_true] at h
        obtain ⟨⟨⟨⟨⟨⟨h1, h2⟩, h3⟩, h4⟩, h5⟩, h6⟩, h7⟩ := h
        exact ⟨x, tg, iter, ifs, scope, p, rfl, h1, h2, h3, h4, h5, h6, h7⟩
      · exfalso
        cases n with
        | ofNat m =>
          cases m with
          | zero => exact hn rfl
          | succ m => exact (Bool.false_ne_true h).elim
        | negSucc m => exact (Bool.false_ne_true h).elim
theorem chk_call {f : Nat} {es : E} (h : chk T N b (.call f es) ex = true) : ∃ p a as pos, ex = .Call (.Name (T.fname f) p) (a :: as) [] pos ∧ T.pres f = true ∧ glB b.sc (T.fname f) = true ∧ okName (T.fname f) = true ∧ chks T N b es (a :: as) = true := by
  cases ex <;> first | (exact (Bool.false_ne_true h).elim) | skip
  rename_i fn args kws pos
  cases fn <;> first | (exact (Bool.false_ne_true h).elim) | skip
  rename_i x p
  cases args with
  | nil => exact (Bool.false_ne_true h).elim
  | cons a as =>
    cases kws with
    | cons _ _ => exact (Bool.false_ne_true h).elim
    | nil =>
      replace h : (decide (x = T.fname f) && T.pres f && glB b.sc x && okName x && chks T N b es (a :: as)) = true := h
      simp only [Bool.and_eq_true, decide_eq_true_eq] at h
      obtain ⟨⟨⟨⟨rfl, h1⟩, h2⟩, h3⟩, h4⟩ := h
      exact ⟨p, a, as, pos, rfl, h1, h2, h3, h4⟩
theorem chk_bi {o : Bi} {es : E} (h : chk T N b (.bi o es) ex = true) : ∃ p a as pos, ex = .Call (.Name (biName o) p) (a :: as) [] pos ∧ glB b.sc (biName o) = true ∧ chks T N b es (a :: as) = true := by
  cases ex <;> first | (exact (Bool.false_ne_true h).elim) | skip
  rename_i fn args kws pos
  cases fn <;> first | (exact (Bool.false_ne_true h).elim) | skip
  rename_i x p
  cases args with
  | nil => exact (Bool.false_ne_true h).elim
  | cons a as =>
    cases kws with
    | cons _ _ => exact (Bool.false_ne_true h).elim
    | nil =>
      replace h : (decide (x = biName o) && glB b.sc x && chks T N b es (a :: as)) = true := h
      simp only [Bool.and_eq_true, decide_eq_true_eq] at h
      obtain ⟨⟨rfl, h2⟩, h3⟩ := h
      exact ⟨p, a, as, pos, rfl, h2, h3⟩
theorem chk_lrng {a : E} (h : chk T N b (.lrng a) ex = true) : ∃ p p2 e pos2 pos, ex = .Call (.Name "list" p) [.Call (.Name "range" p2) [e] [] pos2] [] pos ∧ glB b.sc "list" = true ∧ glB b.sc "range" = true ∧ chk T N b a e = true := by
  cases ex <;> first | (exact (Bool.false_ne_true h).elim) | skip
  rename_i fn args kws pos
  cases fn <;> first | (exact (Bool.false_ne_true h).elim) | skip
  rename_i x p
  cases args with
  | nil => exact (Bool.false_ne_true h).elim
  | cons e as =>
    cases as with
    | cons _ _ => cases e <;> first | (exact (Bool.false_ne_true h).elim) | (simp [chk] at h; done)
    | nil =>
      cases e <;> first | (exact (Bool.false_ne_true h).elim) | skip
      rename_i fn2 args2 kws2 pos2
      cases fn2 <;> first | (exact (Bool.false_ne_true h).elim) | skip
      rename_i y p2
      cases args2 with
      | nil => exact (Bool.false_ne_true h).elim
      | cons e as2 =>
        cases as2 with
        | cons _ _ => exact (Bool.false_ne_true h).elim
        | nil =>
          cases kws2 with
          | cons _ _ => exact (Bool.false_ne_true h).elim
          | nil =>
            cases kws with
            | cons _ _ => exact (Bool.false_ne_true h).elim
            | nil =>
              replace h : (decide (x = "list") && glB b.sc x && decide (y = "range") && glB b.sc y && chk T N b a e) = true := h
              simp only [Bool.and_eq_true, decide_eq_true_eq] at h
              obtain ⟨⟨⟨⟨rfl, h1⟩, rfl⟩, h2⟩, h3⟩ := h
              exact ⟨p, p2, e, pos2, pos, rfl, h1, h2, h3⟩
theorem chk_sets {o : Bool} {a : E} (h : chk T N b (.sets o a) ex = true) : ∃ p p2 e pos2 pos, ex = .Call (.Name (setNm o) p) [.Call (.Name "set" p2) [e] [] pos2] [] pos ∧ glB b.sc (setNm o) = true ∧ glB b.sc "set" = true ∧ chk T N b a e = true := by
  cases ex <;> first | (exact (Bool.false_ne_true h).elim) | skip
  rename_i fn args kws pos
  cases fn <;> first | (exact (Bool.false_ne_true h).elim) | skip
  rename_i x p
  cases args with
  | nil => exact (Bool.false_ne_true h).elim
  | cons e as =>
    cases as with
    | cons _ _ => cases e <;> first | (exact (Bool.false_ne_true h).elim) | (simp [chk] at h; done)
    | nil =>
      cases e <;> first | (exact (Bool.false_ne_true h).elim) | skip
      rename_i fn2 args2 kws2 pos2
      cases fn2 <;> first | (exact (Bool.false_ne_true h).elim) | skip
      rename_i y p2
      cases args2 with
      | nil => exact (Bool.false_ne_true h).elim
      | cons e as2 =>
        cases as2 with
        | cons _ _ => exact (Bool.false_ne_true h).elim
        | nil =>
          cases kws2 with
          | cons _ _ => exact (Bool.false_ne_true h).elim
          | nil =>
            cases kws with
            | cons _ _ => exact (Bool.false_ne_true h).elim
            | nil =>
              replace h : (decide (x = setNm o) && glB b.sc x && decide (y = "set") && glB b.sc y && chk T N b a e) = true := h
              simp only [Bool.and_eq_true, decide_eq_true_eq] at h
              obtain ⟨⟨⟨⟨rfl, h1⟩, rfl⟩, h2⟩, h3⟩ := h
              exact ⟨p, p2, e, pos2, pos, rfl, h1, h2, h3⟩
theorem chk_isi {a : E} {t : Ty} (h : chk T N b (.isi a t) ex = true) : ∃ p e p2 pos, ex = .Call (.Name "isinstance" p) [e, .Name (tyName t) p2] [] pos ∧ glB b.sc "isinstance" = true ∧ glB b.sc (tyName t) = true ∧ tyName t ≠ "" ∧ chk T N b a e = true := by
  cases ex <;> first | (exact (Bool.false_ne_true h).elim) | skip
  rename_i fn args kws pos
  cases fn <;> first | (exact (Bool.false_ne_true h).elim) | skip
  rename_i x p
  cases args with
  | nil => exact (Bool.false_ne_true h).elim
  | cons e as =>
    cases as with
    | nil => exact (Bool.false_ne_true h).elim
    | cons y as =>
      cases as with
      | cons _ _ => cases y <;> exact (Bool.false_ne_true h).elim
      | nil =>
        cases y <;> first | (exact (Bool.false_ne_true h).elim) | skip
        rename_i y p2
        cases kws with
        | cons _ _ => exact (Bool.false_ne_true h).elim
        | nil =>
          replace h : (decide (x = "isinstance") && glB b.sc x && decide (y = tyName t) && glB b.sc y && decide (y ≠ "") && chk T N b a e) = true := h
          simp only [Bool.and_eq_true, decide_eq_true_eq] at h
          obtain ⟨⟨⟨⟨⟨rfl, h1⟩, rfl⟩, h2⟩, h3⟩, h4⟩ := h
          exact ⟨p, e, p2, pos, rfl, h1, h2, h3, h4⟩
end Wt
/-! ## Readings: what is asked of a wish where a tree computes r -/
namespace Wt
open PySem PySem.Spec PyProof.Rows L2

theorem _root_.L2.PE.imp {X : Cx} {e : Expr} {t t' : TE} (h : PE X e t) (i : ∀ σ H Q, t' σ H Q → t σ H Q) : PE X e t' := ⟨fun pins s σ H Q I q => h.run pins s σ H Q I (i σ H Q q)⟩
theorem _root_.L2.PT.imp {X : Cx} {e : Expr} {t t' : TT} (h : PT X e t) (i : ∀ σ H Q, t' σ H Q → t σ H Q) : PT X e t' := ⟨fun pins s σ H Q I q => h.run pins s σ H Q I (i σ H Q q)⟩
theorem _root_.L2.PA.imp {X : Cx} {e : List Expr} {t t' : TA} (h : PA X e t) (i : ∀ σ H Q, t' σ H Q → t σ H Q) : PA X e t' := ⟨fun pos pins s σ H Q I q => h.run pos pins s σ H Q I (i σ H Q q)⟩
theorem _root_.L2.PTs.imp {X : Cx} {e : List Expr} {t t' : TT} (h : PTs X e t) (i : ∀ σ H Q, t' σ H Q → t σ H Q) : PTs X e t' := ⟨fun pins s σ H Q I q => h.run pins s σ H Q I (i σ H Q q)⟩
theorem _root_.L2.PO.imp {X : Cx} {e : Option Expr} {t t' : TO} (h : PO X e t) (i : ∀ σ H Q, t' σ H Q → t σ H Q) : PO X e t' := ⟨fun pins s σ H Q I q => h.run pins s σ H Q I (i σ H Q q)⟩
theorem _root_.L2.PI.imp {X : Cx} {g e : Expr} {t t' : TI} (h : PI X g e t) (i : ∀ σ H Q, t' σ H Q → t σ H Q) : PI X g e t' := ⟨fun pins s σ H Q I q => h.run pins s σ H Q I (i σ H Q q)⟩
theorem _root_.L2.PG.imp {X : Cx} {e : Expr} {t t' : TG} (h : PG X e t) (i : ∀ v σ H Q, t' v σ H Q → t v σ H Q) : PG X e t' := ⟨fun pins s σ H v u Q I r q => h.run pins s σ H v u Q I r (i v σ H Q q)⟩

section
variable (cl xa : Nat → Addr) (H0 : Hp) (W : WX)
def Fin (G H : Hp) (σ : L2.St) (top : Bool) (Q : VK) : R D → Prop
  | .ok d => ∀ v G' H', Gr G H G' H' → Rp cl H0 G' v d → (top = true → NewV H v d) → Q v H'
  | .exc c => ∀ H', Same H H' → W (.ref (xa c)) none σ H'
  | .bad => False
def FinA (G H : Hp) (σ : L2.St) (Q : List V → Hp → Prop) : R (List D) → Prop
  | .ok ds => ∀ vs G' H', Gr G H G' H' → RpA cl H0 G' vs ds → Q vs H'
  | .exc c => ∀ H', Same H H' → W (.ref (xa c)) none σ H'
  | .bad => False
/-- what comes is no object: nothing but the heap's growth is told -/
def FinX {α : Type} (G H : Hp) (σ : L2.St) (Q : α → Hp → Prop) : R α → Prop
  | .ok a => ∀ G' H', Gr G H G' H' → Q a H'
  | .exc c => ∀ H', Same H H' → W (.ref (xa c)) none σ H'
  | .bad => False
/-- a walk's items -/
structure ItOk (J : It) (ds : List D) (G : Hp) : Prop where
  it : ∃ (Gd : Hp → Prop) (Y : Nat → Hp → V → Hp → Prop), Walk J ds.length Gd Y ∧ (∀ G2 H2, Same G G2 → Same G2 H2 → Gd H2) ∧
    ∀ (i : Nat) (d : D) (x : V) (G2 H2 H3 : Hp), ds[i]? = some d → Same G G2 → Same G2 H2 → Y i H2 x H3 → ∃ G3, Gr G2 H2 G3 H3 ∧ Rp cl H0 G3 x d
def FinI (G H : Hp) (σ : L2.St) (Q : It → Hp → Prop) : R (List D) → Prop
  | .ok ds => ∀ J G' H', Gr G H G' H' → ItOk cl H0 J ds G' → Q J H'
  | .exc c => ∀ H', Same H H' → W (.ref (xa c)) none σ H'
  | .bad => False
def tV (ρ : Rho) (top : Bool) (r : R D) : TE := fun σ H Q => ∃ G, Rep cl H0 ρ σ G H ∧ Fin cl xa H0 W G H σ top Q r
def tAs (ρ : Rho) (r : R (List D)) : TA := fun σ H Q => ∃ G, Rep cl H0 ρ σ G H ∧ FinA cl xa H0 W G H σ Q r
def tX {α : Type} (ρ : Rho) (r : R α) : L2.St → Hp → (α → Hp → Prop) → Prop := fun σ H Q => ∃ G, Rep cl H0 ρ σ G H ∧ FinX xa W G H σ Q r
def tIt (ρ : Rho) (r : R (List D)) : TI := fun σ H Q => ∃ G, Rep cl H0 ρ σ G H ∧ FinI cl xa H0 W G H σ Q r
end
section
variable {cl xa : Nat → Addr} {H0 : Hp} {W : WX} {G H G1 H1 : Hp} {σ : L2.St} {top : Bool} {Q : VK} {α β : Type}
theorem Fin.mono {r : R D} (h : Fin cl xa H0 W G H σ top Q r) (g : Gr G H G1 H1) : Fin cl xa H0 W G1 H1 σ top Q r := by
  cases r with
  | ok d => exact fun v G' H' g' r' n => h v G' H' (g.trans g') r' fun t => (n t).back g.hh
  | exc c => exact fun H' s => h H' (g.hh.trans s)
  | bad => exact h
theorem FinA.mono {r : R (List D)} {Q : List V → Hp → Prop} (h : FinA cl xa H0 W G H σ Q r) (g : Gr G H G1 H1) : FinA cl xa H0 W G1 H1 σ Q r := by
  cases r with
  | ok d => exact fun v G' H' g' r' => h v G' H' (g.trans g') r'
  | exc c => exact fun H' s => h H' (g.hh.trans s)
  | bad => exact h
theorem FinX.mono {r : R α} {Q : α → Hp → Prop} (h : FinX xa W G H σ Q r) (g : Gr G H G1 H1) : FinX xa W G1 H1 σ Q r := by
  cases r with
  | ok d => exact fun G' H' g' => h G' H' (g.trans g')
  | exc c => exact fun H' s => h H' (g.hh.trans s)
  | bad => exact h
theorem FinI.mono {r : R (List D)} {Q : It → Hp → Prop} (h : FinI cl xa H0 W G H σ Q r) (g : Gr G H G1 H1) : FinI cl xa H0 W G1 H1 σ Q r := by
  cases r with
  | ok d => exact fun v G' H' g' r' => h v G' H' (g.trans g') r'
  | exc c => exact fun H' s => h H' (g.hh.trans s)
  | bad => exact h
/-- first r, then what f makes of it. Z: what is wanted at the end, by its own kind -/
theorem use1 {r : R D} {f : D → R β} {Z : Hp → Hp → R β → Prop} {K : VK} (zx : ∀ c, Z G H (.exc c) → ∀ H', Same H H' → W (.ref (xa c)) none σ H') (zb : Z G H .bad → False) (zm : ∀ {G1 H1 : Hp} {r : R β}, Z G H r → Gr G H G1 H1 → Z G1 H1 r)
    (h : Z G H (r.bind f)) (k : ∀ x v G1 H1, r = .ok x → Gr G H G1 H1 → Rp cl H0 G1 v x → Z G1 H1 (f x) → K v H1) : Fin cl xa H0 W G H σ top K r := by
  cases r with
  | ok d => exact fun v G' H' g' r' _ => k d v G' H' rfl g' r' (zm h g')
  | exc c => exact zx c h
  | bad => exact (zb h).elim
theorem use1A {r : R (List D)} {f : List D → R β} {Z : Hp → Hp → R β → Prop} {K : List V → Hp → Prop} (zx : ∀ c, Z G H (.exc c) → ∀ H', Same H H' → W (.ref (xa c)) none σ H') (zb : Z G H .bad → False) (zm : ∀ {G1 H1 : Hp} {r : R β}, Z G H r → Gr G H G1 H1 → Z G1 H1 r)
    (h : Z G H (r.bind f)) (k : ∀ x v G1 H1, r = .ok x → Gr G H G1 H1 → RpA cl H0 G1 v x → Z G1 H1 (f x) → K v H1) : FinA cl xa H0 W G H σ K r := by
  cases r with
  | ok d => exact fun v G' H' g' r' => k d v G' H' rfl g' r' (zm h g')
  | exc c => exact zx c h
  | bad => exact (zb h).elim
theorem use1X {r : R α} {f : α → R β} {Z : Hp → Hp → R β → Prop} {K : α → Hp → Prop} (zx : ∀ c, Z G H (.exc c) → ∀ H', Same H H' → W (.ref (xa c)) none σ H') (zb : Z G H .bad → False) (zm : ∀ {G1 H1 : Hp} {r : R β}, Z G H r → Gr G H G1 H1 → Z G1 H1 r)
    (h : Z G H (r.bind f)) (k : ∀ x G1 H1, r = .ok x → Gr G H G1 H1 → Z G1 H1 (f x) → K x H1) : FinX xa W G H σ K r := by
  cases r with
  | ok d => exact fun G' H' g' => k d G' H' rfl g' (zm h g')
  | exc c => exact zx c h
  | bad => exact (zb h).elim
def isAtom : D → Prop
  | .non => True | .bl _ => True | .int _ => True | .str _ => True | _ => False
theorem Rp.atom {d : D} {v : V} (a : isAtom d) (h : Rp cl H0 G v d) : Rp cl H0 G1 v d := by
  cases d <;> first | exact a.elim | (cases h; constructor)
theorem Fin.up {r : R D} (at_ : ∀ d, r = .ok d → isAtom d) (s : Same G H) (h : Fin cl xa H0 W G H σ top Q r) : Fin cl xa H0 W H H σ top Q r := by
  cases r with
  | ok d =>
    intro v G' H' g' r' n
    obtain ⟨G2, g2, _⟩ := Gr.back s g'
    exact h v G2 H' g2 (Rp.atom (at_ d rfl) r') n
  | exc c => exact h
  | bad => exact h
theorem FinX.up {r : R α} {Q : α → Hp → Prop} (s : Same G H) (h : FinX xa W G H σ Q r) : FinX xa W H H σ Q r := by
  cases r with
  | ok d =>
    intro G' H' g'
    obtain ⟨G2, g2, _⟩ := Gr.back s g'
    exact h G2 H' g2
  | exc c => exact h
  | bad => exact h
theorem _root_.L2.PE.share {X : Cx} {e : Expr} {ρ : Rho} {r : R D} (at_ : ∀ d, r = .ok d → isAtom d) (h : PE X e (tV cl xa H0 W (shareAll ρ) top r)) : PE X e (tV cl xa H0 W ρ top r) :=
  h.imp fun σ H Q ⟨G, rep, q⟩ => ⟨H, rep.all, q.up at_ rep.sub⟩
theorem _root_.L2.PT.share {X : Cx} {e : Expr} {ρ : Rho} {r : R Bool} (h : PT X e (tX cl xa H0 W (shareAll ρ) r)) : PT X e (tX cl xa H0 W ρ r) :=
  h.imp fun σ H Q ⟨G, rep, q⟩ => ⟨H, rep.all, q.up rep.sub⟩
theorem toB_ok {d : D} {t : Bool} (h : toB d = .ok t) : d = .bl t := by
  cases d <;> first | (cases h; done) | skip
  injection h with h; rw [h]
theorem FinX.toFin {r : R D} {K : Bool → Hp → Prop} (h : FinX xa W G H σ K (r.bind toB)) : Fin cl xa H0 W G H σ top (fun v H' => ∃ c, v = .bl c ∧ K c H') r := by
  cases r with
  | ok d =>
    intro v G' H' g' r' _
    cases d <;> first | (exact h.elim) | skip
    cases r'
    exact ⟨_, rfl, h G' H' g'⟩
  | exc c => exact h
  | bad => exact h.elim
/-- the test of a tree that has no test of its own -/
theorem _root_.L2.PE.test {X : Cx} {e : Expr} {ρ : Rho} {r : R D} (h : PE X e (tV cl xa H0 W ρ top r)) (he : ∀ whole, isTrue e X.env whole = (do let v ← whole; standAt e.pos; holding [v] (truthy v))) : PT X e (tX cl xa H0 W ρ (r.bind toB)) := by
  refine (pt_val h he).imp fun σ H K ⟨G, rep, q⟩ => ⟨G, rep, q.toFin⟩
end
end Wt
/-! ## A tree computes what `ev` says -/
namespace Wt
open PySem PySem.Spec PyProof.Rows L2

/-- where a row's defs and classes stand -/
structure Ad where
  fa : Nat → Addr
  fd : Nat → FuncData
  ps : Nat → List Str
  cl : Nat → Addr
  xa : Nat → Addr
/-- a def's promise, by its meaning F -/
def spD (cl xa : Nat → Addr) (F : List D → R D) : Sp := fun vs H Q E => ∃ G ds, Same G H ∧ RpA cl H G vs (olds ds) ∧
  match F (olds ds) with
  | .ok d => ∀ v G' H', Gr G H G' H' → Rp cl H G' v d → Q v H'
  | .exc c => ∀ H', Same H H' → E (.ref (xa c)) none H'
  | .bad => False
theorem putF_new {f : Str} {v : V} : ∀ {fs : List (Str × V)}, f ∉ fs.map (·.1) → putF f v fs = fs ++ [(f, v)]
  | [], _ => rfl
  | (g, x) :: r, h => by
    simp only [List.map_cons, List.mem_cons, not_or] at h
    unfold putF
    rw [if_neg (fun e => h.1 e.symm), putF_new h.2]
    rfl
/-- the body of an __init__: each field is a copy of its parameter -/
def chkInit (sc : Scope) (N : List Str) : List Str → Nat → List Stmt → Bool
  | [], _, [] => true
  | f :: fs, i, .Assign [.Attribute (.Name s _) f' _] (.Call (.Name l _) [.Name p _] [] _) _ :: sts =>
    decide (N[0]? = some s) && visB sc s && okName s && decide (f' = f) && decide (l = "list") && glB sc l && decide (N[i]? = some p) && visB sc p && okName p && chkInit sc N fs (i + 1) sts
  | _, _, _ => false
/-- what an object is when its fields have been set one by one: C the class, done its fields so far -/
def initH (x C dx : Addr) : List (Str × List V) → List (Str × V) → Hp → (Hp → Prop) → Prop
  | [], _, H, K => K H
  | (f, xs) :: r, done, H, K => ∀ p, H p = none → initH x C dx r (done ++ [(f, .ref p)]) (upd (upd H p (.lst xs)) x (.ins C dx (done ++ [(f, .ref p)]))) K
/-- a parameter holds a list or a tuple -/
def SeqV (H : Hp) (x : Addr) (u : V) (xs : List V) : Prop := ∃ a, u = .ref a ∧ a ≠ x ∧ (H a = some (.lst xs) ∨ H a = some (.tup xs))
theorem SeqV.up {H : Hp} {x : Addr} {u : V} {xs : List V} {p : Addr} {o o' : HO} (h : SeqV H x u xs) (np : H p = none) : SeqV (upd (upd H p o) x o') x u xs := by
  obtain ⟨a, e, ne, h⟩ := h
  have nap : a ≠ p := fun z => by subst z; rcases h with h | h <;> rw [np] at h <;> cases h
  exact ⟨a, e, ne, by rw [upd_ne ne, upd_ne nap]; exact h⟩
def tInit (K : PySem.W.Frag) (fs : List Str) (i : Nat) : TS := fun D σ H => ∃ (x C dx : Addr) (done : List (Str × V)) (us : List V) (xss : List (List V)),
  σ[0]? = some (some (.ref x)) ∧ H x = some (.ins C dx done) ∧ Cls K C ∧ (∀ f ∈ fs, NoAttr K C f) ∧ (∀ f ∈ fs, f ∉ done.map (·.1)) ∧ fs.Nodup ∧ done.length + fs.length < 900 ∧ us.length = fs.length ∧ xss.length = fs.length ∧
  (∀ j u xs, us[j]? = some u → xss[j]? = some xs → σ[i + j]? = some (some u) ∧ SeqV H x u xs) ∧ initH x C dx (fs.zip xss) done H (D.nx σ)
theorem init_body {X : Cx} {b : Bk} (hs : X.env.scope = b.sc) (hl : X.mg "list" = none) : ∀ (fs : List Str) (i : Nat) (sts : List Stmt), chkInit b.sc X.N fs i sts = true → PSs X sts (tInit X.K fs i)
  | [], i, [], _ => by
    refine ⟨fun pins s σ H D I q => pss_nil.run pins s σ H D I ?_⟩
    obtain ⟨x, C, dx, done, us, xss, _, _, _, _, _, _, _, _, _, _, q⟩ := q
    cases xss <;> exact q
  | f :: fs, i, .Assign [.Attribute (.Name s sp) f' fp] (.Call (.Name l lp) [.Name p pp] [] cp) ap :: sts, h => by
    simp only [chkInit, Bool.and_eq_true, decide_eq_true_eq] at h
    obtain ⟨⟨⟨⟨⟨⟨⟨⟨⟨h1, h2⟩, h3⟩, rfl⟩, rfl⟩, h6⟩, h7⟩, h8⟩, h9⟩, h10⟩ := h
    obtain ⟨n1, n2, n3⟩ := okName_ok h3
    obtain ⟨m1, m2, m3⟩ := okName_ok h9
    have pself : PE X (.Name s sp) (tVar 0) := pe_var h1 (visB_ok hs h2) n1 n2
    have pp' : PE X (.Name p pp) (tVar i) := pe_var h7 (visB_ok hs h8) m1 m2
    have pl := pe_callTy (X := X) (p := lp) (pos := cp) call_list_of (glB_ok hs h6) hl (show bootBuiltins "list" = some (.type "list") by decide +kernel) (pa_cons pp' pa_nil) (by decide) (by decide) rfl rfl
    have p1 := ps_fld (X := X) (f := f') (pos' := fp) (pos := ap) pself pl rfl
    refine ⟨fun pins st σ H D I q => (pss_cons p1 (init_body hs hl fs (i + 1) sts h10)).run pins st σ H D I ?_⟩
    obtain ⟨x, C, dx, done, us, xss, q1, q2, q3, q4, q5, q6, q7, q8, q9, q10, q11⟩ := q
    cases us with
    | nil => simp at q8
    | cons u us =>
      cases xss with
      | nil => simp at q9
      | cons xs xss =>
        obtain ⟨e1, a, ea, ne, eh⟩ := q10 0 u xs rfl rfl
        have nf : f' ∉ done.map (·.1) := q5 f' List.mem_cons_self
        refine ⟨u, e1, a, xs, by rw [ea], by rcases eh with eh | eh; exact .inl (.inl (.inl eh)); exact .inr (.inl (.inl eh)), fun pn np => ?_⟩
        have nx : pn ≠ x := fun z => by subst z; rw [q2] at np; cases np
        refine ⟨_, q1, x, C, dx, done, rfl, by rw [upd_ne (Ne.symm nx)]; exact q2, q3, q4 f' List.mem_cons_self, by simp at q7; omega, ?_⟩
        rw [putF_new nf]
        have q12 : initH x C dx (fs.zip xss) (done ++ [(f', V.ref pn)]) (upd (upd H pn (HO.lst xs)) x (HO.ins C dx (done ++ [(f', V.ref pn)]))) (D.nx σ) := q11 pn np
        refine ⟨x, C, dx, done ++ [(f', V.ref pn)], us, xss, q1, upd_same, q3, fun g hg => q4 g (List.mem_cons_of_mem _ hg), fun g hg => ?_, (List.nodup_cons.mp q6).2, by simp at q7 ⊢; omega, by simpa using q8, by simpa using q9, fun j w ys hw hy => ?_, q12⟩
        · rw [List.map_append, List.mem_append, not_or]
          refine ⟨q5 g (List.mem_cons_of_mem _ hg), fun z => ?_⟩
          simp at z
          rw [z] at hg
          exact (List.nodup_cons.mp q6).1 hg
        · obtain ⟨e2, e3⟩ := q10 (j + 1) w ys (by simpa using hw) (by simpa using hy)
          exact ⟨by rw [show i + 1 + j = i + (j + 1) by omega]; exact e2, e3.up np⟩
  | [], _, _ :: _, h => by simp [chkInit] at h
  | _ :: _, _, [], h => by simp [chkInit] at h
/-- an __init__ of that sort: vs is the new object and the parameters -/
def spI (C : Addr) (fs : List Str) : Sp := fun vs H Q E => ∃ (x dx : Addr) (us : List V) (xss : List (List V)), vs = .ref x :: us ∧ H x = some (.ins C dx []) ∧ us.length = fs.length ∧ xss.length = fs.length ∧
  (∀ (j : Nat) (u : V) (xs : List V), us[j]? = some u → xss[j]? = some xs → SeqV H x u xs) ∧ initH x C dx (fs.zip xss) [] H (fun H' => Q .non H')
theorem init_fn {P : Program} {w : World} {K : PySem.W.Frag} {mg : Str → Option Value} {base : Heap} {qual : Str} {st : Stmt} {f : Addr} {fd : FuncData} {ps : List Str} {C : Addr} {fs : List Str} (F : Fun K "__init__" qual st f fd) (S : FnScope ps ps (defScope st))
    (hl : mg "list" = none) (cl : Cls K C) (na : ∀ g ∈ fs, NoAttr K C g) (nd : fs.Nodup) (hn : fs.length < 900) (hp : ps.length = fs.length + 1) (hc : chkInit (defScope st) ps fs 1 (defBody st) = true) : FnOk P w K mg base CX0 1 f fd ps (spI C fs) := by
  obtain ⟨c1, c2, c3, c4, c5, c6, cdv, c8, c9, rfl, lk, hcd⟩ := F.ex
  refine fn_of lk hcd S (fun vs H Q E h => ?_) fun A outer s H vs Q E hr hsp => ?_
  · obtain ⟨x, dx, us, xss, rfl, h1, h2, _⟩ := h
    simp [h2, hp]
  · refine ⟨_, init_body (X := cxOf CX0 P w K mg base ps qual (defScope st) f cdv A outer s H E) (b := ⟨defScope st, fun _ => true⟩) rfl hl fs 1 _ hc, ?_⟩
    obtain ⟨x, dx, us, xss, rfl, h1, h2, h3, h4, h5⟩ := hsp
    refine ⟨x, C, dx, [], us, xss, rfl, h1, cl, na, by simp, nd, by simpa using hn, h2, h3, fun j u xs hu hx => ⟨?_, h4 j u xs hu hx⟩, h5⟩
    unfold L2.start
    have hj : j < us.length := (List.getElem?_eq_some_iff.mp hu).1
    rw [List.getElem?_append_left (by simp; omega), List.getElem?_map, show 1 + j = j + 1 by omega, List.getElem?_cons_succ, hu]
    rfl
/-- how the lists of a new object come to stand for its fields -/
theorem initH_up {cl : Nat → Addr} {H0 : Hp} {x C dx : Addr} {K : Hp → Prop} : ∀ (r : List (Str × List V)) (es : List (List D)) (done : List (Str × V)) (G H : Hp), r.length = es.length → (∀ (j : Nat) (q : Str × List V) (e : List D), r[j]? = some q → es[j]? = some e → RpA cl H0 G q.2 e) → G x = none →
    (∀ a o, G a = some o → H a = some o) → (∀ p, H p = none → H0 p = none) → H x = some (.ins C dx done) →
    (∀ G' H' zs, Same G G' → (∀ a, H a ≠ none → G' a = G a) → G' x = none → (∀ a o, a ≠ x → H a = some o → H' a = some o) → (∀ a o, G' a = some o → H' a = some o) → zs.length = r.length → H' x = some (.ins C dx (done ++ (r.map (·.1)).zip zs)) → RpA cl H0 G' zs (es.map (D.lst true)) → K H') → initH x C dx r done H K
  | [], [], done, G, H, _, _, gx, gh, _, hx, k => k G H [] (Same.refl _) (fun _ _ => rfl) gx (fun _ _ _ e => e) gh rfl (by simpa using hx) .nil
  | [], _ :: _, _, _, _, hl, _, _, _, _, _, _ => by simp at hl
  | _ :: _, [], _, _, _, hl, _, _, _, _, _, _ => by simp at hl
  | (f, xs) :: r, e :: es, done, G, H, hl, hr, gx, gh, h0, hx, k => by
    intro p np
    have nx : p ≠ x := fun z => by subst z; rw [hx] at np; cases np
    have gp : G p = none := by
      cases h : G p with
      | none => rfl
      | some o => rw [gh p o h] at np; cases np
    have re := hr 0 (f, xs) e rfl rfl
    have sg : Same G (upd G p (.lst xs)) := fun a o h => by rw [upd_ne (ne_of_none h gp)]; exact h
    refine initH_up r es (done ++ [(f, .ref p)]) (upd G p (.lst xs)) (upd (upd H p (.lst xs)) x (.ins C dx (done ++ [(f, .ref p)]))) (by simpa using hl) (fun j q e' h1 h2 => (hr (j + 1) q e' (by simpa using h1) (by simpa using h2)).mono sg) ?_ ?_ ?_ upd_same ?_
    · rw [upd_ne (Ne.symm nx)]; exact gx
    · intro a o h
      by_cases ap : a = p
      · subst ap; rw [upd_same] at h; rw [upd_ne nx, upd_same]; exact h
      · rw [upd_ne ap] at h
        have ax : a ≠ x := fun z => by subst z; rw [gx] at h; cases h
        rw [upd_ne ax, upd_ne ap]; exact gh a o h
    · intro a h
      by_cases ax : a = x
      · subst ax; rw [upd_same] at h; cases h
      · rw [upd_ne ax] at h
        by_cases ap : a = p
        · subst ap; rw [upd_same] at h; cases h
        · rw [upd_ne ap] at h; exact h0 a h
    · intro G' H' zs s1 o1 gx' hh gh' lz hx' rz
      have hp' : G' p = some (.lst xs) := s1 _ _ upd_same
      refine k G' H' (.ref p :: zs) (sg.trans s1) (fun a ha => ?_) gx' (fun a o ax h => ?_) gh' (by simp [lz]) ?_ (.cons (.lst hp' (fun _ => h0 p np) (RpA.mono (sg.trans s1) e re)) rz)
      · have ap : a ≠ p := fun z => by subst z; exact ha np
        rw [o1 a (by
          by_cases ax : a = x
          · subst ax; rw [upd_same]; simp
          · rw [upd_ne ax, upd_ne ap]; exact ha), upd_ne ap]
      · have ap : a ≠ p := fun z => by subst z; rw [np] at h; cases h
        exact hh a o ax (by rw [upd_ne ax, upd_ne ap]; exact h)
      · rw [hx', List.append_assoc]; rfl
/-- a class that may be made -/
structure ClsAt (T : Tb) (A : Ad) (P : Program) (w : World) (K : PySem.W.Frag) (mg : Str → Option Value) (base : Heap) (c : Nat) : Prop where
  mgc : mg (T.cname c) = some (.ref (A.cl c))
  cls : Cls K (A.cl c)
  na : ∀ f ∈ names c, NoAttr K (A.cl c) f
  made : ∃ f fd ps, Mk K (A.cl c) f ∧ FnOk P w K mg base CX0 1 f fd ps (spI (A.cl c) (names c)) ∧ Binds K fd ps []
  isi : ∀ j, T.kpres j = true → PySem.W.kitOne K (.ref (A.cl c)) (.ref (A.cl j)) = some (isa c j)
  tyx : ∀ (H : Hp) (a dx : Addr) (fs : List (Str × V)), H a = some (.ins (A.cl c) dx fs) → TyX K H (.ref a) (.ref (A.cl c))
  nom : ∀ m, T.mpres (m + c) = true → T.mname m ∉ names c
/-- what a row gives -/
structure Row (T : Tb) (Γ : Nat → List D → R D) (A : Ad) (k : Nat) (P : Program) (w : World) (K : PySem.W.Frag) (mg : Str → Option Value) (base : Heap) : Prop where
  fn : ∀ f, T.pres f = true → mg (T.fname f) = some (.ref (A.fa f)) ∧ PySem.W.keepIn K (.ref (A.fa f)) = true ∧ Binds K (A.fd f) (A.ps f) [] ∧ FnOk P w K mg base (L2N.CX P w) k (A.fa f) (A.fd f) (A.ps f) (spD A.cl A.xa (Γ f))
  glob : ∀ p ∈ T.glob, ∃ t, mg p.1 = some (.int p.2 t)
  blt : ∀ x ∈ bltNames, mg x = none
  known : ∀ c, T.kpres c = true → mg (T.cname c) = some (.ref (A.cl c))
  cls : ∀ c, T.cpres c = true → ClsAt T A P w K mg base c
  meth : ∀ c m, m % 10 = 0 → 1 ≤ c → c ≤ 3 → T.cpres c = true → T.mpres (m + c) = true → Meth K (A.cl c) (T.mname m) (A.fa (m + c)) ∧ Binds K (A.fd (m + c)) (A.ps (m + c)) [] ∧ FnOk P w K mg base (L2N.CX P w) k (A.fa (m + c)) (A.fd (m + c)) (A.ps (m + c)) (spD A.cl A.xa (Γ (m + c)))
  two : 2 ≤ k
structure Cok (T : Tb) (N : List Str) (Γ : Nat → List D → R D) (A : Ad) (k : Nat) (X : Cx) (b : Bk) (W : WX) : Prop where
  hN : X.N = N
  nd : N.Nodup
  calm : X.calm = true
  sc : X.env.scope = b.sc
  fn : ∀ x, b.fn x = true → X.fn x = true
  room : Room k X.A
  tk : L2N.Takes X W
  row : Row T Γ A k X.prog X.w X.K X.mg X.base

theorem star_cons {e : Expr} {es : List Expr} {env : Env} (h : ∀ x p, e ≠ .Starred x p) : starEach (e :: es) env = (false, eval e env) :: starEach es env := by
  cases e <;> first | rfl | exact absurd rfl (h _ _)
theorem olds_idem : ∀ ds : List D, olds (olds ds) = olds ds := by
  have h : ∀ d : D, d.old.old = d.old := by
    intro d
    induction d using D.rec (motive_2 := fun ds => olds (olds ds) = olds ds) <;> simp_all [D.old, olds]
  intro ds
  induction ds with
  | nil => rfl
  | cons d ds ih => simp [olds, h, ih]

section
variable {T : Tb} {N : List Str} {Γ : Nat → List D → R D} {A : Ad} {k : Nat} {X : Cx} {b : Bk} {W : WX} {H0 : Hp}

theorem Cok.blt (C : Cok T N Γ A k X b W) {x : Str} (h : x ∈ bltNames) : X.mg x = none := C.row.blt x h
theorem Cok.hu (C : Cok T N Γ A k X b W) : X.A.units + 65 < cLine := by have := C.room.un; omega
/-- in a block -/
theorem takesN {X : Cx} : L2N.Takes X (fun _ _ _ _ => False) := fun _ _ x => by
  obtain ⟨_, _, _, _, _, _, _, _, _, _, _, _, _, _, _, _, z⟩ := x
  exact z.elim
theorem Cok.blk (C : Cok T N Γ A k X b W) (s : Shared) (H : Hp) (scope : Scope) (Cc : Addr) (cl : List (Str × Addr)) (fp : List Addr) :
    Cok T N Γ A k (X.blk s H scope (compEnvC scope cl Cc X.env) fp) (blkOf b scope) (fun _ _ _ _ => False) :=
  ⟨C.hN, C.nd, C.calm, by
    show relabel scope X.env = relS scope b.sc
    rw [← C.sc]
    rfl, fun x h => h, C.room, takesN, C.row⟩

/-! ### what is bound -/
theorem wipe_self : ∀ (vs : List Nat) (σ : L2.St), wipe (wipe σ vs) vs = wipe σ vs := by
  intro vs σ
  apply List.ext_getElem?
  intro i
  by_cases hi : i ∈ vs
  · by_cases hl : i < σ.length
    · have f : ∀ (us : List Nat) (τ : L2.St), i ∈ us → i < τ.length → (wipe τ us)[i]? = some none := by
        intro us
        induction us with
        | nil => intro τ h; exact absurd h (by simp)
        | cons u us ih =>
          intro τ h hl
          unfold wipe
          by_cases e : u = i
          · subst e; rw [List.getElem?_set_self (by rw [wipe_length]; exact hl)]
          · rw [List.getElem?_set_ne e]
            rcases List.mem_cons.mp h with z | z
            · exact absurd z.symm e
            · exact ih τ z hl
      rw [f vs _ hi (by rw [wipe_length]; exact hl), f vs σ hi hl]
    · rw [List.getElem?_eq_none (by rw [wipe_length, wipe_length]; omega), List.getElem?_eq_none (by rw [wipe_length]; omega)]
  · have f : ∀ (us : List Nat) (τ : L2.St), i ∉ us → (wipe τ us)[i]? = τ[i]? := by
      intro us
      induction us with
      | nil => intro τ h; rfl
      | cons u us ih =>
        intro τ h
        unfold wipe
        rw [List.getElem?_set_ne (fun e => h (by rw [e]; exact List.mem_cons_self))]
        exact ih τ fun z => h (List.mem_cons_of_mem _ z)
    rw [f vs _ hi]
theorem wipe_get_in {i : Nat} : ∀ (us : List Nat) (τ : L2.St), i ∈ us → i < τ.length → (wipe τ us)[i]? = some none
  | [], τ, h, _ => absurd h (by simp)
  | u :: us, τ, h, hl => by
    unfold wipe
    by_cases e : u = i
    · subst e; rw [List.getElem?_set_self (by rw [wipe_length]; exact hl)]
    · rw [List.getElem?_set_ne e]
      rcases List.mem_cons.mp h with z | z
      · exact absurd z.symm e
      · exact wipe_get_in us τ z hl
theorem wipe_get_out {i : Nat} : ∀ (us : List Nat) (τ : L2.St), i ∉ us → (wipe τ us)[i]? = τ[i]?
  | [], _, _ => rfl
  | u :: us, τ, h => by
    unfold wipe
    rw [List.getElem?_set_ne (fun e => h (by rw [e]; exact List.mem_cons_self))]
    exact wipe_get_out us τ fun z => h (List.mem_cons_of_mem _ z)
theorem wipe_set {vs : List Nat} {i : Nat} (h : i ∈ vs) (σ : L2.St) (o : Option V) : wipe (σ.set i o) vs = wipe σ vs := by
  apply List.ext_getElem?
  intro j
  by_cases hj : j ∈ vs
  · by_cases hl : j < σ.length
    · rw [wipe_get_in vs _ hj (by simpa using hl), wipe_get_in vs _ hj hl]
    · rw [List.getElem?_eq_none (by rw [wipe_length]; simp; omega), List.getElem?_eq_none (by rw [wipe_length]; omega)]
  · rw [wipe_get_out vs _ hj, wipe_get_out vs _ hj, List.getElem?_set_ne (fun e => hj (by rw [← e]; exact h))]

/-- a target's reading, by the data: the slots that it changes are the block's -/
def tG (cl : Nat → Addr) (H0 : Hp) (own : List Nat) (t : Tg) (ρ ρ' : Rho) (d : D) : TG := fun v σ H Q => ∃ G, Rep cl H0 ρ σ G H ∧ Rp cl H0 G v d ∧ bindT t d ρ = some ρ' ∧
  ∀ σ', Rep cl H0 ρ' σ' G H → (tgIn own t = true → wipe σ' own = wipe σ own) → Q σ' H
mutual
theorem pg_ok (C : Cok T N Γ A k X b W) {cl : Nat → Addr} : ∀ (t : Tg) {tg : Expr} (h : chkT N b t tg = true) {own : List Nat} {ρ ρ' : Rho} {d : D}, PG X tg (tG cl H0 own t ρ ρ' d)
  | .nm i, tg, h, own, ρ, ρ', d => by
    cases tg <;> first | (exact (Bool.false_ne_true h).elim) | skip
    rename_i x p
    replace h : (decide (N[i]? = some x) && locB b x) = true := h
    simp only [Bool.and_eq_true, decide_eq_true_eq] at h
    obtain ⟨l1, l2⟩ := locB_ok C.sc C.fn h.2
    refine (pg_name (i := i) (by rw [C.hN]; exact C.nd) (by rw [C.hN]; exact h.1) l1 l2).imp fun v σ H Q ⟨G, rep, rp, e, q⟩ => ?_
    simp only [bindT] at e
    injection e with e
    subst e
    exact q _ (rep.setVal i rp) fun ho => wipe_set (by simpa [tgIn] using ho) _ _
  | .tp ts, tg, h, own, ρ, ρ', d => by
    cases tg <;> first | (exact (Bool.false_ne_true h).elim) | skip
    rename_i es kk p
    replace h : chkTs N b ts es = true := h
    by_cases hd : ∃ ds, d = .tup ds
    · obtain ⟨ds, rfl⟩ := hd
      obtain ⟨L, hl, hn, hst⟩ := pgs_ok C ts h (own := own) (ρ := ρ) (ρ' := ρ') (ds := ds) (cl := cl)
      refine (pg_tup C.calm L (n := es.length) hl hst).imp fun v σ H Q ⟨G, rep, rp, e, q⟩ => ?_
      cases rp with
      | @tup a xs _ h1 h2 =>
        simp only [bindT] at e
        refine ⟨a, xs, rfl, SqT.of (rep.sub _ _ h1), ?_, G, rep, h2, e, q⟩
        rw [h2.length]
        exact hn ds ρ ρ' e
    · refine ⟨fun pins s σ H v u Q I r ⟨G, rep, rp, e, q⟩ => ?_⟩
      cases d <;> first | (simp [bindT] at e; done) | exact absurd ⟨_, rfl⟩ hd
  | .nil, tg, h, _, _, _, _ => by cases tg <;> exact (Bool.false_ne_true h).elim
  | .cons _ _, tg, h, _, _, _, _ => by cases tg <;> exact (Bool.false_ne_true h).elim
theorem pgs_ok (C : Cok T N Γ A k X b W) {cl : Nat → Addr} : ∀ (t : Tg) {es : List Expr} (h : chkTs N b t es = true) {own : List Nat} {ρ ρ' : Rho} {ds : List D},
    PGs X es (fun vs σ H Q => ∃ G, Rep cl H0 ρ σ G H ∧ RpA cl H0 G vs ds ∧ bindTs t ds ρ = some ρ' ∧ ∀ σ', Rep cl H0 ρ' σ' G H → (tgIns own t = true → wipe σ' own = wipe σ own) → Q σ' H) ∧
      (assignEach es X.env).length = es.length ∧ (∀ (ds : List D) (ρ ρ' : Rho), bindTs t ds ρ = some ρ' → ds.length = es.length) ∧ (assignEach es X.env).findIdx? (·.1) = none
  | .nil, es, h, own, ρ, ρ', ds => by
    cases es with
    | cons _ _ => exact (Bool.false_ne_true h).elim
    | nil =>
      refine ⟨⟨fun pins s σ H vs us Q I r ⟨G, rep, rp, e, q⟩ => ?_⟩, rfl, fun ds ρ ρ' e => ?_, rfl⟩
      · cases ds with
        | cons _ _ => simp [bindTs] at e
        | nil =>
          cases rp
          simp only [bindTs] at e
          injection e with e; subst e
          exact pgs_nil.run pins s σ H [] us Q I r ⟨rfl, q σ rep fun _ => rfl⟩
      · cases ds with
        | cons _ _ => simp [bindTs] at e
        | nil => rfl
  | .cons t ts, es, h, own, ρ, ρ', ds => by
    cases es with
    | nil => exact (Bool.false_ne_true h).elim
    | cons e es =>
      replace h : (chkT N b t e && chkTs N b ts es) = true := h
      simp only [Bool.and_eq_true] at h
      have ns : ∀ x p, e ≠ .Starred x p := fun x p z => by
        subst z
        cases t <;> exact (Bool.false_ne_true h.1).elim
      have hs : (assignEach (e :: es) X.env) = (false, assign e X.env) :: assignEach es X.env := by
        cases e <;> first | rfl | exact absurd rfl (ns _ _)
      have any2 := pgs_ok C ts h.2 (own := own) (ρ := ρ) (ρ' := ρ') (ds := []) (cl := cl)
      refine ⟨⟨fun pins s σ H vs us Q I r ⟨G, rep, rp, eb, q⟩ => ?_⟩, by rw [hs]; simp [any2.2.1], fun ds ρ ρ' eb => ?_, by rw [hs, List.findIdx?_cons]; simp [any2.2.2.2]⟩
      · cases ds with
        | nil => simp [bindTs] at eb
        | cons d ds =>
          cases rp with
          | @cons v vs _ _ r1 r2 =>
            simp only [bindTs] at eb
            cases e1 : bindT t d ρ with
            | none => rw [e1] at eb; cases eb
            | some ρ1 =>
              rw [e1] at eb
              have p1 := pg_ok C t h.1 (own := own) (ρ := ρ) (ρ' := ρ1) (d := d) (cl := cl)
              have p2 := (pgs_ok C ts h.2 (own := own) (ρ := ρ1) (ρ' := ρ') (ds := ds) (cl := cl)).1
              refine (pgs_cons p1 p2 (by rw [hs]; rfl)).run pins s σ H _ us Q I r ⟨v, vs, rfl, G, rep, r1, e1, fun σ1 rep1 w1 => ⟨G, rep1, r2, eb, fun σ2 rep2 w2 => q σ2 rep2 fun ho => ?_⟩⟩
              simp only [tgIns, Bool.and_eq_true] at ho
              rw [w2 ho.2, w1 ho.1]
      · cases ds with
        | nil => simp [bindTs] at eb
        | cons d ds =>
          simp only [bindTs] at eb
          cases e1 : bindT t d ρ with
          | none => rw [e1] at eb; cases eb
          | some ρ1 =>
            rw [e1] at eb
            simp [any2.2.2.1 ds ρ1 ρ' eb]
  | .nm _, es, h, _, _, _, _ => by cases es <;> exact (Bool.false_ne_true h).elim
  | .tp _, es, h, _, _, _, _ => by cases es <;> exact (Bool.false_ne_true h).elim
end
end
end Wt
/-! ## set(a list of numbers): as the library has it of a tuple -/
namespace Wt
open PySem PySem.Spec PyProof.Rows L2
/-- the set that set() makes first -/
abbrev set0 (w : World) : Obj := { cls := .type "set", dict := none, data := .set #[] 0 (.fresh 0 0 (!w.params.followText "set-order")) }
section
variable {P : Program} {w : World} {A : Around} {E : Value → Shared → Prop} {s : Shared}
theorem set_ints {l : Addr} {arr : Array Value} (zs : List Int) {Q : Value → Shared → Prop} (hNo : A.handled = none) (hLst : s.heap.IsList l arr) (hInt : IntsAre arr.toList zs) (hBd : zs.length + 1 < scanBound)
    (h : ∀ (h' : Heap) (tk c : Nat), SetR w h' s.heap.objs.size (fun j => decide (j ∈ zs)) c → c ≤ zs.length → (∀ b o, s.heap.get? b = some o → h'.get? b = some o) → Q (.ref s.heap.objs.size) { s with heap := h', toks := tk }) :
    wpAny (model P w) A (call (.type "set") [.ref l]) Q E s := by
  have hArr : arr.size = zs.length := by
    have q := IntsAre.length hInt
    rw [Array.length_toList] at q
    exact q
  obtain ⟨c, tl, hMro⟩ := F.called_set.mro
  have hMade := F.called_set.made
  have hSub := F.called_set.sub
  refine wpAny_call (codeAny_of_tree ?_)
  show wpAny _ _ (callAny (.type "set") _) _ _ _
  refine wpAny_pure ⟨Code.quiet_builtin _ (by decide +kernel), codeAny_builtin F.entry_type_call ?_⟩
  rw [Around.under_plain (weight_type_call_type "set" [.ref l] []) rfl]
  have h1 := F.called_set.notType
  have h2 := F.called_set.canCreate
  have hTy := F.typeCall_set_1 (.ref l)
  repeat (any_goals (first | assumption | wp_step))

  refine codeAny_mono (code_set_led1 (.ref l) (E := E) (Q₁ := fun obj s₁ => obj = .ref s.heap.objs.size ∧ s₁ = { s with heap := s.heap.push (set0 w) }) ⟨rfl, rfl⟩) fun r s₁ hr => ?_
  cases r with
  | error e => exact hr
  | ok fl =>
    cases fl with
    | ret obj =>
      obtain ⟨rfl, rfl⟩ := hr
      have hEmp : (s.heap.push (set0 w)).get? s.heap.objs.size = some (set0 w) := Heap.get?_push_size _ rfl
      have hKind : Shared.TypeIs { s with heap := s.heap.push (set0 w) } (.ref s.heap.objs.size) "set" := ⟨_, hEmp, rfl⟩
      have hIni := F.called_set.init.lookup
      have hBin := F.called_set.init.bind (.ref s.heap.objs.size)
      repeat (any_goals (first | assumption | wp_step))

      refine codeAny_mono (codeAny_call_builtin (R := wants (fun r s₂ => r = .none ∧ ∃ h' tk c, s₂ = { s with heap := h', toks := tk } ∧ SetR w h' s.heap.objs.size (fun j => decide (j ∈ zs)) c ∧ c ≤ zs.length ∧
          (∀ b o, s.heap.get? b = some o → h'.get? b = some o)) E) F.called_set.init.plain F.entry_set_init (check_set_init_1 hKind ?_)) fun r₂ s₂ hr₂ => ?_
      · obtain ⟨ol, hol, hcl, nl, hdl⟩ := hLst
        obtain ⟨ocls, odict, odata, oslots⟩ := ol
        simp only at hcl hdl
        subst hcl; subst hdl
        have hol' : (s.heap.push (set0 w)).get? l = some { cls := .type "list", dict := odict, data := .seq arr nl, slots := oslots } := Heap.get?_push_of_some _ hol
        have hsls := F.sub_list_set
        have hslf := F.sub_list_frozenset
        have hne : (Value.type "list" == Value.type "dict") = false := by decide
        have hl1 : (s.heap.push (set0 w)).IsList l arr := ⟨_, hol', rfl, nl, rfl⟩
        unfold Builtin.«set.__init__» noKeywords Builtin.Frozenset.updateFrom
        generalize hPI : pyIter = PI
        wp_walk
        subst hPI

        refine wpAny_pyIter_list hl1 ?_
        refine wpAny_bind (wpAny_runValue ?_)
        have hLow : l < s.heap.objs.size := Heap.lt_size hol
        have hNo3 : A.in1.in1.in1.handled = none := by simp [hNo]
        have hUp : (s.heap.push (set0 w)).objs.size = s.heap.objs.size + 1 := Heap.size_push ..
        have hApart : l ≠ (s.heap.push (set0 w)).objs.size := by
          rw [Heap.size_push]; exact Nat.ne_of_lt (Nat.lt_succ_of_lt hLow)
        have hOff : s.heap.objs.size ∉ [(s.heap.push (set0 w)).objs.size, l] := by
          rw [Heap.size_push]; simp only [List.mem_cons, List.mem_singleton, List.not_mem_nil, or_false, not_or]
          exact ⟨Nat.ne_of_lt (Nat.lt_succ_self _), Nat.ne_of_gt hLow⟩
        have hAt : ∀ (i : Nat) (v : Value), arr[i]? = some v → ∃ k t, zs[i]? = some k ∧ v = .int k t := fun i v hv => by
          have hi : i < zs.length := by rw [← hArr]; exact (Array.getElem?_eq_some_iff.mp hv).1
          obtain ⟨t, e⟩ := PyProof.Rows.IntsAre.int_at hInt i v (by rw [Array.getElem?_toList]; exact hv)
          refine ⟨zs[i], t, List.getElem?_eq_getElem hi, ?_⟩
          rw [e, List.getD_eq_getElem?_getD, List.getElem?_eq_getElem hi] <;> rfl
        refine set_update_ints ((Walks.list hNo3 _ l hApart arr).toS) s.heap.objs.size
          hOff zs hArr hBd hAt (arr.size - 0) 0 _ (by omega) (Nat.zero_le _)
          ⟨⟨_, Heap.get?_push_size _ rfl, rfl, rfl⟩, (hl1.push _)⟩ ?hS0 ?hR
        case hS0 =>
          have hSet : ((s.heap.push (set0 w)).push { cls := .type "list_iterator", data := .fields #[.ref l, .int 0 0] }).get? s.heap.objs.size
              = some (set0 w) := Heap.get?_push_of_some _ hEmp
          exact ⟨0, Nat.le_refl 0, setR_new_at hSet⟩
        case hR =>
          intro s' c' hm hc' hEmp'
          obtain ⟨h', g2, d', tk', os'⟩ := s'
          have eg : g2 = s.gens := hm.gens
          have ed : d' = s.drawn := hm.drawn
          have eo : os' = s.os := hm.os
          subst eg; subst ed; subst eo
          show wpAny _ _ _ _ _ _
          refine wpAny_pure ?_
          show wpAny _ _ (ret Value.none) _ _ _
          rw [hArr] at hc'
          refine wpAny_pure ⟨rfl, h', tk', c', rfl, hEmp', hc', fun b o e => ?_⟩
          have hb0 : b < s.heap.objs.size := Heap.lt_size e
          have hb1 : b ≠ s.heap.objs.size := Nat.ne_of_lt hb0
          have hb2 : b ≠ (s.heap.push (set0 w)).objs.size := by
            rw [Heap.size_push]; exact Nat.ne_of_lt (Nat.lt_succ_of_lt hb0)
          exact hm.heap b o (by simp only [List.mem_cons, List.mem_singleton, List.not_mem_nil, or_false, not_or]; exact ⟨hb1, hb2⟩) (Heap.get?_push_of_some _ (Heap.get?_push_of_some _ e))

      · cases r₂ with
        | error e => exact hr₂
        | ok fl₂ =>
          cases fl₂ with
          | ret r =>
            obtain ⟨rfl, h', tk, c', rfl, hEmp', hc', hk'⟩ := hr₂
            repeat (any_goals (first | assumption | wp_step))
            exact h _ _ _ hEmp' hc' hk'
          | _ => exact hr₂.elim
    | _ => exact hr.elim

end
end Wt
/-! ## len(set(xs)), sorted(set(xs)), xs a list of numbers -/
namespace Wt
open PySem PySem.Spec PyProof.Rows L2
theorem mem_ddI {x : Int} : ∀ {l : List Int}, x ∈ ddI l ↔ x ∈ l
  | [] => Iff.rfl
  | y :: r => by
    unfold ddI
    split
    · rename_i h
      rw [mem_ddI, List.mem_cons]
      exact ⟨.inr, fun z => z.elim (fun e => e ▸ h) id⟩
    · rw [List.mem_cons, List.mem_cons, mem_ddI]
theorem nodup_ddI : ∀ l : List Int, (ddI l).Nodup
  | [] => .nil
  | y :: r => by
    unfold ddI
    split
    · exact nodup_ddI r
    · rename_i h
      exact List.nodup_cons.mpr ⟨fun z => h (mem_ddI.mp z), nodup_ddI r⟩
theorem len_same {a b : List Int} (ha : a.Nodup) (hb : b.Nodup) (h : ∀ x, x ∈ a ↔ x ∈ b) : a.length = b.length := ((List.perm_ext_iff_of_nodup ha hb).mpr h).length_eq
section
variable {X : Cx}
def rSetInts (K : PySem.W.Frag) (w : World) : List V → Hp → VK → Prop := fun xs H Q => ∃ (l : Addr) (ns : List Int), xs = [V.ref l] ∧ SqL K H l (ns.map V.int) ∧ ns.length < 4000 ∧ ∀ a, H a = none → Q (.ref a) (upd H a (SetO w a (fun j => decide (j ∈ ns)) (ddI ns).length))
theorem cr_setInts (hc : X.calm = true) : CallR X (.type "set") (rSetInts X.K X.w) := by
  intro pins s σ H xs us Q I r h
  obtain ⟨l, ns, rfl, hq, hz, q⟩ := h
  obtain ⟨its, rv, pl, _⟩ := I.list hq
  rw [Vals.ref1 r]
  refine set_ints (I.ok.hd hc) pl.isList (zs := ns) (by simpa using rv.ints) (by unfold scanBound; omega) fun h' tk c hS hcl hk => ?_
  have hcount : c = (ddI ns).length := by
    have ⟨o, es, ep, t, ho, hex, hd, g, nd, hm, hb, hf, hn, hr, hl⟩ := hS
    rw [← hn, ← Array.length_toList, ← List.length_map (f := keyOf) (as := es.toList)]
    exact len_same nd (nodup_ddI ns) fun x => by rw [mem_ddI, ← hm x]; simp
  subst hcount
  exact ⟨.ref _, upd H s.heap.objs.size _, I.laid (t' := tk) hk (Nat.le_refl _) (setO_new hS), rfl, q _ (I.hok.fresh (Nat.le_refl _))⟩
theorem mem_sortI {x : Int} {l : List Int} : x ∈ sortI l ↔ x ∈ l := by
  unfold sortI
  rw [(List.mergeSort_perm _ _).mem_iff, mem_ddI]
theorem rise_sortI (l : List Int) : (sortI l).Pairwise (· < ·) := by
  have h1 : (sortI l).Pairwise (fun a b => decide (a ≤ b) = true) := List.pairwise_mergeSort (fun a b c h k => by simp at *; omega) (fun a b => by simp; omega) _
  have h2 : (sortI l).Nodup := (List.mergeSort_perm _ _).nodup_iff.mpr (nodup_ddI l)
  exact (h1.and h2).imp fun ⟨a, b⟩ => by simp at a; omega
theorem rise_uniq : ∀ {a b : List Int}, a.Pairwise (· < ·) → b.Pairwise (· < ·) → (∀ x, x ∈ a ↔ x ∈ b) → a = b
  | [], [], _, _, _ => rfl
  | [], y :: b, _, _, h => by have := (h y).mpr List.mem_cons_self; simp at this
  | x :: a, [], _, _, h => by have := (h x).mp List.mem_cons_self; simp at this
  | x :: a, y :: b, ha, hb, h => by
    rw [List.pairwise_cons] at ha hb
    have e : x = y := by
      rcases List.mem_cons.mp ((h x).mp List.mem_cons_self) with h1 | h1
      · exact h1
      · rcases List.mem_cons.mp ((h y).mpr List.mem_cons_self) with h2 | h2
        · exact h2.symm
        · have := hb.1 x h1; have := ha.1 y h2; omega
    subst e
    congr 1
    refine rise_uniq ha.2 hb.2 fun z => ⟨fun hz => ?_, fun hz => ?_⟩
    · rcases List.mem_cons.mp ((h z).mp (List.mem_cons_of_mem _ hz)) with e | e
      · subst e; have := ha.1 z hz; omega
      · exact e
    · rcases List.mem_cons.mp ((h z).mpr (List.mem_cons_of_mem _ hz)) with e | e
      · subst e; have := hb.1 z hz; omega
      · exact e
theorem ddI_len (l : List Int) : (ddI l).length ≤ l.length := (nodup_ddI l).length_le_of_subset fun x h => mem_ddI.mp h
theorem call_lenSet : CallR X (.builtin "len") (fun xs H Q => ∃ (a : Addr) (S : Int → Bool) (n : Nat), xs = [V.ref a] ∧ H a = some (SetO X.w a S n) ∧ n < 4000 ∧ Q (.int (n : Nat)) H) := by
  intro pins s σ H xs us Q I r h
  obtain ⟨a, S, n, rfl, ha, hz, q⟩ := h
  rw [Vals.ref1 r]
  obtain ⟨o, es, ep, t, ho, hex, hd, g, nd, hm, hb, hf, hn, hr, hl⟩ := setO_get I ha
  exact call_len_set ho hex hd hf (by rw [hn]; omega) ⟨.int (n : Nat), H, I.tok _, ⟨_, by rw [hn]⟩, q⟩
/-- what is asked of xs in len(set(xs)), sorted(set(xs)) -/
def tSets (K : PySem.W.Frag) (o : Bool) (ta : TE) : TE := fun σ H Q => ta σ H fun x H1 => ∃ (l : Addr) (ns : List Int), x = .ref l ∧ SqL K H1 l (ns.map V.int) ∧ ns.length < 60 ∧
  if o = true then ∀ a p, H1 a = none → p ≠ a → H1 p = none → Q (.ref p) (upd (upd H1 a (SetO X.w a (fun j => decide (j ∈ ns)) (ddI ns).length)) p (.lst ((sortI ns).map V.int)))
  else ∀ a, H1 a = none → Q (.int (ddI ns).length) (upd H1 a (SetO X.w a (fun j => decide (j ∈ ns)) (ddI ns).length))
theorem pe_sets {o : Bool} {e : Expr} {ta : TE} {p p2 pos2 pos : Pos} (hc : X.calm = true) (hg : Gl X (setNm o)) (hm1 : X.mg "sorted" = none) (hm2 : X.mg "len" = none) (hg2 : Gl X "set") (hm : X.mg "set" = none) (ha : PE X e ta) (st : starEach [e] X.env = (false, eval e X.env) :: starEach [] X.env) (hmono : ∀ σ H (Q Q' : VK), ta σ H Q → (∀ v H', Q v H' → Q' v H') → ta σ H Q') :
    PE X (.Call (.Name (setNm o) p) [.Call (.Name "set" p2) [e] [] pos2] [] pos) (tSets (X := X) X.K o ta) := by
  have ps := pe_callTy (X := X) (p := p2) (pos := pos2) (cr_setInts hc) hg2 hm (show bootBuiltins "set" = some (.type "set") by decide +kernel) (pa_cons ha pa_nil st) (by decide) (by decide) st rfl
  cases o with
  | true =>
    refine ⟨fun pins s σ H Q I q => (pe_callB (X := X) (p := p) (pos := pos) (cr_sortedSet hc) hg hm1 (show bootBuiltins "sorted" = some (.builtin "sorted") by decide +kernel) (pa_cons ps pa_nil) (by decide) (by decide) rfl rfl).run pins s σ H Q I ?_⟩
    exact hmono σ H _ _ q fun x H1 ⟨l, ns, e, hq, hz, k⟩ => by
      rw [if_pos rfl] at k
      refine ⟨l, ns, by rw [e], hq, by omega, fun a na => ⟨a, _, _, rfl, upd_same, Nat.lt_of_le_of_lt (ddI_len ns) (by omega), fun ms p h1 h2 h3 np => ?_⟩⟩
      have em : ms = sortI ns := rise_uniq h1 (rise_sortI ns) fun x => by rw [h2, mem_sortI]; simp
      subst em
      have pa : p ≠ a := fun z => by subst z; rw [upd_same] at np; cases np
      exact k a p na pa (by rw [upd_ne pa] at np; exact np)
  | false =>
    refine ⟨fun pins s σ H Q I q => (pe_callB (X := X) (p := p) (pos := pos) call_lenSet hg hm2 PySem.boot_len (pa_cons ps pa_nil) (by decide) (by decide) rfl rfl).run pins s σ H Q I ?_⟩
    exact hmono σ H _ _ q fun x H1 ⟨l, ns, e, hq, hz, k⟩ => by
      rw [if_neg Bool.false_ne_true] at k
      exact ⟨l, ns, by rw [e], hq, by omega, fun a na => ⟨a, _, _, rfl, upd_same, Nat.lt_of_le_of_lt (ddI_len ns) (by omega), k a na⟩⟩
end
end Wt
/-! ## One operation at a time -/
namespace Wt
open PySem PySem.Spec PyProof.Rows L2
section
variable {cl xa : Nat → Addr} {H0 : Hp} {W : WX} {G H G1 H1 : Hp} {σ : L2.St} {top top' : Bool} {Q : VK} {α β : Type}
theorem u_VV {r : R D} {f : D → R D} {K : VK} (h : Fin cl xa H0 W G H σ top Q (r.bind f)) (k : ∀ x v G1 H1, r = .ok x → Gr G H G1 H1 → Rp cl H0 G1 v x → Fin cl xa H0 W G1 H1 σ top Q (f x) → K v H1) : Fin cl xa H0 W G H σ top' K r :=
  use1 (Z := fun G H r => Fin cl xa H0 W G H σ top Q r) (fun _ h => h) id Fin.mono h k
theorem u_VX {r : R D} {f : D → R β} {K : VK} {Qb : β → Hp → Prop} (h : FinX xa W G H σ Qb (r.bind f)) (k : ∀ x v G1 H1, r = .ok x → Gr G H G1 H1 → Rp cl H0 G1 v x → FinX xa W G1 H1 σ Qb (f x) → K v H1) : Fin cl xa H0 W G H σ top' K r :=
  use1 (Z := fun G H r => FinX xa W G H σ Qb r) (fun _ h => h) id FinX.mono h k
theorem u_VI {r : R D} {f : D → R (List D)} {K : VK} {Qi : It → Hp → Prop} (h : FinI cl xa H0 W G H σ Qi (r.bind f)) (k : ∀ x v G1 H1, r = .ok x → Gr G H G1 H1 → Rp cl H0 G1 v x → FinI cl xa H0 W G1 H1 σ Qi (f x) → K v H1) : Fin cl xa H0 W G H σ top' K r :=
  use1 (Z := fun G H r => FinI cl xa H0 W G H σ Qi r) (fun _ h => h) id FinI.mono h k
theorem u_VA {r : R D} {f : D → R (List D)} {K : VK} {Qi : List V → Hp → Prop} (h : FinA cl xa H0 W G H σ Qi (r.bind f)) (k : ∀ x v G1 H1, r = .ok x → Gr G H G1 H1 → Rp cl H0 G1 v x → FinA cl xa H0 W G1 H1 σ Qi (f x) → K v H1) : Fin cl xa H0 W G H σ top' K r :=
  use1 (Z := fun G H r => FinA cl xa H0 W G H σ Qi r) (fun _ h => h) id FinA.mono h k
theorem u_AV {r : R (List D)} {f : List D → R D} {K : List V → Hp → Prop} (h : Fin cl xa H0 W G H σ top Q (r.bind f)) (k : ∀ x v G1 H1, r = .ok x → Gr G H G1 H1 → RpA cl H0 G1 v x → Fin cl xa H0 W G1 H1 σ top Q (f x) → K v H1) : FinA cl xa H0 W G H σ K r :=
  use1A (Z := fun G H r => Fin cl xa H0 W G H σ top Q r) (fun _ h => h) id Fin.mono h k
theorem u_AA {r : R (List D)} {f : List D → R (List D)} {K : List V → Hp → Prop} {Qi : List V → Hp → Prop} (h : FinA cl xa H0 W G H σ Qi (r.bind f)) (k : ∀ x v G1 H1, r = .ok x → Gr G H G1 H1 → RpA cl H0 G1 v x → FinA cl xa H0 W G1 H1 σ Qi (f x) → K v H1) : FinA cl xa H0 W G H σ K r :=
  use1A (Z := fun G H r => FinA cl xa H0 W G H σ Qi r) (fun _ h => h) id FinA.mono h k
theorem u_AI {r : R (List D)} {f : List D → R (List D)} {K : List V → Hp → Prop} {Qi : It → Hp → Prop} (h : FinI cl xa H0 W G H σ Qi (r.bind f)) (k : ∀ x v G1 H1, r = .ok x → Gr G H G1 H1 → RpA cl H0 G1 v x → FinI cl xa H0 W G1 H1 σ Qi (f x) → K v H1) : FinA cl xa H0 W G H σ K r :=
  use1A (Z := fun G H r => FinI cl xa H0 W G H σ Qi r) (fun _ h => h) id FinI.mono h k
theorem u_AX {r : R (List D)} {f : List D → R β} {K : List V → Hp → Prop} {Qb : β → Hp → Prop} (h : FinX xa W G H σ Qb (r.bind f)) (k : ∀ x v G1 H1, r = .ok x → Gr G H G1 H1 → RpA cl H0 G1 v x → FinX xa W G1 H1 σ Qb (f x) → K v H1) : FinA cl xa H0 W G H σ K r :=
  use1A (Z := fun G H r => FinX xa W G H σ Qb r) (fun _ h => h) id FinX.mono h k
theorem u_XV {r : R α} {f : α → R D} {K : α → Hp → Prop} (h : Fin cl xa H0 W G H σ top Q (r.bind f)) (k : ∀ x G1 H1, r = .ok x → Gr G H G1 H1 → Fin cl xa H0 W G1 H1 σ top Q (f x) → K x H1) : FinX xa W G H σ K r :=
  use1X (Z := fun G H r => Fin cl xa H0 W G H σ top Q r) (fun _ h => h) id Fin.mono h k
theorem u_XX {r : R α} {f : α → R β} {K : α → Hp → Prop} {Qb : β → Hp → Prop} (h : FinX xa W G H σ Qb (r.bind f)) (k : ∀ x G1 H1, r = .ok x → Gr G H G1 H1 → FinX xa W G1 H1 σ Qb (f x) → K x H1) : FinX xa W G H σ K r :=
  use1X (Z := fun G H r => FinX xa W G H σ Qb r) (fun _ h => h) id FinX.mono h k
theorem bind_assoc {α β γ : Type} (r : R α) (f : α → R β) (g : β → R γ) : (r.bind f).bind g = r.bind fun x => (f x).bind g := by cases r <;> rfl
theorem fin_bl {r : R Bool} {K : VK} (h : FinX xa W G H σ (fun t H' => K (.bl t) H') r) : Fin cl xa H0 W G H σ top K (r.bind fun b => .ok (.bl b)) := by
  cases r with
  | ok b =>
    intro v G' H' g r' _
    cases r'
    exact h G' H' g
  | exc c => exact h
  | bad => exact h
theorem bl_fin {r : R Bool} {K : VK} (h : Fin cl xa H0 W G H σ top K (r.bind fun b => .ok (.bl b))) : FinX xa W G H σ (fun t H' => K (.bl t) H') r := by
  cases r with
  | ok b =>
    intro G' H' g
    exact h (.bl b) G' H' g (.bl b) fun _ _ z => nomatch z
  | exc c => exact h
  | bad => exact h
end
/-! no operation raises -/
theorem mkL_ne {ds : List D} {c : Nat} : mkL ds ≠ .exc c := by unfold mkL; split <;> (intro z; cases z)
theorem opD_ne {o : Op} {x y : D} {c : Nat} : opD o x y ≠ .exc c := by
  unfold opD
  split <;> first | exact mkL_ne | (intro z; cases z; done) | (split <;> (intro z; cases z))
theorem eqD_ne {x y : D} {c : Nat} : eqD x y ≠ .exc c := by unfold eqD; split <;> (intro z; cases z)
theorem inD_ne {x y : D} {c : Nat} : inD x y ≠ .exc c := by
  unfold inD
  split <;> first | (intro z; cases z; done) | (split <;> (intro z; cases z))
theorem neg_ne {r : R Bool} {c : Nat} (h : r ≠ .exc c) : neg r ≠ .exc c := by
  cases r with
  | ok b => exact fun z => nomatch z
  | exc d => exact fun z => h (by injection z with z; rw [z])
  | bad => exact fun z => nomatch z
theorem cmpD_ne {o : Cm} {x y : D} {c : Nat} : cmpD o x y ≠ .exc c := by
  unfold cmpD
  split <;> first | exact eqD_ne | exact neg_ne eqD_ne | exact inD_ne | exact neg_ne inD_ne | (intro z; cases z; done)
theorem negD_ne {x : D} {c : Nat} : negD x ≠ .exc c := by unfold negD; split <;> (intro z; cases z)
theorem rangeD_ne {x : List D} {c : Nat} : rangeD x ≠ .exc c := by
  unfold rangeD
  split <;> first | (intro z; cases z; done) | (split <;> (intro z; cases z))
theorem itemsD_ne {x : D} {c : Nat} : itemsD x ≠ .exc c := by unfold itemsD; split <;> (intro z; cases z)
theorem lstD_ne {x : D} {c : Nat} : lstD x ≠ .exc c := by unfold lstD; split <;> (intro z; cases z)
theorem idxD_ne {x y : D} {c : Nat} : idxD x y ≠ .exc c := by
  unfold idxD
  split <;> first | (intro z; cases z; done) | (split <;> (intro z; cases z))
theorem sliD_ne {s : Stp} {x : D} {l h : Option Int} {c : Nat} : sliD s x l h ≠ .exc c := by unfold sliD; split <;> (intro z; cases z)
theorem isiD_ne {x : D} {t : Ty} {c : Nat} : isiD x t ≠ .exc c := by unfold isiD; split <;> (intro z; cases z)
theorem sortedD_ne {ds : List D} {c : Nat} : sortedD ds ≠ .exc c := by unfold sortedD; split <;> first | (intro z; cases z; done) | (split <;> first | (intro z; cases z; done) | (split <;> (intro z; cases z)))
theorem indexD_ne {x y : D} {c : Nat} : indexD x y ≠ .exc c := by unfold indexD; split <;> first | (intro z; cases z; done) | (split <;> first | (intro z; cases z; done) | (split <;> (intro z; cases z)))
theorem bind_ne {α β : Type} {r : R α} {f : α → R β} {c : Nat} (h1 : r ≠ .exc c) (h2 : ∀ a, f a ≠ .exc c) : r.bind f ≠ .exc c := by
  cases r with
  | ok a => exact h2 a
  | exc d => exact fun z => h1 (by have z : R.exc d = (R.exc c : R β) := z; injection z with z; rw [z])
  | bad => exact fun z => nomatch z
theorem biD_ne {o : Bi} {x : List D} {c : Nat} : biD o x ≠ .exc c := by
  unfold biD
  split <;> first | exact sortedD_ne | exact mkL_ne | (intro z; cases z; done) | (split <;> (intro z; cases z))
theorem biD_atom {o : Bi} {x : List D} {d : D} (h : o.atom = true) (e : biD o x = .ok d) : isAtom d := by
  unfold biD at e
  split at e <;> first | (exact absurd h (by decide)) | (injection e with e; subst e; trivial) | (split at e <;> first | (injection e with e; subst e; trivial) | cases e) | cases e

/-! ### the operations as rules -/
section
variable {X : Cx} {cl : Nat → Addr} {H0 : Hp}
def rD (cl : Nat → Addr) (H0 : Hp) (g : D → D → R D) : R2 := fun x y H Q => ∃ G a b c, Same G H ∧ Same H0 H ∧ Rp cl H0 G x a ∧ Rp cl H0 G y b ∧ g a b = .ok c ∧ ∀ z G' H', Gr G H G' H' → Rp cl H0 G' z c → NewV H z c → Q z H'
theorem opR_of {f : Value → Value → Sem Value} {g : D → D → R D} (h : OpD X cl H0 f g) : OpR X f (rD cl H0 g) := by
  intro pins s σ H x y v u Q I rx ry ⟨G, a, b, c, sg, s0, ra, rb, e, q⟩
  exact h pins s σ G H x y v u a b c Q I sg s0 rx ry ra rb e q
def rC (cl : Nat → Addr) (H0 : Hp) (g : List D → R D) : List V → Hp → VK → Prop := fun xs H Q => ∃ G ds c, Same G H ∧ Same H0 H ∧ RpA cl H0 G xs ds ∧ g ds = .ok c ∧ ∀ z G' H', Gr G H G' H' → Rp cl H0 G' z c → NewV H z c → Q z H'
theorem callR_of {f : Value} {g : List D → R D} (h : CaD X cl H0 f g) : CallR X f (rC cl H0 g) := by
  intro pins s σ H xs us Q I r ⟨G, ds, c, sg, s0, ra, e, q⟩
  exact h pins s σ G H xs us ds c Q I sg s0 r ra e q
/-- an item of a list that is read where it stands: on the ground, or a list of one's own -/
def RpB (cl : Nat → Addr) (H0 G H : Hp) (v : V) (d : D) : Prop := Rp cl H0 G v d ∨ ∃ p xs ds, d = .lst true ds ∧ v = .ref p ∧ H p = some (.lst xs) ∧ RpA cl H0 G xs ds
def FinB (xa : Nat → Addr) (W : WX) (cl : Nat → Addr) (H0 : Hp) (G H : Hp) (σ : L2.St) (Q : VK) : R D → Prop
  | .ok d => ∀ v G' H', Gr G H G' H' → RpB cl H0 G' H' v d → Q v H'
  | .exc c => ∀ H', Same H H' → W (.ref (xa c)) none σ H'
  | .bad => False
def tBs (cl xa : Nat → Addr) (H0 : Hp) (W : WX) (ρ : Rho) (r : R D) : TE := fun σ H Q => ∃ G, Rep cl H0 ρ σ G H ∧ FinB xa W cl H0 G H σ Q r
theorem RpB.item {G H : Hp} {v : V} {c d : D} {i : Int} (s : Same G H) (h : RpB cl H0 G H v c) (e : idxD c (.int i) = .ok d) : ∃ p xs w, v = .ref p ∧ (H p = some (.lst xs) ∨ H p = some (.tup xs)) ∧ atI xs i = some w ∧ Rp cl H0 G w d := by
  have at_ : ∀ {xs : List V} {ds : List D} {d : D}, RpA cl H0 G xs ds → atI ds i = some d → ∃ w, atI xs i = some w ∧ Rp cl H0 G w d := fun {xs ds d} r e => by
    unfold atI at e ⊢
    rw [r.length]
    cases q : L2.ixN ds.length i with
    | none => rw [q] at e; cases e
    | some j =>
      rw [q] at e
      exact r.get e
  have one : ∀ {xs : List D}, (match atI xs i with | some d => R.ok d | none => R.bad) = R.ok d → atI xs i = some d := fun {xs} e => by
    split at e
    · rename_i d' h'
      injection e with e
      rw [h', e]
    · cases e
  rcases h with h | ⟨p, xs, ds, rfl, rfl, h1, h2⟩
  · cases c <;> first | (cases e; done) | skip
    · cases h with
      | tup h1 h2 =>
        obtain ⟨w, e1, e2⟩ := at_ h2 (one e)
        exact ⟨_, _, w, rfl, .inr (s _ _ h1), e1, e2⟩
    · cases h with
      | lst h1 _ h2 =>
        obtain ⟨w, e1, e2⟩ := at_ h2 (one e)
        exact ⟨_, _, w, rfl, .inl (s _ _ h1), e1, e2⟩
  · obtain ⟨w, e1, e2⟩ := at_ h2 (one e)
    exact ⟨_, _, w, rfl, .inl h1, e1, e2⟩
theorem cut_rp {G : Hp} {xs : List V} {ds : List D} (r : RpA cl H0 G xs ds) (lo hi : Option Int) : RpA cl H0 G (cutV xs lo hi) (cutD ds lo hi) := by
  unfold cutV cutD
  rw [r.length]
  exact (r.drop _).take _
theorem scr_rp {G : Hp} : ∀ ns : List Int, RpA cl H0 G (ns.map V.int) (ns.map D.int)
  | [] => .nil
  | n :: ns => .cons (.int n) (scr_rp ns)
end
end Wt
/-! ## A tree computes what `ev` says -/
namespace Wt
open PySem PySem.Spec PyProof.Rows L2
section
variable {T : Tb} {N : List Str} {Γ : Nat → List D → R D} {A : Ad} {k : Nat} {H0 : Hp}

theorem notStar {b : Bk} {a : E} {ex : Expr} (h : chk T N b a ex = true) : ∀ x p, ex ≠ .Starred x p := fun x p z => by subst z; exact chk_star h
theorem notSet_of {b : Bk} {a : E} {ex : Expr} {op : CmpOp} (h : chk T N b a ex = true) : behindInMarks op ex = false := by
  cases ex <;> first | rfl | exact (chk_set h).elim
theorem stars_ok {b : Bk} {env : Env} : ∀ (e : E) {es : List Expr}, chks T N b e es = true → starEach es env = es.map (fun e => (false, eval e env))
  | .nil, es, h => by
    cases es with
    | nil => rfl
    | cons _ _ => exact (Bool.false_ne_true h).elim
  | .cons a as, es, h => by
    cases es with
    | nil => exact (Bool.false_ne_true h).elim
    | cons e es =>
      replace h : (chk T N b a e && chks T N b as es) = true := h
      simp only [Bool.and_eq_true] at h
      rw [star_cons (notStar h.1), stars_ok as h.2]
      rfl
  | .var _, es, h => by cases es <;> exact (Bool.false_ne_true h).elim
  | .int _, es, h => by cases es <;> exact (Bool.false_ne_true h).elim
  | .bl _, es, h => by cases es <;> exact (Bool.false_ne_true h).elim
  | .non, es, h => by cases es <;> exact (Bool.false_ne_true h).elim
  | .str _, es, h => by cases es <;> exact (Bool.false_ne_true h).elim
  | .glob _ _, es, h => by cases es <;> exact (Bool.false_ne_true h).elim
  | .bin _ _ _, es, h => by cases es <;> exact (Bool.false_ne_true h).elim
  | .neg _, es, h => by cases es <;> exact (Bool.false_ne_true h).elim
  | .cmp _ _, es, h => by cases es <;> exact (Bool.false_ne_true h).elim
  | .ccons _ _ _, es, h => by cases es <;> exact (Bool.false_ne_true h).elim
  | .cnil, es, h => by cases es <;> exact (Bool.false_ne_true h).elim
  | .and _, es, h => by cases es <;> exact (Bool.false_ne_true h).elim
  | .or _, es, h => by cases es <;> exact (Bool.false_ne_true h).elim
  | .not _, es, h => by cases es <;> exact (Bool.false_ne_true h).elim
  | .ite _ _ _, es, h => by cases es <;> exact (Bool.false_ne_true h).elim
  | .idx _ _, es, h => by cases es <;> exact (Bool.false_ne_true h).elim
  | .sli _ _ _ _, es, h => by cases es <;> exact (Bool.false_ne_true h).elim
  | .tup _, es, h => by cases es <;> exact (Bool.false_ne_true h).elim
  | .lst _, es, h => by cases es <;> exact (Bool.false_ne_true h).elim
  | .comp _ _ _ _ _, es, h => by cases es <;> exact (Bool.false_ne_true h).elim
  | .lrng _, es, h => by cases es <;> exact (Bool.false_ne_true h).elim
  | .seq _, es, h => by cases es <;> exact (Bool.false_ne_true h).elim
  | .rng _, es, h => by cases es <;> exact (Bool.false_ne_true h).elim
  | .enum _, es, h => by cases es <;> exact (Bool.false_ne_true h).elim
  | .zip _ _, es, h => by cases es <;> exact (Bool.false_ne_true h).elim
  | .call _ _, es, h => by cases es <;> exact (Bool.false_ne_true h).elim
  | .bi _ _, es, h => by cases es <;> exact (Bool.false_ne_true h).elim
  | .isi _ _, es, h => by cases es <;> exact (Bool.false_ne_true h).elim
  | .attr _ _, es, h => by cases es <;> exact (Bool.false_ne_true h).elim
  | .mk _ _, es, h => by cases es <;> exact (Bool.false_ne_true h).elim
  | .meth _ _ _, es, h => by cases es <;> exact (Bool.false_ne_true h).elim
  | .index _ _, es, h => by cases es <;> exact (Bool.false_ne_true h).elim
  | .isk _ _, es, h => by cases es <;> exact (Bool.false_ne_true h).elim
  | .sets _ _, es, h => by cases es <;> exact (Bool.false_ne_true h).elim
theorem stars_head {b : Bk} {env : Env} {e : E} {x : Expr} {es : List Expr} (h : chks T N b e (x :: es) = true) : starEach (x :: es) env = (false, eval x env) :: starEach es env ∧ ∀ pos, (backTo pos (starEach es env)).any (·.1) = false := by
  have s := stars_ok (env := env) e h
  have s2 : starEach es env = es.map (fun e => (false, eval e env)) := by
    cases e <;> first | (exact (Bool.false_ne_true h).elim) | skip
    rename_i a as
    replace h : (chk T N b a x && chks T N b as es) = true := h
    simp only [Bool.and_eq_true] at h
    exact stars_ok as h.2
  refine ⟨by rw [s, s2]; rfl, fun pos => ?_⟩
  rw [s2]
  unfold backTo
  rw [List.any_map, List.any_map]
  exact List.any_eq_false.mpr fun _ _ => by simp

variable {X : Cx} {b : Bk} {W : WX}
/-- the name of a list of one's own, or any tree: where it is read -/
theorem base_ok (C : Cok T N Γ A k X b W) {a : E} {ex : Expr} {ρ : Rho} (h : chk T N b a ex = true) (ih : PE X ex (tV A.cl A.xa H0 W ρ (newTop a) (ev Γ a ρ))) : PE X ex (tBs A.cl A.xa H0 W ρ (base a ρ (ev Γ a ρ))) := by
  have gen : base a ρ (ev Γ a ρ) = ev Γ a ρ → PE X ex (tBs A.cl A.xa H0 W ρ (base a ρ (ev Γ a ρ))) := fun e => by
    rw [e]
    refine ih.imp fun σ H Q ⟨G, rep, q⟩ => ⟨G, rep, ?_⟩
    cases e2 : ev Γ a ρ with
    | ok d => rw [e2] at q; exact fun v G' H' g r _ => q v G' H' g (.inl r)
    | exc c => rw [e2] at q; exact q
    | bad => rw [e2] at q; exact q
  cases a <;> first | exact gen rfl | skip
  rename_i i
  cases e : ρ.getD i .no with
  | no => exact gen (by unfold base; simp only [e])
  | val d => exact gen (by unfold base; simp only [e])
  | own ds =>
    obtain ⟨x, p, rfl, hi, hv, hn⟩ := chk_var h
    obtain ⟨n1, n2, n3⟩ := okName_ok hn
    have hb : base (.var i) ρ (ev Γ (.var i) ρ) = .ok (.lst true ds) := by unfold base; simp only [e]
    rw [hb]
    refine (pe_var (by rw [C.hN]; exact hi) (visB_ok C.sc hv) n1 n2).imp fun σ H Q ⟨G, rep, q⟩ => ?_
    obtain ⟨p, xs, e1, h1, h2, h3, h4⟩ := rep.own e
    exact ⟨_, e1, q _ G H (Gr.refl rep.sub) (.inr ⟨p, xs, ds, rfl, rfl, h3, h4⟩)⟩
def tyStr : Ty → String
  | .int => "int" | .bool => "bool" | .list => "list" | .tuple => "tuple" | .own _ => ""
theorem ty_name (t : Ty) : tyName t = Str.ofString (tyStr t) := by cases t <;> rfl
theorem ty_boot {t : Ty} (ht : tyName t ≠ "") : bootBuiltins (tyName t) = some (.type (tyStr t)) := by
  cases t <;> first | decide +kernel | exact absurd rfl ht
theorem tyOf {G H : Hp} {K : PySem.W.Frag} {v : V} {d : D} {t : Ty} {c : Bool} (s : Same G H) (r : Rp A.cl H0 G v d) (e : isiD d t = .ok c) (ht : tyName t ≠ "") : ∃ n, TyX K H v (.type n) ∧ kitB n (tyStr t) = some c := by
  cases r with
  | non => cases t <;> first | exact absurd rfl ht | (have e' := (show R.ok _ = R.ok c from e); injection e' with e'; subst e'; exact ⟨"NoneType", (.base .non), by decide +kernel⟩) | cases e
  | bl x => cases t <;> first | exact absurd rfl ht | (have e' := (show R.ok _ = R.ok c from e); injection e' with e'; subst e'; exact ⟨"bool", (.base (.bl x)), by decide +kernel⟩) | cases e
  | int x => cases t <;> first | exact absurd rfl ht | (have e' := (show R.ok _ = R.ok c from e); injection e' with e'; subst e'; exact ⟨"int", (.base (.int x)), by decide +kernel⟩) | cases e
  | str x => cases t <;> first | exact absurd rfl ht | (have e' := (show R.ok _ = R.ok c from e); injection e' with e'; subst e'; exact ⟨"str", (.base (.str x)), by decide +kernel⟩) | cases e
  | dic h => cases t <;> first | exact absurd rfl ht | (have e' := (show R.ok _ = R.ok c from e); injection e' with e'; subst e'; exact ⟨"dict", (.base (.dK (s _ _ h))), by decide +kernel⟩) | cases e
  | tup h _ => cases t <;> first | exact absurd rfl ht | (have e' := (show R.ok _ = R.ok c from e); injection e' with e'; subst e'; exact ⟨"tuple", (.base (.tup (s _ _ h))), by decide +kernel⟩) | cases e
  | lst h _ _ => cases t <;> first | exact absurd rfl ht | (have e' := (show R.ok _ = R.ok c from e); injection e' with e'; subst e'; exact ⟨"list", (.base (.lst (s _ _ h))), by decide +kernel⟩) | cases e
  | obj h _ _ _ => cases t <;> first | exact absurd rfl ht | (have e' := (show R.bad = R.ok c from e); cases e'; done)
  | scr h => cases t <;> first | exact absurd rfl ht | (have e' := (show R.ok _ = R.ok c from e); injection e' with e'; subst e'; exact ⟨"list", (.base (.frz (s _ _ h))), by decide +kernel⟩) | cases e
/-- the call of a def, by its meaning -/
theorem call_fin {σ : L2.St} {G H : Hp} {top : Bool} {Q : VK} {f : Nat} {ds : List D} {vs : List V} (s : Same G H) (s0 : Same H0 H) (r : RpA A.cl H0 G vs ds) (q : Fin A.cl A.xa H0 W G H σ top Q (Γ f (olds ds))) : spD A.cl A.xa (Γ f) vs H Q (WE W σ) := by
  refine ⟨G, ds, s, RpA.old ds r, ?_⟩
  cases e : Γ f (olds ds) with
  | ok d =>
    rw [e] at q
    intro v G' H' g rp
    refine q v G' H' g (Rp.elder s0 d rp) fun _ es ed => ?_
    subst ed
    cases rp with
    | lst h1 h2 _ => exact ⟨_, rfl, h2 rfl⟩
  | exc c => rw [e] at q; exact q
  | bad => rw [e] at q; exact q
theorem it_list {K : PySem.W.Frag} {G : Hp} {a : Addr} {xs : List V} {ds : List D} (h : G a = some (.lst xs)) (r : RpA A.cl H0 G xs ds) : ItOk A.cl H0 (Itl K a) ds G :=
  ⟨fun H => SqL K H a xs, YAt xs, by rw [← r.length]; exact walk_list, fun G2 H2 s1 s2 => SqL.of (s2 _ _ (s1 _ _ h)), fun i d x G2 H2 H3 e s1 s2 y => by
    obtain ⟨rfl, e2⟩ := y
    obtain ⟨w, e3, rp⟩ := r.get e
    rw [e2] at e3
    injection e3 with e3; subst e3
    exact ⟨G2, Gr.refl s2, Rp.mono s1 d rp⟩⟩
theorem it_tup {K : PySem.W.Frag} {G : Hp} {a : Addr} {xs : List V} {ds : List D} (h : G a = some (.tup xs)) (r : RpA A.cl H0 G xs ds) : ItOk A.cl H0 (Itt K a) ds G :=
  ⟨fun H => SqT K H a xs, YAt xs, by rw [← r.length]; exact walk_tup, fun G2 H2 s1 s2 => SqT.of (s2 _ _ (s1 _ _ h)), fun i d x G2 H2 H3 e s1 s2 y => by
    obtain ⟨rfl, e2⟩ := y
    obtain ⟨w, e3, rp⟩ := r.get e
    rw [e2] at e3
    injection e3 with e3; subst e3
    exact ⟨G2, Gr.refl s2, Rp.mono s1 d rp⟩⟩
theorem it_rng {G : Hp} {lo : Int} {n : Nat} : ItOk A.cl H0 (Itr lo n) ((List.range n).map fun i => D.int (lo + (i : Nat))) G :=
  ⟨fun _ => True, YFn fun i => .int (lo + i), by rw [List.length_map, List.length_range]; exact walk_range, fun _ _ _ _ => trivial, fun i d x G2 H2 H3 e s1 s2 y => by
    obtain ⟨rfl, rfl⟩ := y
    rw [List.getElem?_map, Option.map_eq_some_iff] at e
    obtain ⟨j, e1, rfl⟩ := e
    have ej : j = i := by
      have hl : i < n := by
        have := List.getElem?_eq_some_iff.mp e1; obtain ⟨h, _⟩ := this; simpa using h
      rw [List.getElem?_range hl] at e1
      injection e1 with e1
      exact e1.symm
    subst ej
    exact ⟨G2, Gr.refl s2, .int _⟩⟩
theorem it_enum {K : PySem.W.Frag} {G : Hp} {a : Addr} {xs : List V} {ds : List D} (h : G a = some (.lst xs)) (r : RpA A.cl H0 G xs ds) : ItOk A.cl H0 (Ite K a) (ds.zipIdx.map fun p => D.tup [.int (p.2 : Nat), p.1]) G :=
  ⟨fun H => SqL K H a xs, YPair (fun i => some (.int (i : Nat))) (fun i => xs[i]?), by rw [List.length_map, List.length_zipIdx, ← r.length]; exact walk_enum, fun G2 H2 s1 s2 => SqL.of (s2 _ _ (s1 _ _ h)), fun i d x G2 H2 H3 e s1 s2 y => by
    obtain ⟨p, v, w, rfl, np, rfl, e2, e3⟩ := y
    injection e2 with e2; subst e2
    rw [List.getElem?_map, Option.map_eq_some_iff] at e
    obtain ⟨⟨d0, j⟩, e1, rfl⟩ := e
    rw [List.getElem?_zipIdx, Option.map_eq_some_iff] at e1
    obtain ⟨d1, e4, e5⟩ := e1
    injection e5 with e5 e6
    subst e5; subst e6
    obtain ⟨w', e7, rp⟩ := r.get e4
    have e7 : xs[i]? = some w' := e7
    have e3 : xs[i]? = some w := e3
    rw [e3] at e7
    injection e7 with e7; subst e7
    have g := Gr.new (o := HO.tup [.int (i : Nat), w]) s2 np
    refine ⟨_, g, .tup upd_same ?_⟩
    rw [Nat.zero_add]
    exact .cons (.int _) (.cons (Rp.mono (s1.trans g.gg) _ rp) .nil)⟩
theorem it_zip {K : PySem.W.Frag} {G : Hp} {a c : Addr} {xs ys : List V} {ds es : List D} (h : G a = some (.lst xs)) (r : RpA A.cl H0 G xs ds) (h' : G c = some (.lst ys)) (r' : RpA A.cl H0 G ys es) : ItOk A.cl H0 (Itz K a c) ((ds.zip es).map fun p => D.tup [p.1, p.2]) G :=
  ⟨fun H => SqL K H a xs ∧ SqL K H c ys, YPair (fun i => xs[i]?) (fun i => ys[i]?), walk_zip (by rw [List.length_map, List.length_zip, r.length, r'.length]), fun G2 H2 s1 s2 => ⟨SqL.of (s2 _ _ (s1 _ _ h)), SqL.of (s2 _ _ (s1 _ _ h'))⟩, fun i d x G2 H2 H3 e s1 s2 y => by
    obtain ⟨p, v, w, rfl, np, rfl, e2, e3⟩ := y
    have e2 : xs[i]? = some v := e2
    have e3 : ys[i]? = some w := e3
    rw [List.getElem?_map, Option.map_eq_some_iff] at e
    obtain ⟨⟨d0, d1⟩, e1, rfl⟩ := e
    rw [List.getElem?_zip_eq_some] at e1
    obtain ⟨v', e4, rp⟩ := r.get e1.1
    obtain ⟨w', e5, rp'⟩ := r'.get e1.2
    rw [e2] at e4
    rw [e3] at e5
    injection e4 with e4; injection e5 with e5
    subst e4; subst e5
    have g := Gr.new (o := HO.tup [v, w]) s2 np
    exact ⟨_, g, .tup upd_same (.cons (Rp.mono (s1.trans g.gg) _ rp) (.cons (Rp.mono (s1.trans g.gg) _ rp') .nil))⟩⟩
/-- a list or a tuple, walked -/
theorem pi_seq {tg l : Expr} {ρ : Rho} {top : Bool} {r : R D} (hl : PE X l (tV A.cl A.xa H0 W ρ top r)) : PI X tg l (tIt A.cl A.xa H0 W ρ (r.bind itemsD)) := by
  cases r with
  | exc c => exact ⟨fun pins s σ H R I ⟨G, rep, q⟩ => wpAny_mono (hl.run pins s σ H (fun _ _ => False) I ⟨G, rep, q⟩) (fun _ _ ⟨_, _, _, _, z⟩ => z.elim) fun _ _ x => x⟩
  | bad => exact ⟨fun pins s σ H R I ⟨G, rep, q⟩ => q.elim⟩
  | ok d =>
    cases d <;> first | (exact ⟨fun pins s σ H R I ⟨G, rep, q⟩ => q.elim⟩) | skip
    · rename_i ds
      refine (pi_tup hl).imp fun σ H Q ⟨G, rep, q⟩ => ⟨G, rep, fun v G' H' g rp _ => ?_⟩
      cases rp with
      | tup h1 h2 => exact ⟨_, rfl, ⟨_, SqT.of (g.gh _ _ h1)⟩, q _ G' H' g (it_tup h1 h2)⟩
    · rename_i f ds
      refine (pi_list hl).imp fun σ H Q ⟨G, rep, q⟩ => ⟨G, rep, fun v G' H' g rp _ => ?_⟩
      cases rp with
      | lst h1 _ h2 => exact ⟨_, rfl, ⟨_, SqL.of (g.gh _ _ h1)⟩, q _ G' H' g (it_list h1 h2)⟩
end
end Wt
/-! ## Comprehensions; what the looks at a walk say -/
namespace Wt
open PySem PySem.Spec PyProof.Rows L2
section
variable {T : Tb} {N : List Str} {Γ : Nat → List D → R D} {A : Ad} {k : Nat} {H0 : Hp} {b : Bk}
theorem chkc_last : ∀ (e : E) {ops : List CmpOp} {es : List Expr}, chkc T N b e ops es = true → lastMarks ops es = false
  | .ccons c e cs, ops, es, h => by
    cases ops with
    | nil => exact (Bool.false_ne_true h).elim
    | cons op ops =>
      cases es with
      | nil => cases ops <;> exact (Bool.false_ne_true h).elim
      | cons x es =>
        cases ops with
        | nil =>
          cases es with
          | cons _ _ => exact (Bool.false_ne_true h).elim
          | nil =>
            replace h : (isCnil cs && decide (op = cmOf c) && chk T N b e x) = true := h
            simp only [Bool.and_eq_true] at h
            exact notSet_of h.2
        | cons op' ops =>
          cases es with
          | nil => exact (Bool.false_ne_true h).elim
          | cons y es =>
            replace h : (!isCnil cs && decide (op = cmOf c) && chk T N b e x && chkc T N b cs (op' :: ops) (y :: es)) = true := h
            simp only [Bool.and_eq_true] at h
            have r : lastMarks (op' :: ops) (y :: es) = false := chkc_last cs h.2
            exact r
  | .var _, ops, es, h => by cases ops <;> cases es <;> exact (Bool.false_ne_true h).elim
  | .int _, ops, es, h => by cases ops <;> cases es <;> exact (Bool.false_ne_true h).elim
  | .bl _, ops, es, h => by cases ops <;> cases es <;> exact (Bool.false_ne_true h).elim
  | .non, ops, es, h => by cases ops <;> cases es <;> exact (Bool.false_ne_true h).elim
  | .str _, ops, es, h => by cases ops <;> cases es <;> exact (Bool.false_ne_true h).elim
  | .glob _ _, ops, es, h => by cases ops <;> cases es <;> exact (Bool.false_ne_true h).elim
  | .bin _ _ _, ops, es, h => by cases ops <;> cases es <;> exact (Bool.false_ne_true h).elim
  | .neg _, ops, es, h => by cases ops <;> cases es <;> exact (Bool.false_ne_true h).elim
  | .cmp _ _, ops, es, h => by cases ops <;> cases es <;> exact (Bool.false_ne_true h).elim
  | .cnil, ops, es, h => by cases ops <;> cases es <;> exact (Bool.false_ne_true h).elim
  | .and _, ops, es, h => by cases ops <;> cases es <;> exact (Bool.false_ne_true h).elim
  | .or _, ops, es, h => by cases ops <;> cases es <;> exact (Bool.false_ne_true h).elim
  | .not _, ops, es, h => by cases ops <;> cases es <;> exact (Bool.false_ne_true h).elim
  | .ite _ _ _, ops, es, h => by cases ops <;> cases es <;> exact (Bool.false_ne_true h).elim
  | .idx _ _, ops, es, h => by cases ops <;> cases es <;> exact (Bool.false_ne_true h).elim
  | .sli _ _ _ _, ops, es, h => by cases ops <;> cases es <;> exact (Bool.false_ne_true h).elim
  | .tup _, ops, es, h => by cases ops <;> cases es <;> exact (Bool.false_ne_true h).elim
  | .lst _, ops, es, h => by cases ops <;> cases es <;> exact (Bool.false_ne_true h).elim
  | .nil, ops, es, h => by cases ops <;> cases es <;> exact (Bool.false_ne_true h).elim
  | .cons _ _, ops, es, h => by cases ops <;> cases es <;> exact (Bool.false_ne_true h).elim
  | .comp _ _ _ _ _, ops, es, h => by cases ops <;> cases es <;> exact (Bool.false_ne_true h).elim
  | .lrng _, ops, es, h => by cases ops <;> cases es <;> exact (Bool.false_ne_true h).elim
  | .seq _, ops, es, h => by cases ops <;> cases es <;> exact (Bool.false_ne_true h).elim
  | .rng _, ops, es, h => by cases ops <;> cases es <;> exact (Bool.false_ne_true h).elim
  | .enum _, ops, es, h => by cases ops <;> cases es <;> exact (Bool.false_ne_true h).elim
  | .zip _ _, ops, es, h => by cases ops <;> cases es <;> exact (Bool.false_ne_true h).elim
  | .call _ _, ops, es, h => by cases ops <;> cases es <;> exact (Bool.false_ne_true h).elim
  | .bi _ _, ops, es, h => by cases ops <;> cases es <;> exact (Bool.false_ne_true h).elim
  | .isi _ _, ops, es, h => by cases ops <;> cases es <;> exact (Bool.false_ne_true h).elim
  | .attr _ _, ops, es, h => by cases ops <;> cases es <;> exact (Bool.false_ne_true h).elim
  | .mk _ _, ops, es, h => by cases ops <;> cases es <;> exact (Bool.false_ne_true h).elim
  | .meth _ _ _, ops, es, h => by cases ops <;> cases es <;> exact (Bool.false_ne_true h).elim
  | .index _ _, ops, es, h => by cases ops <;> cases es <;> exact (Bool.false_ne_true h).elim
  | .isk _ _, ops, es, h => by cases ops <;> cases es <;> exact (Bool.false_ne_true h).elim
  | .sets _ _, ops, es, h => by cases ops <;> cases es <;> exact (Bool.false_ne_true h).elim
theorem evs_len : ∀ (e : E) {es : List Expr} {ρ : Rho} {ds : List D}, chks T N b e es = true → evs Γ e ρ = .ok ds → ds.length = es.length
  | .nil, es, ρ, ds, h, e1 => by
    cases es with
    | cons _ _ => exact (Bool.false_ne_true h).elim
    | nil => rw [evs] at e1; injection e1 with e1; subst e1; rfl
  | .cons a as, es, ρ, ds, h, e1 => by
    cases es with
    | nil => exact (Bool.false_ne_true h).elim
    | cons e es =>
      replace h : (chk T N b a e && chks T N b as es) = true := h
      simp only [Bool.and_eq_true] at h
      rw [evs] at e1
      cases e2 : ev Γ a ρ with
      | exc c => rw [e2] at e1; cases e1
      | bad => rw [e2] at e1; cases e1
      | ok d =>
        rw [e2, R.ok_bind] at e1
        cases e3 : evs Γ as ρ with
        | exc c => rw [e3] at e1; cases e1
        | bad => rw [e3] at e1; cases e1
        | ok ds' =>
          rw [e3, R.ok_bind] at e1
          injection e1 with e1
          subst e1
          simp [evs_len as h.2 e3]
  | .var _, es, ρ, ds, h, e1 => by cases es <;> exact (Bool.false_ne_true h).elim
  | .int _, es, ρ, ds, h, e1 => by cases es <;> exact (Bool.false_ne_true h).elim
  | .bl _, es, ρ, ds, h, e1 => by cases es <;> exact (Bool.false_ne_true h).elim
  | .non, es, ρ, ds, h, e1 => by cases es <;> exact (Bool.false_ne_true h).elim
  | .str _, es, ρ, ds, h, e1 => by cases es <;> exact (Bool.false_ne_true h).elim
  | .glob _ _, es, ρ, ds, h, e1 => by cases es <;> exact (Bool.false_ne_true h).elim
  | .bin _ _ _, es, ρ, ds, h, e1 => by cases es <;> exact (Bool.false_ne_true h).elim
  | .neg _, es, ρ, ds, h, e1 => by cases es <;> exact (Bool.false_ne_true h).elim
  | .cmp _ _, es, ρ, ds, h, e1 => by cases es <;> exact (Bool.false_ne_true h).elim
  | .ccons _ _ _, es, ρ, ds, h, e1 => by cases es <;> exact (Bool.false_ne_true h).elim
  | .cnil, es, ρ, ds, h, e1 => by cases es <;> exact (Bool.false_ne_true h).elim
  | .and _, es, ρ, ds, h, e1 => by cases es <;> exact (Bool.false_ne_true h).elim
  | .or _, es, ρ, ds, h, e1 => by cases es <;> exact (Bool.false_ne_true h).elim
  | .not _, es, ρ, ds, h, e1 => by cases es <;> exact (Bool.false_ne_true h).elim
  | .ite _ _ _, es, ρ, ds, h, e1 => by cases es <;> exact (Bool.false_ne_true h).elim
  | .idx _ _, es, ρ, ds, h, e1 => by cases es <;> exact (Bool.false_ne_true h).elim
  | .sli _ _ _ _, es, ρ, ds, h, e1 => by cases es <;> exact (Bool.false_ne_true h).elim
  | .tup _, es, ρ, ds, h, e1 => by cases es <;> exact (Bool.false_ne_true h).elim
  | .lst _, es, ρ, ds, h, e1 => by cases es <;> exact (Bool.false_ne_true h).elim
  | .comp _ _ _ _ _, es, ρ, ds, h, e1 => by cases es <;> exact (Bool.false_ne_true h).elim
  | .lrng _, es, ρ, ds, h, e1 => by cases es <;> exact (Bool.false_ne_true h).elim
  | .seq _, es, ρ, ds, h, e1 => by cases es <;> exact (Bool.false_ne_true h).elim
  | .rng _, es, ρ, ds, h, e1 => by cases es <;> exact (Bool.false_ne_true h).elim
  | .enum _, es, ρ, ds, h, e1 => by cases es <;> exact (Bool.false_ne_true h).elim
  | .zip _ _, es, ρ, ds, h, e1 => by cases es <;> exact (Bool.false_ne_true h).elim
  | .call _ _, es, ρ, ds, h, e1 => by cases es <;> exact (Bool.false_ne_true h).elim
  | .bi _ _, es, ρ, ds, h, e1 => by cases es <;> exact (Bool.false_ne_true h).elim
  | .isi _ _, es, ρ, ds, h, e1 => by cases es <;> exact (Bool.false_ne_true h).elim
  | .attr _ _, es, ρ, ds, h, e1 => by cases es <;> exact (Bool.false_ne_true h).elim
  | .mk _ _, es, ρ, ds, h, e1 => by cases es <;> exact (Bool.false_ne_true h).elim
  | .meth _ _ _, es, ρ, ds, h, e1 => by cases es <;> exact (Bool.false_ne_true h).elim
  | .index _ _, es, ρ, ds, h, e1 => by cases es <;> exact (Bool.false_ne_true h).elim
  | .isk _ _, es, ρ, ds, h, e1 => by cases es <;> exact (Bool.false_ne_true h).elim
  | .sets _ _, es, ρ, ds, h, e1 => by cases es <;> exact (Bool.false_ne_true h).elim
theorem chkI_rng {es : E} {tg iter : Expr} (h : chkI T N b (.rng es) tg iter = true) : ∃ p a as pos, iter = .Call (.Name "range" p) (a :: as) [] pos ∧ glB b.sc "range" = true ∧ as.length ≤ 2 ∧ chks T N b es (a :: as) = true := by
  cases iter <;> first | (cases tg <;> exact (Bool.false_ne_true h).elim) | skip
  rename_i fn args kws pos
  cases fn <;> first | (cases tg <;> exact (Bool.false_ne_true h).elim) | skip
  rename_i x p
  cases args with
  | nil => cases tg <;> exact (Bool.false_ne_true h).elim
  | cons a as =>
    cases kws with
    | cons _ _ => cases tg <;> exact (Bool.false_ne_true h).elim
    | nil =>
      have h' : (decide (x = "range") && glB b.sc x && decide (as.length ≤ 2) && chks T N b es (a :: as)) = true := by cases tg <;> exact h
      simp only [Bool.and_eq_true, decide_eq_true_eq] at h'
      obtain ⟨⟨⟨rfl, h1⟩, h2⟩, h3⟩ := h'
      exact ⟨p, a, as, pos, rfl, h1, h2, h3⟩
theorem chkI_enum {e : E} {tg iter : Expr} (h : chkI T N b (.enum e) tg iter = true) : ∃ ts kk tp p x pos, tg = .Tuple ts kk tp ∧ iter = .Call (.Name "enumerate" p) [x] [] pos ∧ glB b.sc "enumerate" = true ∧ chk T N b e x = true := by
  cases tg <;> first | (cases iter <;> exact (Bool.false_ne_true h).elim) | skip
  cases iter <;> first | (exact (Bool.false_ne_true h).elim) | skip
  rename_i fn args kws pos
  cases fn <;> first | (exact (Bool.false_ne_true h).elim) | skip
  rename_i x p
  cases args with
  | nil => exact (Bool.false_ne_true h).elim
  | cons a as =>
    cases as with
    | cons _ _ => exact (Bool.false_ne_true h).elim
    | nil =>
      cases kws with
      | cons _ _ => exact (Bool.false_ne_true h).elim
      | nil =>
        replace h : (decide (x = "enumerate") && glB b.sc x && chk T N b e a) = true := h
        simp only [Bool.and_eq_true, decide_eq_true_eq] at h
        obtain ⟨⟨rfl, h1⟩, h2⟩ := h
        exact ⟨_, _, _, p, a, pos, rfl, rfl, h1, h2⟩
theorem chkI_zip {e f : E} {tg iter : Expr} (h : chkI T N b (.zip e f) tg iter = true) : ∃ ts kk tp p x y pos, tg = .Tuple ts kk tp ∧ iter = .Call (.Name "zip" p) [x, y] [] pos ∧ glB b.sc "zip" = true ∧ chk T N b e x = true ∧ chk T N b f y = true := by
  cases tg <;> first | (cases iter <;> exact (Bool.false_ne_true h).elim) | skip
  cases iter <;> first | (exact (Bool.false_ne_true h).elim) | skip
  rename_i fn args kws pos
  cases fn <;> first | (exact (Bool.false_ne_true h).elim) | skip
  rename_i x p
  cases args with
  | nil => exact (Bool.false_ne_true h).elim
  | cons a as =>
    cases as with
    | nil => exact (Bool.false_ne_true h).elim
    | cons c as =>
      cases as with
      | cons _ _ => exact (Bool.false_ne_true h).elim
      | nil =>
        cases kws with
        | cons _ _ => exact (Bool.false_ne_true h).elim
        | nil =>
          replace h : (decide (x = "zip") && glB b.sc x && chk T N b e a && chk T N b f c) = true := h
          simp only [Bool.and_eq_true, decide_eq_true_eq] at h
          obtain ⟨⟨⟨rfl, h1⟩, h2⟩, h3⟩ := h
          exact ⟨_, _, _, p, a, c, pos, rfl, rfl, h1, h2, h3⟩

/-! ### comprehensions -/
theorem compR_take {f : D → R (Option D)} : ∀ {xs : List D} {r : List D}, compR f xs = .ok r → ∀ i (hi : i ≤ xs.length), ∃ r', compR f (xs.take i) = .ok r' ∧ r'.length ≤ r.length ∧ ∀ d, xs[i]? = some d → ∃ o, f d = .ok o ∧ compR f (xs.take (i + 1)) = .ok (r' ++ o.toList) ∧ (r' ++ o.toList).length ≤ r.length
  | [], r, h, i, hi => by
    have : i = 0 := by simpa using hi
    subst this
    exact ⟨[], rfl, Nat.zero_le _, fun d e => by simp at e⟩
  | x :: xs, r, h, i, hi => by
    rw [compR] at h
    cases e1 : f x with
    | exc c => rw [e1] at h; cases h
    | bad => rw [e1] at h; cases h
    | ok o =>
      rw [e1, R.ok_bind] at h
      cases e2 : compR f xs with
      | exc c => rw [e2] at h; cases h
      | bad => rw [e2] at h; cases h
      | ok rs =>
        rw [e2, R.ok_bind] at h
        injection h with h
        have hr : r = o.toList ++ rs := by rw [← h]; cases o <;> rfl
        have one : ∀ {ys : List D} {q : List D}, compR f ys = .ok q → compR f (x :: ys) = .ok (o.toList ++ q) := fun {ys q} e => by
          rw [compR, e1, R.ok_bind, e, R.ok_bind]
          cases o <;> rfl
        cases i with
        | zero =>
          refine ⟨[], rfl, Nat.zero_le _, fun d e => ?_⟩
          simp at e
          subst e
          refine ⟨o, e1, ?_, by rw [hr]; simp⟩
          show compR f (x :: (xs.take 0)) = _
          have := one (ys := xs.take 0) (q := []) (by rw [List.take_zero]; rfl)
          rw [this]; simp
        | succ i =>
          obtain ⟨r', q1, q2, q3⟩ := compR_take e2 i (by simpa using hi)
          refine ⟨o.toList ++ r', one q1, by rw [hr]; simp [q2], fun d e => ?_⟩
          obtain ⟨o', k1, k2, k3⟩ := q3 d (by simpa using e)
          refine ⟨o', k1, ?_, by rw [hr]; simp only [List.length_append] at k3 ⊢; omega⟩
          rw [List.append_assoc]
          exact one k2
theorem u_IV {cl xa : Nat → Addr} {W : WX} {G H : Hp} {σ : L2.St} {top : Bool} {Q : VK} {r : R (List D)} {f : List D → R D} {K : It → Hp → Prop} (h : Fin cl xa H0 W G H σ top Q (r.bind f))
    (k : ∀ ds J G1 H1, r = .ok ds → Gr G H G1 H1 → ItOk cl H0 J ds G1 → Fin cl xa H0 W G1 H1 σ top Q (f ds) → K J H1) : FinI cl xa H0 W G H σ K r := by
  cases r with
  | ok d => exact fun J G' H' g' r' => k d J G' H' rfl g' r' (Fin.mono h g')
  | exc c => exact h
  | bad => exact h.elim
variable {X : Cx} {W : WX}
def cG (A : Ad) (H0 : Hp) (t : Tg) (own : List Nat) (ρ : Rho) : TG := fun v σ H Q => ∃ d ρ', tG A.cl H0 own t (wipeR ρ own) ρ' d v σ H Q
def cT (Γ : Nat → List D → R D) (A : Ad) (H0 : Hp) (cd : E) : TT := fun σ H Q => ∃ ρ', tX A.cl A.xa H0 (fun _ _ _ _ => False) ρ' (eva Γ cd (shareAll ρ')) σ H Q
def cE (Γ : Nat → List D → R D) (A : Ad) (H0 : Hp) (elt : E) : TE := fun σ H Q => ∃ ρ', tV A.cl A.xa H0 (fun _ _ _ _ => False) ρ' (newTop elt) (ev Γ elt ρ') σ H Q
theorem own_map (own : List Nat) : (ownP N own).map (·.2) = own := by unfold ownP; rw [List.map_map]; exact List.map_id _
theorem notSet_fold {iter : Expr} {env : Env} (h2 : notSet iter = true) : ∀ x, foldedSetIterable iter env x = pure x := fun x => by
  cases iter <;> first | rfl | exact (Bool.false_ne_true h2).elim
theorem cg_ok (C : Cok T N Γ A k X b W) {t : Tg} {own : List Nat} {tg : Expr} {scope : Scope} {ρ : Rho} (h5 : chkT N (blkOf b scope) t tg = true) (s : Shared) (H : Hp) (Cc : Addr) (cl : List (Str × Addr)) (fp : List Addr) : PG (X.blk s H scope (compEnvC scope cl Cc X.env) fp) tg (cG A H0 t own ρ) :=
  ⟨fun pins s' σ H' v u Q I r ⟨d, ρ', q⟩ => (pg_ok (C.blk s H scope Cc cl fp) t h5 (own := own) (ρ := wipeR ρ own) (ρ' := ρ') (d := d) (cl := A.cl) (H0 := H0)).run pins s' σ H' v u Q I r q⟩
theorem ct_ok {cd : E} {ifs : List Expr} {scope : Scope}
    (PC : ∀ (s : Shared) (H : Hp) (Cc : Addr) (cl : List (Str × Addr)) (fp : List Addr) (ρ : Rho), PTs (X.blk s H scope (compEnvC scope cl Cc X.env) fp) ifs (tX A.cl A.xa H0 (fun _ _ _ _ => False) ρ (eva Γ cd ρ))) (s : Shared) (H : Hp) (Cc : Addr) (cl : List (Str × Addr)) (fp : List Addr) :
    PTs (X.blk s H scope (compEnvC scope cl Cc X.env) fp) ifs (cT Γ A H0 cd) :=
  ⟨fun pins s' σ H' Q I ⟨ρ', G, rep, q⟩ => (PC s H Cc cl fp (shareAll ρ')).run pins s' σ H' Q I ⟨H', rep.all, q.up rep.sub⟩⟩
theorem ce_ok {elt : E} {x : Expr} {scope : Scope}
    (PEl : ∀ (s : Shared) (H : Hp) (Cc : Addr) (cl : List (Str × Addr)) (fp : List Addr) (ρ : Rho), PE (X.blk s H scope (compEnvC scope cl Cc X.env) fp) x (tV A.cl A.xa H0 (fun _ _ _ _ => False) ρ (newTop elt) (ev Γ elt ρ))) (s : Shared) (H : Hp) (Cc : Addr) (cl : List (Str × Addr)) (fp : List Addr) :
    PE (X.blk s H scope (compEnvC scope cl Cc X.env) fp) x (cE Γ A H0 elt) :=
  ⟨fun pins s' σ H' Q I ⟨ρ', q⟩ => (PEl s H Cc cl fp ρ').run pins s' σ H' Q I q⟩
theorem comp_read {elt it cd : E} {t : Tg} {own : List Nat} {ρ : Rho} (h4 : tgIn own t = true) {σ : L2.St} {H : Hp} {Q : VK} (q : tV A.cl A.xa H0 W ρ true (ev Γ (.comp elt t it cd own) ρ) σ H Q) :
    tLc (tIt A.cl A.xa H0 W ρ ((ev Γ it ρ).bind itemsD)) (cG A H0 t own ρ) (cT Γ A H0 cd) (cE Γ A H0 elt) own σ H Q := by
  obtain ⟨G, rep, q⟩ := q
  rw [ev] at q
  refine ⟨G, rep, u_IV q fun ds J G1 H1 e1 g1 iok q1 D nD => ?_⟩
  revert q1
  generalize ef : (fun d : Wt.D => match bindT t d (wipeR ρ own) with
    | none => R.bad
    | some ρ' => (eva Γ cd (shareAll ρ')).bind fun b => if b = true then (ev Γ elt ρ').bind fun y => R.ok (some y) else R.ok none) = f
  intro q1
  cases er : compR f ds with
  | exc c => rw [er] at q1; exact q1.elim
  | bad => rw [er] at q1; exact q1.elim
  | ok res =>
    rw [er] at q1
    replace q1 : Fin A.cl A.xa H0 W G1 H1 σ true Q (mkL res) := q1
    by_cases hl : res.length ≤ cap
    · have em : mkL res = .ok (.lst true res) := if_pos hl
      rw [em] at q1
      obtain ⟨Gd, Y, wk, hGd, hY⟩ := iok.it
      have s0 : Same H0 H1 := rep.sub0.trans g1.hh
      have nG : G1 D = none := g1.gh.free nD
      refine lc_it wk (fun i H2 => ∃ G2 acc r', Gr G1 H1 G2 H2 ∧ G2 D = none ∧ H2 D = some (.lst acc) ∧ RpA A.cl H0 G2 acc r' ∧ compR f (ds.take i) = .ok r') ⟨G1, [], [], ⟨fun a o e => by rw [upd_ne (ne_of_none e nD)]; exact e, Same.refl _, fun a o e => by rw [upd_ne (ne_of_none e nG)]; exact g1.gh _ _ e, fun _ _ => rfl⟩, nG, upd_same, .nil, rfl⟩
        (fun i H2 hi ⟨G2, acc, r', gr, _⟩ => hGd G2 H2 gr.gg gr.gh) (fun i v H2 H3 hi ⟨G2, acc, r', gr, nD2, hD2, ra, ec⟩ y => ?_) (fun H2 ⟨G2, acc, r', gr, nD2, hD2, ra, ec⟩ => ?_)
      · have hd : ds[i]? = some ds[i] := List.getElem?_eq_getElem hi
        obtain ⟨r2, c1, c2, c3⟩ := compR_take er i (Nat.le_of_lt hi)
        have er2 : r' = r2 := by rw [ec] at c1; injection c1
        subst er2
        obtain ⟨o, fo, c4, c5⟩ := c3 _ hd
        obtain ⟨G3, g3, rp⟩ := hY i _ v G2 H2 H3 hd gr.gg gr.gh y
        have g13 := gr.trans g3
        have nD3 : G3 D = none := by rw [g3.old D (by rw [hD2]; simp)]; exact nD2
        have hD3 : H3 D = some (.lst acc) := g3.hh _ _ hD2
        rw [← ef] at fo
        have fo : (match bindT t ds[i] (wipeR ρ own) with
          | none => R.bad
          | some ρ' => (eva Γ cd (shareAll ρ')).bind fun b => if b = true then (ev Γ elt ρ').bind fun y => R.ok (some y) else R.ok none) = R.ok o := fo
        cases eb : bindT t ds[i] (wipeR ρ own) with
        | none => rw [eb] at fo; cases fo
        | some ρ' =>
          rw [eb] at fo
          replace fo : ((eva Γ cd (shareAll ρ')).bind fun b => if b = true then (ev Γ elt ρ').bind fun y => R.ok (some y) else R.ok none) = R.ok o := fo
          refine ⟨ds[i], ρ', G3, (rep.mono (g1.trans g13)).wipe own, rp, eb, fun σ' rep' hw => ⟨by rw [hw h4, wipe_self], ρ', G3, rep', ?_⟩⟩
          cases ecd : eva Γ cd (shareAll ρ') with
          | exc c => rw [ecd] at fo; cases fo
          | bad => rw [ecd] at fo; cases fo
          | ok bb =>
            rw [ecd, R.ok_bind] at fo
            intro G4 H4 g4
            have g14 := g13.trans g4
            have nD4 : G4 D = none := by rw [g4.old D (by rw [hD3]; simp)]; exact nD3
            have hD4 : H4 D = some (.lst acc) := g4.hh _ _ hD3
            cases bb with
            | false =>
              rw [if_neg Bool.false_ne_true] at fo ⊢
              injection fo with fo
              subst fo
              exact ⟨G4, acc, r', g14, nD4, hD4, RpA.mono (g3.gg.trans g4.gg) _ ra, by rw [c4]; simp⟩
            | true =>
              rw [if_pos rfl] at fo ⊢
              cases ee : ev Γ elt ρ' with
              | exc c => rw [ee] at fo; cases fo
              | bad => rw [ee] at fo; cases fo
              | ok y0 =>
                rw [ee, R.ok_bind] at fo
                injection fo with fo
                subst fo
                refine ⟨ρ', G4, rep'.mono g4, ?_⟩
                rw [ee]
                intro w G5 H5 g5 rw' _
                have g15 := g14.trans g5
                have nD5 : G5 D = none := by rw [g5.old D (by rw [hD4]; simp)]; exact nD4
                have hD5 : H5 D = some (.lst acc) := g5.hh _ _ hD4
                have ra5 := RpA.mono ((g3.gg.trans g4.gg).trans g5.gg) _ ra
                refine ⟨acc, hD5, ?_, G5, acc ++ [w], r' ++ [y0], ⟨fun a u e => by rw [upd_ne (ne_of_none e nD)]; exact g15.hh _ _ e, g15.gg, fun a u e => by rw [upd_ne (ne_of_none e nD5)]; exact g15.gh _ _ e, g15.old⟩, nD5, upd_same, ra5.append (.cons rw' .nil), c4⟩
                rw [ra.length, ← cap_eq]
                simp at c5
                omega
      · have e2 : r' = res := by
          rw [List.take_length, er] at ec
          injection ec with ec; exact ec.symm
        subst e2
        refine q1 _ (upd G2 D (.lst acc)) H2 ⟨gr.hh, fun a o e => ?_, fun a o e => ?_, fun a ha => ?_⟩ (.lst upd_same (fun _ => s0.free nD) (RpA.mono (fun a o e => by rw [upd_ne (ne_of_none e nD2)]; exact e) _ ra)) fun _ _ _ => ⟨D, rfl, nD⟩
        · have e' := gr.gg _ _ e
          rw [upd_ne (ne_of_none e' nD2)]; exact e'
        · by_cases ea : a = D
          · subst ea; rw [upd_same] at e; cases e; exact hD2
          · rw [upd_ne ea] at e; exact gr.gh _ _ e
        · have ea : a ≠ D := fun z => by subst z; exact ha nD
          rw [upd_ne ea]; exact gr.old a ha
    · have em : mkL res = .bad := if_neg hl
      rw [em] at q1
      exact q1.elim
theorem comp_ok (C : Cok T N Γ A k X b W) {elt it cd : E} {t : Tg} {own : List Nat} {x tg iter : Expr} {ifs : List Expr} {scope : Scope} {p : Pos} {ρ : Rho} (h1 : chkI T N b it tg iter = true) (h2 : notSet iter = true) (h3 : blkC N b.sc scope (ownP N own) = true) (h4 : tgIn own t = true)
    (h5 : chkT N (blkOf b scope) t tg = true) (PIt : PI X tg iter (tIt A.cl A.xa H0 W ρ ((ev Γ it ρ).bind itemsD)))
    (PC : ∀ (s : Shared) (H : Hp) (Cc : Addr) (cl : List (Str × Addr)) (fp : List Addr) (ρ : Rho), PTs (X.blk s H scope (compEnvC scope cl Cc X.env) fp) ifs (tX A.cl A.xa H0 (fun _ _ _ _ => False) ρ (eva Γ cd ρ)))
    (PEl : ∀ (s : Shared) (H : Hp) (Cc : Addr) (cl : List (Str × Addr)) (fp : List Addr) (ρ : Rho), PE (X.blk s H scope (compEnvC scope cl Cc X.env) fp) x (tV A.cl A.xa H0 (fun _ _ _ _ => False) ρ (newTop elt) (ev Γ elt ρ))) :
    PE X (.ListComp x [⟨tg, iter, ifs, 0⟩] scope p) (tV A.cl A.xa H0 W ρ true (ev Γ (.comp elt t it cd own) ρ)) := by
  refine (pe_lc (own := ownP N own) (g := cG A H0 t own ρ) (tt := cT Γ A H0 cd) (te := cE Γ A H0 elt) C.calm (by rw [C.hN]; exact C.nd) PIt (blkOk_by (by rw [C.hN, C.sc]; exact h3)) (cg_ok C h5) (ct_ok PC) (ce_ok PEl) (notSet_fold h2)).imp fun σ H Q q => ?_
  rw [own_map]
  exact comp_read h4 q
/-- y = [..] on one line, y a local of the def -/
theorem comp_set (C : Cok T N Γ A k X b W) {elt it cd : E} {t : Tg} {own : List Nat} {x tg iter : Expr} {ifs : List Expr} {scope : Scope} {p sp py : Pos} {ρ : Rho} {i : Nat} {y : Str} (h2 : notSet iter = true) (h3 : blkC N b.sc scope (ownP N own) = true) (h4 : tgIn own t = true)
    (h5 : chkT N (blkOf b scope) t tg = true) (PIt : PI X tg iter (tIt A.cl A.xa H0 W ρ ((ev Γ it ρ).bind itemsD)))
    (PC : ∀ (s : Shared) (H : Hp) (Cc : Addr) (cl : List (Str × Addr)) (fp : List Addr) (ρ : Rho), PTs (X.blk s H scope (compEnvC scope cl Cc X.env) fp) ifs (tX A.cl A.xa H0 (fun _ _ _ _ => False) ρ (eva Γ cd ρ)))
    (PEl : ∀ (s : Shared) (H : Hp) (Cc : Addr) (cl : List (Str × Addr)) (fp : List Addr) (ρ : Rho), PE (X.blk s H scope (compEnvC scope cl Cc X.env) fp) x (tV A.cl A.xa H0 (fun _ _ _ _ => False) ρ (newTop elt) (ev Γ elt ρ)))
    (hi : N[i]? = some y) (hl : X.env.scope.names.lookup y = some .local) (hsw : swapsWith (.ListComp x [⟨tg, iter, ifs, 0⟩] scope p) (some (.Name y py)) sp.line X.env = pure true) :
    PS X (.Assign [.Name y py] (.ListComp x [⟨tg, iter, ifs, 0⟩] scope p) sp) (tAsg (tV A.cl A.xa H0 W ρ true (ev Γ (.comp elt t it cd own) ρ)) (gName i)) := by
  have P := ps_setLc (i := i) (own := ownP N own) (g := cG A H0 t own ρ) (tt := cT Γ A H0 cd) (te := cE Γ A H0 elt) C.calm (by rw [C.hN]; exact C.nd) (by rw [C.hN]; exact hi) hl hsw PIt (blkOk_by (by rw [C.hN, C.sc]; exact h3)) (cg_ok C h5) (ct_ok PC) (ce_ok PEl) (notSet_fold h2)
  refine ⟨fun pins s σ H D I q => P.run pins s σ H D I ?_⟩
  show tLc _ _ _ _ _ σ H _
  rw [own_map]
  exact comp_read h4 q
end
end Wt
/-! ## Objects of one's own: fields, methods, making -/
namespace Wt
open PySem PySem.Spec PyProof.Rows L2
theorem attrD_ne {x : D} {f c : Nat} : attrD x f ≠ .exc c := by
  unfold attrD
  split <;> first | (intro z; cases z; done) | (split <;> first | (intro z; cases z; done) | (split <;> (intro z; cases z)))
theorem mkD_ne {c k : Nat} {ds : List D} : mkD c ds ≠ .exc k := by unfold mkD; split <;> (intro z; cases z)
theorem okO_ne {m c : Nat} {x : D} : okO m x ≠ .exc c := by
  unfold okO
  split <;> first | (intro z; cases z; done) | (split <;> (intro z; cases z))
theorem nth_ok {cl : Nat → Addr} {H0 G : Hp} : ∀ {fs : List (Str × V)} {ns : List Str} {ds : List D} {i : Nat} {n : Str} {d : D}, fs.map (·.1) = ns → RpA cl H0 G (fs.map (·.2)) ds → ns.Nodup → ns[i]? = some n → ds[i]? = some d → ∃ v, fs.lookup n = some v ∧ Rp cl H0 G v d
  | [], ns, ds, i, n, d, e, r, nd, hn, hd => by subst e; simp at hn
  | (m, v) :: fs, ns, ds, i, n, d, e, r, nd, hn, hd => by
    subst e
    cases ds with
    | nil => cases r
    | cons d0 ds =>
      cases r with
      | cons r1 r2 =>
        rw [List.map_cons, List.nodup_cons] at nd
        cases i with
        | zero =>
          simp at hn hd
          subst hn hd
          exact ⟨v, by rw [List.lookup_cons, beq_self_eq_true], r1⟩
        | succ i =>
          have hn : (fs.map (·.1))[i]? = some n := by simpa using hn
          have hd : ds[i]? = some d := by simpa using hd
          have hm : n ∈ fs.map (·.1) := List.mem_of_getElem? hn
          have ne : (n == m) = false := by
            rw [beq_eq_false_iff_ne]
            intro z; subst z; exact nd.1 hm
          obtain ⟨w, h1, h2⟩ := nth_ok (i := i) rfl r2 nd.2 hn hd
          exact ⟨w, by rw [List.lookup_cons, ne]; exact h1, h2⟩
theorem names_nodup (c : Nat) : (names c).Nodup := by
  unfold names
  split <;> decide
theorem field_ok {cl : Nat → Addr} {H0 G : Hp} {c f : Nat} {fs : List (Str × V)} {ds : List D} {d : D} (e : fs.map (·.1) = names c) (r : RpA cl H0 G (fs.map (·.2)) ds) (h : attrD (.obj c ds) f = .ok d) : ∃ v, fs.lookup (fieldNm f) = some v ∧ Rp cl H0 G v d ∧ fieldNm f ∈ names c := by
  unfold attrD at h
  simp only at h
  split at h
  · rename_i i hi
    split at h
    · rename_i d' hd
      injection h with h
      subst h
      have hn : (names c)[i]? = some (fieldNm f) := by
        unfold fieldIx at hi
        split at hi <;> first | (injection hi with hi; subst hi; rfl) | cases hi
      obtain ⟨v, h1, h2⟩ := nth_ok e r (names_nodup c) hn hd
      exact ⟨v, h1, h2, List.mem_of_getElem? hn⟩
    · cases h
  · cases h
theorem lookup_none {fs : List (Str × V)} {m : Str} : m ∉ fs.map (·.1) → fs.lookup m = none := by
  induction fs with
  | nil => intro _; rfl
  | cons p fs ih =>
    intro h
    simp only [List.map_cons, List.mem_cons, not_or] at h
    rw [List.lookup_cons, beq_eq_false_iff_ne.mpr h.1]
    exact ih h.2
section
variable {X : Cx} {m : Str} {pos apos : Pos} {e o : Expr} {es : List Expr} {ta : TE} {t : TA}
/-- o.m(e, ..), whatever own class o is of -/
theorem pe_methG {pl : Sem Bool} (he : PE X o ta) (ha : PA X (e :: es) t)
    (hst : starEach (e :: es) X.env = (false, eval e X.env) :: starEach es X.env) (hpl : (backTo pos (starEach es X.env)).any (·.1) = false)
    (ht : eval (.Call (.Attribute o m apos) (e :: es) [] pos) X.env = (do
      let ov ← eval o X.env
      standAt apos.atName
      let (f, first) ← holding [ov] (getMethod ov m pl)
      callWith pos f first (backTo pos (starEach (e :: es) X.env)) (backToKw pos (keywordEach [] X.env)))) :
    PE X (.Call (.Attribute o m apos) (e :: es) [] pos) (fun σ H Q => ta σ H fun x H1 => ∃ (a C dx : Addr) (fs : List (Str × V)) (f : Addr) (fd : FuncData) (ps : List Str) (sp : Sp) (k : Nat) (CX : CXT) (E : XK), x = .ref a ∧ H1 a = some (.ins C dx fs) ∧ fs.lookup m = none ∧ Cls X.K C ∧ Meth X.K C m f ∧
      FnOk X.prog X.w X.K X.mg X.base CX k f fd ps sp ∧ Room k X.A ∧ Binds X.K fd ps [] ∧ Passes CX X E ∧ t σ H1 fun vs H2 => sp (x :: vs) H2 Q E) := by
  refine ⟨fun pins s σ H Q I h => ?_⟩
  refine PySem.W.methodCall_KW (pl := pl) (thn (he.run pins s σ H _ I h) fun u s1 ⟨x, H1, I1, rx, a, C, dx, fs, f, fd, ps, sp, k, CX, E, ex, ea, l, c, hm, F, hr, hb, hx, q⟩ => ?_) ht
  subst ex
  obtain rfl : u = Value.ref a := rx
  refine getmeth_ok I1 ea c hm l ?_
  refine PySem.W.callWith_K (first := [.ref a]) (h₀ := X.base) I.ok.mod.kin hm.kp (thn (ha.run pos pins s1 σ H1 _ I1 q) fun us s2 ⟨vs, H2, I2, r, q2⟩ => ⟨I2.kIn, ?_⟩) hst hpl
  exact run_fn (us := .ref a :: us) (vs := .ref a :: vs) (dvs := []) (ds := []) F hr hb .nil hx I2 (.cons rfl r) (by rw [List.append_nil]; exact q2)
end
theorem meth_form {e : Expr} {m : Str} {apos pos : Pos} {x : Expr} {xs : List Expr} {env : Env} (hb : attributeBase e m env (eval e env) = eval e env) (hl : (apos.endLine == pos.line) = true) (hst : starEach (x :: xs) env = (false, eval x env) :: starEach xs env)
    (hpl : (backTo pos (starEach xs env)).any (·.1) = false) (hn : (x :: xs).length < 30) : eval (.Call (.Attribute e m apos) (x :: xs) [] pos) env = (do
      let ov ← eval e env
      standAt apos.atName
      let (f, first) ← holding [ov] (getMethod ov m (do return (← importBound e env).getD true))
      callWith pos f first (backTo pos (starEach (x :: xs) env)) (backToKw pos (keywordEach [] env))) := by
  have few : methodCallForm ((x :: xs).length + ([] : List Keyword).length) (backTo pos (starEach (x :: xs) env)) (backToKw pos (keywordEach [] env)) = true := by
    have ha : (backTo pos (starEach xs env)).all (fun x => !x.1) = true := by
      rw [List.all_eq_true]
      intro y hy
      have := List.any_eq_false.mp hpl y hy
      simpa using this
    unfold methodCallForm
    rw [hst]
    show ((!false) && (backTo pos (starEach xs env)).all (fun x => !x.1) && true && decide ((x :: xs).length + 0 + 0 < 30)) = true
    rw [ha]
    simp only [Bool.not_false, Bool.and_self, Bool.true_and, decide_eq_true_eq]
    omega
  rw [eval, hb]
  unfold methodCall calleeOf methodCallPos
  rw [few]
  simp only [hl, Bool.not_true, Bool.false_or, if_true]
  rfl
theorem mkD_ok {c : Nat} {ds : List D} {d : D} (h : mkD c ds = .ok d) : ∃ es : List (List D), d = .obj c (es.map (D.lst true)) ∧ es.length = (names c).length ∧ ds.map asList = es.map some := by
  unfold mkD at h
  split at h
  · rename_i a e; injection h with h; subst h; exact ⟨[a], rfl, rfl, e⟩
  · rename_i a b e; injection h with h; subst h; exact ⟨[a, b], rfl, rfl, e⟩
  · rename_i a b k e; injection h with h; subst h; exact ⟨[a, b, k], rfl, rfl, e⟩
  · cases h
theorem lists_of {cl : Nat → Addr} {H0 G : Hp} : ∀ {ds : List D} {es : List (List D)} {vs : List V}, ds.map asList = es.map some → RpA cl H0 G vs ds → ∃ xss : List (List V), xss.length = es.length ∧ vs.length = es.length ∧
    (∀ (j : Nat) (u : V) (xs : List V), vs[j]? = some u → xss[j]? = some xs → ∃ a, u = .ref a ∧ (G a = some (.lst xs) ∨ G a = some (.tup xs))) ∧ ∀ (j : Nat) (xs : List V) (e : List D), xss[j]? = some xs → es[j]? = some e → RpA cl H0 G xs e
  | [], [], _, _, r => by cases r; exact ⟨[], rfl, rfl, by simp, by simp⟩
  | [], _ :: _, _, h, _ => by simp at h
  | _ :: _, [], _, h, _ => by simp at h
  | d :: ds, e :: es, _, h, r => by
    cases r with
    | @cons v vs _ _ r1 r2 =>
      simp only [List.map_cons, List.cons.injEq] at h
      obtain ⟨xss, l1, l2, h1, h2⟩ := lists_of h.2 r2
      have hd : ∃ xs a, v = .ref a ∧ (G a = some (.lst xs) ∨ G a = some (.tup xs)) ∧ RpA cl H0 G xs e := by
        have he := h.1
        unfold asList at he
        split at he
        · injection he with he; subst he
          cases r1 with
          | lst k1 k2 k3 => exact ⟨_, _, rfl, .inl k1, k3⟩
        · injection he with he; subst he
          cases r1 with
          | tup k1 k3 => exact ⟨_, _, rfl, .inr k1, k3⟩
        · cases he
      obtain ⟨xs, a, e1, e2, e3⟩ := hd
      refine ⟨xs :: xss, by simp [l1], by simp [l2], fun j u ys hu hy => ?_, fun j ys e' hy he => ?_⟩
      · cases j with
        | zero => simp at hu hy; subst hu hy; exact ⟨a, e1, e2⟩
        | succ j => exact h1 j u ys (by simpa using hu) (by simpa using hy)
      · cases j with
        | zero => simp at hy he; subst hy he; exact e3
        | succ j => exact h2 j ys e' (by simpa using hy) (by simpa using he)
/-- a new object of one's own -/
theorem made_ok {cl : Nat → Addr} {H0 G H : Hp} {c : Nat} {ds : List D} {d : D} {vs : List V} {C : Addr} (hC : C = cl c) (sg : Same G H) (s0 : Same H0 H) (r : RpA cl H0 G vs ds) (h : mkD c ds = .ok d) {Q : VK} {E : XK} (q : ∀ z G' H', Gr G H G' H' → Rp cl H0 G' z d → Q z H')
    (x dx : Addr) (nx : H x = none) (ndx : H dx = none) (ne : dx ≠ x) : spI C (names c) (.ref x :: vs) (upd (upd H dx (.own x)) x (.ins C dx [])) (fun v H2 => v = .non ∧ Q (.ref x) H2) E := by
  subst hC
  obtain ⟨es, rfl, l1, hm⟩ := mkD_ok h
  obtain ⟨xss, l2, l3, h1, h2⟩ := lists_of hm r
  have gn : ∀ {a : Addr}, H a = none → G a = none := fun {a} ha => by
    cases e : G a with
    | none => rfl
    | some o => rw [sg _ _ e] at ha; cases ha
  have hx : ∀ {a : Addr} {o : HO}, H a = some o → (upd (upd H dx (.own x)) x (.ins (cl c) dx [])) a = some o := fun {a o} e => by
    rw [upd_ne (ne_of_none e nx), upd_ne (ne_of_none e ndx)]; exact e
  refine ⟨x, dx, vs, xss, rfl, upd_same, by omega, by omega, fun j u xs hu hy => ?_, ?_⟩
  · obtain ⟨a, e1, e2⟩ := h1 j u xs hu hy
    have ax : a ≠ x := by
      rcases e2 with e2 | e2 <;> exact ne_of_none (sg _ _ e2) nx
    exact ⟨a, e1, ax, by rcases e2 with e2 | e2; exact .inl (hx (sg _ _ e2)); exact .inr (hx (sg _ _ e2))⟩
  · refine initH_up (H0 := H0) (cl := cl) ((names c).zip xss) es [] G _ (by simp; omega) (fun j p e hp he => ?_) (gn nx) (fun a o e => hx (sg _ _ e)) (fun p hp => ?_) upd_same ?_
    · obtain ⟨hj, hp'⟩ := List.getElem?_eq_some_iff.mp hp
      have : xss[j]? = some p.2 := by
        rw [List.length_zip] at hj
        rw [← hp', List.getElem_zip]
        exact List.getElem?_eq_getElem (by omega)
      exact h2 j p.2 e this he
    · have px : p ≠ x := fun z => by subst z; rw [upd_same] at hp; cases hp
      rw [upd_ne px] at hp
      have pd : p ≠ dx := fun z => by subst z; rw [upd_same] at hp; cases hp
      rw [upd_ne pd] at hp
      exact s0.free hp
    · intro G' H' zs s1 o1 gx' hh gh' lz hx' rz
      refine ⟨rfl, q (.ref x) (upd G' x (.ins (cl c) dx ((names c).zip zs))) H' ⟨fun a o e => hh a o (ne_of_none e nx) (hx e), fun a o e => ?_, fun a o e => ?_, fun a ha => ?_⟩ ?_⟩
      · rw [upd_ne (ne_of_none e (gn nx))]; exact s1 _ _ e
      · by_cases ax : a = x
        · subst ax
          rw [upd_same] at e
          rw [← e, hx']
          have : ((names c).zip xss).map (·.1) = names c := List.map_fst_zip (by omega)
          rw [this]; rfl
        · rw [upd_ne ax] at e; exact gh' _ _ e
      · have ax : a ≠ x := fun z => by subst z; exact ha nx
        rw [upd_ne ax, o1 a (by
          cases e : H a with
          | none => exact absurd e ha
          | some o => rw [hx e]; simp)]
      · have lz' : zs.length = (names c).length := by rw [lz]; simp; omega
        refine .obj (xs := zs) upd_same (List.map_fst_zip (by omega)) (List.map_snd_zip (by omega)) (RpA.mono (fun a o e => ?_) _ rz)
        rw [upd_ne (ne_of_none e gx')]; exact e
theorem tV_mono {cl xa : Nat → Addr} {H0 : Hp} {W : WX} {ρ : Rho} {top : Bool} {r : R D} : ∀ σ H (Q Q' : VK), tV cl xa H0 W ρ top r σ H Q → (∀ v H', Q v H' → Q' v H') → tV cl xa H0 W ρ top r σ H Q' := fun σ H Q Q' ⟨G, rep, q⟩ k => ⟨G, rep, by
  cases r with
  | ok d => exact fun v G' H' g rp n => k v H' (q v G' H' g rp n)
  | exc c => exact q
  | bad => exact q⟩
theorem setL_ok {x : D} {ns : List Int} (h : setL x = .ok ns) : ∃ f xs, x = .lst f xs ∧ intsD xs = some ns ∧ ns.length < 60 := by
  unfold setL at h
  split at h
  · rename_i f xs
    split at h
    · rename_i ms hm
      split at h
      · rename_i hl; injection h with h; subst h; exact ⟨f, xs, rfl, hm, hl⟩
      · cases h
    · cases h
  · cases h
theorem setL_ne {x : D} {c : Nat} : setL x ≠ .exc c := by
  unfold setL
  split <;> first | (intro z; cases z; done) | (split <;> first | (intro z; cases z; done) | (split <;> (intro z; cases z)))
theorem ints_rp {cl : Nat → Addr} {H0 G : Hp} : ∀ ms : List Int, RpA cl H0 G (ms.map V.int) (ms.map D.int)
  | [] => .nil
  | m :: ms => .cons (.int m) (ints_rp ms)
end Wt
/-! ## Rules that the layer lacks: t[::-1], xs[k::2], list(d.values()) -/
namespace HT
open PySem PySem.Spec PyProof.Rows L2
section
variable {prog : Program} {w : World} {A : Around} {E : Value → Shared → Prop} {s : Shared}
theorem adjust_rev (n : Nat) : Builtin.Slice.sliceAdjust none none (-1) (n : Int) = ((n : Int) - 1, -1) := by
  unfold Builtin.Slice.sliceAdjust
  simp
theorem places_rev (n : Nat) : Builtin.Slice.slicePlaces ((n : Int) - 1) (-1) (-1) = n := by
  unfold Builtin.Slice.slicePlaces
  simp
  omega
theorem sliceApplied_rev {sl : Addr} {vs : Value} {n : Nat} {Q : Int × Int × Nat → Shared → Prop} (hs : s.heap.IsSliceOf sl .none .none vs) (ps : IsPart vs (some (-1)))
    (h : Q ((n : Int) - 1, -1, n) s) : wpAny (model prog w) A (Builtin.Slice.sliceApplied (.ref sl) (pure (n : Int))) Q E s := by
  obtain ⟨os, hos, hcs, hds⟩ := id hs
  unfold Builtin.Slice.sliceApplied Builtin.Slice.sliceFields
  refine wpAny_bind (wpAny_bind (wpAny_field hos hds (x := .none) rfl (wpAny_bind (wpAny_field hos hds (x := .none) rfl (wpAny_bind (wpAny_field hos hds (x := vs) rfl (wpAny_pure ?_)))))))
  refine wpAny_bind (slicePart_ ps ?_)
  show wpAny _ _ (if ((-1 : Int) == 0) = true then _ else _) _ _ s
  rw [if_neg (by decide)]
  refine wpAny_bind (slicePart_ .none (wpAny_bind (slicePart_ .none (wpAny_bind (wpAny_pure ?_)))))
  show wpAny _ _ (match Builtin.Slice.sliceAdjust none none (-1) (n : Int) with | (lo, hi) => pure (lo, (-1 : Int), Builtin.Slice.slicePlaces lo hi (-1))) _ _ s
  rw [adjust_rev n]
  show wpAny _ _ (pure ((n : Int) - 1, (-1 : Int), Builtin.Slice.slicePlaces ((n : Int) - 1) (-1) (-1))) _ _ s
  rw [places_rev]
  exact wpAny_pure h
theorem pick_rev (xs : Array Value) : ((List.range xs.size).filterMap fun (m : Nat) => xs[((xs.size : Int) - 1 + (m : Int) * -1).toNat]?).toArray = xs.toList.reverse.toArray := by
  have e : (fun (m : Nat) => xs[((xs.size : Int) - 1 + (m : Int) * -1).toNat]?) = (fun k => xs[k]?) ∘ fun (m : Nat) => ((xs.size : Int) - 1 - m).toNat := by
    funext m
    have : ((xs.size : Int) - 1 + (m : Int) * -1).toNat = ((xs.size : Int) - 1 - m).toNat := by omega
    rw [this]; rfl
  rw [e, ← List.filterMap_map]
  have e2 : (List.range xs.size).map (fun m => ((xs.size : Int) - 1 - (m : Nat)).toNat) = (List.range xs.size).reverse := by
    rw [← PySem.W.krv_range]
    apply List.map_congr_left
    intro m hm
    omega
  have e3 : (List.range xs.size).map (fun m : Nat => ((xs.size : Int) - 1 - m).toNat) = (List.range xs.size).reverse := e2
  rw [e3, List.filterMap_reverse, PySem.W.krv_all]
theorem getItem_tuple_rev {t sl : Addr} {items : Array Value} {vs : Value} {Q : Value → Shared → Prop} (ht : IsTup s.heap t items) (hs : s.heap.IsSliceOf sl .none .none vs) (ps : IsPart vs (some (-1)))
    (h : Q (.ref s.heap.objs.size) { s with heap := s.heap.push { cls := .type "tuple", data := .seq items.toList.reverse.toArray } })
    (hsz : items.size ≤ sizeLine) : wpAny (model prog w) A (getItem (.ref t) (.ref sl)) Q E s := by
  have htake : sizeOk (.seq items.toList.reverse.toArray) := by
    show items.toList.reverse.toArray.size ≤ sizeLine
    rw [List.size_toArray, List.length_reverse, Array.length_toList]
    exact hsz
  obtain ⟨os, hos, hcs, hds⟩ := id hs
  have hTs : s.TypeIs (.ref sl) "slice" := ⟨os, hos, hcs⟩
  unfold getItem
  try with_reducible refine wpAny_holding ?_
  first | refine wpAny_bind (wpAny_pure ?_) | skip
  refine wpAny_bind (wpAny_sequenceKey ht.typeIs (by decide) ?_)
  refine wpAny_bind (wpAny_callSpecial?_slot (name := Str.ofString "__getitem__") ht.typeIs PyProof.Rows.slot_tuple_getitem
    (wpAny_call_entry PyProof.Rows.slot_tuple_getitem ht.typeIs entry_tuple_getitem ?_ (args_tuple_getitem _ _)))
  show wpAny _ _ (Builtin.Tuple.tupleItemsOf (.ref t) >>= _) _ _ s
  refine wpAny_bind (tupleItemsOf_ ht ?_)
  refine wpAny_bind (wpAny_typeOf hTs ?_)
  rw [if_pos (by decide)]
  refine wpAny_bind (sliceApplied_rev hs ps ?_)
  have hno : ¬ ((((items.size : Int) - 1) == 0 && (-1 : Int) == 1 && items.size == items.size) = true) := by
    rw [show ((-1 : Int) == 1) = false from rfl, Bool.and_false, Bool.false_and]
    exact Bool.false_ne_true
  show wpAny _ _ (if (((items.size : Int) - 1) == 0 && (-1 : Int) == 1 && items.size == items.size) = true then _ else _) _ _ s
  rw [if_neg hno, pick_rev]
  first
    | exact wpAny_bind (m := Builtin.Tuple.tupleExact _) (wpAny_newObj_type (wpAny_pure ⟨_, rfl, wpAny_pure h⟩) htake)
    | exact wpAny_bind (m := Builtin.Tuple.tupleExact _) (wpAny_newObj_type (wpAny_bind (wpAny_pure (wpAny_pure ⟨_, rfl, wpAny_pure h⟩))) htake)
    | exact wpAny_bind (wpAny_bind (m := Builtin.Tuple.tupleExact _) (wpAny_newObj_type (wpAny_pure (wpAny_pure ⟨_, rfl, wpAny_pure h⟩)) htake))
    | exact wpAny_bind (wpAny_bind (m := Builtin.Tuple.tupleExact _) (wpAny_newObj_type (wpAny_pure ⟨_, rfl, wpAny_pure h⟩) htake))
end
end HT
namespace Wt
open PySem PySem.Spec PyProof.Rows L2
/-- t[::-1] -/
def tRevT (K : PySem.W.Frag) (te : TE) : TE := fun σ H Q => te σ H fun x H1 => ∃ a xs, x = .ref a ∧ SqT K H1 a xs ∧ ∀ p, H1 p = none → Q (.ref p) (upd H1 p (.tup xs.reverse))
theorem pe_revT {X : Cx} {e : Expr} {te : TE} {k : Nat} {p1 p2 p3 pos : Pos} (he : PE X e te) : PE X (.Subscript e (.Slice none none (some (.UnaryOp .USub (.Constant (.int 1) k p1) p2)) p3) pos) (tRevT X.K te) := by
  refine ⟨fun pins s σ H Q I h => ?_⟩
  refine Subscript_ (thn (he.run pins s σ H _ I h) fun v s1 ⟨x, H1, I1, r1, q1⟩ => ?_)
  obtain ⟨a, xs, ex, hx, q⟩ := q1
  subst ex
  cases r1
  have hst : PO X (some (.UnaryOp .USub (.Constant (.int 1) k p1) p2)) (tPart (tUn (rU fun i => .int (-i)) (tC (.int 1)))) := po_some (pe_un un_neg pe_int)
  refine wpAny_Slice (thn (po_none.run pins s1 σ H1 (fun o H2 => o = none ∧ H2 = H1) I1 ⟨rfl, rfl⟩) fun vl s2 ⟨l, H2, I2, pl, el, e2⟩ => ?_)
  subst el e2
  refine thn (po_none.run pins s2 σ H2 (fun o H3 => o = none ∧ H3 = H2) I2 ⟨rfl, rfl⟩) fun vu s3 ⟨u, H3, I3, pu, eu, e3⟩ => ?_
  subst eu e3
  refine thn (hst.run pins s3 σ H3 (fun o H4 => o = some (-1) ∧ H4 = H3) I3 ⟨1, rfl, -1, rfl, rfl, rfl⟩) fun vs s4 ⟨o, H4, I4, ps, eo, e4⟩ => ?_
  subst eo e4
  cases pl
  cases pu
  have I5 : Inv X pins σ H4 { s4 with heap := s4.heap.push { cls := .type "slice", data := .fields #[.none, .none, vs] } } := I4.kept (t' := s4.toks) fun b ob q => Heap.get?_push_of_some _ q
  obtain ⟨its, r, ht, hz⟩ := I5.tuple hx
  have hlen := r.length
  show wpAny (model X.prog X.w) X.A (subscriptTail e (.Slice none none (some (.UnaryOp .USub (.Constant (.int 1) k p1) p2)) p3) (.ref a) (.ref s4.heap.objs.size)) (EP X pins σ Q) X.xe { s4 with heap := s4.heap.push { cls := .type "slice", data := .fields #[.none, .none, vs] } }
  refine tail_any (ops := [.ref a, .ref s4.heap.objs.size]) ht.typeIs (PyProof.Rows.slot_tuple_getitem.lookup) ?_ (by with_unfolding_all rfl)
  refine HT.getItem_tuple_rev ht (Heap.IsSliceOf.new _ .none .none vs) ps ?_ (by rw [List.size_toArray, ← hlen]; exact hz)
  refine ⟨.ref _, _, I5.laid (t' := s4.toks) (o := .tup xs.reverse) (fun b ob q => Heap.get?_push_of_some _ q) (Nat.le_refl _) ?_, rfl, q _ (I5.hok.fresh (Nat.le_refl _))⟩
  exact ⟨by rw [List.length_reverse]; exact hz, _, r.reverse, ⟨_, Heap.get?_push_size _ rfl, rfl, 0, rfl⟩⟩
/-- xs[::-1], a tuple or a list -/
def tRevA (K : PySem.W.Frag) (te : TE) : TE := fun σ H Q => te σ H fun x H1 => ∃ a xs, x = .ref a ∧ ((SqT K H1 a xs ∧ ∀ p, H1 p = none → Q (.ref p) (upd H1 p (.tup xs.reverse))) ∨ (SqL K H1 a xs ∧ ∀ p, H1 p = none → Q (.ref p) (upd H1 p (.lst xs.reverse))))
theorem pe_revA {X : Cx} {e : Expr} {te : TE} {k : Nat} {p1 p2 p3 pos : Pos} (he : PE X e te) : PE X (.Subscript e (.Slice none none (some (.UnaryOp .USub (.Constant (.int 1) k p1) p2)) p3) pos) (tRevA X.K te) := by
  refine ⟨fun pins s σ H Q I h => ?_⟩
  refine Subscript_ (thn (he.run pins s σ H _ I h) fun v s1 ⟨x, H1, I1, r1, q1⟩ => ?_)
  obtain ⟨a, xs, ex, hq⟩ := q1
  subst ex
  cases r1
  have hst : PO X (some (.UnaryOp .USub (.Constant (.int 1) k p1) p2)) (tPart (tUn (rU fun i => .int (-i)) (tC (.int 1)))) := po_some (pe_un un_neg pe_int)
  refine wpAny_Slice (thn (po_none.run pins s1 σ H1 (fun o H2 => o = none ∧ H2 = H1) I1 ⟨rfl, rfl⟩) fun vl s2 ⟨l, H2, I2, pl, el, e2⟩ => ?_)
  subst el e2
  refine thn (po_none.run pins s2 σ H2 (fun o H3 => o = none ∧ H3 = H2) I2 ⟨rfl, rfl⟩) fun vu s3 ⟨u, H3, I3, pu, eu, e3⟩ => ?_
  subst eu e3
  refine thn (hst.run pins s3 σ H3 (fun o H4 => o = some (-1) ∧ H4 = H3) I3 ⟨1, rfl, -1, rfl, rfl, rfl⟩) fun vs s4 ⟨o, H4, I4, ps, eo, e4⟩ => ?_
  subst eo e4
  cases pl
  cases pu
  have I5 : Inv X pins σ H4 { s4 with heap := s4.heap.push { cls := .type "slice", data := .fields #[.none, .none, vs] } } := I4.kept (t' := s4.toks) fun b ob q => Heap.get?_push_of_some _ q
  rcases hq with ⟨hx, q⟩ | ⟨hx, q⟩
  · obtain ⟨its, r, ht, hz⟩ := I5.tuple hx
    have hlen := r.length
    show wpAny (model X.prog X.w) X.A (subscriptTail e (.Slice none none (some (.UnaryOp .USub (.Constant (.int 1) k p1) p2)) p3) (.ref a) (.ref s4.heap.objs.size)) (EP X pins σ Q) X.xe { s4 with heap := s4.heap.push { cls := .type "slice", data := .fields #[.none, .none, vs] } }
    refine tail_any (ops := [.ref a, .ref s4.heap.objs.size]) ht.typeIs (PyProof.Rows.slot_tuple_getitem.lookup) ?_ (by with_unfolding_all rfl)
    refine HT.getItem_tuple_rev ht (Heap.IsSliceOf.new _ .none .none vs) ps ?_ (by rw [List.size_toArray, ← hlen]; exact hz)
    refine ⟨.ref _, _, I5.laid (t' := s4.toks) (o := .tup xs.reverse) (fun b ob q => Heap.get?_push_of_some _ q) (Nat.le_refl _) ?_, rfl, q _ (I5.hok.fresh (Nat.le_refl _))⟩
    exact ⟨by rw [List.length_reverse]; exact hz, _, r.reverse, ⟨_, Heap.get?_push_size _ rfl, rfl, 0, rfl⟩⟩
  · obtain ⟨its, r, ht, hz⟩ := I5.list hx
    have hlen := r.length
    show wpAny (model X.prog X.w) X.A (subscriptTail e (.Slice none none (some (.UnaryOp .USub (.Constant (.int 1) k p1) p2)) p3) (.ref a) (.ref s4.heap.objs.size)) (EP X pins σ Q) X.xe { s4 with heap := s4.heap.push { cls := .type "slice", data := .fields #[.none, .none, vs] } }
    refine tail_any (ops := [.ref a, .ref s4.heap.objs.size]) ht.isList.typeIs (PySem.slot_list_getitem.lookup) ?_ (by with_unfolding_all rfl)
    refine wpAny_getItem_list_slice ht.isList (Heap.IsSliceOf.new _ .none .none vs) .none .none ps (by decide) ?_ (by rw [List.size_toArray]; omega)
    rw [PySem.W.krv_pick]
    refine ⟨.ref _, _, I5.laid (t' := s4.toks) (o := .lst xs.reverse) (fun b ob q => Heap.get?_push_of_some _ q) (Nat.le_refl _) ?_, rfl, q _ (I5.hok.fresh (Nat.le_refl _))⟩
    exact ⟨by rw [List.length_reverse]; exact hz, _, 0, r.reverse, Heap.get?_push_size _ rfl⟩
end Wt
namespace Wt
open PySem PySem.Spec PyProof.Rows L2 LiI
/-! ### list(d.values()) -/
def tListVals (te : TE) : TE := fun σ H Q => te σ H fun x H1 => ∃ (d : Addr) (kvs : List (Key × V)), x = .ref d ∧ H1 d = some (.dK kvs) ∧ ∀ p, H1 p = none → Q (.ref p) (upd H1 p (.lst (kvs.map (·.2))))
theorem vals_of {xs : List V} : ∀ {us : List Value}, us.length = xs.length → (∀ (j : Nat) (u : Value), us[j]? = some u → ∃ x, xs[j]? = some x ∧ RelV x u) → Vals xs us := by
  induction xs with
  | nil => intro us h _; cases us with
    | nil => exact .nil
    | cons _ _ => simp at h
  | cons x xs ih =>
    intro us h r
    cases us with
    | nil => simp at h
    | cons u us =>
      obtain ⟨y, e, ry⟩ := r 0 u rfl
      simp at e
      subst e
      exact .cons ry (ih (by simpa using h) fun j v e => by
        obtain ⟨y, e2, ry⟩ := r (j + 1) v (by simpa using e)
        exact ⟨y, by simpa using e2, ry⟩)
theorem pe_listVals {X : Cx} {e : Expr} {te : TE} {p apos cpos pos : Pos} (hc : X.calm = true) (he : PE X e te) (hg : Gl X "list") (hm : X.mg "list" = none) (hv : bootBuiltins "list" = some (.type "list")) (hbase : attributeBase e "values" X.env (eval e X.env) = eval e X.env := by rfl) (hline : (apos.endLine == cpos.line) = true := by rfl)
    (hs : starEach [.Call (.Attribute e "values" apos) [] [] cpos] X.env = (false, eval (.Call (.Attribute e "values" apos) [] [] cpos) X.env) :: starEach [] X.env := by rfl) :
    PE X (.Call (.Name "list" p) [.Call (.Attribute e "values" apos) [] [] cpos] [] pos) (tListVals te) := by
  refine ⟨fun pins s σ H Q I hq => ?_⟩
  refine wpAny_Call_Name_kw (ld_blt I hg hm hv ?_)
  refine PyProof.Rows.callWith_type1 ?_ hs rfl
  rw [hs]
  show wpAny _ _ (spliced ((false, eval (.Call (.Attribute e "values" apos) [] [] cpos) X.env) :: backTo pos (starEach [] X.env))) _ _ s
  refine Calls.spliced_cons ?_
  refine wpAny_Call_method (T := "dict") (id := "dict.values") hbase rfl hline F.plainAttrs_dict F.slot_dict_values F.type_dict_values (thn (he.run pins s σ H _ I hq) fun u s1 ⟨x, H1, I1, rx, d, kvs, ex, hd, q⟩ => ?_)
  subst ex
  obtain rfl : u = Value.ref d := rx
  obtain ⟨hz, hs0, vs, kv, hdo⟩ := I1.hok d _ hd
  obtain ⟨ep, hat⟩ := hdo.dictAt
  have lk : kvs.length = vs.length := Paired.length kv
  have I2 : Inv X pins σ H1 { s1 with heap := s1.heap.push { cls := .type "dict_values", data := .fields #[.ref d] } } := I1.kept (t' := s1.toks) fun b ob q => Heap.get?_push_of_some _ q
  refine ⟨hdo.typeIs, hdo.mapOf.noDict, ?_⟩
  show wpAny _ _ (callWith cpos (.builtin "dict.values") [.ref d] [] []) _ X.xe s1
  refine method_meetsIn F.slot_dict_values F.entry_dict_values rfl (PySem.evalArgs_none ⟨rfl, hdo.typeIs, F.args_dict_values_1 _, _, meets_dict_values (mixKind X.prog X.w) d hs0, ⟨vs, hdo⟩, ?_⟩)
  refine Calls.spliced_nil ?_
  refine PySem.W.kdl_call (PySem.W.kdl_values (knd := mixKind X.prog X.w) (kvs := vs) (ep := ep)) (I1.ok.hd hc) ⟨⟨_, Heap.get?_push_size _ rfl, rfl, rfl⟩, hat.push _⟩ (by omega) fun h' tk acc c hk hS hacc => ?_
  obtain ⟨ha1, ha2⟩ := hacc
  refine ⟨.ref _, _, I2.laid (t' := tk) (o := .lst (kvs.map (·.2))) hk (Nat.le_refl _) ?_, rfl, q _ (I2.hok.fresh (Nat.le_refl _))⟩
  refine ⟨by rw [List.length_map]; exact hz, acc.toList, c, vals_of (by rw [Array.length_toList, ha1, List.length_map]; exact lk.symm) fun j u e => ?_, by rw [Array.toArray_toList]; exact hS⟩
  obtain ⟨kk, e3⟩ := ha2 j u (by rw [← Array.getElem?_toList]; exact e)
  have hj : j < kvs.length := by
    have := List.getElem?_eq_some_iff.mp e3; obtain ⟨h, _⟩ := this; omega
  have e4 : kvs[j]? = some kvs[j] := List.getElem?_eq_getElem hj
  obtain ⟨qv, g1, g2, g3⟩ := L2.paired_get kv e4
  rw [e3] at g1
  cases g1
  exact ⟨kvs[j].2, by rw [List.getElem?_map, e4]; rfl, g3⟩

/-! ### xs[::2], xs[1::2] -/
theorem range_two (n k : Nat) : sliceRange (k : Int) (n : Int) 2 = (List.range ((n - k + 1) / 2)).map fun m => k + 2 * m := by
  unfold sliceRange
  have h1 : (2 : Int) > 0 := by decide
  by_cases h : (k : Int) < (n : Int)
  · have e : (((n : Int) - k + 2 - 1) / 2).toNat = (n - k + 1) / 2 := by omega
    simp only [h1, if_true, h, e]
    apply List.map_congr_left
    intro m hm
    omega
  · have e : (n - k + 1) / 2 = 0 := by omega
    simp only [h1, if_true, h, if_false, e]
    simp
theorem second_get {α : Type} : ∀ (xs : List α) (m : Nat), (second xs)[m]? = xs[2 * m]?
  | [], m => by simp [second]
  | [x], 0 => rfl
  | [x], m + 1 => by simp [second]
  | x :: y :: r, 0 => rfl
  | x :: y :: r, m + 1 => by
    rw [second, List.getElem?_cons_succ, second_get r m]
    show _ = (x :: y :: r)[2 * m + 1 + 1]?
    rfl
theorem second_len {α : Type} : ∀ (xs : List α), (second xs).length = (xs.length + 1) / 2
  | [] => by simp [second]
  | [x] => by simp [second]
  | x :: y :: r => by rw [second, List.length_cons, second_len r]; simp; omega
theorem pick_two (items : Array Value) (k : Nat) (lo : Option Int) (hlo : sliceBounds lo none (some 2) items.size = (((min k items.size : Nat) : Int), (items.size : Int), 2)) : slicePick items lo none (some 2) = (second (items.toList.drop k)).toArray := by
  unfold slicePick
  rw [hlo]
  show ((sliceRange ((min k items.size : Nat) : Int) (items.size : Int) 2).filterMap (items[·]?)).toArray = _
  rw [range_two]
  congr 1
  rw [List.filterMap_map]
  have hl : (items.size - min k items.size + 1) / 2 = (second (items.toList.drop k)).length := by
    rw [second_len, List.length_drop, Array.length_toList]; omega
  rw [hl]
  generalize hz : second (items.toList.drop k) = zs
  have hg : ∀ m, m < zs.length → (fun m => items[min k items.size + 2 * m]?) m = zs[m]? := fun m hm => by
    rw [← hz, second_get, List.getElem?_drop, Array.getElem?_toList]
    show items[min k items.size + 2 * m]? = items[k + 2 * m]?
    by_cases hk : k ≤ items.size
    · rw [Nat.min_eq_left hk]
    · exfalso
      rw [← hz, second_len, List.length_drop, Array.length_toList] at hm
      omega
  have main : ∀ (n : Nat), n ≤ zs.length → (List.range n).filterMap ((fun x => items[x]?) ∘ fun m => min k items.size + 2 * m) = zs.take n := by
    intro n
    induction n with
    | zero => intro _; simp
    | succ n ih =>
      intro hn
      rw [List.range_succ, List.filterMap_append, ih (by omega), List.take_succ]
      congr 1
      have := hg n (by omega)
      simp only [Function.comp, List.filterMap_cons, List.filterMap_nil]
      simp only at this
      rw [this, List.getElem?_eq_getElem (by omega)]
      rfl
  rw [main zs.length (Nat.le_refl _), List.take_length]
def tTwo (K : PySem.W.Frag) (k : Nat) (te : TE) : TE := fun σ H Q => te σ H fun x H1 => ∃ a xs, x = .ref a ∧ SqL K H1 a xs ∧ ∀ p, H1 p = none → Q (.ref p) (upd H1 p (.lst (second (xs.drop k))))
theorem vals_second : ∀ {xs : List V} {us : List Value}, Vals xs us → Vals (second xs) (second us)
  | [], _, .nil => .nil
  | [_], _, .cons h .nil => .cons h .nil
  | _ :: _ :: _, _, .cons h (.cons _ t) => .cons h (vals_second t)
theorem vals_drop : ∀ {xs : List V} {us : List Value} (k : Nat), Vals xs us → Vals (xs.drop k) (us.drop k)
  | _, _, 0, h => h
  | [], _, k + 1, .nil => .nil
  | _ :: _, _, k + 1, .cons _ t => vals_drop k t
theorem pe_two0 {X : Cx} {e : Expr} {te : TE} {j : Nat} {p1 p3 pos : Pos} (he : PE X e te) : PE X (.Subscript e (.Slice none none (some (.Constant (.int 2) j p1)) p3) pos) (tTwo X.K 0 te) := by
  refine ⟨fun pins s σ H Q I h => ?_⟩
  refine Subscript_ (thn (he.run pins s σ H _ I h) fun v s1 ⟨x, H1, I1, r1, q1⟩ => ?_)
  obtain ⟨a, xs, ex, hx, q⟩ := q1
  subst ex
  cases r1
  have hst : PO X (some (.Constant (.int 2) j p1)) (tPart (tC (.int 2))) := po_some pe_int
  refine wpAny_Slice (thn (po_none.run pins s1 σ H1 (fun o H2 => o = none ∧ H2 = H1) I1 ⟨rfl, rfl⟩) fun vl s2 ⟨l, H2, I2, pl, el, e2⟩ => ?_)
  subst el e2
  refine thn (po_none.run pins s2 σ H2 (fun o H3 => o = none ∧ H3 = H2) I2 ⟨rfl, rfl⟩) fun vu s3 ⟨u, H3, I3, pu, eu, e3⟩ => ?_
  subst eu e3
  refine thn (hst.run pins s3 σ H3 (fun o H4 => o = some 2 ∧ H4 = H3) I3 ⟨2, rfl, rfl, rfl⟩) fun vs s4 ⟨o, H4, I4, ps, eo, e4⟩ => ?_
  subst eo e4
  have I5 : Inv X pins σ H4 { s4 with heap := s4.heap.push { cls := .type "slice", data := .fields #[vl, vu, vs] } } := I4.kept (t' := s4.toks) fun b ob q => Heap.get?_push_of_some _ q
  obtain ⟨its, r, ht, hz⟩ := I5.list hx
  have hlen := r.length
  show wpAny (model X.prog X.w) X.A (subscriptTail e (.Slice none none (some (.Constant (.int 2) j p1)) p3) (.ref a) (.ref s4.heap.objs.size)) (EP X pins σ Q) X.xe { s4 with heap := s4.heap.push { cls := .type "slice", data := .fields #[vl, vu, vs] } }
  refine tail_any (ops := [.ref a, .ref s4.heap.objs.size]) ht.isList.typeIs (PySem.slot_list_getitem.lookup) ?_ (by with_unfolding_all rfl)
  refine wpAny_getItem_list_slice ht.isList (Heap.IsSliceOf.new _ vl vu vs) pl pu ps (by decide) ?_ (by rw [List.size_toArray]; omega)
  rw [pick_two _ 0 none (by simp [sliceBounds])]
  refine ⟨.ref _, _, I5.laid (t' := s4.toks) (o := .lst (second (xs.drop 0))) (fun b ob q => Heap.get?_push_of_some _ q) (Nat.le_refl _) ?_, rfl, q _ (I5.hok.fresh (Nat.le_refl _))⟩
  exact ⟨by rw [second_len, List.length_drop]; omega, _, 0, vals_second (vals_drop 0 r), Heap.get?_push_size _ rfl⟩
theorem pe_two1 {X : Cx} {e : Expr} {te : TE} {j j0 : Nat} {p0 p1 p3 pos : Pos} (he : PE X e te) : PE X (.Subscript e (.Slice (some (.Constant (.int 1) j0 p0)) none (some (.Constant (.int 2) j p1)) p3) pos) (tTwo X.K 1 te) := by
  refine ⟨fun pins s σ H Q I h => ?_⟩
  refine Subscript_ (thn (he.run pins s σ H _ I h) fun v s1 ⟨x, H1, I1, r1, q1⟩ => ?_)
  obtain ⟨a, xs, ex, hx, q⟩ := q1
  subst ex
  cases r1
  have hst : PO X (some (.Constant (.int 2) j p1)) (tPart (tC (.int 2))) := po_some pe_int
  have hlo : PO X (some (.Constant (.int 1) j0 p0)) (tPart (tC (.int 1))) := po_some pe_int
  refine wpAny_Slice (thn (hlo.run pins s1 σ H1 (fun o H2 => o = some 1 ∧ H2 = H1) I1 ⟨1, rfl, rfl, rfl⟩) fun vl s2 ⟨l, H2, I2, pl, el, e2⟩ => ?_)
  subst el e2
  refine thn (po_none.run pins s2 σ H2 (fun o H3 => o = none ∧ H3 = H2) I2 ⟨rfl, rfl⟩) fun vu s3 ⟨u, H3, I3, pu, eu, e3⟩ => ?_
  subst eu e3
  refine thn (hst.run pins s3 σ H3 (fun o H4 => o = some 2 ∧ H4 = H3) I3 ⟨2, rfl, rfl, rfl⟩) fun vs s4 ⟨o, H4, I4, ps, eo, e4⟩ => ?_
  subst eo e4
  have I5 : Inv X pins σ H4 { s4 with heap := s4.heap.push { cls := .type "slice", data := .fields #[vl, vu, vs] } } := I4.kept (t' := s4.toks) fun b ob q => Heap.get?_push_of_some _ q
  obtain ⟨its, r, ht, hz⟩ := I5.list hx
  have hlen := r.length
  show wpAny (model X.prog X.w) X.A (subscriptTail e (.Slice (some (.Constant (.int 1) j0 p0)) none (some (.Constant (.int 2) j p1)) p3) (.ref a) (.ref s4.heap.objs.size)) (EP X pins σ Q) X.xe { s4 with heap := s4.heap.push { cls := .type "slice", data := .fields #[vl, vu, vs] } }
  refine tail_any (ops := [.ref a, .ref s4.heap.objs.size]) ht.isList.typeIs (PySem.slot_list_getitem.lookup) ?_ (by with_unfolding_all rfl)
  refine wpAny_getItem_list_slice ht.isList (Heap.IsSliceOf.new _ vl vu vs) pl pu ps (by decide) ?_ (by rw [List.size_toArray]; omega)
  rw [pick_two _ 1 (some 1) (by simp [sliceBounds]; omega)]
  refine ⟨.ref _, _, I5.laid (t' := s4.toks) (o := .lst (second (xs.drop 1))) (fun b ob q => Heap.get?_push_of_some _ q) (Nat.le_refl _) ?_, rfl, q _ (I5.hok.fresh (Nat.le_refl _))⟩
  exact ⟨by rw [second_len, List.length_drop]; omega, _, 0, vals_second (vals_drop 1 r), Heap.get?_push_size _ rfl⟩
end Wt
/-! ## A tree computes what `ev` says -/
namespace Wt
open PySem PySem.Spec PyProof.Rows L2
section
variable {T : Tb} {N : List Str} {Γ : Nat → List D → R D} {A : Ad} {k : Nat} {H0 : Hp}

theorem second_rp {cl : Nat → Addr} {G : Hp} : ∀ {vs : List V} {ds : List D}, RpA cl H0 G vs ds → RpA cl H0 G (second vs) (second ds)
  | _, _, .nil => .nil
  | _, _, .cons h .nil => .cons h .nil
  | _, _, .cons h (.cons _ t) => .cons h (second_rp t)
theorem drop_rp {cl : Nat → Addr} {G : Hp} : ∀ (k : Nat) {vs : List V} {ds : List D}, RpA cl H0 G vs ds → RpA cl H0 G (vs.drop k) (ds.drop k)
  | 0, _, _, h => h
  | _ + 1, _, _, .nil => .nil
  | k + 1, _, _, .cons _ t => drop_rp k t
theorem it_rngC {G : Hp} {lo c : Int} {n : Nat} : ItOk A.cl H0 (Itc lo c n) ((List.range n).map fun i => D.int (lo + (i : Nat) * c)) G :=
  ⟨fun _ => True, YFn fun i => .int (lo + (i : Nat) * c), by rw [List.length_map, List.length_range]; exact walk_rangeC, fun _ _ _ _ => trivial, fun i d x G2 H2 H3 e s1 s2 y => by
    obtain ⟨rfl, rfl⟩ := y
    rw [List.getElem?_map, Option.map_eq_some_iff] at e
    obtain ⟨j, e1, rfl⟩ := e
    have ej : j = i := by
      have hl : i < n := by
        have := List.getElem?_eq_some_iff.mp e1; obtain ⟨h, _⟩ := this; simpa using h
      rw [List.getElem?_range hl] at e1
      injection e1 with e1
      exact e1.symm
    subst ej
    exact ⟨G2, Gr.refl s2, .int _⟩⟩
/-- built-ins by their names -/
theorem bi_in (o : Bi) : biName o ∈ bltNames := by cases o <;> decide
theorem bi_boot (o : Bi) : bootBuiltins (biName o) = some (biF o) := by cases o <;> decide +kernel
theorem bi_nm (o : Bi) : biName o ≠ ("__name__" : Str) ∧ (biName o == ("__debug__" : Str)) = false := by cases o <;> decide
theorem pe_bi {X : Cx} {b : Bk} {W : WX} (C : Cok T N Γ A k X b W) {o : Bi} {p pos : Pos} {a : Expr} {as : List Expr} {t : TA} (hg : glB b.sc (biName o) = true) (ha : PA X (a :: as) t)
    (he : starEach (a :: as) X.env = (false, eval a X.env) :: starEach as X.env) (hpl : (backTo pos (starEach as X.env)).any (·.1) = false) : PE X (.Call (.Name (biName o) p) (a :: as) [] pos) (tCB (rC A.cl H0 (biD o)) t) := by
  have hc := callR_of (ca_ok (cl := A.cl) (H0 := H0) C.hu C.calm o)
  obtain ⟨n1, n2⟩ := bi_nm o
  have hb := bi_boot o
  have hm := C.blt (bi_in o)
  have g := glB_ok C.sc hg
  cases o with
  | list => exact pe_callTy hc g hm hb ha n1 n2 he hpl
  | len => exact pe_callB hc g hm hb ha n1 n2 he hpl
  | sum => exact pe_callB hc g hm hb ha n1 n2 he hpl
  | abs => exact pe_callB hc g hm hb ha n1 n2 he hpl
  | min2 => exact pe_callB hc g hm hb ha n1 n2 he hpl
  | max2 => exact pe_callB hc g hm hb ha n1 n2 he hpl
  | minl => exact pe_callB hc g hm hb ha n1 n2 he hpl
  | maxl => exact pe_callB hc g hm hb ha n1 n2 he hpl
  | sorted => exact pe_callB hc g hm hb ha n1 n2 he hpl
  | all => exact pe_callB hc g hm hb ha n1 n2 he hpl
  | any => exact pe_callB hc g hm hb ha n1 n2 he hpl
theorem plainIx {b : Bk} {a : E} {ex : Expr} (h : chk T N b a ex = true) : PlainIx ex := by
  intro o i
  cases ex <;> first | rfl | exact (chk_slice h).elim
theorem bi_fin {X : Cx} {b : Bk} {W : WX} {o : Bi} {ρ : Rho} {es : E} {a : Expr} {as : List Expr} {p pos : Pos} (P : ∀ ρ, PA X (a :: as) (tAs A.cl A.xa H0 W ρ (evs Γ es ρ)))
    (hp : ∀ {t : TA}, PA X (a :: as) t → PE X (.Call (.Name (biName o) p) (a :: as) [] pos) (tCB (rC A.cl H0 (biD o)) t)) : PE X (.Call (.Name (biName o) p) (a :: as) [] pos) (tV A.cl A.xa H0 W ρ true (ev Γ (.bi o es) ρ)) := by
  have main : ∀ ρ, PE X (.Call (.Name (biName o) p) (a :: as) [] pos) (tV A.cl A.xa H0 W ρ true ((evs Γ es ρ).bind (biD o))) := fun ρ => by
    refine (hp (P ρ)).imp fun σ H Q ⟨G, rep, q⟩ => ⟨G, rep, u_AV q fun ds vs G1 H1 e g r q1 => ?_⟩
    cases e2 : biD o ds with
    | ok c =>
      rw [e2] at q1
      exact ⟨G1, ds, c, g.gh, rep.sub0.trans g.hh, r, e2, fun z G' H' g' rz nz => q1 z G' H' g' rz fun _ => nz⟩
    | exc c => exact absurd e2 biD_ne
    | bad => rw [e2] at q1; exact q1.elim
  rw [show ev Γ (.bi o es) ρ = if o.atom = true then (evs Γ es (shareAll ρ)).bind (biD o) else (evs Γ es ρ).bind (biD o) from by rw [ev]]
  by_cases ha : o.atom = true
  · rw [if_pos ha]
    refine PE.share (fun d e => ?_) (main (shareAll ρ))
    cases e2 : evs Γ es (shareAll ρ) with
    | ok ds => rw [e2] at e; exact biD_atom ha e
    | exc c => rw [e2] at e; cases e
    | bad => rw [e2] at e; cases e
  · rw [if_neg ha]
    exact main ρ

theorem bm_few {env : Env} {e : Expr} {cpos : Pos} (st : starEach [e] env = (false, eval e env) :: starEach [] env) : ((backTo cpos (starEach [e] env)).all (fun x => !x.1) && (backToKw cpos (keywordEach [] env)).all (fun x => x.1.isSome)
      && decide (([e] : List Expr).length + ([] : List Keyword).length + (if ([] : List Keyword).isEmpty then 0 else 1) < 30)) = true := by rw [st]; rfl
mutual
theorem ev_ok : ∀ (e : E) {X : Cx} {b : Bk} {W : WX} (C : Cok T N Γ A k X b W) {ex : Expr} (h : chk T N b e ex = true) (ρ : Rho),
    PE X ex (tV A.cl A.xa H0 W ρ (newTop e) (ev Γ e ρ)) ∧ PT X ex (tX A.cl A.xa H0 W ρ ((ev Γ e ρ).bind toB))
  | .var i, X, b, W, C, ex, h, ρ => by
    obtain ⟨x, p, rfl, hi, hv, hn⟩ := chk_var h
    obtain ⟨n1, n2, n3⟩ := okName_ok hn
    have P : PE X (.Name x p) (tV A.cl A.xa H0 W ρ (newTop (.var i)) (ev Γ (.var i) ρ)) := by
      refine (pe_var (by rw [C.hN]; exact hi) (visB_ok C.sc hv) n1 n2).imp fun σ H Q ⟨G, rep, q⟩ => ?_
      rw [ev] at q
      cases e : ρ.getD i .no with
      | no => rw [e] at q; exact q.elim
      | own ds => rw [e] at q; exact q.elim
      | val d =>
        rw [e] at q
        obtain ⟨v, e1, rp⟩ := rep.val e
        exact ⟨v, e1, q v G H (Gr.refl rep.sub) rp fun z => nomatch z⟩
    exact ⟨P, P.test fun _ => rfl⟩
  | .int i, X, b, W, C, ex, h, ρ => by
    obtain ⟨j, p, rfl⟩ := chk_int h
    have P : PE X (.Constant (.int i) j p) (tV A.cl A.xa H0 W ρ (newTop (.int i)) (ev Γ (.int i) ρ)) := by
      refine pe_int.imp fun σ H Q ⟨G, rep, q⟩ => ?_
      rw [ev] at q
      exact q _ G H (Gr.refl rep.sub) (.int i) fun z => nomatch z
    exact ⟨P, P.test fun _ => rfl⟩
  | .bl i, X, b, W, C, ex, h, ρ => by
    obtain ⟨j, p, rfl⟩ := chk_bl h
    have P : PE X (.Constant (.bool i) j p) (tV A.cl A.xa H0 W ρ (newTop (.bl i)) (ev Γ (.bl i) ρ)) := by
      refine pe_bl.imp fun σ H Q ⟨G, rep, q⟩ => ?_
      rw [ev] at q
      exact q _ G H (Gr.refl rep.sub) (.bl i) fun z => nomatch z
    exact ⟨P, P.test fun _ => rfl⟩
  | .non, X, b, W, C, ex, h, ρ => by
    obtain ⟨j, p, rfl⟩ := chk_non h
    have P : PE X (.Constant .none j p) (tV A.cl A.xa H0 W ρ (newTop .non) (ev Γ .non ρ)) := by
      refine pe_non.imp fun σ H Q ⟨G, rep, q⟩ => ?_
      rw [ev] at q
      exact q _ G H (Gr.refl rep.sub) .non fun z => nomatch z
    exact ⟨P, P.test fun _ => rfl⟩
  | .str i, X, b, W, C, ex, h, ρ => by
    obtain ⟨j, p, rfl⟩ := chk_str h
    have P : PE X (.Constant (.str i) j p) (tV A.cl A.xa H0 W ρ (newTop (.str i)) (ev Γ (.str i) ρ)) := by
      refine pe_str.imp fun σ H Q ⟨G, rep, q⟩ => ?_
      rw [ev] at q
      exact q _ G H (Gr.refl rep.sub) (.str i) fun z => nomatch z
    exact ⟨P, P.test fun _ => rfl⟩
  | .glob x i, X, b, W, C, ex, h, ρ => by
    obtain ⟨p, rfl, hg, hn, hm⟩ := chk_glob h
    obtain ⟨n1, n2, n3⟩ := okName_ok hn
    obtain ⟨t, e⟩ := C.row.glob _ hm
    have P : PE X (.Name x p) (tV A.cl A.xa H0 W ρ (newTop (.glob x i)) (ev Γ (.glob x i) ρ)) := by
      refine (pe_glob (v := .int i) (glB_ok C.sc hg) e ⟨t, rfl⟩ n1).imp fun σ H Q ⟨G, rep, q⟩ => ?_
      rw [ev] at q
      exact q _ G H (Gr.refl rep.sub) (.int i) fun z => nomatch z
    exact ⟨P, P.test fun _ => rfl⟩
  | .bin o a c, X, b, W, C, ex, h, ρ => by
    obtain ⟨l, r, p, rfl, h1, h2⟩ := chk_bin h
    have P : PE X (.BinOp l (opOf o) r p) (tV A.cl A.xa H0 W ρ (newTop (.bin o a c)) (ev Γ (.bin o a c) ρ)) := by
      refine (pe_op (opR_of (op_ok (X := X) (cl := A.cl) (H0 := H0) o)) (ev_ok a C h1 ρ).1 (ev_ok c C h2 ρ).1).imp fun σ H Q ⟨G, rep, q⟩ => ?_
      rw [ev] at q
      refine ⟨G, rep, u_VV q fun x v G1 H1 e1 g1 r1 q1 => ⟨G1, rep.mono g1, u_VV q1 fun y w G2 H2 e2 g2 r2 q2 => ?_⟩⟩
      cases e3 : opD o x y with
      | ok z =>
        rw [e3] at q2
        exact ⟨G2, x, y, z, g2.gh, (rep.sub0.trans g1.hh).trans g2.hh, Rp.mono g2.gg x r1, r2, e3, fun z' G' H' g' rz nz => q2 z' G' H' g' rz fun _ => nz⟩
      | exc d => exact absurd e3 opD_ne
      | bad => rw [e3] at q2; exact q2.elim
    exact ⟨P, P.test fun _ => rfl⟩
  | .neg a, X, b, W, C, ex, h, ρ => by
    obtain ⟨l, p, rfl, h1⟩ := chk_neg h
    have P : PE X (.UnaryOp .USub l p) (tV A.cl A.xa H0 W ρ (newTop (.neg a)) (ev Γ (.neg a) ρ)) := by
      refine (pe_un un_neg (ev_ok a C h1 ρ).1).imp fun σ H Q ⟨G, rep, q⟩ => ?_
      rw [ev] at q
      refine ⟨G, rep, u_VV q fun x v G1 H1 e1 g1 r1 q1 => ?_⟩
      cases x <;> first | (exact q1.elim) | skip
      cases r1
      exact ⟨_, rfl, q1 _ G1 H1 (Gr.refl g1.gh) (.int _) fun z => nomatch z⟩
    exact ⟨P, P.test fun _ => rfl⟩
  | .cmp a cs, X, b, W, C, ex, h, ρ => by
    obtain ⟨l, ops, es, p, rfl, h1, h2⟩ := chk_cmp h
    have lm := chkc_last cs h2
    have e0 : ev Γ (.cmp a cs) ρ = ((ev Γ a (shareAll ρ)).bind fun x => evc Γ cs (shareAll ρ) x).bind fun b => .ok (.bl b) := by rw [ev, bind_assoc]
    have hat : ∀ d, ((ev Γ a (shareAll ρ)).bind fun x => evc Γ cs (shareAll ρ) x).bind (fun b => R.ok (D.bl b)) = .ok d → isAtom d := fun d e => by
      cases e2 : (ev Γ a (shareAll ρ)).bind fun x => evc Γ cs (shareAll ρ) x with
      | ok t => rw [e2] at e; injection e with e; subst e; trivial
      | exc c => rw [e2] at e; cases e
      | bad => rw [e2] at e; cases e
    rw [e0]
    refine ⟨PE.share hat ⟨fun pins s σ H Q I ⟨G, rep, q⟩ => ?_⟩, PT.share ⟨fun pins s σ H Q I ⟨G, rep, q⟩ => ?_⟩⟩
    · rw [arm_eval_Compare, markedEach_of_false _ _ _ lm]
      refine wpAny_bind (thn ((ev_ok a C h1 (shareAll ρ)).1.run pins s σ H (fun v H1 => ∃ x G1, Gr G H G1 H1 ∧ Rp A.cl H0 G1 v x ∧ FinX A.xa W G1 H1 σ (fun t H' => Q (.bl t) H') (evc Γ cs (shareAll ρ) x)) I ⟨G, rep, u_VX (bl_fin q) fun x v G1 H1 e1 g1 r1 q1 => ⟨x, G1, g1, r1, q1⟩⟩) fun u s1 ⟨v, H1, I1, rv, x, G1, g1, r1, q1⟩ => ?_)
      exact (ec_ok cs C h2 (shareAll ρ) pins s1 σ G1 H1 v u x p I1 (rep.mono g1) rv r1).1 Q q1
    · have q2 : FinX A.xa W G H σ Q ((ev Γ a (shareAll ρ)).bind fun x => evc Γ cs (shareAll ρ) x) := by
        cases e2 : (ev Γ a (shareAll ρ)).bind fun x => evc Γ cs (shareAll ρ) x with
        | ok t => rw [e2] at q; exact q
        | exc c => rw [e2] at q; exact q
        | bad => rw [e2] at q; exact q
      show wpAny _ _ (do testChain p (← eval l X.env) ops (markedEach ops es (evalEach es X.env))) _ _ _
      rw [markedEach_of_false _ _ _ lm]
      refine wpAny_bind (thn ((ev_ok a C h1 (shareAll ρ)).1.run pins s σ H (fun v H1 => ∃ x G1, Gr G H G1 H1 ∧ Rp A.cl H0 G1 v x ∧ FinX A.xa W G1 H1 σ Q (evc Γ cs (shareAll ρ) x)) I ⟨G, rep, u_VX q2 fun x v G1 H1 e1 g1 r1 q1 => ⟨x, G1, g1, r1, q1⟩⟩) fun u s1 ⟨v, H1, I1, rv, x, G1, g1, r1, q1⟩ => ?_)
      exact (ec_ok cs C h2 (shareAll ρ) pins s1 σ G1 H1 v u x p I1 (rep.mono g1) rv r1).2 Q q1
  | .and es, X, b, W, C, ex, h, ρ => by
    obtain ⟨x, y, r, p, rfl, h1⟩ := chk_and h
    have e0 : ev Γ (.and es) ρ = (eva Γ es (shareAll ρ)).bind fun b => .ok (.bl b) := by rw [ev]
    have hat : ∀ d, (eva Γ es (shareAll ρ)).bind (fun b => R.ok (D.bl b)) = .ok d → isAtom d := fun d e => by
      cases e2 : eva Γ es (shareAll ρ) with
      | ok t => rw [e2] at e; injection e with e; subst e; trivial
      | exc c => rw [e2] at e; cases e
      | bad => rw [e2] at e; cases e
    rw [e0]
    refine ⟨PE.share hat ⟨fun pins s σ H Q I ⟨G, rep, q⟩ => ?_⟩, PT.share ⟨fun pins s σ H Q I ⟨G, rep, q⟩ => ?_⟩⟩
    · exact (ea_ok es C h1 (shareAll ρ) pins s σ G H p I rep).1 Q (bl_fin q)
    · have q2 : FinX A.xa W G H σ Q (eva Γ es (shareAll ρ)) := by
        cases e2 : eva Γ es (shareAll ρ) with
        | ok t => rw [e2] at q; exact q
        | exc c => rw [e2] at q; exact q
        | bad => rw [e2] at q; exact q
      exact (ea_ok es C h1 (shareAll ρ) pins s σ G H p I rep).2 _ Q q2
  | .or es, X, b, W, C, ex, h, ρ => by
    obtain ⟨x, y, r, p, rfl, h1⟩ := chk_or h
    have e0 : ev Γ (.or es) ρ = (evo Γ es (shareAll ρ)).bind fun b => .ok (.bl b) := by rw [ev]
    have hat : ∀ d, (evo Γ es (shareAll ρ)).bind (fun b => R.ok (D.bl b)) = .ok d → isAtom d := fun d e => by
      cases e2 : evo Γ es (shareAll ρ) with
      | ok t => rw [e2] at e; injection e with e; subst e; trivial
      | exc c => rw [e2] at e; cases e
      | bad => rw [e2] at e; cases e
    rw [e0]
    refine ⟨PE.share hat ⟨fun pins s σ H Q I ⟨G, rep, q⟩ => ?_⟩, PT.share ⟨fun pins s σ H Q I ⟨G, rep, q⟩ => ?_⟩⟩
    · exact (eo_ok es C h1 (shareAll ρ) pins s σ G H p I rep).1 Q (bl_fin q)
    · have q2 : FinX A.xa W G H σ Q (evo Γ es (shareAll ρ)) := by
        cases e2 : evo Γ es (shareAll ρ) with
        | ok t => rw [e2] at q; exact q
        | exc c => rw [e2] at q; exact q
        | bad => rw [e2] at q; exact q
      exact (eo_ok es C h1 (shareAll ρ) pins s σ G H p I rep).2 _ Q q2
  | .not a, X, b, W, C, ex, h, ρ => by
    obtain ⟨l, p, rfl, h1⟩ := chk_not h
    have e0 : ev Γ (.not a) ρ = ((ev Γ a (shareAll ρ)).bind toB).bind fun t => .ok (.bl !t) := by rw [ev]
    have hat : ∀ d, ((ev Γ a (shareAll ρ)).bind toB).bind (fun t => R.ok (D.bl !t)) = .ok d → isAtom d := fun d e => by
      cases e2 : (ev Γ a (shareAll ρ)).bind toB with
      | ok t => rw [e2] at e; injection e with e; subst e; trivial
      | exc c => rw [e2] at e; cases e
      | bad => rw [e2] at e; cases e
    rw [e0]
    refine ⟨PE.share hat ((pe_not (ev_ok a C h1 (shareAll ρ)).1).imp fun σ H Q ⟨G, rep, q⟩ => ?_), PT.share ((pt_not (ev_ok a C h1 (shareAll ρ)).2).imp fun σ H Q ⟨G, rep, q⟩ => ?_)⟩
    · rw [bind_assoc] at q
      refine ⟨G, rep, u_VV q fun x v G1 H1 e1 g1 r1 q1 => ?_⟩
      cases x <;> first | (exact q1.elim) | skip
      cases r1
      exact ⟨_, rfl, q1 _ G1 H1 (Gr.refl g1.gh) (.bl _) fun z => nomatch z⟩
    · rw [bind_assoc] at q
      exact ⟨G, rep, u_XX q fun x G1 H1 e1 g1 q1 => q1 G1 H1 (Gr.refl g1.gh)⟩
  | .ite c a d, X, b, W, C, ex, h, ρ => by
    obtain ⟨t, l, r, p, rfl, h1, h2, h3⟩ := chk_ite h
    have PC := (ev_ok c C h1 (shareAll ρ)).2.share (ρ := ρ)
    have e0 : ev Γ (.ite c a d) ρ = ((ev Γ c (shareAll ρ)).bind toB).bind fun t => if t = true then ev Γ a ρ else ev Γ d ρ := by rw [ev]
    have f0 : ∀ {e : E} {r : R D} {G H : Hp} {σ : L2.St} {Q : VK}, Fin A.cl A.xa H0 W G H σ (newTop (.ite c a d)) Q r → Fin A.cl A.xa H0 W G H σ (newTop e) Q r := fun {e r G H σ Q} q => by
      cases r with
      | ok x => exact fun v G' H' g rp _ => q v G' H' g rp fun z => nomatch z
      | exc c => exact q
      | bad => exact q
    refine ⟨(pe_ifExp PC (ev_ok a C h2 ρ).1 (ev_ok d C h3 ρ).1).imp fun σ H Q ⟨G, rep, q⟩ => ?_, ⟨fun pins s σ H Q I ⟨G, rep, q⟩ => ?_⟩⟩
    · rw [e0] at q
      refine ⟨G, rep, u_XV q fun x G1 H1 e1 g1 q1 => ?_⟩
      cases x with
      | true => rw [if_pos rfl] at q1 ⊢; exact ⟨G1, rep.mono g1, f0 q1⟩
      | false => rw [if_neg Bool.false_ne_true] at q1 ⊢; exact ⟨G1, rep.mono g1, f0 q1⟩
    · rw [e0, bind_assoc] at q
      show wpAny _ _ (do if ← isTrue t X.env (eval t X.env) then isTrue l X.env (eval l X.env) else isTrue r X.env (eval r X.env)) _ _ _
      refine wpAny_bind (thn (PC.run pins s σ H (fun x H1 => ∃ G1, Gr G H G1 H1 ∧ FinX A.xa W G1 H1 σ Q ((if x = true then ev Γ a ρ else ev Γ d ρ).bind toB)) I ⟨G, rep, u_XX q fun x G1 H1 e1 g1 q1 => ⟨G1, g1, q1⟩⟩) fun x s1 ⟨H1, I1, G1, g1, q1⟩ => ?_)
      cases x with
      | true => exact (ev_ok a C h2 ρ).2.run pins s1 σ H1 Q I1 ⟨G1, rep.mono g1, q1⟩
      | false => exact (ev_ok d C h3 ρ).2.run pins s1 σ H1 Q I1 ⟨G1, rep.mono g1, q1⟩
  | .idx a i, X, b, W, C, ex, h, ρ => by
    obtain ⟨l, r, p, rfl, h1, h2⟩ := chk_idx h
    have P : PE X (.Subscript l r p) (tV A.cl A.xa H0 W ρ (newTop (.idx a i)) (ev Γ (.idx a i) ρ)) := by
      refine (pe_ix (ix_list.or ix_tup) (base_ok C h1 (ev_ok a C h1 ρ).1) (ev_ok i C h2 ρ).1 (plainIx h2)).imp fun σ H Q ⟨G, rep, q⟩ => ?_
      rw [ev] at q
      refine ⟨G, rep, ?_⟩
      cases e1 : base a ρ (ev Γ a ρ) with
      | exc c => rw [e1] at q; exact q
      | bad => rw [e1] at q; exact q
      | ok x =>
        rw [e1] at q
        intro v G1 H1 g1 rb
        have q1 := Fin.mono q g1
        refine ⟨G1, rep.mono g1, u_VV q1 fun y w G2 H2 e2 g2 r2 q2 => ?_⟩
        cases y <;> first | (exfalso; cases x <;> exact q2) | skip
        rename_i j
        cases r2
        have rb2 : RpB A.cl H0 G2 H2 v x := by
          rcases rb with rb | ⟨p, xs, ds, e3, e4, e5, e6⟩
          · exact .inl (Rp.mono g2.gg x rb)
          · exact .inr ⟨p, xs, ds, e3, e4, g2.hh _ _ e5, RpA.mono g2.gg ds e6⟩
        cases e3 : idxD x (.int j) with
        | ok z =>
          rw [e3] at q2
          obtain ⟨p', xs, w', rfl, hp, ha, rw'⟩ := rb2.item g2.gh e3
          rcases hp with hp | hp
          · exact .inl ⟨p', xs, j, w', rfl, rfl, SqL.of hp, ha, q2 _ G2 H2 (Gr.refl g2.gh) rw' fun z => nomatch z⟩
          · exact .inr ⟨p', xs, j, w', rfl, rfl, SqT.of hp, ha, q2 _ G2 H2 (Gr.refl g2.gh) rw' fun z => nomatch z⟩
        | exc c => exact absurd e3 idxD_ne
        | bad => rw [e3] at q2; exact q2.elim
    exact ⟨P, P.test fun _ => rfl⟩
  | .sli .one a lo hi, X, b, W, C, ex, h, ρ => by
    obtain ⟨l, lo', hi', p, p2, rfl, h1, h2, h3⟩ := chk_sli1 h
    have P : PE X (.Subscript l (.Slice lo' hi' none p2) p) (tV A.cl A.xa H0 W ρ (newTop (.sli .one a lo hi)) (ev Γ (.sli .one a lo hi) ρ)) := by
      refine (pe_slice sl_list (base_ok C h1 (ev_ok a C h1 ρ).1) (ep_ok lo C h2 ρ) (ep_ok hi C h3 ρ)).imp fun σ H Q ⟨G, rep, q⟩ => ?_
      rw [ev] at q
      refine ⟨G, rep, ?_⟩
      cases e1 : base a ρ (ev Γ a ρ) with
      | exc c => rw [e1] at q; exact q
      | bad => rw [e1] at q; exact q
      | ok x =>
        rw [e1] at q
        intro v G1 H1 g1 rb
        have q1 := Fin.mono q g1
        refine ⟨G1, rep.mono g1, u_XV q1 fun y G2 H2 e2 g2 q2 => ⟨G2, (rep.mono g1).mono g2, u_XV q2 fun z G3 H3 e3 g3 q3 => ?_⟩⟩
        have g13 := g2.trans g3
        have s0 : Same H0 H3 := (rep.sub0.trans g1.hh).trans g13.hh
        rcases rb with rb | ⟨p, xs, ds, rfl, rfl, e5, e6⟩
        · cases x <;> first | (exact q3.elim) | skip
          · cases rb with
            | lst k1 _ k2 => exact ⟨_, _, rfl, SqL.of (g3.gh _ _ (g13.gg _ _ k1)), newList g3.gh s0 (cut_rp (RpA.mono g13.gg _ k2) y z) fun z' G' H' g' rz nz => q3 z' G' H' g' rz fun _ => nz⟩
          · cases rb with
            | scr k1 => exact ⟨_, _, rfl, .inl (.inr ⟨_, g3.gh _ _ (g13.gg _ _ k1)⟩), newList g3.gh s0 (cut_rp (scr_rp _) y z) fun z' G' H' g' rz nz => q3 z' G' H' g' rz fun _ => nz⟩
        · exact ⟨_, _, rfl, SqL.of (g13.hh _ _ e5), newList g3.gh s0 (cut_rp (RpA.mono g13.gg _ e6) y z) fun z' G' H' g' rz nz => q3 z' G' H' g' rz fun _ => nz⟩
    exact ⟨P, P.test fun _ => rfl⟩
  | .sli .back a lo hi, X, b, W, C, ex, h, ρ => by
    obtain ⟨l, kk, p1, p2, p3, p, rfl, h1, rfl, rfl⟩ := chk_slib h
    have P : PE X (.Subscript l (.Slice none none (some (.UnaryOp .USub (.Constant (.int 1) kk p1) p2)) p3) p) (tV A.cl A.xa H0 W ρ (newTop (.sli .back a .nil .nil)) (ev Γ (.sli .back a .nil .nil) ρ)) := by
      refine (pe_revA (base_ok C h1 (ev_ok a C h1 ρ).1)).imp fun σ H Q ⟨G, rep, q⟩ => ?_
      have e0 : ev Γ (.sli .back a .nil .nil) ρ = (base a ρ (ev Γ a ρ)).bind fun x => sliD .back x none none := by
        rw [ev, evs]; rfl
      rw [e0] at q
      refine ⟨G, rep, ?_⟩
      cases e1 : base a ρ (ev Γ a ρ) with
      | exc c => rw [e1] at q; exact q
      | bad => rw [e1] at q; exact q
      | ok x =>
        rw [e1] at q
        intro v G1 H1 g1 rb
        have q1 := Fin.mono q g1
        have s0 : Same H0 H1 := rep.sub0.trans g1.hh
        rcases rb with rb | ⟨p, xs, ds, rfl, rfl, e5, e6⟩
        · cases x <;> first | (exact q1.elim) | skip
          · cases rb with
            | tup k1 k2 => exact ⟨_, _, rfl, .inl ⟨SqT.of (g1.gh _ _ k1), newTup g1.gh k2.reverse fun z' G' H' g' rz nz => q1 z' G' H' g' rz fun _ => nz⟩⟩
          · cases rb with
            | lst k1 _ k2 => exact ⟨_, _, rfl, .inr ⟨SqL.of (g1.gh _ _ k1), newList g1.gh s0 k2.reverse fun z' G' H' g' rz nz => q1 z' G' H' g' rz fun _ => nz⟩⟩
        · exact ⟨_, _, rfl, .inr ⟨SqL.of e5, newList g1.gh s0 e6.reverse fun z' G' H' g' rz nz => q1 z' G' H' g' rz fun _ => nz⟩⟩
    exact ⟨P, P.test fun _ => rfl⟩
  | .sli (.two kk) a lo hi, X, b, W, C, ex, h, ρ => by
    obtain ⟨l, h1, rfl, rfl, hk⟩ := chk_sli2 h
    have Pt : ∀ {te : TE}, PE X l te → PE X ex (tTwo X.K kk te) := fun {te} he => by
      rcases hk with ⟨rfl, j, p1, p3, p, rfl⟩ | ⟨rfl, j, j0, p0, p1, p3, p, rfl⟩
      · exact pe_two0 he
      · exact pe_two1 he
    have P : PE X ex (tV A.cl A.xa H0 W ρ (newTop (.sli (.two kk) a .nil .nil)) (ev Γ (.sli (.two kk) a .nil .nil) ρ)) := by
      refine (Pt (base_ok C h1 (ev_ok a C h1 ρ).1)).imp fun σ H Q ⟨G, rep, q⟩ => ?_
      have e0 : ev Γ (.sli (.two kk) a .nil .nil) ρ = (base a ρ (ev Γ a ρ)).bind fun x => sliD (.two kk) x none none := by
        rw [ev, evs]; rfl
      rw [e0] at q
      refine ⟨G, rep, ?_⟩
      cases e1 : base a ρ (ev Γ a ρ) with
      | exc c => rw [e1] at q; exact q
      | bad => rw [e1] at q; exact q
      | ok x =>
        rw [e1] at q
        intro v G1 H1 g1 rb
        have q1 := Fin.mono q g1
        have s0 : Same H0 H1 := rep.sub0.trans g1.hh
        rcases rb with rb | ⟨p, xs, ds, rfl, rfl, e5, e6⟩
        · cases x <;> first | (exact q1.elim) | skip
          · cases rb with
            | lst k1 _ k2 => exact ⟨_, _, rfl, SqL.of (g1.gh _ _ k1), newList g1.gh s0 (second_rp (drop_rp kk k2)) fun z' G' H' g' rz nz => q1 z' G' H' g' rz fun _ => nz⟩
        · exact ⟨_, _, rfl, SqL.of e5, newList g1.gh s0 (second_rp (drop_rp kk e6)) fun z' G' H' g' rz nz => q1 z' G' H' g' rz fun _ => nz⟩
    exact ⟨P, P.test fun _ => by rcases hk with ⟨rfl, j, p1, p3, p, rfl⟩ | ⟨rfl, j, j0, p0, p1, p3, p, rfl⟩ <;> rfl⟩
  | .tup es, X, b, W, C, ex, h, ρ => by
    obtain ⟨xs, kk, p, rfl, h1⟩ := chk_tup h
    have P : PE X (.Tuple xs kk p) (tV A.cl A.xa H0 W ρ (newTop (.tup es)) (ev Γ (.tup es) ρ)) := by
      refine (pe_tup (es_ok es C h1 ρ)).imp fun σ H Q ⟨G, rep, q⟩ => ?_
      rw [ev] at q
      refine ⟨G, rep, u_AV q fun ds vs G1 H1 e1 g1 r1 q1 => ?_⟩
      by_cases hl : ds.length ≤ cap
      · rw [if_pos hl] at q1
        exact ⟨by rw [r1.length, ← cap_eq]; exact hl, newTup g1.gh r1 fun z G' H' g' rz nz => q1 z G' H' g' rz fun _ => nz⟩
      · rw [if_neg hl] at q1; exact q1.elim
    exact ⟨P, P.test fun _ => rfl⟩
  | .lst es, X, b, W, C, ex, h, ρ => by
    obtain ⟨xs, p, rfl, h1⟩ := chk_lst h
    have P : PE X (.List xs p) (tV A.cl A.xa H0 W ρ (newTop (.lst es)) (ev Γ (.lst es) ρ)) := by
      refine (pe_lst (es_ok es C h1 ρ)).imp fun σ H Q ⟨G, rep, q⟩ => ?_
      rw [ev] at q
      refine ⟨G, rep, u_AV q fun ds vs G1 H1 e1 g1 r1 q1 => ?_⟩
      cases e2 : mkL ds with
      | ok c =>
        rw [e2] at q1
        obtain ⟨hl, rfl⟩ := mkL_ok e2
        exact ⟨by rw [r1.length]; exact hl, newList g1.gh (rep.sub0.trans g1.hh) r1 fun z G' H' g' rz nz => q1 z G' H' g' rz fun _ => nz⟩
      | exc c => exact absurd e2 mkL_ne
      | bad => rw [e2] at q1; exact q1.elim
    exact ⟨P, P.test fun _ => rfl⟩
  | .comp elt t it cd own, X, b, W, C, ex, h, ρ => by
    obtain ⟨x, tg, iter, ifs, scope, p, rfl, h1, h2, h3, h4, h5, h6, h7⟩ := chk_comp h
    have P : PE X (.ListComp x [⟨tg, iter, ifs, 0⟩] scope p) (tV A.cl A.xa H0 W ρ (newTop (.comp elt t it cd own)) (ev Γ (.comp elt t it cd own) ρ)) := by
      exact comp_ok C h1 h2 h3 h4 h5 (ei_ok it C h1 ρ) (fun s H Cc cl fp ρ => ef_ok cd (C.blk s H scope Cc cl fp) h6 ρ) (fun s H Cc cl fp ρ => (ev_ok elt (C.blk s H scope Cc cl fp) h7 ρ).1)
    exact ⟨P, P.test fun _ => rfl⟩
  | .call f es, X, b, W, C, ex, h, ρ => by
    obtain ⟨p, a, as, pos, rfl, hp, hg, hn, h1⟩ := chk_call h
    obtain ⟨n1, n2, n3⟩ := okName_ok hn
    obtain ⟨e1, e2, e3, F⟩ := C.row.fn f hp
    obtain ⟨s1, s2⟩ := stars_head (env := X.env) h1
    have P : PE X (.Call (.Name (T.fname f) p) (a :: as) [] pos) (tV A.cl A.xa H0 W ρ (newTop (.call f es)) (ev Γ (.call f es) ρ)) := by
      refine (pe_callS F C.room (glB_ok C.sc hg) e1 e2 e3 (fun σ => L2N.passAt C.tk σ) (es_ok es C h1 ρ) n1 s1 (s2 pos)).imp fun σ H Q ⟨G, rep, q⟩ => ?_
      rw [ev] at q
      exact ⟨G, rep, u_AV q fun ds vs G1 H1 e1 g1 r1 q1 => call_fin g1.gh (rep.sub0.trans g1.hh) r1 q1⟩
    exact ⟨P, P.test fun _ => rfl⟩
  | .bi o es, X, b, W, C, ex, h, ρ => by
    obtain ⟨p, a, as, pos, rfl, hg, h1⟩ := chk_bi h
    obtain ⟨s1, s2⟩ := stars_head (env := X.env) h1
    have P : PE X (.Call (.Name (biName o) p) (a :: as) [] pos) (tV A.cl A.xa H0 W ρ (newTop (.bi o es)) (ev Γ (.bi o es) ρ)) := bi_fin (b := b) (fun ρ => es_ok es C h1 ρ) fun {t} ha => pe_bi C hg ha s1 (s2 pos)
    exact ⟨P, P.test fun _ => rfl⟩
  | .lrng a, X, b, W, C, ex, h, ρ => by
    obtain ⟨p, p2, e, pos2, pos, rfl, hg, hg2, h1⟩ := chk_lrng h
    have st := star_cons (env := X.env) (es := []) (notStar h1)
    have P : PE X (.Call (.Name "list" p) [.Call (.Name "range" p2) [e] [] pos2] [] pos) (tV A.cl A.xa H0 W ρ (newTop (.lrng a)) (ev Γ (.lrng a) ρ)) := by
      refine (pe_listRg C.calm (glB_ok C.sc hg) (C.blt (by decide)) (prg_1 (glB_ok C.sc hg2) (C.blt (by decide)) (ev_ok a C h1 ρ).1 st) rfl).imp fun σ H Q ⟨G, rep, q⟩ => ?_
      rw [ev] at q
      refine ⟨G, rep, u_VV q fun x v G1 H1 e1 g1 r1 q1 => ?_⟩
      cases x <;> first | (exact q1.elim) | skip
      rename_i n
      cases r1
      by_cases hn : okR n = true
      · have e2 : rangeD [.int n] = .ok ((List.range n.toNat).map fun i => .int (0 + (i : Nat))) := if_pos hn
        rw [e2] at q1
        by_cases hl : n.toNat ≤ cap
        · have e3 : mkL ((List.range n.toNat).map fun i => D.int (0 + (i : Nat))) = .ok (.lst true ((List.range n.toNat).map fun i => D.int (0 + (i : Nat)))) := if_pos (by rw [List.length_map, List.length_range]; exact hl)
          have q1' : Fin A.cl A.xa H0 W G1 H1 σ (newTop (.lrng a)) Q (.ok (.lst true ((List.range n.toNat).map fun i => D.int (0 + (i : Nat))))) := by rw [← e3]; exact q1
          unfold okR at hn
          simp only [Bool.and_eq_true, decide_eq_true_eq] at hn
          refine ⟨n, rfl, ⟨by omega, by omega, hn.1, hn.2, by rw [Int.sub_zero]; exact hl⟩, ?_⟩
          have rr : ∀ m : Nat, RpA A.cl H0 G1 ((List.range m).map fun i => V.int (0 + (i : Nat))) ((List.range m).map fun i => D.int (0 + (i : Nat))) := fun m => by
            generalize List.range m = l
            induction l with
            | nil => exact .nil
            | cons x l ih => exact .cons (.int _) ih
          unfold rgV
          rw [Int.sub_zero]
          exact newList g1.gh (rep.sub0.trans g1.hh) (rr _) fun z G' H' g' rz nz => q1' z G' H' g' rz fun _ => nz
        · have e3 : mkL ((List.range n.toNat).map fun i => D.int (0 + (i : Nat))) = .bad := if_neg (by rw [List.length_map, List.length_range]; exact hl)
          have q1' : Fin A.cl A.xa H0 W G1 H1 σ (newTop (.lrng a)) Q .bad := by rw [← e3]; exact q1
          exact q1'.elim
      · have e2 : rangeD [.int n] = .bad := if_neg hn
        rw [e2] at q1
        exact q1.elim
    exact ⟨P, P.test fun _ => rfl⟩
  | .isi a t, X, b, W, C, ex, h, ρ => by
    obtain ⟨p, e, p2, pos, rfl, hg, hg2, hne, h1⟩ := chk_isi h
    have e0 : ev Γ (.isi a t) ρ = ((ev Γ a (shareAll ρ)).bind fun x => isiD x t).bind fun b => .ok (.bl b) := by rw [ev, bind_assoc]
    have hat : ∀ d, ((ev Γ a (shareAll ρ)).bind fun x => isiD x t).bind (fun b => R.ok (D.bl b)) = .ok d → isAtom d := fun d e => by
      cases e2 : (ev Γ a (shareAll ρ)).bind fun x => isiD x t with
      | ok t => rw [e2] at e; injection e with e; subst e; trivial
      | exc c => rw [e2] at e; cases e
      | bad => rw [e2] at e; cases e
    have nd : tyName t ≠ ("__name__" : Str) ∧ (tyName t == ("__debug__" : Str)) = false ∧ tyName t ∈ bltNames := by
      cases t <;> first | exact absurd rfl hne | decide
    have P : PE X (.Call (.Name "isinstance" p) [e, .Name (tyName t) p2] [] pos) (tV A.cl A.xa H0 W ρ (newTop (.isi a t)) (ev Γ (.isi a t) ρ)) := by
      rw [e0]
      have pt : PE X (.Name (tyName t) p2) (tC (.ty (tyStr t))) := pe_bltn (glB_ok C.sc hg2) (C.blt nd.2.2) (ty_boot hne) rfl nd.1 nd.2.1
      have pa : PA X [e, .Name (tyName t) p2] (tCons (tV A.cl A.xa H0 W (shareAll ρ) (newTop a) (ev Γ a (shareAll ρ))) (tCons (tC (.ty (tyStr t))) tNil)) :=
        pa_cons (ev_ok a C h1 (shareAll ρ)).1 (pa_cons pt pa_nil) (star_cons (notStar h1))
      refine PE.share hat ((pe_callB call_isi (glB_ok C.sc hg) (C.blt (by decide)) boot_isinstance pa (by decide) (by decide) (star_cons (notStar h1)) rfl).imp fun σ H Q ⟨G, rep, q⟩ => ?_)
      rw [bind_assoc] at q
      refine ⟨G, rep, u_VV q fun x v G1 H1 e1 g1 r1 q1 => ?_⟩
      cases e2 : isiD x t with
      | ok c =>
        rw [e2] at q1
        obtain ⟨n, ty, hk⟩ := tyOf (A := A) (K := X.K) g1.gh r1 e2 hne
        exact ⟨v, .ty (tyStr t), .type n, .type (tyStr t), c, rfl, .ty _, ty, kit_ty hk, q1 _ G1 H1 (Gr.refl g1.gh) (.bl c) fun z => nomatch z⟩
      | exc c => exact absurd e2 isiD_ne
      | bad => rw [e2] at q1; exact q1.elim
    exact ⟨P, P.test fun _ => rfl⟩
  | .ccons _ _ _, X, b, W, C, ex, h, ρ => by exact (Bool.false_ne_true h).elim
  | .cnil, X, b, W, C, ex, h, ρ => by
    have e : ev Γ .cnil ρ = .bad := by rw [ev]
    rw [e]
    exact ⟨⟨fun pins s σ H Q I q => by obtain ⟨G, rep, q⟩ := q; exact q.elim⟩, ⟨fun pins s σ H Q I q => by obtain ⟨G, rep, q⟩ := q; exact q.elim⟩⟩
  | .nil, X, b, W, C, ex, h, ρ => by exact (Bool.false_ne_true h).elim
  | .cons _ _, X, b, W, C, ex, h, ρ => by exact (Bool.false_ne_true h).elim
  | .seq _, X, b, W, C, ex, h, ρ => by exact (Bool.false_ne_true h).elim
  | .rng _, X, b, W, C, ex, h, ρ => by exact (Bool.false_ne_true h).elim
  | .enum _, X, b, W, C, ex, h, ρ => by exact (Bool.false_ne_true h).elim
  | .zip _ _, X, b, W, C, ex, h, ρ => by exact (Bool.false_ne_true h).elim
  | .attr a f, X, b, W, C, ex, h, ρ => by
    obtain ⟨e, p, rfl, hp, hm, h1⟩ := chk_attr h
    have P : PE X (.Attribute e (fieldNm (f % 8)) p) (tV A.cl A.xa H0 W ρ (newTop (.attr a f)) (ev Γ (.attr a f) ρ)) := by
      refine (pe_fld (ev_ok a C h1 ρ).1 (plainM_base hp _ _)).imp fun σ H Q ⟨G, rep, q⟩ => ?_
      rw [ev] at q
      refine ⟨G, rep, u_VV q fun x v G1 H1 e1 g1 r1 q1 => ?_⟩
      cases ec : okO (f / 8) x with
      | exc c => exact absurd ec okO_ne
      | bad => rw [ec] at q1; exact q1.elim
      | ok c =>
        rw [ec] at q1
        obtain ⟨ds, rfl, hc⟩ := okO_ok ec
        obtain ⟨cp, _, _⟩ := mask_ok hm hc
        have K1 := C.row.cls c cp
        replace q1 : Fin A.cl A.xa H0 W G1 H1 σ (newTop (.attr a f)) Q (attrD (.obj c ds) (f % 8)) := q1
        cases ed : attrD (.obj c ds) (f % 8) with
        | exc k => exact absurd ed attrD_ne
        | bad => rw [ed] at q1; exact q1.elim
        | ok d =>
          rw [ed] at q1
          cases r1 with
          | @obj a' dx fs _ xs _ o1 o2 o3 o4 =>
            subst o3
            obtain ⟨v, f1, f2, f3⟩ := field_ok o2 o4 ed
            exact ⟨a', A.cl c, dx, fs, v, rfl, g1.gh _ _ o1, K1.cls, K1.na _ f3, f1, q1 v G1 H1 (Gr.refl g1.gh) f2 fun z => nomatch z⟩
    exact ⟨P, P.test fun _ => by cases e <;> rfl⟩
  | .isk a j, X, b, W, C, ex, h, ρ => by
    obtain ⟨p, e, p2, pos, rfl, hg, hk, hg2, hn, hm, h1⟩ := chk_isk h
    obtain ⟨n1, n2, n3⟩ := okName_ok hn
    have hat : ∀ d, ((ev Γ a (shareAll ρ)).bind fun x => (okO (j / 8) x).bind fun c => R.ok (D.bl (isa c (j % 8)))) = .ok d → isAtom d := fun d e => by
      cases e1 : ev Γ a (shareAll ρ) with
      | exc c => rw [e1] at e; cases e
      | bad => rw [e1] at e; cases e
      | ok x =>
        rw [e1] at e
        replace e : ((okO (j / 8) x).bind fun c => R.ok (D.bl (isa c (j % 8)))) = .ok d := e
        cases e2 : okO (j / 8) x with
        | ok t => rw [e2] at e; injection e with e; subst e; trivial
        | exc c => rw [e2] at e; cases e
        | bad => rw [e2] at e; cases e
    have P : PE X (.Call (.Name "isinstance" p) [e, .Name (T.cname (j % 8)) p2] [] pos) (tV A.cl A.xa H0 W ρ (newTop (.isk a j)) (ev Γ (.isk a j) ρ)) := by
      have e0 : ev Γ (.isk a j) ρ = (ev Γ a (shareAll ρ)).bind fun x => (okO (j / 8) x).bind fun c => R.ok (D.bl (isa c (j % 8))) := by rw [ev]
      rw [e0]
      have pt : PE X (.Name (T.cname (j % 8)) p2) (tC (.ref (A.cl (j % 8)))) := pe_glob (u := .ref (A.cl (j % 8))) (glB_ok C.sc hg2) (C.row.known _ hk) rfl n1
      have pa : PA X [e, .Name (T.cname (j % 8)) p2] (tCons (tV A.cl A.xa H0 W (shareAll ρ) (newTop a) (ev Γ a (shareAll ρ))) (tCons (tC (.ref (A.cl (j % 8)))) tNil)) :=
        pa_cons (ev_ok a C h1 (shareAll ρ)).1 (pa_cons pt pa_nil) (star_cons (notStar h1))
      refine PE.share hat ((pe_callB call_isi (glB_ok C.sc hg) (C.blt (by decide)) boot_isinstance pa (by decide) (by decide) (star_cons (notStar h1)) rfl).imp fun σ H Q ⟨G, rep, q⟩ => ?_)
      refine ⟨G, rep, u_VV q fun x v G1 H1 e1 g1 r1 q1 => ?_⟩
      cases ec : okO (j / 8) x with
      | exc c => exact absurd ec okO_ne
      | bad => rw [ec] at q1; exact q1.elim
      | ok c =>
        rw [ec] at q1
        obtain ⟨ds, rfl, hc⟩ := okO_ok ec
        obtain ⟨cp, _, _⟩ := mask_ok hm hc
        have K1 := C.row.cls c cp
        cases r1 with
        | @obj a' dx fs _ xs _ o1 o2 o3 o4 =>
          exact ⟨.ref a', .ref (A.cl (j % 8)), .ref (A.cl c), .ref (A.cl (j % 8)), isa c (j % 8), rfl, .own _, K1.tyx H1 a' dx fs (g1.gh _ _ o1), K1.isi _ hk, q1 _ G1 H1 (Gr.refl g1.gh) (.bl _) fun z => nomatch z⟩
    exact ⟨P, P.test fun _ => rfl⟩
  | .sets o a, X, b, W, C, ex, h, ρ => by
    obtain ⟨p, p2, e, pos2, pos, rfl, hg, hg2, h1⟩ := chk_sets h
    have st := star_cons (env := X.env) (es := []) (notStar h1)
    have P : PE X (.Call (.Name (setNm o) p) [.Call (.Name "set" p2) [e] [] pos2] [] pos) (tV A.cl A.xa H0 W ρ (newTop (.sets o a)) (ev Γ (.sets o a) ρ)) := by
      refine (pe_sets C.calm (glB_ok C.sc hg) (C.blt (by decide)) (C.blt (by decide)) (glB_ok C.sc hg2) (C.blt (by decide)) (ev_ok a C h1 ρ).1 st tV_mono).imp fun σ H Q ⟨G, rep, q⟩ => ?_
      rw [ev] at q
      refine ⟨G, rep, u_VV q fun x v G1 H1 e1 g1 r1 q1 => ?_⟩
      cases es : setL x with
      | exc c => exact absurd es setL_ne
      | bad => rw [es] at q1; exact q1.elim
      | ok ns =>
        rw [es] at q1
        obtain ⟨f, xs, rfl, hi, hl⟩ := setL_ok es
        cases r1 with
        | lst k1 k2 k3 =>
          have ev := k3.ints hi
          subst ev
          refine ⟨_, ns, rfl, SqL.of (g1.gh _ _ k1), hl, ?_⟩
          have gn : ∀ {a : Addr}, H1 a = none → G1 a = none := fun {a} ha => by
            cases e : G1 a with
            | none => rfl
            | some o => rw [g1.gh _ _ e] at ha; cases ha
          cases o with
          | true =>
            rw [if_pos rfl]
            intro a p na pa np
            have up : ∀ {b : Addr} {u : HO}, H1 b = some u → (upd (upd H1 a (SetO X.w a (fun j => decide (j ∈ ns)) (ddI ns).length)) p (.lst ((sortI ns).map V.int))) b = some u := fun {b u} e => by rw [upd_ne (ne_of_none e np), upd_ne (ne_of_none e na)]; exact e
            refine q1 (.ref p) (upd G1 p (.lst ((sortI ns).map V.int))) _ ⟨fun b u e => up e, fun b u e => by rw [upd_ne (ne_of_none e (gn np))]; exact e, fun b u e => ?_, fun b hb => by rw [upd_ne (fun z => by subst z; exact hb np)]⟩ (.lst upd_same (fun _ => rep.sub0.free (by
              cases e : H p with
              | none => rfl
              | some u => rw [g1.hh _ _ e] at np; cases np)) (ints_rp _)) fun _ _ _ => ⟨p, rfl, np⟩
            by_cases bp : b = p
            · subst bp; rw [upd_same] at e ⊢; exact e
            · rw [upd_ne bp] at e; exact up (g1.gh _ _ e)
          | false =>
            rw [if_neg Bool.false_ne_true]
            intro a na
            exact q1 (.int _) G1 _ ⟨fun b u e => by rw [upd_ne (ne_of_none e na)]; exact e, Same.refl _, fun b u e => by rw [upd_ne (ne_of_none (g1.gh _ _ e) na)]; exact g1.gh _ _ e, fun _ _ => rfl⟩ (.int _) fun z => nomatch z
    exact ⟨P, P.test fun _ => by cases o <;> rfl⟩
  | .mk c es, X, b, W, C, ex, h, ρ => by
    obtain ⟨p, a, as, pos, rfl, hc, hg, hn, h1⟩ := chk_mk h
    obtain ⟨n1, n2, n3⟩ := okName_ok hn
    have K1 := C.row.cls c hc
    obtain ⟨f, fd, ps, M, F, Bd⟩ := K1.made
    obtain ⟨s1, s2⟩ := stars_head (env := X.env) h1
    have P : PE X (.Call (.Name (T.cname c) p) (a :: as) [] pos) (tV A.cl A.xa H0 W ρ (newTop (.mk c es)) (ev Γ (.mk c es) ρ)) := by
      refine (pe_make (E := E0) (dvs := []) (ds := []) M F (C.room.mono C.row.two) (glB_ok C.sc hg) K1.mgc Bd .nil pass0 (es_ok es C h1 ρ) n1 s1 (s2 pos)).imp fun σ H Q ⟨G, rep, q⟩ => ?_
      rw [ev] at q
      refine ⟨G, rep, u_AV q fun ds vs G1 H1 e1 g1 r1 q1 => ?_⟩
      cases ed : mkD c ds with
      | exc k => exact absurd ed mkD_ne
      | bad => rw [ed] at q1; exact q1.elim
      | ok d =>
        rw [ed] at q1
        intro x dx nx ndx ne
        rw [List.append_nil]
        exact made_ok rfl g1.gh (rep.sub0.trans g1.hh) r1 ed (fun z G' H' g' rz => q1 z G' H' g' rz fun w => nomatch w) x dx nx ndx ne
    exact ⟨P, P.test fun _ => rfl⟩
  | .meth m a es, X, b, W, C, ex, h, ρ => by
    obtain ⟨e, apos, x, xs, cpos, rfl, hp, hl, hn, hm, h1, h2⟩ := chk_meth h
    obtain ⟨s1, s2⟩ := stars_head (env := X.env) h2
    have P : PE X (.Call (.Attribute e (T.mname (m / 16)) apos) (x :: xs) [] cpos) (tV A.cl A.xa H0 W ρ (newTop (.meth m a es)) (ev Γ (.meth m a es) ρ)) := by
      refine (pe_methG (ev_ok a C h1 ρ).1 (es_ok es C h2 ρ) s1 (s2 cpos) (meth_form (plainM_base hp _ _) hl s1 (s2 cpos) hn)).imp fun σ H Q ⟨G, rep, q⟩ => ?_
      rw [ev] at q
      refine ⟨G, rep, u_VV q fun d v G1 H1 e1 g1 r1 q1 => ?_⟩
      cases ec : okO (m % 16) d with
      | exc c => exact absurd ec okO_ne
      | bad => rw [ec] at q1; exact q1.elim
      | ok c =>
        rw [ec] at q1
        obtain ⟨ds, rfl, hc⟩ := okO_ok ec
        obtain ⟨cp, mp, c1, c3, m10⟩ := maskm_ok hm hc
        have K1 := C.row.cls c cp
        obtain ⟨Me, Bd, F⟩ := C.row.meth c (m / 16) m10 c1 c3 cp mp
        replace q1 : Fin A.cl A.xa H0 W G1 H1 σ (newTop (.meth m a es)) Q ((evs Γ es ρ).bind fun ds' => noX (Γ (m / 16 + c) (olds (.obj c ds :: ds')))) := q1
        have r1' := r1
        cases r1 with
        | @obj a' dx fs _ xs' _ o1 o2 o3 o4 =>
          subst o3
          refine ⟨a', A.cl c, dx, fs, A.fa (m / 16 + c), A.fd (m / 16 + c), A.ps (m / 16 + c), _, k, L2N.CX X.prog X.w, fun _ _ _ => False, rfl, g1.gh _ _ o1, lookup_none (by rw [o2]; exact K1.nom _ mp), K1.cls, Me, F, C.room, Bd, L2N.passes_call C.tk fun _ _ _ _ z => z.elim, G1, rep.mono g1, u_AV q1 fun ds' vs G2 H2 e2 g2 r2 q2 => ?_⟩
          have rr : RpA A.cl H0 G2 (.ref a' :: vs) (.obj c ds :: ds') := .cons (Rp.mono g2.gg _ r1') r2
          refine ⟨G2, .obj c ds :: ds', g2.gh, RpA.old _ rr, ?_⟩
          cases eg : Γ (m / 16 + c) (olds (.obj c ds :: ds')) with
          | exc k => rw [eg] at q2; exact q2.elim
          | bad => rw [eg] at q2; exact q2.elim
          | ok d =>
            rw [eg] at q2
            exact fun v G' H' g rp => q2 v G' H' g (Rp.elder (rep.sub0.trans (g1.hh.trans g2.hh)) d rp) fun z => nomatch z
    exact ⟨P, P.test fun _ => rfl⟩
  | .index a c, X, b, W, C, ex, h, ρ => by
    obtain ⟨e, apos, y, cpos, rfl, ho, hl, h1, h2⟩ := chk_index h
    have st := star_cons (env := X.env) (es := []) (notStar h2)
    have P : PE X (.Call (.Attribute e "index" apos) [y] [] cpos) (tV A.cl A.xa H0 W ρ (newTop (.index a c)) (ev Γ (.index a c) ρ)) := by
      refine (pe_bm PySem.F.plainAttrs_list PySem.F.slot_list_index PySem.F.type_list_index (mt_indexD C.hu) (base_ok C h1 (ev_ok a C h1 ρ).1) (pa_cons (ev_ok c C h2 ρ).1 pa_nil st) (plainO_base ho _ _) (bm_few st) hl st rfl).imp fun σ H Q ⟨G, rep, q⟩ => ?_
      rw [ev] at q
      refine ⟨G, rep, ?_⟩
      cases e1 : base a ρ (ev Γ a ρ) with
      | exc c => rw [e1] at q; exact q
      | bad => rw [e1] at q; exact q
      | ok x =>
        rw [e1] at q
        cases x <;> first | (exact q.elim) | skip
        rename_i f ds
        intro v G1 H1 g1 rb
        obtain ⟨p, xs, rfl, hp, rp⟩ : ∃ p xs, v = .ref p ∧ H1 p = some (.lst xs) ∧ RpA A.cl H0 G1 xs ds := by
          rcases rb with rb | ⟨p, xs, ds', e3, e4, e5, e6⟩
          · cases rb with
            | lst k1 k2 k3 => exact ⟨_, _, rfl, g1.gh _ _ k1, k3⟩
          · injection e3 with _ e3
            subst e3
            exact ⟨p, xs, e4, e5, e6⟩
        have q1 := Fin.mono q g1
        refine ⟨.inl ⟨rfl, _, SqL.of hp⟩, G1, rep.mono g1, u_VV (Q := Q) q1 fun d w G2 H2 e2 g2 r2 q2 => ?_⟩
        cases e3 : indexD (.lst true ds) d with
        | exc c => exact absurd e3 indexD_ne
        | bad => rw [e3] at q2; exact q2.elim
        | ok z =>
          rw [e3] at q2
          unfold indexD at e3
          simp only at e3
          split at e3
          · rename_i hsh
            simp only [Bool.and_eq_true] at hsh
            split at e3
            · rename_i j hj
              injection e3 with e3
              subst e3
              obtain ⟨hj1, hj2, hj3⟩ := List.findIdx?_eq_some_iff_getElem.mp hj
              have hd := (Rp.mono g2.gh d r2).dp (K := X.K) d (SeqAt.canLay_of_shaped hsh.1)
              have hl : PyData.canLayAll0 (pys ds) = true := SeqAt.canLay_of_shaped hsh.2
              refine ⟨p, w, d.py, pys ds, j, (pys ds)[j], rfl, rfl, .lst (SqL.of (g2.hh _ _ hp)) ((RpA.mono g2.gh ds (RpA.mono g2.gg ds rp)).dp ds hl), hd, hsh.2, hsh.1, List.getElem?_eq_getElem hj1, hj2, fun m z' hm hz => ?_, q2 _ G2 H2 (Gr.refl g2.gh) (.int _) fun z => nomatch z⟩
              obtain ⟨h1', h2'⟩ := List.getElem?_eq_some_iff.mp hz
              rw [← h2']
              have := hj3 m hm
              simpa using this
            · cases e3
          · cases e3
    exact ⟨P, P.test fun _ => rfl⟩
theorem es_ok : ∀ (e : E) {X : Cx} {b : Bk} {W : WX} (C : Cok T N Γ A k X b W) {es : List Expr} (h : chks T N b e es = true) (ρ : Rho), PA X es (tAs A.cl A.xa H0 W ρ (evs Γ e ρ))
  | .nil, X, b, W, C, es, h, ρ => by
    cases es with
    | cons _ _ => exact (Bool.false_ne_true h).elim
    | nil => exact pa_nil.imp fun σ H Q ⟨G, rep, q⟩ => q [] G H (Gr.refl rep.sub) .nil
  | .cons a as, X, b, W, C, es, h, ρ => by
    cases es with
    | nil => exact (Bool.false_ne_true h).elim
    | cons e es =>
      replace h : (chk T N b a e && chks T N b as es) = true := h
      simp only [Bool.and_eq_true] at h
      refine (pa_cons (ev_ok a C h.1 ρ).1 (es_ok as C h.2 ρ) (star_cons (notStar h.1))).imp fun σ H Q ⟨G, rep, q⟩ => ?_
      rw [evs] at q
      exact ⟨G, rep, u_VA q fun x v G1 H1 e1 g1 r1 q1 => ⟨G1, rep.mono g1, u_AA q1 fun ds vs G2 H2 e2 g2 r2 q2 => q2 (v :: vs) G2 H2 (Gr.refl g2.gh) (.cons (Rp.mono g2.gg x r1) r2)⟩⟩
  | .var _, X, b, W, C, es, h, ρ => by exact (Bool.false_ne_true h).elim
  | .int _, X, b, W, C, es, h, ρ => by exact (Bool.false_ne_true h).elim
  | .bl _, X, b, W, C, es, h, ρ => by exact (Bool.false_ne_true h).elim
  | .non, X, b, W, C, es, h, ρ => by exact (Bool.false_ne_true h).elim
  | .str _, X, b, W, C, es, h, ρ => by exact (Bool.false_ne_true h).elim
  | .glob _ _, X, b, W, C, es, h, ρ => by exact (Bool.false_ne_true h).elim
  | .bin _ _ _, X, b, W, C, es, h, ρ => by exact (Bool.false_ne_true h).elim
  | .neg _, X, b, W, C, es, h, ρ => by exact (Bool.false_ne_true h).elim
  | .cmp _ _, X, b, W, C, es, h, ρ => by exact (Bool.false_ne_true h).elim
  | .ccons _ _ _, X, b, W, C, es, h, ρ => by exact (Bool.false_ne_true h).elim
  | .cnil, X, b, W, C, es, h, ρ => by exact (Bool.false_ne_true h).elim
  | .and _, X, b, W, C, es, h, ρ => by exact (Bool.false_ne_true h).elim
  | .or _, X, b, W, C, es, h, ρ => by exact (Bool.false_ne_true h).elim
  | .not _, X, b, W, C, es, h, ρ => by exact (Bool.false_ne_true h).elim
  | .ite _ _ _, X, b, W, C, es, h, ρ => by exact (Bool.false_ne_true h).elim
  | .idx _ _, X, b, W, C, es, h, ρ => by exact (Bool.false_ne_true h).elim
  | .sli _ _ _ _, X, b, W, C, es, h, ρ => by exact (Bool.false_ne_true h).elim
  | .tup _, X, b, W, C, es, h, ρ => by exact (Bool.false_ne_true h).elim
  | .lst _, X, b, W, C, es, h, ρ => by exact (Bool.false_ne_true h).elim
  | .comp _ _ _ _ _, X, b, W, C, es, h, ρ => by exact (Bool.false_ne_true h).elim
  | .lrng _, X, b, W, C, es, h, ρ => by exact (Bool.false_ne_true h).elim
  | .seq _, X, b, W, C, es, h, ρ => by exact (Bool.false_ne_true h).elim
  | .rng _, X, b, W, C, es, h, ρ => by exact (Bool.false_ne_true h).elim
  | .enum _, X, b, W, C, es, h, ρ => by exact (Bool.false_ne_true h).elim
  | .zip _ _, X, b, W, C, es, h, ρ => by exact (Bool.false_ne_true h).elim
  | .call _ _, X, b, W, C, es, h, ρ => by exact (Bool.false_ne_true h).elim
  | .bi _ _, X, b, W, C, es, h, ρ => by exact (Bool.false_ne_true h).elim
  | .isi _ _, X, b, W, C, es, h, ρ => by exact (Bool.false_ne_true h).elim
  | .attr _ _, X, b, W, C, es, h, ρ => by exact (Bool.false_ne_true h).elim
  | .mk _ _, X, b, W, C, es, h, ρ => by exact (Bool.false_ne_true h).elim
  | .meth _ _ _, X, b, W, C, es, h, ρ => by exact (Bool.false_ne_true h).elim
  | .index _ _, X, b, W, C, es, h, ρ => by exact (Bool.false_ne_true h).elim
  | .isk _ _, X, b, W, C, es, h, ρ => by exact (Bool.false_ne_true h).elim
  | .sets _ _, X, b, W, C, es, h, ρ => by exact (Bool.false_ne_true h).elim
theorem ea_ok : ∀ (e : E) {X : Cx} {b : Bk} {W : WX} (C : Cok T N Γ A k X b W) {x : Expr} {es : List Expr} (h : chks T N b e (x :: es) = true) (ρ : Rho) (pins : List (Addr × Obj)) (s : Shared) (σ : L2.St) (G H : Hp) (p : Pos), Inv X pins σ H s → Rep A.cl H0 ρ σ G H →
    (∀ Q : VK, FinX A.xa W G H σ (fun t H' => Q (.bl t) H') (eva Γ e ρ) → wpAny (model X.prog X.w) X.A (eval (.BoolOp .And (x :: es) p) X.env) (EP X pins σ Q) X.xe s) ∧
      (∀ (wh : Sem Value) (Q : Bool → Hp → Prop), FinX A.xa W G H σ Q (eva Γ e ρ) → wpAny (model X.prog X.w) X.A (isTrue (.BoolOp .And (x :: es) p) X.env wh) (TP X pins σ Q) X.xe s)
  | .cons a as, X, b, W, C, x, es, h, ρ, pins, s, σ, G, H, p, I, rep => by
    replace h : (chk T N b a x && chks T N b as es) = true := h
    simp only [Bool.and_eq_true] at h
    have ha := ev_ok a C h.1 ρ
    refine ⟨fun Q q => ?_, fun wh Q q => ?_⟩
    · rw [eva, bind_assoc] at q
      have run := ha.1.run pins s σ H (fun v H1 => ∃ t G1, v = .bl t ∧ Gr G H G1 H1 ∧ FinX A.xa W G1 H1 σ (fun t H' => Q (.bl t) H') (if t = true then eva Γ as ρ else .ok false)) I ⟨G, rep, u_VX q fun x v G1 H1 e1 g1 r1 q1 => by
        cases x <;> first | (exact q1.elim) | skip
        cases r1
        exact ⟨_, G1, rfl, g1, q1⟩⟩
      cases es with
      | nil =>
        have ea : eva Γ as ρ = .ok true := by
          cases as <;> first | (rw [eva]; done) | (exact (Bool.false_ne_true h.2).elim)
        refine BoolOp_one (thn run fun u s1 ⟨v, H1, I1, rv, t, G1, ev, g1, q1⟩ => ?_)
        rw [ea] at q1
        subst ev
        refine ⟨.bl t, H1, I1, rv, ?_⟩
        cases t with
        | true => exact q1 G1 H1 (Gr.refl g1.gh)
        | false => exact q1 G1 H1 (Gr.refl g1.gh)
      | cons y r =>
        refine BoolOp_and (thn run fun u s1 ⟨v, H1, I1, rv, t, G1, ev, g1, q1⟩ => ?_)
        subst ev
        cases rv
        refine wpAny_truthy_bool ?_
        cases t with
        | true => exact (ea_ok as C h.2 ρ pins s1 σ G1 H1 p I1 (rep.mono g1)).1 Q q1
        | false => exact ⟨.bl false, H1, I1, rfl, q1 G1 H1 (Gr.refl g1.gh)⟩
    · rw [eva] at q
      refine isTrue_and (thn (ha.2.run pins s σ H (fun t H1 => ∃ G1, Gr G H G1 H1 ∧ FinX A.xa W G1 H1 σ Q (if t = true then eva Γ as ρ else .ok false)) I ⟨G, rep, u_XX q fun t G1 H1 e1 g1 q1 => ⟨G1, g1, q1⟩⟩) fun t s1 ⟨H1, I1, G1, g1, q1⟩ => ?_)
      cases t with
      | false => exact ⟨H1, I1, q1 G1 H1 (Gr.refl g1.gh)⟩
      | true =>
        cases es with
        | nil =>
          have ea : eva Γ as ρ = .ok true := by
            cases as <;> first | (rw [eva]; done) | (exact (Bool.false_ne_true h.2).elim)
          rw [if_pos rfl, ea] at q1
          exact isTrue_and_nil ⟨H1, I1, q1 G1 H1 (Gr.refl g1.gh)⟩
        | cons y r => exact (ea_ok as C h.2 ρ pins s1 σ G1 H1 p I1 (rep.mono g1)).2 wh Q q1
  | .var _, X, b, W, C, x, es, h, ρ, pins, s, σ, G, H, p, I, rep => by exact (Bool.false_ne_true h).elim
  | .int _, X, b, W, C, x, es, h, ρ, pins, s, σ, G, H, p, I, rep => by exact (Bool.false_ne_true h).elim
  | .bl _, X, b, W, C, x, es, h, ρ, pins, s, σ, G, H, p, I, rep => by exact (Bool.false_ne_true h).elim
  | .non, X, b, W, C, x, es, h, ρ, pins, s, σ, G, H, p, I, rep => by exact (Bool.false_ne_true h).elim
  | .str _, X, b, W, C, x, es, h, ρ, pins, s, σ, G, H, p, I, rep => by exact (Bool.false_ne_true h).elim
  | .glob _ _, X, b, W, C, x, es, h, ρ, pins, s, σ, G, H, p, I, rep => by exact (Bool.false_ne_true h).elim
  | .bin _ _ _, X, b, W, C, x, es, h, ρ, pins, s, σ, G, H, p, I, rep => by exact (Bool.false_ne_true h).elim
  | .neg _, X, b, W, C, x, es, h, ρ, pins, s, σ, G, H, p, I, rep => by exact (Bool.false_ne_true h).elim
  | .cmp _ _, X, b, W, C, x, es, h, ρ, pins, s, σ, G, H, p, I, rep => by exact (Bool.false_ne_true h).elim
  | .ccons _ _ _, X, b, W, C, x, es, h, ρ, pins, s, σ, G, H, p, I, rep => by exact (Bool.false_ne_true h).elim
  | .cnil, X, b, W, C, x, es, h, ρ, pins, s, σ, G, H, p, I, rep => by exact (Bool.false_ne_true h).elim
  | .and _, X, b, W, C, x, es, h, ρ, pins, s, σ, G, H, p, I, rep => by exact (Bool.false_ne_true h).elim
  | .or _, X, b, W, C, x, es, h, ρ, pins, s, σ, G, H, p, I, rep => by exact (Bool.false_ne_true h).elim
  | .not _, X, b, W, C, x, es, h, ρ, pins, s, σ, G, H, p, I, rep => by exact (Bool.false_ne_true h).elim
  | .ite _ _ _, X, b, W, C, x, es, h, ρ, pins, s, σ, G, H, p, I, rep => by exact (Bool.false_ne_true h).elim
  | .idx _ _, X, b, W, C, x, es, h, ρ, pins, s, σ, G, H, p, I, rep => by exact (Bool.false_ne_true h).elim
  | .sli _ _ _ _, X, b, W, C, x, es, h, ρ, pins, s, σ, G, H, p, I, rep => by exact (Bool.false_ne_true h).elim
  | .tup _, X, b, W, C, x, es, h, ρ, pins, s, σ, G, H, p, I, rep => by exact (Bool.false_ne_true h).elim
  | .lst _, X, b, W, C, x, es, h, ρ, pins, s, σ, G, H, p, I, rep => by exact (Bool.false_ne_true h).elim
  | .nil, X, b, W, C, x, es, h, ρ, pins, s, σ, G, H, p, I, rep => by exact (Bool.false_ne_true h).elim
  | .comp _ _ _ _ _, X, b, W, C, x, es, h, ρ, pins, s, σ, G, H, p, I, rep => by exact (Bool.false_ne_true h).elim
  | .lrng _, X, b, W, C, x, es, h, ρ, pins, s, σ, G, H, p, I, rep => by exact (Bool.false_ne_true h).elim
  | .seq _, X, b, W, C, x, es, h, ρ, pins, s, σ, G, H, p, I, rep => by exact (Bool.false_ne_true h).elim
  | .rng _, X, b, W, C, x, es, h, ρ, pins, s, σ, G, H, p, I, rep => by exact (Bool.false_ne_true h).elim
  | .enum _, X, b, W, C, x, es, h, ρ, pins, s, σ, G, H, p, I, rep => by exact (Bool.false_ne_true h).elim
  | .zip _ _, X, b, W, C, x, es, h, ρ, pins, s, σ, G, H, p, I, rep => by exact (Bool.false_ne_true h).elim
  | .call _ _, X, b, W, C, x, es, h, ρ, pins, s, σ, G, H, p, I, rep => by exact (Bool.false_ne_true h).elim
  | .bi _ _, X, b, W, C, x, es, h, ρ, pins, s, σ, G, H, p, I, rep => by exact (Bool.false_ne_true h).elim
  | .isi _ _, X, b, W, C, x, es, h, ρ, pins, s, σ, G, H, p, I, rep => by exact (Bool.false_ne_true h).elim
  | .attr _ _, X, b, W, C, x, es, h, ρ, pins, s, σ, G, H, p, I, rep => by exact (Bool.false_ne_true h).elim
  | .mk _ _, X, b, W, C, x, es, h, ρ, pins, s, σ, G, H, p, I, rep => by exact (Bool.false_ne_true h).elim
  | .meth _ _ _, X, b, W, C, x, es, h, ρ, pins, s, σ, G, H, p, I, rep => by exact (Bool.false_ne_true h).elim
  | .index _ _, X, b, W, C, x, es, h, ρ, pins, s, σ, G, H, p, I, rep => by exact (Bool.false_ne_true h).elim
  | .isk _ _, X, b, W, C, x, es, h, ρ, pins, s, σ, G, H, p, I, rep => by exact (Bool.false_ne_true h).elim
  | .sets _ _, X, b, W, C, x, es, h, ρ, pins, s, σ, G, H, p, I, rep => by exact (Bool.false_ne_true h).elim
theorem eo_ok : ∀ (e : E) {X : Cx} {b : Bk} {W : WX} (C : Cok T N Γ A k X b W) {x : Expr} {es : List Expr} (h : chks T N b e (x :: es) = true) (ρ : Rho) (pins : List (Addr × Obj)) (s : Shared) (σ : L2.St) (G H : Hp) (p : Pos), Inv X pins σ H s → Rep A.cl H0 ρ σ G H →
    (∀ Q : VK, FinX A.xa W G H σ (fun t H' => Q (.bl t) H') (evo Γ e ρ) → wpAny (model X.prog X.w) X.A (eval (.BoolOp .Or (x :: es) p) X.env) (EP X pins σ Q) X.xe s) ∧
      (∀ (wh : Sem Value) (Q : Bool → Hp → Prop), FinX A.xa W G H σ Q (evo Γ e ρ) → wpAny (model X.prog X.w) X.A (isTrue (.BoolOp .Or (x :: es) p) X.env wh) (TP X pins σ Q) X.xe s)
  | .cons a as, X, b, W, C, x, es, h, ρ, pins, s, σ, G, H, p, I, rep => by
    replace h : (chk T N b a x && chks T N b as es) = true := h
    simp only [Bool.and_eq_true] at h
    have ha := ev_ok a C h.1 ρ
    refine ⟨fun Q q => ?_, fun wh Q q => ?_⟩
    · rw [evo, bind_assoc] at q
      have run := ha.1.run pins s σ H (fun v H1 => ∃ t G1, v = .bl t ∧ Gr G H G1 H1 ∧ FinX A.xa W G1 H1 σ (fun t H' => Q (.bl t) H') (if t = true then .ok true else evo Γ as ρ)) I ⟨G, rep, u_VX q fun x v G1 H1 e1 g1 r1 q1 => by
        cases x <;> first | (exact q1.elim) | skip
        cases r1
        exact ⟨_, G1, rfl, g1, q1⟩⟩
      cases es with
      | nil =>
        have ea : evo Γ as ρ = .ok false := by
          cases as <;> first | (rw [evo]; done) | (exact (Bool.false_ne_true h.2).elim)
        refine BoolOp_one (thn run fun u s1 ⟨v, H1, I1, rv, t, G1, ev, g1, q1⟩ => ?_)
        rw [ea] at q1
        subst ev
        refine ⟨.bl t, H1, I1, rv, ?_⟩
        cases t with
        | true => exact q1 G1 H1 (Gr.refl g1.gh)
        | false => exact q1 G1 H1 (Gr.refl g1.gh)
      | cons y r =>
        refine BoolOp_or (thn run fun u s1 ⟨v, H1, I1, rv, t, G1, ev, g1, q1⟩ => ?_)
        subst ev
        cases rv
        refine wpAny_truthy_bool ?_
        cases t with
        | true => exact ⟨.bl true, H1, I1, rfl, q1 G1 H1 (Gr.refl g1.gh)⟩
        | false => exact (eo_ok as C h.2 ρ pins s1 σ G1 H1 p I1 (rep.mono g1)).1 Q q1
    · rw [evo] at q
      refine isTrue_or (thn (ha.2.run pins s σ H (fun t H1 => ∃ G1, Gr G H G1 H1 ∧ FinX A.xa W G1 H1 σ Q (if t = true then .ok true else evo Γ as ρ)) I ⟨G, rep, u_XX q fun t G1 H1 e1 g1 q1 => ⟨G1, g1, q1⟩⟩) fun t s1 ⟨H1, I1, G1, g1, q1⟩ => ?_)
      cases t with
      | true => exact ⟨H1, I1, q1 G1 H1 (Gr.refl g1.gh)⟩
      | false =>
        cases es with
        | nil =>
          have ea : evo Γ as ρ = .ok false := by
            cases as <;> first | (rw [evo]; done) | (exact (Bool.false_ne_true h.2).elim)
          rw [if_neg Bool.false_ne_true, ea] at q1
          exact isTrue_or_nil ⟨H1, I1, q1 G1 H1 (Gr.refl g1.gh)⟩
        | cons y r => exact (eo_ok as C h.2 ρ pins s1 σ G1 H1 p I1 (rep.mono g1)).2 wh Q q1
  | .var _, X, b, W, C, x, es, h, ρ, pins, s, σ, G, H, p, I, rep => by exact (Bool.false_ne_true h).elim
  | .int _, X, b, W, C, x, es, h, ρ, pins, s, σ, G, H, p, I, rep => by exact (Bool.false_ne_true h).elim
  | .bl _, X, b, W, C, x, es, h, ρ, pins, s, σ, G, H, p, I, rep => by exact (Bool.false_ne_true h).elim
  | .non, X, b, W, C, x, es, h, ρ, pins, s, σ, G, H, p, I, rep => by exact (Bool.false_ne_true h).elim
  | .str _, X, b, W, C, x, es, h, ρ, pins, s, σ, G, H, p, I, rep => by exact (Bool.false_ne_true h).elim
  | .glob _ _, X, b, W, C, x, es, h, ρ, pins, s, σ, G, H, p, I, rep => by exact (Bool.false_ne_true h).elim
  | .bin _ _ _, X, b, W, C, x, es, h, ρ, pins, s, σ, G, H, p, I, rep => by exact (Bool.false_ne_true h).elim
  | .neg _, X, b, W, C, x, es, h, ρ, pins, s, σ, G, H, p, I, rep => by exact (Bool.false_ne_true h).elim
  | .cmp _ _, X, b, W, C, x, es, h, ρ, pins, s, σ, G, H, p, I, rep => by exact (Bool.false_ne_true h).elim
  | .ccons _ _ _, X, b, W, C, x, es, h, ρ, pins, s, σ, G, H, p, I, rep => by exact (Bool.false_ne_true h).elim
  | .cnil, X, b, W, C, x, es, h, ρ, pins, s, σ, G, H, p, I, rep => by exact (Bool.false_ne_true h).elim
  | .and _, X, b, W, C, x, es, h, ρ, pins, s, σ, G, H, p, I, rep => by exact (Bool.false_ne_true h).elim
  | .or _, X, b, W, C, x, es, h, ρ, pins, s, σ, G, H, p, I, rep => by exact (Bool.false_ne_true h).elim
  | .not _, X, b, W, C, x, es, h, ρ, pins, s, σ, G, H, p, I, rep => by exact (Bool.false_ne_true h).elim
  | .ite _ _ _, X, b, W, C, x, es, h, ρ, pins, s, σ, G, H, p, I, rep => by exact (Bool.false_ne_true h).elim
  | .idx _ _, X, b, W, C, x, es, h, ρ, pins, s, σ, G, H, p, I, rep => by exact (Bool.false_ne_true h).elim
  | .sli _ _ _ _, X, b, W, C, x, es, h, ρ, pins, s, σ, G, H, p, I, rep => by exact (Bool.false_ne_true h).elim
  | .tup _, X, b, W, C, x, es, h, ρ, pins, s, σ, G, H, p, I, rep => by exact (Bool.false_ne_true h).elim
  | .lst _, X, b, W, C, x, es, h, ρ, pins, s, σ, G, H, p, I, rep => by exact (Bool.false_ne_true h).elim
  | .nil, X, b, W, C, x, es, h, ρ, pins, s, σ, G, H, p, I, rep => by exact (Bool.false_ne_true h).elim
  | .comp _ _ _ _ _, X, b, W, C, x, es, h, ρ, pins, s, σ, G, H, p, I, rep => by exact (Bool.false_ne_true h).elim
  | .lrng _, X, b, W, C, x, es, h, ρ, pins, s, σ, G, H, p, I, rep => by exact (Bool.false_ne_true h).elim
  | .seq _, X, b, W, C, x, es, h, ρ, pins, s, σ, G, H, p, I, rep => by exact (Bool.false_ne_true h).elim
  | .rng _, X, b, W, C, x, es, h, ρ, pins, s, σ, G, H, p, I, rep => by exact (Bool.false_ne_true h).elim
  | .enum _, X, b, W, C, x, es, h, ρ, pins, s, σ, G, H, p, I, rep => by exact (Bool.false_ne_true h).elim
  | .zip _ _, X, b, W, C, x, es, h, ρ, pins, s, σ, G, H, p, I, rep => by exact (Bool.false_ne_true h).elim
  | .call _ _, X, b, W, C, x, es, h, ρ, pins, s, σ, G, H, p, I, rep => by exact (Bool.false_ne_true h).elim
  | .bi _ _, X, b, W, C, x, es, h, ρ, pins, s, σ, G, H, p, I, rep => by exact (Bool.false_ne_true h).elim
  | .isi _ _, X, b, W, C, x, es, h, ρ, pins, s, σ, G, H, p, I, rep => by exact (Bool.false_ne_true h).elim
  | .attr _ _, X, b, W, C, x, es, h, ρ, pins, s, σ, G, H, p, I, rep => by exact (Bool.false_ne_true h).elim
  | .mk _ _, X, b, W, C, x, es, h, ρ, pins, s, σ, G, H, p, I, rep => by exact (Bool.false_ne_true h).elim
  | .meth _ _ _, X, b, W, C, x, es, h, ρ, pins, s, σ, G, H, p, I, rep => by exact (Bool.false_ne_true h).elim
  | .index _ _, X, b, W, C, x, es, h, ρ, pins, s, σ, G, H, p, I, rep => by exact (Bool.false_ne_true h).elim
  | .isk _ _, X, b, W, C, x, es, h, ρ, pins, s, σ, G, H, p, I, rep => by exact (Bool.false_ne_true h).elim
  | .sets _ _, X, b, W, C, x, es, h, ρ, pins, s, σ, G, H, p, I, rep => by exact (Bool.false_ne_true h).elim
theorem ec_ok : ∀ (e : E) {X : Cx} {b : Bk} {W : WX} (C : Cok T N Γ A k X b W) {ops : List CmpOp} {es : List Expr} (h : chkc T N b e ops es = true) (ρ : Rho)
    (pins : List (Addr × Obj)) (s : Shared) (σ : L2.St) (G H : Hp) (v : V) (u : Value) (x : D) (p : Pos), Inv X pins σ H s → Rep A.cl H0 ρ σ G H → RelV v u → Rp A.cl H0 G v x →
      (∀ Q : VK, FinX A.xa W G H σ (fun t H' => Q (.bl t) H') (evc Γ e ρ x) → wpAny (model X.prog X.w) X.A (compareChain p u ops (evalEach es X.env)) (EP X pins σ Q) X.xe s) ∧
        (∀ Q : Bool → Hp → Prop, FinX A.xa W G H σ Q (evc Γ e ρ x) → wpAny (model X.prog X.w) X.A (testChain p u ops (evalEach es X.env)) (TP X pins σ Q) X.xe s)
  | .ccons c e cs, X, b, W, C, ops, es, h, ρ, pins, s, σ, G, H, v, u, x, p, I, rep, rv, rp => by
    cases ops with
    | nil => exact (Bool.false_ne_true h).elim
    | cons op ops =>
      cases es with
      | nil => cases ops <;> exact (Bool.false_ne_true h).elim
      | cons ex es =>
        have step : ∀ {Z : Bool → Hp → Prop}, FinX A.xa W G H σ Z (evc Γ (.ccons c e cs) ρ x) → ∀ (hop : op = cmOf c) (he : chk T N b e ex = true),
            wpAny (model X.prog X.w) X.A (eval ex X.env) (fun b' s₁ => wpAny (model X.prog X.w) X.A (compareOp op u b') (fun r s₂ => ∃ t y w G2 H2, r = .bool t ∧ RelV w b' ∧ Inv X pins σ H2 s₂ ∧ Gr G H G2 H2 ∧ Rp A.cl H0 G2 w y ∧ FinX A.xa W G2 H2 σ Z (if isCnil cs = true then .ok t else if t = true then evc Γ cs ρ y else .ok false)) X.xe s₁) X.xe s := fun {Z} q hop he => by
          rw [evc] at q
          refine thn ((ev_ok e C he ρ).1.run pins s σ H (fun w H1 => ∃ y G1 t, Gr G H G1 H1 ∧ Rp A.cl H0 G1 w y ∧ cmpD c x y = .ok t ∧ FinX A.xa W G1 H1 σ Z (if isCnil cs = true then .ok t else if t = true then evc Γ cs ρ y else .ok false)) I ⟨G, rep, u_VX q fun y w G1 H1 e1 g1 r1 q1 => ?_⟩) fun b' s1 ⟨w, H1, I1, rw', y, G1, t, g1, r1, e1, q1⟩ => ?_
          · cases e2 : cmpD c x y with
            | ok t => rw [e2] at q1; exact ⟨y, G1, t, g1, r1, e2, q1⟩
            | exc c => exact absurd e2 cmpD_ne
            | bad => rw [e2] at q1; exact q1.elim
          · subst hop
            exact thn (cm_ok (cl := A.cl) (H0 := H0) c C.hu pins s1 σ G1 H1 v w u b' x y t (fun r H2 => r = .bl t ∧ H2 = H1) I1 g1.gh rv rw' (Rp.mono g1.gg x rp) r1 e1 ⟨rfl, rfl⟩) fun r s2 ⟨z, H2, I2, r2, ez, eH⟩ => by
              subst ez; subst eH
              exact ⟨t, y, w, G1, H2, r2, rw', I2, g1, r1, q1⟩
        cases ops with
        | nil =>
          cases es with
          | cons _ _ => exact (Bool.false_ne_true h).elim
          | nil =>
            replace h : (isCnil cs && decide (op = cmOf c) && chk T N b e ex) = true := h
            simp only [Bool.and_eq_true, decide_eq_true_eq] at h
            obtain ⟨⟨hc, hop⟩, he⟩ := h
            refine ⟨fun Q q => chain_last (thn (step q hop he) fun b' s1 h1 => thn h1 fun r s2 ⟨t, y, w, G2, H2, er, rw', I2, g2, r2, q2⟩ => ?_), fun Q q => test_last (thn (step q hop he) fun b' s1 h1 => thn h1 fun r s2 ⟨t, y, w, G2, H2, er, rw', I2, g2, r2, q2⟩ => ?_)⟩
            · subst er
              rw [if_pos hc] at q2
              exact ⟨.bl t, H2, I2, rfl, q2 G2 H2 (Gr.refl g2.gh)⟩
            · subst er
              rw [if_pos hc] at q2
              exact wpAny_truthy_bool ⟨H2, I2, q2 G2 H2 (Gr.refl g2.gh)⟩
        | cons op' ops =>
          cases es with
          | nil => exact (Bool.false_ne_true h).elim
          | cons ey es =>
            replace h : (!isCnil cs && decide (op = cmOf c) && chk T N b e ex && chkc T N b cs (op' :: ops) (ey :: es)) = true := h
            simp only [Bool.and_eq_true, decide_eq_true_eq, Bool.not_eq_true'] at h
            obtain ⟨⟨⟨hc, hop⟩, he⟩, hr⟩ := h
            have hc' : ¬ isCnil cs = true := by rw [hc]; exact Bool.false_ne_true
            refine ⟨fun Q q => chain_link (thn (step q hop he) fun b' s1 h1 => thn h1 fun r s2 ⟨t, y, w, G2, H2, er, rw', I2, g2, r2, q2⟩ => ?_), fun Q q => test_link (thn (step q hop he) fun b' s1 h1 => thn h1 fun r s2 ⟨t, y, w, G2, H2, er, rw', I2, g2, r2, q2⟩ => ?_)⟩
            · subst er
              rw [if_neg hc'] at q2
              refine wpAny_truthy_bool ?_
              cases t with
              | true => exact (ec_ok cs C hr ρ pins s2 σ G2 H2 w b' y p I2 (rep.mono g2) rw' r2).1 Q q2
              | false => exact ⟨.bl false, H2, I2, rfl, q2 G2 H2 (Gr.refl g2.gh)⟩
            · subst er
              rw [if_neg hc'] at q2
              refine wpAny_truthy_bool ?_
              cases t with
              | true => exact (ec_ok cs C hr ρ pins s2 σ G2 H2 w b' y p I2 (rep.mono g2) rw' r2).2 Q q2
              | false => exact ⟨H2, I2, q2 G2 H2 (Gr.refl g2.gh)⟩
  | .var _, X, b, W, C, ops, es, h, ρ, pins, s, σ, G, H, v, u, x, p, I, rep, rv, rp => by exact (Bool.false_ne_true h).elim
  | .int _, X, b, W, C, ops, es, h, ρ, pins, s, σ, G, H, v, u, x, p, I, rep, rv, rp => by exact (Bool.false_ne_true h).elim
  | .bl _, X, b, W, C, ops, es, h, ρ, pins, s, σ, G, H, v, u, x, p, I, rep, rv, rp => by exact (Bool.false_ne_true h).elim
  | .non, X, b, W, C, ops, es, h, ρ, pins, s, σ, G, H, v, u, x, p, I, rep, rv, rp => by exact (Bool.false_ne_true h).elim
  | .str _, X, b, W, C, ops, es, h, ρ, pins, s, σ, G, H, v, u, x, p, I, rep, rv, rp => by exact (Bool.false_ne_true h).elim
  | .glob _ _, X, b, W, C, ops, es, h, ρ, pins, s, σ, G, H, v, u, x, p, I, rep, rv, rp => by exact (Bool.false_ne_true h).elim
  | .bin _ _ _, X, b, W, C, ops, es, h, ρ, pins, s, σ, G, H, v, u, x, p, I, rep, rv, rp => by exact (Bool.false_ne_true h).elim
  | .neg _, X, b, W, C, ops, es, h, ρ, pins, s, σ, G, H, v, u, x, p, I, rep, rv, rp => by exact (Bool.false_ne_true h).elim
  | .cmp _ _, X, b, W, C, ops, es, h, ρ, pins, s, σ, G, H, v, u, x, p, I, rep, rv, rp => by exact (Bool.false_ne_true h).elim
  | .cnil, X, b, W, C, ops, es, h, ρ, pins, s, σ, G, H, v, u, x, p, I, rep, rv, rp => by exact (Bool.false_ne_true h).elim
  | .and _, X, b, W, C, ops, es, h, ρ, pins, s, σ, G, H, v, u, x, p, I, rep, rv, rp => by exact (Bool.false_ne_true h).elim
  | .or _, X, b, W, C, ops, es, h, ρ, pins, s, σ, G, H, v, u, x, p, I, rep, rv, rp => by exact (Bool.false_ne_true h).elim
  | .not _, X, b, W, C, ops, es, h, ρ, pins, s, σ, G, H, v, u, x, p, I, rep, rv, rp => by exact (Bool.false_ne_true h).elim
  | .ite _ _ _, X, b, W, C, ops, es, h, ρ, pins, s, σ, G, H, v, u, x, p, I, rep, rv, rp => by exact (Bool.false_ne_true h).elim
  | .idx _ _, X, b, W, C, ops, es, h, ρ, pins, s, σ, G, H, v, u, x, p, I, rep, rv, rp => by exact (Bool.false_ne_true h).elim
  | .sli _ _ _ _, X, b, W, C, ops, es, h, ρ, pins, s, σ, G, H, v, u, x, p, I, rep, rv, rp => by exact (Bool.false_ne_true h).elim
  | .tup _, X, b, W, C, ops, es, h, ρ, pins, s, σ, G, H, v, u, x, p, I, rep, rv, rp => by exact (Bool.false_ne_true h).elim
  | .lst _, X, b, W, C, ops, es, h, ρ, pins, s, σ, G, H, v, u, x, p, I, rep, rv, rp => by exact (Bool.false_ne_true h).elim
  | .nil, X, b, W, C, ops, es, h, ρ, pins, s, σ, G, H, v, u, x, p, I, rep, rv, rp => by exact (Bool.false_ne_true h).elim
  | .cons _ _, X, b, W, C, ops, es, h, ρ, pins, s, σ, G, H, v, u, x, p, I, rep, rv, rp => by exact (Bool.false_ne_true h).elim
  | .comp _ _ _ _ _, X, b, W, C, ops, es, h, ρ, pins, s, σ, G, H, v, u, x, p, I, rep, rv, rp => by exact (Bool.false_ne_true h).elim
  | .lrng _, X, b, W, C, ops, es, h, ρ, pins, s, σ, G, H, v, u, x, p, I, rep, rv, rp => by exact (Bool.false_ne_true h).elim
  | .seq _, X, b, W, C, ops, es, h, ρ, pins, s, σ, G, H, v, u, x, p, I, rep, rv, rp => by exact (Bool.false_ne_true h).elim
  | .rng _, X, b, W, C, ops, es, h, ρ, pins, s, σ, G, H, v, u, x, p, I, rep, rv, rp => by exact (Bool.false_ne_true h).elim
  | .enum _, X, b, W, C, ops, es, h, ρ, pins, s, σ, G, H, v, u, x, p, I, rep, rv, rp => by exact (Bool.false_ne_true h).elim
  | .zip _ _, X, b, W, C, ops, es, h, ρ, pins, s, σ, G, H, v, u, x, p, I, rep, rv, rp => by exact (Bool.false_ne_true h).elim
  | .call _ _, X, b, W, C, ops, es, h, ρ, pins, s, σ, G, H, v, u, x, p, I, rep, rv, rp => by exact (Bool.false_ne_true h).elim
  | .bi _ _, X, b, W, C, ops, es, h, ρ, pins, s, σ, G, H, v, u, x, p, I, rep, rv, rp => by exact (Bool.false_ne_true h).elim
  | .isi _ _, X, b, W, C, ops, es, h, ρ, pins, s, σ, G, H, v, u, x, p, I, rep, rv, rp => by exact (Bool.false_ne_true h).elim
  | .attr _ _, X, b, W, C, ops, es, h, ρ, pins, s, σ, G, H, v, u, x, p, I, rep, rv, rp => by exact (Bool.false_ne_true h).elim
  | .mk _ _, X, b, W, C, ops, es, h, ρ, pins, s, σ, G, H, v, u, x, p, I, rep, rv, rp => by exact (Bool.false_ne_true h).elim
  | .meth _ _ _, X, b, W, C, ops, es, h, ρ, pins, s, σ, G, H, v, u, x, p, I, rep, rv, rp => by exact (Bool.false_ne_true h).elim
  | .index _ _, X, b, W, C, ops, es, h, ρ, pins, s, σ, G, H, v, u, x, p, I, rep, rv, rp => by exact (Bool.false_ne_true h).elim
  | .isk _ _, X, b, W, C, ops, es, h, ρ, pins, s, σ, G, H, v, u, x, p, I, rep, rv, rp => by exact (Bool.false_ne_true h).elim
  | .sets _ _, X, b, W, C, ops, es, h, ρ, pins, s, σ, G, H, v, u, x, p, I, rep, rv, rp => by exact (Bool.false_ne_true h).elim
theorem ep_ok : ∀ (e : E) {X : Cx} {b : Bk} {W : WX} (C : Cok T N Γ A k X b W) {o : Option Expr} (h : chko T N b e o = true) (ρ : Rho), PO X o (tX A.cl A.xa H0 W ρ (optI (evs Γ e ρ)))
  | .nil, X, b, W, C, o, h, ρ => by
    cases o with
    | some _ => exact (Bool.false_ne_true h).elim
    | none =>
      refine po_none.imp fun σ H Q ⟨G, rep, q⟩ => ?_
      rw [evs] at q
      exact q G H (Gr.refl rep.sub)
  | .cons e es, X, b, W, C, o, h, ρ => by
    cases o with
    | none => cases es <;> exact (Bool.false_ne_true h).elim
    | some x =>
      cases es <;> first | (exact (Bool.false_ne_true h).elim) | skip
      replace h : chk T N b e x = true := h
      refine (po_some (ev_ok e C h ρ).1).imp fun σ H Q ⟨G, rep, q⟩ => ?_
      rw [evs, evs] at q
      refine ⟨G, rep, ?_⟩
      cases e1 : ev Γ e ρ with
      | exc c => rw [e1] at q; exact q
      | bad => rw [e1] at q; exact q
      | ok d =>
        rw [e1] at q
        intro v G1 H1 g1 r1 _
        cases d <;> first | (exact q.elim) | skip
        cases r1
        exact ⟨_, rfl, q G1 H1 g1⟩
  | .var _, X, b, W, C, o, h, ρ => by exact (Bool.false_ne_true h).elim
  | .int _, X, b, W, C, o, h, ρ => by exact (Bool.false_ne_true h).elim
  | .bl _, X, b, W, C, o, h, ρ => by exact (Bool.false_ne_true h).elim
  | .non, X, b, W, C, o, h, ρ => by exact (Bool.false_ne_true h).elim
  | .str _, X, b, W, C, o, h, ρ => by exact (Bool.false_ne_true h).elim
  | .glob _ _, X, b, W, C, o, h, ρ => by exact (Bool.false_ne_true h).elim
  | .bin _ _ _, X, b, W, C, o, h, ρ => by exact (Bool.false_ne_true h).elim
  | .neg _, X, b, W, C, o, h, ρ => by exact (Bool.false_ne_true h).elim
  | .cmp _ _, X, b, W, C, o, h, ρ => by exact (Bool.false_ne_true h).elim
  | .ccons _ _ _, X, b, W, C, o, h, ρ => by exact (Bool.false_ne_true h).elim
  | .cnil, X, b, W, C, o, h, ρ => by exact (Bool.false_ne_true h).elim
  | .and _, X, b, W, C, o, h, ρ => by exact (Bool.false_ne_true h).elim
  | .or _, X, b, W, C, o, h, ρ => by exact (Bool.false_ne_true h).elim
  | .not _, X, b, W, C, o, h, ρ => by exact (Bool.false_ne_true h).elim
  | .ite _ _ _, X, b, W, C, o, h, ρ => by exact (Bool.false_ne_true h).elim
  | .idx _ _, X, b, W, C, o, h, ρ => by exact (Bool.false_ne_true h).elim
  | .sli _ _ _ _, X, b, W, C, o, h, ρ => by exact (Bool.false_ne_true h).elim
  | .tup _, X, b, W, C, o, h, ρ => by exact (Bool.false_ne_true h).elim
  | .lst _, X, b, W, C, o, h, ρ => by exact (Bool.false_ne_true h).elim
  | .comp _ _ _ _ _, X, b, W, C, o, h, ρ => by exact (Bool.false_ne_true h).elim
  | .lrng _, X, b, W, C, o, h, ρ => by exact (Bool.false_ne_true h).elim
  | .seq _, X, b, W, C, o, h, ρ => by exact (Bool.false_ne_true h).elim
  | .rng _, X, b, W, C, o, h, ρ => by exact (Bool.false_ne_true h).elim
  | .enum _, X, b, W, C, o, h, ρ => by exact (Bool.false_ne_true h).elim
  | .zip _ _, X, b, W, C, o, h, ρ => by exact (Bool.false_ne_true h).elim
  | .call _ _, X, b, W, C, o, h, ρ => by exact (Bool.false_ne_true h).elim
  | .bi _ _, X, b, W, C, o, h, ρ => by exact (Bool.false_ne_true h).elim
  | .isi _ _, X, b, W, C, o, h, ρ => by exact (Bool.false_ne_true h).elim
  | .attr _ _, X, b, W, C, o, h, ρ => by exact (Bool.false_ne_true h).elim
  | .mk _ _, X, b, W, C, o, h, ρ => by exact (Bool.false_ne_true h).elim
  | .meth _ _ _, X, b, W, C, o, h, ρ => by exact (Bool.false_ne_true h).elim
  | .index _ _, X, b, W, C, o, h, ρ => by exact (Bool.false_ne_true h).elim
  | .isk _ _, X, b, W, C, o, h, ρ => by exact (Bool.false_ne_true h).elim
  | .sets _ _, X, b, W, C, o, h, ρ => by exact (Bool.false_ne_true h).elim
theorem ef_ok : ∀ (e : E) {X : Cx} {b : Bk} {W : WX} (C : Cok T N Γ A k X b W) {ifs : List Expr} (h : chkf T N b e ifs = true) (ρ : Rho), PTs X ifs (tX A.cl A.xa H0 W ρ (eva Γ e ρ))
  | .nil, X, b, W, C, ifs, h, ρ => by
    cases ifs with
    | cons _ _ => exact (Bool.false_ne_true h).elim
    | nil =>
      refine pts_nil.imp fun σ H Q ⟨G, rep, q⟩ => ?_
      rw [eva] at q
      exact q G H (Gr.refl rep.sub)
  | .cons e es, X, b, W, C, ifs, h, ρ => by
    cases ifs with
    | nil => cases es <;> exact (Bool.false_ne_true h).elim
    | cons x xs =>
      cases xs with
      | cons _ _ => cases es <;> exact (Bool.false_ne_true h).elim
      | nil =>
        cases es <;> first | (exact (Bool.false_ne_true h).elim) | skip
        replace h : chk T N b e x = true := h
        refine (pts_one (ev_ok e C h ρ).2).imp fun σ H Q ⟨G, rep, q⟩ => ?_
        rw [eva, eva] at q
        refine ⟨G, rep, ?_⟩
        cases e1 : (ev Γ e ρ).bind toB with
        | exc c => rw [e1] at q; exact q
        | bad => rw [e1] at q; exact q
        | ok t =>
          rw [e1] at q
          cases t with
          | true => exact q
          | false => exact q
  | .var _, X, b, W, C, ifs, h, ρ => by exact (Bool.false_ne_true h).elim
  | .int _, X, b, W, C, ifs, h, ρ => by exact (Bool.false_ne_true h).elim
  | .bl _, X, b, W, C, ifs, h, ρ => by exact (Bool.false_ne_true h).elim
  | .non, X, b, W, C, ifs, h, ρ => by exact (Bool.false_ne_true h).elim
  | .str _, X, b, W, C, ifs, h, ρ => by exact (Bool.false_ne_true h).elim
  | .glob _ _, X, b, W, C, ifs, h, ρ => by exact (Bool.false_ne_true h).elim
  | .bin _ _ _, X, b, W, C, ifs, h, ρ => by exact (Bool.false_ne_true h).elim
  | .neg _, X, b, W, C, ifs, h, ρ => by exact (Bool.false_ne_true h).elim
  | .cmp _ _, X, b, W, C, ifs, h, ρ => by exact (Bool.false_ne_true h).elim
  | .ccons _ _ _, X, b, W, C, ifs, h, ρ => by exact (Bool.false_ne_true h).elim
  | .cnil, X, b, W, C, ifs, h, ρ => by exact (Bool.false_ne_true h).elim
  | .and _, X, b, W, C, ifs, h, ρ => by exact (Bool.false_ne_true h).elim
  | .or _, X, b, W, C, ifs, h, ρ => by exact (Bool.false_ne_true h).elim
  | .not _, X, b, W, C, ifs, h, ρ => by exact (Bool.false_ne_true h).elim
  | .ite _ _ _, X, b, W, C, ifs, h, ρ => by exact (Bool.false_ne_true h).elim
  | .idx _ _, X, b, W, C, ifs, h, ρ => by exact (Bool.false_ne_true h).elim
  | .sli _ _ _ _, X, b, W, C, ifs, h, ρ => by exact (Bool.false_ne_true h).elim
  | .tup _, X, b, W, C, ifs, h, ρ => by exact (Bool.false_ne_true h).elim
  | .lst _, X, b, W, C, ifs, h, ρ => by exact (Bool.false_ne_true h).elim
  | .comp _ _ _ _ _, X, b, W, C, ifs, h, ρ => by exact (Bool.false_ne_true h).elim
  | .lrng _, X, b, W, C, ifs, h, ρ => by exact (Bool.false_ne_true h).elim
  | .seq _, X, b, W, C, ifs, h, ρ => by exact (Bool.false_ne_true h).elim
  | .rng _, X, b, W, C, ifs, h, ρ => by exact (Bool.false_ne_true h).elim
  | .enum _, X, b, W, C, ifs, h, ρ => by exact (Bool.false_ne_true h).elim
  | .zip _ _, X, b, W, C, ifs, h, ρ => by exact (Bool.false_ne_true h).elim
  | .call _ _, X, b, W, C, ifs, h, ρ => by exact (Bool.false_ne_true h).elim
  | .bi _ _, X, b, W, C, ifs, h, ρ => by exact (Bool.false_ne_true h).elim
  | .isi _ _, X, b, W, C, ifs, h, ρ => by exact (Bool.false_ne_true h).elim
  | .attr _ _, X, b, W, C, ifs, h, ρ => by exact (Bool.false_ne_true h).elim
  | .mk _ _, X, b, W, C, ifs, h, ρ => by exact (Bool.false_ne_true h).elim
  | .meth _ _ _, X, b, W, C, ifs, h, ρ => by exact (Bool.false_ne_true h).elim
  | .index _ _, X, b, W, C, ifs, h, ρ => by exact (Bool.false_ne_true h).elim
  | .isk _ _, X, b, W, C, ifs, h, ρ => by exact (Bool.false_ne_true h).elim
  | .sets _ _, X, b, W, C, ifs, h, ρ => by exact (Bool.false_ne_true h).elim
theorem ei_ok : ∀ (e : E) {X : Cx} {b : Bk} {W : WX} (C : Cok T N Γ A k X b W) {tg iter : Expr} (h : chkI T N b e tg iter = true) (ρ : Rho), PI X tg iter (tIt A.cl A.xa H0 W ρ ((ev Γ e ρ).bind itemsD))
  | .seq a, X, b, W, C, tg, iter, h, ρ => by
    have h1 : chk T N b a iter = true := by cases tg <;> exact h
    have e0 : (ev Γ (.seq a) ρ).bind itemsD = (ev Γ a ρ).bind itemsD := by
      rw [ev, bind_assoc]
      cases (ev Γ a ρ).bind itemsD <;> rfl
    rw [e0]
    exact pi_seq (ev_ok a C h1 ρ).1
  | .rng es, X, b, W, C, tg, iter, h, ρ => by
    obtain ⟨p, a, as, pos, rfl, hg, hl, h1⟩ := chkI_rng h
    have e0 : (ev Γ (.rng es) ρ).bind itemsD = (evs Γ es ρ).bind rangeD := by
      rw [ev, bind_assoc]
      cases (evs Γ es ρ).bind rangeD <;> rfl
    rw [e0]
    obtain ⟨s1, s2⟩ := stars_head (env := X.env) h1
    have hg' := glB_ok C.sc hg
    have hm : X.mg "range" = none := C.blt (by decide)
    cases as with
    | nil =>
      refine (pi_range1 (tg := tg) hg' hm (es_ok es C h1 ρ) s1).imp fun σ H Q ⟨G, rep, q⟩ => ⟨G, rep, u_AI q fun ds vs G1 H1 e1 g1 r1 q1 => ?_⟩
      match ds, r1, q1 with
      | [.int n], .cons r1 .nil, q1 =>
        cases r1
        by_cases hn : okR n = true
        · have e2 : rangeD [.int n] = .ok ((List.range n.toNat).map fun i => .int (0 + (i : Nat))) := if_pos hn
          rw [e2] at q1
          unfold okR at hn
          simp only [Bool.and_eq_true, decide_eq_true_eq] at hn
          exact ⟨n, rfl, hn.1, hn.2, q1 _ G1 H1 (Gr.refl g1.gh) it_rng⟩
        · have e2 : rangeD [.int n] = .bad := if_neg hn
          rw [e2] at q1
          exact q1.elim
      | [], _, q1 => exact q1.elim
      | [.int a, .int c], .cons r1 (.cons r2 .nil), q1 => exact absurd (evs_len es h1 e1) (by simp)
      | .non :: _, _, q1 => exact q1.elim
      | .bl _ :: _, _, q1 => exact q1.elim
      | .str _ :: _, _, q1 => exact q1.elim
      | .dic :: _, _, q1 => exact q1.elim
      | .tup _ :: _, _, q1 => exact q1.elim
      | .lst _ _ :: _, _, q1 => exact q1.elim
      | .obj _ _ :: _, _, q1 => exact q1.elim
      | .fn _ _ :: _, _, q1 => exact q1.elim
      | .scr _ :: _, _, q1 => exact q1.elim
      | .int _ :: _ :: _, _, _ => exact absurd (evs_len es h1 e1) (by simp)
    | cons c as =>
     cases as with
     | cons c2 as =>
      have ea : as = [] := by
        cases as with
        | nil => rfl
        | cons _ _ => simp at hl
      subst ea
      have hlen0 : ∀ {ds}, evs Γ es ρ = .ok ds → ds.length = 3 := fun e1 => evs_len es h1 e1
      have s3 : starEach [c, c2] X.env = (false, eval c X.env) :: starEach [c2] X.env ∧ starEach [c2] X.env = [(false, eval c2 X.env)] := by
        cases es <;> first | (exact (Bool.false_ne_true h1).elim) | skip
        rename_i e1 e2
        replace h1 : (chk T N b e1 a && chks T N b e2 [c, c2]) = true := h1
        simp only [Bool.and_eq_true] at h1
        have h2 := h1.2
        cases e2 <;> first | (exact (Bool.false_ne_true h2).elim) | skip
        rename_i e3 e4
        have h3 : (chk T N b e3 c && chks T N b e4 [c2]) = true := h2
        simp only [Bool.and_eq_true] at h3
        exact ⟨(stars_head (env := X.env) h2).1, (stars_head (env := X.env) h3.2).1⟩
      refine (pi_range3 (tg := tg) hg' hm (es_ok es C h1 ρ) s1 (by rw [s3.1, s3.2]; rfl)).imp fun σ H Q ⟨G, rep, q⟩ => ⟨G, rep, u_AI q fun ds vs G1 H1 e1 g1 r1 q1 => ?_⟩
      have hlen := hlen0 e1
      have main : ∀ {x y z : D}, ds = [x, y, z] → ∃ i j c n, vs = [.int i, .int j, .int c] ∧ RgC i j c n ∧ Q (Itc i c n) H1 := fun {x y z} ed => by
        subst ed
        cases x <;> first | exact q1.elim | skip
        cases y <;> first | exact q1.elim | skip
        cases z <;> first | exact q1.elim | skip
        rename_i i j c
        cases r1 with
        | cons r1 r =>
          cases r with
          | cons r2 r =>
            cases r with
            | cons r3 r =>
              cases r; cases r1; cases r2; cases r3
              by_cases hn : (decide (c ≠ 0) && decide (c.natAbs < 1073741824) && Builtin.Range.small i j c && decide (0 ≤ Builtin.Range.rangeSize i j c)) = true
              · have e2 : rangeD [.int i, .int j, .int c] = .ok ((List.range (Builtin.Range.rangeSize i j c).toNat).map fun m => .int (i + (m : Nat) * c)) := if_pos hn
                rw [e2] at q1
                simp only [Bool.and_eq_true, decide_eq_true_eq] at hn
                exact ⟨i, j, c, _, rfl, ⟨hn.1.1.1, hn.1.1.2, hn.1.2, (Int.toNat_of_nonneg hn.2).symm⟩, q1 _ G1 H1 (Gr.refl g1.gh) it_rngC⟩
              · have e2 : rangeD [.int i, .int j, .int c] = .bad := if_neg hn
                rw [e2] at q1
                exact q1.elim
      match ds, hlen with
      | [x, y, z], _ => exact main rfl
     | nil =>
      have s3 : starEach [c] X.env = [(false, eval c X.env)] := by
        cases es <;> first | (exact (Bool.false_ne_true h1).elim) | skip
        rename_i e1 e2
        replace h1 : (chk T N b e1 a && chks T N b e2 [c]) = true := h1
        simp only [Bool.and_eq_true] at h1
        exact (stars_head (env := X.env) h1.2).1
      refine (pi_range2 (tg := tg) hg' hm (es_ok es C h1 ρ) (by rw [s1, s3]) s3).imp fun σ H Q ⟨G, rep, q⟩ => ⟨G, rep, u_AI q fun ds vs G1 H1 e1 g1 r1 q1 => ?_⟩
      have hlen := evs_len es h1 e1
      match ds, r1, q1 with
      | [.int i, .int j], .cons r1 (.cons r2 .nil), q1 =>
        cases r1; cases r2
        by_cases hn : (okR i && okR j) = true
        · have e2 : rangeD [.int i, .int j] = .ok ((List.range (j - i).toNat).map fun m => .int (i + (m : Nat))) := if_pos hn
          rw [e2] at q1
          unfold okR at hn
          simp only [Bool.and_eq_true, decide_eq_true_eq] at hn
          exact ⟨i, j, rfl, ⟨hn.1.1, hn.1.2, hn.2.1, hn.2.2⟩, q1 _ G1 H1 (Gr.refl g1.gh) it_rng⟩
        · have e2 : rangeD [.int i, .int j] = .bad := if_neg hn
          rw [e2] at q1
          exact q1.elim
      | [], _, q1 => exact q1.elim
      | [_], _, _ => exact absurd hlen (by simp)
      | _ :: _ :: _ :: _, _, _ => exact absurd hlen (by simp)
      | [.non, _], _, q1 => exact q1.elim
      | [.bl _, _], _, q1 => exact q1.elim
      | [.str _, _], _, q1 => exact q1.elim
      | [.dic, _], _, q1 => exact q1.elim
      | [.tup _, _], _, q1 => exact q1.elim
      | [.lst _ _, _], _, q1 => exact q1.elim
      | [.obj _ _, _], _, q1 => exact q1.elim
      | [.fn _ _, _], _, q1 => exact q1.elim
      | [.scr _, _], _, q1 => exact q1.elim
      | [.int _, .non], _, q1 => exact q1.elim
      | [.int _, .bl _], _, q1 => exact q1.elim
      | [.int _, .str _], _, q1 => exact q1.elim
      | [.int _, .dic], _, q1 => exact q1.elim
      | [.int _, .tup _], _, q1 => exact q1.elim
      | [.int _, .lst _ _], _, q1 => exact q1.elim
      | [.int _, .obj _ _], _, q1 => exact q1.elim
      | [.int _, .fn _ _], _, q1 => exact q1.elim
      | [.int _, .scr _], _, q1 => exact q1.elim
  | .enum a, X, b, W, C, tg, iter, h, ρ => by
    obtain ⟨ts, kk, tp, p, x, pos, rfl, rfl, hg, h1⟩ := chkI_enum h
    have e0 : (ev Γ (.enum a) ρ).bind itemsD = (ev Γ a ρ).bind fun d => (lstD d).bind fun xs => .ok (xs.zipIdx.map fun p => .tup [.int (p.2 : Nat), p.1]) := by
      rw [ev, bind_assoc, bind_assoc]
      cases ev Γ a ρ with
      | ok d => simp only [R.ok_bind]; cases lstD d <;> rfl
      | exc c => rfl
      | bad => rfl
    rw [e0]
    have st := star_cons (env := X.env) (es := []) (notStar h1)
    refine (pi_enum (glB_ok C.sc hg) (C.blt (by decide)) (pa_cons (ev_ok a C h1 ρ).1 pa_nil st) st).imp fun σ H Q ⟨G, rep, q⟩ => ⟨G, rep, u_VI q fun d v G1 H1 e1 g1 r1 q1 => ?_⟩
    cases d <;> first | (exact q1.elim) | skip
    cases r1 with
    | lst k1 _ k2 => exact ⟨_, _, rfl, SqL.of (g1.gh _ _ k1), q1 _ G1 H1 (Gr.refl g1.gh) (it_enum k1 k2)⟩
  | .zip a c, X, b, W, C, tg, iter, h, ρ => by
    obtain ⟨ts, kk, tp, p, x, y, pos, rfl, rfl, hg, h1, h2⟩ := chkI_zip h
    have e0 : (ev Γ (.zip a c) ρ).bind itemsD = (ev Γ a ρ).bind fun d => (lstD d).bind fun xs => (ev Γ c ρ).bind fun d' => (lstD d').bind fun ys => .ok ((xs.zip ys).map fun p => .tup [p.1, p.2]) := by
      rw [ev, bind_assoc, bind_assoc]
      cases ev Γ a ρ with
      | ok d =>
        simp only [R.ok_bind]
        cases lstD d with
        | ok xs =>
          simp only [R.ok_bind]
          cases ev Γ c ρ with
          | ok d' => simp only [R.ok_bind]; cases lstD d' <;> rfl
          | exc c => rfl
          | bad => rfl
        | exc c => rfl
        | bad => rfl
      | exc c => rfl
      | bad => rfl
    rw [e0]
    have st1 := star_cons (env := X.env) (es := [y]) (notStar h1)
    have st2 := star_cons (env := X.env) (es := []) (notStar h2)
    refine (pi_zip (glB_ok C.sc hg) (C.blt (by decide)) (pa_cons (ev_ok a C h1 ρ).1 (pa_cons (ev_ok c C h2 ρ).1 pa_nil st2) st1) st1 (by rw [st2]; rfl)).imp fun σ H Q ⟨G, rep, q⟩ => ⟨G, rep, u_VI q fun d v G1 H1 e1 g1 r1 q1 => ?_⟩
    cases d <;> first | (exact q1.elim) | skip
    refine ⟨G1, rep.mono g1, u_VI q1 fun d' w G2 H2 e2 g2 r2 q2 => ?_⟩
    cases d' <;> first | (exact q2.elim) | skip
    cases r1 with
    | lst k1 _ k2 =>
      cases r2 with
      | lst m1 _ m2 => exact ⟨_, _, _, _, rfl, SqL.of (g2.gh _ _ (g2.gg _ _ k1)), SqL.of (g2.gh _ _ m1), q2 _ G2 H2 (Gr.refl g2.gh) (it_zip (g2.gg _ _ k1) (RpA.mono g2.gg _ k2) m1 m2)⟩
  | .var _, X, b, W, C, tg, iter, h, ρ => by exact (Bool.false_ne_true h).elim
  | .int _, X, b, W, C, tg, iter, h, ρ => by exact (Bool.false_ne_true h).elim
  | .bl _, X, b, W, C, tg, iter, h, ρ => by exact (Bool.false_ne_true h).elim
  | .non, X, b, W, C, tg, iter, h, ρ => by exact (Bool.false_ne_true h).elim
  | .str _, X, b, W, C, tg, iter, h, ρ => by exact (Bool.false_ne_true h).elim
  | .glob _ _, X, b, W, C, tg, iter, h, ρ => by exact (Bool.false_ne_true h).elim
  | .bin _ _ _, X, b, W, C, tg, iter, h, ρ => by exact (Bool.false_ne_true h).elim
  | .neg _, X, b, W, C, tg, iter, h, ρ => by exact (Bool.false_ne_true h).elim
  | .cmp _ _, X, b, W, C, tg, iter, h, ρ => by exact (Bool.false_ne_true h).elim
  | .ccons _ _ _, X, b, W, C, tg, iter, h, ρ => by exact (Bool.false_ne_true h).elim
  | .cnil, X, b, W, C, tg, iter, h, ρ => by exact (Bool.false_ne_true h).elim
  | .and _, X, b, W, C, tg, iter, h, ρ => by exact (Bool.false_ne_true h).elim
  | .or _, X, b, W, C, tg, iter, h, ρ => by exact (Bool.false_ne_true h).elim
  | .not _, X, b, W, C, tg, iter, h, ρ => by exact (Bool.false_ne_true h).elim
  | .ite _ _ _, X, b, W, C, tg, iter, h, ρ => by exact (Bool.false_ne_true h).elim
  | .idx _ _, X, b, W, C, tg, iter, h, ρ => by exact (Bool.false_ne_true h).elim
  | .sli _ _ _ _, X, b, W, C, tg, iter, h, ρ => by exact (Bool.false_ne_true h).elim
  | .tup _, X, b, W, C, tg, iter, h, ρ => by exact (Bool.false_ne_true h).elim
  | .lst _, X, b, W, C, tg, iter, h, ρ => by exact (Bool.false_ne_true h).elim
  | .nil, X, b, W, C, tg, iter, h, ρ => by exact (Bool.false_ne_true h).elim
  | .cons _ _, X, b, W, C, tg, iter, h, ρ => by exact (Bool.false_ne_true h).elim
  | .comp _ _ _ _ _, X, b, W, C, tg, iter, h, ρ => by exact (Bool.false_ne_true h).elim
  | .lrng _, X, b, W, C, tg, iter, h, ρ => by exact (Bool.false_ne_true h).elim
  | .call _ _, X, b, W, C, tg, iter, h, ρ => by exact (Bool.false_ne_true h).elim
  | .bi _ _, X, b, W, C, tg, iter, h, ρ => by exact (Bool.false_ne_true h).elim
  | .isi _ _, X, b, W, C, tg, iter, h, ρ => by exact (Bool.false_ne_true h).elim
  | .attr _ _, X, b, W, C, tg, iter, h, ρ => by exact (Bool.false_ne_true h).elim
  | .mk _ _, X, b, W, C, tg, iter, h, ρ => by exact (Bool.false_ne_true h).elim
  | .meth _ _ _, X, b, W, C, tg, iter, h, ρ => by exact (Bool.false_ne_true h).elim
  | .index _ _, X, b, W, C, tg, iter, h, ρ => by exact (Bool.false_ne_true h).elim
  | .isk _ _, X, b, W, C, tg, iter, h, ρ => by exact (Bool.false_ne_true h).elim
  | .sets _ _, X, b, W, C, tg, iter, h, ρ => by exact (Bool.false_ne_true h).elim
end
end
end Wt
/-! ## Statements: what they do, and how they are looked at -/
namespace Wt
open PySem L2

inductive S where
  | skip | seq (a b : S) | expr (e : E) | set (i : Nat) (e : E) | tset (t : Tg) (e : E) | par (i j : Nat) (a b : E) | par3 (i j l : Nat) (a b c : E)
  | seti (x : Nat) (i e : E) | seti2 (x : Nat) (i j a b : E) | app (x : Nat) (e : E) | ext (x : Nat) (e : E)
  | ite (c : E) (a b : S) | loop (t : Tg) (it : E) (body : S) | whl (n : Nat) (c : E) (body : S) | ret (e : E) | retn | raise (c : Nat)
  | tryA (e : E) (i j : Nat) (cs : List Nat) (a1 a2 a3 g : Nat)
  /-- h = copies; i = Class(copies); each copy longer by a nought; r -/
  | made (h i c : Nat) (ps : List Nat) (r : S)
/-- exception classes by their numbers: 0 is above all -/
def isX (c k : Nat) : Bool := c == k || k == 0
inductive Out where
  | nx (ρ : Rho) | rt (d : D) | ex (c : Nat) | bad

def intsAt (ρ : Rho) (p : Nat) : Option (List Int) :=
  match ρ.getD p .no with
  | .val (.lst _ ds) => (match intsD ds with | some ns => if ns.length < 1000 then some ns else none | none => none)
  | _ => none
def madeD (ρ : Rho) (c : Nat) : List Nat → R D
  | [p] => (match intsAt ρ p with | some ns => mkD c [.lst false (ns.map .int)] | none => .bad)
  | [p, q] => (match intsAt ρ p, intsAt ρ q with | some ns, some ms => mkD c [.lst false (ns.map .int), .lst false (ms.map .int)] | _, _ => .bad)
  | _ => .bad
mutual
/-- the lists of one's own that a value may hold -/
def esc : E → List Nat
  | .var i => [i]
  | .bin _ a b => esc a ++ esc b
  | .neg a => esc a
  | .ite _ a b => esc a ++ esc b
  | .idx a i => escB a ++ esc i
  | .sli _ a lo hi => escB a ++ esc lo ++ esc hi
  | .tup es => esc es
  | .lst es => esc es
  | .cons a es => esc a ++ esc es
  | .comp elt _ it _ _ => esc it ++ esc elt
  | .lrng a => esc a
  | .seq a => esc a
  | .rng es => esc es
  | .enum a => esc a
  | .zip a b => esc a ++ esc b
  | .call _ es => esc es
  | .bi b es => if b.atom then [] else esc es
  | .attr a _ => esc a
  | .mk _ es => esc es
  | .meth _ a es => esc a ++ esc es
  | .index a x => escB a ++ esc x
  | .sets _ a => esc a
  | .int _ => [] | .bl _ => [] | .non => [] | .str _ => [] | .glob _ _ => [] | .cmp _ _ => [] | .ccons _ _ _ => [] | .cnil => [] | .and _ => [] | .or _ => [] | .not _ => [] | .nil => [] | .isi _ _ => [] | .isk _ _ => []
def escB : E → List Nat
  | .var _ => []
  | .bin _ a b => esc a ++ esc b
  | .ite _ a b => esc a ++ esc b
  | .idx a i => escB a ++ esc i
  | .sli _ a lo hi => escB a ++ esc lo ++ esc hi
  | .tup es => esc es
  | .lst es => esc es
  | .comp elt _ it _ _ => esc it ++ esc elt
  | .call _ es => esc es
  | .bi b es => if b.atom then [] else esc es
  | .attr a _ => esc a
  | _ => []
end
def mkSl (e : E) (d : D) : Sl :=
  match newTop e, d with
  | true, .lst true ds => .own ds
  | _, d => .val d

section
variable (Γ : Nat → List D → R D)
def forR (f : D → Rho → Out) : List D → Rho → Out
  | [], ρ => .nx ρ
  | x :: xs, ρ => (match f x ρ with | .nx ρ' => forR f xs ρ' | o => o)
def whlR (t : Rho → R Bool) (b : Rho → Out) : Nat → Rho → Out
  | 0, _ => .bad
  | n + 1, ρ => (match t ρ with
    | .ok true => (match b ρ with | .nx ρ' => whlR t b n ρ' | o => o)
    | .ok false => .nx ρ
    | .exc c => .ex c
    | .bad => .bad)
/-- first a value, then more -/
def outV (r : R D) (f : D → Out) : Out :=
  match r with
  | .ok d => f d
  | .exc c => .ex c
  | .bad => .bad
/-- x[j] = d, x a list of one's own -/
def setO (ρ : Rho) (x : Nat) (j d : D) : Option Rho :=
  match ρ.getD x .no, j with
  | .own ds, .int m => (L2.ixN ds.length m).map fun n => ρ.set x (.own (ds.set n d))
  | _, _ => none
def appO (ρ : Rho) (x : Nat) (d : D) : Option Rho :=
  match ρ.getD x .no with
  | .own ds => if ds.length < cap then some (ρ.set x (.own (ds ++ [d]))) else none
  | _ => none
def extO (ρ : Rho) (x : Nat) (d : D) : Option Rho :=
  match ρ.getD x .no, d with
  | .own ds, .lst _ es => if ds.length + es.length ≤ cap then some (ρ.set x (.own (ds ++ es))) else none
  | _, _ => none
def outO (o : Option Rho) (k : Rho → Out) : Out := match o with | some ρ => k ρ | none => .bad
def ownAt (ρ : Rho) (x : Nat) (o : Out) : Out := match ρ.getD x .no with | .own _ => o | _ => .bad
def exec : S → Rho → Out
  | .skip, ρ => .nx ρ
  | .seq a b, ρ => (match exec a ρ with | .nx ρ' => exec b ρ' | o => o)
  | .expr e, ρ => outV (ev Γ e (shareAt ρ (esc e))) fun _ => .nx (shareAt ρ (esc e))
  | .set i e, ρ => outV (ev Γ e (shareAt ρ (esc e))) fun d => .nx ((shareAt ρ (esc e)).set i (mkSl e d))
  | .tset t e, ρ => outV (ev Γ e (shareAt ρ (esc e))) fun d => (match bindT t d (shareAt ρ (esc e)) with | some ρ' => .nx ρ' | none => .bad)
  | .par i j a b, ρ => outV (ev Γ a (shareAt ρ (esc a ++ esc b))) fun d => outV (ev Γ b (shareAt ρ (esc a ++ esc b))) fun d' => .nx (((shareAt ρ (esc a ++ esc b)).set i (mkSl a d)).set j (mkSl b d'))
  | .par3 i j l a b c, ρ => outV (ev Γ a (shareAt ρ (esc a ++ esc b ++ esc c))) fun d => outV (ev Γ b (shareAt ρ (esc a ++ esc b ++ esc c))) fun d' => outV (ev Γ c (shareAt ρ (esc a ++ esc b ++ esc c))) fun d'' =>
      .nx ((((shareAt ρ (esc a ++ esc b ++ esc c)).set i (mkSl a d)).set j (mkSl b d')).set l (mkSl c d''))
  | .seti x i e, ρ => ownAt (shareAt ρ (esc e ++ esc i)) x (outV (ev Γ e (shareAt ρ (esc e ++ esc i))) fun d => outV (ev Γ i (shareAt ρ (esc e ++ esc i))) fun j => outO (setO (shareAt ρ (esc e ++ esc i)) x j d) .nx)
  | .seti2 x i j a b, ρ => ownAt (shareAt ρ (esc a ++ esc b ++ esc i ++ esc j)) x (outV (ev Γ a (shareAt ρ (esc a ++ esc b ++ esc i ++ esc j))) fun d => outV (ev Γ b (shareAt ρ (esc a ++ esc b ++ esc i ++ esc j))) fun d' =>
      outV (ev Γ i (shareAt ρ (esc a ++ esc b ++ esc i ++ esc j))) fun m => outO (setO (shareAt ρ (esc a ++ esc b ++ esc i ++ esc j)) x m d) fun ρ' => outV (ev Γ j ρ') fun m' => outO (setO ρ' x m' d') .nx)
  | .app x e, ρ => ownAt (shareAt ρ (esc e)) x (outV (ev Γ e (shareAt ρ (esc e))) fun d => outO (appO (shareAt ρ (esc e)) x d) .nx)
  | .ext x e, ρ => ownAt (shareAt ρ (esc e)) x (outV (ev Γ e (shareAt ρ (esc e))) fun d => outO (extO (shareAt ρ (esc e)) x d) .nx)
  | .ite c a b, ρ => (match (ev Γ c (shareAll ρ)).bind toB with
      | .ok true => exec a ρ
      | .ok false => exec b ρ
      | .exc c => .ex c
      | .bad => .bad)
  | .loop t it body, ρ => (match (ev Γ it (shareAt ρ (esc it))).bind itemsD with
      | .ok items => forR (fun d ρ => match bindT t d ρ with | some ρ' => exec body ρ' | none => .bad) items (shareAt ρ (esc it))
      | .exc c => .ex c
      | .bad => .bad)
  | .whl n c body, ρ => whlR (fun ρ => (ev Γ c (shareAll ρ)).bind toB) (exec body) n ρ
  | .ret e, ρ => outV (ev Γ e (shareAt ρ (esc e))) .rt
  | .retn, _ => .rt .non
  | .raise c, _ => .ex c
  | .made h i c ps r, ρ => (if h < ρ.length ∧ i < ρ.length then (match madeD ρ c ps with | .ok d => exec r ((ρ.set h .no).set i (.val d)) | _ => .bad) else .bad)
  | .tryA e i j cs a1 a2 a3 g, ρ => (match ev Γ e (shareAt ρ (esc e)) with
      | .ok _ => .nx (shareAt ρ (esc e))
      | .exc c => if (cs.contains c && decide (i < (shareAt ρ (esc e)).length) && decide (j < (shareAt ρ (esc e)).length)) = true then .rt (.bl (isX c g && !([isX c a1, isX c a2, isX c a3].any id))) else .bad
      | .bad => .bad)
/-- a def's body, at its arguments -/
def runB (n : Nat) (body : S) (args : List D) : R D :=
  match exec Γ body (args.map Sl.val ++ List.replicate (n - args.length) .no) with
  | .rt d => .ok d
  | .nx _ => .ok .non
  | .ex c => .exc c
  | .bad => .bad
end

/-- the names of a row's exception classes -/
structure Tx where
  xname : Nat → Str
  xpres : Nat → Bool
  /-- classes that may be caught, and the classes they are asked for -/
  xc : List Nat
  xk : List Nat
def notComp : Expr → Bool
  | .ListComp .. => false
  | .SetComp .. => false
  | .DictComp .. => false
  | _ => true
def notTup : Expr → Bool
  | .Tuple .. => false
  | _ => true
def isLoc (sc : Scope) (x : Str) : Bool := match sc.names.lookup x with | some .local => true | _ => false
/-- how the two stores of a, b = c, d go: swapped, or by a tuple -/
def parB (sc : Scope) (x y : Str) (px py : Pos) (a b : Expr) : Bool :=
  let all := isLoc sc x && isLoc sc y && px.line == py.line
  if all then !(x == y) && !([a, b].all (foldedForSure 8)) && !([a, b].all (constantsAlone 8)) else true
variable (T : Tb) (U : Tx) (N : List Str)
def chkPar (b : Bk) (i j : Nat) (a c : E) : Stmt → Bool
  | .Assign [.Tuple [.Name y py, .Name z pz] _ _] (.Tuple [u, v] _ _) _ => decide (i ≠ j) && decide (N[i]? = some y) && decide (N[j]? = some z) && locB b y && locB b z && parB b.sc y z py pz u v && chk T N b a u && chk T N b c v
  | _ => false
def chkSeti (b : Bk) (x : Nat) (i e : E) : Stmt → Bool
  | .Assign [.Subscript (.Name y py) s _] v _ => chk T N b (.var x) (.Name y py) && chk T N b i s && chk T N b e v
  | _ => false
def chkSeti2 (b : Bk) (x : Nat) (i j a c : E) : Stmt → Bool
  | .Assign [.Tuple [.Subscript (.Name y py) s _, .Subscript (.Name z pz) s' _] _ _] (.Tuple [u, v] _ _) _ => chk T N b (.var x) (.Name y py) && chk T N b (.var x) (.Name z pz) && chk T N b i s && chk T N b j s' && chk T N b a u && chk T N b c v
  | _ => false
def chkApp (b : Bk) (w : Str) (x : Nat) (e : E) : Stmt → Bool
  | .Expr (.Call (.Attribute (.Name y py) m apos) [a] [] cpos) _ => decide (m = w) && apos.endLine == cpos.line && chk T N b (.var x) (.Name y py) && chk T N b e a
  | _ => false
def chkRaise (b : Bk) (c : Nat) : Stmt → Bool
  | .Raise (some (.Call (.Name x _) [.Constant (.str _) _ _] [] _)) none _ => decide (x = U.xname c) && U.xpres c && glB b.sc x && okName x
  | _ => false
def chkEx (b : Bk) (e : E) : Stmt → Bool
  | .Expr x _ => notComp x && chk T N b e x
  | _ => false
/-- isinstance(n, class k) -/
def chkIsX (b : Bk) (n : Str) (k : Nat) : Expr → Bool
  | .Call (.Name f _) [.Name m _, .Name x _] [] _ => decide (f = "isinstance") && glB b.sc f && decide (m = n) && decide (x = U.xname k) && glB b.sc x && okName x && U.xpres k && U.xk.contains k
  | _ => false
def chkTry (b : Bk) (e : E) (i j : Nat) (cs : List Nat) (a1 a2 a3 g : Nat) : Stmt → Bool
  | .Try [.Expr x _] [.ExceptHandler (some (.Name xn _)) (some n) [.Assign [.Name wn _] (.List [e1, e2, e3] _) _, .Return (some (.BoolOp .And [g1, .UnaryOp .Not (.Call (.Name an _) [.Name wn2 _] [] _) _] _)) _] _] [] [] _ =>
    notComp x && chk T N b e x && decide (xn = U.xname 0) && U.xpres 0 && glB b.sc xn && okName xn && decide (N[i]? = some n) && isLoc b.sc n && visB b.sc n && okName n && decide (N[j]? = some wn) && locB b wn && visB b.sc wn && okName wn
      && chkIsX U b n a1 e1 && chkIsX U b n a2 e2 && chkIsX U b n a3 e3 && chkIsX U b n g g1 && decide (an = "any") && glB b.sc an && decide (wn2 = wn) && cs.all U.xc.contains && decide (i ≠ j)
  | _ => false
/-- list(x), x the slot p -/
def chkLs (b : Bk) (p : Nat) : Expr → Bool
  | .Call (.Name l _) [.Name x px] [] _ => decide (l = "list") && glB b.sc l && chk T N b (.var p) (.Name x px)
  | _ => false
def chkIx (b : Bk) (h : Nat) (k : Int) : Expr → Bool
  | .Subscript (.Name y py) (.Constant (.int z) _ _) _ => chk T N b (.var h) (.Name y py) && decide (z = k)
  | _ => false
def chkA0 (f : Expr → Bool) : Stmt → Bool
  | .Expr (.Call (.Attribute e m apos) [.Constant (.int z) _ _] [] cpos) _ => decide (m = "append") && apos.endLine == cpos.line && decide (z = 0) && f e
  | _ => false
def chkSt (b : Bk) (h : Nat) (f : Expr → Bool) : Stmt → Bool
  | .Assign [.Name y py] x _ => decide (N[h]? = some y) && locB b y && f x
  | _ => false
def chkMk (b : Bk) (c : Nat) (f : List Expr → Bool) : Expr → Bool
  | .Call (.Name x _) (a :: as) [] _ => decide (x = T.cname c) && T.cpres c && glB b.sc x && okName x && f (a :: as)
  | _ => false
def isVar (b : Bk) (h : Nat) : Expr → Bool
  | .Name y py => chk T N b (.var h) (.Name y py)
  | _ => false
mutual
def chkS (b : Bk) : S → Stmt → Bool
  | .expr e, st => isCnil e || chkEx T N b e st
  | .set i e, .Assign [.Name y py] x p => decide (N[i]? = some y) && locB b y && chk T N b e x
  | .tset t e, .Assign [.Tuple ts kk p] x _ => notTup x && chkT N b t (.Tuple ts kk p) && chk T N b e x
  | .par i j a c, st => chkPar T N b i j a c st
  | .seti x i e, st => chkSeti T N b x i e st
  | .seti2 x i j a c, st => chkSeti2 T N b x i j a c st
  | .app x e, st => chkApp T N b "append" x e st
  | .ext x e, st => chkApp T N b "extend" x e st
  | .ite c a d, .If t l r _ => chk T N b c t && chkSs b a l && chkSs b d r
  | .loop t it body, .For tg iter l [] _ => chkI T N b it tg iter && notSet iter && chkT N b t tg && chkSs b body l
  | .whl _ c body, .While t l [] _ => chk T N b c t && chkSs b body l
  | .ret e, .Return (some x) _ => chk T N b e x
  | .retn, .Return none _ => true
  | .raise c, st => chkRaise U b c st
  | .tryA e i j cs a1 a2 a3 g, st => chkTry T U N b e i j cs a1 a2 a3 g st
  | _, _ => false
def chkSs (b : Bk) : S → List Stmt → Bool
  | .skip, [] => true
  | .seq a r, st :: sts => chkS b a st && chkSs b r sts
  | .made h i c [p] r, s1 :: s2 :: s3 :: sts => decide (h ≠ i) && chkSt N b h (chkLs T N b p) s1 && chkSt N b i (chkMk T b c fun as => match as with | [x] => isVar T N b h x | _ => false) s2 && chkA0 (isVar T N b h) s3 && chkSs b r sts
  | .made h i c [p, q] r, s1 :: s2 :: s3 :: s4 :: sts => decide (h ≠ i) && chkSt N b h (fun x => match x with | .List [u, v] _ => chkLs T N b p u && chkLs T N b q v | _ => false) s1 &&
    chkSt N b i (chkMk T b c fun as => match as with | [x, y] => chkIx T N b h 0 x && chkIx T N b h 1 y | _ => false) s2 && chkA0 (chkIx T N b h 0) s3 && chkA0 (chkIx T N b h 1) s4 && chkSs b r sts
  | _, _ => false
end
end Wt
/-! ## Statements do what `exec` says -/
namespace Wt
open PySem PySem.Spec PyProof.Rows L2

theorem _root_.L2.PS.imp {X : Cx} {st : Stmt} {t t' : TS} (h : PS X st t) (i : ∀ D σ H, t' D σ H → t D σ H) : PS X st t' := ⟨fun pins s σ H D I q => h.run pins s σ H D I (i D σ H q)⟩
theorem _root_.L2.PSs.imp {X : Cx} {st : List Stmt} {t t' : TS} (h : PSs X st t) (i : ∀ D σ H, t' D σ H → t D σ H) : PSs X st t' := ⟨fun pins s σ H D I q => h.run pins s σ H D I (i D σ H q)⟩
/-- what is wished of exceptions in a def's body -/
abbrev WXE (E : XK) : WX := fun cls d _ H => E cls d H
section
variable (cl xa : Nat → Addr) (G0 H0 : Hp) (Ex : XK)
def FinS (G : Hp) (Ds : Ends) : Out → Prop
  | .nx ρ' => ∀ σ' G' H', Rep cl H0 ρ' σ' G' H' → Gr G0 H0 G' H' → Same G G' → Ds.nx σ' H'
  | .rt d => ∀ v G' H', Gr G0 H0 G' H' → Rp cl H0 G' v d → Ds.rt v H'
  | .ex c => ∀ H', Same H0 H' → Ex (.ref (xa c)) none H'
  | .bad => False
def tSt (ρ : Rho) (o : Out) : TS := fun Ds σ H => ∃ G, Rep cl H0 ρ σ G H ∧ Gr G0 H0 G H ∧ FinS cl xa G0 H0 Ex G Ds o
end
section
variable {cl xa : Nat → Addr} {G0 H0 : Hp} {Ex : XK} {G H G1 H1 : Hp} {σ : L2.St} {top : Bool} {Ds : Ends}
theorem FinS.mono {o : Out} (h : FinS cl xa G0 H0 Ex G Ds o) (s : Same G G1) : FinS cl xa G0 H0 Ex G1 Ds o := by
  cases o with
  | nx ρ => exact fun σ' G' H' r g s' => h σ' G' H' r g (s.trans s')
  | rt d => exact h
  | ex c => exact h
  | bad => exact h
theorem u_SV {r : R D} {f : D → Out} {K : VK} (s0 : Same H0 H) (q : FinS cl xa G0 H0 Ex G Ds (outV r f)) (k : ∀ x v G1 H1, r = .ok x → Gr G H G1 H1 → Rp cl H0 G1 v x → (top = true → NewV H v x) → FinS cl xa G0 H0 Ex G1 Ds (f x) → K v H1) : Fin cl xa H0 (WXE Ex) G H σ top K r := by
  cases r with
  | ok d => exact fun v G' H' g r' n => k d v G' H' rfl g r' n (FinS.mono q g.gg)
  | exc c => exact fun H' s => q H' (s0.trans s)
  | bad => exact q
theorem slNew_of {ρ : Rho} {e : E} {d : D} {v : V} (rep : Rep cl H0 ρ σ G H) (g : Gr G H G1 H1) (rp : Rp cl H0 G1 v d) (n : newTop e = true → NewV H v d) : ∃ G2, Gr G H G2 H1 ∧ SlNew cl H0 G2 H1 ρ σ v (mkSl e d) := by
  have plain : mkSl e d = .val d → ∃ G2, Gr G H G2 H1 ∧ SlNew cl H0 G2 H1 ρ σ v (mkSl e d) := fun z => ⟨G1, g, by rw [z]; exact rp⟩
  cases en : newTop e with
  | false => exact plain (by unfold mkSl; rw [en])
  | true =>
    cases d with
    | non => exact plain (by unfold mkSl; rw [en])
    | bl _ => exact plain (by unfold mkSl; rw [en])
    | int _ => exact plain (by unfold mkSl; rw [en])
    | str _ => exact plain (by unfold mkSl; rw [en])
    | dic => exact plain (by unfold mkSl; rw [en])
    | tup _ => exact plain (by unfold mkSl; rw [en])
    | obj _ _ => exact plain (by unfold mkSl; rw [en])
    | fn _ _ => exact plain (by unfold mkSl; rw [en])
    | scr _ => exact plain (by unfold mkSl; rw [en])
    | lst f ds =>
     cases f with
     | false => exact plain (by unfold mkSl; rw [en])
     | true =>
      have es : mkSl e (.lst true ds) = .own ds := by unfold mkSl; rw [en]
      obtain ⟨p, rfl, np⟩ := n en ds rfl
      have rp0 := rp
      cases rp with
      | @lst _ xs _ _ h1 h2 h3 =>
        have nG : G p = none := rep.sub.free np
        refine ⟨minus G1 p, ⟨g.hh, fun a o h => ?_, fun a o h => g.gh _ _ (minus_same _ _ h), fun a h => ?_⟩, ?_⟩
        · rw [minus_ne (ne_of_none h nG)]; exact g.gg _ _ h
        · rw [minus_ne (fun z => by subst z; exact h np)]; exact g.old a h
        · rw [es]
          refine ⟨p, xs, rfl, minus_self, h2 rfl, g.gh _ _ h1, RpA.less rp0 ds h3 (by simp only [D.sz]; omega), fun j es' ej hj => ?_⟩
          obtain ⟨v, e1, a, ys, e2, k1, k2, k3, k4⟩ := rep.slot j _ ej
          rw [hj] at e1
          injection e1 with e1
          subst e1
          injection e2 with e2; injection e2 with e2
          subst e2
          rw [np] at k3; cases k3
end
section
variable {T : Tb} {U : Tx} {N : List Str} {Γ : Nat → List D → R D} {A : Ad} {k : Nat} {G0 H0 : Hp} {X : Cx} {b : Bk} {Ex : XK}
/-- what the body of a def stands on -/
structure Sok (T : Tb) (U : Tx) (N : List Str) (Γ : Nat → List D → R D) (A : Ad) (k : Nat) (X : Cx) (b : Bk) (Ex : XK) : Prop where
  c : Cok T N Γ A k X b (WXE Ex)
  po : PassesOwn (model X.prog X.w) X.A X.env X.xe
  fk : b.sc.kind = .function
  xc : ∀ c, U.xpres c = true → X.mg (U.xname c) = some (.ref (A.xa c)) ∧ PySem.W.keepIn X.K (.ref (A.xa c)) = true ∧ PySem.W.excIn X.K (A.xa c) [.type "ValueError", .type "Exception", .type "BaseException", .type "object"] "ValueError.__new__" = true ∧
    PySem.W.subIn X.K (.ref (A.xa c)) (.type "BaseException") = some true ∧ PySem.W.typeIn X.K (.ref (A.xa c)) = some (.type "type")
  xt : ∀ c ∈ U.xc, ExcC X.K (A.xa c) ∧ PySem.W.exmOne X.K (.ref (A.xa c)) (.ref (A.xa 0)) = some true ∧ ∀ m ∈ U.xk, PySem.W.kitOne X.K (.ref (A.xa c)) (.ref (A.xa m)) = some (isX c m)
  hs : X.stack = X.env :: X.outer
  hf : X.env.frame = some X.env.locals

theorem share_st {ρ : Rho} {σ : L2.St} {G H : Hp} {Ds : Ends} {o : Out} (is : List Nat) (rep : Rep A.cl H0 ρ σ G H) (g0 : Gr G0 H0 G H) (q : FinS A.cl A.xa G0 H0 Ex G Ds o) : ∃ G', Rep A.cl H0 (shareAt ρ is) σ G' H ∧ Gr G0 H0 G' H ∧ FinS A.cl A.xa G0 H0 Ex G' Ds o := by
  obtain ⟨G', s, o', rep'⟩ := rep.shareAt is
  exact ⟨G', rep', ⟨g0.hh, g0.gg.trans s, rep'.sub, fun a h => (o' a h).trans (g0.old a h)⟩, q.mono s⟩
theorem swaps_plain {x : Expr} (h : notComp x = true) {t : Option Expr} {l : Nat} {env : Env} : swapsWith x t l env = pure false := by
  cases x <;> first | rfl | exact (Bool.false_ne_true h).elim
theorem upd_gr {G H : Hp} {a : Addr} {o : HO} (g0 : Gr G0 H0 G H) (h0 : H0 a = none) (hg : G a = none) : Gr G0 H0 G (upd H a o) :=
  ⟨fun c u h => by rw [upd_ne (ne_of_none h h0)]; exact g0.hh _ _ h, g0.gg, fun c u h => by rw [upd_ne (ne_of_none h hg)]; exact g0.gh _ _ h, g0.old⟩

/-- x = e, e no comprehension -/
theorem set_plain (C : Sok T U N Γ A k X b Ex) {i : Nat} {e : E} {y : Str} {py p : Pos} {x : Expr} (hi : N[i]? = some y) (hl : locB b y = true) (he : chk T N b e x = true) (hsw : swapsWith x (some (.Name y py)) p.line X.env = pure false) (ρ : Rho) :
    PS X (.Assign [.Name y py] x p) (tSt A.cl A.xa G0 H0 Ex ρ (exec Γ (.set i e) ρ)) := by
  obtain ⟨l1, l2⟩ := locB_ok C.c.sc C.c.fn hl
  refine (ps_set (i := i) (by rw [C.c.hN]; exact C.c.nd) (by rw [C.c.hN]; exact hi) l1 (ev_ok (H0 := H0) e C.c he (shareAt ρ (esc e))).1 hsw l2).imp fun Ds σ H ⟨G, rep, g0, q⟩ => ?_
  rw [exec] at q
  obtain ⟨G', rep', g0', q'⟩ := share_st (esc e) rep g0 q
  refine ⟨G', rep', u_SV rep'.sub0 q' fun d v G1 H1 e1 g1 r1 n1 q1 => ?_⟩
  obtain ⟨G2, g2, sl⟩ := slNew_of rep' g1 r1 n1
  exact (q'.mono (Same.refl _) : FinS A.cl A.xa G0 H0 Ex G' Ds _) |> fun q' => by
    rw [e1] at q'
    exact q' _ G2 H1 ((rep'.mono g2).setSl i sl) (g0'.trans g2) g2.gg

/-- reading a plain assignment of a value that stands for r -/
theorem asg_read {ρ : Rho} {e : E} {i : Nat} {Ds : Ends} {σ : L2.St} {H : Hp} (q : tSt A.cl A.xa G0 H0 Ex ρ (exec Γ (.set i e) ρ) Ds σ H) : tAsg (tV A.cl A.xa H0 (WXE Ex) (shareAt ρ (esc e)) (newTop e) (ev Γ e (shareAt ρ (esc e)))) (gName i) Ds σ H := by
  obtain ⟨G, rep, g0, q⟩ := q
  rw [exec] at q
  obtain ⟨G', rep', g0', q'⟩ := share_st (esc e) rep g0 q
  refine ⟨G', rep', u_SV rep'.sub0 q' fun d v G1 H1 e1 g1 r1 n1 q1 => ?_⟩
  obtain ⟨G2, g2, sl⟩ := slNew_of rep' g1 r1 n1
  rw [e1] at q'
  exact q' _ G2 H1 ((rep'.mono g2).setSl i sl) (g0'.trans g2) g2.gg
theorem swaps_comp {x : Expr} {gs : List Comprehension} {scope : Scope} {p py : Pos} {y : Str} {l : Nat} {env : Env} (hk : env.scope.kind = .function) :
    swapsWith (.ListComp x gs scope p) (some (.Name y py)) l env = pure (env.kindOf y == some .local && py.line == p.line && !(scope.names.any fun (n, k) => n == y && (k == .local || k == .cell))) := by
  have hb : env.blockKind = .function := by unfold Env.blockKind; rw [hk]; rfl
  unfold swapsWith
  simp only [hb, Expr.pos]
  rfl
theorem set_ok (C : Sok T U N Γ A k X b Ex) {i : Nat} {e : E} {y : Str} {py p : Pos} {x : Expr} (hi : N[i]? = some y) (hl : locB b y = true) (he : chk T N b e x = true) (ρ : Rho) :
    PS X (.Assign [.Name y py] x p) (tSt A.cl A.xa G0 H0 Ex ρ (exec Γ (.set i e) ρ)) := by
  by_cases hx : notComp x = true
  · exact set_plain C hi hl he (swaps_plain hx) ρ
  · cases e <;> first
      | (exfalso; apply hx; cases x <;> first | rfl | exact (Bool.false_ne_true he).elim)
      | skip
    case cnil =>
      have e : exec Γ (.set i .cnil) ρ = .bad := by rw [exec, ev]; rfl
      rw [e]
      exact ⟨fun pins s σ H D I q => by obtain ⟨G, rep, g0, q⟩ := q; exact q.elim⟩
    case sli s a lo hi' => exfalso; apply hx; cases s <;> cases x <;> first | rfl | exact (Bool.false_ne_true he).elim
    case comp elt t it cd own =>
      obtain ⟨x', tg, iter, ifs, scope, p', rfl, h1, h2, h3, h4, h5, h6, h7⟩ := chk_comp he
      have hk : X.env.scope.kind = .function := by rw [C.c.sc]; exact C.fk
      have sw := swaps_comp (x := x') (gs := [⟨tg, iter, ifs, 0⟩]) (scope := scope) (p := p') (py := py) (y := y) (l := p.line) hk
      by_cases hs : (X.env.kindOf y == some .local && py.line == p'.line && !(scope.names.any fun (n, k) => n == y && (k == .local || k == .cell))) = true
      · rw [hs] at sw
        have hy : X.env.scope.names.lookup y = some .local := by
          simp only [Bool.and_eq_true, beq_iff_eq] at hs
          exact hs.1.1
        exact (comp_set C.c h2 h3 h4 h5 (ei_ok it C.c h1 (shareAt ρ (esc (.comp elt t it cd own)))) (fun s H Cc cl fp ρ => ef_ok cd (C.c.blk s H scope Cc cl fp) h6 ρ) (fun s H Cc cl fp ρ => (ev_ok elt (C.c.blk s H scope Cc cl fp) h7 ρ).1) hi hy sw).imp fun Ds σ H q => asg_read q
      · rw [Bool.eq_false_iff.mpr hs] at sw
        exact set_plain C hi hl he sw ρ
theorem setO_ok {ρ ρ' : Rho} {x : Nat} {m d : D} (h : setO ρ x m d = some ρ') : ∃ ds j n, ρ.getD x .no = .own ds ∧ m = .int j ∧ L2.ixN ds.length j = some n ∧ ρ' = ρ.set x (.own (ds.set n d)) := by
  unfold setO at h
  split at h
  · rename_i ds j e
    obtain ⟨n, e1, e2⟩ := Option.map_eq_some_iff.mp h
    exact ⟨ds, j, n, e, rfl, e1, e2.symm⟩
  · cases h
/-- x[i] = v, x a list of one's own, where the value is at hand -/
theorem seti_fin {ρ ρ' : Rho} {x : Nat} {m d : D} {v w : V} {σ : L2.St} {G H : Hp} {K : Hp → Prop} {o : V} (rep : Rep A.cl H0 ρ σ G H) (g0 : Gr G0 H0 G H) (rd : Rp A.cl H0 G v d) (rm : Rp A.cl H0 G w m)
    (ho : σ[x]? = some (some o)) (e : setO ρ x m d = some ρ') (K0 : ∀ H', Rep A.cl H0 ρ' σ G H' → Gr G0 H0 G H' → K H') : rSetL o w v H K := by
  obtain ⟨ds, j, n, eo, rfl, en, rfl⟩ := setO_ok e
  cases rm
  obtain ⟨a, xs, e1, h1, h2, h3, h4, h5⟩ := rep.updOwn eo
  rw [ho] at e1
  injection e1 with e1; injection e1 with e1
  subst e1
  exact ⟨a, xs, j, n, rfl, rfl, h3, by rw [h4.length]; exact en, K0 _ (h5 _ _ (h4.set rd n)) (upd_gr g0 h2 h1)⟩
theorem u_SO {ρ : Rho} {x : Nat} {o : Out} {G : Hp} {Ds : Ends} (q : FinS A.cl A.xa G0 H0 Ex G Ds (ownAt ρ x o)) : (∃ ds, ρ.getD x .no = .own ds) ∧ FinS A.cl A.xa G0 H0 Ex G Ds o := by
  unfold ownAt at q
  cases e : ρ.getD x .no with
  | no => rw [e] at q; exact q.elim
  | val d => rw [e] at q; exact q.elim
  | own ds => rw [e] at q; exact ⟨⟨ds, rfl⟩, q⟩
theorem u_OO {o : Option Rho} {f : Rho → Out} {G : Hp} {Ds : Ends} (q : FinS A.cl A.xa G0 H0 Ex G Ds (outO o f)) : ∃ ρ, o = some ρ ∧ FinS A.cl A.xa G0 H0 Ex G Ds (f ρ) := by
  cases o with
  | none => exact q.elim
  | some ρ => exact ⟨ρ, rfl, q⟩
theorem name_read {b : Bk} (C : Cok T N Γ A k X b (WXE Ex)) {x : Nat} {y : Str} {py : Pos} (h : chk T N b (.var x) (.Name y py) = true) : PE X (.Name y py) (tVar x) := by
  obtain ⟨x', p', e, hi, hv, hn⟩ := chk_var h
  injection e with e1 e2
  subst e1; subst e2
  obtain ⟨n1, n2, n3⟩ := okName_ok hn
  exact pe_var (by rw [C.hN]; exact hi) (visB_ok C.sc hv) n1 n2
theorem sub_assign {o i : Expr} {pos : Pos} {env : Env} (h : ∀ lo hi st p, i ≠ .Slice lo hi st p) : ∀ v, assign (.Subscript o i pos) env v = (do
      let ov ← holding [v] (eval o env)
      let iv ← holding [v, ov] (eval i env)
      standAt pos
      holding [v, ov, iv] (setItem ov iv v)
      release [v, ov, iv] []) := fun v => by
  cases i <;> first | rfl | exact absurd rfl (h _ _ _ _)
theorem own_name {ρ : Rho} {x : Nat} {σ : L2.St} {G H : Hp} {ds : List D} (rep : Rep A.cl H0 ρ σ G H) (e : ρ.getD x .no = .own ds) : ∃ o, σ[x]? = some (some o) := by
  obtain ⟨a, xs, e1, _⟩ := rep.own e
  exact ⟨_, e1⟩
theorem seti_ok (C : Sok T U N Γ A k X b Ex) {x : Nat} {i e : E} {y : Str} {py p sp : Pos} {s v : Expr} (hx : chk T N b (.var x) (.Name y py) = true) (hi : chk T N b i s = true) (he : chk T N b e v = true) (ρ : Rho) :
    PS X (.Assign [.Subscript (.Name y py) s p] v sp) (tSt A.cl A.xa G0 H0 Ex ρ (exec Γ (.seti x i e) ρ)) := by
  have ns : ∀ lo hi st p, s ≠ .Slice lo hi st p := fun lo hi' st p z => by subst z; exact chk_slice hi
  have h1 : swapsWithSole [.Subscript (.Name y py) s p] v sp.line X.env = pure false := by
    show swapsWith v (some (.Subscript (.Name y py) s p)) sp.line X.env = pure false
    cases v <;> rfl
  have h2 : swappedStores [.Subscript (.Name y py) s p] v X.env = pure none := by cases v <;> rfl
  refine (ps_asg (ev_ok (H0 := H0) e C.c he (shareAt ρ (esc e ++ esc i))).1 (pg_sub (name_read C.c hx) (ev_ok (H0 := H0) i C.c hi (shareAt ρ (esc e ++ esc i))).1 set_list (sub_assign ns)) h1 h2 rfl).imp fun Ds σ H ⟨G, rep, g0, q⟩ => ?_
  rw [exec] at q
  obtain ⟨G', rep', g0', q'⟩ := share_st (esc e ++ esc i) rep g0 q
  obtain ⟨⟨ds, eo⟩, q'⟩ := u_SO q'
  refine ⟨G', rep', u_SV rep'.sub0 q' fun d v' G1 H1 e1 g1 r1 n1 q1 => ?_⟩
  have rep1 := rep'.mono g1
  obtain ⟨o, ho⟩ := own_name rep1 eo
  refine ⟨o, ho, G1, rep1, u_SV rep1.sub0 q1 fun m w G2 H2 e2 g2 r2 n2 q2 => ?_⟩
  obtain ⟨ρ', er, q3⟩ := u_OO q2
  exact seti_fin (rep1.mono g2) ((g0'.trans g1).trans g2) (Rp.mono g2.gg d r1) r2 ho er fun H' rep3 g3 => q3 σ G2 H' rep3 g3 (Same.refl _)
theorem seti2_ok (C : Sok T U N Γ A k X b Ex) {x : Nat} {i j a c : E} {y z : Str} {py p pz p' tp tp' sp : Pos} {kk kk' : Nat} {s s' u v : Expr} (hx : chk T N b (.var x) (.Name y py) = true) (hz : chk T N b (.var x) (.Name z pz) = true) (hi : chk T N b i s = true) (hj : chk T N b j s' = true) (ha : chk T N b a u = true) (hc : chk T N b c v = true) (ρ : Rho) :
    PS X (.Assign [.Tuple [.Subscript (.Name y py) s p, .Subscript (.Name z pz) s' p'] kk tp] (.Tuple [u, v] kk' tp') sp) (tSt A.cl A.xa G0 H0 Ex ρ (exec Γ (.seti2 x i j a c) ρ)) := by
  have ns : ∀ lo hi st p, s ≠ .Slice lo hi st p := fun lo hi' st p z => by subst z; exact chk_slice hi
  have ns' : ∀ lo hi st p, s' ≠ .Slice lo hi st p := fun lo hi' st p z => by subst z; exact chk_slice hj
  have h1 : swapsWithSole [.Tuple [.Subscript (.Name y py) s p, .Subscript (.Name z pz) s' p'] kk tp] (.Tuple [u, v] kk' tp') sp.line X.env = pure false := rfl
  have h2 : swappedStores [.Tuple [.Subscript (.Name y py) s p, .Subscript (.Name z pz) s' p'] kk tp] (.Tuple [u, v] kk' tp') X.env = pure none := by
    have hb : X.env.blockKind = .function := by unfold Env.blockKind; rw [C.c.sc, C.fk]; rfl
    unfold swappedStores
    simp only [hb]
    split
    · rfl
    · split
      · rfl
      · split
        · rfl
        · rename_i h; exact absurd rfl h
  have su := star_cons (env := X.env) (es := [v]) (notStar ha)
  have sv := star_cons (env := X.env) (es := []) (notStar hc)
  have sub1 := pg_sub (name_read C.c hx) (ev_ok (H0 := H0) i C.c hi (shareAt ρ (esc a ++ esc c ++ esc i ++ esc j))).1 set_list (pos := p) (sub_assign ns)
  -- the second index is read behind the first store: whatever the list is then
  have sub2 : PG X (.Subscript (.Name z pz) s' p') (gSub (tVar x) (fun σ H Q => ∃ ρ', tV A.cl A.xa H0 (WXE Ex) ρ' (newTop j) (ev Γ j ρ') σ H Q) rSetL) :=
    pg_sub (name_read C.c hz) ⟨fun pins s σ H Q I ⟨ρ', q⟩ => (ev_ok (H0 := H0) j C.c hj ρ').1.run pins s σ H Q I q⟩ set_list (sub_assign ns')
  refine (ps_asg (pe_tup (pa_cons (ev_ok (H0 := H0) a C.c ha (shareAt ρ (esc a ++ esc c ++ esc i ++ esc j))).1 (pa_cons (ev_ok (H0 := H0) c C.c hc (shareAt ρ (esc a ++ esc c ++ esc i ++ esc j))).1 pa_nil sv) su)) (pg_tup C.c.calm (pgs_cons sub1 (pgs_cons sub2 pgs_nil)) rfl rfl) h1 h2 rfl).imp fun Ds σ H ⟨G, rep, g0, q⟩ => ?_
  rw [exec] at q
  obtain ⟨G', rep', g0', q'⟩ := share_st (esc a ++ esc c ++ esc i ++ esc j) rep g0 q
  obtain ⟨⟨ds, eo⟩, q'⟩ := u_SO q'
  refine ⟨G', rep', u_SV rep'.sub0 q' fun d v1 G1 H1 e1 g1 r1 n1 q1 => ⟨G1, rep'.mono g1, u_SV (rep'.mono g1).sub0 q1 fun d' v2 G2 H2 e2 g2 r2 n2 q2 => ⟨by show 2 ≤ sizeLine; rw [sizeLine_eq]; decide, fun T' nT => ?_⟩⟩⟩
  have g12 := g1.trans g2
  have gT := Gr.new (o := HO.tup [v1, v2]) g12.gh nT
  have g3 : Gr G' H G2 (upd H2 T' (.tup [v1, v2])) := ⟨g12.hh.trans gT.hh, g12.gg, fun b' o' h' => gT.hh _ _ (g12.gh _ _ h'), g12.old⟩
  have rep3 := rep'.mono g3
  have gg3 := g0'.trans g3
  obtain ⟨o, ho⟩ := own_name rep3 eo
  refine ⟨T', [v1, v2], rfl, SqT.of upd_same, rfl, v1, [v2], rfl, o, ho, G2, rep3, u_SV rep3.sub0 q2 fun m w G4 H4 e4 g4 r4 n4 q4 => ?_⟩
  obtain ⟨ρ', er, q5⟩ := u_OO q4
  refine seti_fin (rep3.mono g4) (gg3.trans g4) (Rp.mono (g2.gg.trans g4.gg) d r1) r4 ho er fun H5 rep5 g5 => ⟨v2, [], rfl, ?_⟩
  obtain ⟨ds', jm, nm, eo', _, _, erho⟩ := setO_ok er
  have eo5 : ∃ ds5, ρ'.getD x .no = .own ds5 := by
    rw [erho]
    refine ⟨ds'.set nm d, ?_⟩
    have hx' : x < (shareAt ρ (esc a ++ esc c ++ esc i ++ esc j)).length := by
      have := List.getElem?_eq_some_iff.mp (getD_some eo' (fun z => nomatch z)); obtain ⟨h, _⟩ := this; exact h
    rw [List.getD_eq_getElem?_getD, List.getElem?_set_self hx']
    rfl
  obtain ⟨ds5, eo5⟩ := eo5
  obtain ⟨o5, ho5⟩ := own_name rep5 eo5
  refine ⟨o5, ho5, ρ', G4, rep5, u_SV rep5.sub0 q5 fun m' w' G6 H6 e6 g6 r6 n6 q6 => ?_⟩
  obtain ⟨ρ'', er', q7⟩ := u_OO q6
  exact seti_fin (rep5.mono g6) (g5.trans g6) (Rp.mono (g4.gg.trans g6.gg) d' r2) r6 ho5 er' fun H7 rep7 g7 => ⟨rfl, q7 σ G6 H7 rep7 g7 (Same.refl _)⟩
end
end Wt
namespace Wt
open PySem PySem.Spec PyProof.Rows L2
theorem sw_par {y z : Str} {py pz tp tp' : Pos} {kk kk' : Nat} {u v : Expr} {env : Env} (hk : env.scope.kind = .function) (nu : ∀ x p, u ≠ .Starred x p) (nv : ∀ x p, v ≠ .Starred x p) (h : parB env.scope y z py pz u v = true) :
    swappedStores [.Tuple [.Name y py, .Name z pz] kk tp] (.Tuple [u, v] kk' tp') env = pure (if (isLoc env.scope y && isLoc env.scope z && py.line == pz.line) = true then some [y, z] else none) := by
  have hb : env.blockKind = .function := by unfold Env.blockKind; rw [hk]; rfl
  have li : ∀ x, (env.kindOf x == some .local) = isLoc env.scope x := fun x => by
    unfold isLoc Env.kindOf
    cases env.scope.names.lookup x with
    | none => rfl
    | some k => cases k <;> rfl
  have nst : ∀ f : Expr → Bool, (∀ x, (∀ a p, x ≠ .Starred a p) → f x = false) → ([u, v] : List Expr).any f = false := fun f hf => by
    simp [hf u nu, hf v nv]
  have lc : (pz.line == py.line) = (py.line == pz.line) := by
    by_cases e : py.line = pz.line
    · rw [e]
    · rw [beq_eq_false_iff_ne.mpr e, beq_eq_false_iff_ne.mpr (Ne.symm e)]
  unfold swappedStores
  simp only [hb]
  rw [nst _ (fun x hx => by cases x <;> first | rfl | exact absurd rfl (hx _ _))]
  unfold parB at h
  cases e1 : isLoc env.scope y <;> cases e2 : isLoc env.scope z <;> cases e3 : (py.line == pz.line)
  case true.true.true =>
    simp only [e1, e2, e3, Bool.and_self, if_true, Bool.and_eq_true, Bool.not_eq_true'] at h
    obtain ⟨⟨h1, h2⟩, h3⟩ := h
    have ne : y ≠ z := by
      intro e; subst e; simp at h1
    simp [List.filterMap, li, e1, e2, lc, e3, h2, h3, Expr.pos, List.eraseDups_cons, ne, Ne.symm ne]
  all_goals simp [List.filterMap, li, e1, e2, lc, e3, Expr.pos]
end Wt
/-! ## Statements do what `exec` says: the blocks -/
namespace Wt
open PySem PySem.Spec PyProof.Rows L2
section
variable {T : Tb} {U : Tx} {N : List Str} {Γ : Nat → List D → R D} {A : Ad} {k : Nat} {G0 H0 : Hp} {X : Cx} {b : Bk} {Ex : XK}
/-- two values, one behind the other, each new one kept as one's own -/
theorem par_vals {ρ : Rho} {a c : E} {i j : Nat} {σ : L2.St} {G H : Hp} {Ds : Ends} {K : List V → Hp → Prop} (rep : Rep A.cl H0 ρ σ G H) (g0 : Gr G0 H0 G H)
    (q : FinS A.cl A.xa G0 H0 Ex G Ds (outV (ev Γ a ρ) fun d => outV (ev Γ c ρ) fun d' => .nx ((ρ.set i (mkSl a d)).set j (mkSl c d'))))
    (K0 : ∀ v w G' H' ρ', Rep A.cl H0 ρ' ((σ.set i (some v)).set j (some w)) G' H' → Gr G0 H0 G' H' → FinS A.cl A.xa G0 H0 Ex G' Ds (.nx ρ') → K [v, w] H') :
    tCons (tV A.cl A.xa H0 (WXE Ex) ρ (newTop a) (ev Γ a ρ)) (tCons (tV A.cl A.xa H0 (WXE Ex) ρ (newTop c) (ev Γ c ρ)) tNil) σ H K := by
  refine ⟨G, rep, u_SV rep.sub0 q fun d v G1 H1 e1 g1 r1 n1 q1 => ?_⟩
  obtain ⟨G2, g2, sl⟩ := slNew_of rep g1 r1 n1
  have rep2 := rep.mono g2
  have q2 : FinS A.cl A.xa G0 H0 Ex G2 Ds (outV (ev Γ c ρ) fun d' => .nx ((ρ.set i (mkSl a d)).set j (mkSl c d'))) := by
    rw [e1] at q
    exact FinS.mono q g2.gg
  refine ⟨G2, rep2, u_SV rep2.sub0 q2 fun d' w G3 H3 e3 g3 r3 n3 q3 => ?_⟩
  obtain ⟨G4, g4, sl4⟩ := slNew_of rep2 g3 r3 n3
  have rep4 := rep2.mono g4
  have s1 := sl.mono g4
  refine K0 v w G4 H3 _ ?_ ((g0.trans g2).trans g4) (by rw [e3] at q2; exact FinS.mono q2 g4.gg)
  refine (rep4.setSl i s1).setSl j ?_
  cases es : mkSl c d' with
  | no => rw [es] at sl4; exact sl4.elim
  | val z => rw [es] at sl4; exact sl4
  | own ds =>
    rw [es] at sl4
    obtain ⟨p, xs, rfl, h1, h2, h3, h4, h5⟩ := sl4
    refine ⟨p, xs, rfl, h1, h2, h3, h4, fun m es' em hm => ?_⟩
    by_cases hmi : i = m
    · subst hmi
      have hl : i < ρ.length := by
        have := List.getElem?_eq_some_iff.mp em; obtain ⟨h, _⟩ := this; simpa using h
      rw [List.getElem?_set_self hl] at em
      rw [List.getElem?_set_self (by rw [rep.len]; exact hl)] at hm
      injection em with em
      injection hm with hm; injection hm with hm
      subst hm
      rw [em] at sl
      obtain ⟨p', ys, e5, k1, k2, k3, k4, _⟩ := sl
      injection e5 with e5; subst e5
      -- p stood before the second value was made
      have et : newTop c = true ∧ d' = .lst true ds := by
        unfold mkSl at es
        cases e0 : newTop c with
        | false => rw [e0] at es; cases d' <;> cases es
        | true =>
          rw [e0] at es
          cases d' <;> first | (cases es; done) | skip
          rename_i f zs
          cases f <;> cases es
          exact ⟨rfl, rfl⟩
      obtain ⟨p'', e6, e7⟩ := n3 et.1 ds et.2
      injection e6 with e6; subst e6
      rw [k3] at e7; cases e7
    · rw [List.getElem?_set_ne hmi] at em hm
      exact h5 m es' em hm
theorem par_ok (C : Sok T U N Γ A k X b Ex) {i j : Nat} {a c : E} {y z : Str} {py pz tp tp' sp : Pos} {kk kk' : Nat} {u v : Expr} (hij : i ≠ j) (hi : N[i]? = some y) (hj : N[j]? = some z) (hy : locB b y = true) (hz : locB b z = true) (hp : parB b.sc y z py pz u v = true) (ha : chk T N b a u = true) (hc : chk T N b c v = true) (ρ : Rho) :
    PS X (.Assign [.Tuple [.Name y py, .Name z pz] kk tp] (.Tuple [u, v] kk' tp') sp) (tSt A.cl A.xa G0 H0 Ex ρ (exec Γ (.par i j a c) ρ)) := by
  have su := star_cons (env := X.env) (es := [v]) (notStar ha)
  have sv := star_cons (env := X.env) (es := []) (notStar hc)
  have PAv : PA X [u, v] (tCons (tV A.cl A.xa H0 (WXE Ex) (shareAt ρ (esc a ++ esc c)) (newTop a) (ev Γ a (shareAt ρ (esc a ++ esc c)))) (tCons (tV A.cl A.xa H0 (WXE Ex) (shareAt ρ (esc a ++ esc c)) (newTop c) (ev Γ c (shareAt ρ (esc a ++ esc c)))) tNil)) :=
    pa_cons (ev_ok (H0 := H0) a C.c ha (shareAt ρ (esc a ++ esc c))).1 (pa_cons (ev_ok (H0 := H0) c C.c hc (shareAt ρ (esc a ++ esc c))).1 pa_nil sv) su
  have hk : X.env.scope.kind = .function := by rw [C.c.sc]; exact C.fk
  have sw := sw_par (tp := tp) (tp' := tp') (kk := kk) (kk' := kk') hk (notStar ha) (notStar hc) (by rw [C.c.sc]; exact hp)
  obtain ⟨ly1, ly2⟩ := locB_ok C.c.sc C.c.fn hy
  obtain ⟨lz1, lz2⟩ := locB_ok C.c.sc C.c.fn hz
  have hN := C.c.nd
  by_cases hs : (isLoc X.env.scope y && isLoc X.env.scope z && py.line == pz.line) = true
  · rw [if_pos hs] at sw
    have il : ∀ {x}, isLoc X.env.scope x = true → X.env.scope.names.lookup x = some .local := fun {x} h => by
      unfold isLoc at h
      split at h
      · assumption
      · cases h
    simp only [Bool.and_eq_true] at hs
    refine (ps_par (i := i) (j := j) C.c.calm (by rw [C.c.hN]; exact hN) (by rw [C.c.hN]; exact hi) (by rw [C.c.hN]; exact hj) hij (il hs.1.1) (il hs.1.2) PAv sw rfl).imp fun Ds σ H ⟨G, rep, g0, q⟩ => ?_
    rw [exec] at q
    obtain ⟨G', rep', g0', q'⟩ := share_st (esc a ++ esc c) rep g0 q
    exact par_vals rep' g0' q' fun v w G2 H' ρ' r2 g2 fin => ⟨v, w, rfl, fin _ G2 H' r2 g2 (Same.refl _)⟩
  · rw [if_neg hs] at sw
    refine (ps_asg (pe_tup PAv) (pg_tup C.c.calm (pgs_cons (pg_name (i := i) (by rw [C.c.hN]; exact hN) (by rw [C.c.hN]; exact hi) ly1 ly2) (pgs_cons (pg_name (i := j) (by rw [C.c.hN]; exact hN) (by rw [C.c.hN]; exact hj) lz1 lz2) pgs_nil)) rfl rfl) rfl sw rfl).imp fun Ds σ H ⟨G, rep, g0, q⟩ => ?_
    rw [exec] at q
    obtain ⟨G', rep', g0', q'⟩ := share_st (esc a ++ esc c) rep g0 q
    show tCons _ _ σ H (fun xs H1 => xs.length ≤ sizeLine ∧ ∀ p, H1 p = none → gTup X.K (assignEach [Expr.Name y py, Expr.Name z pz] X.env).length (gCons (gName i) (gCons (gName j) gNil)) (.ref p) σ (upd H1 p (.tup xs)) Ds.nx)
    refine par_vals rep' g0' q' fun v w G2 H' ρ' r2 g2 fin => ⟨by show 2 ≤ sizeLine; rw [sizeLine_eq]; decide, fun T' nT => ?_⟩
    have gT := Gr.new (o := HO.tup [v, w]) r2.sub nT
    have g3 : Gr G2 H' G2 (upd H' T' (.tup [v, w])) := ⟨gT.hh, Same.refl _, r2.sub.trans gT.hh, fun _ _ => rfl⟩
    exact ⟨T', [v, w], rfl, SqT.of upd_same, rfl, v, [w], rfl, w, [], rfl, rfl, fin _ G2 _ (r2.mono g3) (g2.trans g3) (Same.refl _)⟩
theorem tset_ok (C : Sok T U N Γ A k X b Ex) {t : Tg} {e : E} {ts : List Expr} {kk : Nat} {p sp : Pos} {x : Expr} (hx : notTup x = true) (ht : chkT N b t (.Tuple ts kk p) = true) (he : chk T N b e x = true) (ρ : Rho) :
    PS X (.Assign [.Tuple ts kk p] x sp) (tSt A.cl A.xa G0 H0 Ex ρ (exec Γ (.tset t e) ρ)) := by
  have h1 : swapsWithSole [.Tuple ts kk p] x sp.line X.env = pure false := by
    show swapsWith x (some (.Tuple ts kk p)) sp.line X.env = pure false
    cases x <;> rfl
  have h2 : swappedStores [.Tuple ts kk p] x X.env = pure none := by
    cases x <;> first | rfl | exact (Bool.false_ne_true hx).elim
  have PGt : PG X (.Tuple ts kk p) (fun v σ H Q => ∃ ρ0 d ρ', tG A.cl H0 [] t ρ0 ρ' d v σ H Q) := ⟨fun pins s σ H v u Q I r ⟨ρ0, d, ρ', q⟩ => (pg_ok C.c t ht (own := []) (ρ := ρ0) (ρ' := ρ') (d := d) (cl := A.cl)).run pins s σ H v u Q I r q⟩
  refine (ps_asg (ev_ok (H0 := H0) e C.c he (shareAt ρ (esc e))).1 PGt h1 h2 rfl).imp fun Ds σ H ⟨G, rep, g0, q⟩ => ?_
  rw [exec] at q
  obtain ⟨G', rep', g0', q'⟩ := share_st (esc e) rep g0 q
  refine ⟨G', rep', u_SV rep'.sub0 q' fun d v G1 H1 e1 g1 r1 n1 q1 => ?_⟩
  cases eb : bindT t d (shareAt ρ (esc e)) with
  | none => rw [eb] at q1; exact q1.elim
  | some ρ' =>
    rw [e1] at q'
    replace q' : FinS A.cl A.xa G0 H0 Ex G' Ds (match bindT t d (shareAt ρ (esc e)) with | some ρ' => .nx ρ' | none => .bad) := q'
    rw [eb] at q'
    exact ⟨shareAt ρ (esc e), d, ρ', G1, rep'.mono g1, r1, eb, fun σ' rep2 _ => q' σ' G1 H1 rep2 (g0'.trans g1) g1.gg⟩
theorem app_ok (C : Sok T U N Γ A k X b Ex) {x : Nat} {e : E} {y : Str} {py apos cpos sp : Pos} {a : Expr} (hl : (apos.endLine == cpos.line) = true) (hx : chk T N b (.var x) (.Name y py) = true) (he : chk T N b e a = true) (ρ : Rho) :
    PS X (.Expr (.Call (.Attribute (.Name y py) "append" apos) [a] [] cpos) sp) (tSt A.cl A.xa G0 H0 Ex ρ (exec Γ (.app x e) ρ)) := by
  have st := star_cons (env := X.env) (es := []) (notStar he)
  refine (ps_expr (pe_bm PySem.F.plainAttrs_list PySem.F.slot_list_append PySem.F.type_list_append mt_append (name_read C.c hx) (pa_cons (ev_ok (H0 := H0) e C.c he (shareAt ρ (esc e))).1 pa_nil st) rfl (bm_few st) hl st rfl) rfl).imp fun Ds σ H ⟨G, rep, g0, q⟩ => ?_
  rw [exec] at q
  obtain ⟨G', rep', g0', q'⟩ := share_st (esc e) rep g0 q
  obtain ⟨⟨ds, eo⟩, q'⟩ := u_SO q'
  obtain ⟨p, xs, e1, h1, h2, h3, h4, h5⟩ := rep'.updOwn eo
  refine ⟨_, e1, .inl ⟨rfl, _, SqL.of h3⟩, G', rep', u_SV rep'.sub0 q' fun d v G1 H1 e2 g1 r1 n1 q1 => ?_⟩
  obtain ⟨ρ', ea, q2⟩ := u_OO q1
  obtain ⟨p', xs', e1', k1, k2, k3, k4, k5⟩ := (rep'.mono g1).updOwn eo
  rw [e1] at e1'
  injection e1' with e1'; injection e1' with e1'; injection e1' with e1'
  subst e1'
  unfold appO at ea
  rw [eo] at ea
  by_cases hc : ds.length < cap
  · replace ea : (if ds.length < cap then some ((shareAt ρ (esc e)).set x (.own (ds ++ [d]))) else none) = some ρ' := ea
    rw [if_pos hc] at ea
    injection ea with ea
    subst ea
    exact ⟨p, xs', v, rfl, rfl, k3, by rw [k4.length, ← cap_eq]; exact hc, q2 σ G1 _ (k5 _ _ (k4.append (.cons r1 .nil))) (upd_gr (g0'.trans g1) k2 k1) (Same.refl _)⟩
  · replace ea : (if ds.length < cap then some ((shareAt ρ (esc e)).set x (.own (ds ++ [d]))) else none) = some ρ' := ea
    rw [if_neg hc] at ea; cases ea
theorem ext_ok (C : Sok T U N Γ A k X b Ex) {x : Nat} {e : E} {y : Str} {py apos cpos sp : Pos} {a : Expr} (hl : (apos.endLine == cpos.line) = true) (hx : chk T N b (.var x) (.Name y py) = true) (he : chk T N b e a = true) (ρ : Rho) :
    PS X (.Expr (.Call (.Attribute (.Name y py) "extend" apos) [a] [] cpos) sp) (tSt A.cl A.xa G0 H0 Ex ρ (exec Γ (.ext x e) ρ)) := by
  have st := star_cons (env := X.env) (es := []) (notStar he)
  refine (ps_expr (pe_bm PySem.F.plainAttrs_list PySem.F.slot_list_extend PySem.F.type_list_extend mt_extend (name_read C.c hx) (pa_cons (ev_ok (H0 := H0) e C.c he (shareAt ρ (esc e))).1 pa_nil st) rfl (bm_few st) hl st rfl) rfl).imp fun Ds σ H ⟨G, rep, g0, q⟩ => ?_
  rw [exec] at q
  obtain ⟨G', rep', g0', q'⟩ := share_st (esc e) rep g0 q
  obtain ⟨⟨ds, eo⟩, q'⟩ := u_SO q'
  obtain ⟨p, xs, e1, h1, h2, h3, h4, h5⟩ := rep'.updOwn eo
  refine ⟨_, e1, .inl ⟨rfl, _, SqL.of h3⟩, G', rep', u_SV rep'.sub0 q' fun d v G1 H1 e2 g1 r1 n1 q1 => ?_⟩
  obtain ⟨ρ', ea, q2⟩ := u_OO q1
  obtain ⟨p', xs', e1', k1, k2, k3, k4, k5⟩ := (rep'.mono g1).updOwn eo
  rw [e1] at e1'
  injection e1' with e1'; injection e1' with e1'; injection e1' with e1'
  subst e1'
  unfold extO at ea
  rw [eo] at ea
  cases d <;> first | (cases ea; done) | skip
  rename_i f es
  replace ea : (if ds.length + es.length ≤ cap then some ((shareAt ρ (esc e)).set x (.own (ds ++ es))) else none) = some ρ' := ea
  by_cases hc : ds.length + es.length ≤ cap
  · rw [if_pos hc] at ea
    injection ea with ea
    subst ea
    cases r1 with
    | lst m1 _ m2 =>
      exact ⟨p, _, xs', _, rfl, rfl, k3, g1.gh _ _ m1, by rw [k4.length, m2.length, ← cap_eq]; exact hc, q2 σ G1 _ (k5 _ _ (k4.append m2)) (upd_gr (g0'.trans g1) k2 k1) (Same.refl _)⟩
  · rw [if_neg hc] at ea; cases ea
end
end Wt
/-! ## any(a list) while an exception is handled -/
namespace Wt
open PySem PySem.Spec PyProof.Rows L2
section
variable {prog : Program} {w : World} {A : Around} {E : Value → Shared → Prop} {s : Shared}
theorem next_end_hot {it l x1 : Addr} {i : Nat} {items : Array Value} {Q : Option Value → Shared → Prop} (hot : HotX.HotAt A x1 s.heap) (hne : x1 ≠ it)
    (hit : s.heap.IsListIter it l i) (hl : s.heap.IsList l items) (hx : items[i]? = none)
    (hQ : ∀ h', Heap.ExtBut it s.heap h' → Q none { s with heap := h' }) : wpAny (model prog w) A (pyNext (.ref it)) Q E s := by
  obtain ⟨o, ho, hc, hd⟩ := id hit
  obtain ⟨ol, hol, _, nl, hdl⟩ := hl
  obtain ⟨hh, o1, vs1, h1, d1, c1⟩ := hot
  unfold pyNext
  refine wpAny_bind (wpAny_attempt (wpAny_callSpecial?_slot (name := Str.ofString "__next__") hit.typeIs slot_listiter_next
    (wpAny_call_entry slot_listiter_next hit.typeIs entry_listiter_next ?_ (args_listiter_next _))))
  show wpAny _ _ (field (.ref it) 0 >>= _) _ _ s
  refine wpAny_bind (wpAny_field ho hd (x := .ref l) rfl ?_)
  show wpAny _ _ (if (Value.ref l == Value.none) = true then _ else _) _ _ s
  rw [if_neg (show ¬ ((Value.ref l == Value.none) = true) from Bool.false_ne_true)]
  show wpAny _ _ (field (.ref it) 1 >>= _) _ _ s
  refine wpAny_bind (wpAny_field ho hd (x := .int i 0) rfl ?_)
  show wpAny _ _ (seqItems? (.ref l) >>= _) _ _ s
  refine wpAny_bind (wpAny_seqItems hol hdl ?_)
  simp only [Int.toNat_natCast, hx]
  refine wpAny_bind (wpAny_rule (wpAny_bind (wpAny_setField ho hd (by simp) ?_)))
  show wpAny _ _ (newExc (.type "StopIteration") [] >>= _) _ _ _
  refine wpAny_bind ?_
  simp only [newExc, newTuple]
  refine wpAny_bind (wpAny_newObj_type ?_ (by size_fits))
  refine wpAny_bind (m := firstArgMember _ _) (wpAny_of_eq (a := Value.none) (by first | rfl | (simp only [firstArgMember]; rfl)) ?_)
  refine wpAny_newObj_type ?_ (by size_fits)
  have u1 := (Heap.get?_update_other s.heap (Obj.mapFields (·.setIfInBounds 0 Value.none)) hne.symm).trans h1
  refine HotX.raiseNew_hot ⟨hh, o1, vs1, Heap.get?_push_of_some _ (Heap.get?_push_of_some _ u1), d1, c1⟩ (Nat.ne_of_lt (Heap.lt_size (Heap.get?_push_of_some _ u1))) (Heap.get?_push_size _ rfl) rfl (by first | (simp; done) | (simp; omega) | (simp only [Array.size_append]; simp; omega)) ?_
  refine wpAny_bind (wpAny_isInstance (T := "StopIteration") (b := true) ⟨_, Heap.get?_update_self _ (Heap.get?_push_size _ rfl) rfl, rfl⟩ isSubtype_stop ?_)
  refine wpAny_pure (hQ _ fun b o' hb e => ?_)
  have e2 := (Heap.get?_update_other s.heap (Obj.mapFields (·.setIfInBounds 0 Value.none)) (Ne.symm hb)).trans e
  rw [Heap.get?_update_other _ _ (Nat.ne_of_gt (Heap.lt_size (Heap.get?_push_of_some _ e2)))]
  exact Heap.get?_push_of_some _ (Heap.get?_push_of_some _ e2)
theorem walks_hot {x1 : Addr} {o1 : Obj} {vs1 : Array Value} (hh : A.handled = some (.ref x1)) (d1 : o1.data = .fields vs1) (c1 : vs1[2]? = some .none) (I ax : Addr) (hne : ax ≠ I) (hx : x1 ≠ I) (items : Array Value) :
    Walks prog w A I [I, ax, x1] [I] items.size (fun i v => items[i]? = some v) (fun i h => (h.IsListIter I ax i ∧ h.IsList ax items) ∧ h.get? x1 = some o1) where
  sub := fun b hb => by simp at hb; simp [hb]
  frame := fun _ _ _ st hk => ⟨⟨st.1.1.at fun o e => hk I (by simp) o e, st.1.2.at fun o e => hk ax (by simp) o e⟩, hk x1 (by simp) o1 st.2⟩
  item := fun i s Q E hi st hQ => by
    refine wpAny_pyNext_list_item st.1.1 st.1.2 (x := items[i]) (by simp [hi]) fun h' hit' hs' => ?_
    exact hQ _ h' s.toks (by simp [hi]) ⟨⟨hit', st.1.2.extBut hs'.extBut hne⟩, hs'.extBut x1 o1 hx st.2⟩ fun b o hb e => hs'.extBut b o (fun h => hb (by simp [h])) e
  done := fun s Q E st hQ => next_end_hot ⟨hh, o1, vs1, st.2, d1, c1⟩ hx st.1.1 st.1.2 (by simp) fun h' he' => hQ h' s.toks fun b o hb e => he' b o (fun h => hb (by simp [h])) e
  self := fun _ _ _ _ st hQ => wpAny_pyIter_listiter st.1.1 hQ
end
theorem cr_any_hot {X : Cx} {a : Addr} {oe : Obj} {pn : List (Addr × Obj)} {vs1 : Array Value} (d1 : oe.data = .fields vs1) (c1 : vs1[2]? = some .none) : CallR (X.suite a ((a, oe) :: pn)) (.builtin "any") (rAny X.K) := by
  intro pins s σ H vs us Q I r h
  obtain ⟨l, bs, rfl, hs, q⟩ := h
  obtain ⟨its, rv, hl, _⟩ := I.list hs
  rw [Vals.ref1 r]
  have hb := rv.bls
  obtain ⟨hget, _⟩ := I.pin (a, oe) (List.mem_append.mpr (.inl List.mem_cons_self))
  refine call_any_walk (iter_any hl.isList fun s₂ e2 st hne => ?_)
  subst e2
  have hx : a ≠ s.heap.objs.size := Nat.ne_of_lt (Heap.lt_size hget)
  refine ⟨_, _, _, _, _, _, _, rfl, walks_hot (A := (X.suite a ((a, oe) :: pn)).A.in1) (x1 := a) (o1 := oe) rfl d1 c1 _ l hne hx its.toArray, ⟨st, Heap.get?_push_of_some _ hget⟩, truth_bools hb, fun h' tk hk => ?_⟩
  refine ⟨.bl _, H, I.kept fun b o eo => hk b o (fun hmem => ?_) (Heap.get?_push_of_some _ eo), ?_, q⟩
  · rcases List.mem_cons.mp hmem with e1 | hmem
    · exact absurd (e1 ▸ Heap.lt_size eo) (Nat.lt_irrefl _)
    · cases hmem
  · show Value.bool _ = Value.bool _
    rw [← L2.any_range, hb, List.size_toArray, List.length_map]
end Wt
/-! ## try, with a suite that tells the sort of the exception -/
namespace Wt
open PySem PySem.Spec PyProof.Rows L2
section
variable {T : Tb} {U : Tx} {N : List Str} {Γ : Nat → List D → R D} {A : Ad} {k : Nat} {G0 H0 : Hp} {X : Cx} {b : Bk} {Ex : XK}
theorem isx_ok (C : Sok T U N Γ A k X b Ex) {n : Str} {i m c : Nat} {e : Expr} (hn : N[i]? = some n) (vn : visB b.sc n = true) (on : okName n = true) (h : chkIsX U b n m e = true) (hc : c ∈ U.xc) {a : Addr} {oe : Obj} {pn : List (Addr × Obj)} (hz : L2N.Zn (.ref (A.xa c)) none oe) (hf : ∃ vs, oe.data = .fields vs) :
    PE (X.suite a ((a, oe) :: pn)) e (fun σ H Q => σ[i]? = some (some (.ref a)) ∧ Q (.bl (isX c m)) H) := by
  unfold chkIsX at h
  split at h
  · rename_i f p n' p1 x p2 pos
    simp only [Bool.and_eq_true, decide_eq_true_eq] at h
    obtain ⟨⟨⟨⟨⟨⟨⟨rfl, h1⟩, rfl⟩, rfl⟩, h2⟩, h3⟩, h4⟩, h5⟩ := h
    obtain ⟨q1, q2, q3⟩ := C.xt c hc
    obtain ⟨x1, _⟩ := C.xc m h4
    obtain ⟨n1, n2, n3⟩ := okName_ok on
    obtain ⟨m1, m2, m3⟩ := okName_ok h3
    have pv : PE (X.suite a ((a, oe) :: pn)) (.Name n' p1) (tVar i) := pe_var (X := X.suite a ((a, oe) :: pn)) (by show X.N[i]? = _; rw [C.c.hN]; exact hn) (visB_ok (X := X) C.c.sc vn) n1 n2
    have pg : PE (X.suite a ((a, oe) :: pn)) (.Name (U.xname m) p2) (tC (.ref (A.xa m))) := pe_glob (X := X.suite a ((a, oe) :: pn)) (u := .ref (A.xa m)) (glB_ok (X := X) C.c.sc h2) x1 rfl m1
    refine (pe_callB (X := X.suite a ((a, oe) :: pn)) (call_isE q1 hz.zc hf) (glB_ok (X := X) C.c.sc h1) (C.c.blt (by decide)) boot_isinstance (pa_cons pv (pa_cons pg pa_nil)) (by decide) (by decide) rfl rfl).imp fun σ H Q ⟨e1, q⟩ => ?_
    exact ⟨_, e1, .ref (A.xa m), .ref (A.xa m), isX c m, rfl, fun u r => r, q3 m (by simpa using h5), q⟩
  · cases h
theorem suite_ok (C : Sok T U N Γ A k X b Ex) {n wn an wn2 : Str} {i j a1 a2 a3 g c : Nat} {e1 e2 e3 g1 : Expr} {wp lp ap anp wp2 cp up bp rp : Pos} (hij : i ≠ j) (hn : N[i]? = some n) (vn : visB b.sc n = true) (on : okName n = true)
    (hw : N[j]? = some wn) (lw : locB b wn = true) (vw : visB b.sc wn = true) (ow : okName wn = true) (h1 : chkIsX U b n a1 e1 = true) (h2 : chkIsX U b n a2 e2 = true) (h3 : chkIsX U b n a3 e3 = true) (h4 : chkIsX U b n g g1 = true) (han : an = "any") (ga : glB b.sc an = true) (hw2 : wn2 = wn)
    (hc : c ∈ U.xc) {a : Addr} {oe : Obj} {pn : List (Addr × Obj)} (hz : L2N.Zn (.ref (A.xa c)) none oe) (hf : ∃ vs, oe.data = .fields vs) :
    PSs (X.suite a ((a, oe) :: pn)) [.Assign [.Name wn wp] (.List [e1, e2, e3] lp) ap, .Return (some (.BoolOp .And [g1, .UnaryOp .Not (.Call (.Name an anp) [.Name wn2 wp2] [] cp) up] bp)) rp]
      (fun Ds σ H => σ[i]? = some (some (.ref a)) ∧ j < σ.length ∧ ∀ H', Same H H' → Ds.rt (.bl (isX c g && !([isX c a1, isX c a2, isX c a3].any id))) H') := by
  subst han hw2
  obtain ⟨vs1, d1⟩ := hf
  have c1 : vs1[2]? = some .none := hz.2.2 vs1 d1
  obtain ⟨w1, w2, w3⟩ := okName_ok ow
  obtain ⟨l1, l2⟩ := locB_ok (X := X) C.c.sc C.c.fn lw
  have p1 := isx_ok C hn vn on h1 hc (pn := pn) (a := a) hz ⟨vs1, d1⟩
  have p2 := isx_ok C hn vn on h2 hc (pn := pn) (a := a) hz ⟨vs1, d1⟩
  have p3 := isx_ok C hn vn on h3 hc (pn := pn) (a := a) hz ⟨vs1, d1⟩
  have p4 := isx_ok C hn vn on h4 hc (pn := pn) (a := a) hz ⟨vs1, d1⟩
  have ns : ∀ {m : Nat} {e : Expr}, chkIsX U b n m e = true → ∀ (env : Env) (es : List Expr), starEach (e :: es) env = (false, eval e env) :: starEach es env := fun {m e} h env es => by
    cases e <;> first | rfl | (exact (Bool.false_ne_true h).elim)
  have pw : PE (X.suite a ((a, oe) :: pn)) (.Name wn2 wp2) (tVar j) := pe_var (X := X.suite a ((a, oe) :: pn)) (by show X.N[j]? = _; rw [C.c.hN]; exact hw) (visB_ok (X := X) C.c.sc vw) w1 w2
  have pa : PE (X.suite a ((a, oe) :: pn)) (.Call (.Name "any" anp) [.Name wn2 wp2] [] cp) _ := pe_callB (X := X.suite a ((a, oe) :: pn)) (cr_any_hot d1 c1) (glB_ok (X := X) C.c.sc ga) (C.c.blt (by decide)) (show bootBuiltins "any" = some (.builtin "any") by decide +kernel) (pa_cons pw pa_nil) (by decide) (by decide) rfl rfl
  have pl : PE (X.suite a ((a, oe) :: pn)) (.List [e1, e2, e3] lp) _ := pe_lst (pa_cons p1 (pa_cons p2 (pa_cons p3 pa_nil (ns h3 _ _)) (ns h2 _ _)) (ns h1 _ _))
  have ps : PS (X.suite a ((a, oe) :: pn)) (.Assign [.Name wn2 wp] (.List [e1, e2, e3] lp) ap) _ := ps_set (X := X.suite a ((a, oe) :: pn)) (i := j) (by show X.N.Nodup; rw [C.c.hN]; exact C.c.nd) (by show X.N[j]? = _; rw [C.c.hN]; exact hw) l1 pl rfl l2
  refine ⟨fun pins s σ H Ds I q => (pss_cons ps (pss_one (ps_ret (pe_and p4 (pe_one (pe_not pa)))))).run pins s σ H Ds I ?_⟩
  obtain ⟨q1, q2, q3⟩ := q
  refine ⟨q1, q1, q1, by rw [sizeLine_eq]; simp, fun p np => ?_⟩
  have r1 : (σ.set j (some (.ref p)))[i]? = some (some (.ref a)) := by rw [List.getElem?_set_ne (Ne.symm hij)]; exact q1
  have r2 : (σ.set j (some (.ref p)))[j]? = some (some (.ref p)) := List.getElem?_set_self q2
  have sm : Same H (upd H p (.lst [.bl (isX c a1), .bl (isX c a2), .bl (isX c a3)])) := fun x o e => by rw [upd_ne (ne_of_none e np)]; exact e
  refine ⟨r1, isX c g, rfl, ?_⟩
  cases hg : isX c g with
  | false =>
    rw [if_neg Bool.false_ne_true]
    have := q3 _ sm
    rw [hg] at this
    exact this
  | true =>
    rw [if_pos rfl]
    refine ⟨_, r2, p, [isX c a1, isX c a2, isX c a3], rfl, .inl (.inl upd_same), _, rfl, ?_⟩
    have := q3 _ sm
    rw [hg] at this
    exact this
theorem try_ok (C : Sok T U N Γ A k X b Ex) {e : E} {i j : Nat} {cs : List Nat} {a1 a2 a3 g : Nat} {st : Stmt} (h : chkTry T U N b e i j cs a1 a2 a3 g st = true) (ρ : Rho) : PS X st (tSt A.cl A.xa G0 H0 Ex ρ (exec Γ (.tryA e i j cs a1 a2 a3 g) ρ)) := by
  unfold chkTry at h
  split at h
  · rename_i x p0 xn np n wn wp e1 e2 e3 lp ap g1 an anp wn2 wp2 cp up bp rp hp tp
    simp only [Bool.and_eq_true, decide_eq_true_eq] at h
    obtain ⟨⟨⟨⟨⟨⟨⟨⟨⟨⟨⟨⟨⟨⟨⟨⟨⟨⟨⟨⟨⟨⟨h1, h2⟩, rfl⟩, h4⟩, h5⟩, h6⟩, h7⟩, h8⟩, h9⟩, h10⟩, h11⟩, h12⟩, h13⟩, h14⟩, h15⟩, h16⟩, h17⟩, h18⟩, h19⟩, h20⟩, h21⟩, h22⟩, hij⟩ := h
    · have ln : X.env.kindOf n = some .local := by
        unfold isLoc at h8
        unfold Env.kindOf
        rw [C.c.sc]
        split at h8
        · assumption
        · cases h8
      obtain ⟨m1, m2, m3⟩ := okName_ok h6
      obtain ⟨x1, _⟩ := C.xc 0 h4
      have nm : Names X (U.xname 0) (.ref (A.xa 0)) := ⟨glB_ok C.c.sc h5, m1, .inl x1⟩
      refine (L2N.ps_try_as (Wout := WXE Ex) C.hs C.hf (by rw [C.c.hN]; exact C.c.nd) (by rw [C.c.hN]; exact h7) ln nm C.c.tk
        (tb := fun W => fun Ds σ H => tV A.cl A.xa H0 W (shareAt ρ (esc e)) (newTop e) (ev Γ e (shareAt ρ (esc e))) σ H fun _ H' => Ds.nx σ H')
        (ts := fun a cls d Ds σ H => ∃ c ∈ cs, cls = .ref (A.xa c) ∧ d = none ∧ σ[i]? = some (some (.ref a)) ∧ j < σ.length ∧ ∀ H', Same H H' → Ds.rt (.bl (isX c g && !([isX c a1, isX c a2, isX c a3].any id))) H')
        (fun W pn xe tk po => ?_) (fun a oe cls d pn hz hf => ?_)).imp fun Ds σ H ⟨G, rep, g0, q⟩ => ?_
      · have C' : Cok T N Γ A k (X.tr pn xe) b W := ⟨C.c.hN, C.c.nd, C.c.calm, C.c.sc, C.c.fn, C.c.room, tk, C.c.row⟩
        exact pss_one ((ps_expr (ev_ok (H0 := H0) e C' h2 (shareAt ρ (esc e))).1 (swaps_plain h1)).imp fun Ds σ H q => q)
      · refine ⟨fun pins s σ H Ds I q => ?_⟩
        obtain ⟨c, hc, rfl, rfl, q⟩ := q
        have hc' : c ∈ U.xc := by simpa using List.all_eq_true.mp h22 c hc
        exact (suite_ok C hij h7 h9 h10 h11 h12 h13 h14 h15 h16 h17 h18 h19 h20 h21 hc' hz hf).run pins s σ H Ds I q
      · rw [exec] at q
        obtain ⟨G', rep', g0', q'⟩ := share_st (esc e) rep g0 q
        refine ⟨G', rep', ?_⟩
        cases e2 : ev Γ e (shareAt ρ (esc e)) with
        | ok d =>
          rw [e2] at q'
          exact fun v G1 H1 g1 r1 n1 => q' σ G1 H1 (rep'.mono g1) (g0'.trans g1) g1.gg
        | bad => rw [e2] at q'; exact q'.elim
        | exc c =>
          rw [e2] at q'
          simp only at q'
          split at q'
          · rename_i hb
            simp only [Bool.and_eq_true, decide_eq_true_eq] at hb
            obtain ⟨⟨hb1, hb2⟩, hb3⟩ := hb
            have hc : c ∈ cs := by simpa using hb1
            have hc' : c ∈ U.xc := by simpa using List.all_eq_true.mp h22 c hc
            rw [← rep'.len] at hb2 hb3
            intro H1 s1
            refine ⟨true, (C.xt c hc').2.1, fun _ a na => ⟨c, hc, rfl, rfl, List.getElem?_set_self hb2, by rw [List.length_set]; exact hb3, fun H2 s2 => ?_⟩, fun z => nomatch z⟩
            exact q' _ G' H2 ⟨g0'.hh.trans (s1.trans s2), g0'.gg, g0'.gh.trans (s1.trans s2), g0'.old⟩ (.bl _)
          · exact q'.elim
  · cases h
end
end Wt
/-! ## Answers made by hand of copies that are changed -/
namespace Wt
open PySem PySem.Spec PyProof.Rows L2
section
variable {T : Tb} {U : Tx} {N : List Str} {Γ : Nat → List D → R D} {A : Ad} {k : Nat} {G0 H0 : Hp}
def lstI (ns : List Int) : D := .lst true (ns.map .int)
theorem ints_any {cl : Nat → Addr} {H1 G G' : Hp} : ∀ {ns : List Int} {vs : List V}, RpA cl H1 G vs (ns.map D.int) → RpA cl H0 G' vs (ns.map D.int)
  | [], _, .nil => .nil
  | _ :: _, _, .cons h t => .cons (by cases h; exact .int _) (ints_any t)
theorem ints_vs {cl : Nat → Addr} {H1 G : Hp} : ∀ {ns : List Int} {vs : List V}, RpA cl H1 G vs (ns.map D.int) → vs = ns.map V.int
  | [], _, .nil => rfl
  | _ :: _, _, .cons h t => by cases h; rw [ints_vs t]; rfl
theorem ints_of {ds : List D} {ns : List Int} (h : intsD ds = some ns) : ds = ns.map D.int := by
  induction ds generalizing ns with
  | nil => simp [intsD] at h; subst h; rfl
  | cons d ds ih =>
    cases d <;> first | (simp [intsD] at h; done) | skip
    simp only [intsD, Option.map_eq_some_iff] at h
    obtain ⟨ms, h1, h2⟩ := h
    subst h2
    rw [ih h1]; rfl
theorem flds_any {cl : Nat → Addr} {H1 G' G'' : Hp} (hs : Same H0 H1) (k : ∀ a o, H1 a = none → G' a = some o → G'' a = some o) : ∀ {es : List (List Int)} {vs : List V}, RpA cl H1 G' vs (es.map lstI) → RpA cl H0 G'' vs (es.map lstI)
  | [], _, .nil => .nil
  | e :: es, _, .cons h t => by
    refine .cons ?_ (flds_any hs k t)
    unfold lstI at h ⊢
    cases h with
    | lst h1 h2 h3 => exact .lst (k _ _ (h2 rfl) h1) (fun _ => hs.free (h2 rfl)) (ints_any h3)
theorem mkD_ints {c : Nat} {ns : List (List Int)} {d : D} (h : mkD c (ns.map fun n => .lst false (n.map .int)) = .ok d) : d = .obj c (ns.map lstI) := by
  obtain ⟨es, rfl, l1, hm⟩ := mkD_ok h
  congr 1
  have : es = ns.map fun n => n.map D.int := by
    have e : (ns.map fun n => D.lst false (n.map D.int)).map asList = (ns.map fun n => n.map D.int).map some := by
      rw [List.map_map, List.map_map]; rfl
    rw [e] at hm
    clear h l1 e
    generalize (ns.map fun n => n.map D.int) = ms at hm
    induction ms generalizing es with
    | nil => cases es <;> simp_all
    | cons m ms ih => cases es <;> simp_all
  rw [this, List.map_map]; rfl
theorem ls_read {X : Cx} {b : Bk} {Ex : XK} (C : Sok T U N Γ A k X b Ex) {p : Nat} {e : Expr} (h : chkLs T N b p e = true) : (∃ f as pos, e = .Call f as [] pos) ∧ PE X e (tCB (fun xs H Q => ∃ p ys, xs = [.ref p] ∧ (SqL X.K H p ys ∨ SqT X.K H p ys) ∧ ∀ l, H l = none → Q (.ref l) (upd H l (.lst ys))) (tCons (tVar p) tNil)) := by
  unfold chkLs at h
  split at h
  · simp only [Bool.and_eq_true, decide_eq_true_eq] at h
    obtain ⟨⟨rfl, h2⟩, h3⟩ := h
    exact ⟨⟨_, _, _, rfl⟩, pe_callTy (X := X) call_list_of (glB_ok C.c.sc h2) (C.c.blt (by decide)) (show bootBuiltins "list" = some (.type "list") by decide +kernel) (pa_cons (name_read C.c h3) pa_nil) (by decide) (by decide) rfl rfl⟩
  · cases h
theorem st_read {X : Cx} {b : Bk} {Ex : XK} (C : Sok T U N Γ A k X b Ex) {h : Nat} {f : Expr → Bool} {st : Stmt} (hc : chkSt N b h f st = true) : ∃ x, f x = true ∧ ∀ {te : TE}, PE X x te → (swapOk : ∀ y py l, swapsWith x (some (.Name y py)) l X.env = pure false) → PS X st (tAsg te (gName h)) := by
  unfold chkSt at hc
  split at hc
  · simp only [Bool.and_eq_true, decide_eq_true_eq] at hc
    obtain ⟨⟨h1, h2⟩, h3⟩ := hc
    obtain ⟨l1, l2⟩ := locB_ok C.c.sc C.c.fn h2
    exact ⟨_, h3, fun he sw => ps_set (i := h) (by rw [C.c.hN]; exact C.c.nd) (by rw [C.c.hN]; exact h1) l1 he (sw _ _ _) l2⟩
  · cases hc
theorem a0_read {X : Cx} {b : Bk} {f : Expr → Bool} {st : Stmt} (hc : chkA0 f st = true) : ∃ e, f e = true ∧ ∀ {te : TE}, PE X e te → (attributeBase e "append" X.env (eval e X.env) = eval e X.env) → PS X st (tDrop (tBM X.K "list" rAppend te (tCons (tC (.int 0)) tNil))) := by
  unfold chkA0 at hc
  split at hc
  · simp only [Bool.and_eq_true, decide_eq_true_eq] at hc
    obtain ⟨⟨⟨rfl, h2⟩, rfl⟩, h4⟩ := hc
    exact ⟨_, h4, fun he hb => ps_expr (pe_bm PySem.F.plainAttrs_list PySem.F.slot_list_append PySem.F.type_list_append mt_append he (pa_cons pe_int pa_nil) hb rfl h2 rfl rfl) rfl⟩
  · cases hc
theorem ix_read {X : Cx} {b : Bk} {Ex : XK} (C : Sok T U N Γ A k X b Ex) {h : Nat} {z : Int} {e : Expr} (hc : chkIx T N b h z e = true) : (∃ y py kk p q, e = .Subscript (.Name y py) (.Constant (.int z) kk p) q) ∧ PE X e (tOp (rIxL X.K) (tVar h) (tC (.int z))) := by
  unfold chkIx at hc
  split at hc
  · simp only [Bool.and_eq_true, decide_eq_true_eq] at hc
    obtain ⟨h1, rfl⟩ := hc
    exact ⟨⟨_, _, _, _, _, rfl⟩, pe_ix ix_list (name_read C.c h1) pe_int (fun _ _ => rfl)⟩
  · cases hc
theorem var_rd {X : Cx} {b : Bk} {Ex : XK} (C : Sok T U N Γ A k X b Ex) {h : Nat} {e : Expr} (hc : isVar T N b h e = true) : (∃ y py, e = .Name y py) ∧ PE X e (tVar h) := by
  unfold isVar at hc
  split at hc
  · exact ⟨⟨_, _, rfl⟩, name_read C.c hc⟩
  · cases hc
/-- what is left of a ghost when some are taken out -/
def outH (G : Hp) (ps : List Addr) : Hp := fun a => if a ∈ ps then none else G a
theorem gr_out {G H G1 H1 G' H' H'' : Hp} {ps : List Addr} (sg : Same G H) (hp : ∀ a ∈ ps, H a = none) (h1 : Same H H1) (gs : ∀ a, H a ≠ none → G1 a = G a) (g : Gr G1 H1 G' H') (hq : ∀ a, a ∉ ps → H'' a = H' a) : Gr G H (outH G' ps) H'' := by
  have nm : ∀ {a : Addr} {o : HO}, H a = some o → a ∉ ps := fun {a o} e z => by rw [hp a z] at e; cases e
  refine ⟨fun a o e => by rw [hq a (nm e)]; exact g.hh _ _ (h1 _ _ e), fun a o e => ?_, fun a o e => ?_, fun a ha => ?_⟩
  · have e2 := sg _ _ e
    show (if a ∈ ps then none else G' a) = some o
    rw [if_neg (nm e2), g.old a (by rw [h1 _ _ e2]; simp), gs a (by rw [e2]; simp)]; exact e
  · have e : (if a ∈ ps then none else G' a) = some o := e
    by_cases ha : a ∈ ps
    · rw [if_pos ha] at e; cases e
    · rw [if_neg ha] at e
      rw [hq a ha]; exact g.gh _ _ e
  · cases e : H a with
    | none => exact absurd e ha
    | some o =>
      show (if a ∈ ps then none else G' a) = G a
      rw [if_neg (nm e), g.old a (by rw [h1 _ _ e]; simp), gs a ha]
theorem obj_out {cl : Nat → Addr} {H1 G' : Hp} {ps : List Addr} {c : Nat} {es : List (List Int)} {z : V} (s0 : Same H0 H1) (hp : ∀ a ∈ ps, H1 a ≠ none) (hl : ∀ a ∈ ps, ∀ C dx fs, G' a ≠ some (.ins C dx fs)) (r : Rp cl H1 G' z (.obj c (es.map lstI))) : Rp cl H0 (outH G' ps) z (.obj c (es.map lstI)) := by
  cases r with
  | @obj a dx fs _ xs _ h1 h2 h3 h4 =>
    refine .obj (a := a) (dx := dx) (fs := fs) (xs := xs) (?_ : outH G' ps a = _) h2 h3 (flds_any s0 (fun b o hb e => (?_ : outH G' ps b = _)) h4)
    · show (if a ∈ ps then none else G' a) = _
      rw [if_neg fun z => hl a z _ _ _ h1]; exact h1
    · show (if b ∈ ps then none else G' b) = _
      rw [if_neg fun z => hp b z hb]; exact e
theorem intsAt_ok {ρ : Rho} {p : Nat} {ns : List Int} (h : intsAt ρ p = some ns) : ∃ f, ρ.getD p .no = .val (.lst f (ns.map .int)) ∧ ns.length < 1000 := by
  unfold intsAt at h
  split at h
  · rename_i f ds e
    split at h
    · rename_i ms e2
      split at h
      · injection h with h
        subst h
        exact ⟨f, by rw [← ints_of e2]; exact e, by assumption⟩
      · cases h
    · cases h
  · cases h
theorem made1_ok {X : Cx} {b : Bk} {Ex : XK} (C : Sok T U N Γ A k X b Ex) {h i c p : Nat} {r : S} {s1 s2 s3 : Stmt} {rest : List Stmt} (hi : h ≠ i) (hc1 : chkSt N b h (chkLs T N b p) s1 = true)
    (hc2 : chkSt N b i (chkMk T b c fun as => match as with | [x] => isVar T N b h x | _ => false) s2 = true) (hc3 : chkA0 (isVar T N b h) s3 = true) (PR : ∀ ρ', PSs X rest (tSt A.cl A.xa G0 H0 Ex ρ' (exec Γ r ρ'))) (ρ : Rho) :
    PSs X (s1 :: s2 :: s3 :: rest) (tSt A.cl A.xa G0 H0 Ex ρ (exec Γ (.made h i c [p] r) ρ)) := by
  obtain ⟨x1, f1, P1⟩ := st_read C hc1
  obtain ⟨⟨ff, as, pos, rfl⟩, L⟩ := ls_read C f1
  obtain ⟨x2, f2, P2⟩ := st_read C hc2
  obtain ⟨x3, f3, P3⟩ := a0_read (X := X) (b := b) hc3
  obtain ⟨⟨y, py, rfl⟩, V3⟩ := var_rd C f3
  unfold chkMk at f2
  split at f2
  rotate_left
  · cases f2
  rename_i xn xp a2 as2 pos2
  simp only [Bool.and_eq_true, decide_eq_true_eq] at f2
  obtain ⟨⟨⟨⟨rfl, hcp⟩, hg⟩, hn⟩, f2⟩ := f2
  split at f2
  rotate_left
  · cases f2
  rename_i a3 e3
  injection e3 with e3 e4
  subst e3 e4
  obtain ⟨⟨y2, py2, rfl⟩, V2⟩ := var_rd C f2
  obtain ⟨n1, n2, n3⟩ := okName_ok hn
  have K1 := C.c.row.cls c hcp
  obtain ⟨fm, fd, ps, M, F, Bd⟩ := K1.made
  have mk := pe_make (X := X) (pos := pos2) (p := xp) (E := E0) (dvs := []) (ds := []) M F (C.c.room.mono C.c.row.two) (glB_ok C.c.sc hg) K1.mgc Bd .nil pass0 (pa_cons V2 pa_nil) n1 rfl rfl
  have PR' : PSs X rest (fun Ds σ H => ∃ ρ', tSt A.cl A.xa G0 H0 Ex ρ' (exec Γ r ρ') Ds σ H) := ⟨fun pins s σ H D I ⟨ρ', q⟩ => (PR ρ').run pins s σ H D I q⟩
  refine (pss_cons (P1 L (fun _ _ _ => rfl)) (pss_cons (P2 mk (fun _ _ _ => rfl)) (pss_cons (P3 V3 rfl) PR'))).imp fun Ds σ H ⟨G, rep, g0, q⟩ => ?_
  rw [exec] at q
  by_cases hlen : h < ρ.length ∧ i < ρ.length
  rotate_left
  · rw [if_neg hlen] at q; exact q.elim
  rw [if_pos hlen] at q
  cases ei : intsAt ρ p with
  | none =>
    have em : madeD ρ c [p] = .bad := by unfold madeD; simp only [ei]
    rw [em] at q; exact q.elim
  | some ns =>
    cases em : madeD ρ c [p] with
    | exc c => rw [em] at q; exact q.elim
    | bad => rw [em] at q; exact q.elim
    | ok d =>
      rw [em] at q
      unfold madeD at em
      simp only [ei] at em
      obtain ⟨fl, ev, hl⟩ := intsAt_ok ei
      have ed := mkD_ints (ns := [ns]) em
      obtain ⟨v, e1, rv⟩ := rep.val ev
      cases rv with
      | @lst a xs _ _ ka _ kb =>
        have exs := ints_vs kb
        subst exs
        refine ⟨_, e1, a, _, rfl, .inl (SqL.of (rep.sub _ _ ka)), fun p1 np1 => ?_⟩
        have lσ : h < σ.length ∧ i < σ.length := by rw [rep.len]; exact hlen
        have s1 : Same H (upd H p1 (.lst (ns.map V.int))) := fun a o e => by rw [upd_ne (ne_of_none e np1)]; exact e
        have gp1 : G p1 = none := rep.sub.free np1
        have sg1 : Same (upd G p1 (.lst (ns.map V.int))) (upd H p1 (.lst (ns.map V.int))) := (Gr.new rep.sub np1).gh
        have eh : (σ.set h (some (.ref p1)))[h]? = some (some (.ref p1)) := List.getElem?_set_self lσ.1
        refine ⟨_, eh, fun x dx nx ndx ne => ?_⟩
        rw [List.append_nil]
        refine made_ok (cl := A.cl) (H0 := upd H p1 (.lst (ns.map V.int))) (Q := fun z H1 => gName i z (σ.set h (some (.ref p1))) H1 _) rfl sg1 (Same.refl _) (.cons (.lst (f := false) upd_same (fun z => nomatch z) (ints_rp ns)) .nil) em (fun z G' H' gr rz => ?_) x dx nx ndx ne
        have hp1 : H' p1 = some (.lst (ns.map V.int)) := gr.hh _ _ upd_same
        have gp1' : G' p1 = some (.lst (ns.map V.int)) := gr.gg _ _ upd_same
        have eh2 : ((σ.set h (some (.ref p1))).set i (some z))[h]? = some (some (.ref p1)) := by rw [List.getElem?_set_ne (Ne.symm hi)]; exact eh
        refine ⟨_, eh2, .inl ⟨rfl, _, SqL.of hp1⟩, p1, _, .int 0, rfl, rfl, hp1, by rw [List.length_map, sizeLine_eq]; omega, ?_⟩
        have grz : Gr G H (outH G' [p1]) (upd H' p1 (.lst (ns.map V.int ++ [.int 0]))) := gr_out rep.sub (by simpa using np1) s1 (fun a ha => by
          have : a ≠ p1 := fun z => ha (by rw [z]; exact np1)
          rw [upd_ne this]) gr fun a ha => upd_ne (by simpa using ha)
        have rz' : Rp A.cl H0 (outH G' [p1]) z d := by
          rw [ed] at rz ⊢
          exact obj_out (rep.sub0.trans s1) (by intro a ha; simp at ha; subst ha; rw [upd_same]; simp) (by intro a ha C dx fs e; simp at ha; subst ha; rw [gp1'] at e; cases e) rz
        exact ⟨_, _, ((rep.mono grz).clear h _).setVal i rz', g0.trans grz, q.mono grz.gg⟩
theorem made2_ok {X : Cx} {b : Bk} {Ex : XK} (C : Sok T U N Γ A k X b Ex) {h i c p p' : Nat} {r : S} {s1 s2 s3 s4 : Stmt} {rest : List Stmt} (hi : h ≠ i) (hc1 : chkSt N b h (fun x => match x with | .List [u, v] _ => chkLs T N b p u && chkLs T N b p' v | _ => false) s1 = true)
    (hc2 : chkSt N b i (chkMk T b c fun as => match as with | [x, y] => chkIx T N b h 0 x && chkIx T N b h 1 y | _ => false) s2 = true) (hc3 : chkA0 (chkIx T N b h 0) s3 = true) (hc4 : chkA0 (chkIx T N b h 1) s4 = true) (PR : ∀ ρ', PSs X rest (tSt A.cl A.xa G0 H0 Ex ρ' (exec Γ r ρ'))) (ρ : Rho) :
    PSs X (s1 :: s2 :: s3 :: s4 :: rest) (tSt A.cl A.xa G0 H0 Ex ρ (exec Γ (.made h i c [p, p'] r) ρ)) := by
  obtain ⟨x1, f1, P1⟩ := st_read C hc1
  split at f1
  rotate_left
  · cases f1
  rename_i u1 u2 lp
  simp only [Bool.and_eq_true] at f1
  obtain ⟨⟨ff, as, pos, rfl⟩, L⟩ := ls_read C f1.1
  obtain ⟨⟨ff', as', pos', rfl⟩, L'⟩ := ls_read C f1.2
  obtain ⟨x2, f2, P2⟩ := st_read C hc2
  obtain ⟨x3, f3, P3⟩ := a0_read (X := X) (b := b) hc3
  obtain ⟨⟨y, py, kk, pp, qq, rfl⟩, V3⟩ := ix_read C f3
  obtain ⟨x4, f4, P4⟩ := a0_read (X := X) (b := b) hc4
  obtain ⟨⟨y4, py4, kk4, pp4, qq4, rfl⟩, V4⟩ := ix_read C f4
  unfold chkMk at f2
  split at f2
  rotate_left
  · cases f2
  rename_i xn xp a2 as2 pos2
  simp only [Bool.and_eq_true, decide_eq_true_eq] at f2
  obtain ⟨⟨⟨⟨rfl, hcp⟩, hg⟩, hn⟩, f2⟩ := f2
  split at f2
  rotate_left
  · cases f2
  rename_i a3 a4 e3
  injection e3 with e3 e4
  subst e3 e4
  simp only [Bool.and_eq_true] at f2
  obtain ⟨⟨y5, py5, kk5, pp5, qq5, rfl⟩, V5⟩ := ix_read C f2.1
  obtain ⟨⟨y6, py6, kk6, pp6, qq6, rfl⟩, V6⟩ := ix_read C f2.2
  obtain ⟨n1, n2, n3⟩ := okName_ok hn
  have K1 := C.c.row.cls c hcp
  obtain ⟨fm, fd, ps, M, F, Bd⟩ := K1.made
  have mk := pe_make (X := X) (pos := pos2) (p := xp) (E := E0) (dvs := []) (ds := []) M F (C.c.room.mono C.c.row.two) (glB_ok C.c.sc hg) K1.mgc Bd .nil pass0 (pa_cons V5 (pa_cons V6 pa_nil)) n1 rfl rfl
  have LL := pe_lst (X := X) (pos := lp) (pa_cons L (pa_cons L' pa_nil))
  have PR' : PSs X rest (fun Ds σ H => ∃ ρ', tSt A.cl A.xa G0 H0 Ex ρ' (exec Γ r ρ') Ds σ H) := ⟨fun pins s σ H D I ⟨ρ', q⟩ => (PR ρ').run pins s σ H D I q⟩
  refine (pss_cons (P1 LL (fun _ _ _ => rfl)) (pss_cons (P2 mk (fun _ _ _ => rfl)) (pss_cons (P3 V3 rfl) (pss_cons (P4 V4 rfl) PR')))).imp fun Ds σ H ⟨G, rep, g0, q⟩ => ?_
  rw [exec] at q
  by_cases hlen : h < ρ.length ∧ i < ρ.length
  rotate_left
  · rw [if_neg hlen] at q; exact q.elim
  rw [if_pos hlen] at q
  cases ei : intsAt ρ p with
  | none =>
    have em : madeD ρ c [p, p'] = .bad := by unfold madeD; simp only [ei]
    rw [em] at q; exact q.elim
  | some ns =>
   cases ei' : intsAt ρ p' with
   | none =>
    have em : madeD ρ c [p, p'] = .bad := by unfold madeD; simp only [ei, ei']
    rw [em] at q; exact q.elim
   | some ms =>
    cases em : madeD ρ c [p, p'] with
    | exc c => rw [em] at q; exact q.elim
    | bad => rw [em] at q; exact q.elim
    | ok d =>
      rw [em] at q
      unfold madeD at em
      simp only [ei, ei'] at em
      obtain ⟨fl, ev, hl⟩ := intsAt_ok ei
      obtain ⟨fl', ev', hl'⟩ := intsAt_ok ei'
      have ed := mkD_ints (ns := [ns, ms]) em
      obtain ⟨v, e1, rv⟩ := rep.val ev
      obtain ⟨v', e1', rv'⟩ := rep.val ev'
      cases rv with
      | @lst a xs _ _ ka _ kb =>
       cases rv' with
       | @lst a' xs' _ _ ka' _ kb' =>
        have exs := ints_vs kb
        subst exs
        have exs' := ints_vs kb'
        subst exs'
        refine ⟨_, e1, a, _, rfl, .inl (SqL.of (rep.sub _ _ ka)), fun p1 np1 => ⟨_, e1', a', _, rfl, .inl (SqL.of (by rw [upd_ne (ne_of_none (rep.sub _ _ ka') np1)]; exact rep.sub _ _ ka')), fun p2 np2 => ⟨by show (2 : Nat) ≤ sizeLine; rw [sizeLine_eq]; omega, fun l nl => ?_⟩⟩⟩
        have lσ : h < σ.length ∧ i < σ.length := by rw [rep.len]; exact hlen
        have n21 : p2 ≠ p1 := fun z => by subst z; rw [upd_same] at np2; cases np2
        have np2' : H p2 = none := by rw [upd_ne n21] at np2; exact np2
        have nl2 : l ≠ p2 := fun z => by subst z; rw [upd_same] at nl; cases nl
        have nl' := nl
        rw [upd_ne nl2] at nl'
        have nl1 : l ≠ p1 := fun z => by subst z; rw [upd_same] at nl'; cases nl'
        rw [upd_ne nl1] at nl'
        generalize eH1 : upd (upd (upd H p1 (.lst (ns.map V.int))) p2 (.lst (ms.map V.int))) l (.lst [.ref p1, .ref p2]) = H1
        have h1l : H1 l = some (.lst [.ref p1, .ref p2]) := by rw [← eH1, upd_same]
        have h1p2 : H1 p2 = some (.lst (ms.map V.int)) := by rw [← eH1, upd_ne (Ne.symm nl2), upd_same]
        have h1p1 : H1 p1 = some (.lst (ns.map V.int)) := by rw [← eH1, upd_ne (Ne.symm nl1), upd_ne (Ne.symm n21), upd_same]
        have g1 := Gr.new (o := .lst (ns.map V.int)) rep.sub np1
        have g2 := Gr.new (o := .lst (ms.map V.int)) g1.gh np2
        have g3 := Gr.new (o := .lst [.ref p1, .ref p2]) g2.gh nl
        have gg := g1.trans (g2.trans g3)
        rw [eH1] at gg
        generalize eG1 : upd (upd (upd G p1 (.lst (ns.map V.int))) p2 (.lst (ms.map V.int))) l (.lst [.ref p1, .ref p2]) = G1 at gg
        have k1l : G1 l = some (.lst [.ref p1, .ref p2]) := by rw [← eG1, upd_same]
        have k1p2 : G1 p2 = some (.lst (ms.map V.int)) := by rw [← eG1, upd_ne (Ne.symm nl2), upd_same]
        have k1p1 : G1 p1 = some (.lst (ns.map V.int)) := by rw [← eG1, upd_ne (Ne.symm nl1), upd_ne (Ne.symm n21), upd_same]
        have eh : (σ.set h (some (.ref l)))[h]? = some (some (.ref l)) := List.getElem?_set_self lσ.1
        refine ⟨_, eh, l, _, 0, .ref p1, rfl, rfl, SqL.of h1l, rfl, _, eh, l, _, 1, .ref p2, rfl, rfl, SqL.of h1l, rfl, fun x dx nx ndx ne => ?_⟩
        rw [List.append_nil]
        refine made_ok (cl := A.cl) (H0 := H1) (Q := fun z H1 => gName i z (σ.set h (some (.ref l))) H1 _) rfl gg.gh (Same.refl _) (.cons (.lst (f := false) k1p1 (fun z => nomatch z) (ints_rp ns)) (.cons (.lst (f := false) k1p2 (fun z => nomatch z) (ints_rp ms)) .nil)) em (fun z G' H' gr rz => ?_) x dx nx ndx ne
        have eh2 : ((σ.set h (some (.ref l))).set i (some z))[h]? = some (some (.ref l)) := by rw [List.getElem?_set_ne (Ne.symm hi)]; exact eh
        have hp1 : H' p1 = some (.lst (ns.map V.int)) := gr.hh _ _ h1p1
        have hp2 : H' p2 = some (.lst (ms.map V.int)) := gr.hh _ _ h1p2
        have hl2 : H' l = some (.lst [.ref p1, .ref p2]) := gr.hh _ _ h1l
        have q1 : upd H' p1 (.lst (ns.map V.int ++ [.int 0])) l = some (.lst [.ref p1, .ref p2]) := by rw [upd_ne nl1]; exact hl2
        have q2 : upd H' p1 (.lst (ns.map V.int ++ [.int 0])) p2 = some (.lst (ms.map V.int)) := by rw [upd_ne n21]; exact hp2
        refine ⟨_, eh2, l, _, 0, .ref p1, rfl, rfl, SqL.of hl2, rfl, .inl ⟨rfl, _, SqL.of hp1⟩, p1, _, .int 0, rfl, rfl, hp1, by rw [List.length_map, sizeLine_eq]; omega, ?_⟩
        refine ⟨_, eh2, l, _, 1, .ref p2, rfl, rfl, SqL.of q1, rfl, .inl ⟨rfl, _, SqL.of q2⟩, p2, _, .int 0, rfl, rfl, q2, by rw [List.length_map, sizeLine_eq]; omega, ?_⟩
        have grz : Gr G H (outH G' [p1, p2]) (upd (upd H' p1 (.lst (ns.map V.int ++ [.int 0]))) p2 (.lst (ms.map V.int ++ [.int 0]))) := gr_out rep.sub (by
          intro a ha
          simp at ha
          rcases ha with rfl | rfl
          · exact np1
          · exact np2') gg.hh gg.old gr fun a ha => by
          simp at ha
          rw [upd_ne ha.2, upd_ne ha.1]
        have rz' : Rp A.cl H0 (outH G' [p1, p2]) z d := by
          rw [ed] at rz ⊢
          refine obj_out (rep.sub0.trans gg.hh) ?_ ?_ rz
          · intro a ha
            simp at ha
            rcases ha with rfl | rfl
            · rw [h1p1]; simp
            · rw [h1p2]; simp
          · intro a ha C dx fs e
            simp at ha
            rcases ha with rfl | rfl
            · rw [gr.gg _ _ k1p1] at e; cases e
            · rw [gr.gg _ _ k1p2] at e; cases e
        exact ⟨_, _, ((rep.mono grz).clear h _).setVal i rz', g0.trans grz, q.mono grz.gg⟩
end
end Wt
/-! ## Statements do what `exec` says: blocks, loops -/
namespace Wt
open PySem PySem.Spec PyProof.Rows L2
section
variable {T : Tb} {U : Tx} {N : List Str} {Γ : Nat → List D → R D} {A : Ad} {k : Nat} {G0 H0 : Hp}
theorem chkS_if {b : Bk} {c : E} {a d : S} {st : Stmt} (h : chkS T U N b (.ite c a d) st = true) : ∃ t l r p, st = .If t l r p ∧ chk T N b c t = true ∧ chkSs T U N b a l = true ∧ chkSs T U N b d r = true := by
  cases st <;> first | (exact (Bool.false_ne_true h).elim) | skip
  rename_i t l r p
  replace h : (chk T N b c t && chkSs T U N b a l && chkSs T U N b d r) = true := h
  simp only [Bool.and_eq_true] at h
  exact ⟨t, l, r, p, rfl, h.1.1, h.1.2, h.2⟩
theorem chkS_loop {b : Bk} {t : Tg} {it : E} {body : S} {st : Stmt} (h : chkS T U N b (.loop t it body) st = true) : ∃ tg iter l p, st = .For tg iter l [] p ∧ chkI T N b it tg iter = true ∧ notSet iter = true ∧ chkT N b t tg = true ∧ chkSs T U N b body l = true := by
  cases st <;> first | (exact (Bool.false_ne_true h).elim) | skip
  rename_i tg iter l els p
  cases els with
  | cons _ _ => exact (Bool.false_ne_true h).elim
  | nil =>
    replace h : (chkI T N b it tg iter && notSet iter && chkT N b t tg && chkSs T U N b body l) = true := h
    simp only [Bool.and_eq_true] at h
    exact ⟨tg, iter, l, p, rfl, h.1.1.1, h.1.1.2, h.1.2, h.2⟩
theorem chkS_whl {b : Bk} {n : Nat} {c : E} {body : S} {st : Stmt} (h : chkS T U N b (.whl n c body) st = true) : ∃ t l p, st = .While t l [] p ∧ chk T N b c t = true ∧ chkSs T U N b body l = true := by
  cases st <;> first | (exact (Bool.false_ne_true h).elim) | skip
  rename_i t l els p
  cases els with
  | cons _ _ => exact (Bool.false_ne_true h).elim
  | nil =>
    replace h : (chk T N b c t && chkSs T U N b body l) = true := h
    simp only [Bool.and_eq_true] at h
    exact ⟨t, l, p, rfl, h.1, h.2⟩
theorem chkS_set {b : Bk} {i : Nat} {e : E} {st : Stmt} (h : chkS T U N b (.set i e) st = true) : ∃ y py x p, st = .Assign [.Name y py] x p ∧ N[i]? = some y ∧ locB b y = true ∧ chk T N b e x = true := by
  cases st <;> first | (exact (Bool.false_ne_true h).elim) | skip
  rename_i ts x p
  cases ts with
  | nil => exact (Bool.false_ne_true h).elim
  | cons t ts =>
    cases ts with
    | cons _ _ => cases t <;> exact (Bool.false_ne_true h).elim
    | nil =>
      cases t <;> first | (exact (Bool.false_ne_true h).elim) | skip
      rename_i y py
      replace h : (decide (N[i]? = some y) && locB b y && chk T N b e x) = true := h
      simp only [Bool.and_eq_true, decide_eq_true_eq] at h
      exact ⟨y, py, x, p, rfl, h.1.1, h.1.2, h.2⟩
theorem chkS_tset {b : Bk} {t : Tg} {e : E} {st : Stmt} (h : chkS T U N b (.tset t e) st = true) : ∃ ts kk p x sp, st = .Assign [.Tuple ts kk p] x sp ∧ notTup x = true ∧ chkT N b t (.Tuple ts kk p) = true ∧ chk T N b e x = true := by
  cases st <;> first | (exact (Bool.false_ne_true h).elim) | skip
  rename_i ts x p
  cases ts with
  | nil => exact (Bool.false_ne_true h).elim
  | cons tt ts =>
    cases ts with
    | cons _ _ => cases tt <;> exact (Bool.false_ne_true h).elim
    | nil =>
      cases tt <;> first | (exact (Bool.false_ne_true h).elim) | skip
      rename_i ts kk tp
      replace h : (notTup x && chkT N b t (.Tuple ts kk tp) && chk T N b e x) = true := h
      simp only [Bool.and_eq_true] at h
      exact ⟨ts, kk, tp, x, p, rfl, h.1.1, h.1.2, h.2⟩
theorem chkS_expr {b : Bk} {e : E} {st : Stmt} (h : chkS T U N b (.expr e) st = true) : e = .cnil ∨ ∃ x p, st = .Expr x p ∧ notComp x = true ∧ chk T N b e x = true := by
  replace h : (isCnil e || chkEx T N b e st) = true := h
  rw [Bool.or_eq_true] at h
  rcases h with h | h
  · cases e <;> first | (exact (Bool.false_ne_true h).elim) | exact .inl rfl
  · refine .inr ?_
    cases st <;> first | (exact (Bool.false_ne_true h).elim) | skip
    rename_i x p
    replace h : (notComp x && chk T N b e x) = true := h
    simp only [Bool.and_eq_true] at h
    exact ⟨x, p, rfl, h.1, h.2⟩
theorem chkS_ret {b : Bk} {e : E} {st : Stmt} (h : chkS T U N b (.ret e) st = true) : ∃ x p, st = .Return (some x) p ∧ chk T N b e x = true := by
  cases st <;> first | (exact (Bool.false_ne_true h).elim) | skip
  rename_i o p
  cases o with
  | none => exact (Bool.false_ne_true h).elim
  | some x => exact ⟨x, p, rfl, h⟩
theorem chkS_retn {b : Bk} {st : Stmt} (h : chkS T U N b .retn st = true) : ∃ p, st = .Return none p := by
  cases st <;> first | (exact (Bool.false_ne_true h).elim) | skip
  rename_i o p
  cases o with
  | some x => exact (Bool.false_ne_true h).elim
  | none => exact ⟨p, rfl⟩
theorem chkS_par {b : Bk} {i j : Nat} {a c : E} {st : Stmt} (h : chkS T U N b (.par i j a c) st = true) : ∃ y py z pz kk tp u v kk' tp' sp, st = .Assign [.Tuple [.Name y py, .Name z pz] kk tp] (.Tuple [u, v] kk' tp') sp ∧
    i ≠ j ∧ N[i]? = some y ∧ N[j]? = some z ∧ locB b y = true ∧ locB b z = true ∧ parB b.sc y z py pz u v = true ∧ chk T N b a u = true ∧ chk T N b c v = true := by
  replace h : chkPar T N b i j a c st = true := h
  unfold chkPar at h
  split at h
  rotate_left
  · exact (Bool.false_ne_true h).elim
  simp only [Bool.and_eq_true, decide_eq_true_eq] at h
  obtain ⟨⟨⟨⟨⟨⟨⟨h1, h2⟩, h3⟩, h4⟩, h5⟩, h6⟩, h7⟩, h8⟩ := h
  exact ⟨_, _, _, _, _, _, _, _, _, _, _, rfl, h1, h2, h3, h4, h5, h6, h7, h8⟩
theorem chkS_seti {b : Bk} {x : Nat} {i e : E} {st : Stmt} (h : chkS T U N b (.seti x i e) st = true) : ∃ y py s p v sp, st = .Assign [.Subscript (.Name y py) s p] v sp ∧ chk T N b (.var x) (.Name y py) = true ∧ chk T N b i s = true ∧ chk T N b e v = true := by
  replace h : chkSeti T N b x i e st = true := h
  unfold chkSeti at h
  split at h
  rotate_left
  · exact (Bool.false_ne_true h).elim
  simp only [Bool.and_eq_true] at h
  exact ⟨_, _, _, _, _, _, rfl, h.1.1, h.1.2, h.2⟩
theorem chkS_seti2 {b : Bk} {x : Nat} {i j a c : E} {st : Stmt} (h : chkS T U N b (.seti2 x i j a c) st = true) : ∃ y py s p z pz s' p' kk tp u v kk' tp' sp, st = .Assign [.Tuple [.Subscript (.Name y py) s p, .Subscript (.Name z pz) s' p'] kk tp] (.Tuple [u, v] kk' tp') sp ∧
    chk T N b (.var x) (.Name y py) = true ∧ chk T N b (.var x) (.Name z pz) = true ∧ chk T N b i s = true ∧ chk T N b j s' = true ∧ chk T N b a u = true ∧ chk T N b c v = true := by
  replace h : chkSeti2 T N b x i j a c st = true := h
  unfold chkSeti2 at h
  split at h
  rotate_left
  · exact (Bool.false_ne_true h).elim
  simp only [Bool.and_eq_true] at h
  obtain ⟨⟨⟨⟨⟨h1, h2⟩, h3⟩, h4⟩, h5⟩, h6⟩ := h
  exact ⟨_, _, _, _, _, _, _, _, _, _, _, _, _, _, _, rfl, h1, h2, h3, h4, h5, h6⟩
theorem chkS_app {b : Bk} {x : Nat} {e : E} {st : Stmt} (h : chkS T U N b (.app x e) st = true) : ∃ y py apos a cpos sp, st = .Expr (.Call (.Attribute (.Name y py) "append" apos) [a] [] cpos) sp ∧ (apos.endLine == cpos.line) = true ∧ chk T N b (.var x) (.Name y py) = true ∧ chk T N b e a = true := by
  replace h : chkApp T N b "append" x e st = true := h
  unfold chkApp at h
  split at h
  rotate_left
  · exact (Bool.false_ne_true h).elim
  simp only [Bool.and_eq_true, decide_eq_true_eq] at h
  obtain ⟨⟨⟨rfl, h2⟩, h3⟩, h4⟩ := h
  exact ⟨_, _, _, _, _, _, rfl, h2, h3, h4⟩
theorem chkS_ext {b : Bk} {x : Nat} {e : E} {st : Stmt} (h : chkS T U N b (.ext x e) st = true) : ∃ y py apos a cpos sp, st = .Expr (.Call (.Attribute (.Name y py) "extend" apos) [a] [] cpos) sp ∧ (apos.endLine == cpos.line) = true ∧ chk T N b (.var x) (.Name y py) = true ∧ chk T N b e a = true := by
  replace h : chkApp T N b "extend" x e st = true := h
  unfold chkApp at h
  split at h
  rotate_left
  · exact (Bool.false_ne_true h).elim
  simp only [Bool.and_eq_true, decide_eq_true_eq] at h
  obtain ⟨⟨⟨rfl, h2⟩, h3⟩, h4⟩ := h
  exact ⟨_, _, _, _, _, _, rfl, h2, h3, h4⟩
theorem chkS_raise {b : Bk} {c : Nat} {st : Stmt} (h : chkS T U N b (.raise c) st = true) : ∃ p m j p2 pos sp, st = .Raise (some (.Call (.Name (U.xname c) p) [.Constant (.str m) j p2] [] pos)) none sp ∧ U.xpres c = true ∧ glB b.sc (U.xname c) = true ∧ okName (U.xname c) = true := by
  replace h : chkRaise U b c st = true := h
  unfold chkRaise at h
  split at h
  rotate_left
  · exact (Bool.false_ne_true h).elim
  simp only [Bool.and_eq_true, decide_eq_true_eq] at h
  obtain ⟨⟨⟨rfl, h2⟩, h3⟩, h4⟩ := h
  exact ⟨_, _, _, _, _, _, rfl, h2, h3, h4⟩

/-! ### loops -/
theorem FinS.of_nx {cl xa : Nat → Addr} {Ex : XK} {G : Hp} {Ds : Ends} {ρ' : Rho} {σ' : L2.St} {G' H' : Hp} (q : FinS cl xa G0 H0 Ex G Ds (.nx ρ')) (r : Rep cl H0 ρ' σ' G' H') (g : Gr G0 H0 G' H') (s : Same G G') : Ds.nx σ' H' := q σ' G' H' r g s
/-- an end that the wish D takes but where the block goes on -/
theorem FinS.switch {cl xa : Nat → Addr} {Ex : XK} {G : Hp} {Ds Ds' : Ends} {o : Out} (q : FinS cl xa G0 H0 Ex G Ds o) (hr : ∀ v H', Ds.rt v H' → Ds'.rt v H') (hn : ∀ ρ, o = .nx ρ → FinS cl xa G0 H0 Ex G Ds' (.nx ρ)) : FinS cl xa G0 H0 Ex G Ds' o := by
  cases o with
  | nx ρ => exact hn ρ rfl
  | rt d => exact fun v G' H' g r => hr v H' (q v G' H' g r)
  | ex c => exact q
  | bad => exact q
variable {X : Cx} {b : Bk} {Ex : XK}
theorem loop_ok (C : Sok T U N Γ A k X b Ex) {t : Tg} {it : E} {body : S} {tg iter : Expr} {l : List Stmt} {p : Pos} (h1 : chkI T N b it tg iter = true) (h2 : notSet iter = true) (h3 : chkT N b t tg = true)
    (PB : ∀ ρ, PSs X l (tSt A.cl A.xa G0 H0 Ex ρ (exec Γ body ρ))) (ρ : Rho) : PS X (.For tg iter l [] p) (tSt A.cl A.xa G0 H0 Ex ρ (exec Γ (.loop t it body) ρ)) := by
  have PGt : PG X tg (fun v σ H Q => ∃ ρ0 d ρ', tG A.cl H0 [] t ρ0 ρ' d v σ H Q) := ⟨fun pins s σ H v u Q I r ⟨ρ0, d, ρ', q⟩ => (pg_ok C.c t h3 (own := []) (ρ := ρ0) (ρ' := ρ') (d := d) (cl := A.cl)).run pins s σ H v u Q I r q⟩
  have PBt : PSs X l (fun Ds σ H => ∃ ρ', tSt A.cl A.xa G0 H0 Ex ρ' (exec Γ body ρ') Ds σ H) := ⟨fun pins s σ H D I ⟨ρ', q⟩ => (PB ρ').run pins s σ H D I q⟩
  refine (ps_for C.po C.c.calm (ei_ok (H0 := H0) it C.c h1 (shareAt ρ (esc it))) PGt PBt (notSet_fold h2)).imp fun Ds σ H ⟨G, rep, g0, q⟩ => ?_
  rw [exec] at q
  obtain ⟨G', rep', g0', q'⟩ := share_st (esc it) rep g0 q
  refine ⟨G', rep', ?_⟩
  cases ei : (ev Γ it (shareAt ρ (esc it))).bind itemsD with
  | exc c => rw [ei] at q'; exact fun H' s => q' H' (rep'.sub0.trans s)
  | bad => rw [ei] at q'; exact q'
  | ok items =>
    rw [ei] at q'
    intro J G1 H1 g1 iok
    obtain ⟨Gd, Y, wk, hGd, hY⟩ := iok.it
    have q1 := FinS.mono q' g1.gg
    generalize ef : (fun (d : Wt.D) (ρ : Rho) => match bindT t d ρ with | some ρ' => exec Γ body ρ' | none => Out.bad) = f at q1
    replace q1 : FinS A.cl A.xa G0 H0 Ex G1 Ds (forR f items (shareAt ρ (esc it))) := by rw [← ef]; rw [← ef] at q1; exact q1
    refine for_it (g := fun v σ H Q => ∃ ρ0 d ρ', tG A.cl H0 [] t ρ0 ρ' d v σ H Q) (tb := fun Ds σ H => ∃ ρ', tSt A.cl A.xa G0 H0 Ex ρ' (exec Γ body ρ') Ds σ H) (D := Ds) wk (fun i σ2 H2 => ∃ ρ2 G2, Rep A.cl H0 ρ2 σ2 G2 H2 ∧ Gr G0 H0 G2 H2 ∧ Same G1 G2 ∧ FinS A.cl A.xa G0 H0 Ex G2 Ds (forR f (items.drop i) ρ2)) ⟨_, G1, rep'.mono g1, g0'.trans g1, Same.refl _, q1⟩
      (fun i σ2 H2 hi ⟨ρ2, G2, r2, g2, s2, _⟩ => hGd G2 H2 s2 r2.sub) (fun i v σ2 H2 H3 hi ⟨ρ2, G2, r2, g2, s2, q2⟩ y => ?_) (fun σ2 H2 ⟨ρ2, G2, r2, g2, s2, q2⟩ => ?_)
    · have hd : items[i]? = some items[i] := List.getElem?_eq_getElem hi
      obtain ⟨G3, g3, rp⟩ := hY i _ v G2 H2 H3 hd s2 r2.sub y
      rw [List.drop_eq_getElem_cons hi, forR] at q2
      have q3 := FinS.mono q2 g3.gg
      have ff : f items[i] ρ2 = (match bindT t items[i] ρ2 with | some ρ' => exec Γ body ρ' | none => Out.bad) := by rw [← ef]
      rw [ff] at q3
      cases eb : bindT t items[i] ρ2 with
      | none => rw [eb] at q3; exact q3.elim
      | some ρ3 =>
        rw [eb] at q3
        replace q3 : FinS A.cl A.xa G0 H0 Ex G3 Ds (match exec Γ body ρ3 with | .nx ρ' => forR f (items.drop (i + 1)) ρ' | o => o) := q3
        refine ⟨ρ2, items[i], ρ3, G3, r2.mono g3, rp, eb, fun σ' rep3 _ => ⟨ρ3, G3, rep3, g2.trans g3, ?_⟩⟩
        cases eo : exec Γ body ρ3 with
        | nx ρ4 =>
          rw [eo] at q3
          exact fun σ5 G5 H5 r5 g5 s5 => ⟨ρ4, G5, r5, g5, (s2.trans g3.gg).trans s5, FinS.mono q3 s5⟩
        | rt d => rw [eo] at q3; exact q3
        | ex c => rw [eo] at q3; exact q3
        | bad => rw [eo] at q3; exact q3
    · rw [List.drop_length, forR] at q2
      exact q2 σ2 G2 H2 r2 g2 (Same.refl _)
theorem whl_ok (C : Sok T U N Γ A k X b Ex) {n : Nat} {c : E} {body : S} {t : Expr} {l : List Stmt} {p : Pos} (h1 : chk T N b c t = true)
    (PB : ∀ ρ, PSs X l (tSt A.cl A.xa G0 H0 Ex ρ (exec Γ body ρ))) (ρ : Rho) : PS X (.While t l [] p) (tSt A.cl A.xa G0 H0 Ex ρ (exec Γ (.whl n c body) ρ)) := by
  have PC : PT X t (fun σ H Q => ∃ ρ', tX A.cl A.xa H0 (WXE Ex) ρ' ((ev Γ c (shareAll ρ')).bind toB) σ H Q) := ⟨fun pins s σ H Q I ⟨ρ', q⟩ => ((ev_ok (H0 := H0) c C.c h1 (shareAll ρ')).2.share (ρ := ρ')).run pins s σ H Q I q⟩
  have PBt : PSs X l (fun Ds σ H => ∃ ρ', tSt A.cl A.xa G0 H0 Ex ρ' (exec Γ body ρ') Ds σ H) := ⟨fun pins s σ H D I ⟨ρ', q⟩ => (PB ρ').run pins s σ H D I q⟩
  refine (ps_while C.po PC PBt).imp fun Ds σ H ⟨G, rep, g0, q⟩ => ?_
  rw [exec] at q
  refine ⟨fun m σ2 H2 => ∃ ρ2 G2, Rep A.cl H0 ρ2 σ2 G2 H2 ∧ Gr G0 H0 G2 H2 ∧ Same G G2 ∧ FinS A.cl A.xa G0 H0 Ex G2 Ds (whlR (fun ρ => (ev Γ c (shareAll ρ)).bind toB) (exec Γ body) m ρ2), ⟨n, ρ, G, rep, g0, Same.refl _, q⟩, fun m σ2 H2 ⟨ρ2, G2, r2, g2, s2, q2⟩ => ?_⟩
  cases m with
  | zero => exact q2.elim
  | succ m =>
    rw [whlR] at q2
    refine ⟨ρ2, G2, r2, ?_⟩
    cases ec : (ev Γ c (shareAll ρ2)).bind toB with
    | exc c => rw [ec] at q2; exact fun H' s => q2 H' (r2.sub0.trans s)
    | bad => rw [ec] at q2; exact q2
    | ok tt =>
      rw [ec] at q2
      intro G3 H3 g3
      have q3 := FinS.mono q2 g3.gg
      cases tt with
      | false =>
        rw [if_neg Bool.false_ne_true]
        exact q3 σ2 G3 H3 (r2.mono g3) (g2.trans g3) (Same.refl _)
      | true =>
        rw [if_pos rfl]
        replace q3 : FinS A.cl A.xa G0 H0 Ex G3 Ds (match exec Γ body ρ2 with | .nx ρ' => whlR (fun ρ => (ev Γ c (shareAll ρ)).bind toB) (exec Γ body) m ρ' | o => o) := q3
        refine ⟨fun σ4 H4 => ∃ ρ4 G4, Rep A.cl H0 ρ4 σ4 G4 H4 ∧ Gr G0 H0 G4 H4 ∧ Same G G4 ∧ FinS A.cl A.xa G0 H0 Ex G4 Ds (whlR (fun ρ => (ev Γ c (shareAll ρ)).bind toB) (exec Γ body) m ρ4), fun σ4 H4 h4 => ⟨m, Nat.lt_succ_self m, h4⟩, ρ2, G3, r2.mono g3, g2.trans g3, ?_⟩
        cases eo : exec Γ body ρ2 with
        | nx ρ4 =>
          rw [eo] at q3
          exact fun σ5 G5 H5 r5 g5 s5 => ⟨ρ4, G5, r5, g5, (s2.trans g3.gg).trans s5, FinS.mono q3 s5⟩
        | rt d => rw [eo] at q3; exact q3
        | ex c => rw [eo] at q3; exact q3
        | bad => rw [eo] at q3; exact q3

mutual
theorem st_ok : ∀ (a : S) {X : Cx} {b : Bk} {Ex : XK} (C : Sok T U N Γ A k X b Ex) {st : Stmt} (h : chkS T U N b a st = true) (ρ : Rho), PS X st (tSt A.cl A.xa G0 H0 Ex ρ (exec Γ a ρ))
  | .expr e, X, b, Ex, C, st, h, ρ => by
    rcases chkS_expr h with rfl | ⟨x, p, rfl, hc, h1⟩
    · have e : exec Γ (.expr .cnil) ρ = .bad := by rw [exec, ev]; rfl
      rw [e]
      exact ⟨fun pins s σ H D I q => by obtain ⟨G, rep, g0, q⟩ := q; exact q.elim⟩
    refine (ps_expr (ev_ok (H0 := H0) e C.c h1 (shareAt ρ (esc e))).1 (swaps_plain hc)).imp fun Ds σ H ⟨G, rep, g0, q⟩ => ?_
    rw [exec] at q
    obtain ⟨G', rep', g0', q'⟩ := share_st (esc e) rep g0 q
    refine ⟨G', rep', u_SV rep'.sub0 q' fun d v G1 H1 e1 g1 r1 n1 q1 => ?_⟩
    exact q1 σ G1 H1 (rep'.mono g1) (g0'.trans g1) (Same.refl _)
  | .set i e, X, b, Ex, C, st, h, ρ => by
    obtain ⟨y, py, x, p, rfl, h1, h2, h3⟩ := chkS_set h
    exact set_ok C h1 h2 h3 ρ
  | .tset t e, X, b, Ex, C, st, h, ρ => by
    obtain ⟨ts, kk, p, x, sp, rfl, h1, h2, h3⟩ := chkS_tset h
    exact tset_ok C h1 h2 h3 ρ
  | .par i j a c, X, b, Ex, C, st, h, ρ => by
    obtain ⟨y, py, z, pz, kk, tp, u, v, kk', tp', sp, rfl, h1, h2, h3, h4, h5, h6, h7, h8⟩ := chkS_par h
    exact par_ok C h1 h2 h3 h4 h5 h6 h7 h8 ρ
  | .seti x i e, X, b, Ex, C, st, h, ρ => by
    obtain ⟨y, py, s, p, v, sp, rfl, h1, h2, h3⟩ := chkS_seti h
    exact seti_ok C h1 h2 h3 ρ
  | .seti2 x i j a c, X, b, Ex, C, st, h, ρ => by
    obtain ⟨y, py, s, p, z, pz, s', p', kk, tp, u, v, kk', tp', sp, rfl, h1, h2, h3, h4, h5, h6⟩ := chkS_seti2 h
    exact seti2_ok C h1 h2 h3 h4 h5 h6 ρ
  | .app x e, X, b, Ex, C, st, h, ρ => by
    obtain ⟨y, py, apos, a, cpos, sp, rfl, h1, h2, h3⟩ := chkS_app h
    exact app_ok C h1 h2 h3 ρ
  | .ext x e, X, b, Ex, C, st, h, ρ => by
    obtain ⟨y, py, apos, a, cpos, sp, rfl, h1, h2, h3⟩ := chkS_ext h
    exact ext_ok C h1 h2 h3 ρ
  | .ite c a d, X, b, Ex, C, st, h, ρ => by
    obtain ⟨t, l, r, p, rfl, h1, h2, h3⟩ := chkS_if h
    refine (ps_if ((ev_ok (H0 := H0) c C.c h1 (shareAll ρ)).2.share (ρ := ρ)) (sts_ok a C h2 ρ) (sts_ok d C h3 ρ)).imp fun Ds σ H ⟨G, rep, g0, q⟩ => ?_
    rw [exec] at q
    refine ⟨G, rep, ?_⟩
    cases ec : (ev Γ c (shareAll ρ)).bind toB with
    | exc c => rw [ec] at q; exact fun H' s => q H' (rep.sub0.trans s)
    | bad => rw [ec] at q; exact q
    | ok t =>
      rw [ec] at q
      intro G' H' g
      cases t with
      | true => rw [if_pos rfl]; exact ⟨G', rep.mono g, g0.trans g, FinS.mono q g.gg⟩
      | false => rw [if_neg Bool.false_ne_true]; exact ⟨G', rep.mono g, g0.trans g, FinS.mono q g.gg⟩
  | .loop t it body, X, b, Ex, C, st, h, ρ => by
    obtain ⟨tg, iter, l, p, rfl, h1, h2, h3, h4⟩ := chkS_loop h
    exact loop_ok C h1 h2 h3 (fun ρ => sts_ok body C h4 ρ) ρ
  | .whl n c body, X, b, Ex, C, st, h, ρ => by
    obtain ⟨t, l, p, rfl, h1, h2⟩ := chkS_whl h
    exact whl_ok C h1 (fun ρ => sts_ok body C h2 ρ) ρ
  | .ret e, X, b, Ex, C, st, h, ρ => by
    obtain ⟨x, p, rfl, h1⟩ := chkS_ret h
    refine (ps_ret (ev_ok (H0 := H0) e C.c h1 (shareAt ρ (esc e))).1).imp fun Ds σ H ⟨G, rep, g0, q⟩ => ?_
    rw [exec] at q
    obtain ⟨G', rep', g0', q'⟩ := share_st (esc e) rep g0 q
    exact ⟨G', rep', u_SV rep'.sub0 q' fun d v G1 H1 e1 g1 r1 n1 q1 => q1 v G1 H1 (g0'.trans g1) r1⟩
  | .retn, X, b, Ex, C, st, h, ρ => by
    obtain ⟨p, rfl⟩ := chkS_retn h
    exact ps_retN.imp fun Ds σ H ⟨G, rep, g0, q⟩ => q .non G H g0 .non
  | .tryA e i j cs a1 a2 a3 g, X, b, Ex, C, st, h, ρ => by exact try_ok C h ρ
  | .raise c, X, b, Ex, C, st, h, ρ => by
    obtain ⟨p, m, j, p2, pos, sp, rfl, h1, h2, h3⟩ := chkS_raise h
    obtain ⟨n1, n2, n3⟩ := okName_ok h3
    obtain ⟨x1, x2, x3, x4, x5⟩ := C.xc c h1
    refine (L2N.ps_raise C.c.calm C.c.tk (L2N.pmk_own PySem.F.excBase_ValueError x3 x1 x2 (raises_own x4 x5) (glB_ok C.c.sc h2) n1)).imp fun Ds σ H ⟨G, rep, g0, q⟩ => ?_
    rw [exec] at q
    exact q H rep.sub0
  | .skip, X, b, Ex, C, st, h, ρ => by cases st <;> exact (Bool.false_ne_true h).elim
  | .seq _ _, X, b, Ex, C, st, h, ρ => by cases st <;> exact (Bool.false_ne_true h).elim
  | .par3 _ _ _ _ _ _, X, b, Ex, C, st, h, ρ => by cases st <;> exact (Bool.false_ne_true h).elim
  | .made _ _ _ _ _, X, b, Ex, C, st, h, ρ => by cases st <;> exact (Bool.false_ne_true h).elim
theorem sts_ok : ∀ (a : S) {X : Cx} {b : Bk} {Ex : XK} (C : Sok T U N Γ A k X b Ex) {sts : List Stmt} (h : chkSs T U N b a sts = true) (ρ : Rho), PSs X sts (tSt A.cl A.xa G0 H0 Ex ρ (exec Γ a ρ))
  | .skip, X, b, Ex, C, sts, h, ρ => by
    cases sts with
    | cons _ _ => exact (Bool.false_ne_true h).elim
    | nil =>
      refine pss_nil.imp fun Ds σ H ⟨G, rep, g0, q⟩ => ?_
      rw [exec] at q
      exact q σ G H rep g0 (Same.refl _)
  | .seq a r, X, b, Ex, C, sts, h, ρ => by
    cases sts with
    | nil => exact (Bool.false_ne_true h).elim
    | cons st sts =>
      replace h : (chkS T U N b a st && chkSs T U N b r sts) = true := h
      simp only [Bool.and_eq_true] at h
      have PR : PSs X sts (fun Ds σ H => ∃ ρ', tSt A.cl A.xa G0 H0 Ex ρ' (exec Γ r ρ') Ds σ H) := ⟨fun pins s σ H D I ⟨ρ', q⟩ => (sts_ok r C h.2 ρ').run pins s σ H D I q⟩
      refine (pss_cons (st_ok a C h.1 ρ) PR).imp fun Ds σ H ⟨G, rep, g0, q⟩ => ⟨G, rep, g0, ?_⟩
      rw [exec] at q
      cases eo : exec Γ a ρ with
      | nx ρ' =>
        rw [eo] at q
        exact fun σ' G' H' r' g s => ⟨ρ', G', r', g, FinS.mono q s⟩
      | rt d => rw [eo] at q; exact q
      | ex c => rw [eo] at q; exact q
      | bad => rw [eo] at q; exact q
  | .made hh i c ps r, X, b, Ex, C, sts, h, ρ => by
    have PR : ∀ {sts}, chkSs T U N b r sts = true → ∀ ρ', PSs X sts (tSt A.cl A.xa G0 H0 Ex ρ' (exec Γ r ρ')) := fun hr ρ' => sts_ok r C hr ρ'
    rcases ps with _ | ⟨p, _ | ⟨p', _ | ⟨_, _⟩⟩⟩
    · exact (Bool.false_ne_true h).elim
    · rcases sts with _ | ⟨s1, _ | ⟨s2, _ | ⟨s3, sts⟩⟩⟩ <;> first | exact (Bool.false_ne_true h).elim | skip
      replace h : (decide (hh ≠ i) && chkSt N b hh (chkLs T N b p) s1 && chkSt N b i (chkMk T b c fun as => match as with | [x] => isVar T N b hh x | _ => false) s2 && chkA0 (isVar T N b hh) s3 && chkSs T U N b r sts) = true := h
      simp only [Bool.and_eq_true, decide_eq_true_eq] at h
      exact made1_ok C h.1.1.1.1 h.1.1.1.2 h.1.1.2 h.1.2 (PR h.2) ρ
    · rcases sts with _ | ⟨s1, _ | ⟨s2, _ | ⟨s3, _ | ⟨s4, sts⟩⟩⟩⟩ <;> first | exact (Bool.false_ne_true h).elim | skip
      replace h : (decide (hh ≠ i) && chkSt N b hh (fun x => match x with | .List [u, v] _ => chkLs T N b p u && chkLs T N b p' v | _ => false) s1 &&
        chkSt N b i (chkMk T b c fun as => match as with | [x, y] => chkIx T N b hh 0 x && chkIx T N b hh 1 y | _ => false) s2 && chkA0 (chkIx T N b hh 0) s3 && chkA0 (chkIx T N b hh 1) s4 && chkSs T U N b r sts) = true := h
      simp only [Bool.and_eq_true, decide_eq_true_eq] at h
      exact made2_ok C h.1.1.1.1.1 h.1.1.1.1.2 h.1.1.1.2 h.1.1.2 h.1.2 (PR h.2) ρ
    · exact (Bool.false_ne_true h).elim
  | .expr _, X, b, Ex, C, sts, h, ρ => by exact (Bool.false_ne_true h).elim
  | .set _ _, X, b, Ex, C, sts, h, ρ => by exact (Bool.false_ne_true h).elim
  | .tset _ _, X, b, Ex, C, sts, h, ρ => by exact (Bool.false_ne_true h).elim
  | .par _ _ _ _, X, b, Ex, C, sts, h, ρ => by exact (Bool.false_ne_true h).elim
  | .par3 _ _ _ _ _ _, X, b, Ex, C, sts, h, ρ => by exact (Bool.false_ne_true h).elim
  | .seti _ _ _, X, b, Ex, C, sts, h, ρ => by exact (Bool.false_ne_true h).elim
  | .seti2 _ _ _ _ _, X, b, Ex, C, sts, h, ρ => by exact (Bool.false_ne_true h).elim
  | .app _ _, X, b, Ex, C, sts, h, ρ => by exact (Bool.false_ne_true h).elim
  | .ext _ _, X, b, Ex, C, sts, h, ρ => by exact (Bool.false_ne_true h).elim
  | .ite _ _ _, X, b, Ex, C, sts, h, ρ => by exact (Bool.false_ne_true h).elim
  | .loop _ _ _, X, b, Ex, C, sts, h, ρ => by exact (Bool.false_ne_true h).elim
  | .whl _ _ _, X, b, Ex, C, sts, h, ρ => by exact (Bool.false_ne_true h).elim
  | .ret _, X, b, Ex, C, sts, h, ρ => by exact (Bool.false_ne_true h).elim
  | .retn, X, b, Ex, C, sts, h, ρ => by exact (Bool.false_ne_true h).elim
  | .tryA _ _ _ _ _ _ _ _, X, b, Ex, C, sts, h, ρ => by exact (Bool.false_ne_true h).elim
  | .raise _, X, b, Ex, C, sts, h, ρ => by exact (Bool.false_ne_true h).elim
end
end
end Wt
/-! ## A def by its body -/
namespace Wt
open PySem PySem.Spec PyProof.Rows L2
theorem fun_okN {P : Program} {w : World} {K : PySem.W.Frag} {mg : Str → Option Value} {base : Heap} {x qual : Str} {st : Stmt} {f : Addr} {fd : FuncData} {N ps : List Str} {k : Nat} {sp : Sp} (F : Fun K x qual st f fd) (S : FnScope N ps (defScope st))
    (len : ∀ vs H Q E, sp vs H Q E → vs.length = ps.length)
    (hb : ∀ (cdv : Value) (A : Around) (outer : List Env) (s : Shared) (H : Hp) (vs : List V) (Q : VK) (E : XK), Room k (A.deeper (envOfC qual (defScope st) s.heap.objs.size f cdv)) → sp vs H Q E →
      ∃ t, PSs (cxOf (L2N.CX P w) P w K mg base N qual (defScope st) f cdv A outer s H E) (defBody st) t ∧ t { nx := fun _ H' => Q .non H', rt := Q } (L2.start N vs) H) : FnOk P w K mg base (L2N.CX P w) (k + 1) f fd ps sp := by
  obtain ⟨c1, c2, c3, c4, c5, c6, cdv, c8, c9, rfl, lk, hcd⟩ := F.ex
  exact fn_of lk hcd S len fun A outer s H vs Q E hr hsp => hb cdv A outer s H vs Q E hr hsp
end Wt
/-! ## The pieces, as the def makes them -/
namespace Wt
open PySem L2
def marks0 (n : Int) (os us : List Int) : List (Int × Int) :=
  (((List.range n.toNat).map fun i : Nat => (i : Int)).filter fun p => !os.contains p && !us.contains p).map fun p => (p, p)
def lkM (kvs : List (Int × Int)) (k : Int) : Option Int := (kvs.find? fun p => decide (p.1 = k)).map (·.2)
def joinM (lo hi : Int) (p : Int × Int) : Int × Int := (p.1, if p.2 = hi then lo else p.2)
def stepM (kvs : List (Int × Int)) (t : Int × Int) : List (Int × Int) :=
  match lkM kvs t.1, lkM kvs t.2 with
  | some x, some y => kvs.map (joinM (if y < x then y else x) (if x < y then y else x))
  | _, _ => kvs
def marksI (n : Int) (ts : List (Int × Int)) (os us : List Int) : List (Int × Int) := ts.foldl stepM (marks0 n os us)
def piecesI (n : Int) (ts : List (Int × Int)) (os us : List Int) : List (List Int) :=
  (sortI ((marksI n ts os us).map (·.2))).map fun m => ((marksI n ts os us).filter fun p => decide (p.2 = m)).map (·.1)
theorem stepM_keys (kvs : List (Int × Int)) (t : Int × Int) : (stepM kvs t).map (·.1) = kvs.map (·.1) := by
  unfold stepM
  split
  · rw [List.map_map]; rfl
  · rfl
theorem marksI_keys (n : Int) (ts : List (Int × Int)) (os us : List Int) : (marksI n ts os us).map (·.1) = (marks0 n os us).map (·.1) := by
  unfold marksI
  generalize marks0 n os us = k0
  induction ts generalizing k0 with
  | nil => rfl
  | cons t ts ih => rw [List.foldl_cons, ih, stepM_keys]
theorem marks0_keys (n : Int) (os us : List Int) : (marks0 n os us).map (·.1) = ((List.range n.toNat).map fun i : Nat => (i : Int)).filter fun p => !os.contains p && !us.contains p := by
  unfold marks0
  rw [List.map_map]
  exact List.map_id _
theorem nodup_ints (n : Nat) : ((List.range n).map fun i : Nat => (i : Int)).Nodup := by
  unfold List.Nodup
  rw [List.pairwise_map]
  exact List.nodup_range.imp fun {a b} h z => h (by exact_mod_cast z)
theorem marks_nodup (n : Int) (os us : List Int) : ((marks0 n os us).map (·.1)).Nodup := by
  rw [marks0_keys]
  exact (nodup_ints _).sublist List.filter_sublist
theorem marks0_len (n : Int) (os us : List Int) : (marks0 n os us).length ≤ n.toNat := by
  have := congrArg List.length (marks0_keys n os us)
  rw [List.length_map] at this
  rw [this]
  exact Nat.le_trans (List.length_filter_le _ _) (by simp)
theorem keys_len {a b : List (Int × Int)} (h : a.map (·.1) = b.map (·.1)) : a.length = b.length := by
  have := congrArg List.length h
  simpa using this
/-- the dict's pairs, as the layer has them -/
def encM (kvs : List (Int × Int)) : List (Key × V) := kvs.map fun p => ((Sum.inl p.1 : Key), V.int p.2)
theorem encM_len (kvs : List (Int × Int)) : (encM kvs).length = kvs.length := by simp [encM]
theorem valV_enc (k : Int) : ∀ kvs : List (Int × Int), valV (encM kvs) (Sum.inl k : Key) = (lkM kvs k).map V.int
  | [] => rfl
  | p :: r => by
    have ih := valV_enc k r
    by_cases h : p.1 = k
    · show valV (((Sum.inl p.1 : Key), V.int p.2) :: encM r) _ = _
      rw [valV_pos (by show (Sum.inl p.1 : Key) = Sum.inl k; rw [h])]
      simp [lkM, List.find?_cons, h]
    · show valV (((Sum.inl p.1 : Key), V.int p.2) :: encM r) _ = _
      rw [valV_neg (by show ¬ (Sum.inl p.1 : Key) = Sum.inl k; intro z; injection z with z; exact h z), ih]
      simp [lkM, List.find?_cons, h]
theorem putK_new {kvs : List (Int × Int)} {k v : Int} (h : k ∉ kvs.map (·.1)) : putK (encM kvs) (Sum.inl k : Key) (V.int v) = encM (kvs ++ [(k, v)]) := by
  unfold putK
  rw [if_neg, encM, encM, List.map_append]; rfl
  intro z
  rw [List.any_eq_true] at z
  obtain ⟨q, hq, e⟩ := z
  obtain ⟨p, hp, rfl⟩ := List.mem_map.mp hq
  simp only [decide_eq_true_eq] at e
  injection e with e
  exact h (List.mem_map.mpr ⟨p, hp, e⟩)
theorem map_other {k : Int} {y : V} : ∀ {l : List (Int × Int)}, k ∉ l.map (·.1) → (encM l).map (fun kv => if kv.1 = (Sum.inl k : Key) then (kv.1, y) else kv) = encM l
  | [], _ => rfl
  | p :: r, h => by
    simp only [List.map_cons, List.mem_cons, not_or] at h
    show (if (Sum.inl p.1 : Key) = Sum.inl k then _ else _) :: _ = _
    rw [if_neg (by intro z; injection z with z; exact h.1 z.symm)]
    congr 1
    exact map_other h.2
theorem putK_at {l1 l2 : List (Int × Int)} {k v w : Int} (h1 : k ∉ l1.map (·.1)) (h2 : k ∉ l2.map (·.1)) : putK (encM (l1 ++ (k, v) :: l2)) (Sum.inl k : Key) (V.int w) = encM (l1 ++ (k, w) :: l2) := by
  unfold putK
  rw [if_pos]
  · unfold encM
    rw [List.map_append, List.map_append, List.map_append, List.map_cons, List.map_cons]
    have e1 := map_other (y := V.int w) h1
    have e2 := map_other (y := V.int w) h2
    unfold encM at e1 e2
    rw [e1, List.map_cons, e2, if_pos rfl]
  · rw [List.any_eq_true]
    exact ⟨((Sum.inl k : Key), V.int v), List.mem_map.mpr ⟨(k, v), by simp, rfl⟩, by simp⟩
theorem lkM_at {l1 l2 : List (Int × Int)} {k v : Int} (h1 : k ∉ l1.map (·.1)) : lkM (l1 ++ (k, v) :: l2) k = some v := by
  unfold lkM
  rw [List.find?_append]
  have : l1.find? (fun p => decide (p.1 = k)) = none := by
    rw [List.find?_eq_none]
    intro p hp z
    simp only [decide_eq_true_eq] at z
    exact h1 (List.mem_map.mpr ⟨p, hp, z⟩)
  rw [this]
  simp [List.find?_cons]
theorem joinM_keys (lo hi : Int) (l : List (Int × Int)) : (l.map (joinM lo hi)).map (·.1) = l.map (·.1) := by rw [List.map_map]; rfl
end Wt
/-! ## The def that tells the pieces, walked by hand -/
namespace Wt
open PySem PySem.Spec PyProof.Rows L2
def pcN : List Str := ["web", "one", "other", "marks", "place", "first", "second", "low", "high", "mark"]
section
variable (T : Tb)
/-- marks[i] -/
def chkM (b : Bk) (i : Nat) : Expr → Bool
  | .Subscript d k _ => chk T pcN b (.var 3) d && chk T pcN b (.var i) k
  | _ => false
def chkCl (b : Bk) (nm : Str) (es : List Expr → Bool) : Expr → Bool
  | .Call (.Name x _) as [] _ => decide (x = nm) && glB b.sc x && es as
  | _ => false
def chkC2 (b : Bk) (op : CmpOp) (i j : Nat) : Expr → Bool
  | .Compare x [o] [d] _ => decide (o = op) && chk T pcN b (.var i) x && chk T pcN b (.var j) d
  | _ => false
def chkA2 (f g : Expr → Bool) : Expr → Bool
  | .BoolOp .And [x, y] _ => f x && g y
  | _ => false
def chkWs (b : Bk) (z : Int) : Expr → Bool
  | .Subscript w k _ => chk T pcN b (.var 0) w && chk T pcN b (.int z) k
  | _ => false
def chkP1 (b : Bk) : Stmt → Bool
  | .Assign [.Name m _] (.Dict [] [] _) _ => decide (m = "marks") && locB b m
  | _ => false
def chkP2 (b : Bk) : Stmt → Bool
  | .For tg it [.If c [.Assign [.Subscript d k _] v _] [] _] [] _ =>
    chkT pcN b (.nm 4) tg && chkCl b "range" (fun as => match as with | [a] => chkWs T b 0 a | _ => false) it && chkA2 (chkC2 T b .NotIn 4 1) (chkC2 T b .NotIn 4 2) c && chk T pcN b (.var 3) d && chk T pcN b (.var 4) k && chk T pcN b (.var 4) v
  | _ => false
def chkMM (b : Bk) (nm : Str) : Expr → Bool := chkCl b nm fun as => match as with | [x, y] => chkM T b 5 x && chkM T b 6 y | _ => false
def chkP4 (b : Bk) : Stmt → Bool
  | .Assign [.Tuple [.Name l lp, .Name h hp] _ _] (.Tuple [x, y] _ _) _ => decide (l = "low") && decide (h = "high") && isLoc b.sc l && isLoc b.sc h && parB b.sc l h lp hp x y && lp.line == hp.line && chkMM T b "min" x && chkMM T b "max" y
  | _ => false
def chkP5 (b : Bk) : Stmt → Bool
  | .For tg it [.Assign [.Subscript d k _] (.IfExp (.Compare x [o] [h] _) l y _) _] [] _ =>
    chkT pcN b (.nm 4) tg && chkCl b "list" (fun as => match as with | [a] => chk T pcN b (.var 3) a | _ => false) it && chk T pcN b (.var 3) d && chk T pcN b (.var 4) k && chkM T b 4 x && decide (o = .Eq) && chk T pcN b (.var 8) h && chk T pcN b (.var 7) l && chkM T b 4 y
  | _ => false
def chkP3 (b : Bk) : Stmt → Bool
  | .For tg it [.If c [s, r] [] _] [] _ => chkT pcN b (.tp (.cons (.nm 5) (.cons (.nm 6) .nil))) tg && chkWs T b 1 it && chkA2 (chkC2 T b .In 5 3) (chkC2 T b .In 6 3) c && chkP4 T b s && chkP5 T b r
  | _ => false
def chkVs (b : Bk) : Expr → Bool
  | .Call (.Attribute d m ap) [] [] cp => decide (m = "values") && ap.endLine == cp.line && chk T pcN b (.var 3) d
  | _ => false
def chkP6 (b : Bk) : Stmt → Bool
  | .Return (some (.ListComp (.ListComp x [⟨tg2, d, [.Compare m [o] [k] _], 0⟩] s2 _) [⟨tg1, it, [], 0⟩] s1 _)) _ =>
    chkT pcN (blkOf b s1) (.nm 9) tg1 && blkC pcN b.sc s1 (ownP pcN [9]) && chkCl b "sorted" (fun as => match as with | [a] => chkCl b "set" (fun as => match as with | [a] => chkCl b "list" (fun as => match as with | [a] => chkVs T b a | _ => false) a | _ => false) a | _ => false) it &&
      chkT pcN (blkOf (blkOf b s1) s2) (.nm 4) tg2 && blkC pcN (blkOf b s1).sc s2 (ownP pcN [4]) && chk T pcN (blkOf b s1) (.var 3) d && chkM T (blkOf (blkOf b s1) s2) 4 m && decide (o = .Eq) && chk T pcN (blkOf (blkOf b s1) s2) (.var 9) k && chk T pcN (blkOf (blkOf b s1) s2) (.var 4) x
  | _ => false
def chkPc (b : Bk) : List Stmt → Bool
  | [a, c, d, e] => chkP1 b a && chkP2 T b c && chkP3 T b d && chkP6 T b e
  | _ => false
end
section
variable {T : Tb} {N : List Str} {Γ : Nat → List D → R D} {A : Ad} {k : Nat} {X : Cx} {b : Bk} {W : WX}
theorem var_read (C : Cok T N Γ A k X b W) {i : Nat} {e : Expr} (h : chk T N b (.var i) e = true) : PE X e (tVar i) := by
  obtain ⟨x, p, rfl, hi, hv, hn⟩ := chk_var h
  obtain ⟨n1, n2, n3⟩ := okName_ok hn
  exact pe_var (by rw [C.hN]; exact hi) (visB_ok C.sc hv) n1 n2
theorem int_read {i : Int} {e : Expr} (h : chk T N b (.int i) e = true) : PE X e (tC (.int i)) := by
  cases e <;> first | (exact (Bool.false_ne_true h).elim) | skip
  rename_i c j p
  cases c <;> first | (exact (Bool.false_ne_true h).elim) | skip
  replace h : decide (i = _) = true := h
  simp only [decide_eq_true_eq] at h
  subst h
  exact pe_int
theorem m_read (C : Cok T pcN Γ A k X b W) {i : Nat} {e : Expr} (h : chkM T b i e = true) : PE X e (tDGet (tVar 3) (tVar i)) := by
  unfold chkM at h
  split at h
  · simp only [Bool.and_eq_true] at h
    exact pe_dget (by have := C.hu; omega) (var_read C h.1) (var_read C h.2) (plainIx h.2)
  · cases h
theorem c2_in (C : Cok T pcN Γ A k X b W) {i : Nat} {e : Expr} (h : chkC2 T b .In i 3 e = true) : PT X e (tB (tDIn (tVar i) (tVar 3))) := by
  unfold chkC2 at h
  split at h
  · simp only [Bool.and_eq_true, decide_eq_true_eq] at h
    obtain ⟨⟨rfl, h1⟩, h2⟩ := h
    exact pt_cmp (pc_din (by have := C.hu; omega) (var_read C h1) (var_read C h2)) (notSet_of h2)
  · cases h
theorem c2_nin (C : Cok T pcN Γ A k X b W) {i j : Nat} {e : Expr} (h : chkC2 T b .NotIn i j e = true) : PT X e (tTest (tOp (rIn X.K true) (tVar i) (tVar j))) := by
  unfold chkC2 at h
  split at h
  · simp only [Bool.and_eq_true, decide_eq_true_eq] at h
    obtain ⟨⟨rfl, h1⟩, h2⟩ := h
    exact pt_cmpR op_notIn_seq (var_read C h1) (var_read C h2) (notSet_of h2)
  · cases h
theorem a2_read {f g : Expr → Bool} {e : Expr} {t u : TT} (h : chkA2 f g e = true) (hf : ∀ e, f e = true → PT X e t) (hg : ∀ e, g e = true → PT X e u) : PT X e (tAnd t u) := by
  unfold chkA2 at h
  split at h
  · simp only [Bool.and_eq_true] at h
    exact (pw_and (hf _ h.1) (pw_and1 (hg _ h.2))).pt
  · cases h
theorem ws_read (C : Cok T pcN Γ A k X b W) {z : Int} {e : Expr} (h : chkWs T b z e = true) : ∃ w i p, e = .Subscript w i p ∧ PE X w (tVar 0) ∧ PE X i (tC (.int z)) ∧ PlainIx i := by
  unfold chkWs at h
  split at h
  · simp only [Bool.and_eq_true] at h
    exact ⟨_, _, _, rfl, var_read C h.1, int_read h.2, plainIx h.2⟩
  · cases h
theorem cl_read (C : Cok T pcN Γ A k X b W) {nm : Str} {es : List Expr → Bool} {e : Expr} (h : chkCl b nm es e = true) : ∃ p as pos, e = .Call (.Name nm p) as [] pos ∧ Gl X nm ∧ es as = true := by
  unfold chkCl at h
  split at h
  · simp only [Bool.and_eq_true, decide_eq_true_eq] at h
    obtain ⟨⟨rfl, h1⟩, h2⟩ := h
    exact ⟨_, _, _, rfl, glB_ok C.sc h1, h2⟩
  · cases h
/-- what a turn stands on -/
structure Sg (H : Hp) (w o u d : Addr) (kvs : List (Int × Int)) (σ : L2.St) (H' : Hp) : Prop where
  len : σ.length = 10
  s0 : σ[0]? = some (some (.ref w))
  s1 : σ[1]? = some (some (.ref o))
  s2 : σ[2]? = some (some (.ref u))
  s3 : σ[3]? = some (some (.ref d))
  same : Same H H'
  free : H d = none
  at_ : H' d = some (.dK (encM kvs))
section
variable {H H' : Hp} {w o u d : Addr} {kvs : List (Int × Int)} {σ : L2.St}
theorem Sg.set (g : Sg H w o u d kvs σ H') {i : Nat} (hi : 4 ≤ i) (x : Option V) : Sg H w o u d kvs (σ.set i x) H' :=
  ⟨by rw [List.length_set]; exact g.len, by rw [List.getElem?_set_ne (by omega)]; exact g.s0, by rw [List.getElem?_set_ne (by omega)]; exact g.s1, by rw [List.getElem?_set_ne (by omega)]; exact g.s2, by rw [List.getElem?_set_ne (by omega)]; exact g.s3, g.same, g.free, g.at_⟩
theorem Sg.new (g : Sg H w o u d kvs σ H') {p : Addr} (np : H' p = none) (x : HO) : Sg H w o u d kvs σ (upd H' p x) :=
  ⟨g.len, g.s0, g.s1, g.s2, g.s3, fun a y e => by rw [upd_ne (ne_of_none (g.same _ _ e) np)]; exact g.same _ _ e, g.free, by rw [upd_ne (ne_of_none g.at_ np)]; exact g.at_⟩
theorem Sg.put (g : Sg H w o u d kvs σ H') (kvs' : List (Int × Int)) : Sg H w o u d kvs' σ (upd H' d (.dK (encM kvs'))) :=
  ⟨g.len, g.s0, g.s1, g.s2, g.s3, fun a y e => by rw [upd_ne (ne_of_none e g.free)]; exact g.same _ _ e, g.free, upd_same⟩
end
/-- what is handed in: a web, two lists of numbers -/
structure PcIn (H : Hp) (w o u : Addr) (n : Int) (ts : List (Int × Int)) (os us : List Int) : Prop where
  web : ∃ tl va, H w = some (.tup [.int n, .ref tl]) ∧ H tl = some (.lst va) ∧ va.length = ts.length ∧ ∀ (i : Nat) (t : Int × Int), ts[i]? = some t → ∃ a, va[i]? = some (.ref a) ∧ H a = some (.tup [.int t.1, .int t.2])
  one : H o = some (.lst (os.map V.int))
  other : H u = some (.lst (us.map V.int))
  small : 0 ≤ n ∧ n ≤ 50
theorem inV_ints (p : Int) : ∀ os : List Int, inV (.int p) (os.map V.int) = os.contains p
  | [] => rfl
  | o :: os => by
    have ih := inV_ints p os
    unfold inV at ih ⊢
    rw [List.map_cons, List.any_cons, ih, List.contains_cons]
    congr 1
    show (o == p) = (p == o)
    exact Bool.eq_iff_iff.mpr (by rw [beq_iff_eq, beq_iff_eq]; exact eq_comm)
theorem flat_ints : ∀ os : List Int, (os.map V.int).all flatV = true
  | [] => rfl
  | o :: os => by rw [List.map_cons, List.all_cons, flat_ints os]; rfl
theorem marks0_succ (i : Nat) (os us : List Int) : marks0 ((i + 1 : Nat) : Int) os us = marks0 (i : Int) os us ++ (if (!os.contains (i : Int) && !us.contains (i : Int)) = true then [((i : Int), (i : Int))] else []) := by
  unfold marks0
  rw [Int.toNat_natCast, Int.toNat_natCast, List.range_succ, List.map_append, List.filter_append, List.map_append]
  congr 1
  by_cases h : (!os.contains (i : Int) && !us.contains (i : Int)) = true
  · rw [if_pos h, List.map_cons, List.map_nil, List.filter_cons, if_pos h]; rfl
  · rw [if_neg h, List.map_cons, List.map_nil, List.filter_cons, if_neg h]; rfl
theorem p2_ok (C : Cok T pcN Γ A k X b W) (po : PassesOwn (model X.prog X.w) X.A X.env X.xe) {st : Stmt} (h : chkP2 T b st = true) :
    PS X st (fun D σ H' => ∃ H w o u d n ts os us, PcIn H w o u n ts os us ∧ Sg H w o u d [] σ H' ∧ ∀ σ2 H2, Sg H w o u d (marks0 n os us) σ2 H2 → D.nx σ2 H2) := by
  unfold chkP2 at h
  split at h
  rotate_left
  · cases h
  rename_i tg it c dd kk p1 v p2 p3 p4
  simp only [Bool.and_eq_true] at h
  obtain ⟨⟨⟨⟨⟨h1, h2⟩, h3⟩, h4⟩, h5⟩, h6⟩ := h
  obtain ⟨rp, as, rpos, rfl, hg, hrange⟩ := cl_read C h2
  split at hrange
  rotate_left
  · cases hrange
  rename_i a
  obtain ⟨we, ie, wp, rfl, pw, pi, px⟩ := ws_read C hrange
  obtain ⟨x, p, rfl, hi, hl⟩ : ∃ x p, tg = .Name x p ∧ pcN[4]? = some x ∧ locB b x = true := by
    cases tg <;> first | (exact (Bool.false_ne_true h1).elim) | skip
    rename_i x p
    replace h1 : (decide (pcN[4]? = some x) && locB b x) = true := h1
    simp only [Bool.and_eq_true, decide_eq_true_eq] at h1
    exact ⟨x, p, rfl, h1.1, h1.2⟩
  obtain ⟨l1, l2⟩ := locB_ok C.sc C.fn hl
  have pc := a2_read (X := X) h3 (fun e => c2_nin C) (fun e => c2_nin C)
  have hu : X.A.units + 1 < cLine := by have := C.hu; omega
  have sw : swapsWith v (some (.Subscript dd kk p1)) p2.line X.env = pure false := by
    obtain ⟨y, q, rfl, _⟩ := chk_var h6; rfl
  have put := ps_dput (pos := p2) (pos' := p1) hu (var_read C h4) (var_read C h5) (var_read C h6) sw
  refine (ps_for po C.calm (pi_range1 hg (C.blt (by decide)) (pa_cons (pe_ix ix_tup pw pi px) pa_nil)) (pg_name (i := 4) (by rw [C.hN]; exact C.nd) (by rw [C.hN]; exact hi) l1 l2) (pss_one (ps_if pc (pss_one put) pss_nil))).imp fun D σ H' ⟨H, w, o, u, d, n, ts, os, us, hin, sg, q⟩ => ?_
  obtain ⟨tl, va, hw, _⟩ := hin.web
  refine ⟨_, sg.s0, w, _, _, _, rfl, rfl, SqT.of (sg.same _ _ hw), rfl, n, rfl, by have := hin.small; omega, by have := hin.small; omega, ?_⟩
  refine for_range (lo := 0) (n := n.toNat) (fun i σ2 H2 => Sg H w o u d (marks0 (i : Int) os us) σ2 H2) sg (fun i σ2 H2 hi sg2 => ?_) (fun σ2 H2 sg2 => q σ2 H2 ?_)
  · have sg3 := sg2.set (i := 4) (by omega) (some (.int ((0 : Int) + (i : Nat))))
    have e4 : (σ2.set 4 (some (.int ((0 : Int) + (i : Nat)))))[4]? = some (some (.int ((0 : Int) + (i : Nat)))) := List.getElem?_set_self (by rw [sg2.len]; omega)
    have h1 := SqL.of (K := X.K) (sg3.same _ _ hin.one)
    have h2 := SqL.of (K := X.K) (sg3.same _ _ hin.other)
    have zi : (0 : Int) + (i : Nat) = (i : Int) := by omega
    show tIfS _ _ _ _ (σ2.set 4 (some (.int ((0 : Int) + (i : Nat))))) H2
    refine ⟨_, e4, _, sg3.s1, o, os.map .int, rfl, .inl h1, rfl, flat_ints os, _, rfl, ?_⟩
    rw [if_pos rfl, inV_ints, zi]
    rw [zi] at sg3 e4
    have ms := marks0_succ i os us
    have nk : (i : Int) ∉ (marks0 (i : Int) os us).map (·.1) := fun z => by
      rw [marks0_keys] at z
      have z2 := (List.mem_filter.mp z).1
      obtain ⟨j, hj, e⟩ := List.mem_map.mp z2
      have := List.mem_range.mp hj
      omega
    have hlen : (encM (marks0 (i : Int) os us)).length < sizeLine := by
      rw [encM_len, sizeLine_eq]
      have := marks0_len (i : Int) os us
      have := hin.small
      omega
    cases ho : os.contains (i : Int) with
    | true =>
      rw [ho] at ms
      simp only [Bool.not_true, Bool.false_and, if_neg Bool.false_ne_true, List.append_nil] at ms
      simp only [Bool.not_true, if_neg Bool.false_ne_true]
      rw [← ms] at sg3
      exact sg3
    | false =>
      rw [ho] at ms
      simp only [Bool.not_false, Bool.true_and] at ms
      simp only [Bool.not_false, if_pos rfl]
      refine ⟨_, e4, _, sg3.s2, u, us.map .int, rfl, .inl h2, rfl, flat_ints us, _, rfl, ?_⟩
      rw [if_pos rfl, inV_ints]
      cases hu' : us.contains (i : Int) with
      | true =>
        rw [hu'] at ms
        simp only [Bool.not_true, if_neg Bool.false_ne_true, List.append_nil] at ms
        simp only [Bool.not_true, if_neg Bool.false_ne_true]
        rw [← ms] at sg3
        exact sg3
      | false =>
        rw [hu'] at ms
        simp only [Bool.not_false, if_true] at ms
        simp only [Bool.not_false, if_pos rfl]
        refine ⟨_, e4, _, sg3.s3, _, e4, d, _, rfl, DPut.k (k := Sum.inl (i : Int)) sg3.at_ hlen, ?_⟩
        rw [putK_new nk, ← ms]
        exact sg3.put _
  · have en : ((n.toNat : Nat) : Int) = n := Int.toNat_of_nonneg hin.small.1
    rw [en] at sg2
    exact sg2
theorem nm_read {i : Nat} {tg : Expr} (h : chkT pcN b (.nm i) tg = true) : ∃ x p, tg = .Name x p ∧ pcN[i]? = some x ∧ locB b x = true := by
  cases tg <;> first | (exact (Bool.false_ne_true h).elim) | skip
  rename_i x p
  replace h : (decide (pcN[i]? = some x) && locB b x) = true := h
  simp only [Bool.and_eq_true, decide_eq_true_eq] at h
  exact ⟨x, p, rfl, h.1, h.2⟩
theorem pgn_read (C : Cok T pcN Γ A k X b W) {i : Nat} {tg : Expr} (h : chkT pcN b (.nm i) tg = true) : PG X tg (gName i) := by
  obtain ⟨x, p, rfl, hi, hl⟩ := nm_read h
  obtain ⟨l1, l2⟩ := locB_ok C.sc C.fn hl
  exact pg_name (i := i) (by rw [C.hN]; exact C.nd) (by rw [C.hN]; exact hi) l1 l2
theorem DGet.of {H : Hp} {d : Addr} {kvs : List (Int × Int)} {a x : Int} (e : H d = some (.dK (encM kvs))) (h : lkM kvs a = some x) : DGet H d (.int a) (some (.int x)) := by
  have := DGet.k (k := Sum.inl a) e
  rw [valV_enc, h] at this
  exact this
theorem p5_ok (C : Cok T pcN Γ A k X b W) (po : PassesOwn (model X.prog X.w) X.A X.env X.xe) {st : Stmt} (h : chkP5 T b st = true) :
    PS X st (fun D σ H' => ∃ H w o u d kvs lo hi, Sg H w o u d kvs σ H' ∧ σ[7]? = some (some (.int lo)) ∧ σ[8]? = some (some (.int hi)) ∧ (kvs.map (·.1)).Nodup ∧ kvs.length ≤ 60 ∧ ∀ σ2 H2, Sg H w o u d (kvs.map (joinM lo hi)) σ2 H2 → D.nx σ2 H2) := by
  unfold chkP5 at h
  split at h
  rotate_left
  · cases h
  rename_i tg it dd kk p1 x oo hh p2 l y p3 p4 p5
  simp only [Bool.and_eq_true, decide_eq_true_eq] at h
  obtain ⟨⟨⟨⟨⟨⟨⟨⟨h1, h2⟩, h3⟩, h4⟩, h5⟩, rfl⟩, h7⟩, h8⟩, h9⟩ := h
  obtain ⟨rp, as, rpos, rfl, hg, hlist⟩ := cl_read C h2
  split at hlist
  rotate_left
  · cases hlist
  rename_i a
  have hu : X.A.units + 1 < cLine := by have := C.hu; omega
  have st1 := star_cons (env := X.env) (es := []) (notStar hlist)
  have pl := pe_callTy (X := X) (p := rp) (pos := rpos) (call_list_dK C.calm) hg (C.blt (by decide)) (show bootBuiltins "list" = some (.type "list") by decide +kernel) (pa_cons (var_read C hlist) pa_nil st1) (by decide) (by decide) st1 rfl
  have pif := pe_ifExp (pos := p3) (pt_cmpR (pos := p2) op_eq (m_read C h5) (var_read C h7) (nomark _)) (var_read C h8) (m_read C h9)
  have put := ps_dput (pos := p4) (pos' := p1) hu (var_read C h3) (var_read C h4) pif rfl
  refine (ps_for po C.calm (pi_list pl) (pgn_read C h1) (pss_one put)).imp fun D σ H' ⟨H, w, o, u, d, kvs, lo, hi, sg, e7, e8, nd, hl, q⟩ => ?_
  refine ⟨_, sg.s3, d, _, rfl, sg.at_, fun l hl' => ⟨l, rfl, ⟨_, SqL.of upd_same⟩, ?_⟩⟩
  have lk : ((encM kvs).map fun kv => kV kv.1) = (kvs.map (·.1)).map V.int := by unfold encM; rw [List.map_map, List.map_map]; rfl
  rw [lk]
  have dl : d ≠ l := ne_of_none sg.at_ hl'
  refine for_list (xs := (kvs.map (·.1)).map V.int) (fun i σ2 H2 => Sg H w o u d ((kvs.take i).map (joinM lo hi) ++ kvs.drop i) σ2 H2 ∧ H2 l = some (.lst ((kvs.map (·.1)).map V.int)) ∧ σ2[7]? = some (some (.int lo)) ∧ σ2[8]? = some (some (.int hi))) ⟨sg.new hl' _, upd_same, e7, e8⟩ (fun i σ2 H2 hi' ⟨_, z, _⟩ => SqL.of z) (fun i x σ2 H2 hx ⟨sg2, z, f7, f8⟩ => ?_) (fun σ2 H2 ⟨sg2, _⟩ => q σ2 H2 ?_)
  · have hi2 : i < kvs.length := by
      have := List.getElem?_eq_some_iff.mp hx; obtain ⟨h, _⟩ := this; simpa using h
    have ek : kvs[i]? = some kvs[i] := List.getElem?_eq_getElem hi2
    have ex : x = .int kvs[i].1 := by
      rw [List.getElem?_map, List.getElem?_map, ek] at hx
      exact (Option.some.inj hx).symm
    subst ex
    have sp : kvs = kvs.take i ++ kvs[i] :: kvs.drop (i + 1) := by rw [← List.drop_eq_getElem_cons hi2, List.take_append_drop]
    have ndk : (kvs.take i).map (·.1) ++ kvs[i].1 :: (kvs.drop (i + 1)).map (·.1) = kvs.map (·.1) := by
      conv => rhs; rw [sp]
      rw [List.map_append, List.map_cons]
    have nd' := nd
    rw [← ndk] at nd'
    have n1 : kvs[i].1 ∉ (kvs.take i).map (·.1) := fun z => by
      rw [List.nodup_append] at nd'
      exact nd'.2.2 _ z _ List.mem_cons_self rfl
    have n2 : kvs[i].1 ∉ (kvs.drop (i + 1)).map (·.1) := by
      rw [List.nodup_append] at nd'
      exact (List.nodup_cons.mp nd'.2.1).1
    have n1' : kvs[i].1 ∉ ((kvs.take i).map (joinM lo hi)).map (·.1) := by rw [joinM_keys]; exact n1
    have sd : kvs.drop i = (kvs[i].1, kvs[i].2) :: kvs.drop (i + 1) := List.drop_eq_getElem_cons hi2
    rw [sd] at sg2
    have sg3 := sg2.set (i := 4) (by omega) (some (.int kvs[i].1))
    have e4 : (σ2.set 4 (some (.int kvs[i].1)))[4]? = some (some (.int kvs[i].1)) := List.getElem?_set_self (by rw [sg2.len]; omega)
    have g7 : (σ2.set 4 (some (.int kvs[i].1)))[7]? = some (some (.int lo)) := by rw [List.getElem?_set_ne (by decide)]; exact f7
    have g8 : (σ2.set 4 (some (.int kvs[i].1)))[8]? = some (some (.int hi)) := by rw [List.getElem?_set_ne (by decide)]; exact f8
    have dg := DGet.of sg3.at_ (lkM_at (l2 := kvs.drop (i + 1)) (v := kvs[i].2) n1')
    have hlen : (encM ((kvs.take i).map (joinM lo hi) ++ (kvs[i].1, kvs[i].2) :: kvs.drop (i + 1))).length < sizeLine := by
      rw [encM_len, sizeLine_eq]
      simp only [List.length_append, List.length_map, List.length_take, List.length_cons, List.length_drop]
      omega
    have fin : ∀ v : Int, v = (joinM lo hi kvs[i]).2 → sDPut (tVar 3) (tVar 4) (fun σ H Q => Q (.int v) H) { D with nx := fun σ2 H2 => Sg H w o u d ((kvs.take (i + 1)).map (joinM lo hi) ++ kvs.drop (i + 1)) σ2 H2 ∧ H2 l = some (.lst ((kvs.map (·.1)).map V.int)) ∧ σ2[7]? = some (some (.int lo)) ∧ σ2[8]? = some (some (.int hi)), ct := fun σ2 H2 => Sg H w o u d ((kvs.take (i + 1)).map (joinM lo hi) ++ kvs.drop (i + 1)) σ2 H2 ∧ H2 l = some (.lst ((kvs.map (·.1)).map V.int)) ∧ σ2[7]? = some (some (.int lo)) ∧ σ2[8]? = some (some (.int hi)), bk := D.nx } (σ2.set 4 (some (.int kvs[i].1))) H2 := fun v ev => by
      refine ⟨_, sg3.s3, _, e4, d, _, rfl, DPut.k (k := Sum.inl kvs[i].1) sg3.at_ hlen, ?_, by rw [upd_ne (Ne.symm dl)]; exact z, g7, g8⟩
      rw [putK_at n1' n2]
      have et : (kvs.take (i + 1)).map (joinM lo hi) ++ kvs.drop (i + 1) = (kvs.take i).map (joinM lo hi) ++ (kvs[i].1, v) :: kvs.drop (i + 1) := by
        rw [List.take_succ, ek, List.map_append, List.append_assoc]
        congr 1
        rw [ev]; rfl
      rw [et]
      exact sg3.put _
    refine ⟨_, sg3.s3, _, e4, d, _, rfl, dg, _, g8, rfl, _, rfl, ?_⟩
    by_cases hm : kvs[i].2 = hi
    · have hd : decide ((V.int kvs[i].2 : V) = V.int hi) = true := by rw [hm]; simp
      rw [hd]
      exact iteT ⟨_, g7, fin lo (by unfold joinM; rw [if_pos hm])⟩
    · have hd : decide ((V.int kvs[i].2 : V) = V.int hi) = false := by simp [hm]
      rw [hd]
      exact iteF ⟨_, sg3.s3, _, e4, d, _, rfl, dg, fin kvs[i].2 (by unfold joinM; rw [if_neg hm])⟩
  · rw [List.length_map, List.length_map, List.take_length, List.drop_length, List.append_nil] at sg2
    exact sg2
theorem mm_read (C : Cok T pcN Γ A k X b W) {nm : Str} {e : Expr} {f : String} {r : List V → Hp → VK → Prop} (h : chkMM T b nm e = true) (hf : CallR X (.builtin f) r) (hm : X.mg nm = none) (hb : bootBuiltins nm = some (.builtin f)) (n1 : nm ≠ ("__name__" : Str)) (n2 : (nm == ("__debug__" : Str)) = false) :
    PE X e (tCB r (tCons (tDGet (tVar 3) (tVar 5)) (tCons (tDGet (tVar 3) (tVar 6)) tNil))) := by
  obtain ⟨p, as, pos, rfl, hg, h2⟩ := cl_read C h
  split at h2
  rotate_left
  · cases h2
  rename_i x y
  simp only [Bool.and_eq_true] at h2
  have ns : ∀ {i : Nat} {e : Expr}, chkM T b i e = true → ∀ (es : List Expr), starEach (e :: es) X.env = (false, eval e X.env) :: starEach es X.env := fun {i e} h es => by
    cases e <;> first | rfl | (exact (Bool.false_ne_true h).elim)
  exact pe_callB hf hg hm hb (pa_cons (m_read C h2.1) (pa_cons (m_read C h2.2) pa_nil (ns h2.2 _)) (ns h2.1 _)) n1 n2 (ns h2.1 _) (by rw [ns h2.2]; rfl)
theorem isLoc_ok {sc : Scope} {x : Str} (h : isLoc sc x = true) : sc.names.lookup x = some .local := by
  unfold isLoc at h
  split at h
  · assumption
  · cases h
theorem p4_ok (C : Cok T pcN Γ A k X b W) (fk : b.sc.kind = .function) {st : Stmt} (h : chkP4 T b st = true) :
    PS X st (fun D σ H' => ∃ H w o u d kvs a c x y, Sg H w o u d kvs σ H' ∧ σ[5]? = some (some (.int a)) ∧ σ[6]? = some (some (.int c)) ∧ lkM kvs a = some x ∧ lkM kvs c = some y ∧ D.nx ((σ.set 7 (some (.int (if y < x then y else x)))).set 8 (some (.int (if x < y then y else x)))) H') := by
  unfold chkP4 at h
  split at h
  rotate_left
  · cases h
  rename_i l lp hh hp k1 p1 x y k2 p2 p3
  simp only [Bool.and_eq_true, decide_eq_true_eq] at h
  obtain ⟨⟨⟨⟨⟨⟨⟨rfl, rfl⟩, h3⟩, h4⟩, h5⟩, h6⟩, h7⟩, h8⟩ := h
  have hk : X.env.scope.kind = .function := by rw [C.sc]; exact fk
  have ns : ∀ {nm : Str} {e : Expr}, chkMM T b nm e = true → ∀ x p, e ≠ .Starred x p := fun {nm e} h x p z => by subst z; exact (Bool.false_ne_true h).elim
  have sx := star_cons (env := X.env) (es := [y]) (ns h7)
  have sy := star_cons (env := X.env) (es := []) (ns h8)
  have pmin := mm_read C h7 (call_min2 (X := X) C.calm) (C.blt (by decide)) (by decide +kernel) (by decide) (by decide)
  have pmax := mm_read C h8 (call_max2 (X := X) C.calm) (C.blt (by decide)) (by decide +kernel) (by decide) (by decide)
  have sw := sw_par (tp := p1) (tp' := p2) (kk := k1) (kk' := k2) hk (ns h7) (ns h8) (by rw [C.sc]; exact h5)
  rw [if_pos (by rw [C.sc, h3, h4, h6]; rfl)] at sw
  refine (ps_par (i := 7) (j := 8) C.calm (by rw [C.hN]; exact C.nd) (by rw [C.hN]; rfl) (by rw [C.hN]; rfl) (by decide) (by rw [C.sc]; exact isLoc_ok h3) (by rw [C.sc]; exact isLoc_ok h4) (pa_cons pmin (pa_cons pmax pa_nil sy) sx) sw rfl).imp fun D σ H' ⟨H, w, o, u, d, kvs, a, c, xx, yy, sg, e5, e6, la, lc, q⟩ => ?_
  have da := DGet.of sg.at_ la
  have dc := DGet.of sg.at_ lc
  refine ⟨_, sg.s3, _, e5, d, _, rfl, da, _, sg.s3, _, e6, d, _, rfl, dc, _, _, rfl, _, sg.s3, _, e5, d, _, rfl, da, _, sg.s3, _, e6, d, _, rfl, dc, _, _, rfl, _, _, rfl, q⟩
theorem stepM_len (kvs : List (Int × Int)) (t : Int × Int) : (stepM kvs t).length = kvs.length := keys_len (stepM_keys kvs t)
theorem fold_keys (kvs : List (Int × Int)) (ts : List (Int × Int)) : (ts.foldl stepM kvs).map (·.1) = kvs.map (·.1) := by
  induction ts generalizing kvs with
  | nil => rfl
  | cons t ts ih => rw [List.foldl_cons, ih, stepM_keys]
theorem p3_ok (C : Cok T pcN Γ A k X b W) (fk : b.sc.kind = .function) (po : PassesOwn (model X.prog X.w) X.A X.env X.xe) {st : Stmt} (h : chkP3 T b st = true) :
    PS X st (fun D σ H' => ∃ H w o u d n ts os us kvs, PcIn H w o u n ts os us ∧ Sg H w o u d kvs σ H' ∧ (kvs.map (·.1)).Nodup ∧ kvs.length ≤ 60 ∧ ∀ σ2 H2, Sg H w o u d (ts.foldl stepM kvs) σ2 H2 → D.nx σ2 H2) := by
  unfold chkP3 at h
  split at h
  rotate_left
  · cases h
  rename_i tg it c s4 s5 p1 p2
  simp only [Bool.and_eq_true] at h
  obtain ⟨⟨⟨⟨h1, h2⟩, h3⟩, h4⟩, h5⟩ := h
  obtain ⟨we, ie, wp, rfl, pw, pi, px⟩ := ws_read C h2
  obtain ⟨e1, e2, kk, tp, rfl, g1, g2⟩ : ∃ e1 e2 kk tp, tg = .Tuple [e1, e2] kk tp ∧ chkT pcN b (.nm 5) e1 = true ∧ chkT pcN b (.nm 6) e2 = true := by
    cases tg <;> first | (exact (Bool.false_ne_true h1).elim) | skip
    rename_i es kk tp
    cases es with
    | nil => exact (Bool.false_ne_true h1).elim
    | cons e1 es =>
      cases es with
      | nil =>
        replace h1 : (chkT pcN b (.nm 5) e1 && false) = true := h1
        rw [Bool.and_false] at h1; cases h1
      | cons e2 es =>
        cases es with
        | cons _ _ =>
          replace h1 : (chkT pcN b (.nm 5) e1 && (chkT pcN b (.nm 6) e2 && false)) = true := h1
          rw [Bool.and_false, Bool.and_false] at h1; cases h1
        | nil =>
          replace h1 : (chkT pcN b (.nm 5) e1 && (chkT pcN b (.nm 6) e2 && true)) = true := h1
          simp only [Bool.and_eq_true] at h1
          exact ⟨e1, e2, kk, tp, rfl, h1.1, h1.2.1⟩
  have pc := a2_read (X := X) h3 (fun e => c2_in C) (fun e => c2_in C)
  have pgT : PG X (.Tuple [e1, e2] kk tp) _ := pg_tup C.calm (pgs_cons (pgn_read C g1) (pgs_cons (pgn_read C g2) pgs_nil (by obtain ⟨x, p, rfl, _⟩ := nm_read g2; rfl)) (by obtain ⟨x, p, rfl, _⟩ := nm_read g1; rfl)) (by obtain ⟨x, p, rfl, _⟩ := nm_read g1; obtain ⟨x, p, rfl, _⟩ := nm_read g2; rfl) (n := 2) (by obtain ⟨x, p, rfl, _⟩ := nm_read g1; obtain ⟨x, p, rfl, _⟩ := nm_read g2; rfl)
  refine (ps_for po C.calm (pi_list (pe_ix ix_tup pw pi px)) pgT (pss_one (ps_if pc (pss_cons (p4_ok C fk h4) (pss_one (p5_ok C po h5))) pss_nil))).imp fun D σ H' ⟨H, w, o, u, d, n, ts, os, us, kvs, hin, sg, nd, hl, q⟩ => ?_
  obtain ⟨tl, va, hw, ht, lv, hva⟩ := hin.web
  refine ⟨_, sg.s0, w, _, _, _, rfl, rfl, SqT.of (sg.same _ _ hw), rfl, tl, rfl, ⟨_, SqL.of (sg.same _ _ ht)⟩, ?_⟩
  refine for_list (xs := va) (fun i σ2 H2 => Sg H w o u d ((ts.take i).foldl stepM kvs) σ2 H2) sg (fun i σ2 H2 _ sg2 => SqL.of (sg2.same _ _ ht)) (fun i x σ2 H2 hx sg2 => ?_) (fun σ2 H2 sg2 => q σ2 H2 ?_)
  · have hi : i < ts.length := by
      have := List.getElem?_eq_some_iff.mp hx; obtain ⟨h, _⟩ := this; omega
    have et : ts[i]? = some ts[i] := List.getElem?_eq_getElem hi
    obtain ⟨a, ea, ha⟩ := hva i _ et
    rw [ea] at hx
    injection hx with hx
    subst hx
    have stp : (ts.take (i + 1)).foldl stepM kvs = stepM ((ts.take i).foldl stepM kvs) ts[i] := by rw [List.take_succ, et, List.foldl_append]; rfl
    generalize hk : (ts.take i).foldl stepM kvs = ks at sg2 stp
    have ndk : (ks.map (·.1)).Nodup := by rw [← hk, fold_keys]; exact nd
    have lk : ks.length ≤ 60 := by rw [← hk, keys_len (fold_keys kvs _)]; exact hl
    refine ⟨a, _, rfl, SqT.of (sg2.same _ _ ha), rfl, _, _, rfl, _, _, rfl, rfl, ?_⟩
    have sg3 := (sg2.set (i := 5) (by omega) (some (.int ts[i].1))).set (i := 6) (by omega) (some (.int ts[i].2))
    have e5 : ((σ2.set 5 (some (.int ts[i].1))).set 6 (some (.int ts[i].2)))[5]? = some (some (.int ts[i].1)) := by rw [List.getElem?_set_ne (by decide), List.getElem?_set_self (by rw [sg2.len]; omega)]
    have e6 : ((σ2.set 5 (some (.int ts[i].1))).set 6 (some (.int ts[i].2)))[6]? = some (some (.int ts[i].2)) := List.getElem?_set_self (by rw [List.length_set, sg2.len]; omega)
    have d1 := DGet.k (k := Sum.inl ts[i].1) sg3.at_
    have d2 := DGet.k (k := Sum.inl ts[i].2) sg3.at_
    rw [valV_enc] at d1 d2
    have same : stepM ks ts[i] = ks → Sg H w o u d ((ts.take (i + 1)).foldl stepM kvs) ((σ2.set 5 (some (.int ts[i].1))).set 6 (some (.int ts[i].2))) H2 := fun e => by rw [stp, e]; exact sg3
    refine ⟨_, e5, _, sg3.s3, d, _, rfl, d1, _, rfl, ?_⟩
    cases l1 : lkM ks ts[i].1 with
    | none => exact iteF (iteF (same (by unfold stepM; rw [l1])))
    | some x =>
      refine iteT ⟨_, e6, _, sg3.s3, d, _, rfl, d2, _, rfl, ?_⟩
      cases l2 : lkM ks ts[i].2 with
      | none => exact iteF (same (by unfold stepM; rw [l1, l2]))
      | some y =>
        refine iteT ⟨H, w, o, u, d, ks, _, _, x, y, sg3, e5, e6, l1, l2, H, w, o, u, d, ks, (if y < x then y else x), (if x < y then y else x), (sg3.set (i := 7) (by omega) _).set (i := 8) (by omega) _, ?_, ?_, ndk, lk, fun σ5 H5 sg5 => ?_⟩
        · rw [List.getElem?_set_ne (by decide), List.getElem?_set_self (by rw [sg3.len]; omega)]
        · rw [List.getElem?_set_self (by rw [List.length_set, sg3.len]; omega)]
        · show Sg H w o u d ((ts.take (i + 1)).foldl stepM kvs) σ5 H5
          rw [stp]
          unfold stepM
          rw [l1, l2]
          exact sg5
  · rw [lv, List.take_length] at sg2
    exact sg2
/-- lists of numbers, new since H -/
def RefL (H H' : Hp) (p : Addr) (vs : List V) (gs : List (List Int)) : Prop := vs.length = gs.length ∧ ∀ (i : Nat) (v : V) (g : List Int), vs[i]? = some v → gs[i]? = some g → ∃ a, v = .ref a ∧ H a = none ∧ a ≠ p ∧ H' a = some (.lst (g.map V.int))
def groupM (kvs : List (Int × Int)) (m : Int) : List Int := (kvs.filter fun p => decide (p.2 = m)).map (·.1)
theorem group_take (kvs : List (Int × Int)) (m : Int) (i : Nat) (hi : i < kvs.length) : groupM (kvs.take (i + 1)) m = groupM (kvs.take i) m ++ if kvs[i].2 = m then [kvs[i].1] else [] := by
  unfold groupM
  rw [List.take_succ, List.getElem?_eq_getElem hi, List.filter_append, List.map_append]
  congr 1
  by_cases h : kvs[i].2 = m
  · simp [h]
  · simp [h]
def tIn : TE := fun σ Hb Q => ∃ dd kvs mm, σ.length = 10 ∧ σ[3]? = some (some (.ref dd)) ∧ σ[9]? = some (some (.int mm)) ∧ Hb dd = some (.dK (encM kvs)) ∧ kvs.length ≤ 60 ∧ (kvs.map (·.1)).Nodup ∧
      ∀ q H2, Hb q = none → (∀ a y, Hb a = some y → H2 a = some y) → H2 q = some (.lst ((groupM kvs mm).map V.int)) → Q (.ref q) H2
theorem inner_ok (C : Cok T pcN Γ A k X b W) {x tg d m key : Expr} {o : CmpOp} {sc : Scope} {p1 p2 : Pos} (h1 : chkT pcN (blkOf b sc) (.nm 4) tg = true) (h2 : blkC pcN b.sc sc (ownP pcN [4]) = true) (h3 : chk T pcN b (.var 3) d = true) (h4 : chkM T (blkOf b sc) 4 m = true)
    (ho : o = .Eq) (h5 : chk T pcN (blkOf b sc) (.var 9) key = true) (h6 : chk T pcN (blkOf b sc) (.var 4) x = true) :
    PE X (.ListComp x [⟨tg, d, [.Compare m [o] [key] p1], 0⟩] sc p2) tIn := by
  subst ho
  refine (pe_lock (pe_lc (own := ownP pcN [4]) (g := gName 4) (tt := tTest (tOp rEq (tDGet (tVar 3) (tVar 4)) (tVar 9))) (te := tVar 4) C.calm (by rw [C.hN]; exact C.nd) (pi_keys (var_read C h3)) (blkOk_by (by rw [C.hN, C.sc]; exact h2))
    (fun s H Cc cl fp => pgn_read (C.blk s H sc Cc cl fp) h1) (fun s H Cc cl fp => pts_one (pt_cmpR op_eq (m_read (C.blk s H sc Cc cl fp) h4) (var_read (C.blk s H sc Cc cl fp) h5) (nomark _))) (fun s H Cc cl fp => var_read (C.blk s H sc Cc cl fp) h6) (by obtain ⟨y, q, rfl, _⟩ := chk_var h3; intro _; rfl))).imp fun σ Hb Q ⟨dd, kvs, mm, ln, e3, e9, hd, hl, nd, q⟩ => ?_
  refine ⟨dd, _, hd, trivial, fun od => ⟨_, e3, dd, od, rfl, .inl ⟨encM kvs, upd_same, fun D2 nD => ?_⟩⟩⟩
  have nd2 : dd ≠ D2 := fun z => by subst z; rw [upd_same] at nD; cases nD
  have nD' : Hb D2 = none := by rw [upd_ne (Ne.symm nd2)] at nD; exact nD
  have lk : (encM kvs).length = kvs.length := encM_len kvs
  refine lc_it (walk_keys (kvs := encM kvs)) (fun i H2 => H2 dd = some (.frz od (.dK (encM kvs))) ∧ (∀ a y, a ≠ dd → Hb a = some y → H2 a = some y) ∧ H2 D2 = some (.lst ((groupM (kvs.take i) mm).map V.int))) ⟨?_, fun a y ha e => ?_, ?_⟩ (fun i H2 hi ⟨z, _⟩ => z) (fun i v H2 H3 hi ⟨z1, z2, z3⟩ y => ?_) (fun H2 ⟨z1, z2, z3⟩ => ?_)
  · rw [upd_ne nd2, upd_same]
  · rw [upd_ne (ne_of_none e nD'), upd_ne ha]; exact e
  · rw [upd_same]; rfl
  · obtain ⟨rfl, kk, vv, ek, rfl⟩ := y
    rw [lk] at hi
    have ek2 : kvs[i]? = some kvs[i] := List.getElem?_eq_getElem hi
    unfold encM at ek
    rw [List.getElem?_map, ek2] at ek
    simp only [Option.map_some, Option.some.injEq, Prod.mk.injEq] at ek
    obtain ⟨rfl, rfl⟩ := ek
    show wipe ((wipe σ [4]).set 4 (some (.int kvs[i].1))) [4] = wipe σ [4] ∧ _
    refine ⟨by show ((σ.set 4 none).set 4 _).set 4 none = σ.set 4 none; rw [List.set_set, List.set_set], ?_⟩
    have f3 : ((wipe σ [4]).set 4 (some (.int kvs[i].1)))[3]? = some (some (.ref dd)) := by rw [List.getElem?_set_ne (by decide)]; show (σ.set 4 none)[3]? = _; rw [List.getElem?_set_ne (by decide)]; exact e3
    have f9 : ((wipe σ [4]).set 4 (some (.int kvs[i].1)))[9]? = some (some (.int mm)) := by rw [List.getElem?_set_ne (by decide)]; show (σ.set 4 none)[9]? = _; rw [List.getElem?_set_ne (by decide)]; exact e9
    have f4 : ((wipe σ [4]).set 4 (some (.int kvs[i].1)))[4]? = some (some (.int kvs[i].1)) := List.getElem?_set_self (by rw [wipe_length, ln]; decide)
    have dg : DGet H3 dd (.int kvs[i].1) (some (.int kvs[i].2)) := by
      have hlk : lkM kvs kvs[i].1 = some kvs[i].2 := by
        have sp : kvs = kvs.take i ++ (kvs[i].1, kvs[i].2) :: kvs.drop (i + 1) := by
          have := List.drop_eq_getElem_cons hi
          rw [← this, List.take_append_drop]
        have n1 : kvs[i].1 ∉ (kvs.take i).map (·.1) := fun z => by
          have nd' := nd
          rw [sp, List.map_append, List.nodup_append] at nd'
          exact nd'.2.2 _ z _ (by simp) rfl
        have := lkM_at (l2 := kvs.drop (i + 1)) (v := kvs[i].2) n1
        rw [← sp] at this
        exact this
      refine .inl ⟨encM kvs, Sum.inl kvs[i].1, .inr ⟨od, z1⟩, rfl, ?_⟩
      rw [valV_enc, hlk]; rfl
    refine ⟨_, f3, _, f4, dd, _, rfl, dg, _, f9, rfl, _, rfl, ?_⟩
    have gt := group_take kvs mm i hi
    by_cases hm : kvs[i].2 = mm
    · have hdd : decide ((V.int kvs[i].2 : V) = V.int mm) = true := by rw [hm]; simp
      rw [hdd]
      rw [if_pos hm] at gt
      refine iteT ⟨_, f4, _, z3, ?_, ?_⟩
      · rw [List.length_map, sizeLine_eq]
        have : (groupM (kvs.take i) mm).length ≤ kvs.length := by
          unfold groupM
          rw [List.length_map]
          exact Nat.le_trans (List.length_filter_le _ _) (by rw [List.length_take]; omega)
        omega
      · refine ⟨by rw [upd_ne nd2]; exact z1, fun a y ha e => by rw [upd_ne (ne_of_none e nD')]; exact z2 a y ha e, ?_⟩
        rw [upd_same, gt, List.map_append]; rfl
    · have hdd : decide ((V.int kvs[i].2 : V) = V.int mm) = false := by simp [hm]
      rw [hdd]
      rw [if_neg hm, List.append_nil] at gt
      exact iteF ⟨z1, z2, by rw [gt]; exact z3⟩
  · rw [lk, List.take_length] at z3
    refine ⟨z1, q D2 _ nD' (fun a y e => ?_) (by rw [upd_ne (Ne.symm nd2)]; exact z3)⟩
    by_cases ha : a = dd
    · subst ha; rw [hd] at e; rw [upd_same]; exact e
    · rw [upd_ne ha]; exact z2 a y ha e
theorem listVals_mono {te : TE} (h : ∀ σ H (Q Q' : VK), te σ H Q → (∀ v H', Q v H' → Q' v H') → te σ H Q') : ∀ σ H (Q Q' : VK), tListVals te σ H Q → (∀ v H', Q v H' → Q' v H') → tListVals te σ H Q' := fun σ H Q Q' q k =>
  h σ H _ _ q fun x H1 ⟨d, kvs, e, hd, q⟩ => ⟨d, kvs, e, hd, fun p np => k _ _ (q p np)⟩
theorem p6_ok (C : Cok T pcN Γ A k X b W) {st : Stmt} (h : chkP6 T b st = true) :
    PS X st (fun D σ H' => ∃ H w o u d kvs, Sg H w o u d kvs σ H' ∧ kvs.length ≤ 59 ∧ (kvs.map (·.1)).Nodup ∧ ∀ p vs H2, Same H H2 → H p = none → H2 p = some (.lst vs) → RefL H H2 p vs ((sortI (kvs.map (·.2))).map (groupM kvs)) → D.rt (.ref p) H2) := by
  unfold chkP6 at h
  split at h
  rotate_left
  · cases h
  rename_i x tg2 d m o key p1 s2 p2 tg1 it s1 p3 p4
  simp only [Bool.and_eq_true, decide_eq_true_eq] at h
  obtain ⟨⟨⟨⟨⟨⟨⟨⟨⟨h1, h2⟩, h3⟩, h4⟩, h5⟩, h6⟩, h7⟩, h8⟩, h9⟩, h10⟩ := h
  obtain ⟨sp, as, spos, rfl, hg, h3⟩ := cl_read C h3
  split at h3
  rotate_left
  · cases h3
  obtain ⟨ep, as, epos, rfl, hg2, h3⟩ := cl_read C h3
  split at h3
  rotate_left
  · cases h3
  obtain ⟨lp, as, lpos, rfl, hg3, h3⟩ := cl_read C h3
  split at h3
  rotate_left
  · cases h3
  rename_i a
  unfold chkVs at h3
  split at h3
  rotate_left
  · cases h3
  rename_i dv mv ap cp hx1 hx2
  simp only [Bool.and_eq_true, decide_eq_true_eq] at h3
  obtain ⟨⟨rfl, h31⟩, h32⟩ := h3
  have pv := pe_listVals (X := X) (p := lp) (pos := lpos) (apos := ap) (cpos := cp) C.calm (var_read C h32) hg3 (C.blt (by decide)) (by decide +kernel) (by obtain ⟨y, q, rfl, _⟩ := chk_var h32; rfl) h31
  have psort := pe_sets (o := true) (p := sp) (p2 := ep) (pos2 := epos) (pos := spos) C.calm hg (C.blt (by decide)) (C.blt (by decide)) hg2 (C.blt (by decide)) pv rfl (listVals_mono fun σ H Q Q' ⟨v, e, q⟩ k => ⟨v, e, k _ _ q⟩)
  refine (ps_ret (pe_lc (own := ownP pcN [9]) (g := gName 9) (tt := tYes) C.calm (by rw [C.hN]; exact C.nd) (pi_list psort) (blkOk_by (by rw [C.hN, C.sc]; exact h2)) (fun s H Cc cl fp => pgn_read (C.blk s H s1 Cc cl fp) h1) (fun s H Cc cl fp => pts_nil)
    (fun s H Cc cl fp => inner_ok (C.blk s H s1 Cc cl fp) h4 h5 h6 h7 h8 h9 h10))).imp fun D σ H' ⟨H, w, o, u, dd, kvs, sg, hl, nd, q⟩ => ?_
  rw [own_map]
  refine ⟨_, sg.s3, dd, _, rfl, sg.at_, fun l nl => ⟨l, kvs.map (·.2), rfl, SqL.of (by rw [upd_same]; congr 2; unfold encM; rw [List.map_map, List.map_map]; rfl), by rw [List.length_map]; omega, ?_⟩⟩
  rw [if_pos rfl]
  intro sa p na psa np
  refine ⟨p, rfl, ⟨_, SqL.of upd_same⟩, fun D1 nD => ?_⟩
  have H2d : ∀ {a : Addr} {y : HO}, H' a = some y → upd (upd (upd H' l (.lst ((encM kvs).map (·.2)))) sa (SetO X.w sa (fun j => decide (j ∈ kvs.map (·.2))) (ddI (kvs.map (·.2))).length)) p (.lst ((sortI (kvs.map (·.2))).map V.int)) a = some y := fun {a y} e => by
    have e1 : upd H' l (.lst ((encM kvs).map (·.2))) a = some y := by rw [upd_ne (ne_of_none e nl)]; exact e
    have e2 : upd (upd H' l (.lst ((encM kvs).map (·.2)))) sa (SetO X.w sa (fun j => decide (j ∈ kvs.map (·.2))) (ddI (kvs.map (·.2))).length) a = some y := by rw [upd_ne (ne_of_none e1 na)]; exact e1
    rw [upd_ne (fun z => by subst z; rw [upd_ne psa] at e2; rw [np] at e2; cases e2)]; exact e2
  generalize hH : upd (upd (upd H' l (.lst ((encM kvs).map (·.2)))) sa (SetO X.w sa (fun j => decide (j ∈ kvs.map (·.2))) (ddI (kvs.map (·.2))).length)) p (.lst ((sortI (kvs.map (·.2))).map V.int)) = Hs at H2d nD
  have hp : Hs p = some (.lst ((sortI (kvs.map (·.2))).map V.int)) := by rw [← hH, upd_same]
  have nDH : H D1 = none := by
    cases e : H D1 with
    | none => rfl
    | some y => rw [H2d (sg.same _ _ e)] at nD; cases nD
  have ll : ((sortI (kvs.map (·.2))).map V.int).length = (sortI (kvs.map (·.2))).length := List.length_map _
  have slen : (sortI (kvs.map (·.2))).length ≤ kvs.length := by
    have h1 : (sortI (kvs.map (·.2))).length = (ddI (kvs.map (·.2))).length := List.length_mergeSort _
    have h2 := ddI_len (kvs.map (·.2))
    rw [List.length_map] at h2
    omega
  refine lc_list (K := X.K) (a := p) (g := gName 9) (tt := tYes) (te := tIn) (vs := [9]) (σ := σ) (D := D1) (H1 := Hs) (Qd := fun H2 => D.rt (.ref D1) H2) (xs := (sortI (kvs.map (·.2))).map V.int) (fun i H2 => (∀ a y, Hs a = some y → H2 a = some y) ∧ ∃ vs, H2 D1 = some (.lst vs) ∧ RefL H H2 D1 vs (((sortI (kvs.map (·.2))).take i).map (groupM kvs))) ⟨fun a y e => by rw [upd_ne (ne_of_none e nD)]; exact e, [], upd_same, rfl, fun i v g e => by simp at e⟩ (fun i H2 _ ⟨z, _⟩ => SqL.of (z _ _ hp)) (fun i v H2 hv ⟨z1, vs, z2, z3⟩ => ?_) (fun H2 ⟨z1, vs, z2, z3⟩ => ?_)
  · have hi : i < (sortI (kvs.map (·.2))).length := by
      have := List.getElem?_eq_some_iff.mp hv; obtain ⟨h, _⟩ := this; simpa using h
    have es : (sortI (kvs.map (·.2)))[i]? = some (sortI (kvs.map (·.2)))[i] := List.getElem?_eq_getElem hi
    rw [List.getElem?_map, es] at hv
    have hv := Option.some.inj hv
    subst hv
    generalize hmm : (sortI (kvs.map (·.2)))[i] = mm at es
    show wipe ((wipe σ [9]).set 9 (some (.int mm))) [9] = wipe σ [9] ∧ _
    refine ⟨by show ((σ.set 9 none).set 9 _).set 9 none = σ.set 9 none; rw [List.set_set, List.set_set], ?_⟩
    have f3 : ((wipe σ [9]).set 9 (some (.int mm)))[3]? = some (some (.ref dd)) := by rw [List.getElem?_set_ne (by decide)]; show (σ.set 9 none)[3]? = _; rw [List.getElem?_set_ne (by decide)]; exact sg.s3
    have f9 : ((wipe σ [9]).set 9 (some (.int mm)))[9]? = some (some (.int mm)) := List.getElem?_set_self (by rw [wipe_length, sg.len]; decide)
    simp only [tYes, if_true]
    refine ⟨dd, kvs, mm, by rw [List.length_set, wipe_length, sg.len], f3, f9, z1 _ _ (H2d sg.at_), by omega, nd, fun qa H4 nq k1 k2 => ?_⟩
    have nqH : H qa = none := by
      cases e : H qa with
      | none => rfl
      | some y => rw [z1 _ _ (H2d (sg.same _ _ e))] at nq; cases nq
    have nqD : qa ≠ D1 := fun z => by subst z; rw [z2] at nq; cases nq
    refine ⟨vs, k1 _ _ z2, ?_, fun a y e => by rw [upd_ne (ne_of_none e nD)]; exact k1 _ _ (z1 _ _ e), vs ++ [.ref qa], upd_same, ?_, fun j v g ev eg => ?_⟩
    · rw [z3.1, List.length_map, List.length_take, sizeLine_eq]; omega
    · rw [List.length_append, z3.1, List.take_succ, es]; simp
    · rw [List.take_succ, es, List.map_append] at eg
      rcases Nat.lt_or_ge j vs.length with hj | hj
      · rw [List.getElem?_append_left hj] at ev
        rw [List.getElem?_append_left (by rw [← z3.1]; exact hj)] at eg
        obtain ⟨a, e1, e2, e3, e4⟩ := z3.2 j v g ev eg
        exact ⟨a, e1, e2, e3, by rw [upd_ne e3]; exact k1 _ _ e4⟩
      · rw [List.getElem?_append_right hj] at ev
        rw [List.getElem?_append_right (by rw [← z3.1]; exact hj), ← z3.1] at eg
        have hj0 : j - vs.length = 0 := by
          have := List.getElem?_eq_some_iff.mp ev; obtain ⟨h, _⟩ := this; simpa using h
        rw [hj0] at ev eg
        simp at ev eg
        subst ev eg
        exact ⟨qa, rfl, nqH, nqD, by rw [upd_ne nqD]; exact k2⟩
  · rw [ll, List.take_length] at z3
    exact q D1 vs H2 (fun a y e => z1 _ _ (H2d (sg.same _ _ e))) nDH z2 z3
theorem pc_body (C : Cok T pcN Γ A k X b W) (fk : b.sc.kind = .function) (po : PassesOwn (model X.prog X.w) X.A X.env X.xe) {body : List Stmt} (h : chkPc T b body = true) :
    PSs X body (fun D σ H => ∃ w o u n ts os us, PcIn H w o u n ts os us ∧ σ = L2.start pcN [.ref w, .ref o, .ref u] ∧ ∀ p vs H2, Same H H2 → H p = none → H2 p = some (.lst vs) → RefL H H2 p vs (piecesI n ts os us) → D.rt (.ref p) H2) := by
  unfold chkPc at h
  split at h
  rotate_left
  · cases h
  rename_i a c d e
  simp only [Bool.and_eq_true] at h
  obtain ⟨⟨⟨h1, h2⟩, h3⟩, h4⟩ := h
  unfold chkP1 at h1
  split at h1
  rotate_left
  · cases h1
  rename_i m mp dp ap
  simp only [Bool.and_eq_true, decide_eq_true_eq] at h1
  obtain ⟨rfl, h1⟩ := h1
  obtain ⟨l1, l2⟩ := locB_ok C.sc C.fn h1
  refine (pss_cons (ps_set (i := 3) (by rw [C.hN]; exact C.nd) (by rw [C.hN]; rfl) l1 pe_dnewK rfl l2) (pss_cons (p2_ok C po h2) (pss_cons (p3_ok C fk po h3) (pss_one (p6_ok C h4))))).imp fun D σ H ⟨w, o, u, n, ts, os, us, hin, hs, q⟩ => ?_
  subst hs
  intro dd nd
  have sg : Sg H w o u dd [] ((L2.start pcN [.ref w, .ref o, .ref u]).set 3 (some (.ref dd))) (upd H dd (.dK [])) := ⟨rfl, rfl, rfl, rfl, rfl, fun a y e => by rw [upd_ne (ne_of_none e nd)]; exact e, nd, upd_same⟩
  refine ⟨H, w, o, u, dd, n, ts, os, us, hin, sg, fun σ2 H2 sg2 => ⟨H, w, o, u, dd, n, ts, os, us, _, hin, sg2, marks_nodup n os us, ?_, fun σ3 H3 sg3 => ⟨H, w, o, u, dd, _, sg3, ?_, ?_, fun p vs H4 s4 np e4 r4 => q p vs H4 s4 np e4 r4⟩⟩⟩
  · have := marks0_len n os us
    have := hin.small
    omega
  · rw [keys_len (fold_keys _ ts)]
    have := marks0_len n os us
    have := hin.small
    omega
  · rw [fold_keys]; exact marks_nodup n os us
end
/-- pairs of numbers -/
def pairsD : List D → Option (List (Int × Int))
  | [] => some []
  | .tup [.int a, .int b] :: r => (pairsD r).map ((a, b) :: ·)
  | _ :: _ => none
def Fpc : List D → R D
  | [.tup [.int n, .lst _ ts], .lst _ os, .lst _ us] => (match pairsD ts, intsD os, intsD us with
    | some ps, some o, some u => if 0 ≤ n ∧ n ≤ 50 then .ok (.lst true ((piecesI n ps o u).map fun g => .lst true (g.map .int))) else .bad
    | _, _, _ => .bad)
  | _ => .bad
theorem pairs_rp {cl : Nat → Addr} {H0 G : Hp} : ∀ {ds : List D} {vs : List V} {ps : List (Int × Int)}, RpA cl H0 G vs ds → pairsD ds = some ps → vs.length = ps.length ∧ ∀ (i : Nat) (t : Int × Int), ps[i]? = some t → ∃ a, vs[i]? = some (.ref a) ∧ G a = some (.tup [.int t.1, .int t.2])
  | [], _, ps, h, e => by cases h; simp [pairsD] at e; subst e; exact ⟨rfl, by simp⟩
  | d :: ds, _, ps, h, e => by
    cases h with
    | @cons v vs _ _ h1 h2 =>
      unfold pairsD at e
      split at e
      · cases ‹_ :: _ = []›
      · rename_i a b r he
        injection he with he1 he2
        subst he1; subst he2
        obtain ⟨ps', e1, e2⟩ := Option.map_eq_some_iff.mp e
        subst e2
        obtain ⟨l1, l2⟩ := pairs_rp h2 e1
        refine ⟨by simp [l1], fun i t ht => ?_⟩
        cases i with
        | zero =>
          simp at ht
          subst ht
          cases h1 with
          | tup k1 k2 =>
            cases k2 with
            | cons r1 k2 =>
              cases k2 with
              | cons r2 k2 =>
                cases k2
                cases r1; cases r2
                exact ⟨_, rfl, k1⟩
        | succ i => exact l2 i t (by simpa using ht)
      · cases e
theorem refL_rp {cl : Nat → Addr} {H H2 : Hp} {G : Hp} (hG : ∀ a y, H a = none → H2 a = some y → G a = some y) {p : Addr} : ∀ {vs : List V} {gs : List (List Int)}, RefL H H2 p vs gs → RpA cl H G vs (gs.map fun g => D.lst true (g.map .int))
  | [], [], _ => .nil
  | [], _ :: _, h => by have := h.1; simp at this
  | _ :: _, [], h => by have := h.1; simp at this
  | v :: vs, g :: gs, h => by
    obtain ⟨a, rfl, e1, e2, e3⟩ := h.2 0 v g rfl rfl
    refine .cons (.lst (hG a _ e1 e3) (fun _ => e1) (ints_rp g)) (refL_rp hG ⟨by simpa using h.1, fun i v g ev eg => h.2 (i + 1) v g (by simpa using ev) (by simpa using eg)⟩)
/-- the table of a def that calls none of ours -/
def T0 (T : Tb) : Tb := { T with pres := fun _ => false, glob := [], kpres := fun _ => false, cpres := fun _ => false, mpres := fun _ => false }
theorem row0 {T : Tb} {Γ : Nat → List D → R D} {A : Ad} {k : Nat} {P : Program} {w : World} {K : PySem.W.Frag} {mg : Str → Option Value} {base : Heap} (hblt : ∀ x ∈ bltNames, mg x = none) (hk : 2 ≤ k) : Row (T0 T) Γ A k P w K mg base :=
  ⟨fun _ h => (nomatch h), fun p h => (by simp [T0] at h), hblt, fun _ h => (nomatch h), fun _ h => (nomatch h), fun _ _ _ _ _ h => (nomatch h), hk⟩
theorem pieces_fn {T : Tb} {A : Ad} {k : Nat} {P : Program} {w : World} {K : PySem.W.Frag} {mg : Str → Option Value} {base : Heap} {x qual : Str} {st : Stmt} {f : Addr} {fd : FuncData} (hblt : ∀ x ∈ bltNames, mg x = none) (hk : 2 ≤ k)
    (F : Fun K x qual st f fd) (S : FnScope pcN ["web", "one", "other"] (defScope st)) (hc : chkPc (T0 T) ⟨defScope st, fun _ => true⟩ (defBody st) = true) : FnOk P w K mg base (L2N.CX P w) (k + 1) f fd ["web", "one", "other"] (spD A.cl A.xa Fpc) := by
  have dec : ∀ {ds : List D}, Fpc ds ≠ .bad → ∃ n f ts f' os f'' us ps o u, ds = [.tup [.int n, .lst f ts], .lst f' os, .lst f'' us] ∧ pairsD ts = some ps ∧ intsD os = some o ∧ intsD us = some u ∧ 0 ≤ n ∧ n ≤ 50 ∧ Fpc ds = .ok (.lst true ((piecesI n ps o u).map fun g => .lst true (g.map .int))) := fun {ds} h => by
    unfold Fpc at h
    split at h
    · rename_i n f ts f' os f'' us
      split at h
      · rename_i ps o u h1 h2 h3
        split at h
        · rename_i hn
          refine ⟨n, f, ts, f', os, f'', us, ps, o, u, rfl, h1, h2, h3, hn.1, hn.2, ?_⟩
          unfold Fpc
          simp only [h1, h2, h3, hn, and_self, if_true]
        · exact absurd rfl h
      · exact absurd rfl h
    · exact absurd rfl h
  refine fun_okN (k := k) F S (fun vs H Q E h => ?_) (fun cdv Ar outer sh H vs Q E hr h => ?_)
  · obtain ⟨G, ds, s, r, q⟩ := h
    obtain ⟨n, f, ts, f', os, f'', us, ps, o, u, e, _⟩ := dec (ds := olds ds) (fun e => by rw [e] at q; exact q)
    rw [r.length, e]; rfl
  · obtain ⟨G, ds, s, r, q⟩ := h
    obtain ⟨n, f1, ts, f2, os, f3, us, ps, oo, uu, e, h1, h2, h3, h4, h5, e6⟩ := dec (ds := olds ds) (fun e => by rw [e] at q; exact q)
    rw [e6] at q
    rw [e] at r
    have C : Cok (T0 T) pcN (fun _ _ => .bad) A k (cxOf (L2N.CX P w) P w K mg base pcN qual (defScope st) f cdv Ar outer sh H E) ⟨defScope st, fun _ => true⟩ (WXE E) :=
      ⟨rfl, S.nd, rfl, rfl, fun _ _ => rfl, hr, L2N.takes_of rfl rfl rfl rfl, row0 hblt hk⟩
    refine ⟨_, pc_body C S.kind (passes_of rfl) hc, ?_⟩
    cases r with
    | cons r1 r =>
      cases r with
      | cons r2 r =>
        cases r with
        | cons r3 r =>
          cases r
          cases r1 with
          | @tup wa xs _ k1 k2 =>
            cases k2 with
            | cons m1 k2 =>
              cases k2 with
              | cons m2 k2 =>
                cases k2
                cases m1
                cases m2 with
                | @lst tl va _ _ t1 _ t2 =>
                  cases r2 with
                  | @lst oa ox _ _ o1 _ o2 =>
                    cases r3 with
                    | @lst ua ux _ _ u1 _ u2 =>
                      obtain ⟨pl, pv⟩ := pairs_rp t2 h1
                      have eo := o2.ints h2
                      have eu := u2.ints h3
                      subst eo eu
                      refine ⟨wa, oa, ua, n, ps, oo, uu, ⟨⟨tl, va, s _ _ k1, s _ _ t1, pl, fun i t ht => ?_⟩, s _ _ o1, s _ _ u1, h4, h5⟩, rfl, fun p vs H2 s2 np e2 r2 => ?_⟩
                      · obtain ⟨a, e1, e2⟩ := pv i t ht
                        exact ⟨a, e1, s _ _ e2⟩
                      · have gn : ∀ {a}, H a = none → G a = none := fun {a} ha => s.free ha
                        refine q (.ref p) (fun a => if H a = none then H2 a else G a) H2 ⟨s2, fun a y e => ?_, fun a y e => ?_, fun a ha => if_neg ha⟩ (.lst (by show (if H p = none then H2 p else G p) = _; rw [if_pos np]; exact e2) (fun _ => np) (refL_rp (fun a y h1 h2 => by show (if H a = none then H2 a else G a) = _; rw [if_pos h1]; exact h2) r2))
                        · show (if H a = none then H2 a else G a) = _
                          rw [if_neg (by rw [s _ _ e]; simp)]; exact e
                        · have e : (if H a = none then H2 a else G a) = some y := e
                          by_cases ha : H a = none
                          · rw [if_pos ha] at e; exact e
                          · rw [if_neg ha] at e; exact s2 _ _ (s _ _ e)
end Wt
/-! ## Defs keep their promises -/
namespace Wt
open PySem PySem.Spec PyProof.Rows L2

/-- a def, as we read it -/
structure Fd where
  ps : List Str
  N : List Str
  body : S
  /-- walked by hand: the def of the pieces -/
  nt : Bool
/-- what the defs of a table mean, calls at most n deep -/
def mean (tab : Nat → Option Fd) : Nat → Nat → List D → R D
  | 0, _, _ => .bad
  | n + 1, f, args => (match tab f with
    | some d => if d.nt = true then Fpc args else if args.length = d.ps.length then runB (mean tab n) d.N.length d.body args else .bad
    | none => .bad)
/-- the text is what we read -/
def okB (T : Tb) (U : Tx) (d : Fd) (st : Stmt) : Bool :=
  if d.nt = true then decide (d.N = pcN) && decide (d.ps = (["web", "one", "other"] : List Str)) && chkPc (T0 T) ⟨defScope st, fun _ => true⟩ (defBody st)
  else chkSs T U d.N ⟨defScope st, fun _ => true⟩ d.body (defBody st)
/-- what the top gives of a def -/
structure DefAt (T : Tb) (U : Tx) (A : Ad) (K : PySem.W.Frag) (mg : Str → Option Value) (f : Nat) (d : Fd) : Prop where
  at_ : ∃ qual st, Fun K (T.fname f) qual st (A.fa f) (A.fd f) ∧ FnScope d.N d.ps (defScope st) ∧ okB T U d st = true
  ps : A.ps f = d.ps
  binds : Binds K (A.fd f) d.ps []
  mg : T.pres f = true → mg (T.fname f) = some (.ref (A.fa f))

theorem rep_start {cl : Nat → Addr} {H G : Hp} {vs : List V} {ds : List D} (s : Same G H) (r : RpA cl H G vs ds) (N : List Str) :
    Rep cl H (ds.map Sl.val ++ List.replicate (N.length - ds.length) .no) (L2.start N vs) G H := by
  have hl := r.length
  refine ⟨by unfold L2.start; simp [hl], s, Same.refl _, fun i sl e => ?_, fun i j ds' es a e => ?_⟩
  · unfold L2.start
    rcases Nat.lt_or_ge i ds.length with h | h
    · rw [List.getElem?_append_left (by simpa using h), List.getElem?_map] at e
      rw [List.getElem?_append_left (by simpa [hl] using h), List.getElem?_map]
      obtain ⟨d, e1, e2⟩ := Option.map_eq_some_iff.mp e
      subst e2
      obtain ⟨v, e3, rp⟩ := r.get e1
      exact ⟨some v, by rw [e3]; rfl, v, rfl, rp⟩
    · rw [List.getElem?_append_right (by simpa using h)] at e
      rw [List.getElem?_append_right (by simpa [hl] using h)]
      obtain ⟨e1, e2⟩ := List.getElem?_eq_some_iff.mp e
      have e3 : sl = .no := by
        rw [← e2]; simp
      subst e3
      refine ⟨none, ?_, trivial⟩
      rw [List.getElem?_replicate, if_pos]
      simp only [List.length_replicate, List.length_map] at e1 ⊢
      omega
  · exfalso
    rcases Nat.lt_or_ge i ds.length with h | h
    · rw [List.getElem?_append_left (by simpa using h), List.getElem?_map] at e
      obtain ⟨d, e1, e2⟩ := Option.map_eq_some_iff.mp e
      cases e2
    · rw [List.getElem?_append_right (by simpa using h)] at e
      obtain ⟨e1, e2⟩ := List.getElem?_eq_some_iff.mp e
      simp at e2

section
variable {T : Tb} {U : Tx} {A : Ad} {P : Program} {w : World} {K : PySem.W.Frag} {mg : Str → Option Value} {base : Heap} {tab : Nat → Option Fd}
/-- what the top gives of the classes -/
structure ClsAll (T : Tb) (A : Ad) (P : Program) (w : World) (K : PySem.W.Frag) (mg : Str → Option Value) (base : Heap) : Prop where
  known : ∀ c, T.kpres c = true → mg (T.cname c) = some (.ref (A.cl c))
  cls : ∀ c, T.cpres c = true → ClsAt T A P w K mg base c
  meth : ∀ c m, m % 10 = 0 → 1 ≤ c → c ≤ 3 → T.cpres c = true → T.mpres (m + c) = true → Meth K (A.cl c) (T.mname m) (A.fa (m + c))
theorem sound (F : ∀ f, (T.pres f = true ∨ T.mpres f = true) → ∃ d, tab f = some d ∧ DefAt T U A K mg f d) (hglob : ∀ p ∈ T.glob, ∃ t, mg p.1 = some (.int p.2 t)) (hblt : ∀ x ∈ bltNames, mg x = none)
    (hxc : ∀ c, U.xpres c = true → mg (U.xname c) = some (.ref (A.xa c)) ∧ PySem.W.keepIn K (.ref (A.xa c)) = true ∧ PySem.W.excIn K (A.xa c) [.type "ValueError", .type "Exception", .type "BaseException", .type "object"] "ValueError.__new__" = true ∧
      PySem.W.subIn K (.ref (A.xa c)) (.type "BaseException") = some true ∧ PySem.W.typeIn K (.ref (A.xa c)) = some (.type "type"))
    (hxt : ∀ c ∈ U.xc, ExcC K (A.xa c) ∧ PySem.W.exmOne K (.ref (A.xa c)) (.ref (A.xa 0)) = some true ∧ ∀ m ∈ U.xk, PySem.W.kitOne K (.ref (A.xa c)) (.ref (A.xa m)) = some (isX c m)) (hcl : ClsAll T A P w K mg base) :
    ∀ n f, (T.pres f = true ∨ T.mpres f = true) → FnOk P w K mg base (L2N.CX P w) (n + 2) (A.fa f) (A.fd f) (A.ps f) (spD A.cl A.xa (mean tab n f)) := by
  intro n
  induction n with
  | zero =>
    intro f hf
    exact ⟨fun vs H Q E h => by obtain ⟨_, _, _, _, z⟩ := h; exact z.elim, fun Ar outer s H args us vs Q E _ _ _ _ h => by obtain ⟨_, _, _, _, z⟩ := h; exact z.elim⟩
  | succ n ih =>
    intro f hf
    obtain ⟨d, ht, D⟩ := F f hf
    obtain ⟨qual, st, Fn, S, hc⟩ := D.at_
    rw [D.ps]
    cases hnt : d.nt with
    | true =>
      simp only [okB, hnt, if_true, Bool.and_eq_true, decide_eq_true_eq] at hc
      obtain ⟨⟨hN, hps⟩, hc⟩ := hc
      have em : mean tab (n + 1) f = Fpc := by funext args; simp only [mean, ht, hnt, if_true]
      rw [em, hps]
      rw [hN, hps] at S
      exact pieces_fn hblt (by omega) Fn S hc
    | false =>
    simp only [okB, hnt, Bool.false_eq_true, if_false] at hc
    refine fun_okN (k := n + 2) Fn S (fun vs H Q E h => ?_) (fun cdv Ar outer sh H vs Q E hr h => ?_)
    · obtain ⟨G, ds, s, r, q⟩ := h
      rw [r.length]
      by_cases hl : (olds ds).length = d.ps.length
      · exact hl
      · simp only [mean, ht, hnt, Bool.false_eq_true, if_false, if_neg hl] at q
    · obtain ⟨G, ds, s, r, q⟩ := h
      have hl : (olds ds).length = d.ps.length := by
        by_cases hl : (olds ds).length = d.ps.length
        · exact hl
        · simp only [mean, ht, hnt, Bool.false_eq_true, if_false, if_neg hl] at q
      simp only [mean, ht, hnt, Bool.false_eq_true, if_false, if_pos hl, runB] at q
      have row : Row T (mean tab n) A (n + 2) P w K mg base := ⟨fun g hg => by
        obtain ⟨d', ht', D'⟩ := F g (.inl hg)
        obtain ⟨qual', st', Fn', S', hc'⟩ := D'.at_
        exact ⟨D'.mg hg, Fn'.kp, by rw [D'.ps]; exact D'.binds, ih g (.inl hg)⟩, hglob, hblt, hcl.known, hcl.cls, fun c m m10 c1 c3 cp mp => by
        obtain ⟨d', ht', D'⟩ := F (m + c) (.inr mp)
        exact ⟨hcl.meth c m m10 c1 c3 cp mp, by rw [D'.ps]; exact D'.binds, ih _ (.inr mp)⟩, by omega⟩
      have C : Sok T U d.N (mean tab n) A (n + 2) (cxOf (L2N.CX P w) P w K mg base d.N qual (defScope st) (A.fa f) cdv Ar outer sh H E) ⟨defScope st, fun _ => true⟩ E :=
        ⟨⟨rfl, S.nd, rfl, rfl, fun _ _ => rfl, hr, L2N.takes_of rfl rfl rfl rfl, row⟩, passes_of rfl, S.kind, hxc, hxt, rfl, rfl⟩
      refine ⟨_, sts_ok (G0 := G) (H0 := H) d.body C hc _, G, rep_start s r d.N, Gr.refl s, ?_⟩
      cases eo : exec (mean tab n) d.body ((olds ds).map Sl.val ++ List.replicate (d.N.length - (olds ds).length) .no) with
      | nx ρ' => rw [eo] at q; exact fun σ' G' H' _ g _ => q .non G' H' g .non
      | rt x => rw [eo] at q; exact fun v G' H' g rp => q v G' H' g rp
      | ex c => rw [eo] at q; exact q
      | bad => rw [eo] at q; exact q
end
end Wt
/-! ## The end of a row -/
namespace Wt
open PySem PySem.Spec PyProof.Rows L2
/-- no list is the module's own -/
def noL : PySem.W.Frag → Bool
  | [] => true
  | p :: r => (match p.2.cls with | .type t => !(t == "list") | _ => true) && noL r
theorem noL_ok : ∀ {K : PySem.W.Frag} {a : Addr} {o : Obj}, noL K = true → K.lookup a = some o → o.cls = .type "list" → False
  | [], a, o, h, e, _ => by simp at e
  | p :: r, a, o, h, e, c => by
    simp only [noL, Bool.and_eq_true] at h
    obtain ⟨b, ob⟩ := p
    rw [List.lookup_cons] at e
    by_cases hb : (a == b) = true
    · rw [hb] at e
      simp only [Option.some.injEq] at e
      subst e
      have h1 := h.1
      simp only [c] at h1
      exact absurd h1 (by decide)
    · rw [Bool.not_eq_true] at hb
      rw [hb] at e
      exact noL_ok h.2 e c
/-- the law's promise -/
def spX (n : Nat) : Sp := fun vs H Q _ => ∃ (a : Addr) (o : Obj) (ns : List Int), vs = [.ref a] ∧ H a = some (.frz o (.lst (ns.map V.int))) ∧ ns.length ≤ n ∧ ∀ H', Q (.bl true) H'
theorem walk_wt {l : PySem.W.OpenLaw} {n k : Nat} {q : Program} {loose : List Str} {XP : (Str → Option Value) → Heap → Prop} {YP : World → Heap → Prop} {d : DefRec} {K : Params → PySem.W.Frag} {x : Str}
    (hn : l.most = some n) (hn2 : n ≤ sizeLine) (hdf : d.params.defaults = []) (hr : Room k callerA)
    (hY : ∀ (w : World) (h : Heap), YP w h → (K w.params).In h) (hl : ∀ w : World, noL (K w.params) = true)
    (F : ∀ (w : World) (mg : Str → Option Value) (fa : Addr) (h : Heap), (K w.params).In h → h.Ns mainGlobals mg → mg d.name = some (.ref fa) →
      ∃ fd : FuncData, (∀ (s : Shared) (u : Value), BindsTo s fd ⟨[u], []⟩ [(x, u)]) ∧
        ∀ base : Heap, (K w.params).In base → base.Ns mainGlobals mg → FnOk l.prog w (K w.params) mg base (L2N.CX l.prog w) k fa fd [x] (spX n)) :
    PySem.W.WalkO q loose XP YP l.row.toRowW d [] (fun f vs => PySem.call f vs) :=
  L2.walk_of (K := K) (CX := fun w => L2N.CX l.prog w) (sp := fun w => spX n) hn hn2 hdf hr hY F (fun w H a ns h1 h2 h3 => by
      rcases h3 with (h3 | ⟨o, h3⟩) | ⟨o, its, m, e1, e2, _⟩
      · rcases h2 a with z | ⟨o, xs, z⟩
        · rw [h3] at z; cases z
        · rw [h3] at z; cases z
      · exact ⟨a, o, ns, rfl, h3, h1, fun _ => rfl⟩
      · exact (noL_ok (hl w) e1 e2).elim) fun w H s e s' h => by
    obtain ⟨_, _, _, _, _, _, _, _, _, _, _, _, z⟩ := h
    exact z
theorem pickD {p : Nat → Prop} {Q : Nat → Addr → FuncData → Prop} (h : ∀ f, p f → ∃ a fd, Q f a fd) : ∃ (fa : Nat → Addr) (fd : Nat → FuncData), ∀ f, p f → Q f (fa f) (fd f) := by
  have h' : ∀ f, ∃ x : Addr × FuncData, p f → Q f x.1 x.2 := fun f => by
    by_cases hp : p f
    · obtain ⟨a, fd, q⟩ := h f hp
      exact ⟨(a, fd), fun _ => q⟩
    · exact ⟨(0, PySem.W.fnOf "" "" (defArgs (.Pass ⟨0, 0, 0, 0⟩)) [] (defScope (.Pass ⟨0, 0, 0, 0⟩)) .none .none .none .none none .none .none), fun z => (hp z).elim⟩
  exact ⟨fun f => (h' f).choose.1, fun f => (h' f).choose.2, fun f => (h' f).choose_spec⟩
theorem pickA {p : Nat → Prop} {Q : Nat → Addr → Prop} (h : ∀ f, p f → ∃ a, Q f a) : ∃ (fa : Nat → Addr), ∀ f, p f → Q f (fa f) := by
  have h' : ∀ f, ∃ x : Addr, p f → Q f x := fun f => by
    by_cases hp : p f
    · obtain ⟨a, q⟩ := h f hp
      exact ⟨a, fun _ => q⟩
    · exact ⟨0, fun z => (hp z).elim⟩
  exact ⟨fun f => (h' f).choose, fun f => (h' f).choose_spec⟩
/-- a def of the text, as the top has left it -/
structure DefK (T : Tb) (U : Tx) (K : PySem.W.Frag) (f : Nat) (d : Fd) (a : Addr) (fd : FuncData) : Prop where
  at_ : ∃ qual st, Fun K (T.fname f) qual st a fd ∧ FnScope d.N d.ps (defScope st) ∧ okB T U d st = true
  binds : ∀ us : List Value, us.length = d.ps.length → bindArgs fd ⟨us, []⟩ = pure (d.ps.zip us)
  ns : PySem.W.nsIn K mainGlobals (T.fname f) = some (some (.ref a))
theorem defK_mk {T : Tb} {U : Tx} {K : PySem.W.Frag} {f : Nat} {d : Fd} {qual : Str} {st : Stmt} {a : Addr} {oc : Value} {od an : Option Addr} {osl : Array (Option Value)} {kV doc pm cdv ct : Value} (S : FnScope d.N d.ps (defScope st)) (hc : okB T U d st = true)
    (hb : ∀ (kV doc pm : Value) (an : Option Addr) (cdv ct : Value) (us : List Value), us.length = d.ps.length → bindArgs (PySem.W.fnOf (T.fname f) qual (defArgs st) (defBody st) (defScope st) .none kV doc pm an cdv ct) ⟨us, []⟩ = pure (d.ps.zip us))
    (n : PySem.W.nsIn K mainGlobals (T.fname f) = some (some (.ref a))) (l : K.lookup a = some ⟨oc, od, .func (PySem.W.fnOf (T.fname f) qual (defArgs st) (defBody st) (defScope st) .none kV doc pm an cdv ct), osl⟩)
    (c : PySem.W.codeIn K cdv qual = true) (k : PySem.W.keepIn K (.ref a) = true) : DefK T U K f d a (PySem.W.fnOf (T.fname f) qual (defArgs st) (defBody st) (defScope st) .none kV doc pm an cdv ct) :=
  ⟨⟨qual, st, fun_mk l c k, S, hc⟩, hb _ _ _ _ _ _, n⟩
def ExcK (U : Tx) (K : PySem.W.Frag) (c : Nat) : Prop := ∃ a, PySem.W.nsIn K mainGlobals (U.xname c) = some (some (.ref a)) ∧ PySem.W.keepIn K (.ref a) = true ∧ PySem.W.excIn K a [.type "ValueError", .type "Exception", .type "BaseException", .type "object"] "ValueError.__new__" = true ∧
  PySem.W.subIn K (.ref a) (.type "BaseException") = some true ∧ PySem.W.typeIn K (.ref a) = some (.type "type")
theorem excK_mk {U : Tx} {K : PySem.W.Frag} {c : Nat} {a : Addr} (h1 : PySem.W.nsIn K mainGlobals (U.xname c) = some (some (.ref a))) (h2 : PySem.W.keepIn K (.ref a) = true) (h3 : PySem.W.excIn K a [.type "ValueError", .type "Exception", .type "BaseException", .type "object"] "ValueError.__new__" = true)
    (h4 : PySem.W.subIn K (.ref a) (.type "BaseException") = some true) (h5 : PySem.W.typeIn K (.ref a) = some (.type "type")) : ExcK U K c := ⟨a, h1, h2, h3, h4, h5⟩
theorem globK_mk {K : PySem.W.Frag} {x : Str} {i : Int} {t : Tok} (h : PySem.W.nsIn K mainGlobals x = some (some (.int i t))) : ∃ t, PySem.W.nsIn K mainGlobals x = some (some (.int i t)) := ⟨t, h⟩
theorem lookup_memD : ∀ {l : List (Nat × Fd)} {f : Nat} {d : Fd}, l.lookup f = some d → (f, d) ∈ l
  | [], f, d, h => by simp at h
  | p :: r, f, d, h => by
    rw [List.lookup_cons] at h
    by_cases e : (f == p.1) = true
    · rw [e] at h
      simp only [Option.some.injEq] at h
      have e' : f = p.1 := by simpa using e
      rw [← h, e']
      exact List.mem_cons_self
    · rw [Bool.not_eq_true] at e
      rw [e] at h
      exact List.mem_cons_of_mem _ (lookup_memD h)
theorem all_k {T : Tb} {U : Tx} {K : PySem.W.Frag} {l : List (Nat × Fd)} (hd : ∀ p ∈ l, ∃ a fd, DefK T U K p.1 p.2 a fd) (f : Nat) (h : (l.lookup f).isSome = true) : ∃ a fd, (∃ d, l.lookup f = some d ∧ DefK T U K f d a fd) := by
  cases e : l.lookup f with
  | none => rw [e] at h; cases h
  | some d =>
    obtain ⟨a, fd, D⟩ := hd (f, d) (lookup_memD e)
    exact ⟨a, fd, d, rfl, D⟩
/-- one by one -/
def Each {α : Type} (p : α → Prop) : List α → Prop
  | [] => True
  | x :: xs => p x ∧ Each p xs
theorem Each.all {α : Type} {p : α → Prop} : ∀ {l : List α}, Each p l → ∀ x ∈ l, p x
  | [], _, x, h => by simp at h
  | y :: l, h, x, hx => by
    rcases List.mem_cons.mp hx with e | e
    · subst e; exact h.1
    · exact Each.all h.2 x e
/-- a method of the text, as the top has left it: f is m + c, m a multiple of ten -/
structure MetK (T : Tb) (U : Tx) (K : PySem.W.Frag) (f : Nat) (d : Fd) (a : Addr) (fd : FuncData) : Prop where
  at_ : ∃ qual st, Fun K (T.fname f) qual st a fd ∧ FnScope d.N d.ps (defScope st) ∧ okB T U d st = true
  binds : ∀ us : List Value, us.length = d.ps.length → bindArgs fd ⟨us, []⟩ = pure (d.ps.zip us)
  me : ∃ C, PySem.W.nsIn K mainGlobals (T.cname (f % 10)) = some (some (.ref C)) ∧ Meth K C (T.mname (f / 10 * 10)) a
theorem metK_mk {T : Tb} {U : Tx} {K : PySem.W.Frag} {f : Nat} {d : Fd} {qual : Str} {st : Stmt} {a C : Addr} {oc : Value} {od an : Option Addr} {osl : Array (Option Value)} {kV doc pm cdv ct : Value} (S : FnScope d.N d.ps (defScope st)) (hc : okB T U d st = true)
    (hb : ∀ (kV doc pm : Value) (an : Option Addr) (cdv ct : Value) (us : List Value), us.length = d.ps.length → bindArgs (PySem.W.fnOf (T.fname f) qual (defArgs st) (defBody st) (defScope st) .none kV doc pm an cdv ct) ⟨us, []⟩ = pure (d.ps.zip us))
    (n : PySem.W.nsIn K mainGlobals (T.cname (f % 10)) = some (some (.ref C))) (m1 : PySem.W.findIn K (.ref C) (T.mname (f / 10 * 10)) = some (some (.ref a))) (m2 : PySem.W.isFn K (.ref a) = true)
    (l : K.lookup a = some ⟨oc, od, .func (PySem.W.fnOf (T.fname f) qual (defArgs st) (defBody st) (defScope st) .none kV doc pm an cdv ct), osl⟩)
    (c : PySem.W.codeIn K cdv qual = true) (k : PySem.W.keepIn K (.ref a) = true) : MetK T U K f d a (PySem.W.fnOf (T.fname f) qual (defArgs st) (defBody st) (defScope st) .none kV doc pm an cdv ct) :=
  ⟨⟨qual, st, fun_mk l c k, S, hc⟩, hb _ _ _ _ _ _, C, n, m1, m2, k⟩
/-- a class that may be made, as the top has left it -/
def ClsK (T : Tb) (K : PySem.W.Frag) (c : Nat) : Prop := ∃ C, PySem.W.nsIn K mainGlobals (T.cname c) = some (some (.ref C)) ∧ Cls K C ∧ (∀ f ∈ names c, NoAttr K C f) ∧
  (∃ f fd ps qual st, Mk K C f ∧ Fun K "__init__" qual st f fd ∧ FnScope ps ps (defScope st) ∧ ps.length = (names c).length + 1 ∧ chkInit (defScope st) ps (names c) 1 (defBody st) = true ∧ Binds K fd ps []) ∧
  (∀ j, T.kpres j = true → ∃ Cj, PySem.W.nsIn K mainGlobals (T.cname j) = some (some (.ref Cj)) ∧ PySem.W.kitOne K (.ref C) (.ref Cj) = some (isa c j)) ∧
  PySem.W.findIn K (.ref C) "__class__" = some (some (.builtin "object.__class__")) ∧ PySem.W.specialIn K (.builtin "object.__class__") "__get__" = some (some (.builtin "getset_descriptor.__get__")) ∧ PySem.W.takesIn K (.builtin "object.__class__") = some true ∧ PySem.W.mroIn K C (.type "object") = some true
theorem nsIn_eq {K : PySem.W.Frag} {x : Str} {u v : Addr} (z : PySem.W.nsIn K mainGlobals x = some (some (.ref u))) (z' : PySem.W.nsIn K mainGlobals x = some (some (.ref v))) : v = u := by
  have := z.symm.trans z'
  injection this with this
  injection this with this
  injection this with this
  exact this.symm
/-- a class that may be caught, and what it is asked for -/
def KitK (U : Tx) (K : PySem.W.Frag) (a : Addr) (c m : Nat) : Prop := ∃ am, PySem.W.nsIn K mainGlobals (U.xname m) = some (some (.ref am)) ∧ PySem.W.kitOne K (.ref a) (.ref am) = some (isX c m)
def TryK (U : Tx) (K : PySem.W.Frag) (c : Nat) : Prop := ∃ a a0, PySem.W.nsIn K mainGlobals (U.xname c) = some (some (.ref a)) ∧ PySem.W.nsIn K mainGlobals (U.xname 0) = some (some (.ref a0)) ∧ ExcC K a ∧ PySem.W.exmOne K (.ref a) (.ref a0) = some true ∧ ∀ m ∈ U.xk, KitK U K a c m
theorem kitK_mk {U : Tx} {K : PySem.W.Frag} {a : Addr} {c m : Nat} {am : Addr} (h1 : PySem.W.nsIn K mainGlobals (U.xname m) = some (some (.ref am))) (h2 : PySem.W.kitOne K (.ref a) (.ref am) = some (isX c m)) : KitK U K a c m := ⟨am, h1, h2⟩
theorem kitK_self {U : Tx} {K : PySem.W.Frag} {a : Addr} {c : Nat} (h1 : PySem.W.nsIn K mainGlobals (U.xname c) = some (some (.ref a))) : KitK U K a c c := ⟨a, h1, by unfold PySem.W.kitOne isX; rw [if_pos (by simp)]; simp⟩
theorem kitK_of {U : Tx} {K : PySem.W.Frag} {a : Addr} {c m : Nat} {am : Addr} {b : Bool} (h1 : PySem.W.nsIn K mainGlobals (U.xname m) = some (some (.ref am))) (h2 : PySem.W.typeIn K (.ref am) = some (.type "type")) (h3 : PySem.W.isClsIn K am = true)
    (h4 : PySem.W.subIn K (.ref a) (.ref am) = some b) (h5 : isX c m = b) (h6 : a ≠ am) : KitK U K a c m := ⟨am, h1, by
  unfold PySem.W.kitOne
  rw [if_neg (by simpa using h6)]
  unfold PySem.W.kitCls
  unfold PySem.W.isClsIn at h3
  simp only [h2, h3]
  rw [if_pos (by simp), h4, h5]⟩
theorem tryK_mk {U : Tx} {K : PySem.W.Frag} {c : Nat} {a a0 : Addr} (h1 : PySem.W.nsIn K mainGlobals (U.xname c) = some (some (.ref a))) (h2 : PySem.W.nsIn K mainGlobals (U.xname 0) = some (some (.ref a0)))
    (e1 : PySem.W.findIn K (.ref a) "__getattribute__" = some (some (.builtin "BaseException.__getattribute__"))) (e2 : PySem.W.findIn K (.ref a) "__getattr__" = some none) (e3 : PySem.W.subIn K (.ref a) (.type "BaseException") = some true) (e4 : PySem.W.hasDictIn K a = true)
    (e5 : PySem.W.findIn K (.ref a) "__class__" = some (some (.builtin "object.__class__"))) (e6 : PySem.W.specialIn K (.builtin "object.__class__") "__get__" = some (some (.builtin "getset_descriptor.__get__"))) (e7 : PySem.W.takesIn K (.builtin "object.__class__") = some true) (e8 : PySem.W.mroIn K a (.type "object") = some true)
    (f1 : PySem.W.subIn K (.ref a0) (.type "BaseException") = some true) (f2 : PySem.W.hasDictIn K a0 = true) (f3 : PySem.W.typeIn K (.ref a0) = some (.type "type")) (f4 : PySem.W.subIn K (.ref a) (.ref a0) = some true)
    (h : Each (KitK U K a c) U.xk) : TryK U K c := ⟨a, a0, h1, h2, ⟨e1, e2, e3, e4, e5, e6, e7, e8⟩, PySem.W.exm_ref f1 f2 f3 f4, Each.all h⟩
theorem law_wt {T : Tb} {U : Tx} {tab : Nat → Option Fd} {P : Program} {w : World} {K : PySem.W.Frag} {mg : Str → Option Value} {h : Heap} {k L n : Nat} {x : Str} {fa : Addr} {dL : Fd} (hm : ∀ ns : List Int, ns.length ≤ n → mean tab k L [.scr ns] = .ok (.bl true))
    (hL : tab L = some dL) (hps : dL.ps = [x]) (hp : T.pres L = true) (KX : K.In h) (G : h.Ns mainGlobals mg) (hfa : mg (T.fname L) = some (.ref fa))
    (hd : ∀ f, T.pres f = true → ∃ a fd, (∃ d, tab f = some d ∧ DefK T U K f d a fd)) (hmt : ∀ f, T.mpres f = true → ∃ a fd, (∃ d, tab f = some d ∧ MetK T U K f d a fd)) (hdj : ∀ f, T.pres f = true → T.mpres f = true → False) (hg : ∀ p ∈ T.glob, ∃ t, PySem.W.nsIn K mainGlobals p.1 = some (some (.int p.2 t)))
    (hb : ∀ y ∈ bltNames, PySem.W.nsIn K mainGlobals y = some none)
    (hx : ∀ c, U.xpres c = true → ExcK U K c) (hw : ∀ c ∈ U.xc, U.xpres c = true ∧ U.xpres 0 = true ∧ ∀ m ∈ U.xk, U.xpres m = true) (ht : ∀ c ∈ U.xc, TryK U K c)
    (hkn : ∀ c, T.kpres c = true → ∃ C, PySem.W.nsIn K mainGlobals (T.cname c) = some (some (.ref C))) (hck : ∀ c, T.cpres c = true → T.kpres c = true ∧ ClsK T K c) (hnm : ∀ c m, T.mpres (m + c) = true → T.mname m ∉ names c) :
    ∃ fd : FuncData, (∀ (s : Shared) (u : Value), BindsTo s fd ⟨[u], []⟩ [(x, u)]) ∧ ∀ base : Heap, K.In base → base.Ns mainGlobals mg → FnOk P w K mg base (L2N.CX P w) (k + 2) fa fd [x] (spX n) := by
  have hd' : ∀ f, (T.pres f = true ∨ T.mpres f = true) → ∃ a fd, ((T.pres f = true → ∃ d, tab f = some d ∧ DefK T U K f d a fd) ∧ (T.mpres f = true → ∃ d, tab f = some d ∧ MetK T U K f d a fd)) := fun f hf => by
    rcases hf with hf | hf
    · obtain ⟨a, fd, q⟩ := hd f hf
      exact ⟨a, fd, fun _ => q, fun z => (hdj f hf z).elim⟩
    · obtain ⟨a, fd, q⟩ := hmt f hf
      exact ⟨a, fd, fun z => (hdj f z hf).elim, fun _ => q⟩
  obtain ⟨fa', fd, hF⟩ := pickD hd'
  obtain ⟨xa, hX⟩ := pickA hx
  obtain ⟨cl, hC⟩ := pickA hkn
  let A : Ad := ⟨fa', fd, fun f => match tab f with | some d => d.ps | none => [], cl, xa⟩
  have F : ∀ f, (T.pres f = true ∨ T.mpres f = true) → ∃ d, tab f = some d ∧ DefAt T U A K mg f d := fun f hf => by
    have hq := hF f hf
    rcases hf with hf | hf
    · obtain ⟨d, ht, D⟩ := hq.1 hf
      exact ⟨d, ht, D.at_, by show (match tab f with | some d => d.ps | none => []) = d.ps; rw [ht], .all D.binds, fun _ => PySem.W.mg_of KX G D.ns⟩
    · obtain ⟨d, ht, D⟩ := hq.2 hf
      exact ⟨d, ht, D.at_, by show (match tab f with | some d => d.ps | none => []) = d.ps; rw [ht], .all D.binds, fun z => (hdj f z hf).elim⟩
  have hl : mg "list" = none := PySem.W.mg_none_of KX G (hb _ (by decide))
  have CA : ∀ base : Heap, ClsAll T A P w K mg base := fun base => by
    refine ⟨fun c hc => PySem.W.mg_of KX G (hC c hc), fun c hc => ?_, fun c m m10 c1 c3 cp mp => ?_⟩
    · obtain ⟨hk, C, q1, q2, q3, ⟨f, fd0, ps, qual, st, M, Fn, S, lp, ci, Bd⟩, q5, q6, q7, q8, q9⟩ := hck c hc
      have e := nsIn_eq q1 (hC c hk)
      show ClsAt T A P w K mg base c
      have ec : A.cl c = C := e
      refine ⟨PySem.W.mg_of KX G (hC c hk), by rw [ec]; exact q2, by rw [ec]; exact q3, ⟨f, fd0, ps, by rw [ec]; exact M, ?_, Bd⟩, fun j hj => ?_, fun H a dx fs hH => ?_, fun m mp => hnm c m mp⟩
      · rw [ec]
        have hn : (names c).length < 900 := by unfold names; split <;> decide
        exact init_fn Fn S hl q2 q3 (names_nodup c) hn lp ci
      · obtain ⟨Cj, k1, k2⟩ := q5 j hj
        have ej : A.cl j = Cj := nsIn_eq k1 (hC j hj)
        rw [ec, ej]; exact k2
      · rw [ec] at hH ⊢
        exact .base (.ins hH q2 q6 q7 q8 q9)
    · obtain ⟨d, ht, D⟩ := (hF (m + c) (.inr mp)).2 mp
      obtain ⟨C, k1, k2⟩ := D.me
      have e1 : (m + c) % 10 = c := by omega
      have e2 : (m + c) / 10 * 10 = m := by omega
      rw [e1] at k1
      rw [e2] at k2
      have ec : A.cl c = C := nsIn_eq k1 (hC c (hck c cp).1)
      rw [ec]; exact k2
  have S := fun base => sound (P := P) (w := w) (base := base) F (fun p hp => by obtain ⟨t, e⟩ := hg p hp; exact ⟨t, PySem.W.mg_of KX G e⟩) (fun y hy => PySem.W.mg_none_of KX G (hb y hy))
    (fun c hc => by obtain ⟨h1, h2⟩ := hX c hc; exact ⟨PySem.W.mg_of KX G h1, h2⟩)
    (fun c hc => by
      obtain ⟨p1, p2, p3⟩ := hw c hc
      obtain ⟨a, a0, h1, h2, h3, h4, h5⟩ := ht c hc
      have ea := nsIn_eq h1 (hX c p1).1
      have e0 := nsIn_eq h2 (hX 0 p2).1
      show ExcC K (xa c) ∧ PySem.W.exmOne K (.ref (xa c)) (.ref (xa 0)) = some true ∧ ∀ m ∈ U.xk, PySem.W.kitOne K (.ref (xa c)) (.ref (xa m)) = some (isX c m)
      rw [ea, e0]
      refine ⟨h3, h4, fun m hm => ?_⟩
      obtain ⟨am, h6, h7⟩ := h5 m hm
      rw [nsIn_eq h6 (hX m (p3 m hm)).1]
      exact h7) (CA base) k L (.inl hp)
  obtain ⟨d, ht, D⟩ := F L (.inl hp)
  have e : fa = fa' L := by
    have := hfa.symm.trans (D.mg hp)
    injection this with this
    injection this
  subst e
  rw [hL] at ht
  injection ht with ht
  subst ht
  refine ⟨fd L, fun s u => .of_eq ?_, fun base _ _ => ?_⟩
  · obtain ⟨d2, ht2, D2⟩ := (hF L (.inl hp)).1 hp
    rw [hL] at ht2
    injection ht2 with ht2
    subst ht2
    have := D2.binds [u] (by rw [hps]; rfl)
    rw [hps] at this
    exact this
  · have q := S base
    rw [D.ps, hps] at q
    refine q.imp fun vs H Q E ⟨a, o, ns, e, hH, hl, qq⟩ => ?_
    subst e
    refine ⟨H, [.scr ns], Same.refl _, .cons (.scr hH) .nil, ?_⟩
    show (match mean tab k L [.scr ns] with | .ok d => _ | .exc c => _ | .bad => _)
    rw [hm ns hl]
    intro v G' H' g r
    cases r
    exact qq H'
/-! ### the facts of a row, one by one -/
def mnm (m : Nat) : Str := if m = 200 then "shows" else ""
theorem mnm_no (c m : Nat) : mnm m ∉ names c := by
  unfold mnm names
  split <;> split <;> decide
theorem all_kF {T : Tb} {U : Tx} {K : PySem.W.Frag} {l lm : List (Nat × Fd)} (hd : ∀ p ∈ l, ∃ a fd, DefK T U K p.1 p.2 a fd) (f : Nat) (h : (decide (f < 200) && (l.lookup f).isSome) = true) : ∃ a fd, (∃ d, (if f < 200 then l.lookup f else lm.lookup f) = some d ∧ DefK T U K f d a fd) := by
  simp only [Bool.and_eq_true, decide_eq_true_eq] at h
  obtain ⟨a, fd, d, e, D⟩ := all_k hd f h.2
  exact ⟨a, fd, d, by rw [if_pos h.1]; exact e, D⟩
theorem all_kM {T : Tb} {U : Tx} {K : PySem.W.Frag} {l lm : List (Nat × Fd)} (hd : ∀ p ∈ lm, ∃ a fd, MetK T U K p.1 p.2 a fd) (f : Nat) (h : (!decide (f < 200) && (lm.lookup f).isSome) = true) : ∃ a fd, (∃ d, (if f < 200 then l.lookup f else lm.lookup f) = some d ∧ MetK T U K f d a fd) := by
  simp only [Bool.and_eq_true, Bool.not_eq_true', decide_eq_false_iff_not] at h
  cases e : lm.lookup f with
  | none => rw [e] at h; cases h.2
  | some d =>
    obtain ⟨a, fd, D⟩ := hd (f, d) (lookup_memD e)
    exact ⟨a, fd, d, by rw [if_neg h.1], D⟩
theorem apart_k {l lm : List (Nat × Fd)} (f : Nat) (h : (decide (f < 200) && (l.lookup f).isSome) = true) (h' : (!decide (f < 200) && (lm.lookup f).isSome) = true) : False := by
  simp only [Bool.and_eq_true, Bool.not_eq_true', decide_eq_false_iff_not, decide_eq_true_eq] at h h'
  exact h'.1 h.1
def KnwK (T : Tb) (K : PySem.W.Frag) (c : Nat) : Prop := ∃ C, PySem.W.nsIn K mainGlobals (T.cname c) = some (some (.ref C))
theorem knwK_mk {T : Tb} {K : PySem.W.Frag} {c : Nat} {C : Addr} (h : PySem.W.nsIn K mainGlobals (T.cname c) = some (some (.ref C))) : KnwK T K c := ⟨C, h⟩
/-- isinstance of a class and a known class -/
def IsaK (T : Tb) (K : PySem.W.Frag) (C : Addr) (c j : Nat) : Prop := ∃ Cj, PySem.W.nsIn K mainGlobals (T.cname j) = some (some (.ref Cj)) ∧ PySem.W.kitOne K (.ref C) (.ref Cj) = some (isa c j)
theorem isaK_self {T : Tb} {K : PySem.W.Frag} {C : Addr} {c : Nat} (h : PySem.W.nsIn K mainGlobals (T.cname c) = some (some (.ref C))) : IsaK T K C c c := ⟨C, h, by unfold PySem.W.kitOne isa; rw [if_pos (by simp)]; simp⟩
theorem isaK_of {T : Tb} {K : PySem.W.Frag} {C Cj : Addr} {c j : Nat} {b : Bool} (h1 : PySem.W.nsIn K mainGlobals (T.cname j) = some (some (.ref Cj))) (h2 : PySem.W.typeIn K (.ref Cj) = some (.type "type")) (h3 : PySem.W.isClsIn K Cj = true)
    (h4 : PySem.W.subIn K (.ref C) (.ref Cj) = some b) (h5 : isa c j = b) (h6 : C ≠ Cj) : IsaK T K C c j := ⟨Cj, h1, by
  unfold PySem.W.kitOne
  rw [if_neg (by simpa using h6)]
  unfold PySem.W.kitCls
  unfold PySem.W.isClsIn at h3
  simp only [h2, h3]
  rw [if_pos (by simp), h4, h5]⟩
theorem clsK_mk {T : Tb} {K : PySem.W.Frag} {c : Nat} {kl : List Nat} {C a : Addr} {ps : List Str} {qual : Str} {st : Stmt} {oc : Value} {od an : Option Addr} {osl : Array (Option Value)} {kV doc pm cdv ct : Value} (S : FnScope ps ps (defScope st)) (ci : chkInit (defScope st) ps (names c) 1 (defBody st) = true) (lp : ps.length = (names c).length + 1)
    (hb : ∀ (kV doc pm : Value) (an : Option Addr) (cdv ct : Value) (us : List Value), us.length = ps.length → bindArgs (PySem.W.fnOf "__init__" qual (defArgs st) (defBody st) (defScope st) .none kV doc pm an cdv ct) ⟨us, []⟩ = pure (ps.zip us)) (hk : T.kpres c = true) (hkl : T.kpres = kl.contains)
    (n : PySem.W.nsIn K mainGlobals (T.cname c) = some (some (.ref C))) (c1 : PySem.W.plainGet K C Str.empty = true) (c2 : PySem.W.hasDictIn K C = true) (c3 : PySem.W.plainOver K C = true) (c4 : PySem.W.findIn K (.ref C) "__setattr__" = some (some (.builtin "object.__setattr__")))
    (na : Each (fun f => PySem.W.findIn K (.ref C) f = some none) (names c)) (m1 : PySem.W.makesIn K C = true) (m2 : PySem.W.findIn K (.ref C) "__init__" = some (some (.ref a))) (m3 : PySem.W.isFn K (.ref a) = true) (m4 : PySem.W.keepIn K (.ref C) = true)
    (l : K.lookup a = some ⟨oc, od, .func (PySem.W.fnOf "__init__" qual (defArgs st) (defBody st) (defScope st) .none kV doc pm an cdv ct), osl⟩) (cd : PySem.W.codeIn K cdv qual = true) (kf : PySem.W.keepIn K (.ref a) = true)
    (kj : Each (IsaK T K C c) kl) (t1 : PySem.W.findIn K (.ref C) "__class__" = some (some (.builtin "object.__class__"))) (t2 : PySem.W.specialIn K (.builtin "object.__class__") "__get__" = some (some (.builtin "getset_descriptor.__get__"))) (t3 : PySem.W.takesIn K (.builtin "object.__class__") = some true)
    (t4 : PySem.W.mroIn K C (.type "object") = some true) : T.kpres c = true ∧ ClsK T K c :=
  ⟨hk, C, n, ⟨c1, c2, c3, c4⟩, fun f hf => Each.all na f hf, ⟨a, _, ps, qual, st, ⟨m1, m2, m3, m4⟩, fun_mk l cd kf, S, lp, ci, .all (hb _ _ _ _ _ _)⟩, fun j hj => by rw [hkl] at hj; exact Each.all kj j (by simpa using hj), t1, t2, t3, t4⟩
end Wt
/-! ## How the meanings are reckoned -/
namespace Wt
open PySem L2
section
variable (Γ : Nat → List D → R D)
def loopF (t : Tg) (body : S) (d : D) (ρ : Rho) : Out := match bindT t d ρ with | some ρ' => exec Γ body ρ' | none => .bad
def compF (elt : E) (t : Tg) (cd : E) (own : List Nat) (ρ : Rho) (d : D) : R (Option D) :=
  match bindT t d (wipeR ρ own) with
  | none => .bad
  | some ρ' => (eva Γ cd (shareAll ρ')).bind fun b => if b = true then (ev Γ elt ρ').bind fun y => .ok (some y) else .ok none
def whlT (c : E) (ρ : Rho) : R Bool := (ev Γ c (shareAll ρ)).bind toB
def nxO (o : Out) (k : Rho → Out) : Out := match o with | .nx ρ => k ρ | o => o
@[simp] theorem nxO_nx (ρ : Rho) (k : Rho → Out) : nxO (.nx ρ) k = k ρ := rfl
@[simp] theorem nxO_rt (d : D) (k : Rho → Out) : nxO (.rt d) k = .rt d := rfl
@[simp] theorem nxO_ex (c : Nat) (k : Rho → Out) : nxO (.ex c) k = .ex c := rfl
@[simp] theorem nxO_bad (k : Rho → Out) : nxO .bad k = .bad := rfl
def itO (r : R (List D)) (k : List D → Out) : Out := match r with | .ok items => k items | .exc c => .ex c | .bad => .bad
@[simp] theorem itO_ok (l : List D) (k : List D → Out) : itO (.ok l) k = k l := rfl
@[simp] theorem itO_exc (c : Nat) (k : List D → Out) : itO (.exc c) k = .ex c := rfl
def iteO (r : R Bool) (a b : Out) : Out := match r with | .ok true => a | .ok false => b | .exc c => .ex c | .bad => .bad
@[simp] theorem iteO_ok (t : Bool) (a b : Out) : iteO (.ok t) a b = if t = true then a else b := by cases t <;> rfl
@[simp] theorem iteO_exc (c : Nat) (a b : Out) : iteO (.exc c) a b = .ex c := rfl
theorem nxO_ite (c : Prop) [Decidable c] (a b : Out) (k : Rho → Out) : nxO (if c then a else b) k = if c then nxO a k else nxO b k := by split <;> rfl
@[simp] theorem x_skip (ρ : Rho) : exec Γ .skip ρ = .nx ρ := by rw [exec]
@[simp] theorem x_seq (a b : S) (ρ : Rho) : exec Γ (.seq a b) ρ = nxO (exec Γ a ρ) (exec Γ b) := by rw [exec]; rfl
@[simp] theorem x_expr (e : E) (ρ : Rho) : exec Γ (.expr e) ρ = outV (ev Γ e (shareAt ρ (esc e))) fun _ => .nx (shareAt ρ (esc e)) := by rw [exec]
@[simp] theorem x_set (i : Nat) (e : E) (ρ : Rho) : exec Γ (.set i e) ρ = outV (ev Γ e (shareAt ρ (esc e))) fun d => .nx ((shareAt ρ (esc e)).set i (mkSl e d)) := by rw [exec]
@[simp] theorem x_tset (t : Tg) (e : E) (ρ : Rho) : exec Γ (.tset t e) ρ = outV (ev Γ e (shareAt ρ (esc e))) fun d => outO (bindT t d (shareAt ρ (esc e))) .nx := by rw [exec]; rfl
@[simp] theorem x_par (i j : Nat) (a b : E) (ρ : Rho) : exec Γ (.par i j a b) ρ = outV (ev Γ a (shareAt ρ (esc a ++ esc b))) fun d => outV (ev Γ b (shareAt ρ (esc a ++ esc b))) fun d' => .nx (((shareAt ρ (esc a ++ esc b)).set i (mkSl a d)).set j (mkSl b d')) := by rw [exec]
@[simp] theorem x_seti (x : Nat) (i e : E) (ρ : Rho) : exec Γ (.seti x i e) ρ = ownAt (shareAt ρ (esc e ++ esc i)) x (outV (ev Γ e (shareAt ρ (esc e ++ esc i))) fun d => outV (ev Γ i (shareAt ρ (esc e ++ esc i))) fun j => outO (setO (shareAt ρ (esc e ++ esc i)) x j d) .nx) := by rw [exec]
@[simp] theorem x_seti2 (x : Nat) (i j a b : E) (ρ : Rho) : exec Γ (.seti2 x i j a b) ρ = ownAt (shareAt ρ (esc a ++ esc b ++ esc i ++ esc j)) x (outV (ev Γ a (shareAt ρ (esc a ++ esc b ++ esc i ++ esc j))) fun d => outV (ev Γ b (shareAt ρ (esc a ++ esc b ++ esc i ++ esc j))) fun d' =>
      outV (ev Γ i (shareAt ρ (esc a ++ esc b ++ esc i ++ esc j))) fun m => outO (setO (shareAt ρ (esc a ++ esc b ++ esc i ++ esc j)) x m d) fun ρ' => outV (ev Γ j ρ') fun m' => outO (setO ρ' x m' d') .nx) := by rw [exec]
@[simp] theorem x_app (x : Nat) (e : E) (ρ : Rho) : exec Γ (.app x e) ρ = ownAt (shareAt ρ (esc e)) x (outV (ev Γ e (shareAt ρ (esc e))) fun d => outO (appO (shareAt ρ (esc e)) x d) .nx) := by rw [exec]
@[simp] theorem x_ext (x : Nat) (e : E) (ρ : Rho) : exec Γ (.ext x e) ρ = ownAt (shareAt ρ (esc e)) x (outV (ev Γ e (shareAt ρ (esc e))) fun d => outO (extO (shareAt ρ (esc e)) x d) .nx) := by rw [exec]
@[simp] theorem x_ite (c : E) (a b : S) (ρ : Rho) : exec Γ (.ite c a b) ρ = iteO ((ev Γ c (shareAll ρ)).bind toB) (exec Γ a ρ) (exec Γ b ρ) := by rw [exec]; rfl
@[simp] theorem x_loop (t : Tg) (it : E) (body : S) (ρ : Rho) : exec Γ (.loop t it body) ρ = itO ((ev Γ it (shareAt ρ (esc it))).bind itemsD) fun items => forR (loopF Γ t body) items (shareAt ρ (esc it)) := by rw [exec]; rfl
@[simp] theorem x_whl (n : Nat) (c : E) (body : S) (ρ : Rho) : exec Γ (.whl n c body) ρ = whlR (whlT Γ c) (exec Γ body) n ρ := by rw [exec]; rfl
@[simp] theorem x_ret (e : E) (ρ : Rho) : exec Γ (.ret e) ρ = outV (ev Γ e (shareAt ρ (esc e))) .rt := by rw [exec]
@[simp] theorem x_retn (ρ : Rho) : exec Γ .retn ρ = .rt .non := by rw [exec]
@[simp] theorem x_raise (c : Nat) (ρ : Rho) : exec Γ (.raise c) ρ = .ex c := by rw [exec]
@[simp] theorem outV_ok (d : D) (f : D → Out) : outV (.ok d) f = f d := rfl
@[simp] theorem outV_exc (c : Nat) (f : D → Out) : outV (.exc c) f = .ex c := rfl
@[simp] theorem outO_some (ρ : Rho) (k : Rho → Out) : outO (some ρ) k = k ρ := rfl
def runO (o : Out) : R D := match o with | .rt d => .ok d | .nx _ => .ok .non | .ex c => .exc c | .bad => .bad
@[simp] theorem runO_rt (d : D) : runO (.rt d) = .ok d := rfl
@[simp] theorem runO_nx (ρ : Rho) : runO (.nx ρ) = .ok .non := rfl
@[simp] theorem runO_ex (c : Nat) : runO (.ex c) = .exc c := rfl
theorem runB_eq (n : Nat) (body : S) (args : List D) : runB Γ n body args = runO (exec Γ body (args.map Sl.val ++ List.replicate (n - args.length) .no)) := rfl

def rdS (s : Sl) : R D := match s with | .val d => .ok d | _ => .bad
@[simp] theorem rdS_val (d : D) : rdS (.val d) = .ok d := rfl
@[simp] theorem v_var (i : Nat) (ρ : Rho) : ev Γ (.var i) ρ = rdS (ρ.getD i .no) := by rw [ev]; rfl
@[simp] theorem v_int (i : Int) (ρ : Rho) : ev Γ (.int i) ρ = .ok (.int i) := by rw [ev]
@[simp] theorem v_bl (i : Bool) (ρ : Rho) : ev Γ (.bl i) ρ = .ok (.bl i) := by rw [ev]
@[simp] theorem v_non (ρ : Rho) : ev Γ .non ρ = .ok .non := by rw [ev]
@[simp] theorem v_str (s : Str) (ρ : Rho) : ev Γ (.str s) ρ = .ok (.str s) := by rw [ev]
@[simp] theorem v_glob (x : Str) (i : Int) (ρ : Rho) : ev Γ (.glob x i) ρ = .ok (.int i) := by rw [ev]
@[simp] theorem v_bin (o : Op) (a b : E) (ρ : Rho) : ev Γ (.bin o a b) ρ = (ev Γ a ρ).bind fun x => (ev Γ b ρ).bind fun y => opD o x y := by rw [ev]
@[simp] theorem v_neg (a : E) (ρ : Rho) : ev Γ (.neg a) ρ = (ev Γ a ρ).bind negD := by rw [ev]
@[simp] theorem v_cmp (a cs : E) (ρ : Rho) : ev Γ (.cmp a cs) ρ = (ev Γ a (shareAll ρ)).bind fun x => (evc Γ cs (shareAll ρ) x).bind fun b => .ok (.bl b) := by rw [ev]
@[simp] theorem v_and (es : E) (ρ : Rho) : ev Γ (.and es) ρ = (eva Γ es (shareAll ρ)).bind fun b => .ok (.bl b) := by rw [ev]
@[simp] theorem v_or (es : E) (ρ : Rho) : ev Γ (.or es) ρ = (evo Γ es (shareAll ρ)).bind fun b => .ok (.bl b) := by rw [ev]
@[simp] theorem v_not (a : E) (ρ : Rho) : ev Γ (.not a) ρ = ((ev Γ a (shareAll ρ)).bind toB).bind fun t => .ok (.bl !t) := by rw [ev]
@[simp] theorem v_ite (c a b : E) (ρ : Rho) : ev Γ (.ite c a b) ρ = ((ev Γ c (shareAll ρ)).bind toB).bind fun t => if t = true then ev Γ a ρ else ev Γ b ρ := by rw [ev]
@[simp] theorem v_idx (a i : E) (ρ : Rho) : ev Γ (.idx a i) ρ = (base a ρ (ev Γ a ρ)).bind fun x => (ev Γ i ρ).bind fun y => idxD x y := by rw [ev]
@[simp] theorem v_sli (s : Stp) (a lo hi : E) (ρ : Rho) : ev Γ (.sli s a lo hi) ρ = (base a ρ (ev Γ a ρ)).bind fun x => (optI (evs Γ lo ρ)).bind fun l => (optI (evs Γ hi ρ)).bind fun h => sliD s x l h := by rw [ev]
@[simp] theorem v_tup (es : E) (ρ : Rho) : ev Γ (.tup es) ρ = (evs Γ es ρ).bind fun ds => if ds.length ≤ cap then .ok (.tup ds) else .bad := by rw [ev]
@[simp] theorem v_lst (es : E) (ρ : Rho) : ev Γ (.lst es) ρ = (evs Γ es ρ).bind fun ds => mkL ds := by rw [ev]
@[simp] theorem v_comp (elt : E) (t : Tg) (it cd : E) (own : List Nat) (ρ : Rho) : ev Γ (.comp elt t it cd own) ρ = ((ev Γ it ρ).bind itemsD).bind fun items => (noX (compR (compF Γ elt t cd own ρ) items)).bind mkL := by rw [ev]; rfl
@[simp] theorem v_call (f : Nat) (es : E) (ρ : Rho) : ev Γ (.call f es) ρ = (evs Γ es ρ).bind fun ds => Γ f (olds ds) := by rw [ev]
@[simp] theorem v_bi (b : Bi) (es : E) (ρ : Rho) : ev Γ (.bi b es) ρ = if b.atom = true then (evs Γ es (shareAll ρ)).bind (biD b) else (evs Γ es ρ).bind (biD b) := by rw [ev]
@[simp] theorem v_isi (a : E) (t : Ty) (ρ : Rho) : ev Γ (.isi a t) ρ = (ev Γ a (shareAll ρ)).bind fun x => (isiD x t).bind fun b => .ok (.bl b) := by rw [ev]
@[simp] theorem v_attr (a : E) (f : Nat) (ρ : Rho) : ev Γ (.attr a f) ρ = (ev Γ a ρ).bind fun x => (okO (f / 8) x).bind fun _ => attrD x (f % 8) := by rw [ev]
@[simp] theorem v_sets (o : Bool) (a : E) (ρ : Rho) : ev Γ (.sets o a) ρ = (ev Γ a ρ).bind fun x => (setL x).bind fun ns => if o = true then .ok (.lst true ((sortI ns).map .int)) else .ok (.int (ddI ns).length) := by rw [ev]
@[simp] theorem v_isk (a : E) (k : Nat) (ρ : Rho) : ev Γ (.isk a k) ρ = (ev Γ a (shareAll ρ)).bind fun x => (okO (k / 8) x).bind fun c => .ok (.bl (isa c (k % 8))) := by rw [ev]
@[simp] theorem v_meth (m : Nat) (a es : E) (ρ : Rho) : ev Γ (.meth m a es) ρ = (ev Γ a ρ).bind fun x => (okO (m % 16) x).bind fun c => (evs Γ es ρ).bind fun ds => noX (Γ (m / 16 + c) (olds (x :: ds))) := by rw [ev]
@[simp] theorem v_mk (c : Nat) (es : E) (ρ : Rho) : ev Γ (.mk c es) ρ = (evs Γ es ρ).bind (mkD c) := by rw [ev]
@[simp] theorem v_index (a x : E) (ρ : Rho) : ev Γ (.index a x) ρ = (base a ρ (ev Γ a ρ)).bind fun c => (lstD c).bind fun ds => (ev Γ x ρ).bind fun d => indexD (.lst true ds) d := by rw [ev]
@[simp] theorem v_lrng (a : E) (ρ : Rho) : ev Γ (.lrng a) ρ = (ev Γ a ρ).bind fun x => (rangeD [x]).bind mkL := by rw [ev]
@[simp] theorem v_seq (a : E) (ρ : Rho) : ev Γ (.seq a) ρ = ((ev Γ a ρ).bind itemsD).bind fun xs => .ok (.lst true xs) := by rw [ev]
@[simp] theorem v_rng (es : E) (ρ : Rho) : ev Γ (.rng es) ρ = ((evs Γ es ρ).bind rangeD).bind fun xs => .ok (.lst true xs) := by rw [ev]
@[simp] theorem v_enum (a : E) (ρ : Rho) : ev Γ (.enum a) ρ = ((ev Γ a ρ).bind lstD).bind fun xs => .ok (.lst true (xs.zipIdx.map fun p => .tup [.int (p.2 : Nat), p.1])) := by rw [ev]
@[simp] theorem v_zip (a b : E) (ρ : Rho) : ev Γ (.zip a b) ρ = ((ev Γ a ρ).bind lstD).bind fun xs => ((ev Γ b ρ).bind lstD).bind fun ys => .ok (.lst true ((xs.zip ys).map fun p => .tup [p.1, p.2])) := by rw [ev]
@[simp] theorem vs_nil (ρ : Rho) : evs Γ .nil ρ = .ok [] := by rw [evs]
@[simp] theorem vs_cons (a es : E) (ρ : Rho) : evs Γ (.cons a es) ρ = (ev Γ a ρ).bind fun d => (evs Γ es ρ).bind fun ds => .ok (d :: ds) := by rw [evs]
@[simp] theorem va_nil (ρ : Rho) : eva Γ .nil ρ = .ok true := by rw [eva]
@[simp] theorem va_cons (a es : E) (ρ : Rho) : eva Γ (.cons a es) ρ = ((ev Γ a ρ).bind toB).bind fun t => if t = true then eva Γ es ρ else .ok false := by rw [eva]
@[simp] theorem vo_nil (ρ : Rho) : evo Γ .nil ρ = .ok false := by rw [evo]
@[simp] theorem vo_cons (a es : E) (ρ : Rho) : evo Γ (.cons a es) ρ = ((ev Γ a ρ).bind toB).bind fun t => if t = true then .ok true else evo Γ es ρ := by rw [evo]
@[simp] theorem vc_last (c : Cm) (b : E) (ρ : Rho) (x : D) : evc Γ (.ccons c b .cnil) ρ x = (ev Γ b ρ).bind fun y => cmpD c x y := by
  rw [evc]
  cases ev Γ b ρ <;> simp [R.bind, isCnil]
  cases cmpD c x _ <;> rfl
@[simp] theorem vc_more (c : Cm) (b : E) (c' : Cm) (b' cs : E) (ρ : Rho) (x : D) : evc Γ (.ccons c b (.ccons c' b' cs)) ρ x = (ev Γ b ρ).bind fun y => (cmpD c x y).bind fun t => if t = true then evc Γ (.ccons c' b' cs) ρ y else .ok false := by
  rw [evc]; rfl
end
@[simp] theorem toB_bl (b : Bool) : toB (.bl b) = .ok b := rfl
@[simp] theorem itemsD_lst (f : Bool) (xs : List D) : itemsD (.lst f xs) = .ok xs := rfl
@[simp] theorem itemsD_tup (xs : List D) : itemsD (.tup xs) = .ok xs := rfl
@[simp] theorem lstD_lst (f : Bool) (xs : List D) : lstD (.lst f xs) = .ok xs := rfl
@[simp] theorem shareAll_nil : shareAll [] = [] := rfl
@[simp] theorem shareAll_cons (s : Sl) (ρ : Rho) : shareAll (s :: ρ) = s.share :: shareAll ρ := rfl
@[simp] theorem share_no : Sl.share .no = .no := rfl
@[simp] theorem share_val (d : D) : Sl.share (.val d) = .val d := rfl
@[simp] theorem share_own (ds : List D) : Sl.share (.own ds) = .val (.lst true ds) := rfl
@[simp] theorem shareAt_nil (ρ : Rho) : shareAt ρ [] = ρ := rfl
@[simp] theorem shareAt_cons (ρ : Rho) (i : Nat) (is : List Nat) : shareAt ρ (i :: is) = shareAt (ρ.set i (ρ.getD i .no).share) is := rfl
@[simp] theorem wipe_nil (ρ : Rho) : wipeR ρ [] = ρ := rfl
@[simp] theorem wipe_cons (ρ : Rho) (v : Nat) (vs : List Nat) : wipeR ρ (v :: vs) = (wipeR ρ vs).set v .no := rfl
@[simp] theorem bind_nm (i : Nat) (d : D) (ρ : Rho) : bindT (.nm i) d ρ = some (ρ.set i (.val d)) := by rw [bindT]
@[simp] theorem bind_tp (ts : Tg) (ds : List D) (ρ : Rho) : bindT (.tp ts) (.tup ds) ρ = bindTs ts ds ρ := by rw [bindT]
@[simp] theorem binds_nil (ρ : Rho) : bindTs .nil [] ρ = some ρ := by rw [bindTs]
@[simp] theorem binds_cons (t ts : Tg) (d : D) (ds : List D) (ρ : Rho) : bindTs (.cons t ts) (d :: ds) ρ = (bindT t d ρ).bind (bindTs ts ds) := by
  rw [bindTs]; cases bindT t d ρ <;> rfl
@[simp] theorem noX_ok {α : Type} (a : α) : noX (R.ok a) = .ok a := rfl
@[simp] theorem negD_int (i : Int) : negD (.int i) = .ok (.int (-i)) := rfl
@[simp] theorem optI_nil : optI (.ok []) = .ok none := rfl
@[simp] theorem optI_one (i : Int) : optI (.ok [.int i]) = .ok (some i) := rfl
@[simp] theorem isCnil_nil : isCnil .cnil = true := rfl
section
@[simp] theorem e_var (i : Nat) : esc (.var i) = [i] := by rw [esc]
@[simp] theorem e_bin (o : Op) (a b : E) : esc (.bin o a b) = esc a ++ esc b := by rw [esc]
@[simp] theorem e_neg (a : E) : esc (.neg a) = esc a := by rw [esc]
@[simp] theorem e_ite (c a b : E) : esc (.ite c a b) = esc a ++ esc b := by rw [esc]
@[simp] theorem e_idx (a b : E) : esc (.idx a b) = escB a ++ esc b := by rw [esc]
@[simp] theorem e_sli (s : Stp) (a b c : E) : esc (.sli s a b c) = escB a ++ esc b ++ esc c := by rw [esc]
@[simp] theorem e_tup (a : E) : esc (.tup a) = esc a := by rw [esc]
@[simp] theorem e_lst (a : E) : esc (.lst a) = esc a := by rw [esc]
@[simp] theorem e_cons (a b : E) : esc (.cons a b) = esc a ++ esc b := by rw [esc]
@[simp] theorem e_comp (a : E) (t : Tg) (b c : E) (l : List Nat) : esc (.comp a t b c l) = esc b ++ esc a := by rw [esc]
@[simp] theorem e_lrng (a : E) : esc (.lrng a) = esc a := by rw [esc]
@[simp] theorem e_seq (a : E) : esc (.seq a) = esc a := by rw [esc]
@[simp] theorem e_rng (a : E) : esc (.rng a) = esc a := by rw [esc]
@[simp] theorem e_enum (a : E) : esc (.enum a) = esc a := by rw [esc]
@[simp] theorem e_zip (a b : E) : esc (.zip a b) = esc a ++ esc b := by rw [esc]
@[simp] theorem e_call (f : Nat) (a : E) : esc (.call f a) = esc a := by rw [esc]
@[simp] theorem e_bi (b : Bi) (a : E) : esc (.bi b a) = if b.atom then [] else esc a := by rw [esc]
@[simp] theorem e_attr (a : E) (f : Nat) : esc (.attr a f) = esc a := by rw [esc]
@[simp] theorem e_mk (c : Nat) (a : E) : esc (.mk c a) = esc a := by rw [esc]
@[simp] theorem e_index (a b : E) : esc (.index a b) = escB a ++ esc b := by rw [esc]
@[simp] theorem e_int (i : Int) : esc (.int i) = [] := by rw [esc]
@[simp] theorem e_bl (i : Bool) : esc (.bl i) = [] := by rw [esc]
@[simp] theorem e_non : esc .non = [] := by rw [esc]
@[simp] theorem e_str (s : Str) : esc (.str s) = [] := by rw [esc]
@[simp] theorem e_glob (s : Str) (i : Int) : esc (.glob s i) = [] := by rw [esc]
@[simp] theorem e_cmp (a b : E) : esc (.cmp a b) = [] := by rw [esc]
@[simp] theorem e_and (a : E) : esc (.and a) = [] := by rw [esc]
@[simp] theorem e_or (a : E) : esc (.or a) = [] := by rw [esc]
@[simp] theorem e_not (a : E) : esc (.not a) = [] := by rw [esc]
@[simp] theorem e_nil : esc .nil = [] := by rw [esc]
@[simp] theorem e_sets (o : Bool) (a : E) : esc (.sets o a) = esc a := by rw [esc]
@[simp] theorem e_isk (a : E) (t : Nat) : esc (.isk a t) = [] := by rw [esc]
@[simp] theorem e_meth (m : Nat) (a b : E) : esc (.meth m a b) = esc a ++ esc b := by rw [esc]
@[simp] theorem e_isi (a : E) (t : Ty) : esc (.isi a t) = [] := by rw [esc]
@[simp] theorem f_var (i : Nat) : escB (.var i) = [] := by rw [escB]
@[simp] theorem f_bin (o : Op) (a b : E) : escB (.bin o a b) = esc a ++ esc b := by rw [escB]
@[simp] theorem f_ite (c a b : E) : escB (.ite c a b) = esc a ++ esc b := by rw [escB]
@[simp] theorem f_idx (a b : E) : escB (.idx a b) = escB a ++ esc b := by rw [escB]
@[simp] theorem f_sli (s : Stp) (a b c : E) : escB (.sli s a b c) = escB a ++ esc b ++ esc c := by rw [escB]
@[simp] theorem f_tup (a : E) : escB (.tup a) = esc a := by rw [escB]
@[simp] theorem f_lst (a : E) : escB (.lst a) = esc a := by rw [escB]
@[simp] theorem f_comp (a : E) (t : Tg) (b c : E) (l : List Nat) : escB (.comp a t b c l) = esc b ++ esc a := by rw [escB]
@[simp] theorem f_call (f : Nat) (a : E) : escB (.call f a) = esc a := by rw [escB]
@[simp] theorem f_bi (b : Bi) (a : E) : escB (.bi b a) = if b.atom then [] else esc a := by rw [escB]
@[simp] theorem f_attr (a : E) (f : Nat) : escB (.attr a f) = esc a := by rw [escB]
end
@[simp] theorem at_len : Bi.atom .len = true := rfl
@[simp] theorem at_sum : Bi.atom .sum = true := rfl
@[simp] theorem at_abs : Bi.atom .abs = true := rfl
@[simp] theorem at_min2 : Bi.atom .min2 = true := rfl
@[simp] theorem at_max2 : Bi.atom .max2 = true := rfl
@[simp] theorem at_minl : Bi.atom .minl = true := rfl
@[simp] theorem at_maxl : Bi.atom .maxl = true := rfl
@[simp] theorem at_all : Bi.atom .all = true := rfl
@[simp] theorem at_any : Bi.atom .any = true := rfl
@[simp] theorem at_sorted : Bi.atom .sorted = false := rfl
@[simp] theorem at_list : Bi.atom .list = false := rfl
@[simp] theorem isi_int_int (i : Int) : isiD (.int i) .int = .ok true := rfl
@[simp] theorem isi_int_bool (i : Int) : isiD (.int i) .bool = .ok false := rfl
@[simp] theorem isi_int_list (i : Int) : isiD (.int i) .list = .ok false := rfl
@[simp] theorem isi_int_tuple (i : Int) : isiD (.int i) .tuple = .ok false := rfl
@[simp] theorem isi_bl_int (i : Bool) : isiD (.bl i) .int = .ok true := rfl
@[simp] theorem isi_bl_bool (i : Bool) : isiD (.bl i) .bool = .ok true := rfl
@[simp] theorem isi_lst_list (f : Bool) (xs : List D) : isiD (.lst f xs) .list = .ok true := rfl
@[simp] theorem isi_lst_tuple (f : Bool) (xs : List D) : isiD (.lst f xs) .tuple = .ok false := rfl
@[simp] theorem isi_tup_tuple (xs : List D) : isiD (.tup xs) .tuple = .ok true := rfl
@[simp] theorem isi_tup_list (xs : List D) : isiD (.tup xs) .list = .ok false := rfl
@[simp] theorem isi_tup_int (xs : List D) : isiD (.tup xs) .int = .ok false := rfl
@[simp] theorem isi_lst_int (f : Bool) (xs : List D) : isiD (.lst f xs) .int = .ok false := rfl
@[simp] theorem isi_obj (c k : Nat) (xs : List D) : isiD (.obj c xs) (.own k) = .ok (isa c k) := rfl
@[simp] theorem bi_len (f : Bool) (xs : List D) : biD .len [.lst f xs] = .ok (.int xs.length) := rfl
@[simp] theorem bi_lent (xs : List D) : biD .len [.tup xs] = .ok (.int xs.length) := rfl
@[simp] theorem bi_lens (xs : List Int) : biD .len [.scr xs] = .ok (.int xs.length) := rfl
@[simp] theorem bi_abs (i : Int) : biD .abs [.int i] = .ok (.int (if i < 0 then -i else i)) := rfl
@[simp] theorem bi_min2 (i j : Int) : biD .min2 [.int i, .int j] = .ok (.int (if j < i then j else i)) := rfl
@[simp] theorem bi_max2 (i j : Int) : biD .max2 [.int i, .int j] = .ok (.int (if i < j then j else i)) := rfl
@[simp] theorem bi_list (f : Bool) (xs : List D) : biD .list [.lst f xs] = mkL xs := rfl
@[simp] theorem bi_listt (xs : List D) : biD .list [.tup xs] = mkL xs := rfl
@[simp] theorem bi_sorted (f : Bool) (xs : List D) : biD .sorted [.lst f xs] = sortedD xs := rfl
theorem bi_sum {f : Bool} {xs : List D} {ns : List Int} (h : intsD xs = some ns) : biD .sum [.lst f xs] = .ok (.int ns.sum) := by simp only [biD, h]
theorem bi_all {f : Bool} {xs : List D} {ns : List Bool} (h : blsD xs = some ns) : biD .all [.lst f xs] = .ok (.bl (ns.all id)) := by simp only [biD, h]
theorem bi_any {f : Bool} {xs : List D} {ns : List Bool} (h : blsD xs = some ns) : biD .any [.lst f xs] = .ok (.bl (ns.any id)) := by simp only [biD, h]
theorem intsD_map {α : Type} (g : α → Int) : ∀ l : List α, intsD (l.map fun x => .int (g x)) = some (l.map g)
  | [] => rfl
  | x :: l => by simp only [List.map_cons, intsD, intsD_map g l, Option.map_some]
theorem blsD_map {α : Type} (g : α → Bool) : ∀ l : List α, blsD (l.map fun x => .bl (g x)) = some (l.map g)
  | [] => rfl
  | x :: l => by simp only [List.map_cons, blsD, blsD_map g l, Option.map_some]
@[simp] theorem sum_map {α : Type} (f : Bool) (g : α → Int) (l : List α) : biD .sum [.lst f (l.map fun x => .int (g x))] = .ok (.int (l.map g).sum) := bi_sum (intsD_map g l)
@[simp] theorem all_map {α : Type} (f : Bool) (g : α → Bool) (l : List α) : biD .all [.lst f (l.map fun x => .bl (g x))] = .ok (.bl (l.all g)) := by
  rw [bi_all (blsD_map g l), List.all_map]; rfl
@[simp] theorem any_map {α : Type} (f : Bool) (g : α → Bool) (l : List α) : biD .any [.lst f (l.map fun x => .bl (g x))] = .ok (.bl (l.any g)) := by
  rw [bi_any (blsD_map g l), List.any_map]; rfl
@[simp] theorem op_add (i j : Int) : opD .add (.int i) (.int j) = .ok (.int (i + j)) := rfl
@[simp] theorem op_addl (f g : Bool) (xs ys : List D) : opD .add (.lst f xs) (.lst g ys) = mkL (xs ++ ys) := rfl
@[simp] theorem op_sub (i j : Int) : opD .sub (.int i) (.int j) = .ok (.int (i - j)) := rfl
theorem op_mul_i {i j : Int} (h : (small i || small j) = true) : opD .mul (.int i) (.int j) = .ok (.int (i * j)) := if_pos h
theorem op_div_i {i j : Int} (h1 : 0 < j) (h2 : j < 1073741824) : opD .fdiv (.int i) (.int j) = .ok (.int (i / j)) := if_pos (by simp [h1, h2])
theorem op_mod_i {i j : Int} (h1 : 0 < j) : opD .mod (.int i) (.int j) = .ok (.int (i % j)) := if_pos h1
@[simp] theorem cq_eq (a b : D) : cmpD .eq a b = eqD a b := by rw [cmpD]
@[simp] theorem cq_ne (a b : D) : cmpD .ne a b = neg (eqD a b) := by rw [cmpD]
@[simp] theorem cq_in (a b : D) : cmpD .isin a b = inD a b := by rw [cmpD]
@[simp] theorem cq_nin (a b : D) : cmpD .notin a b = neg (inD a b) := by rw [cmpD]
@[simp] theorem cq_lt (i j : Int) : cmpD .lt (.int i) (.int j) = .ok (decide (i < j)) := rfl
@[simp] theorem cq_le (i j : Int) : cmpD .le (.int i) (.int j) = .ok (decide (i ≤ j)) := rfl
@[simp] theorem cq_gt (i j : Int) : cmpD .gt (.int i) (.int j) = .ok (decide (j < i)) := rfl
@[simp] theorem cq_ge (i j : Int) : cmpD .ge (.int i) (.int j) = .ok (decide (j ≤ i)) := rfl
@[simp] theorem cq_gep (a b c d : Int) : cmpD .ge (.tup [.int a, .int b]) (.tup [.int c, .int d]) = .ok (if a = c then decide (d ≤ b) else decide (c ≤ a)) := rfl
@[simp] theorem cq_is (a b : Bool) : cmpD .is (.bl a) (.bl b) = .ok (decide (a = b)) := rfl
@[simp] theorem cq_isnot (a b : Bool) : cmpD .isnot (.bl a) (.bl b) = .ok (!decide (a = b)) := rfl
@[simp] theorem ng_ok (b : Bool) : neg (.ok b) = .ok (!b) := rfl
theorem ml_ok {ds : List D} (h : ds.length ≤ cap) : mkL ds = .ok (.lst true ds) := if_pos h

/-! ### plain things, and how they are compared -/
theorem shaped_of {d : PyData} (h : d.canLay0 = true) (k : d.depth ≤ 64) : SeqAt.shaped d = true := by simp [SeqAt.shaped, h, k]
structure Ok (k : Nat) (d : D) : Prop where
  lay : d.py.canLay0 = true
  dep : d.py.depth ≤ k
theorem Ok.mono {k m : Nat} {d : D} (h : Ok k d) (e : k ≤ m) : Ok m d := ⟨h.lay, Nat.le_trans h.dep e⟩
theorem Ok.shaped {k : Nat} {d : D} (h : Ok k d) (e : k ≤ 64) : SeqAt.shaped d.py = true := shaped_of h.lay (Nat.le_trans h.dep e)
theorem ok_int {k : Nat} (i : Int) : Ok k (.int i) := ⟨by simp [D.py, PyData.canLay0], by simp [D.py, PyData.depth]⟩
theorem ok_bl {k : Nat} (i : Bool) : Ok k (.bl i) := ⟨by simp [D.py, PyData.canLay0], by simp [D.py, PyData.depth]⟩
theorem ok_non {k : Nat} : Ok k .non := ⟨by simp [D.py, PyData.canLay0], by simp [D.py, PyData.depth]⟩
theorem oks {k : Nat} : ∀ {xs : List D}, (∀ x ∈ xs, Ok k x) → PyData.canLayAll0 (pys xs) = true ∧ PyData.depthAll (pys xs) ≤ k
  | [], _ => ⟨by simp [pys, PyData.canLayAll0], by simp [pys, PyData.depthAll]⟩
  | x :: xs, h => by
    have a := h x List.mem_cons_self
    have b := oks fun y hy => h y (List.mem_cons_of_mem _ hy)
    exact ⟨by simp [pys, PyData.canLayAll0, a.lay, b.1], by simp only [pys, PyData.depthAll]; exact Nat.max_le.mpr ⟨a.dep, b.2⟩⟩
theorem ok_lst {k : Nat} {f : Bool} {xs : List D} (h : ∀ x ∈ xs, Ok k x) : Ok (k + 1) (.lst f xs) := by
  have := oks h
  exact ⟨by simp [D.py, PyData.canLay0, this.1], by simp only [D.py, PyData.depth]; omega⟩
theorem ok_tup {k : Nat} {xs : List D} (h : ∀ x ∈ xs, Ok k x) : Ok (k + 1) (.tup xs) := by
  have := oks h
  exact ⟨by simp [D.py, PyData.canLay0, this.1], by simp only [D.py, PyData.depth]; omega⟩
theorem eqD_of {a b : D} {k : Nat} (ha : Ok k a) (hb : Ok k b) (hk : k ≤ 64) : eqD a b = .ok (PyData.eqv a.py b.py) := if_pos (by rw [ha.shaped hk, hb.shaped hk]; rfl)
theorem eqD_same {a b : D} {k : Nat} (ha : Ok k a) (hk : k ≤ 64) (h : a.py = b.py) : eqD a b = .ok true := by
  have hb : Ok k b := ⟨h ▸ ha.lay, h ▸ ha.dep⟩
  rw [eqD_of ha hb hk, ← h, SeqAt.eqv_refl a.py ha.lay]
theorem pys_length : ∀ xs : List D, (pys xs).length = xs.length
  | [] => rfl
  | x :: xs => by simp [pys, pys_length xs]
end Wt
/-! ## Lists of things that are written down -/
namespace Wt
open PySem L2
/-- a way of writing that is looked at by equality -/
structure Faith {α : Type} [DecidableEq α] (k : Nat) (enc : α → D) : Prop where
  eqv : ∀ a b, PyData.eqv (enc a).py (enc b).py = decide (a = b)
  ok : ∀ a, Ok k (enc a)
  old : ∀ a, (enc a).old = enc a
theorem Faith.eqD {α : Type} [DecidableEq α] {k : Nat} {enc : α → D} (h : Faith k enc) (hk : k ≤ 64) (a b : α) : eqD (enc a) (enc b) = .ok (decide (a = b)) := by
  rw [eqD_of (h.ok a) (h.ok b) hk, h.eqv]
theorem eqvAll_map {α : Type} [DecidableEq α] {k : Nat} {enc : α → D} (h : Faith k enc) : ∀ l m : List α, PyData.eqvAll (pys (l.map enc)) (pys (m.map enc)) = decide (l = m)
  | [], [] => by simp [pys, PyData.eqvAll]
  | [], y :: m => by simp [pys, PyData.eqvAll]
  | x :: l, [] => by simp [pys, PyData.eqvAll]
  | x :: l, y :: m => by
    simp only [List.map_cons, pys, PyData.eqvAll, h.eqv, eqvAll_map h l m, List.cons.injEq]
    by_cases a : x = y <;> by_cases b : l = m <;> simp [a, b]
theorem any_py {α : Type} [DecidableEq α] {k : Nat} {enc : α → D} (h : Faith k enc) (a : α) : ∀ l : List α, ((pys (l.map enc)).any fun z => PyData.eqv z (enc a).py) = decide (a ∈ l)
  | [] => by simp [pys]
  | x :: l => by
    simp only [List.map_cons, pys, List.any_cons, h.eqv, any_py h a l, List.mem_cons]
    by_cases e : x = a
    · simp [e]
    · have : a ≠ x := fun z => e z.symm
      by_cases b : a ∈ l <;> simp [e, b, this]
theorem Faith.oks {α : Type} [DecidableEq α] {k : Nat} {enc : α → D} (h : Faith k enc) (l : List α) : ∀ x ∈ l.map enc, Ok k x := by
  intro x hx
  obtain ⟨a, _, rfl⟩ := List.mem_map.mp hx
  exact h.ok a
theorem Faith.inD {α : Type} [DecidableEq α] {k : Nat} {enc : α → D} (h : Faith k enc) (hk : k < 64) (a : α) (f : Bool) (l : List α) : inD (enc a) (.lst f (l.map enc)) = .ok (decide (a ∈ l)) := by
  have h1 := (h.ok a).shaped (Nat.le_of_lt hk)
  have h2 := (ok_lst (f := f) (h.oks l)).shaped hk
  simp only [D.py] at h2
  unfold Wt.inD
  simp only [h1, h2, Bool.and_self, if_true]
  rw [any_py h a l]
theorem Faith.inT {α : Type} [DecidableEq α] {k : Nat} {enc : α → D} (h : Faith k enc) (hk : k < 64) (a : α) (l : List α) : Wt.inD (enc a) (.tup (l.map enc)) = .ok (decide (a ∈ l)) := by
  have h1 := (h.ok a).shaped (Nat.le_of_lt hk)
  have h2 := (ok_lst (f := true) (h.oks l)).shaped hk
  simp only [D.py] at h2
  unfold Wt.inD
  simp only [h1, h2, Bool.and_self, if_true]
  rw [any_py h a l]
theorem olds_map {α : Type} {enc : α → D} (h : ∀ a, (enc a).old = enc a) : ∀ l : List α, olds (l.map enc) = l.map enc
  | [] => rfl
  | x :: l => by simp only [List.map_cons, olds, h, olds_map h l]
@[simp] theorem old_non : D.old .non = .non := by rw [D.old]
@[simp] theorem old_bl (b : Bool) : D.old (.bl b) = .bl b := by rw [D.old]
@[simp] theorem old_int (b : Int) : D.old (.int b) = .int b := by rw [D.old]
@[simp] theorem old_str (b : Str) : D.old (.str b) = .str b := by rw [D.old]
@[simp] theorem old_tup (xs : List D) : D.old (.tup xs) = .tup (olds xs) := by rw [D.old]
@[simp] theorem old_lst (f : Bool) (xs : List D) : D.old (.lst f xs) = .lst false (olds xs) := by rw [D.old]
@[simp] theorem old_obj (c : Nat) (xs : List D) : D.old (.obj c xs) = .obj c (olds xs) := by rw [D.old]
@[simp] theorem old_scr (ns : List Int) : D.old (.scr ns) = .scr ns := by rw [D.old]
@[simp] theorem olds_nil : olds [] = [] := by rw [olds]
@[simp] theorem olds_cons (x : D) (xs : List D) : olds (x :: xs) = x.old :: olds xs := by rw [olds]
theorem faith_int : Faith 0 D.int := ⟨fun a b => by simp only [D.py, PyData.eqv]; by_cases h : a = b <;> simp [h], fun a => ok_int a, fun a => by simp⟩
/-- a number -/
def iN (n : Nat) : D := .int (n : Int)
theorem faith_iN : Faith 0 iN := ⟨fun a b => by simp only [iN, D.py, PyData.eqv]; by_cases h : a = b <;> simp [h] <;> omega, fun a => ok_int _, fun a => by simp [iN]⟩
/-- a pair of numbers: a tie -/
def tieD (p : Nat × Nat) : D := .tup [iN p.1, iN p.2]
theorem faith_tie : Faith 1 tieD := ⟨fun a b => by
    simp only [tieD, iN, D.py, pys, PyData.eqv, PyData.eqvAll]
    obtain ⟨a1, a2⟩ := a
    obtain ⟨b1, b2⟩ := b
    by_cases h : a1 = b1 <;> by_cases k : a2 = b2 <;> simp [h, k] <;> omega, fun a => ok_tup (by simp [iN]; exact ⟨ok_int _, ok_int _⟩), fun a => by simp [tieD, iN]⟩
def iZ (p : Int × Int) : D := .tup [.int p.1, .int p.2]
theorem faith_iZ : Faith 1 iZ := ⟨fun a b => by
    simp only [iZ, D.py, pys, PyData.eqv, PyData.eqvAll]
    obtain ⟨a1, a2⟩ := a
    obtain ⟨b1, b2⟩ := b
    by_cases h : a1 = b1 <;> by_cases k : a2 = b2 <;> simp [h, k], fun a => ok_tup (by simp; exact ⟨ok_int _, ok_int _⟩), fun a => by simp [iZ]⟩
/-- lists, new or not, are equal just where their things are -/
theorem Faith.lsts {α : Type} [DecidableEq α] {k : Nat} {enc : α → D} (h : Faith k enc) (hk : k < 64) (f g : Bool) (l m : List α) : Wt.eqD (.lst f (l.map enc)) (.lst g (m.map enc)) = .ok (decide (l = m)) := by
  rw [eqD_of (ok_lst (h.oks l)) (ok_lst (h.oks m)) hk]
  simp only [D.py, PyData.eqv]
  rw [eqvAll_map h]
theorem Faith.lst {α : Type} [DecidableEq α] {k : Nat} {enc : α → D} (h : Faith k enc) : Faith (k + 1) fun l : List α => D.lst false (l.map enc) :=
  ⟨fun a b => by simp only [D.py, PyData.eqv]; exact eqvAll_map h a b, fun a => ok_lst (h.oks a), fun a => by simp [olds_map (enc := enc) (fun a => h.old a)]⟩
theorem Faith.tups {α : Type} [DecidableEq α] {k : Nat} {enc : α → D} (h : Faith k enc) : Faith (k + 1) fun l : List α => D.tup (l.map enc) :=
  ⟨fun a b => by simp only [D.py, PyData.eqv]; exact eqvAll_map h a b, fun a => ok_tup (h.oks a), fun a => by simp [olds_map (enc := enc) (fun a => h.old a)]⟩
/-! ### comprehensions and loops -/
theorem compR_map {α : Type} {enc : α → D} {f : D → R (Option D)} {p : α → Bool} {g : α → D} : ∀ {l : List α}, (∀ x ∈ l, f (enc x) = .ok (if p x = true then some (g x) else none)) → compR f (l.map enc) = .ok ((l.filter p).map g)
  | [], _ => rfl
  | x :: l, h => by
    rw [List.map_cons, compR, h x List.mem_cons_self, compR_map fun y hy => h y (List.mem_cons_of_mem _ hy)]
    cases e : p x <;> simp [e]
theorem compR_all {α : Type} {enc : α → D} {f : D → R (Option D)} {g : α → D} : ∀ {l : List α}, (∀ x ∈ l, f (enc x) = .ok (some (g x))) → compR f (l.map enc) = .ok (l.map g)
  | [], _ => rfl
  | x :: l, h => by
    rw [List.map_cons, compR, h x List.mem_cons_self, compR_all fun y hy => h y (List.mem_cons_of_mem _ hy)]
    simp
theorem compR_over {f : D → R (Option D)} {g : D → D} : ∀ {l : List D}, (∀ x ∈ l, f x = .ok (some (g x))) → compR f l = .ok (l.map g)
  | [], _ => rfl
  | x :: l, h => by
    rw [compR, h x List.mem_cons_self, compR_over fun y hy => h y (List.mem_cons_of_mem _ hy)]
    simp
theorem forR_pre {α : Type} {enc : α → D} {f : D → Rho → Out} (I : List α → Rho → Prop) : ∀ {l : List α} {ρ : Rho}, I [] ρ → (∀ pre x suf ρ, l = pre ++ x :: suf → I pre ρ → ∃ ρ', f (enc x) ρ = .nx ρ' ∧ I (pre ++ [x]) ρ') →
    ∃ ρ', forR f (l.map enc) ρ = .nx ρ' ∧ I l ρ'
  | [], ρ, h0, _ => ⟨ρ, rfl, h0⟩
  | x :: l, ρ, h0, hs => by
    obtain ⟨ρ1, e1, i1⟩ := hs [] x l ρ rfl h0
    obtain ⟨ρ2, e2, i2⟩ := forR_pre (fun pre => I (x :: pre)) (l := l) (ρ := ρ1) i1 fun pre y suf ρ' e i => by
      have := hs (x :: pre) y suf ρ' (by rw [e]; rfl) i
      simpa using this
    exact ⟨ρ2, by rw [List.map_cons, forR, e1]; exact e2, i2⟩
theorem forR_all {α : Type} {enc : α → D} {f : D → Rho → Out} (I : Rho → Prop) : ∀ {l : List α} {ρ : Rho}, I ρ → (∀ x ∈ l, ∀ ρ, I ρ → ∃ ρ', f (enc x) ρ = .nx ρ' ∧ I ρ') →
    ∃ ρ', forR f (l.map enc) ρ = .nx ρ' ∧ I ρ'
  | [], ρ, h0, _ => ⟨ρ, rfl, h0⟩
  | x :: l, ρ, h0, hs => by
    obtain ⟨ρ1, e1, i1⟩ := hs x List.mem_cons_self ρ h0
    obtain ⟨ρ2, e2, i2⟩ := forR_all I (l := l) i1 fun y hy => hs y (List.mem_cons_of_mem _ hy)
    exact ⟨ρ2, by rw [List.map_cons, forR, e1]; exact e2, i2⟩
@[simp] theorem forR_nil (f : D → Rho → Out) (ρ : Rho) : forR f [] ρ = .nx ρ := rfl
@[simp] theorem forR_cons (f : D → Rho → Out) (x : D) (xs : List D) (ρ : Rho) : forR f (x :: xs) ρ = nxO (f x ρ) (forR f xs) := rfl
theorem forR_append (f : D → Rho → Out) : ∀ (xs ys : List D) (ρ : Rho), forR f (xs ++ ys) ρ = nxO (forR f xs ρ) (forR f ys)
  | [], _, _ => rfl
  | x :: xs, ys, ρ => by
    simp only [List.cons_append, forR_cons]
    cases f x ρ with
    | nx ρ' => simp only [nxO_nx]; exact forR_append f xs ys ρ'
    | rt d => rfl
    | ex c => rfl
    | bad => rfl
/-! ### places -/
theorem ixn_nat {n j : Nat} (hj : j < n) : L2.ixN n (j : Int) = some j := by
  unfold L2.ixN
  rw [if_pos (by omega), if_pos (by omega)]
  simp
theorem idx_map {α : Type} {enc : α → D} {f : Bool} {l : List α} {i : Nat} (h : i < l.length) : idxD (.lst f (l.map enc)) (.int (i : Int)) = .ok (enc l[i]) := by
  have e : L2.ixN (l.map enc).length (i : Int) = some i := ixn_nat (by simpa using h)
  simp only [idxD, L2.atI, e]
  simp [List.getElem?_map, List.getElem?_eq_getElem h]
theorem idx_mapT {α : Type} {enc : α → D} {l : List α} {i : Nat} (h : i < l.length) : idxD (.tup (l.map enc)) (.int (i : Int)) = .ok (enc l[i]) := by
  have e : L2.ixN (l.map enc).length (i : Int) = some i := ixn_nat (by simpa using h)
  simp only [idxD, L2.atI, e]
  simp [List.getElem?_map, List.getElem?_eq_getElem h]
@[simp] theorem idx_pair0 (a b : D) : idxD (.tup [a, b]) (.int 0) = .ok a := rfl
@[simp] theorem idx_pair1 (a b : D) : idxD (.tup [a, b]) (.int 1) = .ok b := rfl
@[simp] theorem idx_l0 (f : Bool) (a : D) (as : List D) : idxD (.lst f (a :: as)) (.int 0) = .ok a := by
  unfold idxD L2.atI L2.ixN
  simp
theorem big_nat {n : Nat} (h : n ≤ cap) : okR (n : Int) = true := by
  unfold okR cap at *
  have e : (2 : Int) ^ 62 = 4611686018427387904 := by decide
  rw [e]
  simp only [Bool.and_eq_true, decide_eq_true_eq]
  omega
theorem rng_nat {n : Nat} (h : n ≤ cap) : rangeD [.int (n : Int)] = .ok ((List.range n).map iN) := by
  simp only [rangeD, big_nat h, if_true]
  simp [iN]
theorem rng_two {a b : Nat} (ha : a ≤ cap) (hb : b ≤ cap) : rangeD [.int (a : Int), .int (b : Int)] = .ok ((List.range (b - a)).map fun i => iN (a + i)) := by
  simp only [rangeD, big_nat ha, big_nat hb, Bool.and_self, if_true]
  have : ((b : Int) - (a : Int)).toNat = b - a := by omega
  rw [this]
  simp [iN]
theorem mean_succ {tab : Nat → Option Fd} {n f : Nat} {args : List D} {d : Fd} (h : tab f = some d) (hl : args.length = d.ps.length) (hn : d.nt = false := by rfl) : mean tab (n + 1) f args = runB (mean tab n) d.N.length d.body args := by
  simp only [mean, h, hn, Bool.false_eq_true, if_false, if_pos hl]
theorem mean_nat {tab : Nat → Option Fd} {n f : Nat} {args : List D} {d : Fd} (h : tab f = some d) (hn : d.nt = true := by rfl) : mean tab (n + 1) f args = Fpc args := by
  simp only [mean, h, hn, if_true]
theorem mlm {α : Type} {enc : α → D} {l : List α} (h : l.length ≤ cap) : mkL (l.map enc) = .ok (.lst true (l.map enc)) := ml_ok (by simpa using h)
end Wt
/-! ## Slots -/
namespace Wt
open PySem L2
@[simp] theorem n_bin (o : Op) (a b : E) : newTop (.bin o a b) = true := rfl
@[simp] theorem n_sli (s : Stp) (a b c : E) : newTop (.sli s a b c) = true := rfl
@[simp] theorem n_lst (a : E) : newTop (.lst a) = true := rfl
@[simp] theorem n_comp (a : E) (t : Tg) (b c : E) (l : List Nat) : newTop (.comp a t b c l) = true := rfl
@[simp] theorem n_call (f : Nat) (a : E) : newTop (.call f a) = true := rfl
@[simp] theorem n_bi (b : Bi) (a : E) : newTop (.bi b a) = true := rfl
@[simp] theorem n_lrng (a : E) : newTop (.lrng a) = true := rfl
@[simp] theorem n_var (i : Nat) : newTop (.var i) = false := rfl
@[simp] theorem n_int (i : Int) : newTop (.int i) = false := rfl
@[simp] theorem n_bl (i : Bool) : newTop (.bl i) = false := rfl
@[simp] theorem n_non : newTop .non = false := rfl
@[simp] theorem n_str (i : Str) : newTop (.str i) = false := rfl
@[simp] theorem n_glob (x : Str) (i : Int) : newTop (.glob x i) = false := rfl
@[simp] theorem n_neg (i : E) : newTop (.neg i) = false := rfl
@[simp] theorem n_cmp (a b : E) : newTop (.cmp a b) = false := rfl
@[simp] theorem n_and (a : E) : newTop (.and a) = false := rfl
@[simp] theorem n_or (a : E) : newTop (.or a) = false := rfl
@[simp] theorem n_not (a : E) : newTop (.not a) = false := rfl
@[simp] theorem n_ite (a b c : E) : newTop (.ite a b c) = false := rfl
@[simp] theorem n_idx (a b : E) : newTop (.idx a b) = false := rfl
@[simp] theorem n_tup (a : E) : newTop (.tup a) = false := rfl
@[simp] theorem n_isi (a : E) (t : Ty) : newTop (.isi a t) = false := rfl
@[simp] theorem n_attr (a : E) (t : Nat) : newTop (.attr a t) = false := rfl
@[simp] theorem n_mk (t : Nat) (a : E) : newTop (.mk t a) = false := rfl
@[simp] theorem n_index (a b : E) : newTop (.index a b) = false := rfl
def mkN : Bool → D → Sl
  | true, .lst true ds => .own ds
  | _, d => .val d
@[simp] theorem mkSl_eq (e : E) (d : D) : mkSl e d = mkN (newTop e) d := by
  unfold mkSl
  cases newTop e with
  | false => rfl
  | true =>
    cases d with
    | lst f ds => cases f <;> rfl
    | _ => rfl
@[simp] theorem mkN_own (ds : List D) : mkN true (.lst true ds) = .own ds := rfl
@[simp] theorem mkN_old (ds : List D) : mkN true (.lst false ds) = .val (.lst false ds) := rfl
@[simp] theorem mkN_no (d : D) : mkN false d = .val d := rfl
@[simp] theorem mkN_int (b : Bool) (i : Int) : mkN b (.int i) = .val (.int i) := by cases b <;> rfl
@[simp] theorem mkN_iN (b : Bool) (i : Nat) : mkN b (iN i) = .val (iN i) := by cases b <;> rfl
@[simp] theorem mkN_bl (b : Bool) (i : Bool) : mkN b (.bl i) = .val (.bl i) := by cases b <;> rfl
@[simp] theorem mkN_tup (b : Bool) (i : List D) : mkN b (.tup i) = .val (.tup i) := by cases b <;> rfl
@[simp] theorem mkN_non (b : Bool) : mkN b .non = .val .non := by cases b <;> rfl
def ownS (s : Sl) (o : Out) : Out := match s with | .own _ => o | _ => .bad
@[simp] theorem ownS_own (ds : List D) (o : Out) : ownS (.own ds) o = o := rfl
@[simp] theorem ownAt_eq (ρ : Rho) (x : Nat) (o : Out) : ownAt ρ x o = ownS (ρ.getD x .no) o := rfl
def setS (s : Sl) (j : D) (ρ : Rho) (x : Nat) (d : D) : Option Rho :=
  match s, j with
  | .own ds, .int m => (L2.ixN ds.length m).map fun n => ρ.set x (.own (ds.set n d))
  | _, _ => none
@[simp] theorem setO_eq (ρ : Rho) (x : Nat) (j d : D) : setO ρ x j d = setS (ρ.getD x .no) j ρ x d := rfl
theorem setS_map {α : Type} {enc : α → D} {l : List α} {j x : Nat} {ρ : Rho} {v : α} (h : j < l.length) : setS (.own (l.map enc)) (.int (j : Int)) ρ x (enc v) = some (ρ.set x (.own ((l.set j v).map enc))) := by
  have e : L2.ixN (l.map enc).length (j : Int) = some j := ixn_nat (by simpa using h)
  simp only [setS, e, Option.map_some, List.map_set]
def appS (s : Sl) (ρ : Rho) (x : Nat) (d : D) : Option Rho :=
  match s with
  | .own ds => if ds.length < cap then some (ρ.set x (.own (ds ++ [d]))) else none
  | _ => none
@[simp] theorem appO_eq (ρ : Rho) (x : Nat) (d : D) : appO ρ x d = appS (ρ.getD x .no) ρ x d := rfl
theorem appS_map {α : Type} {enc : α → D} {l : List α} {x : Nat} {ρ : Rho} {v : α} (h : l.length < cap) : appS (.own (l.map enc)) ρ x (enc v) = some (ρ.set x (.own ((l ++ [v]).map enc))) := by
  simp only [appS]
  rw [if_pos (by simpa using h)]
  simp
theorem appS_own {l : List D} {x : Nat} {ρ : Rho} {v : D} (h : l.length < cap) : appS (.own l) ρ x v = some (ρ.set x (.own (l ++ [v]))) := if_pos h
def extS (s : Sl) (ρ : Rho) (x : Nat) (d : D) : Option Rho :=
  match s, d with
  | .own ds, .lst _ es => if ds.length + es.length ≤ cap then some (ρ.set x (.own (ds ++ es))) else none
  | _, _ => none
@[simp] theorem extO_eq (ρ : Rho) (x : Nat) (d : D) : extO ρ x d = extS (ρ.getD x .no) ρ x d := rfl
theorem extS_own {l es : List D} {f : Bool} {x : Nat} {ρ : Rho} (h : l.length + es.length ≤ cap) : extS (.own l) ρ x (.lst f es) = some (ρ.set x (.own (l ++ es))) := if_pos h
def baseS (s : Sl) (r : R D) : R D := match s with | .own ds => .ok (.lst true ds) | _ => r
@[simp] theorem baseS_own (ds : List D) (r : R D) : baseS (.own ds) r = .ok (.lst true ds) := rfl
@[simp] theorem baseS_val (d : D) (r : R D) : baseS (.val d) r = r := rfl
@[simp] theorem base_var (k : Nat) (ρ : Rho) (r : R D) : base (.var k) ρ r = baseS (ρ.getD k .no) r := by
  simp only [base, baseS] <;> (cases ρ.getD k .no <;> rfl)
@[simp] theorem base_idx (a i : E) (ρ : Rho) (r : R D) : base (.idx a i) ρ r = r := rfl
@[simp] theorem base_call (f : Nat) (a : E) (ρ : Rho) (r : R D) : base (.call f a) ρ r = r := rfl
@[simp] theorem base_tup (a : E) (ρ : Rho) (r : R D) : base (.tup a) ρ r = r := rfl
@[simp] theorem base_lst (a : E) (ρ : Rho) (r : R D) : base (.lst a) ρ r = r := rfl
@[simp] theorem base_sli (s : Stp) (a b c : E) (ρ : Rho) (r : R D) : base (.sli s a b c) ρ r = r := rfl
@[simp] theorem base_comp (a : E) (t : Tg) (b c : E) (l : List Nat) (ρ : Rho) (r : R D) : base (.comp a t b c l) ρ r = r := rfl
@[simp] theorem base_attr (a : E) (f : Nat) (ρ : Rho) (r : R D) : base (.attr a f) ρ r = r := rfl
@[simp] theorem base_bi (a : Bi) (f : E) (ρ : Rho) (r : R D) : base (.bi a f) ρ r = r := rfl
@[simp] theorem base_ite (a b c : E) (ρ : Rho) (r : R D) : base (.ite a b c) ρ r = r := rfl
theorem op_mul_l {f : Bool} {xs : List D} {j : Int} (h : (decide (-(2 ^ 63) ≤ j) && decide (j < 2 ^ 63) && decide (xs.length * j.toNat ≤ cap)) = true) : opD .mul (.lst f xs) (.int j) = .ok (.lst true (List.replicate j.toNat xs).flatten) := by
  simp only [opD]
  rw [if_pos h]
theorem rep_one {α : Type} (v : α) : ∀ n : Nat, (List.replicate n [v]).flatten = List.replicate n v
  | 0 => rfl
  | n + 1 => by rw [List.replicate_succ, List.flatten_cons, rep_one v n]; rfl
theorem small63 {n : Nat} (h : n ≤ 16777216) : (decide (-(2 ^ 63) ≤ (n : Int)) && decide ((n : Int) < 2 ^ 63) && decide (n ≤ 16777216)) = true := by
  have e : (2 : Int) ^ 63 = 9223372036854775808 := by decide
  rw [e]
  simp only [Bool.and_eq_true, decide_eq_true_eq]
  omega
/-- the same number at n places -/
theorem mul_rep {f : Bool} {v : D} {n : Nat} (h : n ≤ cap) : opD .mul (.lst f [v]) (.int (n : Int)) = .ok (.lst true (List.replicate n v)) := by
  have := small63 h
  rw [op_mul_l (by rw [List.length_singleton, Nat.one_mul, Int.toNat_natCast]; exact this), Int.toNat_natCast, rep_one]
end Wt
namespace Wt
open PySem L2
/-- 0: is_whole -/
def b_is_whole : S :=
 (.seq (.ret (.and (.cons (.isi (.var 0) .int) (.cons (.not (.isi (.var 0) .bool)) .nil))))
 .skip)
abbrev fd_is_whole : Fd := ⟨["thing"], ["thing"], b_is_whole, false⟩
/-- 1: is_pair -/
def b_is_pair : S :=
 (.seq (.ret (.and (.cons (.isi (.var 0) .tuple) (.cons (.cmp (.bi .len (.cons (.var 0) .nil)) (.ccons .eq (.int 2) .cnil)) (.cons (.call 0 (.cons (.idx (.var 0) (.int 0)) .nil)) (.cons (.call 0 (.cons (.idx (.var 0) (.int 1)) .nil)) .nil))))))
 .skip)
abbrev fd_is_pair : Fd := ⟨["thing"], ["thing"], b_is_pair, false⟩
/-- 2: asked_web -/
def b_asked_web : S :=
 (.seq (.ite (.or (.cons (.not (.isi (.var 0) .tuple)) (.cons (.cmp (.bi .len (.cons (.var 0) .nil)) (.ccons .ne (.int 2) .cnil)) (.cons (.not (.call 0 (.cons (.idx (.var 0) (.int 0)) .nil))) (.cons (.not (.cmp (.int 1) (.ccons .le (.idx (.var 0) (.int 0)) (.ccons .le (.glob "MOST_PLACES" 8) .cnil)))) .nil)))))
 (.seq (.raise 1)
 .skip)
 .skip)
 (.seq (.ite (.or (.cons (.not (.isi (.idx (.var 0) (.int 1)) .list)) (.cons (.cmp (.bi .len (.cons (.idx (.var 0) (.int 1)) .nil)) (.ccons .gt (.glob "MOST_TIES" 14) .cnil)) .nil)))
 (.seq (.raise 1)
 .skip)
 .skip)
 (.seq (.ite (.not (.bi .all (.cons (.comp (.and (.cons (.call 1 (.cons (.var 1) .nil)) (.cons (.cmp (.int 0) (.ccons .le (.idx (.var 1) (.int 0)) (.ccons .lt (.idx (.var 1) (.int 1)) (.ccons .lt (.idx (.var 0) (.int 0)) .cnil)))) .nil))) (.nm 1) (.seq (.idx (.var 0) (.int 1))) .nil [1]) .nil)))
 (.seq (.raise 1)
 .skip)
 .skip)
 (.seq (.ite (.bi .any (.cons (.comp (.cmp (.idx (.idx (.var 0) (.int 1)) (.bin .sub (.var 2) (.int 1))) (.ccons .ge (.idx (.idx (.var 0) (.int 1)) (.var 2)) .cnil)) (.nm 2) (.rng (.cons (.int 1) (.cons (.bi .len (.cons (.idx (.var 0) (.int 1)) .nil)) .nil))) .nil [2]) .nil))
 (.seq (.raise 1)
 .skip)
 .skip)
 .skip))))
abbrev fd_asked_web : Fd := ⟨["web"], ["web", "tie", "at"], b_asked_web, false⟩
/-- 3: asked_wishes -/
def b_asked_wishes : S :=
 (.seq (.ite (.or (.cons (.not (.isi (.var 1) .list)) (.cons (.cmp (.bi .len (.cons (.var 1) .nil)) (.ccons .ne (.idx (.var 0) (.int 0)) .cnil)) (.cons (.not (.bi .all (.cons (.comp (.call 1 (.cons (.var 2) .nil)) (.nm 2) (.seq (.var 1)) .nil [2]) .nil))) .nil))))
 (.seq (.raise 2)
 .skip)
 .skip)
 (.seq (.ite (.not (.bi .all (.cons (.comp (.cmp (.int 0) (.ccons .le (.idx (.var 2) (.int 0)) (.ccons .le (.idx (.var 2) (.int 1)) (.ccons .le (.glob "GREATEST" 20) .cnil)))) (.nm 2) (.seq (.var 1)) .nil [2]) .nil)))
 (.seq (.raise 2)
 .skip)
 .skip)
 .skip))
abbrev fd_asked_wishes : Fd := ⟨["web", "wishes"], ["web", "wishes", "wish"], b_asked_wishes, false⟩
/-- 4: is_rising -/
def b_is_rising : S :=
 (.seq (.ite (.or (.cons (.not (.isi (.var 0) .list)) (.cons (.not (.bi .all (.cons (.comp (.and (.cons (.call 0 (.cons (.var 2) .nil)) (.cons (.cmp (.int 0) (.ccons .le (.var 2) (.ccons .lt (.var 1) .cnil))) .nil))) (.nm 2) (.seq (.var 0)) .nil [2]) .nil))) .nil)))
 (.seq (.ret (.bl false))
 .skip)
 .skip)
 (.seq (.ret (.bi .all (.cons (.comp (.cmp (.idx (.var 0) (.bin .sub (.var 3) (.int 1))) (.ccons .lt (.idx (.var 0) (.var 3)) .cnil)) (.nm 3) (.rng (.cons (.int 1) (.cons (.bi .len (.cons (.var 0) .nil)) .nil))) .nil [3]) .nil)))
 .skip))
abbrev fd_is_rising : Fd := ⟨["thing", "many"], ["thing", "many", "one", "at"], b_is_rising, false⟩
/-- 5: asked_ties -/
def b_asked_ties : S :=
 (.seq (.ite (.not (.call 4 (.cons (.var 1) (.cons (.bi .len (.cons (.idx (.var 0) (.int 1)) .nil)) .nil))))
 (.seq (.raise 3)
 .skip)
 .skip)
 .skip)
abbrev fd_asked_ties : Fd := ⟨["web", "chosen"], ["web", "chosen"], b_asked_ties, false⟩
/-- 6: counts_of -/
def b_counts_of : S :=
 (.seq (.set 2 (.bin .mul (.lst (.cons (.int 0) .nil)) (.idx (.var 0) (.int 0))))
 (.seq (.loop (.nm 3) (.seq (.var 1))
 (.seq (.loop (.nm 4) (.seq (.idx (.idx (.var 0) (.int 1)) (.var 3)))
 (.seq (.seti 2 (.var 4) (.bin .add (.idx (.var 2) (.var 4)) (.int 1)))
 .skip))
 .skip))
 (.seq (.ret (.var 2))
 .skip)))
abbrev fd_counts_of : Fd := ⟨["web", "chosen"], ["web", "chosen", "found", "at", "place"], b_counts_of, false⟩
/-- 7: counts -/
def b_counts : S :=
 (.seq (.expr (.call 2 (.cons (.var 0) .nil)))
 (.seq (.expr (.call 5 (.cons (.var 0) (.cons (.var 1) .nil))))
 (.seq (.ret (.call 6 (.cons (.var 0) (.cons (.var 1) .nil))))
 .skip)))
abbrev fd_counts : Fd := ⟨["web", "chosen"], ["web", "chosen"], b_counts, false⟩
/-- 8: is_right -/
def b_is_right : S :=
 (.seq (.ret (.bi .all (.cons (.comp (.cmp (.var 4) (.ccons .le (.var 3) (.ccons .le (.var 5) .cnil))) (.tp (.cons (.nm 3) (.cons (.tp (.cons (.nm 4) (.cons (.nm 5) .nil))) .nil))) (.zip (.call 6 (.cons (.var 0) (.cons (.var 2) .nil))) (.var 1)) .nil [3, 4, 5]) .nil)))
 .skip)
abbrev fd_is_right : Fd := ⟨["web", "wishes", "chosen"], ["web", "wishes", "chosen", "many", "low", "high"], b_is_right, false⟩
/-- 9: right -/
def b_right : S :=
 (.seq (.expr (.call 2 (.cons (.var 0) .nil)))
 (.seq (.expr (.call 3 (.cons (.var 0) (.cons (.var 1) .nil))))
 (.seq (.expr (.call 5 (.cons (.var 0) (.cons (.var 2) .nil))))
 (.seq (.ret (.call 8 (.cons (.var 0) (.cons (.var 1) (.cons (.var 2) .nil)))))
 .skip))))
abbrev fd_right : Fd := ⟨["web", "wishes", "chosen"], ["web", "wishes", "chosen"], b_right, false⟩
/-- 10: rest -/
def b_rest : S :=
 (.seq (.expr (.call 2 (.cons (.var 0) .nil)))
 (.seq (.expr (.call 5 (.cons (.var 0) (.cons (.var 1) .nil))))
 (.seq (.ret (.comp (.var 2) (.nm 2) (.rng (.cons (.bi .len (.cons (.idx (.var 0) (.int 1)) .nil)) .nil)) (.cons (.cmp (.var 2) (.ccons .notin (.var 1) .cnil)) .nil) [2]))
 .skip)))
abbrev fd_rest : Fd := ⟨["web", "chosen"], ["web", "chosen", "at"], b_rest, false⟩
/-- 11: _law_number -/
def b_law_number : S :=
 (.seq (.ite (.cmp (.var 0) (.ccons .ge (.bin .pow (.int 10) (.int 18)) .cnil))
 (.seq (.ret (.bin .fdiv (.var 0) (.bin .add (.int 1) (.bin .mod (.var 1) (.int 7)))))
 .skip)
 .skip)
 (.seq (.set 3 (.bin .mod (.var 0) (.bin .pow (.int 10) (.int 18))))
 (.seq (.set 4 (.bin .mod (.bin .add (.bin .mul (.bin .add (.var 3) (.bin .mul (.int 977) (.var 1))) (.int 48271)) (.var 2)) (.int 2147483647)))
 (.seq (.set 5 (.bin .mul (.var 4) (.bin .add (.bin .add (.var 3) (.bin .mul (.int 31) (.var 1))) (.int 7))))
 (.seq (.ret (.bin .fdiv (.bin .mul (.bin .mul (.var 5) (.bin .add (.bin .add (.var 4) (.var 3)) (.int 5))) (.bin .add (.bin .mul (.var 4) (.var 4)) (.int 11))) (.bin .add (.int 1009) (.var 1))))
 .skip)))))
abbrev fd_law_number : Fd := ⟨["_law_cell", "_law_at", "_law_whole"], ["_law_cell", "_law_at", "_law_whole", "_law_small", "_law_blend", "_law_more"], b_law_number, false⟩
/-- 12: _law_web -/
def b_law_web : S :=
 (.seq (.set 4 (.ite (.cmp (.var 0) (.ccons .ne (.lst .nil) .cnil)) (.sli .one (.var 0) .nil (.cons (.int 63) .nil)) (.lst (.cons (.int 5) .nil))))
 (.seq (.set 5 (.bin .add (.bi .abs (.cons (.bi .sum (.cons (.var 4) .nil)) .nil)) (.var 1)))
 (.seq (.par 6 7 (.bin .add (.int 2) (.bin .mod (.var 5) (.bin .sub (.var 2) (.int 1)))) (.bin .mod (.bin .fdiv (.var 5) (.var 2)) (.int 4)))
 (.seq (.set 8 (.lst .nil))
 (.seq (.loop (.nm 9) (.rng (.cons (.var 3) .nil))
 (.seq (.set 10 (.bin .fdiv (.call 11 (.cons (.idx (.var 4) (.bin .mod (.bin .add (.var 9) (.var 1)) (.bi .len (.cons (.var 4) .nil)))) (.cons (.bin .add (.var 9) (.var 1)) (.cons (.var 5) .nil)))) (.int 3)))
 (.seq (.set 11 (.idx (.tup (.cons (.bin .mod (.var 9) (.var 6)) (.cons (.bin .mod (.bin .fdiv (.var 9) (.var 6)) (.var 6)) (.cons (.bin .mod (.var 10) (.var 6)) (.cons (.bin .mod (.var 9) (.var 6)) .nil))))) (.var 7)))
 (.seq (.set 12 (.idx (.tup (.cons (.bin .mod (.bin .add (.var 9) (.int 1)) (.var 6)) (.cons (.bin .mod (.var 9) (.var 6)) (.cons (.bin .mod (.bin .fdiv (.var 10) (.int 7)) (.var 6)) (.cons (.bin .mod (.var 10) (.var 6)) .nil))))) (.var 7)))
 (.seq (.set 13 (.tup (.cons (.bi .min2 (.cons (.var 11) (.cons (.var 12) .nil))) (.cons (.bi .max2 (.cons (.var 11) (.cons (.var 12) .nil))) .nil))))
 (.seq (.ite (.and (.cons (.cmp (.var 11) (.ccons .ne (.var 12) .cnil)) (.cons (.cmp (.var 13) (.ccons .notin (.var 8) .cnil)) .nil)))
 (.seq (.app 8 (.var 13))
 .skip)
 .skip)
 .skip))))))
 (.seq (.ret (.tup (.cons (.var 6) (.cons (.bi .sorted (.cons (.var 8) .nil)) .nil))))
 .skip))))))
abbrev fd_law_web : Fd := ⟨["_law_script", "_law_by", "_law_places", "_law_ties"], ["_law_script", "_law_by", "_law_places", "_law_ties", "_law_cells", "_law_whole", "_law_many", "_law_kind", "_law_found", "_law_at", "_law_number_here", "_law_first", "_law_other", "_law_tie"], b_law_web, false⟩
/-- 13: _law_counts -/
def b_law_counts : S :=
 (.seq (.ret (.comp (.bi .len (.cons (.comp (.var 2) (.nm 2) (.seq (.var 1)) (.cons (.cmp (.var 3) (.ccons .isin (.idx (.idx (.var 0) (.int 1)) (.var 2)) .cnil)) .nil) [2]) .nil)) (.nm 3) (.rng (.cons (.idx (.var 0) (.int 0)) .nil)) .nil [3]))
 .skip)
abbrev fd_law_counts : Fd := ⟨["_law_web_here", "_law_chosen"], ["_law_web_here", "_law_chosen", "_law_at", "_law_place"], b_law_counts, false⟩
/-- 14: _law_drawn -/
def b_law_drawn : S :=
 (.seq (.set 3 (.ite (.cmp (.var 0) (.ccons .ne (.lst .nil) .cnil)) (.sli .one (.var 0) .nil (.cons (.int 63) .nil)) (.lst (.cons (.int 4) .nil))))
 (.seq (.par 4 5 (.bin .add (.bi .abs (.cons (.bi .sum (.cons (.var 3) .nil)) .nil)) (.var 1)) (.lst .nil))
 (.seq (.loop (.nm 6) (.rng (.cons (.bi .len (.cons (.idx (.var 2) (.int 1)) .nil)) .nil))
 (.seq (.ite (.cmp (.bin .mod (.bin .fdiv (.call 11 (.cons (.idx (.var 3) (.bin .mod (.bin .add (.var 6) (.var 1)) (.bi .len (.cons (.var 3) .nil)))) (.cons (.bin .add (.var 6) (.bin .mul (.int 2) (.var 1))) (.cons (.var 4) .nil)))) (.int 3)) (.int 2)) (.ccons .eq (.int 0) .cnil))
 (.seq (.app 5 (.var 6))
 .skip)
 .skip)
 .skip))
 (.seq (.ret (.var 5))
 .skip))))
abbrev fd_law_drawn : Fd := ⟨["_law_script", "_law_by", "_law_web_here"], ["_law_script", "_law_by", "_law_web_here", "_law_cells", "_law_whole", "_law_found", "_law_at"], b_law_drawn, false⟩
/-- 15: _law_wishes -/
def b_law_wishes : S :=
 (.seq (.set 3 (.ite (.cmp (.var 0) (.ccons .ne (.lst .nil) .cnil)) (.sli .one (.var 0) .nil (.cons (.int 63) .nil)) (.lst (.cons (.int 4) .nil))))
 (.seq (.par 4 5 (.bin .add (.bi .abs (.cons (.bi .sum (.cons (.var 3) .nil)) .nil)) (.var 1)) (.lst .nil))
 (.seq (.set 6 (.call 13 (.cons (.var 2) (.cons (.call 14 (.cons (.var 0) (.cons (.bin .add (.var 1) (.int 3)) (.cons (.var 2) .nil)))) .nil))))
 (.seq (.loop (.nm 7) (.rng (.cons (.idx (.var 2) (.int 0)) .nil))
 (.seq (.set 8 (.bin .fdiv (.call 11 (.cons (.idx (.var 3) (.bin .mod (.bin .add (.var 7) (.var 1)) (.bi .len (.cons (.var 3) .nil)))) (.cons (.bin .add (.var 7) (.bin .mul (.int 3) (.var 1))) (.cons (.var 4) .nil)))) (.int 3)))
 (.seq (.set 9 (.ite (.cmp (.bin .mod (.var 4) (.int 3)) (.ccons .lt (.int 2) .cnil)) (.idx (.var 6) (.var 7)) (.bin .mod (.var 8) (.int 4))))
 (.seq (.set 10 (.ite (.cmp (.bin .mod (.bin .fdiv (.var 4) (.int 3)) (.int 3)) (.ccons .eq (.int 0) .cnil)) (.bin .mod (.bin .fdiv (.var 8) (.int 5)) (.int 3)) (.int 0)))
 (.seq (.ite (.and (.cons (.cmp (.bin .mod (.var 4) (.int 3)) (.ccons .eq (.int 1) .cnil)) (.cons (.cmp (.bin .mod (.bin .fdiv (.var 8) (.int 11)) (.idx (.var 2) (.int 0))) (.ccons .eq (.int 0) .cnil)) .nil)))
 (.seq (.set 9 (.bin .add (.var 9) (.int 1)))
 .skip)
 .skip)
 (.seq (.app 5 (.tup (.cons (.var 9) (.cons (.bin .add (.var 9) (.var 10)) .nil))))
 .skip))))))
 (.seq (.ret (.var 5))
 .skip)))))
abbrev fd_law_wishes : Fd := ⟨["_law_script", "_law_by", "_law_web_here"], ["_law_script", "_law_by", "_law_web_here", "_law_cells", "_law_whole", "_law_found", "_law_due", "_law_place", "_law_number_here", "_law_low", "_law_wide"], b_law_wishes, false⟩
/-- 16: _law_copied -/
def b_law_copied : S :=
 (.seq (.ret (.tup (.cons (.idx (.var 0) (.int 0)) (.cons (.bi .list (.cons (.idx (.var 0) (.int 1)) .nil)) .nil))))
 .skip)
abbrev fd_law_copied : Fd := ⟨["_law_web_here"], ["_law_web_here"], b_law_copied, false⟩
/-- 17: _law_right -/
def b_law_right : S :=
 (.seq (.ret (.bi .all (.cons (.comp (.cmp (.var 4) (.ccons .le (.var 3) (.ccons .le (.var 5) .cnil))) (.tp (.cons (.nm 3) (.cons (.tp (.cons (.nm 4) (.cons (.nm 5) .nil))) .nil))) (.zip (.call 13 (.cons (.var 0) (.cons (.var 2) .nil))) (.var 1)) .nil [3, 4, 5]) .nil)))
 .skip)
abbrev fd_law_right : Fd := ⟨["_law_web_here", "_law_wishes_here", "_law_chosen"], ["_law_web_here", "_law_wishes_here", "_law_chosen", "_law_many", "_law_low", "_law_high"], b_law_right, false⟩
/-- 18: law -/
def b_law : S :=
 (.seq (.loop (.nm 1) (.seq (.lst (.cons (.int 0) (.cons (.int 1) (.cons (.int 3) .nil)))))
 (.seq (.set 2 (.call 12 (.cons (.var 0) (.cons (.var 1) (.cons (.int 8) (.cons (.int 14) .nil))))))
 (.seq (.set 3 (.call 15 (.cons (.var 0) (.cons (.var 1) (.cons (.var 2) .nil)))))
 (.seq (.loop (.nm 4) (.seq (.lst (.cons (.call 14 (.cons (.var 0) (.cons (.var 1) (.cons (.var 2) .nil)))) (.cons (.call 14 (.cons (.var 0) (.cons (.bin .add (.var 1) (.int 3)) (.cons (.var 2) .nil)))) (.cons (.lst .nil) (.cons (.lrng (.bi .len (.cons (.idx (.var 2) (.int 1)) .nil))) .nil))))))
 (.seq (.set 5 (.lst (.cons (.call 16 (.cons (.var 2) .nil)) (.cons (.bi .list (.cons (.var 3) .nil)) (.cons (.bi .list (.cons (.var 4) .nil)) .nil)))))
 (.seq (.set 6 (.comp (.var 13) (.nm 13) (.rng (.cons (.bi .len (.cons (.idx (.var 2) (.int 1)) .nil)) .nil)) (.cons (.cmp (.var 13) (.ccons .notin (.var 4) .cnil)) .nil) [13]))
 (.seq (.loop (.nm 7) (.rng (.cons (.int 2) .nil))
 (.seq (.par 8 9 (.call 7 (.cons (.idx (.var 5) (.int 0)) (.cons (.idx (.var 5) (.int 2)) .nil))) (.call 10 (.cons (.idx (.var 5) (.int 0)) (.cons (.idx (.var 5) (.int 2)) .nil))))
 (.seq (.ite (.or (.cons (.not (.isi (.var 8) .list)) (.cons (.cmp (.var 8) (.ccons .ne (.call 13 (.cons (.var 2) (.cons (.var 4) .nil))) .cnil)) .nil)))
 (.seq (.ret (.bl false))
 .skip)
 .skip)
 (.seq (.ite (.or (.cons (.bi .any (.cons (.comp (.isi (.var 14) .bool) (.nm 14) (.seq (.var 8)) .nil [14]) .nil)) (.cons (.not (.isi (.var 9) .list)) (.cons (.cmp (.var 9) (.ccons .ne (.var 6) .cnil)) .nil))))
 (.seq (.ret (.bl false))
 .skip)
 .skip)
 (.seq (.ite (.cmp (.var 5) (.ccons .ne (.lst (.cons (.var 2) (.cons (.var 3) (.cons (.var 4) .nil)))) .cnil))
 (.seq (.ret (.bl false))
 .skip)
 .skip)
 (.seq (.app 8 (.int 0))
 (.seq (.app 9 (.int 0))
 .skip)))))))
 (.seq (.set 10 (.call 9 (.cons (.idx (.var 5) (.int 0)) (.cons (.idx (.var 5) (.int 1)) (.cons (.idx (.var 5) (.int 2)) .nil)))))
 (.seq (.ite (.or (.cons (.not (.isi (.var 10) .bool)) (.cons (.cmp (.var 10) (.ccons .ne (.call 17 (.cons (.var 2) (.cons (.var 3) (.cons (.var 4) .nil)))) .cnil)) (.cons (.cmp (.var 5) (.ccons .ne (.lst (.cons (.var 2) (.cons (.var 3) (.cons (.var 4) .nil)))) .cnil)) .nil))))
 (.seq (.ret (.bl false))
 .skip)
 .skip)
 (.seq (.set 11 (.comp (.bin .add (.var 14) (.var 15)) (.tp (.cons (.nm 14) (.cons (.nm 15) .nil))) (.zip (.call 7 (.cons (.var 2) (.cons (.var 4) .nil))) (.call 7 (.cons (.var 2) (.cons (.var 6) .nil)))) .nil [14, 15]))
 (.seq (.ite (.cmp (.var 11) (.ccons .ne (.call 7 (.cons (.var 2) (.cons (.lrng (.bi .len (.cons (.idx (.var 2) (.int 1)) .nil))) .nil))) .cnil))
 (.seq (.ret (.bl false))
 .skip)
 .skip)
 .skip))))))))
 .skip))))
 (.seq (.set 12 (.tup (.cons (.int 4) (.cons (.lst (.cons (.tup (.cons (.int 0) (.cons (.int 1) .nil))) (.cons (.tup (.cons (.int 0) (.cons (.int 2) .nil))) (.cons (.tup (.cons (.int 0) (.cons (.int 3) .nil))) .nil)))) .nil))))
 (.seq (.ret (.and (.cons (.cmp (.call 7 (.cons (.var 12) (.cons (.lst (.cons (.int 0) (.cons (.int 2) .nil))) .nil))) (.ccons .eq (.lst (.cons (.int 2) (.cons (.int 1) (.cons (.int 0) (.cons (.int 1) .nil))))) .cnil)) (.cons (.cmp (.call 10 (.cons (.var 12) (.cons (.lst (.cons (.int 0) (.cons (.int 2) .nil))) .nil))) (.ccons .eq (.lst (.cons (.int 1) .nil)) .cnil)) (.cons (.cmp (.call 9 (.cons (.tup (.cons (.int 1) (.cons (.lst .nil) .nil))) (.cons (.lst (.cons (.tup (.cons (.int 0) (.cons (.int 0) .nil))) .nil)) (.cons (.lst .nil) .nil)))) (.ccons .is (.bl true) .cnil)) .nil)))))
 .skip)))
abbrev fd_law : Fd := ⟨["_law_script"], ["_law_script", "_law_by", "_law_web_here", "_law_wishes_here", "_law_chosen", "_law_handed", "_law_due", "_law_again", "_law_found", "_law_others", "_law_said", "_law_both", "_law_star", "_law_at", "_law_one", "_law_other"], b_law, false⟩
/-- 19: are_lots -/
def b_are_lots : S :=
 (.seq (.ite (.or (.cons (.not (.call 4 (.cons (.var 1) (.cons (.idx (.var 0) (.int 0)) .nil)))) (.cons (.not (.call 4 (.cons (.var 2) (.cons (.idx (.var 0) (.int 0)) .nil)))) .nil)))
 (.seq (.ret (.bl false))
 .skip)
 .skip)
 (.seq (.ret (.not (.bi .any (.cons (.comp (.cmp (.var 3) (.ccons .isin (.var 2) .cnil)) (.nm 3) (.seq (.var 1)) .nil [3]) .nil))))
 .skip))
abbrev fd_are_lots : Fd := ⟨["web", "one", "other"], ["web", "one", "other", "place"], b_are_lots, false⟩
/-- 20: all_lots -/
def b_all_lots : S :=
 (.seq (.set 1 (.lst (.cons (.tup (.cons (.lst .nil) (.cons (.lst .nil) .nil))) .nil)))
 (.seq (.loop (.nm 2) (.rng (.cons (.var 0) .nil))
 (.seq (.set 3 (.lst .nil))
 (.seq (.loop (.tp (.cons (.nm 4) (.cons (.nm 5) .nil))) (.seq (.var 1))
 (.seq (.ext 3 (.lst (.cons (.tup (.cons (.var 4) (.cons (.var 5) .nil))) (.cons (.tup (.cons (.bin .add (.var 4) (.lst (.cons (.var 2) .nil))) (.cons (.var 5) .nil))) (.cons (.tup (.cons (.var 4) (.cons (.bin .add (.var 5) (.lst (.cons (.var 2) .nil))) .nil))) .nil)))))
 .skip))
 (.seq (.set 1 (.var 3))
 .skip))))
 (.seq (.ret (.bi .sorted (.cons (.var 1) .nil)))
 .skip)))
abbrev fd_all_lots : Fd := ⟨["many"], ["many", "found", "place", "longer", "one", "other"], b_all_lots, false⟩
/-- 21: pieces -/
def b_pieces : S :=
 .skip
abbrev fd_pieces : Fd := ⟨["web", "one", "other"], ["web", "one", "other", "marks", "place", "first", "second", "low", "high", "mark"], b_pieces, true⟩
/-- 22: ties_to -/
def b_ties_to : S :=
 (.seq (.ret (.bi .len (.cons (.comp (.var 3) (.nm 3) (.seq (.idx (.var 0) (.int 1))) (.cons (.or (.cons (.and (.cons (.cmp (.idx (.var 3) (.int 0)) (.ccons .isin (.var 1) .cnil)) (.cons (.cmp (.idx (.var 3) (.int 1)) (.ccons .isin (.var 2) .cnil)) .nil))) (.cons (.and (.cons (.cmp (.idx (.var 3) (.int 1)) (.ccons .isin (.var 1) .cnil)) (.cons (.cmp (.idx (.var 3) (.int 0)) (.ccons .isin (.var 2) .cnil)) .nil))) .nil))) .nil) [3]) .nil)))
 .skip)
abbrev fd_ties_to : Fd := ⟨["web", "piece", "other"], ["web", "piece", "other", "tie"], b_ties_to, false⟩
/-- 23: spare_of -/
def b_spare_of : S :=
 (.seq (.set 4 (.bin .sub (.bi .sum (.cons (.comp (.idx (.idx (.var 1) (.var 6)) (.int 1)) (.nm 6) (.seq (.var 2)) .nil [6]) .nil)) (.bi .sum (.cons (.comp (.idx (.idx (.var 1) (.var 6)) (.int 0)) (.nm 6) (.seq (.var 3)) .nil [6]) .nil))))
 (.seq (.loop (.nm 5) (.seq (.idx (.var 0) (.int 1)))
 (.seq (.loop (.tp (.cons (.nm 6) (.cons (.nm 7) .nil))) (.seq (.tup (.cons (.var 5) (.cons (.sli .back (.var 5) .nil .nil) .nil))))
 (.seq (.set 4 (.bin .add (.var 4) (.ite (.and (.cons (.cmp (.var 6) (.ccons .isin (.var 3) .cnil)) (.cons (.cmp (.var 7) (.ccons .notin (.var 2) .cnil)) .nil))) (.int 1) (.int 0))))
 .skip))
 .skip))
 (.seq (.loop (.nm 8) (.seq (.call 21 (.cons (.var 0) (.cons (.var 2) (.cons (.var 3) .nil)))))
 (.seq (.ite (.bi .all (.cons (.comp (.cmp (.idx (.idx (.var 1) (.var 6)) (.int 0)) (.ccons .eq (.idx (.idx (.var 1) (.var 6)) (.int 1)) .cnil)) (.nm 6) (.seq (.var 8)) .nil [6]) .nil))
 (.seq (.set 4 (.bin .sub (.var 4) (.bin .mod (.bin .add (.bi .sum (.cons (.comp (.idx (.idx (.var 1) (.var 6)) (.int 1)) (.nm 6) (.seq (.var 8)) .nil [6]) .nil)) (.call 22 (.cons (.var 0) (.cons (.var 8) (.cons (.var 3) .nil))))) (.int 2))))
 .skip)
 .skip)
 .skip))
 (.seq (.ret (.var 4))
 .skip))))
abbrev fd_spare_of : Fd := ⟨["web", "wishes", "one", "other"], ["web", "wishes", "one", "other", "found", "tie", "place", "far", "piece"], b_spare_of, false⟩
/-- 24: bound_of -/
def b_bound_of : S :=
 (.seq (.set 4 (.bi .sum (.cons (.comp (.idx (.var 1) (.var 6)) (.nm 6) (.seq (.var 2)) .nil [6]) .nil)))
 (.seq (.set 4 (.bin .add (.var 4) (.bi .len (.cons (.comp (.var 7) (.nm 7) (.seq (.idx (.var 0) (.int 1))) (.cons (.and (.cons (.cmp (.idx (.var 7) (.int 0)) (.ccons .isin (.var 3) .cnil)) (.cons (.cmp (.idx (.var 7) (.int 1)) (.ccons .isin (.var 3) .cnil)) .nil))) .nil) [7]) .nil))))
 (.seq (.loop (.nm 5) (.seq (.call 21 (.cons (.var 0) (.cons (.var 2) (.cons (.var 3) .nil)))))
 (.seq (.set 4 (.bin .add (.var 4) (.bin .fdiv (.bin .add (.bi .sum (.cons (.comp (.idx (.var 1) (.var 6)) (.nm 6) (.seq (.var 5)) .nil [6]) .nil)) (.call 22 (.cons (.var 0) (.cons (.var 5) (.cons (.var 3) .nil))))) (.int 2))))
 .skip))
 (.seq (.ret (.var 4))
 .skip))))
abbrev fd_bound_of : Fd := ⟨["web", "tops", "one", "other"], ["web", "tops", "one", "other", "found", "piece", "place", "tie"], b_bound_of, false⟩
/-- 25: all_right -/
def b_all_right : S :=
 (.seq (.set 2 (.bin .mul (.lst (.cons (.int 0) .nil)) (.idx (.var 0) (.int 0))))
 (.seq (.loop (.tp (.cons (.nm 3) (.cons (.nm 4) .nil))) (.seq (.idx (.var 0) (.int 1)))
 (.seq (.seti2 2 (.var 3) (.var 4) (.bin .add (.idx (.var 2) (.var 3)) (.int 1)) (.bin .add (.idx (.var 2) (.var 4)) (.int 1)))
 .skip))
 (.seq (.set 5 (.lst (.cons (.tup (.cons (.lst .nil) (.cons (.bin .mul (.lst (.cons (.int 0) .nil)) (.idx (.var 0) (.int 0))) .nil))) .nil)))
 (.seq (.loop (.tp (.cons (.nm 6) (.cons (.tp (.cons (.nm 3) (.cons (.nm 4) .nil))) .nil))) (.enum (.idx (.var 0) (.int 1)))
 (.seq (.seti2 2 (.var 3) (.var 4) (.bin .sub (.idx (.var 2) (.var 3)) (.int 1)) (.bin .sub (.idx (.var 2) (.var 4)) (.int 1)))
 (.seq (.set 7 (.lst .nil))
 (.seq (.loop (.tp (.cons (.nm 8) (.cons (.nm 9) .nil))) (.seq (.var 5))
 (.seq (.set 10 (.bi .list (.cons (.var 9) .nil)))
 (.seq (.seti2 10 (.var 3) (.var 4) (.bin .add (.idx (.var 10) (.var 3)) (.int 1)) (.bin .add (.idx (.var 10) (.var 4)) (.int 1)))
 (.seq (.ext 7 (.lst (.cons (.tup (.cons (.var 8) (.cons (.var 9) .nil))) (.cons (.tup (.cons (.bin .add (.var 8) (.lst (.cons (.var 6) .nil))) (.cons (.var 10) .nil))) .nil))))
 .skip))))
 (.seq (.set 5 (.comp (.var 12) (.nm 12) (.seq (.var 7)) (.cons (.bi .all (.cons (.comp (.call 26 (.cons (.var 1) (.cons (.idx (.var 12) (.int 1)) (.cons (.var 2) (.cons (.var 13) .nil))))) (.nm 13) (.seq (.tup (.cons (.var 3) (.cons (.var 4) .nil)))) .nil [13]) .nil)) .nil) [12]))
 .skip)))))
 (.seq (.set 11 (.lst .nil))
 (.seq (.loop (.tp (.cons (.nm 8) (.cons (.nm 9) .nil))) (.seq (.var 5))
 (.seq (.ite (.bi .all (.cons (.comp (.call 26 (.cons (.var 1) (.cons (.var 9) (.cons (.var 2) (.cons (.var 13) .nil))))) (.nm 13) (.rng (.cons (.idx (.var 0) (.int 0)) .nil)) .nil [13]) .nil))
 (.seq (.app 11 (.var 8))
 .skip)
 .skip)
 .skip))
 (.seq (.ret (.bi .sorted (.cons (.var 11) .nil)))
 .skip)))))))
abbrev fd_all_right : Fd := ⟨["web", "wishes"], ["web", "wishes", "left", "one", "other", "found", "at", "longer", "chosen", "counts", "more", "good", "pair", "place"], b_all_right, false⟩
/-- 26: keeps -/
def b_keeps : S :=
 (.seq (.ret (.and (.cons (.cmp (.idx (.var 1) (.var 3)) (.ccons .le (.idx (.idx (.var 0) (.var 3)) (.int 1)) .cnil)) (.cons (.cmp (.bin .add (.idx (.var 1) (.var 3)) (.idx (.var 2) (.var 3))) (.ccons .ge (.idx (.idx (.var 0) (.var 3)) (.int 0)) .cnil)) .nil))))
 .skip)
abbrev fd_keeps : Fd := ⟨["wishes", "counts", "left", "place"], ["wishes", "counts", "left", "place"], b_keeps, false⟩
/-- 27: judged -/
def b_judged : S :=
 (.seq (.expr (.call 2 (.cons (.var 0) .nil)))
 (.seq (.expr (.call 3 (.cons (.var 0) (.cons (.var 1) .nil))))
 (.seq (.set 2 (.call 25 (.cons (.var 0) (.cons (.var 1) .nil))))
 (.seq (.ite (.cmp (.var 2) (.ccons .ne (.lst .nil) .cnil))
 (.seq (.ret (.mk 1 (.cons (.idx (.var 2) (.int 0)) .nil)))
 .skip)
 .skip)
 (.seq (.loop (.tp (.cons (.nm 3) (.cons (.nm 4) .nil))) (.seq (.call 20 (.cons (.idx (.var 0) (.int 0)) .nil)))
 (.seq (.ite (.cmp (.call 23 (.cons (.var 0) (.cons (.var 1) (.cons (.var 3) (.cons (.var 4) .nil))))) (.ccons .lt (.int 0) .cnil))
 (.seq (.ret (.mk 2 (.cons (.var 3) (.cons (.var 4) .nil))))
 .skip)
 .skip)
 .skip))
 (.seq (.ret (.mk 2 (.cons (.lst .nil) (.cons (.lst .nil) .nil))))
 .skip))))))
abbrev fd_judged : Fd := ⟨["web", "wishes"], ["web", "wishes", "every", "one", "other"], b_judged, false⟩
/-- 28: _law_web -/
def b_law_web2 : S :=
 (.seq (.set 4 (.ite (.cmp (.var 0) (.ccons .ne (.lst .nil) .cnil)) (.sli .one (.var 0) .nil (.cons (.int 63) .nil)) (.lst (.cons (.int 5) .nil))))
 (.seq (.set 5 (.bin .add (.bi .abs (.cons (.bi .sum (.cons (.var 4) .nil)) .nil)) (.var 1)))
 (.seq (.par 6 7 (.bin .add (.int 2) (.bin .mod (.var 5) (.bin .sub (.var 2) (.int 1)))) (.bin .mod (.bin .fdiv (.var 5) (.var 2)) (.int 4)))
 (.seq (.set 8 (.lst .nil))
 (.seq (.loop (.nm 9) (.rng (.cons (.var 3) .nil))
 (.seq (.set 10 (.bin .fdiv (.call 11 (.cons (.idx (.var 4) (.bin .mod (.bin .add (.var 9) (.var 1)) (.bi .len (.cons (.var 4) .nil)))) (.cons (.bin .add (.var 9) (.var 1)) (.cons (.var 5) .nil)))) (.int 3)))
 (.seq (.set 11 (.idx (.tup (.cons (.bin .mod (.var 9) (.var 6)) (.cons (.bin .mod (.bin .fdiv (.var 9) (.var 6)) (.var 6)) (.cons (.bin .mod (.var 10) (.var 6)) (.cons (.bin .mod (.var 9) (.var 6)) .nil))))) (.var 7)))
 (.seq (.set 12 (.idx (.tup (.cons (.bin .mod (.bin .add (.var 9) (.int 1)) (.var 6)) (.cons (.bin .mod (.var 9) (.var 6)) (.cons (.bin .mod (.bin .fdiv (.var 10) (.int 7)) (.var 6)) (.cons (.bin .mod (.var 10) (.var 6)) .nil))))) (.var 7)))
 (.seq (.set 13 (.tup (.cons (.bi .min2 (.cons (.var 11) (.cons (.var 12) .nil))) (.cons (.bi .max2 (.cons (.var 11) (.cons (.var 12) .nil))) .nil))))
 (.seq (.ite (.and (.cons (.cmp (.var 11) (.ccons .ne (.var 12) .cnil)) (.cons (.cmp (.var 13) (.ccons .notin (.var 8) .cnil)) .nil)))
 (.seq (.app 8 (.var 13))
 .skip)
 .skip)
 .skip))))))
 (.seq (.ret (.tup (.cons (.var 6) (.cons (.bi .sorted (.cons (.var 8) .nil)) .nil))))
 .skip))))))
abbrev fd_law_web2 : Fd := ⟨["_law_script", "_law_by", "_law_places", "_law_ties_here"], ["_law_script", "_law_by", "_law_places", "_law_ties_here", "_law_cells", "_law_whole", "_law_many", "_law_kind", "_law_found", "_law_at", "_law_number_here", "_law_first", "_law_other", "_law_tie"], b_law_web2, false⟩
/-- 29: _law_wishes -/
def b_law_wishes2 : S :=
 (.seq (.set 3 (.ite (.cmp (.var 0) (.ccons .ne (.lst .nil) .cnil)) (.sli .one (.var 0) .nil (.cons (.int 63) .nil)) (.lst (.cons (.int 4) .nil))))
 (.seq (.par 4 5 (.bin .add (.bi .abs (.cons (.bi .sum (.cons (.var 3) .nil)) .nil)) (.var 1)) (.lst .nil))
 (.seq (.set 6 (.call 13 (.cons (.var 2) (.cons (.call 14 (.cons (.var 0) (.cons (.bin .add (.var 1) (.int 3)) (.cons (.var 2) .nil)))) .nil))))
 (.seq (.loop (.nm 7) (.rng (.cons (.idx (.var 2) (.int 0)) .nil))
 (.seq (.set 8 (.bin .fdiv (.call 11 (.cons (.idx (.var 3) (.bin .mod (.bin .add (.var 7) (.var 1)) (.bi .len (.cons (.var 3) .nil)))) (.cons (.bin .add (.var 7) (.bin .mul (.int 3) (.var 1))) (.cons (.var 4) .nil)))) (.int 3)))
 (.seq (.set 9 (.ite (.cmp (.bin .mod (.var 4) (.int 3)) (.ccons .lt (.int 2) .cnil)) (.idx (.var 6) (.var 7)) (.bin .mod (.var 8) (.int 4))))
 (.seq (.set 10 (.ite (.cmp (.bin .mod (.bin .fdiv (.var 4) (.int 3)) (.int 3)) (.ccons .eq (.int 0) .cnil)) (.bin .mod (.bin .fdiv (.var 8) (.int 5)) (.int 3)) (.int 0)))
 (.seq (.ite (.and (.cons (.cmp (.bin .mod (.var 4) (.int 3)) (.ccons .eq (.int 1) .cnil)) (.cons (.cmp (.bin .mod (.bin .fdiv (.var 8) (.int 11)) (.idx (.var 2) (.int 0))) (.ccons .eq (.int 0) .cnil)) .nil)))
 (.seq (.set 9 (.bin .add (.var 9) (.int 1)))
 .skip)
 .skip)
 (.seq (.app 5 (.tup (.cons (.var 9) (.cons (.bin .add (.var 9) (.var 10)) .nil))))
 .skip))))))
 (.seq (.ret (.var 5))
 .skip)))))
abbrev fd_law_wishes2 : Fd := ⟨["_law_script", "_law_by", "_law_web_here"], ["_law_script", "_law_by", "_law_web_here", "_law_cells", "_law_whole", "_law_found", "_law_due_here", "_law_place", "_law_number_here", "_law_low", "_law_wide"], b_law_wishes2, false⟩
/-- 30: _law_all -/
def b_law_all : S :=
 (.seq (.set 2 (.lst (.cons (.lst .nil) .nil)))
 (.seq (.loop (.nm 3) (.rng (.cons (.bi .len (.cons (.idx (.var 0) (.int 1)) .nil)) .nil))
 (.seq (.set 2 (.bin .add (.var 2) (.comp (.bin .add (.var 4) (.lst (.cons (.var 3) .nil))) (.nm 4) (.seq (.var 2)) .nil [4])))
 .skip))
 (.seq (.ret (.bi .sorted (.cons (.comp (.var 4) (.nm 4) (.seq (.var 2)) (.cons (.call 17 (.cons (.var 0) (.cons (.var 1) (.cons (.var 4) .nil)))) .nil) [4]) .nil)))
 .skip)))
abbrev fd_law_all : Fd := ⟨["_law_web_here", "_law_wishes_here"], ["_law_web_here", "_law_wishes_here", "_law_found", "_law_at", "_law_chosen"], b_law_all, false⟩
/-- 31: _law_are_lots -/
def b_law_are_lots : S :=
 (.seq (.set 3 (.bin .add (.var 1) (.var 2)))
 (.seq (.ite (.or (.cons (.not (.bi .all (.cons (.comp (.cmp (.int 0) (.ccons .le (.var 4) (.ccons .lt (.idx (.var 0) (.int 0)) .cnil))) (.nm 4) (.seq (.var 3)) .nil [4]) .nil))) (.cons (.cmp (.sets false (.var 3)) (.ccons .ne (.bi .len (.cons (.var 3) .nil)) .cnil)) .nil)))
 (.seq (.ret (.bl false))
 .skip)
 .skip)
 (.seq (.ret (.and (.cons (.cmp (.var 1) (.ccons .eq (.bi .sorted (.cons (.var 1) .nil)) .cnil)) (.cons (.cmp (.var 2) (.ccons .eq (.bi .sorted (.cons (.var 2) .nil)) .cnil)) .nil))))
 .skip)))
abbrev fd_law_are_lots : Fd := ⟨["_law_web_here", "_law_one", "_law_other"], ["_law_web_here", "_law_one", "_law_other", "_law_both", "_law_place"], b_law_are_lots, false⟩
/-- 32: _law_pieces -/
def b_law_pieces : S :=
 (.seq (.set 2 (.lst .nil))
 (.seq (.loop (.nm 3) (.rng (.cons (.idx (.var 0) (.int 0)) .nil))
 (.seq (.ite (.and (.cons (.cmp (.var 3) (.ccons .notin (.var 1) .cnil)) (.cons (.not (.bi .any (.cons (.comp (.cmp (.var 3) (.ccons .isin (.var 4) .cnil)) (.nm 4) (.seq (.var 2)) .nil [4]) .nil))) .nil)))
 (.seq (.par 4 5 (.lst (.cons (.var 3) .nil)) (.int 0))
 (.seq (.whl 100000 (.cmp (.var 5) (.ccons .lt (.bi .len (.cons (.var 4) .nil)) .cnil))
 (.seq (.loop (.nm 6) (.seq (.idx (.var 0) (.int 1)))
 (.seq (.ite (.cmp (.idx (.var 4) (.var 5)) (.ccons .isin (.var 6) .cnil))
 (.seq (.set 7 (.bin .sub (.bin .add (.idx (.var 6) (.int 0)) (.idx (.var 6) (.int 1))) (.idx (.var 4) (.var 5))))
 (.seq (.ite (.and (.cons (.cmp (.var 7) (.ccons .notin (.var 1) .cnil)) (.cons (.cmp (.var 7) (.ccons .notin (.var 4) .cnil)) .nil)))
 (.seq (.app 4 (.var 7))
 .skip)
 .skip)
 .skip))
 .skip)
 .skip))
 (.seq (.set 5 (.bin .add (.var 5) (.int 1)))
 .skip)))
 (.seq (.app 2 (.var 4))
 .skip)))
 .skip)
 .skip))
 (.seq (.ret (.var 2))
 .skip)))
abbrev fd_law_pieces : Fd := ⟨["_law_web_here", "_law_out"], ["_law_web_here", "_law_out", "_law_found", "_law_start", "_law_piece", "_law_at", "_law_tie", "_law_far"], b_law_pieces, false⟩
/-- 33: _law_ties -/
def b_law_ties : S :=
 (.seq (.ret (.bi .len (.cons (.comp (.var 3) (.nm 3) (.seq (.idx (.var 0) (.int 1))) (.cons (.or (.cons (.and (.cons (.cmp (.idx (.var 3) (.int 0)) (.ccons .isin (.var 1) .cnil)) (.cons (.cmp (.idx (.var 3) (.int 1)) (.ccons .isin (.var 2) .cnil)) .nil))) (.cons (.and (.cons (.cmp (.idx (.var 3) (.int 0)) (.ccons .isin (.var 2) .cnil)) (.cons (.cmp (.idx (.var 3) (.int 1)) (.ccons .isin (.var 1) .cnil)) .nil))) .nil))) .nil) [3]) .nil)))
 .skip)
abbrev fd_law_ties : Fd := ⟨["_law_web_here", "_law_one", "_law_other"], ["_law_web_here", "_law_one", "_law_other", "_law_tie"], b_law_ties, false⟩
/-- 34: _law_spare -/
def b_law_spare : S :=
 (.seq (.set 4 (.bi .sum (.cons (.comp (.idx (.idx (.var 1) (.var 6)) (.int 1)) (.nm 6) (.seq (.var 2)) .nil [6]) .nil)))
 (.seq (.set 5 (.comp (.var 6) (.nm 6) (.rng (.cons (.idx (.var 0) (.int 0)) .nil)) (.cons (.cmp (.var 6) (.ccons .notin (.var 2) .cnil)) .nil) [6]))
 (.seq (.loop (.nm 6) (.seq (.var 3))
 (.seq (.set 7 (.comp (.var 10) (.nm 10) (.seq (.var 5)) (.cons (.cmp (.var 10) (.ccons .ne (.var 6) .cnil)) .nil) [10]))
 (.seq (.set 4 (.bin .sub (.bin .add (.var 4) (.call 33 (.cons (.var 0) (.cons (.lst (.cons (.var 6) .nil)) (.cons (.var 7) .nil))))) (.idx (.idx (.var 1) (.var 6)) (.int 0))))
 .skip)))
 (.seq (.loop (.nm 8) (.seq (.call 32 (.cons (.var 0) (.cons (.bin .add (.var 2) (.var 3)) .nil))))
 (.seq (.ite (.bi .all (.cons (.comp (.cmp (.idx (.idx (.var 1) (.var 6)) (.int 0)) (.ccons .eq (.idx (.idx (.var 1) (.var 6)) (.int 1)) .cnil)) (.nm 6) (.seq (.var 8)) .nil [6]) .nil))
 (.seq (.set 9 (.bin .add (.bi .sum (.cons (.comp (.idx (.idx (.var 1) (.var 6)) (.int 0)) (.nm 6) (.seq (.var 8)) .nil [6]) .nil)) (.call 33 (.cons (.var 0) (.cons (.var 8) (.cons (.var 3) .nil))))))
 (.seq (.set 4 (.bin .sub (.var 4) (.bin .mod (.var 9) (.int 2))))
 .skip))
 .skip)
 .skip))
 (.seq (.ret (.var 4))
 .skip)))))
abbrev fd_law_spare : Fd := ⟨["_law_web_here", "_law_wishes_here", "_law_one", "_law_other"], ["_law_web_here", "_law_wishes_here", "_law_one", "_law_other", "_law_left", "_law_free", "_law_place", "_law_others", "_law_piece", "_law_number_here", "_law_far"], b_law_spare, false⟩
/-- 35: _law_due -/
def b_law_due : S :=
 (.seq (.ite (.isk (.var 2) 113)
 (.seq (.set 3 (.attr (.var 2) 80))
 (.seq (.ite (.or (.cons (.not (.bi .all (.cons (.comp (.cmp (.int 0) (.ccons .le (.var 4) (.ccons .lt (.bi .len (.cons (.idx (.var 0) (.int 1)) .nil)) .cnil))) (.nm 4) (.seq (.var 3)) .nil [4]) .nil))) (.cons (.cmp (.var 3) (.ccons .ne (.sets true (.var 3)) .cnil)) .nil)))
 (.seq (.ret (.bl false))
 .skip)
 .skip)
 (.seq (.ret (.call 17 (.cons (.var 0) (.cons (.var 1) (.cons (.var 3) .nil)))))
 .skip)))
 .skip)
 (.seq (.ite (.not (.call 31 (.cons (.var 0) (.cons (.attr (.var 2) 97) (.cons (.attr (.var 2) 98) .nil)))))
 (.seq (.ret (.bl false))
 .skip)
 .skip)
 (.seq (.ret (.cmp (.call 34 (.cons (.var 0) (.cons (.var 1) (.cons (.attr (.var 2) 97) (.cons (.attr (.var 2) 98) .nil))))) (.ccons .lt (.int 0) .cnil)))
 .skip)))
abbrev fd_law_due : Fd := ⟨["_law_web_here", "_law_wishes_here", "_law_answer"], ["_law_web_here", "_law_wishes_here", "_law_answer", "_law_ties_here", "_law_at"], b_law_due, false⟩
/-- 36: _law_one_right -/
def b_law_one_right : S :=
 (.seq (.par 3 4 (.lst (.cons (.call 16 (.cons (.var 0) .nil)) (.cons (.bi .list (.cons (.var 1) .nil)) .nil))) (.cmp (.call 30 (.cons (.var 0) (.cons (.var 1) .nil))) (.ccons .ne (.lst .nil) .cnil)))
 (.seq (.loop (.nm 5) (.rng (.cons (.int 2) .nil))
 (.seq (.set 6 (.call 27 (.cons (.idx (.var 3) (.int 0)) (.cons (.idx (.var 3) (.int 1)) .nil))))
 (.seq (.ite (.or (.cons (.not (.isk (.var 6) 112)) (.cons (.isk (.var 6) 115) (.cons (.cmp (.var 3) (.ccons .ne (.lst (.cons (.var 0) (.cons (.var 1) .nil))) .cnil)) .nil))))
 (.seq (.ret (.bl false))
 .skip)
 .skip)
 (.seq (.ite (.cmp (.lst (.cons (.isk (.var 6) 113) (.cons (.isk (.var 6) 114) .nil))) (.ccons .ne (.lst (.cons (.var 4) (.cons (.not (.var 4)) .nil))) .cnil))
 (.seq (.ret (.bl false))
 .skip)
 .skip)
 (.seq (.set 7 (.ite (.var 4) (.lst (.cons (.attr (.var 6) 80) .nil)) (.lst (.cons (.attr (.var 6) 97) (.cons (.attr (.var 6) 98) .nil)))))
 (.seq (.ite (.or (.cons (.not (.bi .all (.cons (.comp (.isi (.var 8) .list) (.nm 8) (.seq (.var 7)) .nil [8]) .nil))) (.cons (.not (.call 35 (.cons (.var 0) (.cons (.var 1) (.cons (.var 6) .nil))))) .nil)))
 (.seq (.ret (.bl false))
 .skip)
 .skip)
 (.seq (.ite (.or (.cons (.cmp (.meth 3214 (.var 6) (.cons (.var 0) (.cons (.var 1) .nil))) (.ccons .isnot (.bl true) .cnil)) (.cons (.cmp (.meth 3214 (.var 6) (.cons (.var 0) (.cons (.var 2) .nil))) (.ccons .ne (.call 35 (.cons (.var 0) (.cons (.var 2) (.cons (.var 6) .nil)))) .cnil)) .nil)))
 (.seq (.ret (.bl false))
 .skip)
 .skip)
 (.seq (.loop (.nm 8) (.seq (.var 7))
 (.seq (.ext 8 (.lst (.cons (.int 0) (.cons (.int 0) .nil))))
 .skip))
 (.seq (.ite (.cmp (.meth 3214 (.var 6) (.cons (.var 0) (.cons (.var 1) .nil))) (.ccons .isnot (.bl false) .cnil))
 (.seq (.ret (.bl false))
 .skip)
 .skip)
 .skip)))))))))
 (.seq (.ret (.bl true))
 .skip)))
abbrev fd_law_one_right : Fd := ⟨["_law_web_here", "_law_wishes_here", "_law_other"], ["_law_web_here", "_law_wishes_here", "_law_other", "_law_handed", "_law_good", "_law_again", "_law_answer", "_law_lists", "_law_some"], b_law_one_right, false⟩
/-- 37: law -/
def b_law2 : S :=
 (.seq (.set 1 (.bi .abs (.cons (.bi .sum (.cons (.sli .one (.var 0) .nil (.cons (.int 63) .nil)) .nil)) .nil)))
 (.seq (.loop (.nm 2) (.seq (.lst (.cons (.int 0) (.cons (.int 1) .nil))))
 (.seq (.set 3 (.cmp (.bin .mod (.var 1) (.int 16)) (.ccons .ne (.var 2) .cnil)))
 (.seq (.set 4 (.call 28 (.cons (.var 0) (.cons (.var 2) (.cons (.ite (.var 3) (.int 5) (.int 6)) (.cons (.ite (.var 3) (.int 7) (.int 9)) .nil))))))
 (.seq (.set 5 (.call 29 (.cons (.var 0) (.cons (.bin .add (.var 2) (.int 4)) (.cons (.var 4) .nil)))))
 (.seq (.loop (.nm 6) (.seq (.lst (.cons (.call 29 (.cons (.var 0) (.cons (.var 2) (.cons (.var 4) .nil)))) (.cons (.call 29 (.cons (.var 0) (.cons (.bin .add (.var 2) (.int 1)) (.cons (.var 4) .nil)))) (.cons (.bin .mul (.lst (.cons (.tup (.cons (.int 1) (.cons (.int 1) .nil))) .nil)) (.idx (.var 4) (.int 0))) .nil)))))
 (.seq (.ite (.not (.call 36 (.cons (.var 4) (.cons (.var 6) (.cons (.var 5) .nil)))))
 (.seq (.ret (.bl false))
 .skip)
 .skip)
 .skip))
 .skip)))))
 (.seq (.ite (.not (.isk (.call 27 (.cons (.tup (.cons (.int 2) (.cons (.lst (.cons (.tup (.cons (.int 0) (.cons (.int 1) .nil))) .nil)) .nil))) (.cons (.bin .mul (.lst (.cons (.tup (.cons (.int 20) (.cons (.int 20) .nil))) .nil)) (.int 2)) .nil))) 114))
 (.seq (.ret (.bl false))
 .skip)
 .skip)
 (.seq (.set 7 (.tup (.cons (.int 6) (.cons (.lst (.cons (.tup (.cons (.int 0) (.cons (.int 1) .nil))) (.cons (.tup (.cons (.int 0) (.cons (.int 2) .nil))) (.cons (.tup (.cons (.int 1) (.cons (.int 2) .nil))) (.cons (.tup (.cons (.int 3) (.cons (.int 4) .nil))) (.cons (.tup (.cons (.int 3) (.cons (.int 5) .nil))) (.cons (.tup (.cons (.int 4) (.cons (.int 5) .nil))) .nil))))))) .nil))))
 (.seq (.ite (.or (.cons (.not (.isk (.call 27 (.cons (.var 7) (.cons (.bin .mul (.lst (.cons (.tup (.cons (.int 1) (.cons (.int 1) .nil))) .nil)) (.int 6)) .nil))) 114)) (.cons (.cmp (.meth 3214 (.mk 2 (.cons (.lst .nil) (.cons (.lst .nil) .nil))) (.cons (.var 7) (.cons (.bin .mul (.lst (.cons (.tup (.cons (.int 1) (.cons (.int 1) .nil))) .nil)) (.int 6)) .nil))) (.ccons .isnot (.bl true) .cnil)) .nil)))
 (.seq (.ret (.bl false))
 .skip)
 .skip)
 (.seq (.set 8 (.tup (.cons (.int 3) (.cons (.lst (.cons (.tup (.cons (.int 0) (.cons (.int 1) .nil))) (.cons (.tup (.cons (.int 0) (.cons (.int 2) .nil))) (.cons (.tup (.cons (.int 1) (.cons (.int 2) .nil))) .nil)))) .nil))))
 (.seq (.ite (.or (.cons (.not (.isk (.call 27 (.cons (.var 8) (.cons (.bin .mul (.lst (.cons (.tup (.cons (.int 1) (.cons (.int 1) .nil))) .nil)) (.int 3)) .nil))) 114)) (.cons (.cmp (.attr (.call 27 (.cons (.var 8) (.cons (.bin .mul (.lst (.cons (.tup (.cons (.int 2) (.cons (.int 2) .nil))) .nil)) (.int 3)) .nil))) 80) (.ccons .ne (.lst (.cons (.int 0) (.cons (.int 1) (.cons (.int 2) .nil)))) .cnil)) .nil)))
 (.seq (.ret (.bl false))
 .skip)
 .skip)
 (.seq (.ret (.isk (.call 27 (.cons (.tup (.cons (.int 4) (.cons (.lst (.cons (.tup (.cons (.int 0) (.cons (.int 1) .nil))) (.cons (.tup (.cons (.int 0) (.cons (.int 2) .nil))) (.cons (.tup (.cons (.int 0) (.cons (.int 3) .nil))) .nil)))) .nil))) (.cons (.bin .mul (.lst (.cons (.tup (.cons (.int 1) (.cons (.int 1) .nil))) .nil)) (.int 4)) .nil))) 114))
 .skip))))))))
abbrev fd_law2 : Fd := ⟨["_law_script"], ["_law_script", "_law_whole", "_law_by", "_law_few", "_law_web_here", "_law_other", "_law_wishes_here", "_law_both", "_law_three"], b_law2, false⟩
/-- 38: _law_says -/
def b_law_says : S :=
 (.seq (.ret (.and (.cons (.isi (.var 0) .bool) (.cons (.cmp (.var 0) (.ccons .eq (.var 1) .cnil)) .nil))))
 .skip)
abbrev fd_law_says : Fd := ⟨["_law_said", "_law_due"], ["_law_said", "_law_due"], b_law_says, false⟩
/-- 39: _law_choice_right -/
def b_law_choice_right : S :=
 (.made 3 4 1 [2]
 (.seq (.set 5 (.and (.cons (.bi .all (.cons (.comp (.cmp (.int 0) (.ccons .le (.var 6) (.ccons .lt (.bi .len (.cons (.idx (.var 0) (.int 1)) .nil)) .cnil))) (.nm 6) (.seq (.var 2)) .nil [6]) .nil)) (.cons (.cmp (.var 2) (.ccons .eq (.sets true (.var 2)) .cnil)) (.cons (.call 17 (.cons (.var 0) (.cons (.var 1) (.cons (.var 2) .nil)))) .nil)))))
 (.seq (.ret (.and (.cons (.cmp (.attr (.var 4) 16) (.ccons .eq (.var 2) .cnil)) (.cons (.isk (.var 4) 48) (.cons (.call 38 (.cons (.meth 3206 (.var 4) (.cons (.var 0) (.cons (.var 1) .nil))) (.cons (.var 5) .nil))) .nil)))))
 .skip)))
abbrev fd_law_choice_right : Fd := ⟨["_law_web_here", "_law_wishes_here", "_law_ties_here"], ["_law_web_here", "_law_wishes_here", "_law_ties_here", "_law_handed", "_law_built", "_law_due", "_law_at"], b_law_choice_right, false⟩
/-- 40: _law_lots_right -/
def b_law_lots_right : S :=
 (.made 4 5 2 [2, 3]
 (.seq (.set 6 (.and (.cons (.call 31 (.cons (.var 0) (.cons (.var 2) (.cons (.var 3) .nil)))) (.cons (.cmp (.call 34 (.cons (.var 0) (.cons (.var 1) (.cons (.var 2) (.cons (.var 3) .nil))))) (.ccons .lt (.int 0) .cnil)) .nil))))
 (.seq (.ret (.and (.cons (.cmp (.lst (.cons (.attr (.var 5) 33) (.cons (.attr (.var 5) 34) .nil))) (.ccons .eq (.lst (.cons (.var 2) (.cons (.var 3) .nil))) .cnil)) (.cons (.call 38 (.cons (.meth 3206 (.var 5) (.cons (.var 0) (.cons (.var 1) .nil))) (.cons (.var 6) .nil))) .nil))))
 .skip)))
abbrev fd_law_lots_right : Fd := ⟨["_law_web_here", "_law_wishes_here", "_law_one", "_law_other"], ["_law_web_here", "_law_wishes_here", "_law_one", "_law_other", "_law_handed", "_law_built", "_law_due"], b_law_lots_right, false⟩
/-- 41: law -/
def b_law3 : S :=
 (.seq (.set 1 (.bi .abs (.cons (.bi .sum (.cons (.sli .one (.var 0) .nil (.cons (.int 63) .nil)) .nil)) .nil)))
 (.seq (.loop (.nm 2) (.seq (.lst (.cons (.int 0) (.cons (.int 1) (.cons (.int 3) .nil)))))
 (.seq (.set 3 (.call 28 (.cons (.var 0) (.cons (.var 2) (.cons (.int 5) (.cons (.int 8) .nil))))))
 (.seq (.set 4 (.call 15 (.cons (.var 0) (.cons (.var 2) (.cons (.var 3) .nil)))))
 (.seq (.set 5 (.idx (.bin .add (.call 30 (.cons (.var 3) (.cons (.var 4) .nil))) (.lst (.cons (.lst .nil) .nil))) (.int 0)))
 (.seq (.loop (.nm 6) (.seq (.lst (.cons (.var 5) (.cons (.call 14 (.cons (.var 0) (.cons (.var 2) (.cons (.var 3) .nil)))) (.cons (.sli .back (.var 5) .nil .nil) (.cons (.bin .add (.var 5) (.sli .one (.var 5) (.cons (.neg (.int 1)) .nil) .nil)) (.cons (.lst (.cons (.bi .len (.cons (.idx (.var 3) (.int 1)) .nil)) .nil)) (.cons (.lst (.cons (.neg (.int 1)) .nil)) (.cons (.lst (.cons (.bin .pow (.int 10) (.int 20)) .nil)) .nil)))))))))
 (.seq (.ite (.not (.call 39 (.cons (.var 3) (.cons (.var 4) (.cons (.var 6) .nil)))))
 (.seq (.ret (.bl false))
 .skip)
 .skip)
 .skip))
 (.seq (.loop (.nm 7) (.rng (.cons (.bin .mod (.var 1) (.int 5)) (.cons (.int 243) (.cons (.int 11) .nil))))
 (.seq (.set 8 (.comp (.var 11) (.nm 11) (.rng (.cons (.idx (.var 3) (.int 0)) .nil)) (.cons (.cmp (.bin .mod (.bin .fdiv (.var 7) (.idx (.tup (.cons (.int 1) (.cons (.int 3) (.cons (.int 9) (.cons (.int 27) (.cons (.int 81) .nil)))))) (.var 11))) (.int 3)) (.ccons .eq (.int 1) .cnil)) .nil) [11]))
 (.seq (.set 9 (.comp (.var 11) (.nm 11) (.rng (.cons (.idx (.var 3) (.int 0)) .nil)) (.cons (.cmp (.bin .mod (.bin .fdiv (.var 7) (.idx (.tup (.cons (.int 1) (.cons (.int 3) (.cons (.int 9) (.cons (.int 27) (.cons (.int 81) .nil)))))) (.var 11))) (.int 3)) (.ccons .eq (.int 2) .cnil)) .nil) [11]))
 (.seq (.ite (.not (.call 40 (.cons (.var 3) (.cons (.var 4) (.cons (.var 8) (.cons (.var 9) .nil))))))
 (.seq (.ret (.bl false))
 .skip)
 .skip)
 .skip))))
 (.seq (.loop (.tp (.cons (.nm 8) (.cons (.nm 9) .nil))) (.seq (.lst (.cons (.tup (.cons (.lst (.cons (.int 0) .nil)) (.cons (.lst (.cons (.int 0) .nil)) .nil))) (.cons (.tup (.cons (.lst (.cons (.int 1) (.cons (.int 0) .nil))) (.cons (.lst .nil) .nil))) (.cons (.tup (.cons (.lst .nil) (.cons (.lst (.cons (.idx (.var 3) (.int 0)) .nil)) .nil))) (.cons (.tup (.cons (.lst (.cons (.neg (.int 1)) .nil)) (.cons (.lst .nil) .nil))) (.cons (.tup (.cons (.lst (.cons (.int 0) (.cons (.int 0) .nil))) (.cons (.lst .nil) .nil))) (.cons (.tup (.cons (.lst .nil) (.cons (.lst (.cons (.bin .pow (.int 10) (.int 20)) .nil)) .nil))) .nil))))))))
 (.seq (.ite (.not (.call 40 (.cons (.var 3) (.cons (.var 4) (.cons (.var 8) (.cons (.var 9) .nil))))))
 (.seq (.ret (.bl false))
 .skip)
 .skip)
 .skip))
 .skip)))))))
 (.seq (.set 10 (.tup (.cons (.int 3) (.cons (.lst (.cons (.tup (.cons (.int 0) (.cons (.int 1) .nil))) (.cons (.tup (.cons (.int 0) (.cons (.int 2) .nil))) (.cons (.tup (.cons (.int 1) (.cons (.int 2) .nil))) .nil)))) .nil))))
 (.seq (.ite (.cmp (.meth 3206 (.mk 2 (.cons (.lst (.cons (.int 0) .nil)) (.cons (.lst (.cons (.int 0) .nil)) .nil))) (.cons (.tup (.cons (.int 2) (.cons (.lst .nil) .nil))) (.cons (.bin .mul (.lst (.cons (.tup (.cons (.int 1) (.cons (.int 1) .nil))) .nil)) (.int 2)) .nil))) (.ccons .isnot (.bl false) .cnil))
 (.seq (.ret (.bl false))
 .skip)
 .skip)
 (.seq (.ret (.and (.cons (.cmp (.meth 3206 (.mk 2 (.cons (.lst .nil) (.cons (.lst .nil) .nil))) (.cons (.var 10) (.cons (.bin .mul (.lst (.cons (.tup (.cons (.int 1) (.cons (.int 1) .nil))) .nil)) (.int 3)) .nil))) (.ccons .is (.bl true) .cnil)) (.cons (.cmp (.meth 3206 (.mk 2 (.cons (.lst .nil) (.cons (.lst .nil) .nil))) (.cons (.var 10) (.cons (.bin .mul (.lst (.cons (.tup (.cons (.int 2) (.cons (.int 2) .nil))) .nil)) (.int 3)) .nil))) (.ccons .is (.bl false) .cnil)) .nil))))
 .skip)))))
abbrev fd_law3 : Fd := ⟨["_law_script"], ["_law_script", "_law_whole", "_law_by", "_law_web_here", "_law_wishes_here", "_law_told", "_law_ties_here", "_law_number_here", "_law_one", "_law_other", "_law_three", "_law_place"], b_law3, false⟩
/-- 42: how_many -/
def b_how_many : S :=
 (.seq (.expr (.call 2 (.cons (.var 0) .nil)))
 (.seq (.expr (.call 3 (.cons (.var 0) (.cons (.var 1) .nil))))
 (.seq (.ret (.bi .len (.cons (.call 25 (.cons (.var 0) (.cons (.var 1) .nil))) .nil)))
 .skip)))
abbrev fd_how_many : Fd := ⟨["web", "wishes"], ["web", "wishes"], b_how_many, false⟩
/-- 43: by_number -/
def b_by_number : S :=
 (.seq (.expr (.call 2 (.cons (.var 0) .nil)))
 (.seq (.expr (.call 3 (.cons (.var 0) (.cons (.var 1) .nil))))
 (.seq (.set 3 (.call 25 (.cons (.var 0) (.cons (.var 1) .nil))))
 (.seq (.ite (.or (.cons (.not (.call 0 (.cons (.var 2) .nil))) (.cons (.not (.cmp (.int 0) (.ccons .le (.var 2) (.ccons .lt (.bi .len (.cons (.var 3) .nil)) .cnil)))) .nil)))
 (.seq (.raise 4)
 .skip)
 .skip)
 (.seq (.ret (.idx (.var 3) (.var 2)))
 .skip)))))
abbrev fd_by_number : Fd := ⟨["web", "wishes", "number"], ["web", "wishes", "number", "every"], b_by_number, false⟩
/-- 44: lightest -/
def b_lightest : S :=
 (.seq (.expr (.call 2 (.cons (.var 0) .nil)))
 (.seq (.expr (.call 3 (.cons (.var 0) (.cons (.var 1) .nil))))
 (.seq (.ite (.or (.cons (.not (.isi (.var 2) .list)) (.cons (.cmp (.bi .len (.cons (.var 2) .nil)) (.ccons .ne (.bi .len (.cons (.idx (.var 0) (.int 1)) .nil)) .cnil)) (.cons (.not (.bi .all (.cons (.comp (.call 0 (.cons (.var 5) .nil)) (.nm 5) (.seq (.var 2)) .nil [5]) .nil))) .nil))))
 (.seq (.raise 5)
 .skip)
 .skip)
 (.seq (.set 3 (.call 25 (.cons (.var 0) (.cons (.var 1) .nil))))
 (.seq (.ite (.cmp (.var 3) (.ccons .eq (.lst .nil) .cnil))
 (.seq (.raise 9)
 .skip)
 .skip)
 (.seq (.set 4 (.comp (.bi .sum (.cons (.comp (.idx (.var 2) (.var 6)) (.nm 6) (.seq (.var 7)) .nil [6]) .nil)) (.nm 7) (.seq (.var 3)) .nil [7]))
 (.seq (.ret (.idx (.var 3) (.index (.var 4) (.bi .minl (.cons (.var 4) .nil)))))
 .skip)))))))
abbrev fd_lightest : Fd := ⟨["web", "wishes", "weights"], ["web", "wishes", "weights", "every", "sums", "one", "at", "chosen"], b_lightest, false⟩
/-- 45: _law_none -/
def b_law_none : S :=
 (.seq (.tryA (.call 44 (.cons (.var 0) (.cons (.var 1) (.cons (.var 2) .nil)))) 3 4 [9] 4 5 2 9)
 (.seq (.ret (.bl false))
 .skip))
abbrev fd_law_none : Fd := ⟨["_law_web_here", "_law_wishes_here", "_law_weights"], ["_law_web_here", "_law_wishes_here", "_law_weights", "error", "_law_wrong"], b_law_none, false⟩
/-- 46: _law_one_right -/
def b_law_one_right2 : S :=
 (.seq (.par 4 5 (.lst (.cons (.call 16 (.cons (.var 0) .nil)) (.cons (.bi .list (.cons (.var 1) .nil)) (.cons (.bi .list (.cons (.var 2) .nil)) .nil)))) (.call 30 (.cons (.var 0) (.cons (.var 1) .nil))))
 (.seq (.set 6 (.call 42 (.cons (.idx (.var 4) (.int 0)) (.cons (.idx (.var 4) (.int 1)) .nil))))
 (.seq (.ite (.or (.cons (.isi (.var 6) .bool) (.cons (.cmp (.var 6) (.ccons .ne (.bi .len (.cons (.var 5) .nil)) .cnil)) (.cons (.cmp (.var 4) (.ccons .ne (.lst (.cons (.var 0) (.cons (.var 1) (.cons (.var 2) .nil)))) .cnil)) .nil))))
 (.seq (.ret (.bl false))
 .skip)
 .skip)
 (.seq (.ite (.cmp (.var 5) (.ccons .eq (.lst .nil) .cnil))
 (.seq (.ret (.call 45 (.cons (.var 0) (.cons (.var 1) (.cons (.var 2) .nil)))))
 .skip)
 .skip)
 (.seq (.loop (.nm 7) (.seq (.lst (.cons (.int 0) (.cons (.bin .sub (.var 6) (.int 1)) (.cons (.bin .mod (.var 3) (.var 6)) .nil)))))
 (.seq (.set 8 (.call 43 (.cons (.idx (.var 4) (.int 0)) (.cons (.idx (.var 4) (.int 1)) (.cons (.var 7) .nil)))))
 (.seq (.ite (.or (.cons (.not (.isi (.var 8) .list)) (.cons (.cmp (.var 8) (.ccons .ne (.idx (.var 5) (.var 7)) .cnil)) .nil)))
 (.seq (.ret (.bl false))
 .skip)
 .skip)
 (.seq (.app 8 (.int 0))
 (.seq (.ite (.cmp (.call 43 (.cons (.idx (.var 4) (.int 0)) (.cons (.idx (.var 4) (.int 1)) (.cons (.var 7) .nil)))) (.ccons .ne (.idx (.var 5) (.var 7)) .cnil))
 (.seq (.ret (.bl false))
 .skip)
 .skip)
 .skip)))))
 (.seq (.set 9 (.comp (.bi .sum (.cons (.comp (.idx (.var 2) (.var 10)) (.nm 10) (.seq (.var 11)) .nil [10]) .nil)) (.nm 11) (.seq (.var 5)) .nil [11]))
 (.seq (.set 8 (.call 44 (.cons (.idx (.var 4) (.int 0)) (.cons (.idx (.var 4) (.int 1)) (.cons (.idx (.var 4) (.int 2)) .nil)))))
 (.seq (.ite (.or (.cons (.not (.isi (.var 8) .list)) (.cons (.cmp (.var 8) (.ccons .ne (.idx (.var 5) (.index (.var 9) (.bi .minl (.cons (.var 9) .nil)))) .cnil)) (.cons (.cmp (.var 4) (.ccons .ne (.lst (.cons (.var 0) (.cons (.var 1) (.cons (.var 2) .nil)))) .cnil)) .nil))))
 (.seq (.ret (.bl false))
 .skip)
 .skip)
 (.seq (.app 8 (.int 0))
 (.seq (.ret (.cmp (.call 44 (.cons (.var 0) (.cons (.var 1) (.cons (.var 2) .nil)))) (.ccons .eq (.sli .one (.var 8) .nil (.cons (.neg (.int 1)) .nil)) .cnil)))
 .skip))))))))))
abbrev fd_law_one_right2 : Fd := ⟨["_law_web_here", "_law_wishes_here", "_law_weights", "_law_whole"], ["_law_web_here", "_law_wishes_here", "_law_weights", "_law_whole", "_law_handed", "_law_every", "_law_many", "_law_number_here", "_law_found", "_law_sums", "_law_at", "_law_chosen"], b_law_one_right2, false⟩
/-- 47: law -/
def b_law4 : S :=
 (.seq (.set 1 (.bi .abs (.cons (.bi .sum (.cons (.sli .one (.var 0) .nil (.cons (.int 63) .nil)) .nil)) .nil)))
 (.seq (.loop (.nm 2) (.seq (.lst (.cons (.int 0) (.cons (.int 1) .nil))))
 (.seq (.set 3 (.cmp (.bin .mod (.var 1) (.int 16)) (.ccons .ne (.var 2) .cnil)))
 (.seq (.set 4 (.call 12 (.cons (.var 0) (.cons (.var 2) (.cons (.ite (.var 3) (.int 6) (.int 8)) (.cons (.ite (.var 3) (.int 6) (.int 8)) .nil))))))
 (.seq (.set 5 (.lst .nil))
 (.seq (.loop (.nm 6) (.rng (.cons (.bi .len (.cons (.idx (.var 4) (.int 1)) .nil)) .nil))
 (.seq (.set 7 (.bin .fdiv (.call 11 (.cons (.bin .add (.var 1) (.var 6)) (.cons (.var 2) (.cons (.int 5) .nil)))) (.int 3)))
 (.seq (.app 5 (.bin .sub (.bin .mod (.var 7) (.idx (.tup (.cons (.int 3) (.cons (.int 50) (.cons (.bin .pow (.int 10) (.int 25)) .nil)))) (.bin .mod (.bin .fdiv (.var 1) (.int 3)) (.int 3)))) (.int 1)))
 .skip)))
 (.seq (.loop (.nm 8) (.seq (.lst (.cons (.call 15 (.cons (.var 0) (.cons (.var 2) (.cons (.var 4) .nil)))) (.cons (.bin .mul (.lst (.cons (.tup (.cons (.int 0) (.cons (.int 1) .nil))) .nil)) (.idx (.var 4) (.int 0))) (.cons (.call 15 (.cons (.var 0) (.cons (.bin .add (.var 2) (.int 2)) (.cons (.var 4) .nil)))) .nil)))))
 (.seq (.ite (.not (.call 46 (.cons (.var 4) (.cons (.var 8) (.cons (.var 5) (.cons (.var 1) .nil))))))
 (.seq (.ret (.bl false))
 .skip)
 .skip)
 .skip))
 .skip))))))
 (.seq (.set 9 (.tup (.cons (.int 3) (.cons (.lst (.cons (.tup (.cons (.int 0) (.cons (.int 1) .nil))) (.cons (.tup (.cons (.int 1) (.cons (.int 2) .nil))) .nil))) .nil))))
 (.seq (.ite (.or (.cons (.cmp (.call 42 (.cons (.var 9) (.cons (.bin .mul (.lst (.cons (.tup (.cons (.int 0) (.cons (.int 1) .nil))) .nil)) (.int 3)) .nil))) (.ccons .ne (.int 3) .cnil)) (.cons (.cmp (.call 43 (.cons (.var 9) (.cons (.bin .mul (.lst (.cons (.tup (.cons (.int 0) (.cons (.int 1) .nil))) .nil)) (.int 3)) (.cons (.int 2) .nil)))) (.ccons .ne (.lst (.cons (.int 1) .nil)) .cnil)) .nil)))
 (.seq (.ret (.bl false))
 .skip)
 .skip)
 (.seq (.ret (.cmp (.call 42 (.cons (.tup (.cons (.int 1) (.cons (.lst .nil) .nil))) (.cons (.lst (.cons (.tup (.cons (.int 0) (.cons (.int 3) .nil))) .nil)) .nil))) (.ccons .eq (.int 1) .cnil)))
 .skip)))))
abbrev fd_law4 : Fd := ⟨["_law_script"], ["_law_script", "_law_whole", "_law_by", "_law_few", "_law_web_here", "_law_weights", "_law_at", "_law_number_here", "_law_wishes_here", "_law_row"], b_law4, false⟩
/-- 48: asked_tops -/
def b_asked_tops : S :=
 (.seq (.ite (.or (.cons (.not (.isi (.var 1) .list)) (.cons (.cmp (.bi .len (.cons (.var 1) .nil)) (.ccons .ne (.idx (.var 0) (.int 0)) .cnil)) (.cons (.not (.bi .all (.cons (.comp (.call 0 (.cons (.var 2) .nil)) (.nm 2) (.seq (.var 1)) .nil [2]) .nil))) .nil))))
 (.seq (.raise 2)
 .skip)
 .skip)
 (.seq (.ite (.not (.bi .all (.cons (.comp (.cmp (.int 0) (.ccons .le (.var 2) (.ccons .le (.glob "GREATEST" 20) .cnil))) (.nm 2) (.seq (.var 1)) .nil [2]) .nil)))
 (.seq (.raise 2)
 .skip)
 .skip)
 .skip))
abbrev fd_asked_tops : Fd := ⟨["web", "tops"], ["web", "tops", "top"], b_asked_tops, false⟩
/-- 49: most -/
def b_most : S :=
 (.seq (.expr (.call 2 (.cons (.var 0) .nil)))
 (.seq (.expr (.call 48 (.cons (.var 0) (.cons (.var 1) .nil))))
 (.seq (.set 2 (.call 25 (.cons (.var 0) (.cons (.comp (.tup (.cons (.int 0) (.cons (.var 7) .nil))) (.nm 7) (.seq (.var 1)) .nil [7]) .nil))))
 (.seq (.set 3 (.bi .maxl (.cons (.comp (.bi .len (.cons (.var 8) .nil)) (.nm 8) (.seq (.var 2)) .nil [8]) .nil)))
 (.seq (.set 4 (.idx (.comp (.var 8) (.nm 8) (.seq (.var 2)) (.cons (.cmp (.bi .len (.cons (.var 8) .nil)) (.ccons .eq (.var 3) .cnil)) .nil) [8]) (.int 0)))
 (.seq (.loop (.tp (.cons (.nm 5) (.cons (.nm 6) .nil))) (.seq (.call 20 (.cons (.idx (.var 0) (.int 0)) .nil)))
 (.seq (.ite (.cmp (.call 24 (.cons (.var 0) (.cons (.var 1) (.cons (.var 5) (.cons (.var 6) .nil))))) (.ccons .eq (.var 3) .cnil))
 (.seq (.ret (.mk 3 (.cons (.var 4) (.cons (.var 5) (.cons (.var 6) .nil)))))
 .skip)
 .skip)
 .skip))
 (.seq (.ret (.mk 3 (.cons (.var 4) (.cons (.lst .nil) (.cons (.lst .nil) .nil)))))
 .skip)))))))
abbrev fd_most : Fd := ⟨["web", "tops"], ["web", "tops", "every", "size", "best", "one", "other", "top", "chosen"], b_most, false⟩
/-- 50: _law_bound -/
def b_law_bound : S :=
 (.seq (.set 4 (.bi .sum (.cons (.comp (.idx (.var 1) (.var 7)) (.nm 7) (.seq (.var 2)) .nil [7]) .nil)))
 (.seq (.set 4 (.bin .add (.var 4) (.bi .len (.cons (.comp (.var 8) (.nm 8) (.seq (.idx (.var 0) (.int 1))) (.cons (.and (.cons (.cmp (.idx (.var 8) (.int 0)) (.ccons .isin (.var 3) .cnil)) (.cons (.cmp (.idx (.var 8) (.int 1)) (.ccons .isin (.var 3) .cnil)) .nil))) .nil) [8]) .nil))))
 (.seq (.loop (.nm 5) (.seq (.call 32 (.cons (.var 0) (.cons (.bin .add (.var 2) (.var 3)) .nil))))
 (.seq (.set 6 (.bin .add (.bi .sum (.cons (.comp (.idx (.var 1) (.var 7)) (.nm 7) (.seq (.var 5)) .nil [7]) .nil)) (.call 33 (.cons (.var 0) (.cons (.var 5) (.cons (.var 3) .nil))))))
 (.seq (.set 4 (.bin .add (.var 4) (.bin .fdiv (.var 6) (.int 2))))
 .skip)))
 (.seq (.ret (.var 4))
 .skip))))
abbrev fd_law_bound : Fd := ⟨["_law_web_here", "_law_tops", "_law_one", "_law_other"], ["_law_web_here", "_law_tops", "_law_one", "_law_other", "_law_found", "_law_piece", "_law_half", "_law_place", "_law_tie"], b_law_bound, false⟩
/-- 51: _law_keeps -/
def b_law_keeps : S :=
 (.seq (.ite (.or (.cons (.not (.bi .all (.cons (.comp (.cmp (.int 0) (.ccons .le (.var 3) (.ccons .lt (.bi .len (.cons (.idx (.var 0) (.int 1)) .nil)) .cnil))) (.nm 3) (.seq (.var 2)) .nil [3]) .nil))) (.cons (.cmp (.var 2) (.ccons .ne (.sets true (.var 2)) .cnil)) .nil)))
 (.seq (.ret (.bl false))
 .skip)
 .skip)
 (.seq (.ret (.bi .all (.cons (.comp (.cmp (.var 4) (.ccons .le (.var 5) .cnil)) (.tp (.cons (.nm 4) (.cons (.nm 5) .nil))) (.zip (.call 13 (.cons (.var 0) (.cons (.var 2) .nil))) (.var 1)) .nil [4, 5]) .nil)))
 .skip))
abbrev fd_law_keeps : Fd := ⟨["_law_web_here", "_law_tops", "_law_ties_here"], ["_law_web_here", "_law_tops", "_law_ties_here", "_law_at", "_law_many", "_law_top"], b_law_keeps, false⟩
/-- 52: _law_greatest -/
def b_law_greatest : S :=
 (.seq (.set 2 (.lst (.cons (.lst .nil) .nil)))
 (.seq (.loop (.nm 3) (.rng (.cons (.bi .len (.cons (.idx (.var 0) (.int 1)) .nil)) .nil))
 (.seq (.set 2 (.bin .add (.var 2) (.comp (.bin .add (.var 4) (.lst (.cons (.var 3) .nil))) (.nm 4) (.seq (.var 2)) (.cons (.call 51 (.cons (.var 0) (.cons (.var 1) (.cons (.bin .add (.var 4) (.lst (.cons (.var 3) .nil))) .nil)))) .nil) [4])))
 .skip))
 (.seq (.ret (.bi .maxl (.cons (.comp (.bi .len (.cons (.var 4) .nil)) (.nm 4) (.seq (.var 2)) .nil [4]) .nil)))
 .skip)))
abbrev fd_law_greatest : Fd := ⟨["_law_web_here", "_law_tops"], ["_law_web_here", "_law_tops", "_law_found", "_law_at", "_law_some"], b_law_greatest, false⟩
/-- 53: _law_due -/
def b_law_due2 : S :=
 (.seq (.ite (.or (.cons (.not (.call 51 (.cons (.var 0) (.cons (.var 1) (.cons (.var 2) .nil))))) (.cons (.not (.call 31 (.cons (.var 0) (.cons (.var 3) (.cons (.var 4) .nil))))) .nil)))
 (.seq (.ret (.bl false))
 .skip)
 .skip)
 (.seq (.ret (.cmp (.call 50 (.cons (.var 0) (.cons (.var 1) (.cons (.var 3) (.cons (.var 4) .nil))))) (.ccons .eq (.bi .len (.cons (.var 2) .nil)) .cnil)))
 .skip))
abbrev fd_law_due2 : Fd := ⟨["_law_web_here", "_law_tops", "_law_ties_here", "_law_ahead", "_law_behind"], ["_law_web_here", "_law_tops", "_law_ties_here", "_law_ahead", "_law_behind"], b_law_due2, false⟩
/-- 54: _law_hand_right -/
def b_law_hand_right : S :=
 (.seq (.set 5 (.lst (.cons (.bi .list (.cons (.var 2) .nil)) (.cons (.bi .list (.cons (.var 3) .nil)) (.cons (.bi .list (.cons (.var 4) .nil)) .nil)))))
 (.seq (.set 6 (.mk 3 (.cons (.idx (.var 5) (.int 0)) (.cons (.idx (.var 5) (.int 1)) (.cons (.idx (.var 5) (.int 2)) .nil)))))
 (.seq (.loop (.nm 7) (.seq (.var 5))
 (.seq (.app 7 (.int 0))
 .skip))
 (.seq (.set 8 (.meth 3214 (.var 6) (.cons (.var 0) (.cons (.var 1) .nil))))
 (.seq (.ite (.or (.cons (.cmp (.lst (.cons (.attr (.var 6) 80) (.cons (.attr (.var 6) 97) (.cons (.attr (.var 6) 98) .nil)))) (.ccons .ne (.lst (.cons (.var 2) (.cons (.var 3) (.cons (.var 4) .nil)))) .cnil)) (.cons (.not (.isi (.var 8) .bool)) .nil)))
 (.seq (.ret (.bl false))
 .skip)
 .skip)
 (.seq (.ret (.cmp (.var 8) (.ccons .eq (.call 53 (.cons (.var 0) (.cons (.var 1) (.cons (.var 2) (.cons (.var 3) (.cons (.var 4) .nil)))))) .cnil)))
 .skip))))))
abbrev fd_law_hand_right : Fd := ⟨["_law_web_here", "_law_tops", "_law_ties_here", "_law_ahead", "_law_behind"], ["_law_web_here", "_law_tops", "_law_ties_here", "_law_ahead", "_law_behind", "_law_handed", "_law_built", "_law_some", "_law_said"], b_law_hand_right, false⟩
/-- 56: law -/
def b_law5 : S :=
 (.seq (.set 1 (.bi .abs (.cons (.bi .sum (.cons (.sli .one (.var 0) .nil (.cons (.int 63) .nil)) .nil)) .nil)))
 (.seq (.loop (.nm 2) (.seq (.lst (.cons (.int 0) (.cons (.int 1) .nil))))
 (.seq (.set 3 (.call 28 (.cons (.var 0) (.cons (.var 2) (.cons (.int 5) (.cons (.int 8) .nil))))))
 (.seq (.set 4 (.comp (.bin .mod (.bin .fdiv (.call 11 (.cons (.bin .add (.var 1) (.var 7)) (.cons (.var 2) (.cons (.int 5) .nil)))) (.int 3)) (.idx (.tup (.cons (.int 2) (.cons (.int 3) (.cons (.int 5) .nil)))) (.bin .mod (.var 1) (.int 3)))) (.nm 7) (.rng (.cons (.idx (.var 3) (.int 0)) .nil)) .nil [7]))
 (.seq (.loop (.nm 5) (.seq (.lst (.cons (.var 4) (.cons (.bin .mul (.lst (.cons (.int 1) .nil)) (.idx (.var 3) (.int 0))) (.cons (.bin .mul (.lst (.cons (.int 20) .nil)) (.idx (.var 3) (.int 0))) .nil)))))
 (.seq (.ite (.not (.call 55 (.cons (.var 3) (.cons (.var 5) (.cons (.var 4) .nil)))))
 (.seq (.ret (.bl false))
 .skip)
 .skip)
 .skip))
 .skip))))
 (.seq (.set 6 (.tup (.cons (.int 3) (.cons (.lst (.cons (.tup (.cons (.int 0) (.cons (.int 1) .nil))) (.cons (.tup (.cons (.int 0) (.cons (.int 2) .nil))) (.cons (.tup (.cons (.int 1) (.cons (.int 2) .nil))) .nil)))) .nil))))
 (.seq (.ite (.or (.cons (.cmp (.bi .len (.cons (.attr (.call 49 (.cons (.var 6) (.cons (.lst (.cons (.int 1) (.cons (.int 1) (.cons (.int 1) .nil)))) .nil))) 80) .nil)) (.ccons .ne (.int 1) .cnil)) (.cons (.cmp (.attr (.call 49 (.cons (.tup (.cons (.int 1) (.cons (.lst .nil) .nil))) (.cons (.lst (.cons (.int 0) .nil)) .nil))) 80) (.ccons .ne (.lst .nil) .cnil)) .nil)))
 (.seq (.ret (.bl false))
 .skip)
 .skip)
 (.seq (.ret (.cmp (.bi .len (.cons (.attr (.call 49 (.cons (.var 6) (.cons (.lst (.cons (.int 2) (.cons (.int 1) (.cons (.int 1) .nil)))) .nil))) 80) .nil)) (.ccons .eq (.int 2) .cnil)))
 .skip)))))
abbrev fd_law5 : Fd := ⟨["_law_script"], ["_law_script", "_law_whole", "_law_by", "_law_web_here", "_law_drawn_here", "_law_tops", "_law_three", "_law_place"], b_law5, false⟩
/-- 57: tie_of -/
def b_tie_of : S :=
 (.seq (.set 3 (.tup (.cons (.bi .min2 (.cons (.var 1) (.cons (.var 2) .nil))) (.cons (.bi .max2 (.cons (.var 1) (.cons (.var 2) .nil))) .nil))))
 (.seq (.ret (.ite (.cmp (.var 3) (.ccons .isin (.idx (.var 0) (.int 1)) .cnil)) (.index (.idx (.var 0) (.int 1)) (.var 3)) .non))
 .skip))
abbrev fd_tie_of : Fd := ⟨["web", "one", "other"], ["web", "one", "other", "tie"], b_tie_of, false⟩
/-- 58: ties_of -/
def b_ties_of : S :=
 (.seq (.ret (.comp (.call 57 (.cons (.var 0) (.cons (.idx (.var 1) (.var 2)) (.cons (.idx (.var 1) (.bin .add (.var 2) (.int 1))) .nil)))) (.nm 2) (.rng (.cons (.bin .sub (.bi .len (.cons (.var 1) .nil)) (.int 1)) .nil)) .nil [2]))
 .skip)
abbrev fd_ties_of : Fd := ⟨["web", "trail"], ["web", "trail", "at"], b_ties_of, false⟩
/-- 59: is_trail -/
def b_is_trail : S :=
 (.seq (.ite (.or (.cons (.not (.isi (.var 2) .list)) (.cons (.cmp (.bi .len (.cons (.var 2) .nil)) (.ccons .lt (.int 5) .cnil)) (.cons (.cmp (.bin .mod (.bi .len (.cons (.var 2) .nil)) (.int 2)) (.ccons .eq (.int 0) .cnil)) .nil))))
 (.seq (.ret (.bl false))
 .skip)
 .skip)
 (.seq (.ite (.or (.cons (.not (.bi .all (.cons (.comp (.and (.cons (.call 0 (.cons (.var 4) .nil)) (.cons (.cmp (.int 0) (.ccons .le (.var 4) (.ccons .lt (.idx (.var 0) (.int 0)) .cnil))) .nil))) (.nm 4) (.seq (.var 2)) .nil [4]) .nil))) (.cons (.cmp (.idx (.var 2) (.int 0)) (.ccons .ne (.idx (.var 2) (.neg (.int 1))) .cnil)) .nil)))
 (.seq (.ret (.bl false))
 .skip)
 .skip)
 (.seq (.set 3 (.call 58 (.cons (.var 0) (.cons (.var 2) .nil))))
 (.seq (.ite (.or (.cons (.cmp .non (.ccons .isin (.var 3) .cnil)) (.cons (.cmp (.sets false (.var 3)) (.ccons .lt (.bi .len (.cons (.var 3) .nil)) .cnil)) .nil)))
 (.seq (.ret (.bl false))
 .skip)
 .skip)
 (.seq (.ret (.bi .all (.cons (.comp (.cmp (.cmp (.var 6) (.ccons .isin (.var 1) .cnil)) (.ccons .eq (.cmp (.bin .mod (.var 5) (.int 2)) (.ccons .eq (.int 0) .cnil)) .cnil)) (.tp (.cons (.nm 5) (.cons (.nm 6) .nil))) (.enum (.var 3)) .nil [5, 6]) .nil)))
 .skip)))))
abbrev fd_is_trail : Fd := ⟨["web", "chosen", "trail"], ["web", "chosen", "trail", "gone", "place", "at", "tie"], b_is_trail, false⟩
/-- 60: moved_of -/
def b_moved_of : S :=
 (.seq (.set 3 (.call 58 (.cons (.var 0) (.cons (.var 2) .nil))))
 (.seq (.ret (.bi .sorted (.cons (.bin .add (.comp (.var 4) (.nm 4) (.seq (.var 1)) (.cons (.cmp (.var 4) (.ccons .notin (.var 3) .cnil)) .nil) [4]) (.sli (.two 1) (.var 3) .nil .nil)) .nil)))
 .skip))
abbrev fd_moved_of : Fd := ⟨["web", "chosen", "trail"], ["web", "chosen", "trail", "gone", "tie"], b_moved_of, false⟩
/-- 61: moved -/
def b_moved : S :=
 (.seq (.expr (.call 2 (.cons (.var 0) .nil)))
 (.seq (.expr (.call 5 (.cons (.var 0) (.cons (.var 1) .nil))))
 (.seq (.ite (.not (.call 59 (.cons (.var 0) (.cons (.var 1) (.cons (.var 2) .nil)))))
 (.seq (.raise 6)
 .skip)
 .skip)
 (.seq (.ret (.call 60 (.cons (.var 0) (.cons (.var 1) (.cons (.var 2) .nil)))))
 .skip))))
abbrev fd_moved : Fd := ⟨["web", "chosen", "trail"], ["web", "chosen", "trail"], b_moved, false⟩
/-- 63: led -/
def b_led : S :=
 (.seq (.expr (.call 2 (.cons (.var 0) .nil)))
 (.seq (.expr (.call 5 (.cons (.var 0) (.cons (.var 1) .nil))))
 (.seq (.expr (.call 5 (.cons (.var 0) (.cons (.var 2) .nil))))
 (.seq (.ite (.cmp (.call 6 (.cons (.var 0) (.cons (.var 1) .nil))) (.ccons .ne (.call 6 (.cons (.var 0) (.cons (.var 2) .nil))) .cnil))
 (.seq (.raise 8)
 .skip)
 .skip)
 (.seq (.par 3 4 (.bi .list (.cons (.var 1) .nil)) (.lst .nil))
 (.seq (.whl 100000 (.cmp (.var 3) (.ccons .ne (.var 2) .cnil))
 (.seq (.par 5 6 (.comp (.var 7) (.nm 7) (.seq (.var 3)) (.cons (.cmp (.var 7) (.ccons .notin (.var 2) .cnil)) .nil) [7]) (.comp (.var 7) (.nm 7) (.seq (.var 2)) (.cons (.cmp (.var 7) (.ccons .notin (.var 3) .cnil)) .nil) [7]))
 (.seq (.app 4 (.call 62 (.cons (.var 0) (.cons (.var 5) (.cons (.var 6) .nil)))))
 (.seq (.set 3 (.call 60 (.cons (.var 0) (.cons (.var 3) (.cons (.idx (.var 4) (.neg (.int 1))) .nil)))))
 .skip))))
 (.seq (.ret (.var 4))
 .skip)))))))
abbrev fd_led : Fd := ⟨["web", "one", "other"], ["web", "one", "other", "here", "found", "leave", "come", "at"], b_led, false⟩
/-- 64: _law_web -/
def b_law_web3 : S :=
 (.seq (.set 4 (.ite (.cmp (.var 0) (.ccons .ne (.lst .nil) .cnil)) (.sli .one (.var 0) .nil (.cons (.int 63) .nil)) (.lst (.cons (.int 5) .nil))))
 (.seq (.set 5 (.bin .add (.bi .abs (.cons (.bi .sum (.cons (.var 4) .nil)) .nil)) (.var 1)))
 (.seq (.par 6 7 (.bin .add (.int 2) (.bin .mod (.var 5) (.bin .sub (.var 2) (.int 1)))) (.bin .mod (.bin .fdiv (.var 5) (.var 2)) (.int 4)))
 (.seq (.set 8 (.lst .nil))
 (.seq (.loop (.nm 9) (.rng (.cons (.var 3) .nil))
 (.seq (.set 10 (.bin .fdiv (.call 11 (.cons (.idx (.var 4) (.bin .mod (.bin .add (.var 9) (.var 1)) (.bi .len (.cons (.var 4) .nil)))) (.cons (.bin .add (.var 9) (.var 1)) (.cons (.var 5) .nil)))) (.int 3)))
 (.seq (.set 11 (.idx (.tup (.cons (.bin .mod (.var 9) (.var 6)) (.cons (.bin .mod (.bin .fdiv (.var 9) (.var 6)) (.var 6)) (.cons (.bin .mod (.var 10) (.var 6)) (.cons (.bin .mod (.var 9) (.var 6)) .nil))))) (.var 7)))
 (.seq (.set 12 (.idx (.tup (.cons (.bin .mod (.bin .add (.var 9) (.int 1)) (.var 6)) (.cons (.bin .mod (.var 9) (.var 6)) (.cons (.bin .mod (.bin .fdiv (.var 10) (.int 7)) (.var 6)) (.cons (.bin .mod (.var 10) (.var 6)) .nil))))) (.var 7)))
 (.seq (.set 13 (.tup (.cons (.bi .min2 (.cons (.var 11) (.cons (.var 12) .nil))) (.cons (.bi .max2 (.cons (.var 11) (.cons (.var 12) .nil))) .nil))))
 (.seq (.ite (.and (.cons (.cmp (.var 11) (.ccons .ne (.var 12) .cnil)) (.cons (.cmp (.var 13) (.ccons .notin (.var 8) .cnil)) .nil)))
 (.seq (.app 8 (.var 13))
 .skip)
 .skip)
 .skip))))))
 (.seq (.ret (.tup (.cons (.var 6) (.cons (.bi .sorted (.cons (.var 8) .nil)) .nil))))
 .skip))))))
abbrev fd_law_web3 : Fd := ⟨["_law_script", "_law_by", "_law_places", "_law_ties"], ["_law_script", "_law_by", "_law_places", "_law_ties", "_law_cells", "_law_whole", "_law_many", "_law_kind", "_law_found", "_law_at", "_law_number_here", "_law_first", "_law_other", "_law_tie_here"], b_law_web3, false⟩
/-- 65: _law_tie -/
def b_law_tie : S :=
 (.seq (.set 3 (.tup (.cons (.bi .min2 (.cons (.var 1) (.cons (.var 2) .nil))) (.cons (.bi .max2 (.cons (.var 1) (.cons (.var 2) .nil))) .nil))))
 (.seq (.ret (.ite (.cmp (.var 3) (.ccons .isin (.idx (.var 0) (.int 1)) .cnil)) (.index (.idx (.var 0) (.int 1)) (.var 3)) (.neg (.int 1))))
 .skip))
abbrev fd_law_tie : Fd := ⟨["_law_web_here", "_law_one", "_law_other"], ["_law_web_here", "_law_one", "_law_other", "_law_tie_here"], b_law_tie, false⟩
/-- 66: _law_is_trail -/
def b_law_is_trail : S :=
 (.seq (.ite (.or (.cons (.not (.isi (.var 2) .list)) (.cons (.cmp (.bi .len (.cons (.var 2) .nil)) (.ccons .lt (.int 3) .cnil)) (.cons (.cmp (.idx (.var 2) (.int 0)) (.ccons .ne (.idx (.var 2) (.neg (.int 1))) .cnil)) (.cons (.cmp (.bin .mod (.bi .len (.cons (.var 2) .nil)) (.int 2)) (.ccons .eq (.int 0) .cnil)) .nil)))))
 (.seq (.ret (.bl false))
 .skip)
 .skip)
 (.seq (.set 3 (.comp (.call 65 (.cons (.var 0) (.cons (.idx (.var 2) (.var 4)) (.cons (.idx (.var 2) (.bin .add (.var 4) (.int 1))) .nil)))) (.nm 4) (.rng (.cons (.bin .sub (.bi .len (.cons (.var 2) .nil)) (.int 1)) .nil)) .nil [4]))
 (.seq (.ite (.or (.cons (.cmp (.neg (.int 1)) (.ccons .isin (.var 3) .cnil)) (.cons (.cmp (.sets false (.var 3)) (.ccons .ne (.bi .len (.cons (.var 3) .nil)) .cnil)) .nil)))
 (.seq (.ret (.bl false))
 .skip)
 .skip)
 (.seq (.ret (.bi .all (.cons (.comp (.cmp (.cmp (.var 5) (.ccons .isin (.var 1) .cnil)) (.ccons .eq (.cmp (.bin .mod (.var 4) (.int 2)) (.ccons .eq (.int 0) .cnil)) .cnil)) (.tp (.cons (.nm 4) (.cons (.nm 5) .nil))) (.enum (.var 3)) .nil [4, 5]) .nil)))
 .skip))))
abbrev fd_law_is_trail : Fd := ⟨["_law_web_here", "_law_chosen", "_law_trail"], ["_law_web_here", "_law_chosen", "_law_trail", "_law_ties", "_law_at", "_law_tie_here"], b_law_is_trail, false⟩
/-- 67: _law_moved -/
def b_law_moved : S :=
 (.seq (.set 3 (.comp (.call 65 (.cons (.var 0) (.cons (.idx (.var 2) (.var 4)) (.cons (.idx (.var 2) (.bin .add (.var 4) (.int 1))) .nil)))) (.nm 4) (.rng (.cons (.bin .sub (.bi .len (.cons (.var 2) .nil)) (.int 1)) .nil)) .nil [4]))
 (.seq (.ret (.bi .sorted (.cons (.bin .add (.comp (.var 5) (.nm 5) (.seq (.var 1)) (.cons (.cmp (.var 5) (.ccons .notin (.sli (.two 0) (.var 3) .nil .nil) .cnil)) .nil) [5]) (.sli (.two 1) (.var 3) .nil .nil)) .nil)))
 .skip))
abbrev fd_law_moved : Fd := ⟨["_law_web_here", "_law_chosen", "_law_trail"], ["_law_web_here", "_law_chosen", "_law_trail", "_law_ties", "_law_at", "_law_tie_here"], b_law_moved, false⟩
/-- 69: _law_same -/
def b_law_same : S :=
 (.seq (.set 2 (.lst (.cons (.lst .nil) .nil)))
 (.seq (.loop (.nm 3) (.rng (.cons (.bi .len (.cons (.idx (.var 0) (.int 1)) .nil)) .nil))
 (.seq (.set 2 (.bin .add (.var 2) (.comp (.bin .add (.var 5) (.lst (.cons (.var 3) .nil))) (.nm 5) (.seq (.var 2)) .nil [5])))
 .skip))
 (.seq (.set 4 (.call 13 (.cons (.var 0) (.cons (.var 1) .nil))))
 (.seq (.ret (.comp (.var 5) (.nm 5) (.seq (.var 2)) (.cons (.cmp (.call 13 (.cons (.var 0) (.cons (.var 5) .nil))) (.ccons .eq (.var 4) .cnil)) .nil) [5]))
 .skip))))
abbrev fd_law_same : Fd := ⟨["_law_web_here", "_law_chosen"], ["_law_web_here", "_law_chosen", "_law_found", "_law_at", "_law_due", "_law_some"], b_law_same, false⟩
/-- 72: law -/
def b_law6 : S :=
 (.seq (.set 1 (.bi .abs (.cons (.bi .sum (.cons (.sli .one (.var 0) .nil (.cons (.int 63) .nil)) .nil)) .nil)))
 (.seq (.loop (.nm 2) (.seq (.lst (.cons (.int 0) (.cons (.int 1) .nil))))
 (.seq (.set 3 (.ite (.cmp (.bin .mod (.var 1) (.int 16)) (.ccons .ne (.var 2) .cnil)) (.int 8) (.int 10)))
 (.seq (.set 4 (.call 64 (.cons (.var 0) (.cons (.var 2) (.cons (.int 6) (.cons (.var 3) .nil))))))
 (.seq (.set 5 (.call 14 (.cons (.var 0) (.cons (.var 2) (.cons (.var 4) .nil)))))
 (.seq (.set 6 (.call 14 (.cons (.var 0) (.cons (.bin .add (.var 2) (.int 2)) (.cons (.var 4) .nil)))))
 (.seq (.set 7 (.call 69 (.cons (.var 4) (.cons (.var 5) .nil))))
 (.seq (.loop (.nm 8) (.seq (.lst (.cons (.idx (.var 7) (.bin .mod (.var 1) (.bi .len (.cons (.var 7) .nil)))) (.cons (.idx (.var 7) (.neg (.int 1))) (.cons (.var 6) (.cons (.var 5) .nil))))))
 (.seq (.ite (.not (.call 70 (.cons (.var 4) (.cons (.var 5) (.cons (.var 8) .nil)))))
 (.seq (.ret (.bl false))
 .skip)
 .skip)
 .skip))
 (.seq (.loop (.nm 9) (.seq (.bin .add (.sli .one (.call 63 (.cons (.var 4) (.cons (.var 5) (.cons (.idx (.var 7) (.neg (.int 1))) .nil)))) .nil (.cons (.int 1) .nil)) (.lst (.cons (.lst (.cons (.int 0) (.cons (.int 1) (.cons (.int 0) .nil)))) .nil))))
 (.seq (.ite (.not (.call 71 (.cons (.var 4) (.cons (.var 5) (.cons (.var 9) .nil)))))
 (.seq (.ret (.bl false))
 .skip)
 .skip)
 .skip))
 .skip))))))))
 (.seq (.set 10 (.tup (.cons (.int 7) (.cons (.lst (.cons (.tup (.cons (.int 0) (.cons (.int 1) .nil))) (.cons (.tup (.cons (.int 0) (.cons (.int 3) .nil))) (.cons (.tup (.cons (.int 0) (.cons (.int 4) .nil))) (.cons (.tup (.cons (.int 0) (.cons (.int 6) .nil))) (.cons (.tup (.cons (.int 1) (.cons (.int 2) .nil))) (.cons (.tup (.cons (.int 2) (.cons (.int 3) .nil))) (.cons (.tup (.cons (.int 4) (.cons (.int 5) .nil))) (.cons (.tup (.cons (.int 5) (.cons (.int 6) .nil))) .nil))))))))) .nil))))
 (.seq (.ite (.cmp (.call 61 (.cons (.var 10) (.cons (.lst (.cons (.int 0) (.cons (.int 2) (.cons (.int 5) (.cons (.int 7) .nil))))) (.cons (.lst (.cons (.int 0) (.cons (.int 1) (.cons (.int 2) (.cons (.int 3) (.cons (.int 0) (.cons (.int 4) (.cons (.int 5) (.cons (.int 6) (.cons (.int 0) .nil)))))))))) .nil)))) (.ccons .ne (.lst (.cons (.int 1) (.cons (.int 3) (.cons (.int 4) (.cons (.int 6) .nil))))) .cnil))
 (.seq (.ret (.bl false))
 .skip)
 .skip)
 (.seq (.set 11 (.tup (.cons (.int 4) (.cons (.lst (.cons (.tup (.cons (.int 0) (.cons (.int 1) .nil))) (.cons (.tup (.cons (.int 0) (.cons (.int 3) .nil))) (.cons (.tup (.cons (.int 1) (.cons (.int 2) .nil))) (.cons (.tup (.cons (.int 2) (.cons (.int 3) .nil))) .nil))))) .nil))))
 (.seq (.ret (.and (.cons (.cmp (.call 61 (.cons (.var 11) (.cons (.lst (.cons (.int 0) (.cons (.int 3) .nil))) (.cons (.lst (.cons (.int 0) (.cons (.int 1) (.cons (.int 2) (.cons (.int 3) (.cons (.int 0) .nil)))))) .nil)))) (.ccons .eq (.lst (.cons (.int 1) (.cons (.int 2) .nil))) .cnil)) (.cons (.cmp (.call 63 (.cons (.var 11) (.cons (.lst (.cons (.int 0) (.cons (.int 3) .nil))) (.cons (.lst (.cons (.int 0) (.cons (.int 3) .nil))) .nil)))) (.ccons .eq (.lst .nil) .cnil)) .nil))))
 .skip))))))
abbrev fd_law6 : Fd := ⟨["_law_script"], ["_law_script", "_law_whole", "_law_by", "_law_size", "_law_web_here", "_law_one", "_law_drawn_here", "_law_same_here", "_law_other", "_law_trail", "_law_seven", "_law_four"], b_law6, false⟩
/-- 74: renamed -/
def b_renamed : S :=
 (.seq (.expr (.call 2 (.cons (.var 0) .nil)))
 (.seq (.expr (.call 3 (.cons (.var 0) (.cons (.var 1) .nil))))
 (.seq (.ite (.or (.cons (.not (.isi (.var 2) .list)) (.cons (.not (.bi .all (.cons (.comp (.call 0 (.cons (.var 4) .nil)) (.nm 4) (.seq (.var 2)) .nil [4]) .nil))) (.cons (.cmp (.bi .sorted (.cons (.var 2) .nil)) (.ccons .ne (.lrng (.idx (.var 0) (.int 0))) .cnil)) .nil))))
 (.seq (.raise 7)
 .skip)
 .skip)
 (.seq (.set 3 (.comp (.bi .sorted (.cons (.lst (.cons (.index (.var 2) (.var 4)) (.cons (.index (.var 2) (.var 5)) .nil))) .nil)) (.tp (.cons (.nm 4) (.cons (.nm 5) .nil))) (.seq (.idx (.var 0) (.int 1))) .nil [4, 5]))
 (.seq (.ret (.tup (.cons (.tup (.cons (.idx (.var 0) (.int 0)) (.cons (.bi .sorted (.cons (.comp (.tup (.cons (.var 4) (.cons (.var 5) .nil))) (.tp (.cons (.nm 4) (.cons (.nm 5) .nil))) (.seq (.var 3)) .nil [4, 5]) .nil)) .nil))) (.cons (.comp (.idx (.var 1) (.var 6)) (.nm 6) (.seq (.var 2)) .nil [6]) .nil))))
 .skip)))))
abbrev fd_renamed : Fd := ⟨["web", "wishes", "order"], ["web", "wishes", "order", "ties", "one", "other", "place"], b_renamed, false⟩
/-- 75: beside -/
def b_beside : S :=
 (.seq (.expr (.call 2 (.cons (.var 0) .nil)))
 (.seq (.expr (.call 3 (.cons (.var 0) (.cons (.var 1) .nil))))
 (.seq (.expr (.call 2 (.cons (.var 2) .nil)))
 (.seq (.expr (.call 3 (.cons (.var 2) (.cons (.var 3) .nil))))
 (.seq (.ite (.or (.cons (.cmp (.bin .add (.idx (.var 0) (.int 0)) (.idx (.var 2) (.int 0))) (.ccons .gt (.glob "MOST_PLACES" 8) .cnil)) (.cons (.cmp (.bin .add (.bi .len (.cons (.idx (.var 0) (.int 1)) .nil)) (.bi .len (.cons (.idx (.var 2) (.int 1)) .nil))) (.ccons .gt (.glob "MOST_TIES" 14) .cnil)) .nil)))
 (.seq (.raise 10)
 .skip)
 .skip)
 (.seq (.set 4 (.bin .add (.idx (.var 0) (.int 1)) (.comp (.tup (.cons (.bin .add (.var 5) (.idx (.var 0) (.int 0))) (.cons (.bin .add (.var 6) (.idx (.var 0) (.int 0))) .nil))) (.tp (.cons (.nm 5) (.cons (.nm 6) .nil))) (.seq (.idx (.var 2) (.int 1))) .nil [5, 6])))
 (.seq (.ret (.tup (.cons (.tup (.cons (.bin .add (.idx (.var 0) (.int 0)) (.idx (.var 2) (.int 0))) (.cons (.var 4) .nil))) (.cons (.bin .add (.var 1) (.var 3)) .nil))))
 .skip)))))))
abbrev fd_beside : Fd := ⟨["web", "wishes", "other", "more"], ["web", "wishes", "other", "more", "ties", "one", "two"], b_beside, false⟩
/-- 76: _law_renamed -/
def b_law_renamed : S :=
 (.seq (.set 3 (.comp (.bi .sorted (.cons (.lst (.cons (.index (.var 2) (.var 4)) (.cons (.index (.var 2) (.var 5)) .nil))) .nil)) (.tp (.cons (.nm 4) (.cons (.nm 5) .nil))) (.seq (.idx (.var 0) (.int 1))) .nil [4, 5]))
 (.seq (.ret (.tup (.cons (.tup (.cons (.idx (.var 0) (.int 0)) (.cons (.bi .sorted (.cons (.comp (.tup (.cons (.idx (.var 6) (.int 0)) (.cons (.idx (.var 6) (.int 1)) .nil))) (.nm 6) (.seq (.var 3)) .nil [6]) .nil)) .nil))) (.cons (.comp (.idx (.var 1) (.var 7)) (.nm 7) (.seq (.var 2)) .nil [7]) .nil))))
 .skip))
abbrev fd_law_renamed : Fd := ⟨["_law_web_here", "_law_wishes_here", "_law_order"], ["_law_web_here", "_law_wishes_here", "_law_order", "_law_ties", "_law_one", "_law_other", "_law_tie", "_law_place"], b_law_renamed, false⟩
/-- 77: _law_rest_wishes -/
def b_law_rest_wishes : S :=
 (.seq (.set 2 (.call 13 (.cons (.var 0) (.cons (.lrng (.bi .len (.cons (.idx (.var 0) (.int 1)) .nil))) .nil))))
 (.seq (.ret (.comp (.tup (.cons (.bi .max2 (.cons (.int 0) (.cons (.bin .sub (.var 3) (.var 5)) .nil))) (.cons (.bin .sub (.var 3) (.var 4)) .nil))) (.tp (.cons (.nm 3) (.cons (.tp (.cons (.nm 4) (.cons (.nm 5) .nil))) .nil))) (.zip (.var 2) (.var 1)) .nil [3, 4, 5]))
 .skip))
abbrev fd_law_rest_wishes : Fd := ⟨["_law_web_here", "_law_wishes_here"], ["_law_web_here", "_law_wishes_here", "_law_every", "_law_many", "_law_low", "_law_high"], b_law_rest_wishes, false⟩
/-- 78: _law_wider_right -/
def b_law_wider_right : S :=
 (.seq (.set 4 (.call 77 (.cons (.var 0) (.cons (.var 1) .nil))))
 (.seq (.ite (.and (.cons (.bi .all (.cons (.comp (.cmp (.var 6) (.ccons .le (.var 7) .cnil)) (.tp (.cons (.nm 6) (.cons (.nm 7) .nil))) (.seq (.var 4)) .nil [6, 7]) .nil)) (.cons (.cmp (.call 42 (.cons (.var 0) (.cons (.var 4) .nil))) (.ccons .ne (.var 2) .cnil)) .nil)))
 (.seq (.ret (.bl false))
 .skip)
 .skip)
 (.seq (.set 5 (.comp (.tup (.cons (.bi .max2 (.cons (.int 0) (.cons (.bin .sub (.var 6) (.int 1)) .nil))) (.cons (.bin .add (.var 7) (.bin .mod (.var 3) (.int 2))) .nil))) (.tp (.cons (.nm 6) (.cons (.nm 7) .nil))) (.seq (.var 1)) .nil [6, 7]))
 (.seq (.ite (.cmp (.call 42 (.cons (.var 0) (.cons (.var 5) .nil))) (.ccons .lt (.var 2) .cnil))
 (.seq (.ret (.bl false))
 .skip)
 .skip)
 (.seq (.ite (.and (.cons (.cmp (.var 2) (.ccons .gt (.int 0) .cnil)) (.cons (.not (.isk (.call 27 (.cons (.var 0) (.cons (.var 5) .nil))) 49)) .nil)))
 (.seq (.ret (.bl false))
 .skip)
 .skip)
 (.seq (.ret (.or (.cons (.cmp (.idx (.var 0) (.int 1)) (.ccons .eq (.lst .nil) .cnil)) (.cons (.cmp (.call 42 (.cons (.tup (.cons (.idx (.var 0) (.int 0)) (.cons (.sli .one (.idx (.var 0) (.int 1)) (.cons (.int 1) .nil) .nil) .nil))) (.cons (.var 1) .nil))) (.ccons .le (.var 2) .cnil)) .nil))))
 .skip))))))
abbrev fd_law_wider_right : Fd := ⟨["_law_web_here", "_law_wishes_here", "_law_many", "_law_whole"], ["_law_web_here", "_law_wishes_here", "_law_many", "_law_whole", "_law_left", "_law_wider", "_law_low", "_law_high"], b_law_wider_right, false⟩
/-- 81: _law_each -/
def b_law_each : S :=
 (.seq (.loop (.nm 3) (.seq (.var 0))
 (.seq (.ite (.not (.bi .all (.cons (.comp (.call 80 (.cons (.var 3) (.cons (.var 4) (.cons (.var 2) .nil)))) (.nm 4) (.seq (.var 1)) .nil [4]) .nil)))
 (.seq (.ret (.bl false))
 .skip)
 .skip)
 .skip))
 (.seq (.ret (.bl true))
 .skip))
abbrev fd_law_each : Fd := ⟨["_law_asks", "_law_things", "_law_due"], ["_law_asks", "_law_things", "_law_due", "_law_ask", "_law_thing"], b_law_each, false⟩
/-- 84: _law_full -/
def b_law_full : S :=
 (.seq (.set 0 (.lst .nil))
 (.seq (.loop (.nm 1) (.rng (.cons (.int 6) .nil))
 (.seq (.ext 0 (.comp (.tup (.cons (.var 1) (.cons (.var 2) .nil))) (.nm 2) (.rng (.cons (.bin .add (.var 1) (.int 1)) (.cons (.int 6) .nil))) .nil [2]))
 .skip))
 (.seq (.ret (.var 0))
 .skip)))
abbrev fd_law_full : Fd := ⟨[], ["_law_found", "_law_one", "_law_other"], b_law_full, false⟩
/-- 90: _law_told_right -/
def b_law_told_right : S :=
 (.seq (.set 3 (.call 27 (.cons (.var 0) (.cons (.var 1) .nil))))
 (.seq (.ite (.cmp (.var 2) (.ccons .eq (.lst .nil) .cnil))
 (.seq (.ite (.or (.cons (.not (.isk (.var 3) 114)) (.cons (.not (.call 31 (.cons (.var 0) (.cons (.attr (.var 3) 97) (.cons (.attr (.var 3) 98) .nil))))) .nil)))
 (.seq (.ret (.bl false))
 .skip)
 .skip)
 (.seq (.ret (.and (.cons (.cmp (.call 34 (.cons (.var 0) (.cons (.var 1) (.cons (.attr (.var 3) 97) (.cons (.attr (.var 3) 98) .nil))))) (.ccons .lt (.int 0) .cnil)) (.cons (.cmp (.call 42 (.cons (.var 0) (.cons (.var 1) .nil))) (.ccons .eq (.int 0) .cnil)) .nil))))
 .skip))
 .skip)
 (.seq (.ite (.or (.cons (.not (.isk (.var 3) 113)) (.cons (.cmp (.attr (.var 3) 80) (.ccons .notin (.var 2) .cnil)) (.cons (.cmp (.call 42 (.cons (.var 0) (.cons (.var 1) .nil))) (.ccons .ne (.bi .len (.cons (.var 2) .nil)) .cnil)) .nil))))
 (.seq (.ret (.bl false))
 .skip)
 .skip)
 (.seq (.ret (.and (.cons (.call 9 (.cons (.var 0) (.cons (.var 1) (.cons (.attr (.var 3) 80) .nil)))) (.cons (.cmp (.call 43 (.cons (.var 0) (.cons (.var 1) (.cons (.bin .sub (.bi .len (.cons (.var 2) .nil)) (.int 1)) .nil)))) (.ccons .eq (.idx (.var 2) (.neg (.int 1))) .cnil)) .nil))))
 .skip))))
abbrev fd_law_told_right : Fd := ⟨["_law_web_here", "_law_wishes_here", "_law_every"], ["_law_web_here", "_law_wishes_here", "_law_every", "_law_answer"], b_law_told_right, false⟩
/-- 91: _law_trails_right -/
def b_law_trails_right2 : S :=
 (.seq (.set 4 (.var 2))
 (.seq (.loop (.nm 5) (.seq (.call 63 (.cons (.var 0) (.cons (.var 2) (.cons (.var 3) .nil)))))
 (.seq (.set 4 (.call 61 (.cons (.var 0) (.cons (.var 4) (.cons (.var 5) .nil)))))
 (.seq (.ite (.or (.cons (.not (.call 9 (.cons (.var 0) (.cons (.var 1) (.cons (.var 4) .nil))))) (.cons (.cmp (.call 7 (.cons (.var 0) (.cons (.var 4) .nil))) (.ccons .ne (.call 7 (.cons (.var 0) (.cons (.var 2) .nil))) .cnil)) .nil)))
 (.seq (.ret (.bl false))
 .skip)
 .skip)
 .skip)))
 (.seq (.ret (.cmp (.var 4) (.ccons .eq (.var 3) .cnil)))
 .skip)))
abbrev fd_law_trails_right2 : Fd := ⟨["_law_web_here", "_law_wishes_here", "_law_one", "_law_other"], ["_law_web_here", "_law_wishes_here", "_law_one", "_law_other", "_law_here", "_law_trail"], b_law_trails_right2, false⟩
/-- 92: law -/
def b_law9 : S :=
 (.seq (.set 1 (.bi .abs (.cons (.bi .sum (.cons (.sli .one (.var 0) .nil (.cons (.int 63) .nil)) .nil)) .nil)))
 (.seq (.loop (.nm 2) (.seq (.lst (.cons (.int 0) (.cons (.int 1) .nil))))
 (.seq (.set 3 (.call 28 (.cons (.var 0) (.cons (.var 2) (.cons (.int 5) (.cons (.int 7) .nil))))))
 (.seq (.loop (.nm 4) (.seq (.lst (.cons (.call 15 (.cons (.var 0) (.cons (.var 2) (.cons (.var 3) .nil)))) (.cons (.call 15 (.cons (.var 0) (.cons (.bin .add (.var 2) (.int 1)) (.cons (.var 3) .nil)))) .nil))))
 (.seq (.set 5 (.call 30 (.cons (.var 3) (.cons (.var 4) .nil))))
 (.seq (.ite (.not (.call 90 (.cons (.var 3) (.cons (.var 4) (.cons (.var 5) .nil)))))
 (.seq (.ret (.bl false))
 .skip)
 .skip)
 (.seq (.ite (.cmp (.var 5) (.ccons .ne (.lst .nil) .cnil))
 (.seq (.set 6 (.idx (.var 5) (.bin .mod (.var 1) (.bi .len (.cons (.var 5) .nil)))))
 (.seq (.loop (.nm 7) (.seq (.sli .one (.comp (.var 13) (.nm 13) (.seq (.var 5)) (.cons (.cmp (.call 13 (.cons (.var 3) (.cons (.var 13) .nil))) (.ccons .eq (.call 13 (.cons (.var 3) (.cons (.var 6) .nil))) .cnil)) .nil) [13]) .nil (.cons (.int 4) .nil)))
 (.seq (.ite (.not (.call 91 (.cons (.var 3) (.cons (.var 4) (.cons (.var 6) (.cons (.var 7) .nil))))))
 (.seq (.ret (.bl false))
 .skip)
 .skip)
 .skip))
 (.seq (.set 8 (.comp (.bin .sub (.bin .mod (.bin .fdiv (.call 11 (.cons (.bin .add (.var 1) (.var 14)) (.cons (.var 2) (.cons (.int 3) .nil)))) (.int 3)) (.int 9)) (.int 4)) (.nm 14) (.rng (.cons (.bi .len (.cons (.idx (.var 3) (.int 1)) .nil)) .nil)) .nil [14]))
 (.seq (.set 9 (.call 44 (.cons (.var 3) (.cons (.var 4) (.cons (.var 8) .nil)))))
 (.seq (.ite (.cmp (.bi .minl (.cons (.comp (.bi .sum (.cons (.comp (.idx (.var 8) (.var 14)) (.nm 14) (.seq (.var 13)) .nil [14]) .nil)) (.nm 13) (.seq (.var 5)) .nil [13]) .nil)) (.ccons .ne (.bi .sum (.cons (.comp (.idx (.var 8) (.var 14)) (.nm 14) (.seq (.var 9)) .nil [14]) .nil)) .cnil))
 (.seq (.ret (.bl false))
 .skip)
 .skip)
 (.seq (.ite (.cmp (.bi .sorted (.cons (.bin .add (.var 6) (.call 10 (.cons (.var 3) (.cons (.var 6) .nil)))) .nil)) (.ccons .ne (.lrng (.bi .len (.cons (.idx (.var 3) (.int 1)) .nil))) .cnil))
 (.seq (.ret (.bl false))
 .skip)
 .skip)
 .skip))))))
 .skip)
 .skip))))
 (.seq (.set 10 (.comp (.var 16) (.tp (.cons (.nm 15) (.cons (.nm 16) .nil))) (.seq (.call 15 (.cons (.var 0) (.cons (.bin .add (.var 2) (.int 2)) (.cons (.var 3) .nil))))) .nil [15, 16]))
 (.seq (.set 11 (.call 49 (.cons (.var 3) (.cons (.var 10) .nil))))
 (.seq (.set 12 (.call 30 (.cons (.var 3) (.cons (.comp (.tup (.cons (.int 0) (.cons (.var 17) .nil))) (.nm 17) (.seq (.var 10)) .nil [17]) .nil))))
 (.seq (.ite (.or (.cons (.cmp (.attr (.var 11) 80) (.ccons .notin (.var 12) .cnil)) (.cons (.cmp (.bi .len (.cons (.attr (.var 11) 80) .nil)) (.ccons .ne (.bi .maxl (.cons (.comp (.bi .len (.cons (.var 13) .nil)) (.nm 13) (.seq (.var 12)) .nil [13]) .nil)) .cnil)) .nil)))
 (.seq (.ret (.bl false))
 .skip)
 .skip)
 (.seq (.ite (.cmp (.call 50 (.cons (.var 3) (.cons (.var 10) (.cons (.attr (.var 11) 97) (.cons (.attr (.var 11) 98) .nil))))) (.ccons .ne (.bi .len (.cons (.attr (.var 11) 80) .nil)) .cnil))
 (.seq (.ret (.bl false))
 .skip)
 .skip)
 .skip))))))))
 (.seq (.ret (.bl true))
 .skip)))
abbrev fd_law9 : Fd := ⟨["_law_script"], ["_law_script", "_law_whole", "_law_by", "_law_web_here", "_law_wishes_here", "_law_every", "_law_one", "_law_other", "_law_weights", "_law_best", "_law_tops", "_law_answer", "_law_keeping", "_law_some", "_law_at", "_law_low", "_law_high", "_law_top"], b_law9, false⟩
/-- 93: _law_due -/
def b_law_due3 : S :=
 (.seq (.ite (.isk (.var 2) 113)
 (.seq (.set 3 (.attr (.var 2) 80))
 (.seq (.set 4 (.and (.cons (.bi .all (.cons (.comp (.cmp (.int 0) (.ccons .le (.var 5) (.ccons .lt (.bi .len (.cons (.idx (.var 0) (.int 1)) .nil)) .cnil))) (.nm 5) (.seq (.var 3)) .nil [5]) .nil)) (.cons (.cmp (.var 3) (.ccons .eq (.sets true (.var 3)) .cnil)) .nil))))
 (.seq (.ret (.and (.cons (.var 4) (.cons (.call 17 (.cons (.var 0) (.cons (.var 1) (.cons (.var 3) .nil)))) .nil))))
 .skip)))
 .skip)
 (.seq (.ite (.not (.call 31 (.cons (.var 0) (.cons (.attr (.var 2) 97) (.cons (.attr (.var 2) 98) .nil)))))
 (.seq (.ret (.bl false))
 .skip)
 .skip)
 (.seq (.ret (.cmp (.call 34 (.cons (.var 0) (.cons (.var 1) (.cons (.attr (.var 2) 97) (.cons (.attr (.var 2) 98) .nil))))) (.ccons .lt (.int 0) .cnil)))
 .skip)))
abbrev fd_law_due3 : Fd := ⟨["_law_web_here", "_law_wishes_here", "_law_answer"], ["_law_web_here", "_law_wishes_here", "_law_answer", "_law_ties_here", "_law_good", "_law_at"], b_law_due3, false⟩
/-- 94: _law_told_right -/
def b_law_told_right2 : S :=
 (.seq (.set 5 (.call 30 (.cons (.var 0) (.cons (.var 1) .nil))))
 (.seq (.ite (.or (.cons (.cmp (.call 7 (.cons (.var 0) (.cons (.var 2) .nil))) (.ccons .ne (.call 13 (.cons (.var 0) (.cons (.var 2) .nil))) .cnil)) (.cons (.cmp (.call 9 (.cons (.var 0) (.cons (.var 1) (.cons (.var 2) .nil)))) (.ccons .ne (.cmp (.var 2) (.ccons .isin (.var 5) .cnil)) .cnil)) .nil)))
 (.seq (.ret (.bl false))
 .skip)
 .skip)
 (.seq (.set 6 (.comp (.var 12) (.nm 12) (.rng (.cons (.bi .len (.cons (.idx (.var 0) (.int 1)) .nil)) .nil)) (.cons (.cmp (.var 12) (.ccons .notin (.var 2) .cnil)) .nil) [12]))
 (.seq (.ite (.or (.cons (.cmp (.call 10 (.cons (.var 0) (.cons (.var 2) .nil))) (.ccons .ne (.var 6) .cnil)) (.cons (.cmp (.call 42 (.cons (.var 0) (.cons (.var 1) .nil))) (.ccons .ne (.bi .len (.cons (.var 5) .nil)) .cnil)) .nil)))
 (.seq (.ret (.bl false))
 .skip)
 .skip)
 (.seq (.set 7 (.call 27 (.cons (.var 0) (.cons (.var 1) .nil))))
 (.seq (.ite (.or (.cons (.not (.isk (.var 7) 112)) (.cons (.cmp (.isk (.var 7) 113) (.ccons .ne (.cmp (.var 5) (.ccons .ne (.lst .nil) .cnil)) .cnil)) .nil)))
 (.seq (.ret (.bl false))
 .skip)
 .skip)
 (.seq (.ite (.or (.cons (.cmp (.isk (.var 7) 113) (.ccons .eq (.isk (.var 7) 114) .cnil)) (.cons (.not (.call 93 (.cons (.var 0) (.cons (.var 1) (.cons (.var 7) .nil))))) .nil)))
 (.seq (.ret (.bl false))
 .skip)
 .skip)
 (.seq (.ite (.cmp (.var 5) (.ccons .ne (.lst .nil) .cnil))
 (.seq (.set 8 (.bi .minl (.cons (.comp (.tup (.cons (.bi .sum (.cons (.comp (.idx (.var 4) (.var 12)) (.nm 12) (.seq (.var 13)) .nil [12]) .nil)) (.cons (.var 13) .nil))) (.nm 13) (.seq (.var 5)) .nil [13]) .nil)))
 (.seq (.ite (.or (.cons (.cmp (.call 43 (.cons (.var 0) (.cons (.var 1) (.cons (.bin .sub (.bi .len (.cons (.var 5) .nil)) (.int 1)) .nil)))) (.ccons .ne (.idx (.var 5) (.neg (.int 1))) .cnil)) (.cons (.cmp (.call 44 (.cons (.var 0) (.cons (.var 1) (.cons (.var 4) .nil)))) (.ccons .ne (.idx (.var 8) (.int 1)) .cnil)) .nil)))
 (.seq (.ret (.bl false))
 .skip)
 .skip)
 .skip))
 .skip)
 (.seq (.set 9 (.call 49 (.cons (.var 0) (.cons (.var 3) .nil))))
 (.seq (.set 10 (.call 30 (.cons (.var 0) (.cons (.comp (.tup (.cons (.int 0) (.cons (.var 14) .nil))) (.nm 14) (.seq (.var 3)) .nil [14]) .nil))))
 (.seq (.set 11 (.bi .maxl (.cons (.comp (.bi .len (.cons (.var 13) .nil)) (.nm 13) (.seq (.var 10)) .nil [13]) .nil)))
 (.seq (.ret (.and (.cons (.isk (.var 9) 115) (.cons (.cmp (.bi .len (.cons (.attr (.var 9) 80) .nil)) (.ccons .eq (.var 11) .cnil)) (.cons (.cmp (.attr (.var 9) 80) (.ccons .isin (.var 10) .cnil)) .nil)))))
 .skip))))))))))))
abbrev fd_law_told_right2 : Fd := ⟨["_law_web_here", "_law_wishes_here", "_law_chosen", "_law_tops", "_law_weights"], ["_law_web_here", "_law_wishes_here", "_law_chosen", "_law_tops", "_law_weights", "_law_every", "_law_others", "_law_answer", "_law_least", "_law_told", "_law_keep", "_law_greatest", "_law_at", "_law_row", "_law_top"], b_law_told_right2, false⟩
/-- 95: _law_led_right -/
def b_law_led_right2 : S :=
 (.seq (.set 3 (.bi .list (.cons (.var 1) .nil)))
 (.seq (.loop (.nm 4) (.seq (.call 63 (.cons (.var 0) (.cons (.var 1) (.cons (.var 2) .nil)))))
 (.seq (.set 3 (.call 61 (.cons (.var 0) (.cons (.var 3) (.cons (.var 4) .nil)))))
 .skip))
 (.seq (.ret (.cmp (.var 3) (.ccons .eq (.var 2) .cnil)))
 .skip)))
abbrev fd_law_led_right2 : Fd := ⟨["_law_web_here", "_law_one", "_law_other"], ["_law_web_here", "_law_one", "_law_other", "_law_now", "_law_trail"], b_law_led_right2, false⟩
/-- 96: _law_alike -/
def b_law_alike : S :=
 (.seq (.set 2 (.call 13 (.cons (.var 0) (.cons (.var 1) .nil))))
 (.seq (.ret (.idx (.call 30 (.cons (.var 0) (.cons (.comp (.tup (.cons (.var 3) (.cons (.var 3) .nil))) (.nm 3) (.seq (.var 2)) .nil [3]) .nil))) (.neg (.int 1))))
 .skip))
abbrev fd_law_alike : Fd := ⟨["_law_web_here", "_law_chosen"], ["_law_web_here", "_law_chosen", "_law_due_here", "_law_many"], b_law_alike, false⟩
/-- 99: _law_lots_bar -/
def b_law_lots_bar : S :=
 (.seq (.ite (.not (.call 31 (.cons (.var 0) (.cons (.var 2) (.cons (.var 3) .nil)))))
 (.seq (.ret (.bl false))
 .skip)
 .skip)
 (.seq (.par 4 5 (.bi .sum (.cons (.comp (.idx (.idx (.var 1) (.var 6)) (.int 1)) (.nm 6) (.seq (.var 2)) .nil [6]) .nil)) (.comp (.var 6) (.nm 6) (.rng (.cons (.idx (.var 0) (.int 0)) .nil)) (.cons (.cmp (.var 6) (.ccons .notin (.var 2) .cnil)) .nil) [6]))
 (.seq (.loop (.nm 6) (.seq (.var 3))
 (.seq (.set 4 (.bin .sub (.bin .add (.var 4) (.call 33 (.cons (.var 0) (.cons (.lst (.cons (.var 6) .nil)) (.cons (.comp (.var 8) (.nm 8) (.seq (.var 5)) (.cons (.cmp (.var 8) (.ccons .ne (.var 6) .cnil)) .nil) [8]) .nil))))) (.idx (.idx (.var 1) (.var 6)) (.int 0))))
 .skip))
 (.seq (.loop (.nm 7) (.seq (.call 32 (.cons (.var 0) (.cons (.bin .add (.var 2) (.var 3)) .nil))))
 (.seq (.ite (.bi .all (.cons (.comp (.cmp (.idx (.idx (.var 1) (.var 6)) (.int 0)) (.ccons .eq (.idx (.idx (.var 1) (.var 6)) (.int 1)) .cnil)) (.nm 6) (.seq (.var 7)) .nil [6]) .nil))
 (.seq (.set 4 (.bin .sub (.var 4) (.bin .mod (.bin .add (.bi .sum (.cons (.comp (.idx (.idx (.var 1) (.var 6)) (.int 0)) (.nm 6) (.seq (.var 7)) .nil [6]) .nil)) (.call 33 (.cons (.var 0) (.cons (.var 7) (.cons (.var 3) .nil))))) (.int 2))))
 .skip)
 .skip)
 .skip))
 (.seq (.ret (.cmp (.var 4) (.ccons .lt (.int 0) .cnil)))
 .skip)))))
abbrev fd_law_lots_bar : Fd := ⟨["_law_web_here", "_law_wishes", "_law_one", "_law_other"], ["_law_web_here", "_law_wishes", "_law_one", "_law_other", "_law_left", "_law_free", "_law_place", "_law_piece", "_law_far"], b_law_lots_bar, false⟩
/-- 103: _law_great_right -/
def b_law_great_right : S :=
 (.seq (.set 1 (.lst .nil))
 (.seq (.loop (.nm 2) (.rng (.cons (.int 8) .nil))
 (.seq (.ext 1 (.comp (.tup (.cons (.var 2) (.cons (.var 7) .nil))) (.nm 7) (.rng (.cons (.bin .add (.var 2) (.int 1)) (.cons (.int 8) .nil))) (.cons (.or (.cons (.cmp (.bin .sub (.var 7) (.var 2)) (.ccons .lt (.int 3) .cnil)) (.cons (.cmp (.var 7) (.ccons .eq (.int 7) .cnil)) .nil))) .nil) [7]))
 .skip))
 (.seq (.par 3 4 (.tup (.cons (.int 8) (.cons (.sli .one (.bi .sorted (.cons (.var 1) .nil)) .nil (.cons (.int 14) .nil)) .nil))) (.bin .mul (.lst (.cons (.tup (.cons (.int 0) (.cons (.int 20) .nil))) .nil)) (.int 8)))
 (.seq (.ite (.or (.cons (.cmp (.call 42 (.cons (.var 3) (.cons (.var 4) .nil))) (.ccons .ne (.int 16384) .cnil)) (.cons (.cmp (.call 43 (.cons (.var 3) (.cons (.var 4) (.cons (.int 16383) .nil)))) (.ccons .ne (.lst (.cons (.int 13) .nil)) .cnil)) (.cons (.cmp (.call 43 (.cons (.var 3) (.cons (.var 4) (.cons (.int 0) .nil)))) (.ccons .ne (.lst .nil) .cnil)) .nil))))
 (.seq (.ret (.bl false))
 .skip)
 .skip)
 (.seq (.set 5 (.comp (.var 8) (.tp (.cons (.nm 8) (.cons (.nm 9) .nil))) (.enum (.var 0)) (.cons (.cmp (.var 9) (.ccons .lt (.int 0) .cnil)) .nil) [8, 9]))
 (.seq (.set 6 (.comp (.var 8) (.tp (.cons (.nm 8) (.cons (.nm 9) .nil))) (.enum (.var 0)) (.cons (.and (.cons (.cmp (.var 9) (.ccons .lt (.int 1) .cnil)) (.cons (.cmp (.var 5) (.ccons .ne (.lst .nil) .cnil)) (.cons (.cmp (.var 8) (.ccons .le (.idx (.var 5) (.neg (.int 1))) .cnil)) .nil)))) .nil) [8, 9]))
 (.seq (.ret (.cmp (.call 44 (.cons (.var 3) (.cons (.var 4) (.cons (.var 0) .nil)))) (.ccons .eq (.var 6) .cnil)))
 .skip)))))))
abbrev fd_law_great_right : Fd := ⟨["_law_weights"], ["_law_weights", "_law_ties_here", "_law_one", "_law_web_here", "_law_wishes", "_law_low", "_law_due_here", "_law_other", "_law_at", "_law_weight"], b_law_great_right, false⟩
/-- 106: _law_truths -/
def b_law_truths : S :=
 (.seq (.ret (.bi .all (.cons (.comp (.isi (.var 1) .bool) (.nm 1) (.seq (.var 0)) .nil [1]) .nil)))
 .skip)
abbrev fd_law_truths : Fd := ⟨["_law_things"], ["_law_things", "_law_one"], b_law_truths, false⟩
/-- 107: _law_told_right -/
def b_law_told_right3 : S :=
 (.seq (.par 4 5 (.call 27 (.cons (.var 0) (.cons (.var 1) .nil))) (.call 49 (.cons (.var 0) (.cons (.comp (.bin .mod (.bin .fdiv (.var 3) (.bin .add (.int 2) (.var 9))) (.int 4)) (.nm 9) (.rng (.cons (.idx (.var 0) (.int 0)) .nil)) .nil [9]) .nil))))
 (.seq (.set 6 (.lst (.cons (.call 7 (.cons (.var 0) (.cons (.var 2) .nil))) (.cons (.call 10 (.cons (.var 0) (.cons (.var 2) .nil))) (.cons (.call 42 (.cons (.var 0) (.cons (.var 1) .nil))) (.cons (.attr (.var 5) 80) (.cons (.attr (.var 5) 97) (.cons (.attr (.var 5) 98) .nil))))))))
 (.seq (.ite (.isk (.var 4) 113)
 (.seq (.set 6 (.bin .add (.var 6) (.lst (.cons (.attr (.var 4) 80) (.cons (.call 43 (.cons (.var 0) (.cons (.var 1) (.cons (.int 0) .nil)))) (.cons (.call 44 (.cons (.var 0) (.cons (.var 1) (.cons (.bin .mul (.lst (.cons (.int 1) .nil)) (.bi .len (.cons (.idx (.var 0) (.int 1)) .nil))) .nil)))) .nil))))))
 .skip)
 (.seq (.set 6 (.bin .add (.var 6) (.lst (.cons (.attr (.var 4) 97) (.cons (.attr (.var 4) 98) .nil)))))
 .skip))
 (.seq (.set 6 (.bin .add (.var 6) (.lst (.cons (.call 74 (.cons (.var 0) (.cons (.var 1) (.cons (.lrng (.idx (.var 0) (.int 0))) .nil)))) (.cons (.call 63 (.cons (.var 0) (.cons (.var 2) (.cons (.var 2) .nil)))) .nil)))))
 (.seq (.ite (.and (.cons (.cmp (.idx (.var 0) (.int 0)) (.ccons .lt (.int 5) .cnil)) (.cons (.cmp (.bi .len (.cons (.idx (.var 0) (.int 1)) .nil)) (.ccons .lt (.int 8) .cnil)) .nil)))
 (.seq (.app 6 (.call 75 (.cons (.var 0) (.cons (.var 1) (.cons (.var 0) (.cons (.var 1) .nil))))))
 .skip)
 .skip)
 (.seq (.set 7 (.comp (.meth 3214 (.var 10) (.cons (.var 0) (.cons (.var 1) .nil))) (.nm 10) (.seq (.lst (.cons (.var 4) (.cons (.mk 1 (.cons (.lst .nil) .nil)) (.cons (.mk 2 (.cons (.lst .nil) (.cons (.lst .nil) .nil))) .nil))))) .nil [10]))
 (.seq (.set 8 (.bin .mul (.lst (.cons (.int 1) .nil)) (.idx (.var 0) (.int 0))))
 (.seq (.ite (.not (.call 105 (.cons (.var 6) .nil)))
 (.seq (.ret (.bl false))
 .skip)
 .skip)
 (.seq (.ret (.call 106 (.cons (.bin .add (.var 7) (.lst (.cons (.call 9 (.cons (.var 0) (.cons (.var 1) (.cons (.var 2) .nil)))) (.cons (.meth 3214 (.mk 3 (.cons (.lst .nil) (.cons (.lst .nil) (.cons (.lst .nil) .nil)))) (.cons (.var 0) (.cons (.var 8) .nil))) .nil)))) .nil)))
 .skip)))))))))
abbrev fd_law_told_right3 : Fd := ⟨["_law_web_here", "_law_wishes_here", "_law_chosen", "_law_whole"], ["_law_web_here", "_law_wishes_here", "_law_chosen", "_law_whole", "_law_answer", "_law_told", "_law_found", "_law_shown", "_law_tops", "_law_place", "_law_one"], b_law_told_right3, false⟩
/-- 110: _law_most_promises -/
def b_law_most_promises : S :=
 (.seq (.set 1 (.lst (.cons (.tup (.cons (.lst (.cons (.int 0) .nil)) (.cons (.lst (.cons (.int 1) .nil)) (.cons (.lst (.cons (.int 0) (.cons (.int 2) .nil))) (.cons (.bl true) .nil))))) (.cons (.tup (.cons (.lst (.cons (.int 0) .nil)) (.cons (.lst .nil) (.cons (.lst .nil) (.cons (.bl true) .nil))))) (.cons (.tup (.cons (.lst .nil) (.cons (.lst (.cons (.int 1) .nil)) (.cons (.lst (.cons (.int 0) (.cons (.int 2) .nil))) (.cons (.bl false) .nil))))) .nil)))))
 (.seq (.set 1 (.bin .add (.var 1) (.lst (.cons (.tup (.cons (.lst (.cons (.int 1) .nil)) (.cons (.lst (.cons (.int 1) .nil)) (.cons (.lst (.cons (.int 0) (.cons (.int 2) .nil))) (.cons (.bl true) .nil))))) (.cons (.tup (.cons (.lst (.cons (.int 0) .nil)) (.cons (.lst (.cons (.int 1) .nil)) (.cons (.lst (.cons (.int 2) (.cons (.int 0) .nil))) (.cons (.bl false) .nil))))) (.cons (.tup (.cons (.lst (.cons (.int 0) (.cons (.int 1) .nil))) (.cons (.lst (.cons (.int 1) .nil)) (.cons (.lst (.cons (.int 0) (.cons (.int 2) .nil))) (.cons (.bl false) .nil))))) .nil))))))
 (.seq (.set 1 (.bin .add (.var 1) (.lst (.cons (.tup (.cons (.lst (.cons (.int 0) .nil)) (.cons (.lst (.cons (.int 1) .nil)) (.cons (.lst (.cons (.int 0) (.cons (.int 1) .nil))) (.cons (.bl false) .nil))))) (.cons (.tup (.cons (.lst (.cons (.int 0) .nil)) (.cons (.lst (.cons (.int 0) (.cons (.int 1) (.cons (.int 2) .nil)))) (.cons (.lst .nil) (.cons (.bl false) .nil))))) .nil)))))
 (.seq (.loop (.tp (.cons (.nm 2) (.cons (.nm 3) (.cons (.nm 4) (.cons (.nm 5) .nil))))) (.seq (.var 1))
 (.seq (.ite (.cmp (.meth 3214 (.mk 3 (.cons (.var 2) (.cons (.var 3) (.cons (.var 4) .nil)))) (.cons (.var 0) (.cons (.lst (.cons (.int 1) (.cons (.int 1) (.cons (.int 1) .nil)))) .nil))) (.ccons .ne (.var 5) .cnil))
 (.seq (.ret (.bl false))
 .skip)
 .skip)
 .skip))
 (.seq (.ite (.or (.cons (.cmp (.attr (.call 49 (.cons (.var 0) (.cons (.lst (.cons (.int 0) (.cons (.int 0) (.cons (.int 0) .nil)))) .nil))) 80) (.ccons .ne (.lst .nil) .cnil)) (.cons (.cmp (.attr (.call 49 (.cons (.var 0) (.cons (.lst (.cons (.int 1) (.cons (.int 2) (.cons (.int 1) .nil)))) .nil))) 80) (.ccons .ne (.lst (.cons (.int 0) (.cons (.int 1) .nil))) .cnil)) (.cons (.cmp (.bi .len (.cons (.attr (.call 49 (.cons (.var 0) (.cons (.lst (.cons (.int 20) (.cons (.int 1) (.cons (.int 20) .nil)))) .nil))) 80) .nil)) (.ccons .ne (.int 1) .cnil)) .nil))))
 (.seq (.ret (.bl false))
 .skip)
 .skip)
 (.seq (.ite (.not (.meth 3214 (.mk 3 (.cons (.lst (.cons (.int 0) (.cons (.int 1) .nil))) (.cons (.lst .nil) (.cons (.lst .nil) .nil)))) (.cons (.var 0) (.cons (.lst (.cons (.int 1) (.cons (.int 2) (.cons (.int 1) .nil)))) .nil))))
 (.seq (.ret (.bl false))
 .skip)
 .skip)
 (.seq (.ite (.not (.meth 3214 (.mk 3 (.cons (.lst (.cons (.int 0) (.cons (.int 1) .nil))) (.cons (.lst .nil) (.cons (.lst (.cons (.int 0) (.cons (.int 1) (.cons (.int 2) .nil)))) .nil)))) (.cons (.var 0) (.cons (.lst (.cons (.int 9) (.cons (.int 9) (.cons (.int 9) .nil)))) .nil))))
 (.seq (.ret (.bl false))
 .skip)
 .skip)
 (.seq (.ret (.not (.meth 3214 (.mk 3 (.cons (.lst .nil) (.cons (.lst .nil) (.cons (.lst .nil) .nil)))) (.cons (.var 0) (.cons (.lst (.cons (.int 1) (.cons (.int 2) (.cons (.int 1) .nil)))) .nil)))))
 .skip))))))))
abbrev fd_law_most_promises : Fd := ⟨["_law_web_here"], ["_law_web_here", "_law_cases", "_law_ties", "_law_ahead", "_law_behind", "_law_due"], b_law_most_promises, false⟩
/-- 113: _law_all_ties -/
def b_law_all_ties : S :=
 (.seq (.set 1 (.lst .nil))
 (.seq (.loop (.nm 2) (.rng (.cons (.var 0) .nil))
 (.seq (.ext 1 (.comp (.tup (.cons (.var 2) (.cons (.var 3) .nil))) (.nm 3) (.rng (.cons (.bin .add (.var 2) (.int 1)) (.cons (.var 0) .nil))) .nil [3]))
 .skip))
 (.seq (.ret (.var 1))
 .skip)))
abbrev fd_law_all_ties : Fd := ⟨["_law_many"], ["_law_many", "_law_found", "_law_one", "_law_other"], b_law_all_ties, false⟩
/-- 114: _law_rows -/
def b_law_rows : S :=
 (.seq (.par3 0 1 2 (.lst .nil) (.lst .nil) (.lst (.cons (.tup (.cons (.int 0) (.cons (.int 7) .nil))) .nil)))
 (.seq (.loop (.nm 3) (.rng (.cons (.int 3) .nil))
 (.seq (.ext 0 (.comp (.tup (.cons (.var 3) (.cons (.bin .add (.int 3) (.var 6)) .nil))) (.nm 6) (.rng (.cons (.int 3) .nil)) .nil [6]))
 .skip))
 (.seq (.loop (.nm 3) (.rng (.cons (.int 8) .nil))
 (.seq (.ext 1 (.comp (.tup (.cons (.var 3) (.cons (.bin .add (.var 3) (.var 7)) .nil))) (.nm 7) (.seq (.tup (.cons (.int 1) (.cons (.int 2) (.cons (.int 4) .nil))))) (.cons (.cmp (.bin .mod (.bin .fdiv (.var 3) (.var 7)) (.int 2)) (.ccons .eq (.int 0) .cnil)) .nil) [7]))
 .skip))
 (.seq (.set 2 (.bi .sorted (.cons (.bin .add (.var 2) (.comp (.tup (.cons (.var 8) (.cons (.bin .add (.var 8) (.int 1)) .nil))) (.nm 8) (.rng (.cons (.int 7) .nil)) .nil [8])) .nil)))
 (.seq (.set 4 (.comp (.var 9) (.nm 9) (.seq (.call 113 (.cons (.int 6) .nil))) (.cons (.cmp (.idx (.var 9) (.int 1)) (.ccons .ne (.bin .add (.idx (.var 9) (.int 0)) (.int 3)) .cnil)) .nil) [9]))
 (.seq (.set 5 (.lst (.cons (.tup (.cons (.int 4) (.cons (.call 113 (.cons (.int 4) .nil)) (.cons (.int 1) (.cons (.int 3) .nil))))) (.cons (.tup (.cons (.int 6) (.cons (.var 0) (.cons (.int 1) (.cons (.int 6) .nil))))) (.cons (.tup (.cons (.int 6) (.cons (.var 0) (.cons (.int 2) (.cons (.int 6) .nil))))) (.cons (.tup (.cons (.int 5) (.cons (.call 113 (.cons (.int 5) .nil)) (.cons (.int 2) (.cons (.int 12) .nil))))) .nil))))))
 (.seq (.set 5 (.bin .add (.var 5) (.lst (.cons (.tup (.cons (.int 6) (.cons (.var 4) (.cons (.int 1) (.cons (.int 8) .nil))))) (.cons (.tup (.cons (.int 6) (.cons (.var 4) (.cons (.int 2) (.cons (.int 20) .nil))))) (.cons (.tup (.cons (.int 8) (.cons (.bi .sorted (.cons (.var 1) .nil)) (.cons (.int 1) (.cons (.int 9) .nil))))) (.cons (.tup (.cons (.int 8) (.cons (.bi .sorted (.cons (.var 1) .nil)) (.cons (.int 2) (.cons (.int 9) .nil))))) .nil)))))))
 (.seq (.set 5 (.bin .add (.var 5) (.lst (.cons (.tup (.cons (.int 8) (.cons (.var 2) (.cons (.int 1) (.cons (.int 2) .nil))))) .nil))))
 (.seq (.set 5 (.bin .add (.var 5) (.lst (.cons (.tup (.cons (.int 8) (.cons (.var 2) (.cons (.int 2) (.cons (.int 1) .nil))))) (.cons (.tup (.cons (.int 5) (.cons (.call 113 (.cons (.int 5) .nil)) (.cons (.int 1) (.cons (.int 0) .nil))))) (.cons (.tup (.cons (.int 4) (.cons (.call 113 (.cons (.int 4) .nil)) (.cons (.int 2) (.cons (.int 3) .nil))))) .nil))))))
 (.seq (.ret (.bin .add (.var 5) (.lst (.cons (.tup (.cons (.int 3) (.cons (.call 113 (.cons (.int 3) .nil)) (.cons (.int 2) (.cons (.int 1) .nil))))) .nil))))
 .skip))))))))))
abbrev fd_law_rows : Fd := ⟨[], ["_law_halves", "_law_cube", "_law_ring", "_law_one", "_law_eight", "_law_rows_here", "_law_other", "_law_far", "_law_at", "_law_tie"], b_law_rows, false⟩
/-- 116: _law_small_right -/
def b_law_small_right : S :=
 (.seq (.set 0 (.tup (.cons (.int 1) (.cons (.lst .nil) .nil))))
 (.seq (.loop (.tp (.cons (.nm 1) (.cons (.nm 2) .nil))) (.seq (.lst (.cons (.tup (.cons (.tup (.cons (.int 0) (.cons (.int 0) .nil))) (.cons (.int 1) .nil))) (.cons (.tup (.cons (.tup (.cons (.int 0) (.cons (.int 20) .nil))) (.cons (.int 1) .nil))) (.cons (.tup (.cons (.tup (.cons (.int 1) (.cons (.int 1) .nil))) (.cons (.int 0) .nil))) (.cons (.tup (.cons (.tup (.cons (.int 1) (.cons (.int 20) .nil))) (.cons (.int 0) .nil))) (.cons (.tup (.cons (.tup (.cons (.int 20) (.cons (.int 20) .nil))) (.cons (.int 0) .nil))) .nil)))))))
 (.seq (.set 3 (.call 27 (.cons (.var 0) (.cons (.lst (.cons (.var 1) .nil)) .nil))))
 (.seq (.ite (.or (.cons (.cmp (.call 42 (.cons (.var 0) (.cons (.lst (.cons (.var 1) .nil)) .nil))) (.ccons .ne (.var 2) .cnil)) (.cons (.cmp (.isk (.var 3) 113) (.ccons .ne (.cmp (.var 2) (.ccons .eq (.int 1) .cnil)) .cnil)) .nil)))
 (.seq (.ret (.bl false))
 .skip)
 .skip)
 (.seq (.ite (.cmp (.meth 3214 (.var 3) (.cons (.var 0) (.cons (.lst (.cons (.var 1) .nil)) .nil))) (.ccons .isnot (.bl true) .cnil))
 (.seq (.ret (.bl false))
 .skip)
 .skip)
 .skip))))
 (.seq (.ite (.or (.cons (.cmp (.meth 3214 (.mk 2 (.cons (.lst .nil) (.cons (.lst .nil) .nil))) (.cons (.var 0) (.cons (.lst (.cons (.tup (.cons (.int 1) (.cons (.int 1) .nil))) .nil)) .nil))) (.ccons .isnot (.bl true) .cnil)) (.cons (.cmp (.meth 3214 (.mk 2 (.cons (.lst .nil) (.cons (.lst (.cons (.int 0) .nil)) .nil))) (.cons (.var 0) (.cons (.lst (.cons (.tup (.cons (.int 1) (.cons (.int 1) .nil))) .nil)) .nil))) (.ccons .isnot (.bl true) .cnil)) .nil)))
 (.seq (.ret (.bl false))
 .skip)
 .skip)
 (.seq (.ite (.or (.cons (.cmp (.meth 3214 (.mk 2 (.cons (.lst .nil) (.cons (.lst (.cons (.int 0) .nil)) .nil))) (.cons (.var 0) (.cons (.lst (.cons (.tup (.cons (.int 1) (.cons (.int 20) .nil))) .nil)) .nil))) (.ccons .isnot (.bl true) .cnil)) (.cons (.cmp (.meth 3214 (.mk 2 (.cons (.lst .nil) (.cons (.lst .nil) .nil))) (.cons (.var 0) (.cons (.lst (.cons (.tup (.cons (.int 1) (.cons (.int 20) .nil))) .nil)) .nil))) (.ccons .isnot (.bl false) .cnil)) .nil)))
 (.seq (.ret (.bl false))
 .skip)
 .skip)
 (.seq (.set 4 (.lst (.cons (.tup (.cons (.int 0) (.cons (.int 1) .nil))) (.cons (.tup (.cons (.int 0) (.cons (.int 2) .nil))) (.cons (.tup (.cons (.int 1) (.cons (.int 2) .nil))) (.cons (.tup (.cons (.int 3) (.cons (.int 4) .nil))) (.cons (.tup (.cons (.int 3) (.cons (.int 5) .nil))) (.cons (.tup (.cons (.int 4) (.cons (.int 5) .nil))) .nil))))))))
 (.seq (.set 5 (.lst (.cons (.tup (.cons (.tup (.cons (.int 5) (.cons (.call 113 (.cons (.int 5) .nil)) .nil))) (.cons (.int 2) .nil))) (.cons (.tup (.cons (.tup (.cons (.int 3) (.cons (.call 113 (.cons (.int 3) .nil)) .nil))) (.cons (.int 1) .nil))) (.cons (.tup (.cons (.tup (.cons (.int 6) (.cons (.var 4) .nil))) (.cons (.int 2) .nil))) .nil)))))
 (.seq (.set 5 (.bin .add (.var 5) (.lst (.cons (.tup (.cons (.tup (.cons (.int 6) (.cons (.bi .sorted (.cons (.bin .add (.var 4) (.lst (.cons (.tup (.cons (.int 0) (.cons (.int 3) .nil))) .nil))) .nil)) .nil))) (.cons (.int 3) .nil))) (.cons (.tup (.cons (.var 0) (.cons (.int 0) .nil))) .nil)))))
 (.seq (.loop (.tp (.cons (.nm 6) (.cons (.nm 2) .nil))) (.seq (.var 5))
 (.seq (.set 3 (.call 49 (.cons (.var 6) (.cons (.bin .mul (.lst (.cons (.int 1) .nil)) (.idx (.var 6) (.int 0))) .nil))))
 (.seq (.ite (.or (.cons (.cmp (.bi .len (.cons (.attr (.var 3) 80) .nil)) (.ccons .ne (.var 2) .cnil)) (.cons (.cmp (.meth 3214 (.var 3) (.cons (.var 6) (.cons (.bin .mul (.lst (.cons (.int 1) .nil)) (.idx (.var 6) (.int 0))) .nil))) (.ccons .isnot (.bl true) .cnil)) .nil)))
 (.seq (.ret (.bl false))
 .skip)
 .skip)
 .skip)))
 (.seq (.ret (.cmp (.attr (.call 49 (.cons (.var 0) (.cons (.lst (.cons (.int 20) .nil)) .nil))) 80) (.ccons .eq (.lst .nil) .cnil)))
 .skip)))))))))
abbrev fd_law_small_right : Fd := ⟨[], ["_law_lone", "_law_wish", "_law_many", "_law_told", "_law_triangles", "_law_rows_here", "_law_web"], b_law_small_right, false⟩
/-- 120: _law_great -/
def b_law_great : S :=
 (.seq (.set 1 (.bin .add (.bin .pow (.int 10) (.int 64)) (.var 0)))
 (.seq (.loop (.nm 2) (.rng (.cons (.int 7) .nil))
 (.seq (.set 1 (.bin .mul (.var 1) (.var 1)))
 .skip))
 (.seq (.ret (.var 1))
 .skip)))
abbrev fd_law_great : Fd := ⟨["_law_far"], ["_law_far", "_law_found", "_law_turn"], b_law_great, false⟩
end Wt
/-! ## webs: what its defs mean -/
namespace Wt
open PySem L2
theorem iN_eq (n : Nat) : iN n = .int (n : Int) := rfl
def webD (f : Bool) (n : Nat) (ts : List (Nat × Nat)) : D := .tup [iN n, .lst f (ts.map tieD)]
def ltT (p q : Nat × Nat) : Prop := p.1 < q.1 ∨ (p.1 = q.1 ∧ p.2 < q.2)
structure Web (n : Nat) (ts : List (Nat × Nat)) : Prop where
  one : 1 ≤ n
  most : n ≤ 8
  ties : ts.length ≤ 14
  ok : ∀ t ∈ ts, t.1 < t.2 ∧ t.2 < n
  rise : ts.Pairwise ltT
structure Wish (n : Nat) (ws : List (Nat × Nat)) : Prop where
  len : ws.length = n
  ok : ∀ w ∈ ws, w.1 ≤ w.2 ∧ w.2 ≤ 20
/-- a choice -/
structure Ch (m : Nat) (ch : List Nat) : Prop where
  lt : ∀ c ∈ ch, c < m
  rise : ch.Pairwise (· < ·)
def natsD (f : Bool) (l : List Nat) : D := .lst f (l.map iN)
def tiesD (f : Bool) (l : List (Nat × Nat)) : D := .lst f (l.map tieD)
@[simp] theorem old_iN (n : Nat) : (iN n).old = iN n := faith_iN.old n
@[simp] theorem old_tie (n : Nat × Nat) : (tieD n).old = tieD n := faith_tie.old n
@[simp] theorem olds_iN (l : List Nat) : olds (l.map iN) = l.map iN := olds_map faith_iN.old l
@[simp] theorem olds_tie (l : List (Nat × Nat)) : olds (l.map tieD) = l.map tieD := olds_map faith_tie.old l
@[simp] theorem olds_intm (l : List Int) : olds (l.map D.int) = l.map D.int := olds_map faith_int.old l
section
variable {Γ : Nat → List D → R D}
theorem m_is_whole (i : Int) : runB Γ 1 b_is_whole [.int i] = .ok (.bl true) := by
  simp -implicitDefEqProofs [runB_eq, b_is_whole]
theorem m_is_pair (h0 : ∀ i, Γ 0 [.int i] = .ok (.bl true)) (a b : Int) : runB Γ 1 b_is_pair [.tup [.int a, .int b]] = .ok (.bl true) := by
  simp -implicitDefEqProofs [runB_eq, b_is_pair, h0, faith_int.eqD]
theorem pos_of {ts : List (Nat × Nat)} (h : ts.Pairwise ltT) {i : Nat} (hi : i + 1 < ts.length) : ltT ts[i] ts[i + 1] := List.pairwise_iff_getElem.mp h i (i + 1) (by omega) hi (by omega)
theorem posn_of {ts : List Nat} (h : ts.Pairwise (· < ·)) {i : Nat} (hi : i + 1 < ts.length) : ts[i] < ts[i + 1] := List.pairwise_iff_getElem.mp h i (i + 1) (by omega) hi (by omega)
@[simp] theorem sub_one (i : Nat) : (((1 + i : Nat) : Int) - 1) = (i : Int) := by omega
theorem idx_up {α : Type} {enc : α → D} {f : Bool} {l : List α} {i : Nat} (h : i + 1 < l.length) : idxD (.lst f (l.map enc)) (.int (1 + (i : Int))) = .ok (enc l[i + 1]) := by
  have := idx_map (enc := enc) (f := f) h
  have e : ((i + 1 : Nat) : Int) = 1 + (i : Int) := by omega
  rw [← e]; exact this
theorem cap14 {n : Nat} (h : n ≤ 100000) : n ≤ cap := by unfold cap; omega
theorem cap15 {n : Nat} (h : n < 100000) : n < cap := by unfold cap; omega
theorem rng_one {b : Nat} (hb : b ≤ cap) : rangeD [.int 1, .int (b : Int)] = .ok ((List.range (b - 1)).map fun i => iN (1 + i)) := rng_two (a := 1) (cap14 (by omega)) hb
theorem ge_false {p q : Nat × Nat} (h : ltT p q) : cmpD .ge (tieD p) (tieD q) = .ok false := by
  simp only [tieD, iN_eq, cq_gep]
  rcases h with h | ⟨h1, h2⟩
  · have : ¬ ((p.1 : Int) = q.1) := by omega
    rw [if_neg this]
    congr 1
    simp
    omega
  · have : ((p.1 : Int) = q.1) := by omega
    rw [if_pos this]
    congr 1
    simp
    omega
theorem m_asked_web (h0 : ∀ i, Γ 0 [.int i] = .ok (.bl true)) (h1 : ∀ a b, Γ 1 [.tup [.int a, .int b]] = .ok (.bl true)) {n ts} (W : Web n ts) (f : Bool) : runB Γ 3 b_asked_web [webD f n ts] = .ok .non := by
  have c1 : ∀ ρ : Rho, ρ = [.val (webD f n ts), .no, .no] → compR (compF Γ (.and (.cons (.call 1 (.cons (.var 1) .nil)) (.cons (.cmp (.int 0) (.ccons .le (.idx (.var 1) (.int 0)) (.ccons .lt (.idx (.var 1) (.int 1)) (.ccons .lt (.idx (.var 0) (.int 0)) .cnil)))) .nil))) (.nm 1) .nil [1] ρ) (ts.map tieD) = .ok (ts.map fun _ => .bl true) := by
    rintro ρ rfl
    refine compR_all fun t ht => ?_
    have := W.ok t ht
    simp -implicitDefEqProofs [compF, webD, tieD, iN_eq, h1, this]
  have c2 : ∀ ρ : Rho, ρ = [.val (webD f n ts), .no, .no] → compR (compF Γ (.cmp (.idx (.idx (.var 0) (.int 1)) (.bin .sub (.var 2) (.int 1))) (.ccons .ge (.idx (.idx (.var 0) (.int 1)) (.var 2)) .cnil)) (.nm 2) .nil [2] ρ) ((List.range (ts.length - 1)).map fun i => iN (1 + i)) = .ok ((List.range (ts.length - 1)).map fun _ => .bl false) := by
    rintro ρ rfl
    refine compR_all fun i hi => ?_
    have hi' : i + 1 < ts.length := by have := List.mem_range.mp hi; omega
    have e1 := idx_map (enc := tieD) (f := f) (l := ts) (i := i) (by omega)
    have e2 := idx_up (enc := tieD) (f := f) (l := ts) (i := i) hi'
    have e5 : (1 : Int) + (i : Int) - 1 = (i : Int) := by omega
    simp -implicitDefEqProofs [compF, webD, iN_eq, e5, e1, e2, ge_false (pos_of W.rise hi')]
  have r1 := rng_one (b := ts.length) (cap14 (by have := W.ties; omega))
  have a1 : (1 : Int) ≤ n := by have := W.one; omega
  have a2 : (n : Int) ≤ 8 := by have := W.most; omega
  have a3 : ¬ ((14 : Int) < ts.length) := by have := W.ties; omega
  simp -implicitDefEqProofs [runB_eq, b_asked_web, h0, faith_int.eqD, webD, iN_eq] 
  simp -implicitDefEqProofs [webD, iN_eq] at c1 c2
  have l1 : ts.length ≤ cap := cap14 (by have := W.ties; omega)
  have l2 : ts.length - 1 ≤ cap := cap14 (by have := W.ties; omega)
  simp -implicitDefEqProofs [c1, c2, r1, a1, a2, a3, iN_eq, ml_ok, l1, l2]
theorem m_asked_wishes (h1 : ∀ a b, Γ 1 [.tup [.int a, .int b]] = .ok (.bl true)) {n ts ws} (hn : n ≤ 8) (W : Wish n ws) (f g : Bool) : runB Γ 3 b_asked_wishes [webD f n ts, tiesD g ws] = .ok .non := by
  have c1 : ∀ ρ : Rho, ρ = [.val (webD f n ts), .val (tiesD g ws), .no] → compR (compF Γ (.call 1 (.cons (.var 2) .nil)) (.nm 2) .nil [2] ρ) (ws.map tieD) = .ok (ws.map fun _ => .bl true) := by
    rintro ρ rfl
    refine compR_all fun t ht => ?_
    simp -implicitDefEqProofs [compF, tieD, iN_eq, h1]
  have c2 : ∀ ρ : Rho, ρ = [.val (webD f n ts), .val (tiesD g ws), .no] → compR (compF Γ (.cmp (.int 0) (.ccons .le (.idx (.var 2) (.int 0)) (.ccons .le (.idx (.var 2) (.int 1)) (.ccons .le (.glob "GREATEST" 20) .cnil)))) (.nm 2) .nil [2] ρ) (ws.map tieD) = .ok (ws.map fun _ => .bl true) := by
    rintro ρ rfl
    refine compR_all fun t ht => ?_
    have a1 : (t.2 : Int) ≤ 20 := by have := (W.ok t ht).2; omega
    simp -implicitDefEqProofs [compF, tieD, iN_eq, (W.ok t ht).1, a1]
  have l1 : n ≤ cap := cap14 (by omega)
  have e1 := faith_iN.eqD (by decide) n n
  simp -implicitDefEqProofs [webD, tiesD, iN_eq] at c1 c2 e1
  simp -implicitDefEqProofs [runB_eq, b_asked_wishes, webD, tiesD, iN_eq, W.len, e1, c1, c2, ml_ok, l1]
def risingB (m : Nat) (ch : List Nat) : Bool := ch.all (fun c => decide (c < m)) && decide (ch.Pairwise (· < ·))
theorem m_is_rising (h0 : ∀ i, Γ 0 [.int i] = .ok (.bl true)) {m ch} (hm : ch.length ≤ 100000) (C : Ch m ch) (f : Bool) : runB Γ 4 b_is_rising [natsD f ch, iN m] = .ok (.bl true) := by
  have c1 : ∀ ρ : Rho, ρ = [.val (natsD f ch), .val (iN m), .no, .no] → compR (compF Γ (.and (.cons (.call 0 (.cons (.var 2) .nil)) (.cons (.cmp (.int 0) (.ccons .le (.var 2) (.ccons .lt (.var 1) .cnil))) .nil))) (.nm 2) .nil [2] ρ) (ch.map iN) = .ok (ch.map fun _ => .bl true) := by
    rintro ρ rfl
    refine compR_all fun c hc => ?_
    simp -implicitDefEqProofs [compF, iN_eq, h0, C.lt c hc]
  have c2 : ∀ ρ : Rho, ρ = [.val (natsD f ch), .val (iN m), .no, .no] → compR (compF Γ (.cmp (.idx (.var 0) (.bin .sub (.var 3) (.int 1))) (.ccons .lt (.idx (.var 0) (.var 3)) .cnil)) (.nm 3) .nil [3] ρ) ((List.range (ch.length - 1)).map fun i => iN (1 + i)) = .ok ((List.range (ch.length - 1)).map fun _ => .bl true) := by
    rintro ρ rfl
    refine compR_all fun i hi => ?_
    have hi' : i + 1 < ch.length := by have := List.mem_range.mp hi; omega
    have e1 := idx_map (enc := iN) (f := f) (l := ch) (i := i) (by omega)
    have e2 := idx_up (enc := iN) (f := f) (l := ch) (i := i) hi'
    have e5 : (1 : Int) + (i : Int) - 1 = (i : Int) := by omega
    simp -implicitDefEqProofs [compF, natsD, iN_eq, e5, e1, e2, posn_of C.rise hi']
  have r1 := rng_one (b := ch.length) (cap14 hm)
  have l1 : ch.length ≤ cap := cap14 hm
  have l2 : ch.length - 1 ≤ cap := cap14 (by omega)
  simp -implicitDefEqProofs [natsD, iN_eq] at c1 c2
  simp -implicitDefEqProofs [runB_eq, b_is_rising, natsD, iN_eq, c1, c2, r1, ml_ok, l1, l2]
theorem m_asked_ties {n ts ch} (h4 : Γ 4 [natsD false ch, iN ts.length] = .ok (.bl true)) (f g : Bool) : runB Γ 2 b_asked_ties [webD f n ts, natsD g ch] = .ok .non := by
  simp -implicitDefEqProofs [natsD, iN_eq] at h4
  simp -implicitDefEqProofs [runB_eq, b_asked_ties, webD, natsD, h4]
/-- how many of the chosen ties a place has -/
def touch (ts : List (Nat × Nat)) (p a : Nat) : Bool := decide ((ts.getD a (0, 0)).1 = p) || decide ((ts.getD a (0, 0)).2 = p)
def cnt (ts : List (Nat × Nat)) (ch : List Nat) (p : Nat) : Nat := (ch.filter (touch ts p)).length
def cnts (n : Nat) (ts : List (Nat × Nat)) (ch : List Nat) : List Nat := (List.range n).map (cnt ts ch)
theorem set_rng (f : Nat → Nat) (n k v : Nat) : ((List.range n).map f).set k v = (List.range n).map fun p => if p = k then v else f p := by
  apply List.ext_getElem
  · simp
  · intro i h1 h2
    simp only [List.getElem_set, List.getElem_map, List.getElem_range]
    by_cases e : k = i
    · simp [e]
    · have : ¬ i = k := fun z => e z.symm
      simp [e, this]
theorem cnt_snoc (ts : List (Nat × Nat)) (ch : List Nat) (a p : Nat) : cnt ts (ch ++ [a]) p = cnt ts ch p + if touch ts p a = true then 1 else 0 := by
  unfold cnt
  rw [List.filter_append, List.length_append]
  by_cases h : touch ts p a = true
  · simp [h]
  · simp [h]
theorem setS_inc {l : List Nat} {j x : Nat} {ρ : Rho} (h : j < l.length) : setS (.own (l.map iN)) (.int (j : Int)) ρ x (.int ((l[j] : Nat) + 1)) = some (ρ.set x (.own ((l.set j (l[j] + 1)).map iN))) := by
  have := setS_map (enc := iN) (l := l) (j := j) (x := x) (ρ := ρ) (v := l[j] + 1) h
  rw [← this]; rfl
def bump (l : List Nat) (j : Nat) : List Nat := l.set j (l.getD j 0 + 1)
theorem bump_eq {l : List Nat} {j : Nat} (h : j < l.length) : l.set j (l[j] + 1) = bump l j := by simp [bump, h]
theorem bump_length (l : List Nat) (j : Nat) : (bump l j).length = l.length := by simp [bump]
theorem m_counts_of {n ts ch} (hn : n ≤ 8) (ht : ∀ t ∈ ts, t.1 < t.2 ∧ t.2 < n) (hc : ∀ c ∈ ch, c < ts.length) (f g : Bool) : runB Γ 5 b_counts_of [webD f n ts, natsD g ch] = .ok (natsD true (cnts n ts ch)) := by
  have m1 := mul_rep (v := .int 0) (n := n) (f := true) (cap14 (by omega))
  have z : List.replicate n (D.int 0) = (cnts n ts []).map iN := by
    apply List.ext_getElem
    · simp [cnts]
    · intro i h1 h2
      simp [cnts, cnt, iN]
  obtain ⟨ρ', e, a, b, e2⟩ := forR_pre (enc := iN) (f := loopF Γ (.nm 3) (.seq (.loop (.nm 4) (.seq (.idx (.idx (.var 0) (.int 1)) (.var 3))) (.seq (.seti 2 (.var 4) (.bin .add (.idx (.var 2) (.var 4)) (.int 1))) .skip)) .skip))
    (fun pre ρ => ∃ a b, ρ = [.val (webD f n ts), .val (natsD g ch), .own ((cnts n ts pre).map iN), a, b]) (l := ch) (ρ := [.val (webD f n ts), .val (natsD g ch), .own (List.replicate n (D.int 0)), .no, .no]) ⟨.no, .no, by rw [z]⟩
    (by
      rintro pre x suf ρ hl ⟨a, b, rfl⟩
      have hx := hc x (by rw [hl]; simp)
      have e1 := idx_map (enc := tieD) (f := f) hx
      obtain ⟨t1, t2⟩ := ht _ (List.getElem_mem hx)
      have g1 : ts.getD x (0, 0) = ts[x] := by simp [List.getD, hx]
      generalize hq : ts[x] = q at *
      obtain ⟨q1, q2⟩ := q
      simp only at t1 t2
      have k1 : (cnts n ts pre).length = n := by simp [cnts]
      have i1 := idx_map (enc := iN) (f := true) (l := cnts n ts pre) (i := q1) (by omega)
      have s1 := fun ρ x => setS_inc (l := cnts n ts pre) (j := q1) (x := x) (ρ := ρ) (by omega)
      have i2 := idx_map (enc := iN) (f := true) (l := bump (cnts n ts pre) q1) (i := q2) (by rw [bump_length]; omega)
      have s2 := fun ρ x => setS_inc (l := bump (cnts n ts pre) q1) (j := q2) (x := x) (ρ := ρ) (by rw [bump_length]; omega)
      rw [bump_eq] at s1 s2
      have fin : bump (bump (cnts n ts pre) q1) q2 = cnts n ts (pre ++ [x]) := by
        unfold bump
        apply List.ext_getElem
        · simp [cnts]
        · intro i h1 h2
          have hi : i < n := by simpa [cnts] using h2
          have h1n : q1 < n := by omega
          have : ¬ (q1 = q2) := by omega
          simp only [List.getD_eq_getElem?_getD, List.getElem?_set]
          simp only [cnts, List.getElem_set, List.getElem_map, List.getElem_range, cnt_snoc, touch, g1, Bool.or_eq_true, decide_eq_true_eq]
          by_cases a1 : q1 = i <;> by_cases a2 : q2 = i <;> simp [a1, a2, this, hi, h1n, t2] <;> omega
      refine ⟨_, ?_, .val (iN x), .val (iN q2), rfl⟩
      rw [← fin]
      simp -implicitDefEqProofs [iN_eq] at e1 i1 i2 s1 s2
      simp -implicitDefEqProofs [loopF, webD, natsD, e1, tieD, iN_eq, i1, s1, i2, s2])
  subst e2
  simp -implicitDefEqProofs [webD, natsD, iN_eq] at m1 e
  have mk1 : mkL [D.int 0] = .ok (.lst true [D.int 0]) := ml_ok (cap14 (by decide))
  simp -implicitDefEqProofs [runB_eq, b_counts_of, webD, natsD, iN_eq, m1, e, mk1]
theorem m_counts {n ts ch} (h2 : Γ 2 [webD false n ts] = .ok .non) (h5 : Γ 5 [webD false n ts, natsD false ch] = .ok .non) (h6 : Γ 6 [webD false n ts, natsD false ch] = .ok (natsD true (cnts n ts ch))) (f g : Bool) :
    runB Γ 2 b_counts [webD f n ts, natsD g ch] = .ok (natsD true (cnts n ts ch)) := by
  simp -implicitDefEqProofs [webD, natsD, iN_eq] at h2 h5 h6
  simp -implicitDefEqProofs [runB_eq, b_counts, webD, natsD, iN_eq, h2, h5, h6]
/-- whether each place has as many as it wishes -/
def rightB (n : Nat) (ts : List (Nat × Nat)) (ws : List (Nat × Nat)) (ch : List Nat) : Bool := ((cnts n ts ch).zip ws).all fun p => decide (p.2.1 ≤ p.1) && decide (p.1 ≤ p.2.2)
def mwD (p : Nat × (Nat × Nat)) : D := .tup [iN p.1, tieD p.2]
theorem zip_mw (l : List Nat) (m : List (Nat × Nat)) : ((l.map iN).zip (m.map tieD)).map (fun p => D.tup [p.1, p.2]) = (l.zip m).map mwD := by
  rw [List.zip_map, List.map_map]; rfl
theorem m_is_right {n ts ws ch} (hw : ws.length ≤ 100000) (h6 : Γ 6 [webD false n ts, natsD false ch] = .ok (natsD true (cnts n ts ch))) (f g h : Bool) :
    runB Γ 6 b_is_right [webD f n ts, tiesD h ws, natsD g ch] = .ok (.bl (rightB n ts ws ch)) := by
  have c1 : ∀ ρ : Rho, ρ = [.val (webD f n ts), .val (tiesD h ws), .val (natsD g ch), .no, .no, .no] → compR (compF Γ (.cmp (.var 4) (.ccons .le (.var 3) (.ccons .le (.var 5) .cnil))) (.tp (.cons (.nm 3) (.cons (.tp (.cons (.nm 4) (.cons (.nm 5) .nil))) .nil))) .nil [3, 4, 5] ρ) (((cnts n ts ch).zip ws).map mwD)
      = .ok (((cnts n ts ch).zip ws).map fun p => .bl (decide (p.2.1 ≤ p.1) && decide (p.1 ≤ p.2.2))) := by
    rintro ρ rfl
    refine compR_all fun p hp => ?_
    obtain ⟨m, a, b⟩ := p
    simp -implicitDefEqProofs [compF, mwD, tieD, iN_eq]
    by_cases q : a ≤ m <;> simp -implicitDefEqProofs [q]
  have l1 : (((cnts n ts ch).zip ws).map fun p => D.bl (decide (p.2.1 ≤ p.1) && decide (p.1 ≤ p.2.2))).length ≤ cap := cap14 (by simp; omega)
  have z := zip_mw (cnts n ts ch) ws
  have a1 := all_map true (fun p : Nat × (Nat × Nat) => decide (p.2.1 ≤ p.1) && decide (p.1 ≤ p.2.2)) ((cnts n ts ch).zip ws)
  have l2 := ml_ok l1
  have c1 := c1 _ rfl
  generalize hc : (((cnts n ts ch).zip ws).map fun p => D.bl (decide (p.2.1 ≤ p.1) && decide (p.1 ≤ p.2.2))) = cl at c1 l2 a1
  simp -implicitDefEqProofs [webD, natsD, tiesD, iN_eq] at h6 c1
  simp -implicitDefEqProofs [runB_eq, b_is_right, webD, natsD, tiesD, iN_eq, h6, z, c1, l2, a1, rightB]
theorem m_right {n ts ws ch b} (h2 : Γ 2 [webD false n ts] = .ok .non) (h3 : Γ 3 [webD false n ts, tiesD false ws] = .ok .non) (h5 : Γ 5 [webD false n ts, natsD false ch] = .ok .non) (h8 : Γ 8 [webD false n ts, tiesD false ws, natsD false ch] = .ok (.bl b)) (f g h : Bool) :
    runB Γ 3 b_right [webD f n ts, tiesD h ws, natsD g ch] = .ok (.bl b) := by
  simp -implicitDefEqProofs [webD, natsD, tiesD, iN_eq] at h2 h3 h5 h8
  simp -implicitDefEqProofs [runB_eq, b_right, webD, natsD, tiesD, iN_eq, h2, h3, h5, h8]
/-- the ties that aren't chosen -/
def restL (m : Nat) (ch : List Nat) : List Nat := (List.range m).filter fun a => !decide (a ∈ ch)
theorem m_rest {n ts ch} (hl : ts.length ≤ 100000) (h2 : Γ 2 [webD false n ts] = .ok .non) (h5 : Γ 5 [webD false n ts, natsD false ch] = .ok .non) (f g : Bool) :
    runB Γ 3 b_rest [webD f n ts, natsD g ch] = .ok (natsD true (restL ts.length ch)) := by
  have c1 : ∀ ρ : Rho, ρ = [.val (webD f n ts), .val (natsD g ch), .no] → compR (compF Γ (.var 2) (.nm 2) (.cons (.cmp (.var 2) (.ccons .notin (.var 1) .cnil)) .nil) [2] ρ) ((List.range ts.length).map iN) = .ok ((restL ts.length ch).map iN) := by
    rintro ρ rfl
    refine compR_map fun c hc => ?_
    have := faith_iN.inD (by decide) c g ch
    simp -implicitDefEqProofs [iN_eq] at this
    simp -implicitDefEqProofs [compF, natsD, iN_eq, this]
    by_cases q : c ∈ ch <;> simp -implicitDefEqProofs [q]
  have l1 : ((restL ts.length ch).map iN).length ≤ cap := cap14 (by
    have := List.length_filter_le (fun a => !decide (a ∈ ch)) (List.range ts.length)
    simp [restL] at this ⊢; omega)
  have l2 := ml_ok l1
  have r1 := rng_nat (cap14 hl)
  simp -implicitDefEqProofs [webD, natsD, iN_eq] at h2 h5 c1
  simp -implicitDefEqProofs [runB_eq, b_rest, webD, natsD, iN_eq, h2, h5, c1, r1, l2]
end
end Wt
/-! ## what the laws build -/
namespace Wt
open PySem L2
theorem small_of {i : Int} (h1 : -18446744073709551616 < i) (h2 : i < 18446744073709551616) : small i = true := by
  have e : (2 : Int) ^ 64 = 18446744073709551616 := by decide
  unfold small
  rw [e]
  simp [h1, h2]
theorem mul_l {i j : Int} (h1 : -18446744073709551616 < i) (h2 : i < 18446744073709551616) : opD .mul (.int i) (.int j) = .ok (.int (i * j)) := op_mul_i (by rw [small_of h1 h2]; rfl)
theorem mul_r {i j : Int} (h1 : -18446744073709551616 < j) (h2 : j < 18446744073709551616) : opD .mul (.int i) (.int j) = .ok (.int (i * j)) := op_mul_i (by rw [small_of h1 h2, Bool.or_true])
theorem pow_10 : opD .pow (.int 10) (.int 18) = .ok (.int 1000000000000000000) := by
  simp only [opD]
  rw [if_pos (by decide)]
  rfl
theorem ok_scr {k : Nat} (ns : List Int) : Ok (k + 1) (.scr ns) := by
  have := ok_lst (k := k) (f := true) (xs := ns.map D.int) (by intro x hx; obtain ⟨a, _, rfl⟩ := List.mem_map.mp hx; exact ok_int _)
  have e : (D.lst true (ns.map D.int)).py = (D.scr ns).py := by
    simp only [D.py, pys_eq, List.map_map]
    congr 1
  exact ⟨e ▸ this.lay, e ▸ this.dep⟩
theorem eq_scr (ns : List Int) (f : Bool) : eqD (.scr ns) (.lst f []) = .ok (decide (ns = [])) := by
  rw [eqD_of (ok_scr (k := 0) ns) (ok_lst (k := 0) (by simp)) (by decide)]
  simp only [D.py, pys, PyData.eqv]
  cases ns <;> simp [PyData.eqvAll]
theorem bi_absN (i : Int) : biD .abs [.int i] = .ok (.int (i.natAbs : Int)) := by
  rw [bi_abs]
  congr 2
  split <;> omega
theorem cut63 {ns : List Int} (h : ns.length ≤ 63) : sliD .one (.scr ns) none (some 63) = .ok (.lst true (ns.map D.int)) := by
  simp only [sliD, cutD, HT.sIx_none]
  have e := HT.sIx_nat (ns.map D.int).length (ns.map D.int).length 63
  have e2 : ((63 : Nat) : Int) = 63 := rfl
  rw [e2] at e
  rw [e]
  congr 2
  simp only [List.drop_zero]
  rw [List.take_of_length_le]
  simp
  omega
def cells (k : Int) (ns : List Int) : List Int := if ns = [] then [k] else ns
theorem cells_pos (k : Int) (ns : List Int) : 0 < (cells k ns).length := by
  unfold cells
  split
  · simp
  · rename_i h
    cases ns
    · exact absurd rfl h
    · simp
theorem sum_ints (f : Bool) (l : List Int) : biD .sum [.lst f (l.map D.int)] = .ok (.int l.sum) := by
  have := sum_map f id l
  simpa using this
theorem idx_modI {f : Bool} {l : List Int} {a : Int} (h : 0 < l.length) : ∃ r, idxD (.lst f (l.map D.int)) (.int (a % (l.length : Int))) = .ok (.int r) := by
  have h1 := Int.emod_nonneg a (b := (l.length : Int)) (by omega)
  have h2 := Int.emod_lt_of_pos a (b := (l.length : Int)) (by omega)
  obtain ⟨k, e⟩ : ∃ k : Nat, a % (l.length : Int) = (k : Int) := ⟨(a % (l.length : Int)).toNat, by omega⟩
  rw [e]
  exact ⟨_, idx_map (by omega)⟩
section
variable {Γ : Nat → List D → R D}
theorem m_law_number (c t w : Int) (h1 : 0 ≤ t) (h2 : t < 1000000) : ∃ r, runB Γ 6 b_law_number [.int c, .int t, .int w] = .ok (.int r) := by
  by_cases h : 1000000000000000000 ≤ c
  · have m1 := op_mod_i (i := t) (j := 7) (by decide)
    have b1 := Int.emod_nonneg t (b := 7) (by decide)
    have b2 := Int.emod_lt_of_pos t (b := 7) (by decide)
    have d1 := op_div_i (i := c) (j := 1 + t % 7) (by omega) (by omega)
    exact ⟨_, by simp -implicitDefEqProofs [runB_eq, b_law_number, pow_10, h, m1, d1]; rfl⟩
  · have m1 := op_mod_i (i := c) (j := 1000000000000000000) (by decide)
    have s1 := Int.emod_nonneg c (b := 1000000000000000000) (by decide)
    have s2 := Int.emod_lt_of_pos c (b := 1000000000000000000) (by decide)
    generalize c % 1000000000000000000 = s at *
    have p1 := mul_l (i := 977) (j := t) (by decide) (by decide)
    have p2 := mul_r (i := s + 977 * t) (j := 48271) (by decide) (by decide)
    have m2 := op_mod_i (i := (s + 977 * t) * 48271 + w) (j := 2147483647) (by decide)
    have b1 := Int.emod_nonneg ((s + 977 * t) * 48271 + w) (b := 2147483647) (by decide)
    have b2 := Int.emod_lt_of_pos ((s + 977 * t) * 48271 + w) (b := 2147483647) (by decide)
    generalize ((s + 977 * t) * 48271 + w) % 2147483647 = b at *
    have p3 := mul_l (i := 31) (j := t) (by decide) (by decide)
    have p4 := mul_l (i := b) (j := s + 31 * t + 7) (by omega) (by omega)
    have p5 := mul_r (i := b * (s + 31 * t + 7)) (j := b + s + 5) (by omega) (by omega)
    have p6 := mul_l (i := b) (j := b) (by omega) (by omega)
    have bb0 : 0 ≤ b * b := Int.mul_nonneg b1 b1
    have bb1 : b * b ≤ 2147483647 * 2147483647 := Int.mul_le_mul (by omega) (by omega) b1 (by decide)
    have p7 := mul_r (i := b * (s + 31 * t + 7) * (b + s + 5)) (j := b * b + 11) (by omega) (by omega)
    have d1 := op_div_i (i := b * (s + 31 * t + 7) * (b + s + 5) * (b * b + 11)) (j := 1009 + t) (by omega) (by omega)
    exact ⟨_, by simp -implicitDefEqProofs [runB_eq, b_law_number, pow_10, h, m1, p1, p2, m2, p3, p4, p5, p6, p7, d1]; rfl⟩
end
/-! ### sorted ties -/
def ltB (p q : Nat × Nat) : Bool := decide (p.1 < q.1) || (decide (p.1 = q.1) && decide (p.2 < q.2))
theorem ltB_iff (p q : Nat × Nat) : ltB p q = true ↔ ltT p q := by simp [ltB, ltT]
def insT (x : Nat × Nat) : List (Nat × Nat) → List (Nat × Nat)
  | [] => [x]
  | y :: r => if ltB x y = true then x :: y :: r else y :: insT x r
def sortT : List (Nat × Nat) → List (Nat × Nat) → List (Nat × Nat)
  | acc, [] => acc
  | acc, x :: r => sortT (insT x acc) r
theorem key_tie (p : Nat × Nat) : (tieD p).key = some (.pair p.1 p.2) := rfl
theorem ltK_tie (p q : Nat × Nat) : (tieD p).ltK (tieD q) = ltB p q := by
  unfold D.ltK
  rw [key_tie, key_tie]
  simp only [Ky.lt, ltB]
  by_cases h : p.1 = q.1
  · simp [h]
  · have : ¬ ((p.1 : Int) = q.1) := by omega
    simp [h, this]
theorem insD_tie (x : Nat × Nat) : ∀ l, insD (tieD x) (l.map tieD) = (insT x l).map tieD
  | [] => rfl
  | y :: r => by
    simp only [List.map_cons, insD, insT, ltK_tie]
    split
    · rfl
    · rw [insD_tie x r]; rfl
theorem sortD_tie : ∀ l acc, sortD (acc.map tieD) (l.map tieD) = (sortT acc l).map tieD
  | [], acc => rfl
  | x :: r, acc => by
    simp only [List.map_cons, sortD, sortT, insD_tie, sortD_tie r]
theorem mem_insT {x z : Nat × Nat} : ∀ {l}, z ∈ insT x l ↔ z = x ∨ z ∈ l
  | [] => by simp [insT]
  | y :: r => by
    unfold insT
    split
    · simp
    · rw [List.mem_cons, mem_insT (l := r), List.mem_cons]
      constructor
      · rintro (h | h | h) <;> simp [h]
      · rintro (h | h | h) <;> simp [h]
theorem len_insT {x : Nat × Nat} : ∀ {l}, (insT x l).length = l.length + 1
  | [] => rfl
  | y :: r => by
    unfold insT
    split
    · rfl
    · rw [List.length_cons, len_insT (l := r)]; rfl
theorem ltT_trans {a b c : Nat × Nat} (h : ltT a b) (k : ltT b c) : ltT a c := by unfold ltT at *; omega
theorem ltT_or {a b : Nat × Nat} (h : a ≠ b) (k : ¬ ltT a b) : ltT b a := by
  unfold ltT at *
  have : ¬ (a.1 = b.1 ∧ a.2 = b.2) := fun z => h (Prod.ext z.1 z.2)
  omega
theorem sorted_insT {x : Nat × Nat} : ∀ {l : List (Nat × Nat)}, x ∉ l → l.Pairwise ltT → (insT x l).Pairwise ltT
  | [], _, _ => by simp [insT]
  | y :: r, hx, h => by
    unfold insT
    rw [List.pairwise_cons] at h
    split
    · rename_i hl
      have hl := (ltB_iff x y).mp hl
      refine List.pairwise_cons.mpr ⟨fun z hz => ?_, List.pairwise_cons.mpr h⟩
      rcases List.mem_cons.mp hz with e | e
      · rw [e]; exact hl
      · exact ltT_trans hl (h.1 z e)
    · rename_i hl
      have hl : ¬ ltT x y := fun z => hl ((ltB_iff x y).mpr z)
      refine List.pairwise_cons.mpr ⟨fun z hz => ?_, sorted_insT (fun z => hx (List.mem_cons_of_mem _ z)) h.2⟩
      rcases mem_insT.mp hz with e | e
      · rw [e]; exact ltT_or (fun z => hx (by rw [z]; exact List.mem_cons_self)) hl
      · exact h.1 z e
theorem sortT_ok : ∀ (l acc : List (Nat × Nat)), acc.Pairwise ltT → l.Nodup → (∀ z ∈ l, z ∉ acc) → (sortT acc l).Pairwise ltT ∧ (∀ z, z ∈ sortT acc l ↔ z ∈ acc ∨ z ∈ l) ∧ (sortT acc l).length = acc.length + l.length
  | [], acc, h, _, _ => ⟨h, fun z => by simp [sortT], rfl⟩
  | x :: r, acc, h, hn, hd => by
    rw [List.nodup_cons] at hn
    obtain ⟨a, b, c⟩ := sortT_ok r (insT x acc) (sorted_insT (hd x List.mem_cons_self) h) hn.2 fun z hz k => by
      rcases mem_insT.mp k with e | e
      · rw [e] at hz; exact hn.1 hz
      · exact hd z (List.mem_cons_of_mem _ hz) e
    refine ⟨a, fun z => ?_, ?_⟩
    · show z ∈ sortT (insT x acc) r ↔ _
      rw [b, mem_insT, List.mem_cons]
      constructor
      · rintro ((h | h) | h) <;> simp [h]
      · rintro (h | h | h) <;> simp [h]
    · show (sortT (insT x acc) r).length = _
      rw [c, len_insT, List.length_cons]; omega
theorem sorted_tie {l : List (Nat × Nat)} (h : l.length ≤ cap) : sortedD (l.map tieD) = .ok (.lst true ((sortT [] l).map tieD)) := by
  unfold sortedD
  rw [if_pos (by simpa using h)]
  have e : oneKind 2 (l.map tieD) = true := by
    unfold oneKind
    rw [List.all_map, List.all_eq_true]
    intro x _
    simp [key_tie, Ky.kind]
  rw [if_pos (by rw [e, Bool.or_true])]
  exact congrArg (fun z => R.ok (D.lst true z)) (sortD_tie l [])
theorem pick4 {a b c d k : Int} (h1 : 0 ≤ k) (h2 : k < 4) : ∃ r, (r = a ∨ r = b ∨ r = c ∨ r = d) ∧ idxD (.tup [.int a, .int b, .int c, .int d]) (.int k) = .ok (.int r) := by
  have : k = 0 ∨ k = 1 ∨ k = 2 ∨ k = 3 := by omega
  rcases this with rfl | rfl | rfl | rfl
  · exact ⟨a, .inl rfl, rfl⟩
  · exact ⟨b, .inr (.inl rfl), rfl⟩
  · exact ⟨c, .inr (.inr (.inl rfl)), rfl⟩
  · exact ⟨d, .inr (.inr (.inr rfl)), rfl⟩
section
variable {Γ : Nat → List D → R D}
theorem ev_cells {k : Int} {ns : List Int} {r : Rho} (hs : ns.length ≤ 63) : ev Γ (.ite (.cmp (.var 0) (.ccons .ne (.lst .nil) .cnil)) (.sli .one (.var 0) .nil (.cons (.int 63) .nil)) (.lst (.cons (.int k) .nil))) (.val (.scr ns) :: r) = .ok (.lst true ((cells k ns).map D.int)) := by
  have l0 : mkL [] = .ok (.lst true []) := ml_ok (cap14 (by decide))
  have l1 : mkL [D.int k] = .ok (.lst true [D.int k]) := ml_ok (cap14 (by simp))
  simp -implicitDefEqProofs [eq_scr, l0, l1]
  unfold cells
  by_cases q : ns = []
  · subst q; simp -implicitDefEqProofs
  · simp -implicitDefEqProofs [q, cut63 hs]
theorem m_law_web (h11 : ∀ c t w : Int, 0 ≤ t → t < 1000000 → ∃ r, Γ 11 [.int c, .int t, .int w] = .ok (.int r)) {ns : List Int} (hs : ns.length ≤ 63) {bY places ties : Nat} (hb : bY ≤ 1000) (hp : 2 ≤ places) (hp8 : places ≤ 8) (ht : ties ≤ 14) :
    ∃ n ts, Web n ts ∧ 2 ≤ n ∧ n ≤ places ∧ ts.length ≤ ties ∧ runB Γ 14 b_law_web [.scr ns, iN bY, iN places, iN ties] = .ok (webD true n ts) := by
  have hl := cells_pos 5 ns
  have e0 := fun r => ev_cells (Γ := Γ) (k := 5) (r := r) hs
  generalize hcs : cells 5 ns = cs at *
  have m0 := op_mod_i (i := (cs.sum.natAbs : Int) + bY) (j := (places : Int) - 1) (by omega)
  have n1 := Int.emod_nonneg ((cs.sum.natAbs : Int) + bY) (b := (places : Int) - 1) (by omega)
  have n2 := Int.emod_lt_of_pos ((cs.sum.natAbs : Int) + bY) (b := (places : Int) - 1) (by omega)
  have d0 := op_div_i (i := (cs.sum.natAbs : Int) + bY) (j := (places : Int)) (by omega) (by omega)
  have m1 := op_mod_i (i := ((cs.sum.natAbs : Int) + bY) / (places : Int)) (j := 4) (by decide)
  have k1 := Int.emod_nonneg (((cs.sum.natAbs : Int) + bY) / (places : Int)) (b := 4) (by decide)
  have k2 := Int.emod_lt_of_pos (((cs.sum.natAbs : Int) + bY) / (places : Int)) (b := 4) (by decide)
  generalize (((cs.sum.natAbs : Int) + bY) / (places : Int)) % 4 = kind at *
  obtain ⟨n, hn⟩ : ∃ n : Nat, 2 + ((cs.sum.natAbs : Int) + bY) % ((places : Int) - 1) = (n : Int) := ⟨_, (Int.toNat_of_nonneg (by omega)).symm⟩
  generalize hw : (cs.sum.natAbs : Int) + bY = whole at *
  have r1 := rng_nat (n := ties) (cap14 (by omega))
  obtain ⟨ρ', e, a, b, c, d, g, L, e2, hL1, hL2, hL3⟩ := forR_pre (enc := iN) (f := loopF Γ (.nm 9) 
 (.seq (.set 10 (.bin .fdiv (.call 11 (.cons (.idx (.var 4) (.bin .mod (.bin .add (.var 9) (.var 1)) (.bi .len (.cons (.var 4) .nil)))) (.cons (.bin .add (.var 9) (.var 1)) (.cons (.var 5) .nil)))) (.int 3)))
 (.seq (.set 11 (.idx (.tup (.cons (.bin .mod (.var 9) (.var 6)) (.cons (.bin .mod (.bin .fdiv (.var 9) (.var 6)) (.var 6)) (.cons (.bin .mod (.var 10) (.var 6)) (.cons (.bin .mod (.var 9) (.var 6)) .nil))))) (.var 7)))
 (.seq (.set 12 (.idx (.tup (.cons (.bin .mod (.bin .add (.var 9) (.int 1)) (.var 6)) (.cons (.bin .mod (.var 9) (.var 6)) (.cons (.bin .mod (.bin .fdiv (.var 10) (.int 7)) (.var 6)) (.cons (.bin .mod (.var 10) (.var 6)) .nil))))) (.var 7)))
 (.seq (.set 13 (.tup (.cons (.bi .min2 (.cons (.var 11) (.cons (.var 12) .nil))) (.cons (.bi .max2 (.cons (.var 11) (.cons (.var 12) .nil))) .nil))))
 (.seq (.ite (.and (.cons (.cmp (.var 11) (.ccons .ne (.var 12) .cnil)) (.cons (.cmp (.var 13) (.ccons .notin (.var 8) .cnil)) .nil)))
 (.seq (.app 8 (.var 13))
 .skip)
 .skip)
 .skip))))))
    (fun pre ρ => ∃ a b c d g L, ρ = [.val (.scr ns), .val (iN bY), .val (iN places), .val (iN ties), .val (.lst true (cs.map D.int)), .val (.int whole), .val (iN n), .val (.int kind), .own (List.map tieD L), a, b, c, d, g] ∧ L.Nodup ∧ (∀ t ∈ L, t.1 < t.2 ∧ t.2 < n) ∧ L.length ≤ pre.length)
    (l := List.range ties) (ρ := [.val (.scr ns), .val (iN bY), .val (iN places), .val (iN ties), .val (.lst true (cs.map D.int)), .val (.int whole), .val (iN n), .val (.int kind), .own [], .no, .no, .no, .no, .no]) ⟨_, _, _, _, _, [], rfl, by simp, by simp, by simp⟩
    (by
      rintro pre x suf ρ hl2 ⟨a, b, c, d, g, L, rfl, hL1, hL2, hL3⟩
      have hx : x < ties := List.mem_range.mp (by rw [hl2]; simp)
      have hpl : pre.length + 1 ≤ ties := by
        have := congrArg List.length hl2
        simp at this; omega
      obtain ⟨c0, i0⟩ := idx_modI (f := true) (l := cs) (a := (x : Int) + bY) hl
      have mm := op_mod_i (i := (x : Int) + bY) (j := (cs.length : Int)) (by omega)
      obtain ⟨r0, g0⟩ := h11 c0 ((x : Int) + bY) whole (by omega) (by omega)
      have dd := op_div_i (i := r0) (j := 3) (by decide) (by decide)
      generalize r0 / 3 = num at *
      have np : (0 : Int) < n := by omega
      have nb : (n : Int) < 1073741824 := by omega
      have q1 := fun i : Int => op_mod_i (i := i) (j := (n : Int)) np
      have q2 := fun i : Int => op_div_i (i := i) (j := (n : Int)) np nb
      have q3 := op_div_i (i := num) (j := 7) (by decide) (by decide)
      obtain ⟨f1, hf1, if1⟩ := pick4 (a := (x : Int) % n) (b := (x : Int) / n % n) (c := num % n) (d := (x : Int) % n) k1 k2
      obtain ⟨f2, hf2, if2⟩ := pick4 (a := ((x : Int) + 1) % n) (b := (x : Int) % n) (c := num / 7 % n) (d := num % n) k1 k2
      have bd : ∀ i : Int, 0 ≤ i % n ∧ i % n < n := fun i => ⟨Int.emod_nonneg _ (by omega), Int.emod_lt_of_pos _ np⟩
      have bf1 : 0 ≤ f1 ∧ f1 < n := by rcases hf1 with h | h | h | h <;> rw [h] <;> exact bd _
      have bf2 : 0 ≤ f2 ∧ f2 < n := by rcases hf2 with h | h | h | h <;> rw [h] <;> exact bd _
      obtain ⟨f1, rfl⟩ : ∃ k : Nat, f1 = (k : Int) := ⟨f1.toNat, by omega⟩
      obtain ⟨f2, rfl⟩ : ∃ k : Nat, f2 = (k : Int) := ⟨f2.toNat, by omega⟩
      obtain ⟨lo, hlo⟩ : ∃ lo : Nat, (if f2 < f1 then (f2 : Int) else f1) = (lo : Int) := ⟨min f1 f2, by split <;> omega⟩
      obtain ⟨up, hup⟩ : ∃ up : Nat, (if f1 < f2 then (f2 : Int) else f1) = (up : Int) := ⟨max f1 f2, by split <;> omega⟩
      have l4 : 4 ≤ cap := cap14 (by decide)
      have l2 : 2 ≤ cap := cap14 (by decide)
      have iq := faith_tie.inD (by decide) (lo, up) true L
      have ap := fun ρ => appS_map (enc := tieD) (l := L) (x := 8) (ρ := ρ) (v := (lo, up)) (cap15 (by omega))
      simp -implicitDefEqProofs [tieD, iN_eq] at iq ap
      by_cases hf : (f1 : Int) = f2
      · refine ⟨_, ?_, .val (iN x), .val (.int num), .val (.int f1), .val (.int f2), .val (.tup [.int lo, .int up]), L, rfl, hL1, hL2, by simp; omega⟩
        simp -implicitDefEqProofs [loopF, iN_eq, mm, i0, g0, dd, q1, q2, q3, if1, if2, hlo, hup, l4, l2, faith_int.eqD, iq, hf]
        constructor <;> (split at hlo <;> split at hup <;> omega)
      · by_cases hi : (lo, up) ∈ L
        · refine ⟨_, ?_, .val (iN x), .val (.int num), .val (.int f1), .val (.int f2), .val (.tup [.int lo, .int up]), L, rfl, hL1, hL2, by simp; omega⟩
          simp -implicitDefEqProofs [loopF, iN_eq, mm, i0, g0, dd, q1, q2, q3, if1, if2, hlo, hup, l4, l2, faith_int.eqD, iq, hf, hi]
        · refine ⟨_, ?_, .val (iN x), .val (.int num), .val (.int f1), .val (.int f2), .val (.tup [.int lo, .int up]), L ++ [(lo, up)], rfl, ?_, ?_, by simp; omega⟩
          · simp -implicitDefEqProofs [loopF, iN_eq, mm, i0, g0, dd, q1, q2, q3, if1, if2, hlo, hup, l4, l2, faith_int.eqD, iq, hf, hi, ap]
            rfl
          · rw [List.nodup_append]
            exact ⟨hL1, by simp, by intro a ha b hb e; simp at hb; rw [e, hb] at ha; exact hi ha⟩
          · intro t ht
            rcases List.mem_append.mp ht with h | h
            · exact hL2 t h
            · simp at h; subst h
              simp only
              constructor
              · split at hlo <;> split at hup <;> omega
              · split at hup <;> omega)
  obtain ⟨s1, s2, s3⟩ := sortT_ok L [] .nil hL1 (by simp)
  have ss := sorted_tie (l := L) (cap14 (by have := hL3; simp at this; omega))
  have lt : L.length ≤ ties := by simpa using hL3
  refine ⟨n, sortT [] L, ⟨by omega, by omega, by rw [s3]; simp; omega, fun t ht => hL2 t (by simpa using (s2 t).mp ht), s1⟩, by omega, by omega, by rw [s3]; simpa using lt, ?_⟩
  subst e2
  have mk1 : mkL [] = .ok (.lst true []) := ml_ok (cap14 (by decide))
  have l2 : 2 ≤ cap := cap14 (by decide)
  simp -implicitDefEqProofs [iN_eq] at e r1
  simp -implicitDefEqProofs [-bi_abs, runB_eq, b_law_web, iN_eq, e0, sum_ints, bi_absN, hw, m0, d0, m1, hn, mk1, r1, e, ss, l2, webD]
end
end Wt
namespace Wt
open PySem L2
theorem ati_1 (a b : D) (as : List D) : L2.atI (a :: b :: as) 1 = some b := by
  have e : L2.ixN (a :: b :: as).length ((1 : Nat) : Int) = some 1 := ixn_nat (by simp)
  have e' : L2.ixN (a :: b :: as).length 1 = some 1 := e
  simp only [L2.atI, e']
  rfl
theorem ati_2 (a b c : D) (as : List D) : L2.atI (a :: b :: c :: as) 2 = some c := by
  have e : L2.ixN (a :: b :: c :: as).length ((2 : Nat) : Int) = some 2 := ixn_nat (by simp)
  have e' : L2.ixN (a :: b :: c :: as).length 2 = some 2 := e
  simp only [L2.atI, e']
  rfl
@[simp] theorem idx_l1 (f : Bool) (a b : D) (as : List D) : idxD (.lst f (a :: b :: as)) (.int 1) = .ok b := by simp only [idxD, ati_1]
@[simp] theorem idx_l2 (f : Bool) (a b c : D) (as : List D) : idxD (.lst f (a :: b :: c :: as)) (.int 2) = .ok c := by simp only [idxD, ati_2]
section
variable {Γ : Nat → List D → R D}
theorem cnt_le (ts : List (Nat × Nat)) (ch : List Nat) (p : Nat) : cnt ts ch p ≤ ch.length := List.length_filter_le _ _
theorem cnts_length (n : Nat) (ts : List (Nat × Nat)) (ch : List Nat) : (cnts n ts ch).length = n := by simp [cnts]
theorem m_law_counts {n ts ch} (hn : n ≤ 8) (hc : ∀ c ∈ ch, c < ts.length) (hl : ch.length ≤ 100000) (f g : Bool) : runB Γ 4 b_law_counts [webD f n ts, natsD g ch] = .ok (natsD true (cnts n ts ch)) := by
  have c0 : ∀ (p : Nat) (ρ : Rho), ρ = [.val (webD f n ts), .val (natsD g ch), .no, .val (iN p)] → compR (compF Γ (.var 2) (.nm 2) (.cons (.cmp (.var 3) (.ccons .isin (.idx (.idx (.var 0) (.int 1)) (.var 2)) .cnil)) .nil) [2] ρ) (ch.map iN) = .ok ((ch.filter (touch ts p)).map iN) := by
    rintro p ρ rfl
    refine compR_map fun c hcc => ?_
    have hx := hc c hcc
    have e1 := idx_map (enc := tieD) (f := f) hx
    have g1 : ts.getD c (0, 0) = ts[c] := by simp [List.getD, hx]
    generalize ts[c] = q at *
    obtain ⟨q1, q2⟩ := q
    have i1 := faith_iN.inT (by decide) p [q1, q2]
    simp -implicitDefEqProofs [tieD, iN_eq] at i1 e1
    have tc : touch ts p c = (decide (p = q1) || decide (p = q2)) := by
      unfold touch
      rw [g1]
      by_cases a1 : q1 = p <;> by_cases a2 : q2 = p <;> simp [a1, a2, @eq_comm _ p]
    simp -implicitDefEqProofs [compF, webD, natsD, iN_eq, e1, i1, tc]
    by_cases a1 : p = q1 <;> by_cases a2 : p = q2 <;> simp [a1, a2]
  have c1 : ∀ ρ : Rho, ρ = [.val (webD f n ts), .val (natsD g ch), .no, .no] → compR (compF Γ (.bi .len (.cons (.comp (.var 2) (.nm 2) (.seq (.var 1)) (.cons (.cmp (.var 3) (.ccons .isin (.idx (.idx (.var 0) (.int 1)) (.var 2)) .cnil)) .nil) [2]) .nil)) (.nm 3) .nil [3] ρ) ((List.range n).map iN) = .ok ((List.range n).map fun p => iN (cnt ts ch p)) := by
    rintro ρ rfl
    refine compR_all fun p hp => ?_
    have c0 := c0 p _ rfl
    have l1 : ((ch.filter (touch ts p)).map iN).length ≤ cap := cap14 (by
      have := List.length_filter_le (touch ts p) ch
      simp; omega)
    have l2 := ml_ok l1
    simp -implicitDefEqProofs [webD, natsD, iN_eq] at c0
    simp -implicitDefEqProofs [compF, webD, natsD, iN_eq, c0, l2, cnt]
  have c1 := c1 _ rfl
  have r1 := rng_nat (n := n) (cap14 (by omega))
  have l1 : ((List.range n).map fun p => iN (cnt ts ch p)).length ≤ cap := cap14 (by simp; omega)
  have l2 := ml_ok l1
  have e : ((cnts n ts ch).map iN) = (List.range n).map fun p => iN (cnt ts ch p) := by simp [cnts]
  simp -implicitDefEqProofs [webD, natsD, iN_eq] at c1 l2
  simp -implicitDefEqProofs [runB_eq, b_law_counts, webD, natsD, iN_eq, r1, c1, l2]
  rw [e]
  rfl
theorem m_law_copied {n ts} (hl : ts.length ≤ 100000) (f : Bool) : runB Γ 1 b_law_copied [webD f n ts] = .ok (webD true n ts) := by
  have l2 : 2 ≤ cap := cap14 (by decide)
  have l1 : mkL (ts.map tieD) = .ok (.lst true (ts.map tieD)) := ml_ok (cap14 (by simpa using hl))
  simp -implicitDefEqProofs [runB_eq, b_law_copied, webD, iN_eq, l1, l2]
theorem m_law_right {n ts ws ch} (hw : ws.length ≤ 100000) (h13 : Γ 13 [webD false n ts, natsD false ch] = .ok (natsD true (cnts n ts ch))) (f g h : Bool) :
    runB Γ 6 b_law_right [webD f n ts, tiesD h ws, natsD g ch] = .ok (.bl (rightB n ts ws ch)) := by
  have c1 : ∀ ρ : Rho, ρ = [.val (webD f n ts), .val (tiesD h ws), .val (natsD g ch), .no, .no, .no] → compR (compF Γ (.cmp (.var 4) (.ccons .le (.var 3) (.ccons .le (.var 5) .cnil))) (.tp (.cons (.nm 3) (.cons (.tp (.cons (.nm 4) (.cons (.nm 5) .nil))) .nil))) .nil [3, 4, 5] ρ) (((cnts n ts ch).zip ws).map mwD)
      = .ok (((cnts n ts ch).zip ws).map fun p => .bl (decide (p.2.1 ≤ p.1) && decide (p.1 ≤ p.2.2))) := by
    rintro ρ rfl
    refine compR_all fun p hp => ?_
    obtain ⟨m, a, b⟩ := p
    simp -implicitDefEqProofs [compF, mwD, tieD, iN_eq]
    by_cases q : a ≤ m <;> simp -implicitDefEqProofs [q]
  have l1 : (((cnts n ts ch).zip ws).map fun p => D.bl (decide (p.2.1 ≤ p.1) && decide (p.1 ≤ p.2.2))).length ≤ cap := cap14 (by simp; omega)
  have z := zip_mw (cnts n ts ch) ws
  have a1 := all_map true (fun p : Nat × (Nat × Nat) => decide (p.2.1 ≤ p.1) && decide (p.1 ≤ p.2.2)) ((cnts n ts ch).zip ws)
  have l2 := ml_ok l1
  have c1 := c1 _ rfl
  generalize hc : (((cnts n ts ch).zip ws).map fun p => D.bl (decide (p.2.1 ≤ p.1) && decide (p.1 ≤ p.2.2))) = cl at c1 l2 a1
  simp -implicitDefEqProofs [webD, natsD, tiesD, iN_eq] at h13 c1
  simp -implicitDefEqProofs [runB_eq, b_law_right, webD, natsD, tiesD, iN_eq, h13, z, c1, l2, a1, rightB]
theorem range_pre {m x : Nat} {pre suf : List Nat} (h : List.range m = pre ++ x :: suf) : x < m ∧ pre.length = x ∧ ∀ y ∈ pre, y < x := by
  have h1 : x < m := List.mem_range.mp (by rw [h]; simp)
  have h2 : pre.length = x := by
    have e : (List.range m)[pre.length]? = some x := by rw [h]; simp
    rw [List.getElem?_range] at e
    · simpa using e
    · have := congrArg List.length h; simp at this; omega
  have p := List.pairwise_lt_range (n := m)
  rw [h, List.pairwise_append] at p
  exact ⟨h1, h2, fun y hy => p.2.2 y hy x (by simp)⟩
theorem m_law_drawn (h11 : ∀ c t w : Int, 0 ≤ t → t < 1000000 → ∃ r, Γ 11 [.int c, .int t, .int w] = .ok (.int r)) {ns : List Int} (hs : ns.length ≤ 63) {bY : Nat} (hb : bY ≤ 1000) {n ts} (hl : ts.length ≤ 1000) (f : Bool) :
    ∃ ch, Ch ts.length ch ∧ runB Γ 7 b_law_drawn [.scr ns, iN bY, webD f n ts] = .ok (natsD true ch) := by
  have hp := cells_pos 4 ns
  have e0 := fun r => ev_cells (Γ := Γ) (k := 4) (r := r) hs
  generalize hcs : cells 4 ns = cs at *
  generalize hw : (cs.sum.natAbs : Int) + bY = whole at *
  have r1 := rng_nat (n := ts.length) (cap14 (by omega))
  obtain ⟨ρ', e, L, a, e2, hL1, hL2⟩ := forR_pre (enc := iN) (f := loopF Γ (.nm 6) 
 (.seq (.ite (.cmp (.bin .mod (.bin .fdiv (.call 11 (.cons (.idx (.var 3) (.bin .mod (.bin .add (.var 6) (.var 1)) (.bi .len (.cons (.var 3) .nil)))) (.cons (.bin .add (.var 6) (.bin .mul (.int 2) (.var 1))) (.cons (.var 4) .nil)))) (.int 3)) (.int 2)) (.ccons .eq (.int 0) .cnil))
 (.seq (.app 5 (.var 6))
 .skip)
 .skip)
 .skip))
    (fun pre ρ => ∃ L a, ρ = [.val (.scr ns), .val (iN bY), .val (webD f n ts), .val (.lst true (cs.map D.int)), .val (.int whole), .own (List.map iN L), a] ∧ L.Pairwise (· < ·) ∧ ∀ c ∈ L, c ∈ pre)
    (l := List.range ts.length) (ρ := [.val (.scr ns), .val (iN bY), .val (webD f n ts), .val (.lst true (cs.map D.int)), .val (.int whole), .own [], .no]) ⟨[], _, rfl, by simp, by simp⟩
    (by
      rintro pre x suf ρ hl2 ⟨L, a, rfl, hL1, hL2⟩
      obtain ⟨hx, hx2, hx3⟩ := range_pre hl2
      obtain ⟨c0, i0⟩ := idx_modI (f := true) (l := cs) (a := (x : Int) + bY) hp
      have mm := op_mod_i (i := (x : Int) + bY) (j := (cs.length : Int)) (by omega)
      have m2 := mul_l (i := 2) (j := (bY : Int)) (by decide) (by decide)
      obtain ⟨r0, g0⟩ := h11 c0 ((x : Int) + 2 * bY) whole (by omega) (by omega)
      have dd := op_div_i (i := r0) (j := 3) (by decide) (by decide)
      generalize r0 / 3 = num at *
      have q1 := op_mod_i (i := num) (j := 2) (by decide)
      generalize num % 2 = z at *
      have lL : L.length < cap := cap15 (by
        have h1 : L.Nodup := hL1.imp (fun h => Nat.ne_of_lt h)
        have h2 := h1.length_le_of_subset (l₂ := pre) hL2
        omega)
      have ap := fun ρ => appS_map (enc := iN) (l := L) (x := 5) (ρ := ρ) (v := x) lL
      by_cases hz : z = 0
      · refine ⟨_, ?_, L ++ [x], .val (iN x), rfl, ?_, ?_⟩
        · simp -implicitDefEqProofs [iN_eq] at ap
          simp -implicitDefEqProofs [loopF, webD, iN_eq, mm, m2, i0, g0, dd, q1, faith_int.eqD, hz, ap]
        · rw [List.pairwise_append]
          exact ⟨hL1, by simp, by intro a ha b hb; simp at hb; rw [hb]; exact hx3 a (hL2 a ha)⟩
        · intro c hc
          rcases List.mem_append.mp hc with h | h
          · exact List.mem_append_left _ (hL2 c h)
          · exact List.mem_append_right _ h
      · refine ⟨_, ?_, L, .val (iN x), rfl, hL1, fun c hc => List.mem_append_left _ (hL2 c hc)⟩
        simp -implicitDefEqProofs [loopF, webD, iN_eq, mm, m2, i0, g0, dd, q1, faith_int.eqD, hz])
  subst e2
  refine ⟨L, ⟨fun c hc => List.mem_range.mp (hL2 c hc), hL1⟩, ?_⟩
  have mk1 : mkL [] = .ok (.lst true []) := ml_ok (cap14 (by decide))
  simp -implicitDefEqProofs [webD, iN_eq] at e r1
  simp -implicitDefEqProofs [-bi_abs, runB_eq, b_law_drawn, natsD, webD, iN_eq, e0, sum_ints, bi_absN, hw, mk1, r1, e]
theorem m_law_wishes (h11 : ∀ c t w : Int, 0 ≤ t → t < 1000000 → ∃ r, Γ 11 [.int c, .int t, .int w] = .ok (.int r)) {ns : List Int} (hs : ns.length ≤ 63) {bY : Nat} (hb : bY ≤ 1000) {n ts} (W : Web n ts) (f : Bool)
    (h13 : ∀ ch, Ch ts.length ch → Γ 13 [webD false n ts, natsD false ch] = .ok (natsD true (cnts n ts ch))) (h14 : ∃ ch, Ch ts.length ch ∧ Γ 14 [.scr ns, iN (bY + 3), webD false n ts] = .ok (natsD true ch)) :
    ∃ ws, Wish n ws ∧ runB Γ 11 b_law_wishes [.scr ns, iN bY, webD f n ts] = .ok (tiesD true ws) := by
  obtain ⟨ch, hch, h14⟩ := h14
  have h13 := h13 ch hch
  have hp := cells_pos 4 ns
  have e0 := fun r => ev_cells (Γ := Γ) (k := 4) (r := r) hs
  generalize hcs : cells 4 ns = cs at *
  have whole0 : 0 ≤ (cs.sum.natAbs : Int) + bY := by omega
  generalize hw : (cs.sum.natAbs : Int) + bY = whole at *
  have hn := W.most
  have hn1 := W.one
  have r1 := rng_nat (n := n) (cap14 (by omega))
  have due14 : ∀ p, cnt ts ch p ≤ 14 := fun p => Nat.le_trans (cnt_le ts ch p) (by
    have h1 : ch.Nodup := hch.rise.imp (fun h => Nat.ne_of_lt h)
    have h2 := h1.length_le_of_subset (l₂ := List.range ts.length) (fun c hc => List.mem_range.mpr (hch.lt c hc))
    have := W.ties
    simp at h2; omega)
  have w3 := op_mod_i (i := whole) (j := 3) (by decide)
  have w4 := op_div_i (i := whole) (j := 3) (by decide) (by decide)
  have w5 := op_mod_i (i := whole / 3) (j := 3) (by decide)
  generalize whole % 3 = u at *
  generalize whole / 3 % 3 = v at *
  obtain ⟨ρ', e, L, a, b, c, d, e2, hL1, hL2⟩ := forR_pre (enc := iN) (f := loopF Γ (.nm 7) 
 (.seq (.set 8 (.bin .fdiv (.call 11 (.cons (.idx (.var 3) (.bin .mod (.bin .add (.var 7) (.var 1)) (.bi .len (.cons (.var 3) .nil)))) (.cons (.bin .add (.var 7) (.bin .mul (.int 3) (.var 1))) (.cons (.var 4) .nil)))) (.int 3)))
 (.seq (.set 9 (.ite (.cmp (.bin .mod (.var 4) (.int 3)) (.ccons .lt (.int 2) .cnil)) (.idx (.var 6) (.var 7)) (.bin .mod (.var 8) (.int 4))))
 (.seq (.set 10 (.ite (.cmp (.bin .mod (.bin .fdiv (.var 4) (.int 3)) (.int 3)) (.ccons .eq (.int 0) .cnil)) (.bin .mod (.bin .fdiv (.var 8) (.int 5)) (.int 3)) (.int 0)))
 (.seq (.ite (.and (.cons (.cmp (.bin .mod (.var 4) (.int 3)) (.ccons .eq (.int 1) .cnil)) (.cons (.cmp (.bin .mod (.bin .fdiv (.var 8) (.int 11)) (.idx (.var 2) (.int 0))) (.ccons .eq (.int 0) .cnil)) .nil)))
 (.seq (.set 9 (.bin .add (.var 9) (.int 1)))
 .skip)
 .skip)
 (.seq (.app 5 (.tup (.cons (.var 9) (.cons (.bin .add (.var 9) (.var 10)) .nil))))
 .skip))))))
    (fun pre ρ => ∃ L a b c d, ρ = [.val (.scr ns), .val (iN bY), .val (webD f n ts), .val (.lst true (cs.map D.int)), .val (.int whole), .own (List.map tieD L), .own ((cnts n ts ch).map iN), a, b, c, d] ∧ L.length = pre.length ∧ ∀ w ∈ L, w.1 ≤ w.2 ∧ w.2 ≤ 20)
    (l := List.range n) (ρ := [.val (.scr ns), .val (iN bY), .val (webD f n ts), .val (.lst true (cs.map D.int)), .val (.int whole), .own [], .own ((cnts n ts ch).map iN), .no, .no, .no, .no]) ⟨[], _, _, _, _, rfl, by simp, by simp⟩
    (by
      rintro pre x suf ρ hl2 ⟨L, a, b, c, d, rfl, hL1, hL2⟩
      obtain ⟨hx, hx2, hx3⟩ := range_pre hl2
      obtain ⟨c0, i0⟩ := idx_modI (f := true) (l := cs) (a := (x : Int) + bY) hp
      have mm := op_mod_i (i := (x : Int) + bY) (j := (cs.length : Int)) (by omega)
      have m2 := mul_l (i := 3) (j := (bY : Int)) (by decide) (by decide)
      obtain ⟨r0, g0⟩ := h11 c0 ((x : Int) + 3 * bY) whole (by omega) (by omega)
      have dd := op_div_i (i := r0) (j := 3) (by decide) (by decide)
      generalize r0 / 3 = num at *
      have i1 := idx_map (enc := iN) (f := true) (l := cnts n ts ch) (i := x) (by rw [cnts_length]; exact hx)
      have i2 : (cnts n ts ch)[x]'(by rw [cnts_length]; exact hx) = cnt ts ch x := by simp [cnts]
      rw [i2] at i1
      have o1 := op_mod_i (i := num) (j := 4) (by decide)
      have o2 := op_div_i (i := num) (j := 5) (by decide) (by decide)
      have o3 := op_mod_i (i := num / 5) (j := 3) (by decide)
      have o4 := op_div_i (i := num) (j := 11) (by decide) (by decide)
      have o5 := op_mod_i (i := num / 11) (j := (n : Int)) (by omega)
      have low : ∃ lw : Nat, lw ≤ 15 ∧ (if u < 2 then R.ok (D.int (cnt ts ch x : Nat)) else R.ok (.int (num % 4))) = .ok (.int (lw : Int)) := by
        split
        · exact ⟨_, Nat.le_trans (due14 x) (by decide), rfl⟩
        · exact ⟨(num % 4).toNat, by omega, by rw [Int.toNat_of_nonneg (Int.emod_nonneg _ (by decide))]⟩
      have wid : ∃ wd : Nat, wd ≤ 2 ∧ (if v = 0 then R.ok (D.int (num / 5 % 3)) else R.ok (.int 0)) = .ok (.int (wd : Int)) := by
        split
        · exact ⟨(num / 5 % 3).toNat, by omega, by rw [Int.toNat_of_nonneg (Int.emod_nonneg _ (by decide))]⟩
        · exact ⟨0, by omega, rfl⟩
      obtain ⟨lw, hlw, elw⟩ := low
      obtain ⟨wd, hwd, ewd⟩ := wid
      have l2 : 2 ≤ cap := cap14 (by decide)
      have lL : L.length < cap := cap15 (by rw [hL1]; omega)
      have ap := fun (a b : Nat) ρ => appS_map (enc := tieD) (l := L) (x := 5) (ρ := ρ) (v := (a, b)) lL
      simp -implicitDefEqProofs [iN_eq, tieD] at ap i1
      have last : ∀ lw' : Nat, lw' ≤ 16 → ∀ w ∈ L ++ [(lw', lw' + wd)], w.1 ≤ w.2 ∧ w.2 ≤ 20 := by
        intro lw' hlw' w hw
        rcases List.mem_append.mp hw with h | h
        · exact hL2 w h
        · simp at h; subst h; simp only; omega
      by_cases q : u = 1
      · have q := eq_true q
        by_cases q' : num / 11 % (n : Int) = 0
        · refine ⟨_, ?_, L ++ [(lw + 1, lw + 1 + wd)], .val (iN x), .val (.int num), .val (iN (lw + 1)), .val (iN wd), rfl, by simp [hL1], last _ (by omega)⟩
          have ap := ap (lw + 1) (lw + 1 + wd)
          simp -implicitDefEqProofs [] at ap
          simp -implicitDefEqProofs [loopF, webD, iN_eq, mm, m2, i0, g0, dd, w3, w4, w5, i1, o1, o2, o3, o4, o5, faith_int.eqD, elw, ewd, q, q', l2, ap, tieD]
        · refine ⟨_, ?_, L ++ [(lw, lw + wd)], .val (iN x), .val (.int num), .val (iN lw), .val (iN wd), rfl, by simp [hL1], last _ (by omega)⟩
          have ap := ap lw (lw + wd)
          simp -implicitDefEqProofs [] at ap
          simp -implicitDefEqProofs [loopF, webD, iN_eq, mm, m2, i0, g0, dd, w3, w4, w5, i1, o1, o2, o3, o4, o5, faith_int.eqD, elw, ewd, q, q', l2, ap, tieD]
      · refine ⟨_, ?_, L ++ [(lw, lw + wd)], .val (iN x), .val (.int num), .val (iN lw), .val (iN wd), rfl, by simp [hL1], last _ (by omega)⟩
        have ap := ap lw (lw + wd)
        simp -implicitDefEqProofs [] at ap
        simp -implicitDefEqProofs [loopF, webD, iN_eq, mm, m2, i0, g0, dd, w3, w4, w5, i1, o1, o2, o3, o4, o5, faith_int.eqD, elw, ewd, q, l2, ap, tieD])
  subst e2
  have hL1 : L.length = n := by simpa using hL1
  refine ⟨L, ⟨hL1, hL2⟩, ?_⟩
  have mk1 : mkL [] = .ok (.lst true []) := ml_ok (cap14 (by decide))
  simp -implicitDefEqProofs [webD, iN_eq, natsD] at e r1 h14 h13
  simp -implicitDefEqProofs [-bi_abs, runB_eq, b_law_wishes, natsD, tiesD, webD, iN_eq, e0, sum_ints, bi_absN, hw, mk1, r1, h14, h13, e]
end
end Wt
/-! ## The defs of a table, calls as deep as they go -/
namespace Wt
open PySem L2
section
variable {tab : Nat → Option Fd} (n : Nat)
theorem s_is_whole (t0 : tab 0 = some fd_is_whole) (i : Int) : mean tab (n + 1) 0 [.int i] = .ok (.bl true) := (mean_succ t0 rfl).trans (m_is_whole i)
theorem s_is_pair (t0 : tab 0 = some fd_is_whole) (t1 : tab 1 = some fd_is_pair) (a b : Int) : mean tab (n + 2) 1 [.tup [.int a, .int b]] = .ok (.bl true) := (mean_succ t1 rfl).trans (m_is_pair (s_is_whole n t0) a b)
theorem s_asked_web (t0 : tab 0 = some fd_is_whole) (t1 : tab 1 = some fd_is_pair) (t2 : tab 2 = some fd_asked_web) {m ts} (W : Web m ts) (f : Bool) : mean tab (n + 3) 2 [webD f m ts] = .ok .non :=
  (mean_succ t2 rfl).trans (m_asked_web (s_is_whole (n + 1) t0) (s_is_pair n t0 t1) W f)
theorem s_asked_wishes (t0 : tab 0 = some fd_is_whole) (t1 : tab 1 = some fd_is_pair) (t3 : tab 3 = some fd_asked_wishes) {m ts ws} (hm : m ≤ 8) (W : Wish m ws) (f g : Bool) : mean tab (n + 3) 3 [webD f m ts, tiesD g ws] = .ok .non :=
  (mean_succ t3 rfl).trans (m_asked_wishes (s_is_pair n t0 t1) hm W f g)
theorem s_is_rising (t0 : tab 0 = some fd_is_whole) (t4 : tab 4 = some fd_is_rising) {m ch} (hl : ch.length ≤ 100000) (C : Ch m ch) (f : Bool) : mean tab (n + 2) 4 [natsD f ch, iN m] = .ok (.bl true) :=
  (mean_succ t4 rfl).trans (m_is_rising (s_is_whole n t0) hl C f)
theorem s_asked_ties (t0 : tab 0 = some fd_is_whole) (t4 : tab 4 = some fd_is_rising) (t5 : tab 5 = some fd_asked_ties) {m ts ch} (hl : ch.length ≤ 100000) (C : Ch ts.length ch) (f g : Bool) : mean tab (n + 3) 5 [webD f m ts, natsD g ch] = .ok .non :=
  (mean_succ t5 rfl).trans (m_asked_ties (s_is_rising n t0 t4 hl C false) f g)
theorem s_counts_of (t6 : tab 6 = some fd_counts_of) {m ts ch} (hm : m ≤ 8) (ht : ∀ t ∈ ts, t.1 < t.2 ∧ t.2 < m) (hc : ∀ c ∈ ch, c < ts.length) (f g : Bool) : mean tab (n + 1) 6 [webD f m ts, natsD g ch] = .ok (natsD true (cnts m ts ch)) :=
  (mean_succ t6 rfl).trans (m_counts_of hm ht hc f g)
theorem s_counts (t0 : tab 0 = some fd_is_whole) (t1 : tab 1 = some fd_is_pair) (t2 : tab 2 = some fd_asked_web) (t4 : tab 4 = some fd_is_rising) (t5 : tab 5 = some fd_asked_ties) (t6 : tab 6 = some fd_counts_of) (t7 : tab 7 = some fd_counts)
    {m ts ch} (W : Web m ts) (hl : ch.length ≤ 100000) (C : Ch ts.length ch) (f g : Bool) : mean tab (n + 4) 7 [webD f m ts, natsD g ch] = .ok (natsD true (cnts m ts ch)) :=
  (mean_succ t7 rfl).trans (m_counts (s_asked_web n t0 t1 t2 W false) (s_asked_ties n t0 t4 t5 hl C false false) (s_counts_of (n + 2) t6 W.most W.ok C.lt false false) f g)
theorem s_is_right (t6 : tab 6 = some fd_counts_of) (t8 : tab 8 = some fd_is_right) {m ts ws ch} (hm : m ≤ 8) (ht : ∀ t ∈ ts, t.1 < t.2 ∧ t.2 < m) (hc : ∀ c ∈ ch, c < ts.length) (hw : ws.length ≤ 100000) (f g h : Bool) : mean tab (n + 2) 8 [webD f m ts, tiesD h ws, natsD g ch] = .ok (.bl (rightB m ts ws ch)) :=
  (mean_succ t8 rfl).trans (m_is_right hw (s_counts_of n t6 hm ht hc false false) f g h)
theorem s_right (t0 : tab 0 = some fd_is_whole) (t1 : tab 1 = some fd_is_pair) (t2 : tab 2 = some fd_asked_web) (t3 : tab 3 = some fd_asked_wishes) (t4 : tab 4 = some fd_is_rising) (t5 : tab 5 = some fd_asked_ties) (t6 : tab 6 = some fd_counts_of) (t8 : tab 8 = some fd_is_right) (t9 : tab 9 = some fd_right)
    {m ts ws ch} (W : Web m ts) (Wi : Wish m ws) (hl : ch.length ≤ 100000) (C : Ch ts.length ch) (f g h : Bool) : mean tab (n + 4) 9 [webD f m ts, tiesD h ws, natsD g ch] = .ok (.bl (rightB m ts ws ch)) :=
  (mean_succ t9 rfl).trans (m_right (s_asked_web n t0 t1 t2 W false) (s_asked_wishes n t0 t1 t3 W.most Wi false false) (s_asked_ties n t0 t4 t5 hl C false false) (s_is_right (n + 1) t6 t8 W.most W.ok C.lt (by rw [Wi.len]; have := W.most; omega) false false false) f g h)
theorem s_rest (t0 : tab 0 = some fd_is_whole) (t1 : tab 1 = some fd_is_pair) (t2 : tab 2 = some fd_asked_web) (t4 : tab 4 = some fd_is_rising) (t5 : tab 5 = some fd_asked_ties) (t10 : tab 10 = some fd_rest)
    {m ts ch} (W : Web m ts) (hl : ch.length ≤ 100000) (C : Ch ts.length ch) (f g : Bool) : mean tab (n + 4) 10 [webD f m ts, natsD g ch] = .ok (natsD true (restL ts.length ch)) :=
  (mean_succ t10 rfl).trans (m_rest (by have := W.ties; omega) (s_asked_web n t0 t1 t2 W false) (s_asked_ties n t0 t4 t5 hl C false false) f g)
theorem s_law_number (t11 : tab 11 = some fd_law_number) (c t w : Int) (h1 : 0 ≤ t) (h2 : t < 1000000) : ∃ r, mean tab (n + 1) 11 [.int c, .int t, .int w] = .ok (.int r) := by
  obtain ⟨r, e⟩ := m_law_number (Γ := mean tab n) c t w h1 h2
  exact ⟨r, (mean_succ t11 rfl).trans e⟩
theorem s_law_web (t11 : tab 11 = some fd_law_number) {k : Nat} (t12 : tab k = some fd_law_web) {ns : List Int} (hs : ns.length ≤ 63) (bY places ties : Nat) (hb : bY ≤ 1000) (hp : 2 ≤ places) (hp8 : places ≤ 8) (ht : ties ≤ 14) :
    ∃ m ts, Web m ts ∧ 2 ≤ m ∧ m ≤ places ∧ ts.length ≤ ties ∧ mean tab (n + 2) k [.scr ns, iN bY, iN places, iN ties] = .ok (webD true m ts) := by
  obtain ⟨m, ts, a, b, c, d, e⟩ := m_law_web (s_law_number n t11) hs hb hp hp8 ht
  exact ⟨m, ts, a, b, c, d, (mean_succ t12 rfl).trans e⟩
theorem s_law_counts (t13 : tab 13 = some fd_law_counts) {m ts ch} (hm : m ≤ 8) (hc : ∀ c ∈ ch, c < ts.length) (hl : ch.length ≤ 100000) (f g : Bool) : mean tab (n + 1) 13 [webD f m ts, natsD g ch] = .ok (natsD true (cnts m ts ch)) :=
  (mean_succ t13 rfl).trans (m_law_counts hm hc hl f g)
theorem s_law_drawn (t11 : tab 11 = some fd_law_number) (t14 : tab 14 = some fd_law_drawn) {ns : List Int} (hs : ns.length ≤ 63) {bY : Nat} (hb : bY ≤ 1000) {m ts} (hl : ts.length ≤ 1000) (f : Bool) :
    ∃ ch, Ch ts.length ch ∧ mean tab (n + 2) 14 [.scr ns, iN bY, webD f m ts] = .ok (natsD true ch) := by
  obtain ⟨ch, a, e⟩ := m_law_drawn (s_law_number n t11) hs hb (n := m) hl f
  exact ⟨ch, a, (mean_succ t14 rfl).trans e⟩
theorem Ch.len {m : Nat} {ch : List Nat} (C : Ch m ch) : ch.length ≤ m := by
  have h1 : ch.Nodup := C.rise.imp (fun h => Nat.ne_of_lt h)
  have h2 := h1.length_le_of_subset (l₂ := List.range m) (fun c hc => List.mem_range.mpr (C.lt c hc))
  simpa using h2
theorem s_law_wishes (t11 : tab 11 = some fd_law_number) (t13 : tab 13 = some fd_law_counts) (t14 : tab 14 = some fd_law_drawn) {k : Nat} (t15 : tab k = some fd_law_wishes) {ns : List Int} (hs : ns.length ≤ 63) {bY : Nat} (hb : bY ≤ 900) {m ts} (W : Web m ts) (f : Bool) :
    ∃ ws, Wish m ws ∧ mean tab (n + 3) k [.scr ns, iN bY, webD f m ts] = .ok (tiesD true ws) := by
  obtain ⟨ws, a, e⟩ := m_law_wishes (s_law_number (n + 1) t11) hs (bY := bY) (by omega) W f (fun ch C => s_law_counts (n + 1) t13 W.most C.lt (by have := C.len; have := W.ties; omega) false false)
    (s_law_drawn n t11 t14 hs (bY := bY + 3) (by omega) (by have := W.ties; omega) false)
  exact ⟨ws, a, (mean_succ t15 rfl).trans e⟩
theorem s_law_copied (t16 : tab 16 = some fd_law_copied) {m ts} (hl : ts.length ≤ 100000) (f : Bool) : mean tab (n + 1) 16 [webD f m ts] = .ok (webD true m ts) := (mean_succ t16 rfl).trans (m_law_copied hl f)
theorem s_law_right (t13 : tab 13 = some fd_law_counts) (t17 : tab 17 = some fd_law_right) {m ts ws ch} (hm : m ≤ 8) (hc : ∀ c ∈ ch, c < ts.length) (hl : ch.length ≤ 100000) (hw : ws.length ≤ 100000) (f g h : Bool) : mean tab (n + 2) 17 [webD f m ts, tiesD h ws, natsD g ch] = .ok (.bl (rightB m ts ws ch)) :=
  (mean_succ t17 rfl).trans (m_law_right hw (s_law_counts n t13 hm hc hl false false) f g h)
end
end Wt
/-! ## All right choices, in plain words -/
namespace Wt
open PySem L2
/-! ### lists of numbers in order -/
def lexN : List Nat → List Nat → Bool
  | [], [] => false
  | [], _ :: _ => true
  | _ :: _, [] => false
  | x :: xs, y :: ys => if x = y then lexN xs ys else decide (x < y)
theorem lexN_irrefl : ∀ a, lexN a a = false
  | [] => rfl
  | x :: xs => by simp [lexN, lexN_irrefl xs]
theorem lexN_tri : ∀ a b, a = b ∨ lexN a b = true ∨ lexN b a = true
  | [], [] => .inl rfl
  | [], _ :: _ => .inr (.inl rfl)
  | _ :: _, [] => .inr (.inr rfl)
  | x :: xs, y :: ys => by
    by_cases h : x = y
    · subst h
      rcases lexN_tri xs ys with h | h | h
      · exact .inl (by rw [h])
      · exact .inr (.inl (by simp [lexN, h]))
      · exact .inr (.inr (by simp [lexN, h]))
    · have h' : ¬ y = x := fun z => h z.symm
      rcases Nat.lt_or_gt_of_ne h with k | k
      · exact .inr (.inl (by simp [lexN, h, k]))
      · exact .inr (.inr (by simp [lexN, h', k]))
theorem lexN_asymm : ∀ a b, lexN a b = true → lexN b a = false
  | [], [], h => by simp [lexN] at h
  | [], _ :: _, _ => rfl
  | _ :: _, [], h => by simp [lexN] at h
  | x :: xs, y :: ys, h => by
    by_cases e : x = y
    · subst e
      simp [lexN] at h ⊢
      exact lexN_asymm xs ys h
    · have e' : ¬ y = x := fun z => e z.symm
      simp [lexN, e] at h
      simp [lexN, e']
      omega
theorem lexN_trans : ∀ a b c, lexN a b = true → lexN b c = true → lexN a c = true
  | [], [], _, h, _ => by simp [lexN] at h
  | [], _ :: _, [], _, k => by simp [lexN] at k
  | [], _ :: _, _ :: _, _, _ => rfl
  | _ :: _, [], _, h, _ => by simp [lexN] at h
  | _ :: _, _ :: _, [], _, k => by simp [lexN] at k
  | x :: xs, y :: ys, z :: zs, h, k => by
    by_cases e : x = y
    · subst e
      by_cases e2 : x = z
      · subst e2
        simp [lexN] at h k ⊢
        exact lexN_trans xs ys zs h k
      · simp [lexN, e2] at k ⊢
        exact k
    · simp [lexN, e] at h
      by_cases e2 : y = z
      · subst e2
        simp [lexN, e]
        exact h
      · simp [lexN, e2] at k
        have : ¬ x = z := by omega
        simp [lexN, this]
        omega
def leN (a b : List Nat) : Bool := !lexN b a
theorem leN_total (a b : List Nat) : (leN a b || leN b a) = true := by
  unfold leN
  rcases lexN_tri a b with h | h | h
  · subst h; simp [lexN_irrefl]
  · simp [lexN_asymm a b h]
  · simp [lexN_asymm b a h]
theorem leN_trans (a b c : List Nat) (h : leN a b = true) (k : leN b c = true) : leN a c = true := by
  unfold leN at *
  simp only [Bool.not_eq_true'] at *
  rcases lexN_tri a b with e | e | e
  · subst e; exact k
  · rcases lexN_tri b c with e2 | e2 | e2
    · subst e2; exact h
    · exact lexN_asymm _ _ (lexN_trans _ _ _ e e2)
    · rw [k] at e2; cases e2
  · rw [h] at e; cases e
theorem leN_anti (a b : List Nat) (h : leN a b = true) (k : leN b a = true) : a = b := by
  unfold leN at *
  simp only [Bool.not_eq_true'] at *
  rcases lexN_tri a b with e | e | e
  · exact e
  · rw [k] at e; cases e
  · rw [h] at e; cases e
theorem sorted_uniq : ∀ {l m : List (List Nat)}, l.Pairwise (fun a b => leN a b = true) → m.Pairwise (fun a b => leN a b = true) → l.Perm m → l = m
  | [], m, _, _, p => by simpa using p.symm.eq_nil.symm
  | x :: l, [], _, _, p => absurd p.length_eq (by simp)
  | x :: l, y :: m, hl, hm, p => by
    rw [List.pairwise_cons] at hl hm
    have e : x = y := by
      have h1 : x ∈ y :: m := p.mem_iff.mp List.mem_cons_self
      have h2 : y ∈ x :: l := p.mem_iff.mpr List.mem_cons_self
      rcases List.mem_cons.mp h1 with h1 | h1
      · exact h1
      · rcases List.mem_cons.mp h2 with h2 | h2
        · exact h2.symm
        · exact leN_anti _ _ (hl.1 y h2) (hm.1 x h1)
    subst e
    rw [sorted_uniq hl.2 hm.2 p.cons_inv]
theorem sort_perm {l m : List (List Nat)} (p : l.Perm m) : l.mergeSort leN = m.mergeSort leN := by
  refine sorted_uniq ?_ ?_ ((List.mergeSort_perm l leN).trans (p.trans (List.mergeSort_perm m leN).symm))
  · exact List.pairwise_mergeSort leN_trans leN_total l
  · exact List.pairwise_mergeSort leN_trans leN_total m
theorem py_nats (f : Bool) (a : List Nat) : (natsD f a).py = .list (a.map fun i : Nat => PyData.int (i : Int)) := by
  simp only [natsD, D.py, pys_eq, List.map_map]
  congr 1
theorem lt_nats : ∀ (a b : List Nat), PyProof.Rows.lexLt PyProof.Rows.itemOrd (PySem.W.keyToksAll (a.map fun i : Nat => PyData.int (i : Int))) (PySem.W.keyToksAll (b.map fun i : Nat => PyData.int (i : Int))) = lexN a b
  | [], [] => PyProof.Rows.lex_irrefl _
  | [], y :: ys => by
    simp only [List.map_nil, List.map_cons, lexN]
    rfl
  | x :: xs, [] => by
    simp only [List.map_nil, List.map_cons, lexN]
    rfl
  | x :: xs, y :: ys => by
    simp only [List.map_cons, lexN]
    rw [PySem.W.dataLt_cons (by simp [PySem.W.alike]), lt_nats xs ys, PySem.W.dataLt_int]
    by_cases h : x = y
    · subst h; simp [PyData.eqv]
    · have : ¬ ((x : Int) = y) := by omega
      simp [PyData.eqv, this, h]
theorem le_nats (f g : Bool) : ∀ a b : List Nat, PySem.W.dataLe false D.py (natsD f a) (natsD g b) = leN a b := by
  intro a b
  rw [PySem.W.dataLe_eq]
  simp only [cond_false, py_nats, PySem.W.dataLt_list, lt_nats]
  rfl
theorem sort_nats (l : List (List Nat)) : (l.map (natsD true)).mergeSort (PySem.W.dataLe false D.py) = (l.mergeSort leN).map (natsD true) := by
  rw [List.map_mergeSort]
  intro a _ b _
  exact (le_nats true true a b).symm
theorem kind_nats (l : List (List Nat)) : oneKind 1 (l.map (natsD true)) = true := by
  unfold oneKind
  rw [List.all_map, List.all_eq_true]
  intro a _
  have : intsD (a.map iN) = some (a.map fun i : Nat => (i : Int)) := intsD_map (fun i : Nat => (i : Int)) a
  simp [natsD, D.key, this, Ky.kind]
theorem sorted_nats {l : List (List Nat)} (h : l.length ≤ cap) : sortedD (l.map (natsD true)) = .ok (.lst true ((l.mergeSort leN).map (natsD true))) := by
  unfold sortedD
  rw [if_pos (by simpa using h)]
  split
  · rename_i q
    cases l with
    | nil => simp [sortD]
    | cons a l =>
      exfalso
      simp [oneKind, natsD, D.key] at q
      have : intsD (a.map iN) = some (a.map fun i : Nat => (i : Int)) := intsD_map (fun i : Nat => (i : Int)) a
      rw [this] at q
      simp [Ky.kind] at q
  · rw [if_pos (by rw [kind_nats, Bool.true_or]), sort_nats]
end Wt
namespace Wt
open PySem L2
/-- all choices among so many ties -/
def subs : Nat → List (List Nat)
  | 0 => [[]]
  | k + 1 => subs k ++ (subs k).map (· ++ [k])
theorem Ch.nil {m : Nat} : Ch m [] := ⟨by simp, .nil⟩
theorem Ch.up {m : Nat} {c : List Nat} (C : Ch m c) : Ch (m + 1) c := ⟨fun a h => Nat.lt_succ_of_lt (C.lt a h), C.rise⟩
theorem Ch.snoc {m : Nat} {c : List Nat} (C : Ch m c) : Ch (m + 1) (c ++ [m]) := by
  refine ⟨fun a h => ?_, ?_⟩
  · rcases List.mem_append.mp h with h | h
    · exact Nat.lt_succ_of_lt (C.lt a h)
    · simp at h; omega
  · rw [List.pairwise_append]
    exact ⟨C.rise, by simp, fun a ha b hb => by simp at hb; rw [hb]; exact C.lt a ha⟩
theorem Ch.nodup {m : Nat} {c : List Nat} (C : Ch m c) : c.Nodup := C.rise.imp fun h => Nat.ne_of_lt h
theorem Ch.below {m k : Nat} {c : List Nat} (C : Ch m c) : Ch k (c.filter (· < k)) := ⟨fun a h => by simpa using (List.mem_filter.mp h).2, C.rise.filter _⟩
theorem rise_eq : ∀ {a b : List Nat}, a.Pairwise (· < ·) → b.Pairwise (· < ·) → (∀ x, x ∈ a ↔ x ∈ b) → a = b
  | [], [], _, _, _ => rfl
  | [], y :: b, _, _, h => by have := (h y).mpr List.mem_cons_self; simp at this
  | x :: a, [], _, _, h => by have := (h x).mp List.mem_cons_self; simp at this
  | x :: a, y :: b, ha, hb, h => by
    rw [List.pairwise_cons] at ha hb
    have e : x = y := by
      rcases List.mem_cons.mp ((h x).mp List.mem_cons_self) with h1 | h1
      · exact h1
      · rcases List.mem_cons.mp ((h y).mpr List.mem_cons_self) with h2 | h2
        · exact h2.symm
        · have := hb.1 x h1; have := ha.1 y h2; omega
    subst e
    congr 1
    refine rise_eq ha.2 hb.2 fun z => ⟨fun hz => ?_, fun hz => ?_⟩
    · rcases List.mem_cons.mp ((h z).mp (List.mem_cons_of_mem _ hz)) with e | e
      · subst e; exact absurd (ha.1 z hz) (Nat.lt_irrefl _)
      · exact e
    · rcases List.mem_cons.mp ((h z).mpr (List.mem_cons_of_mem _ hz)) with e | e
      · subst e; exact absurd (hb.1 z hz) (Nat.lt_irrefl _)
      · exact e
/-- a choice of k + 1 ties: with the last one, or without -/
theorem Ch.split {k : Nat} {c : List Nat} (C : Ch (k + 1) c) : (Ch k c) ∨ (Ch k (c.filter (· < k)) ∧ c = c.filter (· < k) ++ [k]) := by
  by_cases h : k ∈ c
  · refine .inr ⟨C.below, rise_eq C.rise (C.below (k := k)).snoc.rise fun x => ?_⟩
    rw [List.mem_append, List.mem_filter, List.mem_singleton, decide_eq_true_eq]
    constructor
    · intro hx
      have := C.lt x hx
      rcases Nat.lt_or_ge x k with q | q
      · exact .inl ⟨hx, q⟩
      · exact .inr (by omega)
    · rintro (⟨hx, _⟩ | rfl)
      · exact hx
      · exact h
  · refine .inl ⟨fun a ha => ?_, C.rise⟩
    have := C.lt a ha
    have : a ≠ k := fun z => h (z ▸ ha)
    omega
theorem below_succ {m k : Nat} {d : List Nat} (D : Ch m d) : d.filter (· < k + 1) = if k ∈ d then d.filter (· < k) ++ [k] else d.filter (· < k) := by
  refine rise_eq (D.rise.filter _) (by split; exact (D.below (k := k)).snoc.rise; exact D.rise.filter _) fun x => ?_
  split
  · rename_i h
    simp only [List.mem_filter, List.mem_append, List.mem_singleton, decide_eq_true_eq]
    constructor
    · rintro ⟨hx, hk⟩
      rcases Nat.lt_or_ge x k with q | q
      · exact .inl ⟨hx, q⟩
      · exact .inr (by omega)
    · rintro (⟨hx, q⟩ | rfl)
      · exact ⟨hx, by omega⟩
      · exact ⟨h, by omega⟩
  · rename_i h
    simp only [List.mem_filter, decide_eq_true_eq]
    constructor
    · rintro ⟨hx, hk⟩
      have : x ≠ k := fun z => h (z ▸ hx)
      exact ⟨hx, by omega⟩
    · rintro ⟨hx, hk⟩
      exact ⟨hx, by omega⟩
theorem mem_subs : ∀ {m : Nat} {c : List Nat}, c ∈ subs m ↔ Ch m c
  | 0, c => by
    simp only [subs, List.mem_singleton]
    constructor
    · rintro rfl; exact .nil
    · intro C
      cases c with
      | nil => rfl
      | cons a c => exact absurd (C.lt a List.mem_cons_self) (Nat.not_lt_zero _)
  | k + 1, c => by
    simp only [subs, List.mem_append, List.mem_map]
    constructor
    · rintro (h | ⟨d, h, rfl⟩)
      · exact (mem_subs.mp h).up
      · exact (mem_subs.mp h).snoc
    · intro C
      rcases C.split with h | ⟨h, e⟩
      · exact .inl (mem_subs.mpr h)
      · exact .inr ⟨_, mem_subs.mpr h, e.symm⟩
theorem nodup_subs : ∀ m, (subs m).Nodup
  | 0 => by simp [subs]
  | k + 1 => by
    rw [subs, List.nodup_append]
    refine ⟨nodup_subs k, ?_, ?_⟩
    · have := List.nodup_iff_pairwise_ne.mp (nodup_subs k)
      refine List.nodup_iff_pairwise_ne.mpr (List.pairwise_map.mpr (this.imp fun h z => h (List.append_cancel_right z)))
    · intro a ha b hb e
      obtain ⟨d, hd, rfl⟩ := List.mem_map.mp hb
      have C := mem_subs.mp ha
      have := C.lt k (by rw [e]; simp)
      omega
theorem subs_length : ∀ m, (subs m).length = 2 ^ m
  | 0 => rfl
  | k + 1 => by rw [subs, List.length_append, List.length_map, subs_length k]; omega
def rights (n : Nat) (ts ws : List (Nat × Nat)) : List (List Nat) := ((subs ts.length).filter (rightB n ts ws)).mergeSort leN
theorem mem_rights {n : Nat} {ts ws : List (Nat × Nat)} {c : List Nat} : c ∈ rights n ts ws ↔ Ch ts.length c ∧ rightB n ts ws c = true := by
  unfold rights
  rw [(List.mergeSort_perm _ _).mem_iff, List.mem_filter, mem_subs]
theorem nodup_rights {n : Nat} {ts ws : List (Nat × Nat)} : (rights n ts ws).Nodup := by
  unfold rights
  exact (List.mergeSort_perm _ _).nodup_iff.mpr ((nodup_subs _).filter _)
theorem rights_uniq {n : Nat} {ts ws : List (Nat × Nat)} {L : List (List Nat)} (h1 : L.Nodup) (h2 : ∀ c, c ∈ L ↔ Ch ts.length c ∧ rightB n ts ws c = true) : L.mergeSort leN = rights n ts ws := by
  refine sort_perm ((List.perm_ext_iff_of_nodup h1 ((nodup_subs _).filter _)).mpr fun c => ?_)
  rw [h2, List.mem_filter, mem_subs]
theorem rights_length (n : Nat) (ts ws : List (Nat × Nat)) : (rights n ts ws).length ≤ 2 ^ ts.length := by
  unfold rights
  rw [(List.mergeSort_perm _ _).length_eq, ← subs_length]
  exact List.length_filter_le _ _
/-- each choice, and each with one tie more -/
def grow (k : Nat) : List (List Nat) → List (List Nat)
  | [] => []
  | c :: L => c :: (c ++ [k]) :: grow k L
theorem mem_grow {k : Nat} {z : List Nat} : ∀ {L}, z ∈ grow k L ↔ z ∈ L ∨ ∃ c ∈ L, z = c ++ [k]
  | [] => by simp [grow]
  | c :: L => by
    simp only [grow, List.mem_cons, mem_grow (L := L)]
    constructor
    · rintro (h | h | h | ⟨d, hd, h⟩)
      · exact .inl (.inl h)
      · exact .inr ⟨c, .inl rfl, h⟩
      · exact .inl (.inr h)
      · exact .inr ⟨d, .inr hd, h⟩
    · rintro ((h | h) | ⟨d, rfl | hd, h⟩)
      · exact .inl h
      · exact .inr (.inr (.inl h))
      · exact .inr (.inl h)
      · exact .inr (.inr (.inr ⟨d, hd, h⟩))
theorem nodup_grow {k : Nat} : ∀ {L : List (List Nat)}, L.Nodup → (∀ c ∈ L, k ∉ c) → (grow k L).Nodup
  | [], _, _ => by simp [grow]
  | c :: L, h, hk => by
    rw [List.nodup_cons] at h
    have ih := nodup_grow h.2 fun d hd => hk d (List.mem_cons_of_mem _ hd)
    simp only [grow, List.nodup_cons, List.mem_cons, mem_grow, not_or, not_exists, not_and]
    refine ⟨⟨fun e => ?_, h.1, fun d hd e => ?_⟩, ⟨fun hc => ?_, fun d hd e => ?_⟩, ih⟩
    · exact hk c List.mem_cons_self (by rw [e]; simp)
    · exact hk c List.mem_cons_self (by rw [e]; simp)
    · exact hk _ (List.mem_cons_of_mem _ hc) (by simp)
    · exact h.1 (by rw [List.append_cancel_right e]; exact hd)
theorem grow_length (k : Nat) : ∀ L, (grow k L).length = 2 * L.length
  | [] => rfl
  | c :: L => by simp only [grow, List.length_cons, grow_length k L]; omega
theorem cnt_cons (ts : List (Nat × Nat)) (a : Nat) (l : List Nat) (p : Nat) : cnt ts (a :: l) p = (if touch ts p a = true then 1 else 0) + cnt ts l p := by
  unfold cnt
  by_cases h : touch ts p a = true
  · simp [h]; omega
  · simp [h]
theorem cnt_le_of {ts : List (Nat × Nat)} {a b : List Nat} (h : a.Nodup) (s : ∀ x ∈ a, x ∈ b) (p : Nat) : cnt ts a p ≤ cnt ts b p := by
  unfold cnt
  have hf : (a.filter (touch ts p)).Nodup := h.filter _
  refine hf.length_le_of_subset fun x hx => ?_
  rw [List.mem_filter] at hx ⊢
  exact ⟨s x hx.1, hx.2⟩
theorem cnt_two (ts : List (Nat × Nat)) (f : Nat → Bool) (p : Nat) : ∀ d : List Nat, cnt ts d p = cnt ts (d.filter f) p + cnt ts (d.filter fun x => !f x) p
  | [] => rfl
  | x :: d => by
    rw [cnt_cons, cnt_two ts f p d]
    cases h : f x <;> simp [h, cnt_cons] <;> omega
theorem rightB_iff {n : Nat} {ts ws : List (Nat × Nat)} {c : List Nat} (hw : ws.length = n) : rightB n ts ws c = true ↔ ∀ p < n, (ws.getD p (0, 0)).1 ≤ cnt ts c p ∧ cnt ts c p ≤ (ws.getD p (0, 0)).2 := by
  unfold rightB
  rw [List.all_eq_true]
  constructor
  · intro h p hp
    have hm : (cnt ts c p, ws.getD p (0, 0)) ∈ (cnts n ts c).zip ws := by
      refine List.mem_iff_getElem.mpr ⟨p, by simp [cnts]; omega, ?_⟩
      have : p < ws.length := by omega
      simp [cnts, List.getD, this]
    simpa using h _ hm
  · intro h x hx
    obtain ⟨p, hp, e⟩ := List.mem_iff_getElem.mp hx
    have hp' : p < n := by simp [cnts] at hp; omega
    have : p < ws.length := by omega
    have := h p hp'
    rw [← e]
    simp [cnts, List.getD, hp', hw] at this ⊢
    exact this
/-- whether a place can still have what it wishes -/
def keepB (ws : List (Nat × Nat)) (cn lf : Nat → Nat) (p : Nat) : Bool := decide (cn p ≤ (ws.getD p (0, 0)).2) && decide ((ws.getD p (0, 0)).1 ≤ cn p + lf p)
/-- what a right choice has of the first ties can still become right -/
theorem keep_right {n : Nat} {ts ws : List (Nat × Nat)} {d : List Nat} (hw : ws.length = n) (D : Ch ts.length d) (h : rightB n ts ws d = true) {k p : Nat} (hp : p < n) :
    keepB ws (cnt ts (d.filter (· < k))) (cnt ts (List.range' k (ts.length - k))) p = true := by
  have h1 := (rightB_iff hw).mp h p hp
  have h2 : cnt ts (d.filter (· < k)) p ≤ cnt ts d p := cnt_le_of (D.nodup.filter _) (fun x hx => (List.mem_filter.mp hx).1) p
  have h3 := cnt_two ts (fun x => decide (x < k)) p d
  have h4 : cnt ts (d.filter fun x => !decide (x < k)) p ≤ cnt ts (List.range' k (ts.length - k)) p := cnt_le_of (D.nodup.filter _) (fun x hx => by
    obtain ⟨hx, hk⟩ := List.mem_filter.mp hx
    have := D.lt x hx
    simp at hk
    rw [List.mem_range'_1]
    omega) p
  unfold keepB
  simp only [Bool.and_eq_true, decide_eq_true_eq]
  omega
end Wt
namespace Wt
open PySem L2
section
variable {Γ : Nat → List D → R D}
theorem m_keeps {n : Nat} {ws : List (Nat × Nat)} {cn lf : Nat → Nat} {p : Nat} (hw : ws.length = n) (hp : p < n) (f g h : Bool) :
    runB Γ 4 b_keeps [tiesD f ws, natsD g ((List.range n).map cn), natsD h ((List.range n).map lf), iN p] = .ok (.bl (keepB ws cn lf p)) := by
  have i1 := idx_map (enc := tieD) (f := f) (l := ws) (i := p) (by omega)
  have i2 := idx_map (enc := iN) (f := g) (l := (List.range n).map cn) (i := p) (by simpa using hp)
  have i3 := idx_map (enc := iN) (f := h) (l := (List.range n).map lf) (i := p) (by simpa using hp)
  have e : ws.getD p (0, 0) = ws[p]'(by omega) := by simp [List.getD, hw, hp]
  simp only [List.getElem_map, List.getElem_range] at i2 i3
  generalize hm2 : (List.range n).map cn = l2 at *
  generalize hm3 : (List.range n).map lf = l3 at *
  unfold keepB
  rw [e]
  generalize ws[p]'(by omega) = q at *
  obtain ⟨q1, q2⟩ := q
  simp -implicitDefEqProofs [iN_eq, tieD] at i1 i2 i3
  simp -implicitDefEqProofs [runB_eq, b_keeps, tiesD, natsD, iN_eq, i1, i2, i3]
  by_cases a : cn p ≤ q2 <;> by_cases b : q1 ≤ cn p + lf p
  · have b' : (q1 : Int) ≤ cn p + lf p := by omega
    simp -implicitDefEqProofs [a, b, b']
  · have b' : ¬ ((q1 : Int) ≤ cn p + lf p) := by omega
    simp -implicitDefEqProofs [a, b, b']
  · simp -implicitDefEqProofs [a]
  · simp -implicitDefEqProofs [a]
theorem setS_iN {l : List Nat} {j x v : Nat} {ρ : Rho} (h : j < l.length) : setS (.own (l.map iN)) (.int (j : Int)) ρ x (.int (v : Int)) = some (ρ.set x (.own ((l.set j v).map iN))) := setS_map (enc := iN) (v := v) h
theorem setS_iN1 {l : List Nat} {j x v : Nat} {ρ : Rho} (h : j < l.length) : setS (.own (l.map iN)) (.int (j : Int)) ρ x (.int ((v : Int) + 1)) = some (ρ.set x (.own ((l.set j (v + 1)).map iN))) := setS_map (enc := iN) (v := v + 1) h
theorem cnts_get {n : Nat} {ts : List (Nat × Nat)} {c : List Nat} {p : Nat} (h : p < n) : idxD (.lst true ((cnts n ts c).map iN)) (.int (p : Int)) = .ok (.int (cnt ts c p : Nat)) := by
  have := idx_map (enc := iN) (f := true) (l := cnts n ts c) (i := p) (by rw [cnts_length]; exact h)
  simp only [cnts, List.getElem_map, List.getElem_range] at this
  exact this
theorem touch_at {ts : List (Nat × Nat)} {k : Nat} {a b : Nat} (h : ts[k]? = some (a, b)) (p : Nat) : touch ts p k = (decide (a = p) || decide (b = p)) := by
  unfold touch
  rw [List.getD_eq_getElem?_getD, h]
  rfl
theorem cnts_up {n : Nat} {ts : List (Nat × Nat)} {k a b : Nat} (h : ts[k]? = some (a, b)) (hab : a < b) (hb : b < n) (l : List Nat) : ((cnts n ts l).set a (cnt ts l a + 1)).set b (cnt ts l b + 1) = cnts n ts (l ++ [k]) := by
  unfold cnts
  rw [set_rng, set_rng]
  refine List.map_congr_left fun p _ => ?_
  rw [cnt_snoc, touch_at h]
  by_cases h1 : p = b
  · subst h1; simp
  · by_cases h2 : p = a
    · subst h2; simp [h1]
    · have h1' : ¬ b = p := fun z => h1 z.symm
      have h2' : ¬ a = p := fun z => h2 z.symm
      simp [h1, h2, h1', h2']
theorem cnts_down {n : Nat} {ts : List (Nat × Nat)} {k a b : Nat} (h : ts[k]? = some (a, b)) (hab : a < b) (hb : b < n) (l : List Nat) : ((cnts n ts (k :: l)).set a (cnt ts l a)).set b (cnt ts l b) = cnts n ts l := by
  unfold cnts
  rw [set_rng, set_rng]
  refine List.map_congr_left fun p _ => ?_
  rw [cnt_cons, touch_at h]
  by_cases h1 : p = b
  · subst h1; simp
  · by_cases h2 : p = a
    · subst h2; simp [h1]
    · have h1' : ¬ b = p := fun z => h1 z.symm
      have h2' : ¬ a = p := fun z => h2 z.symm
      simp [h1, h2, h1', h2']
def pairE (n : Nat) (ts : List (Nat × Nat)) (c : List Nat) : D := .tup [natsD true c, natsD true (cnts n ts c)]
def b25_first : S := (.seq (.seti2 2 (.var 3) (.var 4) (.bin .add (.idx (.var 2) (.var 3)) (.int 1)) (.bin .add (.idx (.var 2) (.var 4)) (.int 1)))
 .skip)
theorem ar_first {n : Nat} {ts : List (Nat × Nat)} (hb : ∀ t ∈ ts, t.1 < t.2 ∧ t.2 < n) (s0 s1 : Sl) :
    ∃ a b, forR (loopF Γ (.tp (.cons (.nm 3) (.cons (.nm 4) .nil))) b25_first) (ts.map tieD) [s0, s1, .own ((cnts n ts []).map iN), .no, .no, .no, .no, .no, .no, .no, .no, .no, .no, .no]
      = .nx [s0, s1, .own ((cnts n ts (List.range ts.length)).map iN), a, b, .no, .no, .no, .no, .no, .no, .no, .no, .no] := by
  obtain ⟨ρ', e, a, b, e2⟩ := forR_pre (enc := tieD) (f := loopF Γ (.tp (.cons (.nm 3) (.cons (.nm 4) .nil))) b25_first)
    (fun pre ρ => ∃ a b, ρ = [s0, s1, .own ((cnts n ts (List.range pre.length)).map iN), a, b, .no, .no, .no, .no, .no, .no, .no, .no, .no])
    (l := ts) (ρ := [s0, s1, .own ((cnts n ts []).map iN), .no, .no, .no, .no, .no, .no, .no, .no, .no, .no, .no]) ⟨_, _, rfl⟩ (by
      rintro pre ⟨a, b⟩ suf ρ hl ⟨u, v, rfl⟩
      have hk : ts[pre.length]? = some (a, b) := by rw [hl]; simp
      obtain ⟨h1, h2⟩ := hb (a, b) (by rw [hl]; simp)
      simp only at h1 h2
      have i1 := cnts_get (ts := ts) (c := List.range pre.length) (p := a) (n := n) (by omega)
      have i2 := cnts_get (ts := ts) (c := List.range pre.length) (p := b) (n := n) h2
      have w1 := fun ρ => setS_iN1 (l := cnts n ts (List.range pre.length)) (j := a) (x := 2) (v := cnt ts (List.range pre.length) a) (ρ := ρ) (by rw [cnts_length]; omega)
      have w2 := fun ρ => setS_iN1 (l := (cnts n ts (List.range pre.length)).set a (cnt ts (List.range pre.length) a + 1)) (j := b) (x := 2) (v := cnt ts (List.range pre.length) b) (ρ := ρ) (by rw [List.length_set, cnts_length]; omega)
      rw [cnts_up hk h1 h2] at w2
      refine ⟨_, ?_, .val (iN a), .val (iN b), rfl⟩
      have e : List.range (pre ++ [(a, b)]).length = List.range pre.length ++ [pre.length] := by rw [List.length_append]; exact List.range_succ
      rw [e]
      simp -implicitDefEqProofs [-List.map_set, loopF, b25_first, tieD, iN_eq, i1, i2, w1, w2])
  exact ⟨a, b, by rw [e, e2]⟩
def b25_inner : S := (.seq (.set 10 (.bi .list (.cons (.var 9) .nil)))
 (.seq (.seti2 10 (.var 3) (.var 4) (.bin .add (.idx (.var 10) (.var 3)) (.int 1)) (.bin .add (.idx (.var 10) (.var 4)) (.int 1)))
 (.seq (.ext 7 (.lst (.cons (.tup (.cons (.var 8) (.cons (.var 9) .nil))) (.cons (.tup (.cons (.bin .add (.var 8) (.lst (.cons (.var 6) .nil))) (.cons (.var 10) .nil))) .nil))))
 .skip)))
theorem grow_snoc (k : Nat) (c : List Nat) : ∀ L : List (List Nat), grow k (L ++ [c]) = grow k L ++ [c, c ++ [k]]
  | [] => rfl
  | d :: L => by simp only [List.cons_append, grow, grow_snoc k c L]
theorem ar_inner {n : Nat} {ts : List (Nat × Nat)} {k a b : Nat} (hk : ts[k]? = some (a, b)) (hab : a < b) (hb : b < n) (hn : n ≤ 8) {L : List (List Nat)} (hL : L.length ≤ 10000) (hc : ∀ c ∈ L, c.length ≤ 1000) (s0 s1 s2 s5 s8 s9 s10 s11 s12 s13 : Sl) :
    ∃ t8 t9 t10, forR (loopF Γ (.tp (.cons (.nm 8) (.cons (.nm 9) .nil))) b25_inner) (L.map (pairE n ts)) [s0, s1, s2, .val (iN a), .val (iN b), s5, .val (iN k), .own [], s8, s9, s10, s11, s12, s13]
      = .nx [s0, s1, s2, .val (iN a), .val (iN b), s5, .val (iN k), .own ((grow k L).map (pairE n ts)), t8, t9, t10, s11, s12, s13] := by
  obtain ⟨ρ', e, t8, t9, t10, e2⟩ := forR_pre (enc := pairE n ts) (f := loopF Γ (.tp (.cons (.nm 8) (.cons (.nm 9) .nil))) b25_inner)
    (fun pre ρ => ∃ t8 t9 t10, ρ = [s0, s1, s2, .val (iN a), .val (iN b), s5, .val (iN k), .own ((grow k pre).map (pairE n ts)), t8, t9, t10, s11, s12, s13])
    (l := L) (ρ := [s0, s1, s2, .val (iN a), .val (iN b), s5, .val (iN k), .own [], s8, s9, s10, s11, s12, s13]) ⟨_, _, _, rfl⟩ (by
      rintro pre c suf ρ hl ⟨u8, u9, u10, rfl⟩
      have hcl := hc c (by rw [hl]; simp)
      have hpre : pre.length + 1 ≤ 10000 := by have := congrArg List.length hl; simp at this; omega
      have i1 := cnts_get (ts := ts) (c := c) (p := a) (n := n) (by omega)
      have i2 := cnts_get (ts := ts) (c := c) (p := b) (n := n) hb
      have w1 := fun ρ => setS_iN1 (l := cnts n ts c) (j := a) (x := 10) (v := cnt ts c a) (ρ := ρ) (by rw [cnts_length]; omega)
      have w2 := fun ρ => setS_iN1 (l := (cnts n ts c).set a (cnt ts c a + 1)) (j := b) (x := 10) (v := cnt ts c b) (ρ := ρ) (by rw [List.length_set, cnts_length]; omega)
      rw [cnts_up hk hab hb] at w2
      have l1 : mkL ((cnts n ts c).map iN) = .ok (.lst true ((cnts n ts c).map iN)) := mlm (cap14 (by rw [cnts_length]; omega))
      have l2 : mkL (c.map iN ++ [.int (k : Int)]) = .ok (.lst true (c.map iN ++ [.int (k : Int)])) := ml_ok (cap14 (by simp; omega))
      have l3 := fun a : D => ml_ok (ds := [a]) (cap14 (by simp))
      have l4 := fun a b : D => ml_ok (ds := [a, b]) (cap14 (by simp))
      have l5 : 2 ≤ cap := cap14 (by decide)
      have ex := fun (d d' : D) ρ => extS_own (l := (grow k pre).map (pairE n ts)) (es := [d, d']) (f := true) (x := 7) (ρ := ρ) (cap14 (by rw [List.length_map, grow_length]; simp; omega))
      refine ⟨_, ?_, .val (natsD true c), .val (natsD true (cnts n ts c)), .val (natsD true (cnts n ts (c ++ [k]))), rfl⟩
      rw [grow_snoc, List.map_append]
      have ek : [c, c ++ [k]].map (pairE n ts) = [.tup [natsD true c, natsD true (cnts n ts c)], .tup [.lst true (c.map iN ++ [.int (k : Int)]), natsD true (cnts n ts (c ++ [k]))]] := by simp [pairE, natsD, iN_eq]
      rw [ek]
      have ep : pairE n ts c = .tup [natsD true c, natsD true (cnts n ts c)] := rfl
      rw [ep]
      generalize (grow k pre).map (pairE n ts) = G at *
      generalize hcn : (cnts n ts c).map iN = cn at *
      simp -implicitDefEqProofs [natsD, iN_eq, hcn] at i1 i2 w1 w2 ex
      simp -implicitDefEqProofs [loopF, b25_inner, natsD, iN_eq, hcn, i1, i2, w1, w2, l1, l2, l3, l4, l5, ex])
  exact ⟨t8, t9, t10, by rw [e, e2]⟩
def b25_step : S := (.seq (.seti2 2 (.var 3) (.var 4) (.bin .sub (.idx (.var 2) (.var 3)) (.int 1)) (.bin .sub (.idx (.var 2) (.var 4)) (.int 1)))
 (.seq (.set 7 (.lst .nil))
 (.seq (.loop (.tp (.cons (.nm 8) (.cons (.nm 9) .nil))) (.seq (.var 5))
 b25_inner)
 (.seq (.set 5 (.comp (.var 12) (.nm 12) (.seq (.var 7)) (.cons (.bi .all (.cons (.comp (.call 26 (.cons (.var 1) (.cons (.idx (.var 12) (.int 1)) (.cons (.var 2) (.cons (.var 13) .nil))))) (.nm 13) (.seq (.tup (.cons (.var 3) (.cons (.var 4) .nil)))) .nil [13]) .nil)) .nil) [12]))
 .skip))))
def tgStep : Tg := .tp (.cons (.nm 6) (.cons (.tp (.cons (.nm 3) (.cons (.nm 4) .nil))) .nil))
def itD (p : (Nat × Nat) × Nat) : D := .tup [iN p.2, tieD p.1]
def Keeps (Γ : Nat → List D → R D) (n : Nat) (ws : List (Nat × Nat)) : Prop := ∀ (cn lf : Nat → Nat) (p : Nat), p < n → Γ 26 [tiesD false ws, natsD false ((List.range n).map cn), natsD false ((List.range n).map lf), iN p] = .ok (.bl (keepB ws cn lf p))
theorem ar_step {n : Nat} {ts ws : List (Nat × Nat)} (K : Keeps Γ n ws) {k a b : Nat} (hk : ts[k]? = some (a, b)) (hab : a < b) (hb : b < n) (hn : n ≤ 8) {L : List (List Nat)} (hL : L.length ≤ 10000) (hc : ∀ c ∈ L, c.length ≤ 1000) (g : Bool) (rem : List Nat)
    (s0 s3 s4 s5 s6 s7 s8 s9 s10 s11 : Sl) (h5 : s5.share = .val (.lst true (L.map (pairE n ts)))) :
    ∃ t7 t8 t9 t10, loopF Γ tgStep b25_step (itD ((a, b), k)) [s0, .val (tiesD g ws), .own ((cnts n ts (k :: rem)).map iN), s3, s4, s5, s6, s7, s8, s9, s10, s11, .no, .no]
      = .nx [s0, .val (tiesD g ws), .own ((cnts n ts rem).map iN), .val (iN a), .val (iN b), .own (((grow k L).filter fun c => keepB ws (cnt ts c) (cnt ts rem) a && keepB ws (cnt ts c) (cnt ts rem) b).map (pairE n ts)), .val (iN k), t7, t8, t9, t10, s11, .no, .no] := by
  have i1 := cnts_get (ts := ts) (c := k :: rem) (p := a) (n := n) (by omega)
  have i2 := cnts_get (ts := ts) (c := k :: rem) (p := b) (n := n) hb
  have ca : cnt ts (k :: rem) a = cnt ts rem a + 1 := by rw [cnt_cons, touch_at hk]; simp; omega
  have cb : cnt ts (k :: rem) b = cnt ts rem b + 1 := by rw [cnt_cons, touch_at hk]; simp; omega
  rw [ca] at i1
  rw [cb] at i2
  have w1 := fun ρ => setS_iN (l := cnts n ts (k :: rem)) (j := a) (x := 2) (v := cnt ts rem a) (ρ := ρ) (by rw [cnts_length]; omega)
  have w2 := fun ρ => setS_iN (l := (cnts n ts (k :: rem)).set a (cnt ts rem a)) (j := b) (x := 2) (v := cnt ts rem b) (ρ := ρ) (by rw [List.length_set, cnts_length]; omega)
  rw [cnts_down hk hab hb] at w2
  have l0 : mkL [] = .ok (.lst true []) := ml_ok (cap14 (by decide))
  obtain ⟨t8, t9, t10, ei⟩ := ar_inner (Γ := Γ) hk hab hb hn hL hc s0 (.val (tiesD g ws)) (.own ((cnts n ts rem).map iN)) (.val (.lst true (L.map (pairE n ts)))) s8 s9 s10 s11 .no .no
  have c0 : ∀ (c : List Nat) (s0 s5 s6 s7 s8 s9 s10 s11 : Sl), compR (compF Γ (.call 26 (.cons (.var 1) (.cons (.idx (.var 12) (.int 1)) (.cons (.var 2) (.cons (.var 13) .nil))))) (.nm 13) .nil [13]
      [s0, .val (tiesD g ws), .val (.lst true ((cnts n ts rem).map iN)), .val (iN a), .val (iN b), s5, s6, s7, s8, s9, s10, s11, .val (pairE n ts c), .no]) ([a, b].map iN) = .ok ([a, b].map fun p => .bl (keepB ws (cnt ts c) (cnt ts rem) p)) := by
    intro c s0 s5 s6 s7 s8 s9 s10 s11
    refine compR_all fun p hp => ?_
    have kp := K (cnt ts c) (cnt ts rem) p (by simp at hp; omega)
    rw [show (List.range n).map (cnt ts c) = cnts n ts c from rfl, show (List.range n).map (cnt ts rem) = cnts n ts rem from rfl] at kp
    simp -implicitDefEqProofs [tiesD, natsD, iN_eq] at kp
    simp -implicitDefEqProofs [compF, pairE, natsD, tiesD, iN_eq, kp]
  have l2 := fun a b : D => ml_ok (ds := [a, b]) (cap14 (by simp))
  have k2 : 2 ≤ cap := cap14 (by decide)
  have c1 : ∀ (s0 s5 s6 s7 s8 s9 s10 s11 : Sl), compR (compF Γ (.var 12) (.nm 12) (.cons (.bi .all (.cons (.comp (.call 26 (.cons (.var 1) (.cons (.idx (.var 12) (.int 1)) (.cons (.var 2) (.cons (.var 13) .nil))))) (.nm 13) (.seq (.tup (.cons (.var 3) (.cons (.var 4) .nil)))) .nil [13]) .nil)) .nil) [12]
      [s0, .val (tiesD g ws), .own ((cnts n ts rem).map iN), .val (iN a), .val (iN b), s5, s6, s7, s8, s9, s10, s11, .no, .no]) ((grow k L).map (pairE n ts)) = .ok (((grow k L).filter fun c => keepB ws (cnt ts c) (cnt ts rem) a && keepB ws (cnt ts c) (cnt ts rem) b).map (pairE n ts)) := by
    intro s0 s5 s6 s7 s8 s9 s10 s11
    refine compR_map fun c _ => ?_
    have al := all_map true (fun p => keepB ws (cnt ts c) (cnt ts rem) p) [a, b]
    have c0 := c0 c
    simp -implicitDefEqProofs [tiesD, iN_eq] at c0 al
    simp -implicitDefEqProofs [compF, tiesD, iN_eq, c0, l2, k2, al]
    cases keepB ws (cnt ts c) (cnt ts rem) a <;> cases keepB ws (cnt ts c) (cnt ts rem) b <;> simp -implicitDefEqProofs
  have l6 : mkL (((grow k L).filter fun c => keepB ws (cnt ts c) (cnt ts rem) a && keepB ws (cnt ts c) (cnt ts rem) b).map (pairE n ts)) = .ok (.lst true (((grow k L).filter fun c => keepB ws (cnt ts c) (cnt ts rem) a && keepB ws (cnt ts c) (cnt ts rem) b).map (pairE n ts))) := mlm (cap14 (by
    refine Nat.le_trans (List.length_filter_le _ _) ?_
    rw [grow_length]; omega))
  refine ⟨.val (.lst true ((grow k L).map (pairE n ts))), t8, t9, t10, ?_⟩
  generalize hF : ((grow k L).filter fun c => keepB ws (cnt ts c) (cnt ts rem) a && keepB ws (cnt ts c) (cnt ts rem) b).map (pairE n ts) = F at *
  generalize hG : (grow k L).map (pairE n ts) = G at *
  simp -implicitDefEqProofs [tiesD, iN_eq] at ei c1
  simp -implicitDefEqProofs [-List.map_set, loopF, tgStep, b25_step, itD, tieD, tiesD, iN_eq, i1, i2, w1, w2, l0, h5, ei, c1, l6]
/-- what the list of the choices found so far bears -/
structure Part (n : Nat) (ts ws : List (Nat × Nat)) (k : Nat) (L : List (List Nat)) : Prop where
  nd : L.Nodup
  ch : ∀ c ∈ L, Ch k c
  all : ∀ d, Ch ts.length d → rightB n ts ws d = true → d.filter (· < k) ∈ L
theorem Part.len {n : Nat} {ts ws : List (Nat × Nat)} {k : Nat} {L : List (List Nat)} (P : Part n ts ws k L) : L.length ≤ 2 ^ k := by
  rw [← subs_length]
  exact P.nd.length_le_of_subset fun c hc => mem_subs.mpr (P.ch c hc)
theorem Part.step {n : Nat} {ts ws : List (Nat × Nat)} {k a b : Nat} {L : List (List Nat)} (P : Part n ts ws k L) (hw : ws.length = n) (hk : ts[k]? = some (a, b)) (hab : a < b) (hb : b < n) :
    Part n ts ws (k + 1) ((grow k L).filter fun c => keepB ws (cnt ts c) (cnt ts (List.range' (k + 1) (ts.length - (k + 1)))) a && keepB ws (cnt ts c) (cnt ts (List.range' (k + 1) (ts.length - (k + 1)))) b) := by
  refine ⟨(nodup_grow P.nd fun c hc h => Nat.lt_irrefl _ ((P.ch c hc).lt k h)).filter _, fun c hc => ?_, fun d D h => ?_⟩
  · rcases mem_grow.mp (List.mem_filter.mp hc).1 with h | ⟨e, he, rfl⟩
    · exact (P.ch c h).up
    · exact (P.ch e he).snoc
  · rw [List.mem_filter]
    refine ⟨?_, ?_⟩
    · rw [mem_grow, below_succ D]
      have := P.all d D h
      by_cases q : k ∈ d
      · rw [if_pos q]; exact .inr ⟨_, this, rfl⟩
      · rw [if_neg q]; exact .inl this
    · rw [Bool.and_eq_true]
      exact ⟨keep_right hw D h (by omega), keep_right hw D h hb⟩
theorem Part.last {n : Nat} {ts ws : List (Nat × Nat)} {L : List (List Nat)} (P : Part n ts ws ts.length L) (hw : ws.length = n) :
    (L.filter fun c => (List.range n).all fun p => keepB ws (cnt ts c) (cnt ts []) p).mergeSort leN = rights n ts ws := by
  refine rights_uniq (P.nd.filter _) fun c => ?_
  have key : ((List.range n).all fun p => keepB ws (cnt ts c) (cnt ts []) p) = true ↔ rightB n ts ws c = true := by
    rw [rightB_iff hw, List.all_eq_true]
    have z : ∀ p, cnt ts [] p = 0 := fun p => rfl
    simp only [List.mem_range, keepB, Bool.and_eq_true, decide_eq_true_eq, z, Nat.add_zero]
    exact ⟨fun h p hp => ⟨(h p hp).2, (h p hp).1⟩, fun h p hp => ⟨(h p hp).2, (h p hp).1⟩⟩
  rw [List.mem_filter, key]
  constructor
  · rintro ⟨h1, h2⟩
    exact ⟨P.ch c h1, h2⟩
  · rintro ⟨h1, h2⟩
    refine ⟨?_, h2⟩
    have := P.all c h1 h2
    rwa [List.filter_eq_self.mpr (fun a ha => by simpa using h1.lt a ha)] at this
def b25_last : S := (.seq (.ite (.bi .all (.cons (.comp (.call 26 (.cons (.var 1) (.cons (.var 9) (.cons (.var 2) (.cons (.var 13) .nil))))) (.nm 13) (.rng (.cons (.idx (.var 0) (.int 0)) .nil)) .nil [13]) .nil))
 (.seq (.app 11 (.var 8))
 .skip)
 .skip)
 .skip)
theorem ar_last {n : Nat} {ts ws : List (Nat × Nat)} (K : Keeps Γ n ws) (hn : n ≤ 8) {L : List (List Nat)} (hL : L.length ≤ 50000) (f g : Bool) (s3 s4 s5 s6 s7 s8 s9 s10 : Sl) :
    ∃ t8 t9, forR (loopF Γ (.tp (.cons (.nm 8) (.cons (.nm 9) .nil))) b25_last) (L.map (pairE n ts)) [.val (webD f n ts), .val (tiesD g ws), .own ((cnts n ts []).map iN), s3, s4, s5, s6, s7, s8, s9, s10, .own [], .no, .no]
      = .nx [.val (webD f n ts), .val (tiesD g ws), .own ((cnts n ts []).map iN), s3, s4, s5, s6, s7, t8, t9, s10, .own ((L.filter fun c => (List.range n).all fun p => keepB ws (cnt ts c) (cnt ts []) p).map (natsD true)), .no, .no] := by
  obtain ⟨ρ', e, t8, t9, e2⟩ := forR_pre (enc := pairE n ts) (f := loopF Γ (.tp (.cons (.nm 8) (.cons (.nm 9) .nil))) b25_last)
    (fun pre ρ => ∃ t8 t9, ρ = [.val (webD f n ts), .val (tiesD g ws), .own ((cnts n ts []).map iN), s3, s4, s5, s6, s7, t8, t9, s10, .own ((pre.filter fun c => (List.range n).all fun p => keepB ws (cnt ts c) (cnt ts []) p).map (natsD true)), .no, .no])
    (l := L) (ρ := [.val (webD f n ts), .val (tiesD g ws), .own ((cnts n ts []).map iN), s3, s4, s5, s6, s7, s8, s9, s10, .own [], .no, .no]) ⟨_, _, rfl⟩ (by
      rintro pre c suf ρ hl ⟨u8, u9, rfl⟩
      have hpre : pre.length + 1 ≤ 50000 := by have := congrArg List.length hl; simp at this; omega
      have c0 : ∀ (s3 s4 s5 s6 s7 s8 s10 s11 : Sl), compR (compF Γ (.call 26 (.cons (.var 1) (.cons (.var 9) (.cons (.var 2) (.cons (.var 13) .nil))))) (.nm 13) .nil [13]
          [.val (webD f n ts), .val (tiesD g ws), .val (.lst true ((cnts n ts []).map iN)), s3, s4, s5, s6, s7, s8, .val (natsD true (cnts n ts c)), s10, s11, .no, .no]) ((List.range n).map iN) = .ok ((List.range n).map fun p => .bl (keepB ws (cnt ts c) (cnt ts []) p)) := by
        intro s3 s4 s5 s6 s7 s8 s10 s11
        refine compR_all fun p hp => ?_
        have kp := K (cnt ts c) (cnt ts []) p (List.mem_range.mp hp)
        rw [show (List.range n).map (cnt ts c) = cnts n ts c from rfl, show (List.range n).map (cnt ts []) = cnts n ts [] from rfl] at kp
        simp -implicitDefEqProofs [tiesD, natsD, iN_eq] at kp
        simp -implicitDefEqProofs [compF, webD, natsD, tiesD, iN_eq, kp]
      have al := all_map true (fun p => keepB ws (cnt ts c) (cnt ts []) p) (List.range n)
      have r1 := rng_nat (n := n) (cap14 (by omega))
      have l1 : mkL ((List.range n).map fun p => D.bl (keepB ws (cnt ts c) (cnt ts []) p)) = .ok (.lst true ((List.range n).map fun p => D.bl (keepB ws (cnt ts c) (cnt ts []) p))) := ml_ok (cap14 (by simp; omega))
      have ap := fun ρ => appS_map (enc := natsD true) (l := pre.filter fun c => (List.range n).all fun p => keepB ws (cnt ts c) (cnt ts []) p) (x := 11) (ρ := ρ) (v := c) (cap15 (by
        have := List.length_filter_le (fun c => (List.range n).all fun p => keepB ws (cnt ts c) (cnt ts []) p) pre
        omega))
      refine ⟨_, ?_, .val (natsD true c), .val (natsD true (cnts n ts c)), rfl⟩
      rw [List.filter_append]
      generalize hq : ((List.range n).map fun p => D.bl (keepB ws (cnt ts c) (cnt ts []) p)) = cl at *
      generalize pre.filter (fun c => (List.range n).all fun p => keepB ws (cnt ts c) (cnt ts []) p) = P at *
      generalize hz : ((List.range n).all fun p => keepB ws (cnt ts c) (cnt ts []) p) = z at *
      simp -implicitDefEqProofs [webD, natsD, tiesD, iN_eq] at c0 r1 ap
      cases z
      · simp -implicitDefEqProofs [loopF, b25_last, pairE, webD, natsD, tiesD, iN_eq, r1, c0, l1, al, hz]
      · simp -implicitDefEqProofs [loopF, b25_last, pairE, webD, natsD, tiesD, iN_eq, r1, c0, l1, al, ap, hz])
  exact ⟨t8, t9, by rw [e, e2]⟩
theorem zip_ties (ts : List (Nat × Nat)) : ((ts.map tieD).zipIdx.map fun p => D.tup [.int (p.2 : Nat), p.1]) = ts.zipIdx.map itD := by
  rw [List.zipIdx_map, List.map_map]
  rfl
theorem m_all_right {n : Nat} {ts ws : List (Nat × Nat)} (W : Web n ts) (Wi : Wish n ws) (K : Keeps Γ n ws) (f g : Bool) :
    runB Γ 14 b_all_right [webD f n ts, tiesD g ws] = .ok (.lst true ((rights n ts ws).map (natsD true))) := by
  have hn := W.most
  have ht := W.ties
  have m1 := mul_rep (v := .int 0) (n := n) (f := true) (cap14 (by omega))
  have z : List.replicate n (D.int 0) = (cnts n ts []).map iN := by
    apply List.ext_getElem
    · simp [cnts]
    · intro i h1 h2
      simp [cnts, cnt, iN]
  rw [z] at m1
  have l0 : mkL [] = .ok (.lst true []) := ml_ok (cap14 (by decide))
  have l1 := fun a : D => ml_ok (ds := [a]) (cap14 (by simp))
  have k2 : 2 ≤ cap := cap14 (by decide)
  obtain ⟨a, b, e1⟩ := ar_first (Γ := Γ) W.ok (.val (webD f n ts)) (.val (tiesD g ws))
  have hr : List.range ts.length = List.range' 0 (ts.length - 0) := by rw [List.range_eq_range', Nat.sub_zero]
  rw [hr] at e1
  obtain ⟨ρ', e2, L, t3, t4, t5, t6, t7, t8, t9, t10, eρ, h5, P⟩ := forR_pre (enc := itD) (f := loopF Γ tgStep b25_step)
    (fun pre ρ => ∃ L t3 t4 t5 t6 t7 t8 t9 t10, ρ = [.val (webD f n ts), .val (tiesD g ws), .own ((cnts n ts (List.range' pre.length (ts.length - pre.length))).map iN), t3, t4, t5, t6, t7, t8, t9, t10, .no, .no, .no] ∧ t5.share = .val (.lst true (L.map (pairE n ts))) ∧ Part n ts ws pre.length L)
    (l := ts.zipIdx) (ρ := [.val (webD f n ts), .val (tiesD g ws), .own ((cnts n ts (List.range' 0 (ts.length - 0))).map iN), a, b, .own [pairE n ts []], .no, .no, .no, .no, .no, .no, .no, .no])
    ⟨[[]], _, _, _, _, _, _, _, _, rfl, rfl, ⟨by simp, by simp [Ch.nil], fun d D h => by simp⟩⟩ (by
      rintro pre ⟨⟨a, b⟩, i⟩ suf ρ hl ⟨L, t3, t4, t5, t6, t7, t8, t9, t10, rfl, h5, P⟩
      have hi : ts.zipIdx[pre.length]? = some ((a, b), i) := by rw [hl]; simp
      rw [List.getElem?_zipIdx] at hi
      obtain ⟨x, hx, ex⟩ := Option.map_eq_some_iff.mp hi
      simp at ex
      obtain ⟨rfl, rfl⟩ := ex
      have hlt : pre.length < ts.length := (List.getElem?_eq_some_iff.mp hx).1
      obtain ⟨hab, hb⟩ := W.ok (a, b) (List.mem_of_getElem? hx)
      simp only at hab hb
      have hr : List.range' pre.length (ts.length - pre.length) = pre.length :: List.range' (pre.length + 1) (ts.length - (pre.length + 1)) := by
        have : ts.length - pre.length = (ts.length - (pre.length + 1)) + 1 := by omega
        rw [this, List.range'_succ]
      have hLl : L.length ≤ 10000 := Nat.le_trans P.len (Nat.le_trans (Nat.pow_le_pow_right (by decide) (show pre.length ≤ 13 by omega)) (by decide))
      obtain ⟨u7, u8, u9, u10, e⟩ := ar_step K hx hab hb hn hLl (fun c hc => by have := (P.ch c hc).len; omega) g (List.range' (pre.length + 1) (ts.length - (pre.length + 1))) (.val (webD f n ts)) t3 t4 t5 t6 t7 t8 t9 t10 .no h5
      rw [hr]
      refine ⟨_, e, (grow pre.length L).filter fun c => keepB ws (cnt ts c) (cnt ts (List.range' (pre.length + 1) (ts.length - (pre.length + 1)))) a && keepB ws (cnt ts c) (cnt ts (List.range' (pre.length + 1) (ts.length - (pre.length + 1)))) b, .val (iN a), .val (iN b), .own (((grow pre.length L).filter fun c => keepB ws (cnt ts c) (cnt ts (List.range' (pre.length + 1) (ts.length - (pre.length + 1)))) a && keepB ws (cnt ts c) (cnt ts (List.range' (pre.length + 1) (ts.length - (pre.length + 1)))) b).map (pairE n ts)), .val (iN pre.length), u7, u8, u9, u10, ?_, rfl, ?_⟩
      · rw [List.length_append]; rfl
      · rw [List.length_append]; exact P.step Wi.len hx hab hb)
  have hz : ts.zipIdx.length = ts.length := by simp
  rw [hz] at eρ P
  subst eρ
  rw [Nat.sub_self] at e2
  have hLl : L.length ≤ 50000 := Nat.le_trans P.len (Nat.le_trans (Nat.pow_le_pow_right (by decide) ht) (by decide))
  obtain ⟨u8, u9, e3⟩ := ar_last (Γ := Γ) (ts := ts) (ws := ws) K hn hLl f g t3 t4 (.val (.lst true (L.map (pairE n ts)))) t6 t7 t8 t9 t10
  have so := sorted_nats (l := L.filter fun c => (List.range n).all fun p => keepB ws (cnt ts c) (cnt ts []) p) (cap14 (Nat.le_trans (List.length_filter_le _ _) (by omega)))
  rw [P.last Wi.len] at so
  have zt := zip_ties ts
  have e0 : pairE n ts [] = .tup [.lst true [], .lst true ((cnts n ts []).map iN)] := rfl
  rw [e0] at e2
  have er : List.range' ts.length 0 = [] := rfl
  rw [er] at e2
  generalize hF : (L.filter fun c => (List.range n).all fun p => keepB ws (cnt ts c) (cnt ts []) p).map (natsD true) = F at *
  generalize hR : (rights n ts ws).map (natsD true) = RR at *
  generalize ts.zipIdx.map itD = Z at *
  generalize (cnts n ts []).map iN = c0 at *
  have eb : b_all_right = .seq (.set 2 (.bin .mul (.lst (.cons (.int 0) .nil)) (.idx (.var 0) (.int 0)))) (.seq (.loop (.tp (.cons (.nm 3) (.cons (.nm 4) .nil))) (.seq (.idx (.var 0) (.int 1))) b25_first)
    (.seq (.set 5 (.lst (.cons (.tup (.cons (.lst .nil) (.cons (.bin .mul (.lst (.cons (.int 0) .nil)) (.idx (.var 0) (.int 0))) .nil))) .nil))) (.seq (.loop tgStep (.enum (.idx (.var 0) (.int 1))) b25_step)
    (.seq (.set 11 (.lst .nil)) (.seq (.loop (.tp (.cons (.nm 8) (.cons (.nm 9) .nil))) (.seq (.var 5)) b25_last) (.seq (.ret (.bi .sorted (.cons (.var 11) .nil))) .skip)))))) := rfl
  rw [runB_eq, eb]
  simp -implicitDefEqProofs [webD, tiesD, natsD, iN_eq] at e1 e2 e3 m1
  simp -implicitDefEqProofs [webD, tiesD, natsD, iN_eq, l0, l1, k2, m1, e1, zt, e2, h5, e3, so]
end
end Wt
/-! ## choosing: how many, by number, lightest; the laws' own list of all -/
namespace Wt
open PySem L2
def lsD (f : Bool) (l : List (List Nat)) : D := .lst f (l.map (natsD true))
def wsD (f : Bool) (w : List Int) : D := .lst f (w.map D.int)
@[simp] theorem olds_nats (l : List (List Nat)) : olds (l.map (natsD true)) = l.map (natsD false) := by
  rw [olds_eq, List.map_map]
  refine List.map_congr_left fun c _ => ?_
  simp [natsD]
theorem py_nats2 (f g : Bool) (c : List Nat) : (natsD f c).py = (natsD g c).py := by rw [py_nats, py_nats]
theorem faith_nats : ∀ (f g : Bool) (a b : List Nat), eqD (natsD f a) (natsD g b) = .ok (decide (a = b)) := fun f g a b => faith_iN.lsts (by decide) f g a b
section
variable {Γ : Nat → List D → R D}
theorem m_law_all {n : Nat} {ts ws : List (Nat × Nat)} (ht : ts.length ≤ 14) (h17 : ∀ c, Ch ts.length c → Γ 17 [webD false n ts, tiesD false ws, natsD false c] = .ok (.bl (rightB n ts ws c))) (f g : Bool) :
    runB Γ 5 b_law_all [webD f n ts, tiesD g ws] = .ok (lsD true (rights n ts ws)) := by
  have l0 : mkL [] = .ok (.lst true []) := ml_ok (cap14 (by decide))
  have l1 := fun a : D => ml_ok (ds := [a]) (cap14 (by simp))
  have r1 := rng_nat (n := ts.length) (cap14 (by omega))
  obtain ⟨ρ', e, a, e2⟩ := forR_pre (enc := iN) (f := loopF Γ (.nm 3) (.seq (.set 2 (.bin .add (.var 2) (.comp (.bin .add (.var 4) (.lst (.cons (.var 3) .nil))) (.nm 4) (.seq (.var 2)) .nil [4]))) .skip))
    (fun pre ρ => ∃ a, ρ = [.val (webD f n ts), .val (tiesD g ws), .own ((subs pre.length).map (natsD true)), a, .no])
    (l := List.range ts.length) (ρ := [.val (webD f n ts), .val (tiesD g ws), .own [.lst true []], .no, .no]) ⟨_, rfl⟩ (by
      rintro pre x suf ρ hl ⟨a, rfl⟩
      obtain ⟨hx, hx2, _⟩ := range_pre hl
      have sl : (subs pre.length).length ≤ 10000 := by
        rw [subs_length]
        exact Nat.le_trans (Nat.pow_le_pow_right (by decide) (show pre.length ≤ 13 by omega)) (by decide)
      have c1 : ∀ (s0 s1 s2 : Sl), compR (compF Γ (.bin .add (.var 4) (.lst (.cons (.var 3) .nil))) (.nm 4) .nil [4] [s0, s1, s2, .val (iN x), .no]) ((subs pre.length).map (natsD true)) = .ok (((subs pre.length).map (· ++ [x])).map (natsD true)) := by
        intro s0 s1 s2
        rw [List.map_map]
        refine compR_all fun c hc => ?_
        have hcl := (mem_subs.mp hc).len
        have l2 : mkL (c.map iN ++ [.int (x : Int)]) = .ok (.lst true (c.map iN ++ [.int (x : Int)])) := ml_ok (cap14 (by simp; omega))
        simp -implicitDefEqProofs [compF, natsD, iN_eq, l1, l2]
      have l3 : mkL (((subs pre.length).map (· ++ [x])).map (natsD true)) = .ok (.lst true (((subs pre.length).map (· ++ [x])).map (natsD true))) := mlm (cap14 (by simp; omega))
      have l4 : mkL ((subs pre.length).map (natsD true) ++ ((subs pre.length).map (· ++ [x])).map (natsD true)) = .ok (.lst true ((subs pre.length).map (natsD true) ++ ((subs pre.length).map (· ++ [x])).map (natsD true))) := ml_ok (cap14 (by simp; omega))
      refine ⟨_, ?_, .val (iN x), rfl⟩
      have es : (subs (pre ++ [x]).length).map (natsD true) = (subs pre.length).map (natsD true) ++ ((subs pre.length).map (· ++ [x])).map (natsD true) := by
        rw [List.length_append, List.length_singleton, subs, List.map_append, hx2]
      rw [es]
      generalize (subs pre.length).map (natsD true) = A at *
      generalize ((subs pre.length).map (· ++ [x])).map (natsD true) = B at *
      simp -implicitDefEqProofs [iN_eq] at c1
      simp -implicitDefEqProofs [loopF, iN_eq, c1, l3, l4])
  rw [List.length_range] at e2
  subst e2
  have c2 : ∀ (s2 s3 : Sl), compR (compF Γ (.var 4) (.nm 4) (.cons (.call 17 (.cons (.var 0) (.cons (.var 1) (.cons (.var 4) .nil)))) .nil) [4] [.val (webD f n ts), .val (tiesD g ws), s2, s3, .no]) ((subs ts.length).map (natsD true)) = .ok (((subs ts.length).filter (rightB n ts ws)).map (natsD true)) := by
    intro s2 s3
    refine compR_map fun c hc => ?_
    have h := h17 c (mem_subs.mp hc)
    simp -implicitDefEqProofs [webD, tiesD, natsD, iN_eq] at h
    simp -implicitDefEqProofs [compF, webD, tiesD, natsD, iN_eq, h]
    cases rightB n ts ws c <;> simp -implicitDefEqProofs
  have fl : ((subs ts.length).filter (rightB n ts ws)).length ≤ 20000 := Nat.le_trans (List.length_filter_le _ _) (by rw [subs_length]; exact Nat.le_trans (Nat.pow_le_pow_right (by decide) ht) (by decide))
  have l5 : mkL (((subs ts.length).filter (rightB n ts ws)).map (natsD true)) = .ok (.lst true (((subs ts.length).filter (rightB n ts ws)).map (natsD true))) := mlm (cap14 (by omega))
  have so := sorted_nats (l := (subs ts.length).filter (rightB n ts ws)) (cap14 (by omega))
  rw [show ((subs ts.length).filter (rightB n ts ws)).mergeSort leN = rights n ts ws from rfl] at so
  generalize ((subs ts.length).filter (rightB n ts ws)).map (natsD true) = F at *
  generalize (subs ts.length).map (natsD true) = S1 at *
  unfold lsD
  generalize (rights n ts ws).map (natsD true) = RR at *
  simp -implicitDefEqProofs [webD, tiesD, iN_eq] at e c2 r1
  simp -implicitDefEqProofs [runB_eq, b_law_all, webD, tiesD, iN_eq, l0, l1, r1, e, c2, l5, so]
theorem m_how_many {n : Nat} {ts ws : List (Nat × Nat)} (h2 : Γ 2 [webD false n ts] = .ok .non) (h3 : Γ 3 [webD false n ts, tiesD false ws] = .ok .non) (h25 : Γ 25 [webD false n ts, tiesD false ws] = .ok (lsD true (rights n ts ws))) (f g : Bool) :
    runB Γ 2 b_how_many [webD f n ts, tiesD g ws] = .ok (iN (rights n ts ws).length) := by
  simp -implicitDefEqProofs [webD, tiesD, lsD, iN_eq] at h2 h3 h25
  simp -implicitDefEqProofs [runB_eq, b_how_many, webD, tiesD, iN_eq, h2, h3, h25]
theorem m_by_number {n : Nat} {ts ws : List (Nat × Nat)} (h0 : ∀ i, Γ 0 [.int i] = .ok (.bl true)) (h2 : Γ 2 [webD false n ts] = .ok .non) (h3 : Γ 3 [webD false n ts, tiesD false ws] = .ok .non) (h25 : Γ 25 [webD false n ts, tiesD false ws] = .ok (lsD true (rights n ts ws)))
    {k : Nat} (hk : k < (rights n ts ws).length) (f g : Bool) : runB Γ 4 b_by_number [webD f n ts, tiesD g ws, iN k] = .ok (natsD true (rights n ts ws)[k]) := by
  have i1 := idx_map (enc := natsD true) (f := true) hk
  have hk' : (k : Int) < (rights n ts ws).length := by omega
  simp -implicitDefEqProofs [webD, tiesD, lsD, iN_eq] at h2 h3 h25
  simp -implicitDefEqProofs [runB_eq, b_by_number, webD, tiesD, iN_eq, h0, h2, h3, h25, hk, i1]
def wsum (w : List Int) (c : List Nat) : Int := (c.map fun a => w.getD a 0).sum
def sumsL (R : List (List Nat)) (w : List Int) : List Int := R.map (wsum w)
def minL : List Int → Int
  | [] => 0
  | x :: r => minI x r
def idxMin (R : List (List Nat)) (w : List Int) : Nat := ((sumsL R w).findIdx? (· == minL (sumsL R w))).getD 0
theorem minI_mem : ∀ (r : List Int) (x : Int), minI x r = x ∨ minI x r ∈ r
  | [], x => .inl rfl
  | y :: r, x => by
    unfold minI
    rcases minI_mem r (if y < x then y else x) with h | h
    · by_cases c : y < x
      · rw [if_pos c] at h ⊢; exact .inr (by rw [h]; exact List.mem_cons_self)
      · rw [if_neg c] at h ⊢; exact .inl h
    · exact .inr (List.mem_cons_of_mem _ h)
theorem minL_mem {l : List Int} (h : l ≠ []) : minL l ∈ l := by
  cases l with
  | nil => exact absurd rfl h
  | cons x r =>
    rcases minI_mem r x with h | h
    · show minI x r ∈ _; rw [h]; exact List.mem_cons_self
    · exact List.mem_cons_of_mem _ h
theorem minl_ints {f : Bool} {l : List Int} (h : l ≠ []) : biD .minl [.lst f (l.map D.int)] = .ok (.int (minL l)) := by
  cases l with
  | nil => exact absurd rfl h
  | cons x r =>
    have : intsD ((x :: r).map D.int) = some (x :: r) := by simpa using intsD_map id (x :: r)
    simp only [biD, this]
    rfl
theorem idxMin_lt {R : List (List Nat)} (w : List Int) (h : R ≠ []) : ∃ i, (sumsL R w).findIdx? (· == minL (sumsL R w)) = some i ∧ idxMin R w = i ∧ i < R.length := by
  have hm := minL_mem (l := sumsL R w) (by simpa [sumsL] using h)
  cases e : (sumsL R w).findIdx? (· == minL (sumsL R w)) with
  | none =>
    have := List.findIdx?_eq_none_iff.mp e _ hm
    simp at this
  | some i =>
    obtain ⟨h1, _⟩ := List.findIdx?_eq_some_iff_getElem.mp e
    exact ⟨i, rfl, by unfold idxMin; rw [e]; rfl, by simpa [sumsL] using h1⟩
theorem index_min {R : List (List Nat)} (w : List Int) (h : R ≠ []) : indexD (.lst true ((sumsL R w).map D.int)) (.int (minL (sumsL R w))) = .ok (iN (idxMin R w)) := by
  obtain ⟨i, e1, e2, _⟩ := idxMin_lt w h
  have s1 := (ok_int (k := 0) (minL (sumsL R w))).shaped (by decide)
  have s2 := (ok_lst (f := true) (faith_int.oks (sumsL R w))).shaped (by decide)
  simp only [D.py] at s2
  have ep : (pys ((sumsL R w).map D.int)).findIdx? (fun z => PyData.eqv z (D.int (minL (sumsL R w))).py) = some i := by
    rw [pys_eq, List.map_map, List.findIdx?_map, ← e1]
    congr 1
  unfold indexD
  simp only [s1, s2, Bool.and_self, if_true, ep]
  rw [e2]; rfl
end
end Wt
namespace Wt
open PySem L2
section
variable {Γ : Nat → List D → R D}
theorem idx_w {f : Bool} {w : List Int} {a : Nat} (h : a < w.length) : idxD (.lst f (w.map D.int)) (.int (a : Int)) = .ok (.int (w.getD a 0)) := by
  rw [idx_map h]
  simp [List.getD, h]
theorem ok_ls (f : Bool) (l : List (List Nat)) : Ok 2 (lsD f l) := ok_lst (by intro x hx; obtain ⟨c, _, rfl⟩ := List.mem_map.mp hx; exact (ok_lst (faith_iN.oks c)))
theorem rights_nil (R : List (List Nat)) : eqD (lsD true R) (.lst true []) = .ok (decide (R = [])) := by
  rw [eqD_of (ok_ls true R) ((ok_lst (k := 1) (by simp)).mono (by decide)) (by decide)]
  cases R with
  | nil => simp [lsD, D.py, pys, PyData.eqv, PyData.eqvAll]
  | cons c R => simp [lsD, D.py, pys, PyData.eqv, PyData.eqvAll]
theorem m_lightest {n : Nat} {ts ws : List (Nat × Nat)} {w : List Int} (ht : ts.length ≤ 14) (hw : w.length = ts.length) (h0 : ∀ i, Γ 0 [.int i] = .ok (.bl true)) (h2 : Γ 2 [webD false n ts] = .ok .non) (h3 : Γ 3 [webD false n ts, tiesD false ws] = .ok .non)
    (h25 : Γ 25 [webD false n ts, tiesD false ws] = .ok (lsD true (rights n ts ws))) (f g h : Bool) :
    runB Γ 8 b_lightest [webD f n ts, tiesD g ws, wsD h w] = if rights n ts ws = [] then .exc 9 else .ok (natsD true ((rights n ts ws).getD (idxMin (rights n ts ws) w) [])) := by
  have c5 : ∀ s0 s1 s3 s4 s6 s7 : Sl, compR (compF Γ (.call 0 (.cons (.var 5) .nil)) (.nm 5) .nil [5] [s0, s1, .val (wsD h w), s3, s4, .no, s6, s7]) (w.map D.int) = .ok (w.map fun _ => .bl true) := by
    intros
    refine compR_all fun i _ => ?_
    simp -implicitDefEqProofs [compF, h0]
  have l5 : mkL (w.map fun _ => D.bl true) = .ok (.lst true (w.map fun _ => D.bl true)) := ml_ok (cap14 (by simp; omega))
  have e1 := faith_iN.eqD (by decide) ts.length ts.length
  have l0 : mkL [] = .ok (.lst true []) := ml_ok (cap14 (by decide))
  have rn := rights_nil (rights n ts ws)
  have rl : (rights n ts ws).length ≤ 20000 := Nat.le_trans (rights_length _ _ _) (Nat.le_trans (Nat.pow_le_pow_right (by decide) ht) (by decide))
  have c7 : ∀ s0 s1 s3 s4 s5 : Sl, compR (compF Γ (.bi .sum (.cons (.comp (.idx (.var 2) (.var 6)) (.nm 6) (.seq (.var 7)) .nil [6]) .nil)) (.nm 7) .nil [7] [s0, s1, .val (wsD h w), s3, s4, s5, .no, .no]) ((rights n ts ws).map (natsD true)) = .ok ((sumsL (rights n ts ws) w).map D.int) := by
    intro s0 s1 s3 s4 s5
    unfold sumsL
    rw [List.map_map]
    refine compR_all fun c hc => ?_
    have C := (mem_rights.mp hc).1
    have hcl := C.len
    have c6 : ∀ s0 s1 s3 s4 s5 : Sl, compR (compF Γ (.idx (.var 2) (.var 6)) (.nm 6) .nil [6] [s0, s1, .val (wsD h w), s3, s4, s5, .no, .val (natsD true c)]) (c.map iN) = .ok (c.map fun a => .int (w.getD a 0)) := by
      intros
      refine compR_all fun a ha => ?_
      have i1 := idx_w (f := h) (w := w) (a := a) (by rw [hw]; exact C.lt a ha)
      simp -implicitDefEqProofs [wsD] at i1
      simp -implicitDefEqProofs [compF, wsD, iN_eq, i1]
    have l6 : mkL (c.map fun a => D.int (w.getD a 0)) = .ok (.lst true (c.map fun a => D.int (w.getD a 0))) := ml_ok (cap14 (by simp; omega))
    have su := sum_map true (fun a => w.getD a 0) c
    unfold wsum
    simp only [Function.comp]
    generalize hq : (c.map fun a => D.int (w.getD a 0)) = q at *
    generalize (c.map fun a => w.getD a 0).sum = z at *
    simp -implicitDefEqProofs [natsD] at c6
    simp -implicitDefEqProofs [compF, natsD, c6, l6, su]
  by_cases hr : rights n ts ws = []
  · rw [if_pos hr]
    rw [hr] at rn h25
    simp -implicitDefEqProofs [webD, tiesD, wsD, lsD, iN_eq] at h2 h3 h25 c5 e1 rn
    simp -implicitDefEqProofs [runB_eq, b_lightest, webD, tiesD, wsD, iN_eq, hw, h2, h3, h25, c5, l5, e1, l0, rn]
  · rw [if_neg hr]
    obtain ⟨i, _, e2, e3⟩ := idxMin_lt w hr
    have im := index_min w hr
    have sl : mkL ((sumsL (rights n ts ws) w).map D.int) = .ok (.lst true ((sumsL (rights n ts ws) w).map D.int)) := mlm (cap14 (by simp [sumsL]; omega))
    have mn := minl_ints (f := true) (l := sumsL (rights n ts ws) w) (by simpa [sumsL] using hr)
    have ix := idx_map (enc := natsD true) (f := true) e3
    rw [e2] at im
    rw [e2]
    have eg : (rights n ts ws).getD i [] = (rights n ts ws)[i] := by simp [List.getD, e3]
    rw [eg]
    generalize (rights n ts ws)[i] = ri at *
    have hr' := eq_false hr
    unfold lsD at rn h25
    generalize (sumsL (rights n ts ws) w).map D.int = S1 at *
    generalize (rights n ts ws).map (natsD true) = RR at *
    simp -implicitDefEqProofs [webD, tiesD, wsD, iN_eq] at h2 h3 h25 c5 c7 e1 rn im ix
    simp -implicitDefEqProofs [runB_eq, b_lightest, webD, tiesD, wsD, iN_eq, hw, h2, h3, h25, c5, l5, e1, l0, rn, hr', c7, sl, mn, im, ix]
theorem m_law_none {n : Nat} {ts ws : List (Nat × Nat)} {w : List Int} (h44 : Γ 44 [webD false n ts, tiesD false ws, wsD false w] = .exc 9) (f g h : Bool) : runB Γ 5 b_law_none [webD f n ts, tiesD g ws, wsD h w] = .ok (.bl true) := by
  simp -implicitDefEqProofs [webD, tiesD, wsD, iN_eq] at h44
  have x : ∀ (e : E) (i j : Nat) (cs : List Nat) (a1 a2 a3 g : Nat) (ρ : Rho), exec Γ (.tryA e i j cs a1 a2 a3 g) ρ = (match ev Γ e (shareAt ρ (esc e)) with
      | .ok _ => .nx (shareAt ρ (esc e))
      | .exc c => if (cs.contains c && decide (i < (shareAt ρ (esc e)).length) && decide (j < (shareAt ρ (esc e)).length)) = true then .rt (.bl (isX c g && !([isX c a1, isX c a2, isX c a3].any id))) else .bad
      | .bad => .bad) := by intros; first | (rw [exec]; done) | (rw [exec]; rfl)
  simp -implicitDefEqProofs [runB_eq, b_law_none, x, webD, tiesD, wsD, iN_eq, h44, isX]
theorem handed4 (f g a b c a' b' c' : Bool) (n : Nat) (ts ws : List (Nat × Nat)) (w : List Int) : eqD (.lst f [webD a n ts, tiesD b ws, wsD c w]) (.lst g [webD a' n ts, tiesD b' ws, wsD c' w]) = .ok true := by
  refine eqD_same (k := 4) (ok_lst ?_) (by decide) ?_
  · intro x hx
    simp at hx
    rcases hx with e | e | e <;> rw [e]
    · exact ok_tup (by
        intro x hx
        rcases List.mem_cons.mp hx with e | e
        · rw [e]; exact ok_int _
        · simp at e; rw [e]; exact ok_lst (faith_tie.oks ts))
    · exact (ok_lst (faith_tie.oks ws) : Ok 2 _).mono (by decide)
    · exact (ok_lst (faith_int.oks w) : Ok 1 _).mono (by decide)
  · simp [D.py, pys, webD, tiesD, wsD]
def b46_loop : S := (.seq (.set 8 (.call 43 (.cons (.idx (.var 4) (.int 0)) (.cons (.idx (.var 4) (.int 1)) (.cons (.var 7) .nil)))))
 (.seq (.ite (.or (.cons (.not (.isi (.var 8) .list)) (.cons (.cmp (.var 8) (.ccons .ne (.idx (.var 5) (.var 7)) .cnil)) .nil)))
 (.seq (.ret (.bl false))
 .skip)
 .skip)
 (.seq (.app 8 (.int 0))
 (.seq (.ite (.cmp (.call 43 (.cons (.idx (.var 4) (.int 0)) (.cons (.idx (.var 4) (.int 1)) (.cons (.var 7) .nil)))) (.ccons .ne (.idx (.var 5) (.var 7)) .cnil))
 (.seq (.ret (.bl false))
 .skip)
 .skip)
 .skip))))
/-- what is asked of a web, wishes, weights -/
structure Good4 (Γ : Nat → List D → R D) (n : Nat) (ts ws : List (Nat × Nat)) (w : List Int) : Prop where
  copied : Γ 16 [webD false n ts] = .ok (webD true n ts)
  all : Γ 30 [webD false n ts, tiesD false ws] = .ok (lsD true (rights n ts ws))
  many : Γ 42 [webD false n ts, tiesD false ws] = .ok (iN (rights n ts ws).length)
  num : ∀ (k : Nat) (hk : k < (rights n ts ws).length), Γ 43 [webD false n ts, tiesD false ws, iN k] = .ok (natsD true (rights n ts ws)[k])
  light : rights n ts ws ≠ [] → Γ 44 [webD false n ts, tiesD false ws, wsD false w] = .ok (natsD true ((rights n ts ws).getD (idxMin (rights n ts ws) w) []))
  none : rights n ts ws = [] → Γ 45 [webD false n ts, tiesD false ws, wsD false w] = .ok (.bl true)
theorem cut_last (c : List Nat) : sliD .one (.lst true (c.map iN ++ [.int 0])) none (some (-1)) = .ok (.lst true (c.map iN)) := by
  simp only [sliD, cutD, HT.sIx_none]
  have e : HT.sIx (c.map iN ++ [D.int 0]).length (c.map iN ++ [D.int 0]).length (some (-1)) = c.length := by
    simp only [HT.sIx]
    rw [if_pos (by decide)]
    simp
    omega
  rw [e]
  congr 2
  simp
theorem b46_ok {n : Nat} {ts ws : List (Nat × Nat)} {w : List Int} (W : Web n ts) (G : Good4 Γ n ts ws w) {k : Nat} (hk : k < (rights n ts ws).length) (s0 s1 s2 s3 s6 s7 s8 s9 s10 s11 : Sl) :
    ∃ t8, loopF Γ (.nm 7) b46_loop (iN k) [s0, s1, s2, s3, .own [webD true n ts, tiesD true ws, wsD true w], .own ((rights n ts ws).map (natsD true)), s6, s7, s8, s9, s10, s11]
      = .nx [s0, s1, s2, s3, .own [webD true n ts, tiesD true ws, wsD true w], .own ((rights n ts ws).map (natsD true)), s6, .val (iN k), t8, s9, s10, s11] := by
  have g := G.num k hk
  have i1 := idx_map (enc := natsD true) (f := true) hk
  have C := (mem_rights.mp (List.getElem_mem hk)).1
  have hl := C.len
  have ht := W.ties
  generalize (rights n ts ws)[k] = c at *
  have q := faith_nats true true c c
  have ap := fun ρ => appS_map (enc := iN) (l := c) (x := 8) (ρ := ρ) (v := 0) (cap15 (by omega))
  refine ⟨.own ((c ++ [0]).map iN), ?_⟩
  generalize (rights n ts ws).map (natsD true) = RR at *
  simp -implicitDefEqProofs [webD, tiesD, natsD, wsD, iN_eq] at g i1 q ap
  simp -implicitDefEqProofs [loopF, b46_loop, webD, tiesD, natsD, wsD, iN_eq, g, i1, q, ap]
theorem m_law_one_right2 {n : Nat} {ts ws : List (Nat × Nat)} {w : List Int} (W : Web n ts) (hws : ws.length ≤ 1000) (hw : w.length = ts.length) (G : Good4 Γ n ts ws w) (whole : Int) (f g h : Bool) :
    runB Γ 12 b_law_one_right2 [webD f n ts, tiesD g ws, wsD h w, .int whole] = .ok (.bl true) := by
  have g1 := G.copied
  have g2 := G.all
  have g3 := G.many
  have ht := W.ties
  have l1 : mkL (ws.map tieD) = .ok (.lst true (ws.map tieD)) := mlm (cap14 (by omega))
  have l2 : mkL (w.map D.int) = .ok (.lst true (w.map D.int)) := mlm (cap14 (by omega))
  have l3 := fun a b c : D => ml_ok (ds := [a, b, c]) (cap14 (by simp))
  have l0 : mkL [] = .ok (.lst true []) := ml_ok (cap14 (by decide))
  have q1 := faith_iN.eqD (by decide) (rights n ts ws).length (rights n ts ws).length
  have q2 := handed4 true true true true true f g h n ts ws w
  have rn := rights_nil (rights n ts ws)
  have rl : (rights n ts ws).length ≤ 20000 := Nat.le_trans (rights_length _ _ _) (Nat.le_trans (Nat.pow_le_pow_right (by decide) ht) (by decide))
  by_cases hr : rights n ts ws = []
  · have g4 := G.none hr
    rw [hr] at g2 g3 rn q1
    simp -implicitDefEqProofs [webD, tiesD, wsD, lsD, iN_eq] at g1 g2 g3 g4 q1 q2 rn
    simp -implicitDefEqProofs [runB_eq, b_law_one_right2, webD, tiesD, wsD, iN_eq, g1, g2, g3, g4, l0, l1, l2, l3, q1, q2, rn]
  · have g5 := G.light hr
    have hpos : 0 < (rights n ts ws).length := List.length_pos_iff.mpr hr
    obtain ⟨i, _, e2, e3⟩ := idxMin_lt w hr
    have im := index_min w hr
    rw [e2] at im g5
    have eg : (rights n ts ws).getD i [] = (rights n ts ws)[i] := by simp [List.getD, e3]
    rw [eg] at g5
    have ix := idx_map (enc := natsD true) (f := true) e3
    have C := (mem_rights.mp (List.getElem_mem e3)).1
    have hcl := C.len
    have sl : mkL ((sumsL (rights n ts ws) w).map D.int) = .ok (.lst true ((sumsL (rights n ts ws) w).map D.int)) := mlm (cap14 (by simp [sumsL]; omega))
    have mn := minl_ints (f := true) (l := sumsL (rights n ts ws) w) (by simpa [sumsL] using hr)
    have md := op_mod_i (i := whole) (j := ((rights n ts ws).length : Int)) (by omega)
    have b1 := Int.emod_nonneg whole (b := ((rights n ts ws).length : Int)) (by omega)
    have b2 := Int.emod_lt_of_pos whole (b := ((rights n ts ws).length : Int)) (by omega)
    obtain ⟨u, hu⟩ : ∃ u : Nat, whole % ((rights n ts ws).length : Int) = (u : Int) := ⟨(whole % ((rights n ts ws).length : Int)).toNat, by omega⟩
    obtain ⟨v, hv⟩ : ∃ v : Nat, ((rights n ts ws).length : Int) - 1 = (v : Int) := ⟨(rights n ts ws).length - 1, by omega⟩
    have c7 : ∀ s0 s1 s3 s4 s5 s6 s7 s8 s9 : Sl, compR (compF Γ (.bi .sum (.cons (.comp (.idx (.var 2) (.var 10)) (.nm 10) (.seq (.var 11)) .nil [10]) .nil)) (.nm 11) .nil [11] [s0, s1, .val (wsD h w), s3, s4, s5, s6, s7, s8, s9, .no, .no]) ((rights n ts ws).map (natsD true)) = .ok ((sumsL (rights n ts ws) w).map D.int) := by
      intro s0 s1 s3 s4 s5 s6 s7 s8 s9
      unfold sumsL
      rw [List.map_map]
      refine compR_all fun c hc => ?_
      have C := (mem_rights.mp hc).1
      have hcl := C.len
      have c6 : ∀ s0 s1 s3 s4 s5 s6 s7 s8 s9 : Sl, compR (compF Γ (.idx (.var 2) (.var 10)) (.nm 10) .nil [10] [s0, s1, .val (wsD h w), s3, s4, s5, s6, s7, s8, s9, .no, .val (natsD true c)]) (c.map iN) = .ok (c.map fun a => .int (w.getD a 0)) := by
        intros
        refine compR_all fun a ha => ?_
        have i1 := idx_w (f := h) (w := w) (a := a) (by rw [hw]; exact C.lt a ha)
        simp -implicitDefEqProofs [wsD] at i1
        simp -implicitDefEqProofs [compF, wsD, iN_eq, i1]
      have l6 : mkL (c.map fun a => D.int (w.getD a 0)) = .ok (.lst true (c.map fun a => D.int (w.getD a 0))) := ml_ok (cap14 (by simp; omega))
      have su := sum_map true (fun a => w.getD a 0) c
      unfold wsum
      simp only [Function.comp]
      generalize hq : (c.map fun a => D.int (w.getD a 0)) = q at *
      generalize (c.map fun a => w.getD a 0).sum = z at *
      simp -implicitDefEqProofs [natsD] at c6
      simp -implicitDefEqProofs [compF, natsD, c6, l6, su]
    obtain ⟨ρ', e, t7, t8, e9⟩ := forR_all (enc := iN) (f := loopF Γ (.nm 7) b46_loop) (fun ρ => ∃ t7 t8, ρ = [.val (webD f n ts), .val (tiesD g ws), .val (wsD h w), .val (.int whole), .own [webD true n ts, tiesD true ws, wsD true w], .own ((rights n ts ws).map (natsD true)), .val (iN (rights n ts ws).length), t7, t8, .no, .no, .no])
      (l := [0, v, u]) (ρ := [.val (webD f n ts), .val (tiesD g ws), .val (wsD h w), .val (.int whole), .own [webD true n ts, tiesD true ws, wsD true w], .own ((rights n ts ws).map (natsD true)), .val (iN (rights n ts ws).length), .no, .no, .no, .no, .no]) ⟨_, _, rfl⟩ (by
        rintro k hk ρ ⟨t7, t8, rfl⟩
        obtain ⟨u8, e⟩ := b46_ok (Γ := Γ) W G (k := k) (by simp at hk; omega) (.val (webD f n ts)) (.val (tiesD g ws)) (.val (wsD h w)) (.val (.int whole)) (.val (iN (rights n ts ws).length)) t7 t8 .no .no .no
        exact ⟨_, e, _, _, rfl⟩)
    subst e9
    have hr' := eq_false hr
    have eb : b_law_one_right2 = (match b_law_one_right2 with
      | .seq a (.seq b (.seq c (.seq d (.seq (.loop t it _) r)))) => .seq a (.seq b (.seq c (.seq d (.seq (.loop t it b46_loop) r))))
      | s => s) := rfl
    rw [runB_eq, eb]
    simp only [b_law_one_right2]
    have cl := cut_last (rights n ts ws)[i]
    have qc := faith_nats true true (rights n ts ws)[i] (rights n ts ws)[i]
    have ap := fun ρ => appS_own (l := (rights n ts ws)[i].map iN) (x := 8) (ρ := ρ) (v := .int 0) (cap15 (by simp; omega))
    generalize (rights n ts ws)[i] = c at *
    unfold lsD at rn g2
    have hRR : ((rights n ts ws).map (natsD true)).length = (rights n ts ws).length := List.length_map ..
    generalize (sumsL (rights n ts ws) w).map D.int = S1 at *
    generalize (rights n ts ws).map (natsD true) = RR at *
    simp -implicitDefEqProofs [webD, tiesD, wsD, natsD, iN_eq] at g1 g2 g3 g5 q1 q2 rn im ix e c7 qc
    simp -implicitDefEqProofs [webD, tiesD, wsD, natsD, iN_eq, g1, g2, g3, g5, l0, l1, l2, l3, q1, q2, rn, hr', md, hu, hv, e, c7, sl, mn, im, ix, qc, ap, cl, hRR]
end
end Wt
namespace Lv
/-- a piece: what goes from place to place along its ties, goes all through it -/
def Conn {α : Type} (E : List (α × α)) (p : List α) : Prop := ∀ A : α → Prop, (∃ v, v ∈ p ∧ A v) → (∀ e ∈ E, e.1 ∈ p → e.2 ∈ p → (A e.1 ↔ A e.2)) → ∀ v ∈ p, A v
theorem Conn.nil {α : Type} (E : List (α × α)) : Conn E [] := fun A ⟨v, h, _⟩ => by cases h
theorem Conn.mono {α : Type} {E E' : List (α × α)} {p : List α} (s : ∀ e ∈ E, e ∈ E') (h : Conn E p) : Conn E' p := fun A a k => h A a fun e he => k e (s e he)
theorem Conn.one {α : Type} (E : List (α × α)) (v : α) : Conn E [v] := fun A ⟨w, h, a⟩ _ x hx => by
  simp at h hx; subst h; subst hx; exact a
/-- two pieces that a tie joins -/
theorem Conn.join {α : Type} {E : List (α × α)} {p q r : List α} (hp : Conn E p) (hq : Conn E q) (hr : ∀ v, v ∈ r ↔ v ∈ p ∨ v ∈ q) {e : α × α} (he : e ∈ E) (h1 : (e.1 ∈ p ∧ e.2 ∈ q) ∨ (e.2 ∈ p ∧ e.1 ∈ q)) : Conn E r := by
  intro A ⟨v, hv, av⟩ k
  have kp : ∀ e ∈ E, e.1 ∈ p → e.2 ∈ p → (A e.1 ↔ A e.2) := fun e he a b => k e he ((hr _).mpr (.inl a)) ((hr _).mpr (.inl b))
  have kq : ∀ e ∈ E, e.1 ∈ q → e.2 ∈ q → (A e.1 ↔ A e.2) := fun e he a b => k e he ((hr _).mpr (.inr a)) ((hr _).mpr (.inr b))
  have both : (∀ v ∈ p, A v) ∧ (∀ v ∈ q, A v) := by
    rcases (hr v).mp hv with hv | hv
    · have ap := hp A ⟨v, hv, av⟩ kp
      refine ⟨ap, ?_⟩
      rcases h1 with ⟨a, b⟩ | ⟨a, b⟩
      · exact hq A ⟨e.2, b, (k e he ((hr _).mpr (.inl a)) ((hr _).mpr (.inr b))).mp (ap _ a)⟩ kq
      · exact hq A ⟨e.1, b, (k e he ((hr _).mpr (.inr b)) ((hr _).mpr (.inl a))).mpr (ap _ a)⟩ kq
    · have aq := hq A ⟨v, hv, av⟩ kq
      refine ⟨?_, aq⟩
      rcases h1 with ⟨a, b⟩ | ⟨a, b⟩
      · exact hp A ⟨e.1, a, (k e he ((hr _).mpr (.inl a)) ((hr _).mpr (.inr b))).mpr (aq _ b)⟩ kp
      · exact hp A ⟨e.2, a, (k e he ((hr _).mpr (.inr b)) ((hr _).mpr (.inl a))).mp (aq _ b)⟩ kp
  intro w hw
  rcases (hr w).mp hw with hw | hw
  · exact both.1 w hw
  · exact both.2 w hw
end Lv
/-! ## Degrees that can be had: the exchange of two choices -/
namespace Lv
def sm {α : Type} : List α → (α → Int) → Int
  | [], _ => 0
  | x :: r, g => g x + sm r g
theorem sm_congr {α : Type} {g h : α → Int} : ∀ {l : List α}, (∀ v ∈ l, g v = h v) → sm l g = sm l h
  | [], _ => rfl
  | x :: r, k => by
    rw [sm, sm, k x (List.mem_cons_self ..), sm_congr fun v hv => k v (List.mem_cons_of_mem _ hv)]
theorem sm_add {α : Type} (g h : α → Int) : ∀ l : List α, sm l (fun v => g v + h v) = sm l g + sm l h
  | [] => rfl
  | x :: r => by simp only [sm]; rw [sm_add g h r]; omega
theorem sm_sub {α : Type} (g h : α → Int) : ∀ l : List α, sm l (fun v => g v - h v) = sm l g - sm l h
  | [] => rfl
  | x :: r => by simp only [sm]; rw [sm_sub g h r]; omega
theorem sm_zero {α : Type} {g : α → Int} {l : List α} (h : ∀ v ∈ l, g v = 0) : sm l g = 0 := by
  rw [sm_congr (h := fun _ => 0) h]
  clear h
  induction l with
  | nil => rfl
  | cons x r ih => simp only [sm]; omega
theorem sm_le {α : Type} {g h : α → Int} : ∀ {l : List α}, (∀ v ∈ l, g v ≤ h v) → sm l g ≤ sm l h
  | [], _ => Int.le_refl _
  | x :: r, k => by
    have h1 := k x (List.mem_cons_self ..)
    have h2 := sm_le (l := r) fun v hv => k v (List.mem_cons_of_mem _ hv)
    simp only [sm]; omega
theorem sm_nonneg {α : Type} {g : α → Int} {l : List α} (h : ∀ v ∈ l, 0 ≤ g v) : 0 ≤ sm l g := by
  have := sm_le (g := fun _ => 0) h
  rw [sm_zero (g := fun _ => 0) (fun _ _ => rfl)] at this
  exact this
theorem sm_append {α : Type} (g : α → Int) : ∀ l k : List α, sm (l ++ k) g = sm l g + sm k g
  | [], k => by simp [sm]
  | x :: r, k => by simp only [List.cons_append, sm]; rw [sm_append g r k]; omega
theorem sm_perm {α : Type} {g : α → Int} {l k : List α} (h : l.Perm k) : sm l g = sm k g := by
  induction h with
  | nil => rfl
  | cons x _ ih => simp only [sm, ih]
  | swap x y l => simp only [sm]; omega
  | trans _ _ h1 h2 => exact h1.trans h2
theorem sm_flatten {α : Type} (g : α → Int) : ∀ P : List (List α), sm P.flatten g = sm P fun p => sm p g
  | [] => rfl
  | p :: r => by rw [List.flatten_cons, sm_append, sm_flatten g r]; rfl
theorem sm_comm {α β : Type} (g : α → β → Int) (k : List β) : ∀ l : List α, sm l (fun a => sm k fun b => g a b) = sm k fun b => sm l fun a => g a b
  | [] => (sm_zero fun _ _ => rfl).symm
  | x :: r => by
    simp only [sm]
    rw [sm_comm g k r, ← sm_add]
theorem sm_filter {α : Type} (p : α → Bool) (g : α → Int) : ∀ l : List α, sm (l.filter p) g = sm l fun v => if p v = true then g v else 0
  | [] => rfl
  | x :: r => by
    rw [List.filter_cons]
    simp only [sm]
    split
    · rw [sm, sm_filter p g r]
    · rw [sm_filter p g r]; omega
theorem sm_map {α β : Type} (t : α → β) (g : β → Int) : ∀ l : List α, sm (l.map t) g = sm l fun a => g (t a)
  | [] => rfl
  | x :: r => by rw [List.map_cons, sm, sm, sm_map t g r]
section
variable {α : Type} [DecidableEq α]
theorem sm_point {g h : α → Int} {v : α} : ∀ {l : List α}, l.Nodup → v ∈ l → (∀ w ∈ l, w ≠ v → g w = h w) → sm l g - sm l h = g v - h v
  | [], _, m, _ => by cases m
  | x :: r, nd, m, k => by
    have nd' := List.nodup_cons.mp nd
    by_cases hx : x = v
    · subst hx
      have : sm r g = sm r h := sm_congr fun w hw => k w (List.mem_cons_of_mem _ hw) fun z => nd'.1 (z ▸ hw)
      simp only [sm]; omega
    · have m' : v ∈ r := by
        rcases List.mem_cons.mp m with z | z
        · exact absurd z.symm hx
        · exact z
      have h1 := sm_point nd'.2 m' fun w hw => k w (List.mem_cons_of_mem _ hw)
      have h2 := k x (List.mem_cons_self ..) hx
      simp only [sm]; omega
def ab (z : Int) : Int := if z < 0 then -z else z
def one (v : α) (s : Int) : α → Int := fun w => if w = v then s else 0
theorem one_self (v : α) (s : Int) : one v s v = s := by simp [one]
theorem one_ne {v w : α} (s : Int) (h : w ≠ v) : one v s w = 0 := by simp [one, h]
def inc (e : α × α) : α → Int := fun w => one e.1 1 w + one e.2 1 w
def deg (E : List (α × α)) (c : α × α → Bool) (w : α) : Int := sm E fun e => if c e = true then inc e w else 0
def cost (Vs : List α) (f x : α → Int) : Int := sm Vs fun v => ab (f v - x v)
theorem cost_nonneg (Vs : List α) (f x : α → Int) : 0 ≤ cost Vs f x := sm_nonneg fun v _ => by unfold ab; split <;> omega
theorem cost_congr {Vs : List α} {f x f' x' : α → Int} (h : ∀ w ∈ Vs, f w - x w = f' w - x' w) : cost Vs f x = cost Vs f' x' := sm_congr fun w hw => by show ab (f w - x w) = ab (f' w - x' w); rw [h w hw]
theorem cost_one {Vs : List α} (nd : Vs.Nodup) {v : α} (hv : v ∈ Vs) (f x : α → Int) (s : Int) : cost Vs (fun w => f w + one v s w) x = cost Vs f x - ab (f v - x v) + ab (f v + s - x v) := by
  have := sm_point (g := fun w => ab (f w + one v s w - x w)) (h := fun w => ab (f w - x w)) nd hv fun w _ hw => by
    show ab (f w + one v s w - x w) = ab (f w - x w)
    rw [one_ne s hw, Int.add_zero]
  simp only [one_self] at this
  show sm Vs (fun w => ab (f w + one v s w - x w)) = sm Vs (fun w => ab (f w - x w)) - _ + _
  omega
/-- a choice with one tie set -/
def setc (c : α × α → Bool) (e : α × α) (b : Bool) : α × α → Bool := fun a => if a = e then b else c a
theorem setc_self (c : α × α → Bool) (e : α × α) (b : Bool) : setc c e b e = b := by simp [setc]
theorem setc_ne (c : α × α → Bool) {e a : α × α} (b : Bool) (h : a ≠ e) : setc c e b a = c a := by simp [setc, h]
theorem deg_set {E : List (α × α)} (nd : E.Nodup) {e : α × α} (he : e ∈ E) (c : α × α → Bool) (b : Bool) (w : α) : deg E (setc c e b) w = deg E c w - (if c e = true then inc e w else 0) + (if b = true then inc e w else 0) := by
  have := sm_point (g := fun a => if setc c e b a = true then inc a w else 0) (h := fun a => if c a = true then inc a w else 0) nd he fun a _ ha => by
    show (if setc c e b a = true then inc a w else 0) = _
    rw [setc_ne c b ha]
  simp only [setc_self] at this
  unfold deg
  omega
/-- how many ties they differ in -/
def dis (E : List (α × α)) (c c' : α × α → Bool) : Int := sm E fun e => if c e = c' e then 0 else 1
theorem dis_nonneg (E : List (α × α)) (c c' : α × α → Bool) : 0 ≤ dis E c c' := sm_nonneg fun e _ => by
  show 0 ≤ (if c e = c' e then (0 : Int) else 1)
  split <;> decide
theorem dis_set {E : List (α × α)} (nd : E.Nodup) {e : α × α} (he : e ∈ E) {c c' : α × α → Bool} (h : c e ≠ c' e) : dis E c (setc c' e (c e)) = dis E c c' - 1 := by
  have := sm_point (g := fun a => if c a = setc c' e (c e) a then (0 : Int) else 1) (h := fun a => if c a = c' a then (0 : Int) else 1) nd he fun a _ ha => by
    show (if c a = setc c' e (c e) a then (0 : Int) else 1) = _
    rw [setc_ne c' _ ha]
  simp only [setc_self, if_pos, if_neg h] at this
  unfold dis
  omega
/-- a step, or none, from p toward q -/
def Stp (Vs : List α) (p q g : α → Int) : Prop := (∀ w, g w = 0) ∨ ∃ u, u ∈ Vs ∧ ((p u < q u ∧ ∀ w, g w = one u 1 w) ∨ (q u < p u ∧ ∀ w, g w = one u (-1) w))
theorem lt_ex {β : Type} {g h : β → Int} {l : List β} (k : sm l g < sm l h) : ∃ e, e ∈ l ∧ g e < h e := by
  apply Classical.byContradiction
  intro z
  have := sm_le (g := h) (h := g) (l := l) fun v hv => by
    apply Classical.byContradiction
    intro y
    exact z ⟨v, hv, by omega⟩
  omega
structure Gr (Vs : List α) (E : List (α × α)) : Prop where
  nv : Vs.Nodup
  ne : E.Nodup
  si : ∀ e ∈ E, e.1 ≠ e.2 ∧ e.1 ∈ Vs ∧ e.2 ∈ Vs
def ExS (Vs : List α) (E : List (α × α)) (s : Int) (n : Nat) : Prop := ∀ (f f' : α → Int) (c c' : α × α → Bool) (v : α), v ∈ Vs → 0 < (f' v - f v) * s → dis E c c' ≤ n →
  ∃ (d d' : α × α → Bool) (g : α → Int), (∀ e ∈ E, c e = c' e → d e = c e ∧ d' e = c e) ∧ Stp Vs (fun w => f w + one v s w) f' g ∧
    cost Vs (fun w => f w + one v s w + g w) (deg E d) + cost Vs (fun w => f' w - one v s w - g w) (deg E d') ≤ cost Vs f (deg E c) + cost Vs f' (deg E c')
theorem ab_up (z : Int) : ab (z + 1) ≤ ab z + 1 ∧ ab (z - 1) ≤ ab z + 1 ∧ (z < 0 → ab (z + 1) = ab z - 1) ∧ (0 < z → ab (z - 1) = ab z - 1) := by
  unfold ab; refine ⟨?_, ?_, fun _ => ?_, fun _ => ?_⟩ <;> repeat' split
  all_goals omega
theorem dis_comm (E : List (α × α)) (c c' : α × α → Bool) : dis E c c' = dis E c' c := sm_congr fun e _ => by
  show (if c e = c' e then (0 : Int) else 1) = if c' e = c e then 0 else 1
  by_cases h : c e = c' e
  · rw [if_pos h, if_pos h.symm]
  · rw [if_neg h, if_neg fun z => h z.symm]
theorem exS_neg {Vs : List α} {E : List (α × α)} {n : Nat} (h : ExS Vs E 1 n) : ExS Vs E (-1) n := by
  intro f f' c c' v hv hlt hn
  obtain ⟨d, d', g, h1, h2, h3⟩ := h f' f c' c v hv (by omega) (by rw [dis_comm]; exact hn)
  refine ⟨d', d, fun w => - g w, fun e he hc => ?_, ?_, ?_⟩
  · obtain ⟨k1, k2⟩ := h1 e he hc.symm
    exact ⟨by rw [k2, hc], by rw [k1, hc]⟩
  · have on : ∀ w, one v (-1) w = - one v 1 w := fun w => by unfold one; split <;> omega
    rcases h2 with h2 | ⟨u, hu, h2⟩
    · exact .inl fun w => by show - g w = 0; rw [h2 w]; rfl
    · refine .inr ⟨u, hu, ?_⟩
      rcases h2 with ⟨k1, k2⟩ | ⟨k1, k2⟩
      · have k1 : f' u + one v 1 u < f u := k1
        refine .inr ⟨by show f' u < f u + one v (-1) u; rw [on]; omega, fun w => by show - g w = _; rw [k2 w]; unfold one; split <;> omega⟩
      · have k1 : f u < f' u + one v 1 u := k1
        refine .inl ⟨by show f u + one v (-1) u < f' u; rw [on]; omega, fun w => by show - g w = _; rw [k2 w]; unfold one; split <;> omega⟩
  · have on : ∀ w, one v (-1) w = - one v 1 w := fun w => by unfold one; split <;> omega
    have e1 : cost Vs (fun w => f w + one v (-1) w + - g w) (deg E d') = cost Vs (fun w => f w - one v 1 w - g w) (deg E d') := cost_congr fun w _ => by show f w + one v (-1) w + - g w - _ = f w - one v 1 w - g w - _; rw [on]; omega
    have e2 : cost Vs (fun w => f' w - one v (-1) w - - g w) (deg E d) = cost Vs (fun w => f' w + one v 1 w + g w) (deg E d) := cost_congr fun w _ => by show f' w - one v (-1) w - - g w - _ = f' w + one v 1 w + g w - _; rw [on]; omega
    show cost Vs (fun w => f w + one v (-1) w + - g w) (deg E d') + cost Vs (fun w => f' w - one v (-1) w - - g w) (deg E d) ≤ _
    rw [e1, e2]; omega
theorem exS_pos {Vs : List α} {E : List (α × α)} (G : Gr Vs E) {n : Nat} (ih : ∀ m, m < n → ExS Vs E (-1) m) : ExS Vs E 1 n := by
  intro f f' c c' v hv hlt hn
  have hlt : f v < f' v := by omega
  have z0 : ∀ (p : α → Int) (x : α → Int), cost Vs (fun w => p w + 0) x = cost Vs p x := fun p x => cost_congr fun w _ => by show p w + 0 - _ = _; omega
  have up := cost_one G.nv hv f (deg E c) 1
  have dn := cost_one G.nv hv f' (deg E c') (-1)
  have a1 := ab_up (f v - deg E c v)
  have a2 := ab_up (f' v - deg E c' v)
  have r1 : f v + 1 - deg E c v = f v - deg E c v + 1 := by omega
  have r2 : f' v + -1 - deg E c' v = f' v - deg E c' v - 1 := by omega
  rw [r1] at up
  rw [r2] at dn
  have on : ∀ w, one v (-1) w = - one v 1 w := fun w => by unfold one; split <;> omega
  have e1 : cost Vs (fun w => f w + one v 1 w + 0) (deg E c) = cost Vs (fun w => f w + one v 1 w) (deg E c) := z0 _ _
  have e2 : cost Vs (fun w => f' w - one v 1 w - 0) (deg E c') = cost Vs (fun w => f' w + one v (-1) w) (deg E c') := cost_congr fun w _ => by show f' w - one v 1 w - 0 - _ = f' w + one v (-1) w - _; rw [on]; omega
  by_cases h1 : f v < deg E c v
  · refine ⟨c, c', fun _ => 0, fun e _ h => ⟨rfl, h.symm⟩, .inl fun _ => rfl, ?_⟩
    show cost Vs (fun w => f w + one v 1 w + 0) (deg E c) + cost Vs (fun w => f' w - one v 1 w - 0) (deg E c') ≤ _
    rw [e1, e2, up, dn]
    have := a1.2.2.1 (by omega)
    omega
  by_cases h2 : deg E c' v < f' v
  · refine ⟨c, c', fun _ => 0, fun e _ h => ⟨rfl, h.symm⟩, .inl fun _ => rfl, ?_⟩
    show cost Vs (fun w => f w + one v 1 w + 0) (deg E c) + cost Vs (fun w => f' w - one v 1 w - 0) (deg E c') ≤ _
    rw [e1, e2, up, dn]
    have := a2.2.2.2 (by omega)
    omega
  obtain ⟨e, he, hd⟩ := lt_ex (show deg E c v < deg E c' v by omega)
  have hinc : 0 ≤ inc e v := by unfold inc one; split <;> split <;> omega
  have hc : c e = false := by
    cases hh : c e with
    | false => rfl
    | true =>
      rw [hh] at hd
      simp only [if_true] at hd
      split at hd <;> omega
  have hc' : c' e = true := by
    cases hh : c' e with
    | true => rfl
    | false =>
      rw [hh, hc] at hd
      simp at hd
  rw [hc, hc'] at hd
  simp only [Bool.false_eq_true, if_false, if_true] at hd
  obtain ⟨s1, s2, s3⟩ := G.si e he
  obtain ⟨w, hw, hwv, hi⟩ : ∃ w, w ∈ Vs ∧ w ≠ v ∧ ∀ x, inc e x = one v 1 x + one w 1 x := by
    by_cases hv1 : v = e.1
    · exact ⟨e.2, s3, fun z => s1 (by rw [← hv1, z]), fun x => by rw [hv1]; rfl⟩
    · have hv2 : v = e.2 := by
        apply Classical.byContradiction
        intro hv2
        unfold inc at hd
        rw [one_ne _ hv1, one_ne _ hv2] at hd
        omega
      exact ⟨e.1, s2, fun z => s1 (by rw [← hv2, z]), fun x => by rw [hv2]; unfold inc; omega⟩
  have hne : c e ≠ c' e := by rw [hc, hc']; decide
  have ds := dis_set G.ne he hne
  rw [hc] at ds
  have dn0 := dis_nonneg E c (setc c' e false)
  have dg : ∀ x, deg E (setc c' e false) x = deg E c' x - inc e x := fun x => by rw [deg_set G.ne he, hc']; simp
  by_cases h3 : f w < f' w
  · refine ⟨setc c e true, setc c' e false, one w 1, fun a _ h => ?_, .inr ⟨w, hw, .inl ⟨?_, fun _ => rfl⟩⟩, ?_⟩
    · by_cases ha : a = e
      · subst ha; exact absurd h hne
      · rw [setc_ne _ _ ha, setc_ne _ _ ha]; exact ⟨rfl, h.symm⟩
    · show f w + one v 1 w < f' w
      rw [one_ne _ hwv]; omega
    · have k1 : cost Vs (fun x => f x + one v 1 x + one w 1 x) (deg E (setc c e true)) = cost Vs f (deg E c) := cost_congr fun x _ => by
        show f x + one v 1 x + one w 1 x - _ = _
        rw [deg_set G.ne he, hc, hi]; simp; omega
      have k2 : cost Vs (fun x => f' x - one v 1 x - one w 1 x) (deg E (setc c' e false)) = cost Vs f' (deg E c') := cost_congr fun x _ => by
        show f' x - one v 1 x - one w 1 x - _ = _
        rw [dg, hi]; omega
      rw [k1, k2]; omega
  · cases n with
    | zero => omega
    | succ n =>
      obtain ⟨d, d', g, g1, g2, g3⟩ := ih n (Nat.lt_succ_self n) f (fun x => f' x - one v 1 x - one w 1 x) c (setc c' e false) w hw (by
        show 0 < (f' w - one v 1 w - one w 1 w - f w) * -1
        rw [one_ne _ hwv, one_self]; omega) (by omega)
      have ge := g1 e he (by rw [setc_self]; exact hc)
      have onw : ∀ x, one w (-1) x = - one w 1 x := fun x => by unfold one; split <;> omega
      refine ⟨setc d e true, d', g, fun a ha h => ?_, ?_, ?_⟩
      · have hae : a ≠ e := fun z => hne (z ▸ h)
        rw [setc_ne _ _ hae]
        exact g1 a ha (by rw [setc_ne _ _ hae]; exact h)
      · rcases g2 with g2 | ⟨u, hu, g2⟩
        · exact .inl g2
        · refine .inr ⟨u, hu, ?_⟩
          have key : (f u + one v 1 u < f' u ↔ f u + one w (-1) u < f' u - one v 1 u - one w 1 u) ∧ (f' u < f u + one v 1 u ↔ f' u - one v 1 u - one w 1 u < f u + one w (-1) u) := by
            rw [onw]; constructor <;> constructor <;> intro _ <;> omega
          rcases g2 with ⟨q1, q2⟩ | ⟨q1, q2⟩
          · exact .inl ⟨key.1.mpr q1, q2⟩
          · exact .inr ⟨key.2.mpr q1, q2⟩
      · have k0 : cost Vs (fun x => f' x - one v 1 x - one w 1 x) (deg E (setc c' e false)) = cost Vs f' (deg E c') := cost_congr fun x _ => by
          show f' x - one v 1 x - one w 1 x - _ = _
          rw [dg, hi]; omega
        have k1 : cost Vs (fun x => f x + one v 1 x + g x) (deg E (setc d e true)) = cost Vs (fun x => f x + one w (-1) x + g x) (deg E d) := cost_congr fun x _ => by
          show f x + one v 1 x + g x - _ = f x + one w (-1) x + g x - _
          rw [deg_set G.ne he, ge.1, hc, hi, onw]; simp; omega
        have k2 : cost Vs (fun x => f' x - one v 1 x - g x) (deg E d') = cost Vs (fun x => f' x - one v 1 x - one w 1 x - one w (-1) x - g x) (deg E d') := cost_congr fun x _ => by
          show f' x - one v 1 x - g x - _ = f' x - one v 1 x - one w 1 x - one w (-1) x - g x - _
          rw [onw]; omega
        have g3 : cost Vs (fun x => f x + one w (-1) x + g x) (deg E d) + cost Vs (fun x => f' x - one v 1 x - one w 1 x - one w (-1) x - g x) (deg E d') ≤ cost Vs f (deg E c) + cost Vs (fun x => f' x - one v 1 x - one w 1 x) (deg E (setc c' e false)) := g3
        rw [k0] at g3
        rw [k1, k2]; exact g3
theorem exS_all {Vs : List α} {E : List (α × α)} (G : Gr Vs E) : ∀ n : Nat, ExS Vs E 1 n ∧ ExS Vs E (-1) n := by
  intro n
  induction n using Nat.strongRecOn with
  | _ n ih =>
    have p := exS_pos G fun m hm => (ih m hm).2
    exact ⟨p, exS_neg p⟩
/-! ### the least distance -/
theorem best_ex (Vs : List α) (E : List (α × α)) (f : α → Int) : ∃ c : α × α → Bool, ∀ c', cost Vs f (deg E c) ≤ cost Vs f (deg E c') := by
  have main : ∀ (n : Nat) (c : α × α → Bool), cost Vs f (deg E c) ≤ n → ∃ c : α × α → Bool, ∀ c', cost Vs f (deg E c) ≤ cost Vs f (deg E c') := by
    intro n
    induction n with
    | zero => exact fun c h => ⟨c, fun c' => by have := cost_nonneg Vs f (deg E c'); omega⟩
    | succ n ih =>
      intro c h
      by_cases k : ∃ c', cost Vs f (deg E c') < cost Vs f (deg E c)
      · obtain ⟨c', k⟩ := k
        exact ih c' (by omega)
      · exact ⟨c, fun c' => by
          apply Classical.byContradiction
          intro z
          exact k ⟨c', by omega⟩⟩
  exact main (cost Vs f (deg E fun _ => false)).toNat (fun _ => false) (by have := cost_nonneg Vs f (deg E fun _ => false); omega)
noncomputable def dl (Vs : List α) (E : List (α × α)) (f : α → Int) : Int := cost Vs f (deg E (Classical.choose (best_ex Vs E f)))
theorem dl_le (Vs : List α) (E : List (α × α)) (f : α → Int) (c : α × α → Bool) : dl Vs E f ≤ cost Vs f (deg E c) := Classical.choose_spec (best_ex Vs E f) c
theorem dl_at (Vs : List α) (E : List (α × α)) (f : α → Int) : ∃ c, cost Vs f (deg E c) = dl Vs E f := ⟨_, rfl⟩
theorem dl_nonneg (Vs : List α) (E : List (α × α)) (f : α → Int) : 0 ≤ dl Vs E f := cost_nonneg _ _ _
theorem dl_mono {Vs : List α} {E : List (α × α)} {f f' : α → Int} (h : ∀ w ∈ Vs, f w = f' w) : dl Vs E f ≤ dl Vs E f' := by
  obtain ⟨c, hc⟩ := dl_at Vs E f'
  rw [← hc, ← cost_congr (f := f) (x := deg E c) fun w hw => by rw [h w hw]]
  exact dl_le _ _ _ _
theorem dl_congr {Vs : List α} {E : List (α × α)} {f f' : α → Int} (h : ∀ w ∈ Vs, f w = f' w) : dl Vs E f = dl Vs E f' :=
  Int.le_antisymm (dl_mono h) (dl_mono fun w hw => (h w hw).symm)
theorem dl_ex {Vs : List α} {E : List (α × α)} (G : Gr Vs E) {f f' : α → Int} {v : α} {s : Int} (hs : s = 1 ∨ s = -1) (hv : v ∈ Vs) (h : 0 < (f' v - f v) * s) :
    ∃ g, Stp Vs (fun w => f w + one v s w) f' g ∧ dl Vs E (fun w => f w + one v s w + g w) + dl Vs E (fun w => f' w - one v s w - g w) ≤ dl Vs E f + dl Vs E f' := by
  obtain ⟨c, hc⟩ := dl_at Vs E f
  obtain ⟨c', hc'⟩ := dl_at Vs E f'
  have X : ExS Vs E s (dis E c c').toNat := by
    rcases hs with rfl | rfl
    · exact (exS_all G _).1
    · exact (exS_all G _).2
  obtain ⟨d, d', g, _, h2, h3⟩ := X f f' c c' v hv h (by have := dis_nonneg E c c'; omega)
  refine ⟨g, h2, ?_⟩
  have := dl_le Vs E (fun w => f w + one v s w + g w) d
  have := dl_le Vs E (fun w => f' w - one v s w - g w) d'
  omega
theorem sm_one {l : List α} (nd : l.Nodup) {v : α} (hv : v ∈ l) (s : Int) : sm l (one v s) = s := by
  have := sm_point (g := one v s) (h := fun _ => 0) nd hv fun w _ hw => one_ne s hw
  rw [sm_zero (g := fun _ => 0) fun _ _ => rfl, one_self] at this
  omega
theorem sm_inc {Vs : List α} {E : List (α × α)} (G : Gr Vs E) {e : α × α} (he : e ∈ E) : sm Vs (inc e) = 2 := by
  obtain ⟨s1, s2, s3⟩ := G.si e he
  have := sm_add (one e.1 1) (one e.2 1) Vs
  rw [sm_one G.nv s2, sm_one G.nv s3] at this
  exact this
theorem deg_even {Vs : List α} {E : List (α × α)} (G : Gr Vs E) (c : α × α → Bool) : sm Vs (deg E c) % 2 = 0 := by
  unfold deg
  rw [sm_comm (fun v e => if c e = true then inc e v else 0) E Vs]
  have : ∀ l : List (α × α), (∀ e ∈ l, e ∈ E) → sm l (fun e => sm Vs fun v => if c e = true then inc e v else 0) % 2 = 0 := by
    intro l
    induction l with
    | nil => intro _; rfl
    | cons e r ih =>
      intro h
      have h1 := ih fun a ha => h a (List.mem_cons_of_mem _ ha)
      have h2 := sm_inc G (h e (List.mem_cons_self ..))
      simp only [sm]
      cases hc : c e with
      | false => simp only [Bool.false_eq_true, if_false]; rw [sm_zero (g := fun _ => 0) fun _ _ => rfl]; omega
      | true => simp only [if_true]; rw [show sm Vs (fun v => inc e v) = 2 from h2]; omega
  exact this E fun e he => he
theorem cost_par (f x : α → Int) : ∀ l : List α, (cost l f x - sm l f - sm l x) % 2 = 0
  | [] => rfl
  | v :: r => by
    have ih := cost_par f x r
    unfold cost at ih ⊢
    simp only [sm]
    have : (ab (f v - x v) - f v - x v) % 2 = 0 := by unfold ab; split <;> omega
    omega
theorem dl_par {Vs : List α} {E : List (α × α)} (G : Gr Vs E) (f : α → Int) : (dl Vs E f - sm Vs f) % 2 = 0 := by
  obtain ⟨c, hc⟩ := dl_at Vs E f
  have h1 := cost_par f (deg E c) Vs
  have h2 := deg_even G c
  omega
theorem dl_one_le {Vs : List α} {E : List (α × α)} (G : Gr Vs E) (f : α → Int) {v : α} (hv : v ∈ Vs) {s : Int} (hs : s = 1 ∨ s = -1) : dl Vs E (fun w => f w + one v s w) ≤ dl Vs E f + 1 := by
  obtain ⟨c, hc⟩ := dl_at Vs E f
  have h1 := dl_le Vs E (fun w => f w + one v s w) c
  rw [cost_one G.nv hv] at h1
  have := ab_up (f v - deg E c v)
  rcases hs with rfl | rfl
  · have r : f v + 1 - deg E c v = f v - deg E c v + 1 := by omega
    rw [r] at h1; omega
  · have r : f v + -1 - deg E c v = f v - deg E c v - 1 := by omega
    rw [r] at h1; omega
theorem dl_one {Vs : List α} {E : List (α × α)} (G : Gr Vs E) (f : α → Int) {v : α} (hv : v ∈ Vs) {s : Int} (hs : s = 1 ∨ s = -1) : dl Vs E (fun w => f w + one v s w) = dl Vs E f + 1 ∨ dl Vs E (fun w => f w + one v s w) = dl Vs E f - 1 := by
  have h1 := dl_one_le G f hv hs
  have h2 := dl_one_le G (fun w => f w + one v s w) hv (s := -s) (by omega)
  have e : dl Vs E (fun w => f w + one v s w + one v (-s) w) = dl Vs E f := dl_congr fun w _ => by
    show f w + one v s w + one v (-s) w = f w
    unfold one; split <;> omega
  have h2 : dl Vs E (fun w => f w + one v s w + one v (-s) w) ≤ dl Vs E (fun w => f w + one v s w) + 1 := h2
  rw [e] at h2
  have h3 := dl_par G f
  have h4 := dl_par G fun w => f w + one v s w
  rw [sm_add, sm_one G.nv hv] at h4
  omega
end
end Lv
/-! ## The pieces are the pieces -/
namespace Wt
open PySem L2 Lv
structure Pcs (n : Nat) (ts : List (Nat × Nat)) (out : List Nat) (P : List (List Nat)) : Prop where
  nd : P.flatten.Nodup
  mem : ∀ v, v ∈ P.flatten ↔ v < n ∧ v ∉ out
  closed : ∀ t ∈ ts, t.1 ∉ out → t.2 ∉ out → ∀ p ∈ P, (t.1 ∈ p ↔ t.2 ∈ p)
  conn : ∀ p ∈ P, Conn ts p
  ne : ∀ p ∈ P, p ≠ []
theorem perm_of {l k : List Nat} (hl : l.Nodup) (hk : k.Nodup) (h : ∀ v, v ∈ l ↔ v ∈ k) : l.Perm k := by
  induction l generalizing k with
  | nil =>
    cases k with
    | nil => exact .nil
    | cons x k => exact absurd ((h x).mpr (List.mem_cons_self ..)) (by simp)
  | cons x l ih =>
    obtain ⟨hx, hl'⟩ := List.nodup_cons.mp hl
    obtain ⟨a, b, rfl⟩ := List.append_of_mem ((h x).mp (List.mem_cons_self ..))
    have pm : (a ++ x :: b).Perm (x :: (a ++ b)) := List.perm_middle
    have hk' := pm.nodup_iff.mp hk
    obtain ⟨hx2, hk2⟩ := List.nodup_cons.mp hk'
    refine (List.Perm.cons x (ih hl' hk2 fun v => ?_)).trans pm.symm
    have hv := h v
    rw [pm.mem_iff, List.mem_cons, List.mem_cons] at hv
    constructor
    · intro z
      rcases hv.mp (.inr z) with e | e
      · subst e; exact absurd z hx
      · exact e
    · intro z
      rcases hv.mpr (.inr z) with e | e
      · subst e; exact absurd z hx2
      · exact e
theorem flat_nd {p : List Nat} {P : List (List Nat)} (h : P.flatten.Nodup) (hp : p ∈ P) : p.Nodup := by
  obtain ⟨a, b, rfl⟩ := List.append_of_mem hp
  rw [List.flatten_append, List.flatten_cons] at h
  exact (List.nodup_append.mp (List.nodup_append.mp h).2.1).1
theorem same_sm {φ : List Nat → Int} (inv : ∀ l k : List Nat, l.Perm k → φ l = φ k) : ∀ {P P' : List (List Nat)}, P.flatten.Nodup → P'.flatten.Nodup → (∀ p ∈ P, p ≠ []) → (∀ p ∈ P', p ≠ []) → (∀ p ∈ P, ∃ p' ∈ P', ∀ v, v ∈ p ↔ v ∈ p') → (∀ p' ∈ P', ∃ p ∈ P, ∀ v, v ∈ p ↔ v ∈ p') → sm P φ = sm P' φ
  | [], P', _, _, _, _, _, h => by
    cases P' with
    | nil => rfl
    | cons p' P' =>
      obtain ⟨p, hp, _⟩ := h p' (List.mem_cons_self ..)
      cases hp
  | p :: P, P', n1, n2, e1, e2, h1, h2 => by
    obtain ⟨p', hp', same⟩ := h1 p (List.mem_cons_self ..)
    obtain ⟨a, b, rfl⟩ := List.append_of_mem hp'
    have pm : (a ++ p' :: b).Perm (p' :: (a ++ b)) := List.perm_middle
    have n2' : (p' :: (a ++ b)).flatten.Nodup := (pm.flatten).nodup_iff.mp n2
    rw [List.flatten_cons] at n1 n2'
    obtain ⟨q1, q2, q3⟩ := List.nodup_append.mp n1
    obtain ⟨r1, r2, r3⟩ := List.nodup_append.mp n2'
    rw [sm_perm pm]
    simp only [sm]
    rw [inv p p' (perm_of q1 r1 same), same_sm inv q2 r2 (fun q hq => e1 q (List.mem_cons_of_mem _ hq)) (fun q hq => e2 q (pm.mem_iff.mpr (List.mem_cons_of_mem _ hq))) (fun q hq => ?_) (fun q' hq' => ?_)]
    · obtain ⟨q', hq', sq⟩ := h1 q (List.mem_cons_of_mem _ hq)
      rcases List.mem_cons.mp (pm.mem_iff.mp hq') with z | z
      · exfalso
        subst z
        obtain ⟨v, hv⟩ := List.exists_mem_of_ne_nil _ (e1 q (List.mem_cons_of_mem _ hq))
        exact q3 v ((same v).mpr ((sq v).mp hv)) v (List.mem_flatten.mpr ⟨q, hq, hv⟩) rfl
      · exact ⟨q', z, sq⟩
    · obtain ⟨q, hq, sq⟩ := h2 q' (pm.mem_iff.mpr (List.mem_cons_of_mem _ hq'))
      rcases List.mem_cons.mp hq with z | z
      · exfalso
        subst z
        obtain ⟨v, hv⟩ := List.exists_mem_of_ne_nil _ (e2 q' (pm.mem_iff.mpr (List.mem_cons_of_mem _ hq')))
        exact r3 v ((same v).mp ((sq v).mpr hv)) v (List.mem_flatten.mpr ⟨q', hq', hv⟩) rfl
      · exact ⟨q, z, sq⟩
theorem Pcs.sub {n : Nat} {ts : List (Nat × Nat)} {out : List Nat} {P P' : List (List Nat)} (a : Pcs n ts out P) (b : Pcs n ts out P') : ∀ p ∈ P, ∀ p' ∈ P', (∃ v, v ∈ p ∧ v ∈ p') → ∀ v ∈ p, v ∈ p' := by
  intro p hp p' hp' hv
  have mo : ∀ {v}, v ∈ p → v ∉ out := fun {v} h => ((a.mem v).mp (List.mem_flatten.mpr ⟨p, hp, h⟩)).2
  exact a.conn p hp (fun v => v ∈ p') hv fun e he h1 h2 => b.closed e he (mo h1) (mo h2) p' hp'
theorem Pcs.ex {n : Nat} {ts : List (Nat × Nat)} {out : List Nat} {P P' : List (List Nat)} (a : Pcs n ts out P) (b : Pcs n ts out P') : ∀ p ∈ P, ∃ p' ∈ P', ∀ v, v ∈ p ↔ v ∈ p' := by
  intro p hp
  obtain ⟨v, hv⟩ := List.exists_mem_of_ne_nil _ (a.ne p hp)
  obtain ⟨p', hp', hv'⟩ := List.mem_flatten.mp ((b.mem v).mpr ((a.mem v).mp (List.mem_flatten.mpr ⟨p, hp, hv⟩)))
  exact ⟨p', hp', fun w => ⟨a.sub b p hp p' hp' ⟨v, hv, hv'⟩ w, b.sub a p' hp' p hp ⟨v, hv', hv⟩ w⟩⟩
theorem Pcs.same {n : Nat} {ts : List (Nat × Nat)} {out : List Nat} {P P' : List (List Nat)} (a : Pcs n ts out P) (b : Pcs n ts out P') {φ : List Nat → Int} (inv : ∀ l k : List Nat, l.Perm k → φ l = φ k) : sm P φ = sm P' φ :=
  same_sm inv a.nd b.nd a.ne b.ne (a.ex b) fun p' hp' => by
    obtain ⟨p, hp, h⟩ := b.ex a p' hp'
    exact ⟨p, hp, fun v => (h v).symm⟩
/-! ### the pieces of the def -/
def castT (t : Nat × Nat) : Int × Int := (t.1, t.2)
def castL (l : List Nat) : List Int := l.map fun i : Nat => (i : Int)
def kvN (kn : List Nat) (μ : Nat → Int) : List (Int × Int) := kn.map fun k : Nat => ((k : Int), μ k)
def mstep (μ : Nat → Int) (t : Nat × Nat) : Nat → Int := fun k => if μ k = (if μ t.1 < μ t.2 then μ t.2 else μ t.1) then (if μ t.2 < μ t.1 then μ t.2 else μ t.1) else μ k
theorem lk_kv (kn : List Nat) (μ : Nat → Int) (a : Nat) : lkM (kvN kn μ) (a : Int) = if a ∈ kn then some (μ a) else none := by
  induction kn with
  | nil => rfl
  | cons k kn ih =>
    unfold lkM kvN at ih ⊢
    rw [List.map_cons, List.find?_cons]
    by_cases h : k = a
    · subst h; simp
    · have h1 : decide ((k : Int) = (a : Int)) = false := by simp; omega
      have h2 : a ≠ k := fun z => h z.symm
      simp only [h1, ih, List.mem_cons, h2, false_or]
theorem step_kv (kn : List Nat) (μ : Nat → Int) (t : Nat × Nat) : stepM (kvN kn μ) (castT t) = kvN kn (if t.1 ∈ kn ∧ t.2 ∈ kn then mstep μ t else μ) := by
  unfold stepM
  show (match lkM (kvN kn μ) ((t.1 : Nat) : Int), lkM (kvN kn μ) ((t.2 : Nat) : Int) with | some x, some y => (kvN kn μ).map (joinM (if y < x then y else x) (if x < y then y else x)) | _, _ => kvN kn μ) = _
  rw [lk_kv, lk_kv]
  by_cases h1 : t.1 ∈ kn
  · by_cases h2 : t.2 ∈ kn
    · rw [if_pos h1, if_pos h2, if_pos ⟨h1, h2⟩]
      show (kvN kn μ).map _ = _
      unfold kvN
      rw [List.map_map]
      apply List.map_congr_left
      intro k _
      rfl
    · rw [if_pos h1, if_neg h2, if_neg fun z => h2 z.2]
  · have : ¬ (t.1 ∈ kn ∧ t.2 ∈ kn) := fun z => h1 z.1
    rw [if_neg this, if_neg h1]
def muF (kn : List Nat) (ts : List (Nat × Nat)) (μ : Nat → Int) : Nat → Int := ts.foldl (fun μ t => if t.1 ∈ kn ∧ t.2 ∈ kn then mstep μ t else μ) μ
theorem fold_kv (kn : List Nat) : ∀ (ts : List (Nat × Nat)) (μ : Nat → Int), (ts.map castT).foldl stepM (kvN kn μ) = kvN kn (muF kn ts μ)
  | [], μ => rfl
  | t :: ts, μ => by rw [List.map_cons, List.foldl_cons, step_kv, fold_kv kn ts]; rfl
def restN (n : Nat) (os us : List Nat) : List Nat := (List.range n).filter fun p => !os.contains p && !us.contains p
theorem cont_cast (os : List Nat) (p : Nat) : (castL os).contains (p : Int) = os.contains p := by
  rw [Bool.eq_iff_iff, List.contains_iff_mem, List.contains_iff_mem]
  unfold castL
  rw [List.mem_map]
  constructor
  · rintro ⟨a, h, e⟩
    have : a = p := by exact_mod_cast e
    exact this ▸ h
  · exact fun h => ⟨p, h, rfl⟩
theorem marks0_kv (n : Nat) (os us : List Nat) : marks0 (n : Int) (castL os) (castL us) = kvN (restN n os us) fun k => k := by
  unfold marks0 kvN restN
  rw [Int.toNat_natCast, List.filter_map, List.map_map]
  congr 1
  apply List.filter_congr
  intro p _
  simp only [Function.comp, cont_cast]
/-- the def's pieces -/
def pcsN (n : Nat) (ts : List (Nat × Nat)) (os us : List Nat) : List (List Nat) :=
  (sortI ((restN n os us).map (muF (restN n os us) ts fun k => k))).map fun m => (restN n os us).filter fun k => decide (muF (restN n os us) ts (fun k => k) k = m)
theorem piecesI_N (n : Nat) (ts : List (Nat × Nat)) (os us : List Nat) : piecesI (n : Int) (ts.map castT) (castL os) (castL us) = (pcsN n ts os us).map castL := by
  unfold piecesI marksI pcsN
  rw [marks0_kv, fold_kv, List.map_map]
  have e : (kvN (restN n os us) (muF (restN n os us) ts fun k => k)).map (·.2) = (restN n os us).map (muF (restN n os us) ts fun k => k) := by unfold kvN; rw [List.map_map]; rfl
  rw [e]
  apply List.map_congr_left
  intro m _
  show ((kvN _ _).filter _).map _ = castL _
  unfold kvN castL
  rw [List.filter_map, List.map_map]
  rfl
/-! what joining does -/
structure JJ (kn : List Nat) (pre : List (Nat × Nat)) (μ : Nat → Int) : Prop where
  eq : ∀ t ∈ pre, t.1 ∈ kn → t.2 ∈ kn → μ t.1 = μ t.2
  conn : ∀ x, Conn pre (kn.filter fun k => decide (μ k = x))
theorem JJ.step {kn : List Nat} {pre : List (Nat × Nat)} {μ : Nat → Int} (J : JJ kn pre μ) (t : Nat × Nat) : JJ kn (pre ++ [t]) (if t.1 ∈ kn ∧ t.2 ∈ kn then mstep μ t else μ) := by
  have mono : ∀ {p}, Conn pre p → Conn (pre ++ [t]) p := fun h => h.mono fun e he => List.mem_append_left _ he
  by_cases h : t.1 ∈ kn ∧ t.2 ∈ kn
  · rw [if_pos h]
    have ht : mstep μ t t.1 = mstep μ t t.2 := by unfold mstep; repeat' split; all_goals omega
    refine ⟨fun e he h1 h2 => ?_, fun x => ?_⟩
    · rcases List.mem_append.mp he with he | he
      · unfold mstep; rw [J.eq e he h1 h2]
      · simp at he; subst he; exact ht
    · by_cases same : μ t.1 = μ t.2
      · have e : mstep μ t = μ := by
          funext k; unfold mstep; rw [same]
          repeat' split
          all_goals omega
        rw [e]; exact mono (J.conn x)
      · generalize hlo : (if μ t.2 < μ t.1 then μ t.2 else μ t.1) = lo
        generalize hhi : (if μ t.1 < μ t.2 then μ t.2 else μ t.1) = hi
        have ne : lo ≠ hi := by rw [← hlo, ← hhi]; repeat' split; all_goals omega
        have em : ∀ k, mstep μ t k = if μ k = hi then lo else μ k := fun k => by unfold mstep; rw [hlo, hhi]
        by_cases hx : x = hi
        · subst hx
          have : kn.filter (fun k => decide (mstep μ t k = x)) = [] := by
            rw [List.filter_eq_nil_iff]
            intro k _ z
            simp only [decide_eq_true_eq, em] at z
            split at z
            · exact ne z
            · contradiction
          rw [this]; exact Conn.nil _
        · by_cases hx2 : x = lo
          · subst hx2
            refine Conn.join (p := kn.filter fun k => decide (μ k = x)) (q := kn.filter fun k => decide (μ k = hi)) (e := t) (mono (J.conn x)) (mono (J.conn hi)) (fun v => ?_) (by simp) ?_
            · simp only [List.mem_filter, decide_eq_true_eq, em]
              constructor
              · rintro ⟨a, b⟩
                split at b
                · exact .inr ⟨a, by assumption⟩
                · exact .inl ⟨a, b⟩
              · rintro (⟨a, b⟩ | ⟨a, b⟩)
                · exact ⟨a, by rw [if_neg (by rw [b]; exact ne)]; exact b⟩
                · exact ⟨a, by rw [if_pos b]⟩
            · simp only [List.mem_filter, decide_eq_true_eq]
              by_cases c : μ t.1 < μ t.2
              · left
                rw [if_pos c] at hhi
                rw [if_neg (by omega)] at hlo
                exact ⟨⟨h.1, hlo⟩, h.2, hhi⟩
              · right
                rw [if_neg c] at hhi
                rw [if_pos (by omega)] at hlo
                exact ⟨⟨h.2, hlo⟩, h.1, hhi⟩
          · have : kn.filter (fun k => decide (mstep μ t k = x)) = kn.filter fun k => decide (μ k = x) := by
              apply List.filter_congr
              intro k _
              rw [em]
              split
              · rename_i z
                rw [z]
                simp [hx2, hx, Ne.symm hx2, Ne.symm hx]
              · rfl
            rw [this]; exact mono (J.conn x)
  · rw [if_neg h]
    refine ⟨fun e he h1 h2 => ?_, fun x => mono (J.conn x)⟩
    rcases List.mem_append.mp he with he | he
    · exact J.eq e he h1 h2
    · simp at he; subst he; exact absurd ⟨h1, h2⟩ h
theorem JJ.fold {kn : List Nat} : ∀ (ts pre : List (Nat × Nat)) (μ : Nat → Int), JJ kn pre μ → JJ kn (pre ++ ts) (muF kn ts μ)
  | [], pre, μ, J => by rw [List.append_nil]; exact J
  | t :: ts, pre, μ, J => by
    have := JJ.fold ts (pre ++ [t]) _ (J.step t)
    rw [List.append_assoc] at this
    exact this
theorem JJ.all (kn : List Nat) (nd : kn.Nodup) (ts : List (Nat × Nat)) : JJ kn ts (muF kn ts fun k => k) := by
  have := JJ.fold ts [] (fun k => (k : Int)) (kn := kn) ⟨fun t h => (by cases h), fun x => ?_⟩
  · exact this
  · intro A ⟨v, hv, av⟩ _ w hw
    simp only [List.mem_filter, decide_eq_true_eq] at hv hw
    have : v = w := by have := hv.2; have := hw.2; omega
    exact this ▸ av
theorem grp_nd {kn : List Nat} (nd : kn.Nodup) (μ : Nat → Int) : ∀ {X : List Int}, X.Nodup → (X.map fun m => kn.filter fun k => decide (μ k = m)).flatten.Nodup
  | [], _ => by simp
  | x :: X, h => by
    obtain ⟨h1, h2⟩ := List.nodup_cons.mp h
    rw [List.map_cons, List.flatten_cons, List.nodup_append]
    refine ⟨nd.sublist List.filter_sublist, grp_nd nd μ h2, fun a ha b hb e => ?_⟩
    subst e
    obtain ⟨l, hl, hal⟩ := List.mem_flatten.mp hb
    obtain ⟨m, hm, rfl⟩ := List.mem_map.mp hl
    simp only [List.mem_filter, decide_eq_true_eq] at ha hal
    exact h1 (by rw [← ha.2, hal.2]; exact hm)
theorem restN_mem (n : Nat) (os us : List Nat) (v : Nat) : v ∈ restN n os us ↔ v < n ∧ v ∉ os ++ us := by
  unfold restN
  simp only [List.mem_filter, List.mem_range, Bool.and_eq_true, Bool.not_eq_true', List.contains_eq_mem, decide_eq_false_iff_not, List.mem_append, not_or]
theorem sortI_nd (xs : List Int) : (sortI xs).Nodup := by
  have := rise_sortI xs
  exact this.imp fun h z => by subst z; exact absurd h (by omega)
theorem pcsN_ok {n : Nat} {ts : List (Nat × Nat)} {os us : List Nat} (ht : ∀ t ∈ ts, t.1 < n ∧ t.2 < n) : Pcs n ts (os ++ us) (pcsN n ts os us) := by
  have nd : (restN n os us).Nodup := List.nodup_range.sublist List.filter_sublist
  have J := JJ.all (restN n os us) nd ts
  unfold pcsN
  generalize hμ : muF (restN n os us) ts (fun k => (k : Int)) = μ at J
  refine ⟨grp_nd nd μ (sortI_nd _), fun v => ?_, fun t h h1 h2 p hp => ?_, fun p hp => ?_, fun p hp => ?_⟩
  · rw [← restN_mem, List.mem_flatten]
    constructor
    · rintro ⟨l, hl, hv⟩
      obtain ⟨m, hm, rfl⟩ := List.mem_map.mp hl
      exact (List.mem_filter.mp hv).1
    · intro hv
      exact ⟨_, List.mem_map.mpr ⟨μ v, mem_sortI.mpr (List.mem_map.mpr ⟨v, hv, rfl⟩), rfl⟩, List.mem_filter.mpr ⟨hv, by simp⟩⟩
  · obtain ⟨m, hm, rfl⟩ := List.mem_map.mp hp
    have k1 := (restN_mem n os us t.1).mpr ⟨(ht t h).1, h1⟩
    have k2 := (restN_mem n os us t.2).mpr ⟨(ht t h).2, h2⟩
    simp only [List.mem_filter, decide_eq_true_eq, k1, k2, true_and, J.eq t h k1 k2]
  · obtain ⟨m, hm, rfl⟩ := List.mem_map.mp hp
    exact J.conn m
  · obtain ⟨m, hm, rfl⟩ := List.mem_map.mp hp
    obtain ⟨v, hv, e⟩ := List.mem_map.mp (mem_sortI.mp hm)
    intro z
    have : v ∈ (restN n os us).filter fun k => decide (μ k = m) := List.mem_filter.mpr ⟨hv, by simp [e]⟩
    rw [z] at this; cases this
end Wt
/-! ## The mirrors of lots.py, and of what answers say -/
namespace Wt
open PySem L2 Lv
@[simp] theorem n_sets (o : Bool) (a : E) : newTop (.sets o a) = o := rfl
@[simp] theorem n_meth (o : Nat) (a b : E) : newTop (.meth o a b) = false := rfl
@[simp] theorem n_isk (a : E) (b : Nat) : newTop (.isk a b) = false := rfl
@[simp] theorem mkN_obj (b : Bool) (c : Nat) (xs : List D) : mkN b (.obj c xs) = .val (.obj c xs) := by cases b <;> rfl
def mdO (r : R D) (k : D → Out) : Out := match r with | .ok d => k d | _ => .bad
@[simp] theorem mdO_ok (d : D) (k : D → Out) : mdO (.ok d) k = k d := rfl
section
variable {Γ : Nat → List D → R D}
theorem x_made (h i c : Nat) (ps : List Nat) (r : S) (ρ : Rho) : exec Γ (.made h i c ps r) ρ = if h < ρ.length ∧ i < ρ.length then mdO (madeD ρ c ps) fun d => exec Γ r ((ρ.set h .no).set i (.val d)) else .bad := by rw [exec]; rfl
/-! ### rising lists of any numbers -/
def upB : List Int → Bool
  | a :: b :: r => decide (a < b) && upB (b :: r)
  | _ => true
def risI (m : Nat) (l : List Int) : Bool := l.all (fun c => decide (0 ≤ c) && decide (c < m)) && upB l
theorem up_all : ∀ l : List Int, ((List.range (l.length - 1)).all fun i => decide (l.getD i 0 < l.getD (i + 1) 0)) = upB l
  | [] => rfl
  | [a] => rfl
  | a :: b :: r => by
    have ih := up_all (b :: r)
    have e : (a :: b :: r).length - 1 = ((b :: r).length - 1) + 1 := by simp
    rw [e, List.range_succ_eq_map, List.all_cons, List.all_map]
    rw [upB, ← ih]
    rfl
theorem up_pair : ∀ l : List Int, upB l = true ↔ l.Pairwise (· < ·)
  | [] => by simp [upB]
  | [a] => by simp [upB]
  | a :: b :: r => by
    rw [upB, Bool.and_eq_true, decide_eq_true_eq, up_pair (b :: r), List.pairwise_cons (a := a)]
    constructor
    · rintro ⟨h1, h2⟩
      refine ⟨fun x hx => ?_, h2⟩
      rcases List.mem_cons.mp hx with e | e
      · subst e; exact h1
      · have := (List.pairwise_cons.mp h2).1 x e; omega
    · rintro ⟨h1, h2⟩
      exact ⟨h1 b (List.mem_cons_self ..), h2⟩
theorem m_rising (h0 : ∀ i, Γ 0 [.int i] = .ok (.bl true)) {m : Nat} {l : List Int} (hl : l.length ≤ 100000) (f : Bool) : runB Γ 4 b_is_rising [.lst f (l.map .int), iN m] = .ok (.bl (risI m l)) := by
  have c1 : ∀ ρ : Rho, ρ = [.val (.lst f (l.map .int)), .val (iN m), .no, .no] → compR (compF Γ (.and (.cons (.call 0 (.cons (.var 2) .nil)) (.cons (.cmp (.int 0) (.ccons .le (.var 2) (.ccons .lt (.var 1) .cnil))) .nil))) (.nm 2) .nil [2] ρ) (l.map D.int) = .ok (l.map fun c => .bl (decide (0 ≤ c) && decide (c < (m : Int)))) := by
    rintro ρ rfl
    refine compR_all fun c hc => ?_
    by_cases k : 0 ≤ c <;> by_cases k2 : c < (m : Int) <;> simp -implicitDefEqProofs [compF, iN_eq, h0, k, k2]
  have c2 : ∀ ρ : Rho, ρ = [.val (.lst f (l.map .int)), .val (iN m), .no, .no] → compR (compF Γ (.cmp (.idx (.var 0) (.bin .sub (.var 3) (.int 1))) (.ccons .lt (.idx (.var 0) (.var 3)) .cnil)) (.nm 3) .nil [3] ρ) ((List.range (l.length - 1)).map fun i => iN (1 + i)) = .ok ((List.range (l.length - 1)).map fun i => .bl (decide (l.getD i 0 < l.getD (i + 1) 0))) := by
    rintro ρ rfl
    refine compR_all fun i hi => ?_
    have hi' : i + 1 < l.length := by have := List.mem_range.mp hi; omega
    have e1 := idx_map (enc := D.int) (f := f) (l := l) (i := i) (by omega)
    have e2 := idx_up (enc := D.int) (f := f) (l := l) (i := i) hi'
    have e5 : (1 : Int) + (i : Int) - 1 = (i : Int) := by omega
    have g1 : l.getD i 0 = l[i] := by simp [List.getD, show i < l.length by omega]
    have g2 : l.getD (i + 1) 0 = l[i + 1] := by simp [List.getD, hi']
    rw [g1, g2]
    simp -implicitDefEqProofs [compF, iN_eq, e5, e1, e2]
  have r1 := rng_one (b := l.length) (cap14 hl)
  have a1 := all_map true (fun c : Int => decide (0 ≤ c) && decide (c < (m : Int))) l
  have a2 := all_map true (fun i : Nat => decide (l.getD i 0 < l.getD (i + 1) 0)) (List.range (l.length - 1))
  rw [up_all] at a2
  have l1 : mkL (l.map fun c => D.bl (decide (0 ≤ c) && decide (c < (m : Int)))) = _ := ml_ok (cap14 (by simp; omega))
  have l2 : mkL ((List.range (l.length - 1)).map fun i => D.bl (decide (l.getD i 0 < l.getD (i + 1) 0))) = _ := ml_ok (cap14 (by simp; omega))
  have c1 := c1 _ rfl
  have c2 := c2 _ rfl
  generalize hx : (l.map fun c => D.bl (decide (0 ≤ c) && decide (c < (m : Int)))) = xl at c1 a1 l1
  generalize hy : ((List.range (l.length - 1)).map fun i => D.bl (decide (l.getD i 0 < l.getD (i + 1) 0))) = yl at c2 a2 l2
  generalize hz : (l.all fun c => decide (0 ≤ c) && decide (c < (m : Int))) = z1 at a1
  have hr : risI m l = (z1 && upB l) := by unfold risI; rw [hz]
  generalize upB l = z2 at a2 hr
  rw [hr]
  simp -implicitDefEqProofs only [iN_eq] at c1
  simp -implicitDefEqProofs [iN_eq] at c2 r1
  cases z1 <;> simp -implicitDefEqProofs [runB_eq, b_is_rising, iN_eq, c1, c2, r1, l1, l2, a1, a2]
def lotsB (n : Nat) (a b : List Int) : Bool := risI n a && risI n b && !(a.any fun p => decide (p ∈ b))
theorem m_are_lots {n : Nat} {ts} {a b : List Int} (ha : a.length ≤ 100000) (h1 : Γ 4 [.lst false (a.map .int), iN n] = .ok (.bl (risI n a))) (h2 : Γ 4 [.lst false (b.map .int), iN n] = .ok (.bl (risI n b))) (f g h : Bool) :
    runB Γ 4 b_are_lots [webD f n ts, .lst g (a.map .int), .lst h (b.map .int)] = .ok (.bl (lotsB n a b)) := by
  have c1 : ∀ ρ : Rho, ρ = [.val (webD f n ts), .val (.lst g (a.map .int)), .val (.lst h (b.map .int)), .no] → compR (compF Γ (.cmp (.var 3) (.ccons .isin (.var 2) .cnil)) (.nm 3) .nil [3] ρ) (a.map D.int) = .ok (a.map fun p => .bl (decide (p ∈ b))) := by
    rintro ρ rfl
    refine compR_all fun c hc => ?_
    have := faith_int.inD (by decide) c h b
    simp -implicitDefEqProofs [compF, this]
  have c1 := c1 _ rfl
  have a1 := any_map true (fun p : Int => decide (p ∈ b)) a
  have l1 : mkL (a.map fun p => D.bl (decide (p ∈ b))) = _ := ml_ok (cap14 (by simp; omega))
  have oa : olds (a.map D.int) = a.map D.int := olds_map (fun _ => by simp) a
  have ob : olds (b.map D.int) = b.map D.int := olds_map (fun _ => by simp) b
  generalize (a.map fun p => D.bl (decide (p ∈ b))) = xl at c1 a1 l1
  unfold lotsB
  generalize (a.any fun p => decide (p ∈ b)) = z at a1
  generalize hal : a.map D.int = al at *
  generalize hbl : b.map D.int = bl at *
  simp -implicitDefEqProofs only [webD, iN_eq] at c1 h1 h2
  cases hr1 : risI n a <;> cases hr2 : risI n b <;> rw [hr1] at h1 <;> rw [hr2] at h2 <;> simp -implicitDefEqProofs [runB_eq, b_are_lots, webD, iN_eq, oa, ob, h1, h2, c1, l1, a1]
/-! ### ties between two lots -/
def tieB (p o : List Nat) (t : Nat × Nat) : Bool := decide (t.1 ∈ p) && decide (t.2 ∈ o) || decide (t.2 ∈ p) && decide (t.1 ∈ o)
def ties (ts : List (Nat × Nat)) (p o : List Nat) : Nat := (ts.filter (tieB p o)).length
theorem old_natsD (l : List Nat) : olds (l.map iN) = l.map iN := olds_map (fun _ => by simp [iN]) l
theorem m_ties_to {n : Nat} {ts : List (Nat × Nat)} {p o : List Nat} (hl : ts.length ≤ 100000) (f g h : Bool) : runB Γ 4 b_ties_to [webD f n ts, natsD g p, natsD h o] = .ok (iN (ties ts p o)) := by
  have c1 : ∀ ρ : Rho, ρ = [.val (webD f n ts), .val (natsD g p), .val (natsD h o), .no] → compR (compF Γ (.var 3) (.nm 3) (.cons (.or (.cons (.and (.cons (.cmp (.idx (.var 3) (.int 0)) (.ccons .isin (.var 1) .cnil)) (.cons (.cmp (.idx (.var 3) (.int 1)) (.ccons .isin (.var 2) .cnil)) .nil))) (.cons (.and (.cons (.cmp (.idx (.var 3) (.int 1)) (.ccons .isin (.var 1) .cnil)) (.cons (.cmp (.idx (.var 3) (.int 0)) (.ccons .isin (.var 2) .cnil)) .nil))) .nil))) .nil) [3] ρ) (ts.map tieD)
      = .ok ((ts.filter (tieB p o)).map tieD) := by
    rintro ρ rfl
    refine compR_map fun t ht => ?_
    have i1 := faith_iN.inD (by decide) t.1 g p
    have i2 := faith_iN.inD (by decide) t.2 h o
    have i3 := faith_iN.inD (by decide) t.2 g p
    have i4 := faith_iN.inD (by decide) t.1 h o
    simp -implicitDefEqProofs only [iN_eq] at i1 i2 i3 i4
    unfold tieB
    by_cases k1 : t.1 ∈ p <;> by_cases k2 : t.2 ∈ o <;> by_cases k3 : t.2 ∈ p <;> by_cases k4 : t.1 ∈ o <;> simp -implicitDefEqProofs [compF, natsD, tieD, iN_eq, i1, i2, i3, i4, k1, k2, k3, k4]
  have c1 := c1 _ rfl
  have l1 : mkL ((ts.filter (tieB p o)).map tieD) = _ := ml_ok (cap14 (by have := List.length_filter_le (tieB p o) ts; simp; omega))
  have ll : ((ts.filter (tieB p o)).map tieD).length = ties ts p o := by simp [ties]
  generalize (ts.filter (tieB p o)).map tieD = xl at c1 l1 ll
  simp -implicitDefEqProofs only [webD, natsD, iN_eq] at c1
  simp -implicitDefEqProofs [runB_eq, b_ties_to, webD, natsD, iN_eq, c1, l1, ll]
theorem m_law_ties {n : Nat} {ts : List (Nat × Nat)} {p o : List Nat} (hl : ts.length ≤ 100000) (f g h : Bool) : runB Γ 4 b_law_ties [webD f n ts, natsD g p, natsD h o] = .ok (iN (ties ts p o)) := by
  have c1 : ∀ ρ : Rho, ρ = [.val (webD f n ts), .val (natsD g p), .val (natsD h o), .no] → compR (compF Γ (.var 3) (.nm 3) (.cons (.or (.cons (.and (.cons (.cmp (.idx (.var 3) (.int 0)) (.ccons .isin (.var 1) .cnil)) (.cons (.cmp (.idx (.var 3) (.int 1)) (.ccons .isin (.var 2) .cnil)) .nil))) (.cons (.and (.cons (.cmp (.idx (.var 3) (.int 0)) (.ccons .isin (.var 2) .cnil)) (.cons (.cmp (.idx (.var 3) (.int 1)) (.ccons .isin (.var 1) .cnil)) .nil))) .nil))) .nil) [3] ρ) (ts.map tieD)
      = .ok ((ts.filter (tieB p o)).map tieD) := by
    rintro ρ rfl
    refine compR_map fun t ht => ?_
    have i1 := faith_iN.inD (by decide) t.1 g p
    have i2 := faith_iN.inD (by decide) t.2 h o
    have i3 := faith_iN.inD (by decide) t.2 g p
    have i4 := faith_iN.inD (by decide) t.1 h o
    simp -implicitDefEqProofs only [iN_eq] at i1 i2 i3 i4
    unfold tieB
    by_cases k1 : t.1 ∈ p <;> by_cases k2 : t.2 ∈ o <;> by_cases k3 : t.2 ∈ p <;> by_cases k4 : t.1 ∈ o <;> simp -implicitDefEqProofs [compF, natsD, tieD, iN_eq, i1, i2, i3, i4, k1, k2, k3, k4]
  have c1 := c1 _ rfl
  have l1 : mkL ((ts.filter (tieB p o)).map tieD) = _ := ml_ok (cap14 (by have := List.length_filter_le (tieB p o) ts; simp; omega))
  have ll : ((ts.filter (tieB p o)).map tieD).length = ties ts p o := by simp [ties]
  generalize (ts.filter (tieB p o)).map tieD = xl at c1 l1 ll
  simp -implicitDefEqProofs only [webD, natsD, iN_eq] at c1
  simp -implicitDefEqProofs [runB_eq, b_law_ties, webD, natsD, iN_eq, c1, l1, ll]
/-! ### the pieces -/
theorem pairsD_ties : ∀ ts : List (Nat × Nat), pairsD (ts.map tieD) = some (ts.map castT)
  | [] => rfl
  | t :: ts => by
    show (pairsD (ts.map tieD)).map _ = _
    rw [pairsD_ties ts]; rfl
theorem m_pieces {n : Nat} {ts : List (Nat × Nat)} {a b : List Nat} (hn : n ≤ 50) (f g h : Bool) : Fpc [webD f n ts, natsD g a, natsD h b] = .ok (.lst true ((pcsN n ts a b).map (natsD true))) := by
  have ia : ∀ l : List Nat, intsD (l.map iN) = some (castL l) := fun l => intsD_map (fun n : Nat => (n : Int)) l
  show (match pairsD (ts.map tieD), intsD (a.map iN), intsD (b.map iN) with
    | some ps, some o, some u => if 0 ≤ (n : Int) ∧ (n : Int) ≤ 50 then R.ok (D.lst true ((piecesI n ps o u).map fun g : List Int => D.lst true (g.map .int))) else R.bad
    | _, _, _ => R.bad) = _
  rw [pairsD_ties, ia, ia]
  show (if 0 ≤ (n : Int) ∧ (n : Int) ≤ 50 then R.ok _ else .bad) = _
  rw [if_pos (by omega), piecesI_N, List.map_map]
  congr 2
  apply List.map_congr_left
  intro p _
  show D.lst true ((castL p).map D.int) = natsD true p
  unfold castL natsD
  rw [List.map_map]; rfl
end
section
variable {tab : Nat → Option Fd} (n : Nat)
theorem s_law_web2 (t11 : tab 11 = some fd_law_number) {k : Nat} (t12 : tab k = some fd_law_web2) {ns : List Int} (hs : ns.length ≤ 63) (bY places ties : Nat) (hb : bY ≤ 1000) (hp : 2 ≤ places) (hp8 : places ≤ 8) (ht : ties ≤ 14) :
    ∃ m ts, Web m ts ∧ 2 ≤ m ∧ m ≤ places ∧ ts.length ≤ ties ∧ mean tab (n + 2) k [.scr ns, iN bY, iN places, iN ties] = .ok (webD true m ts) := by
  obtain ⟨m, ts, W, a, b, c, e⟩ := m_law_web (s_law_number n t11) hs hb hp hp8 ht
  exact ⟨m, ts, W, a, b, c, (mean_succ t12 rfl).trans e⟩
theorem s_law_wishes2 (t11 : tab 11 = some fd_law_number) (t13 : tab 13 = some fd_law_counts) (t14 : tab 14 = some fd_law_drawn) {k : Nat} (t15 : tab k = some fd_law_wishes2) {ns : List Int} (hs : ns.length ≤ 63) {bY : Nat} (hb : bY ≤ 900) {m ts} (W : Web m ts) (f : Bool) :
    ∃ ws, Wish m ws ∧ mean tab (n + 3) k [.scr ns, iN bY, webD f m ts] = .ok (tiesD true ws) := by
  obtain ⟨ws, a, e⟩ := m_law_wishes (s_law_number (n + 1) t11) hs (bY := bY) (by omega) W f (fun ch C => s_law_counts (n + 1) t13 W.most C.lt (by have := C.len; have := W.ties; omega) false false)
    (s_law_drawn n t11 t14 hs (bY := bY + 3) (by omega) (by have := W.ties; omega) false)
  exact ⟨ws, a, (mean_succ t15 rfl).trans e⟩
end
end Wt
/-! ## What two lots leave -/
namespace Wt
open PySem L2 Lv
section
variable {Γ : Nat → List D → R D}
def loW (ws : List (Nat × Nat)) (p : Nat) : Int := ((ws.getD p (0, 0)).1 : Nat)
def hiW (ws : List (Nat × Nat)) (p : Nat) : Int := ((ws.getD p (0, 0)).2 : Nat)
/-- how often a tie counts -/
def tcB (a b : List Nat) (t : Nat × Nat) : Int := (if t.1 ∈ b ∧ t.2 ∉ a then 1 else 0) + (if t.2 ∈ b ∧ t.1 ∉ a then 1 else 0)
def oddP (ts ws : List (Nat × Nat)) (b p : List Nat) : Int := if p.all (fun v => decide (loW ws v = hiW ws v)) = true then ((p.map (hiW ws)).sum + (ties ts p b : Nat)) % 2 else 0
def spareP (ts ws : List (Nat × Nat)) (a b : List Nat) (P : List (List Nat)) : Int := (a.map (hiW ws)).sum - (b.map (loW ws)).sum + (ts.map (tcB a b)).sum - (P.map (oddP ts ws b)).sum
theorem share_share (s : Sl) : s.share.share = s.share := by cases s <;> rfl
theorem sum_snoc (l : List Int) (x : Int) : (l ++ [x]).sum = l.sum + x := by
  induction l with
  | nil => simp
  | cons y l ih => simp only [List.cons_append, List.sum_cons, ih]; omega
theorem idx_lh {ws : List (Nat × Nat)} {p : Nat} (f : Bool) (h : p < ws.length) : idxD (.lst f (ws.map tieD)) (.int (p : Int)) = .ok (.tup [.int (loW ws p), .int (hiW ws p)]) := by
  have := idx_map (enc := tieD) (f := f) h
  have g : ws.getD p (0, 0) = ws[p] := by simp [List.getD, h]
  rw [this, loW, hiW, g]; rfl
theorem c_hi {ρ : Rho} {k : Nat} {own : List Nat} {ws : List (Nat × Nat)} {l : List Nat} {f : Bool} (h : ∀ d : D, ((wipeR ρ own).set k (.val d)).getD 1 .no = .val (.lst f (ws.map tieD)) ∧ ((wipeR ρ own).set k (.val d)).getD k .no = .val d) (hl : ∀ p ∈ l, p < ws.length) :
    compR (compF Γ (.idx (.idx (.var 1) (.var k)) (.int 1)) (.nm k) .nil own ρ) (l.map iN) = .ok (l.map fun p => .int (hiW ws p)) := by
  refine compR_all fun p hp => ?_
  have i := idx_lh f (hl p hp)
  obtain ⟨h1, h2⟩ := h (iN p)
  simp -implicitDefEqProofs only [iN_eq, List.getD_eq_getElem?_getD] at h1 h2
  simp -implicitDefEqProofs [compF, iN_eq, h1, h2, i]
theorem c_lo {ρ : Rho} {k : Nat} {own : List Nat} {ws : List (Nat × Nat)} {l : List Nat} {f : Bool} (h : ∀ d : D, ((wipeR ρ own).set k (.val d)).getD 1 .no = .val (.lst f (ws.map tieD)) ∧ ((wipeR ρ own).set k (.val d)).getD k .no = .val d) (hl : ∀ p ∈ l, p < ws.length) :
    compR (compF Γ (.idx (.idx (.var 1) (.var k)) (.int 0)) (.nm k) .nil own ρ) (l.map iN) = .ok (l.map fun p => .int (loW ws p)) := by
  refine compR_all fun p hp => ?_
  have i := idx_lh f (hl p hp)
  obtain ⟨h1, h2⟩ := h (iN p)
  simp -implicitDefEqProofs only [iN_eq, List.getD_eq_getElem?_getD] at h1 h2
  simp -implicitDefEqProofs [compF, iN_eq, h1, h2, i]
theorem c_eq {ρ : Rho} {k : Nat} {own : List Nat} {ws : List (Nat × Nat)} {l : List Nat} {f : Bool} (h : ∀ d : D, (shareAll ((wipeR ρ own).set k (.val d))).getD 1 .no = .val (.lst f (ws.map tieD)) ∧ (shareAll ((wipeR ρ own).set k (.val d))).getD k .no = .val d) (hl : ∀ p ∈ l, p < ws.length) :
    compR (compF Γ (.cmp (.idx (.idx (.var 1) (.var k)) (.int 0)) (.ccons .eq (.idx (.idx (.var 1) (.var k)) (.int 1)) .cnil)) (.nm k) .nil own ρ) (l.map iN) = .ok (l.map fun p => .bl (decide (loW ws p = hiW ws p))) := by
  refine compR_all fun p hp => ?_
  have i := idx_lh f (hl p hp)
  obtain ⟨h1, h2⟩ := h (iN p)
  have e := faith_int.eqD (by decide) (loW ws p) (hiW ws p)
  simp -implicitDefEqProofs only [iN_eq, List.getD_eq_getElem?_getD] at h1 h2
  simp -implicitDefEqProofs [compF, iN_eq, h1, h2, i, e]
def b23_tie : S := (.seq (.loop (.tp (.cons (.nm 6) (.cons (.nm 7) .nil))) (.seq (.tup (.cons (.var 5) (.cons (.sli .back (.var 5) .nil .nil) .nil))))
 (.seq (.set 4 (.bin .add (.var 4) (.ite (.and (.cons (.cmp (.var 6) (.ccons .isin (.var 3) .cnil)) (.cons (.cmp (.var 7) (.ccons .notin (.var 2) .cnil)) .nil))) (.int 1) (.int 0))))
 .skip))
 .skip)
def b23_piece : S := (.seq (.ite (.bi .all (.cons (.comp (.cmp (.idx (.idx (.var 1) (.var 6)) (.int 0)) (.ccons .eq (.idx (.idx (.var 1) (.var 6)) (.int 1)) .cnil)) (.nm 6) (.seq (.var 8)) .nil [6]) .nil))
 (.seq (.set 4 (.bin .sub (.var 4) (.bin .mod (.bin .add (.bi .sum (.cons (.comp (.idx (.idx (.var 1) (.var 6)) (.int 1)) (.nm 6) (.seq (.var 8)) .nil [6]) .nil)) (.call 22 (.cons (.var 0) (.cons (.var 8) (.cons (.var 3) .nil))))) (.int 2))))
 .skip)
 .skip)
 .skip)
theorem k23_tie {n : Nat} {ts ws : List (Nat × Nat)} {a b : List Nat} (f g h k : Bool) (z : Int) (s5 s6 s7 s8 : Sl) : ∃ t5 t6 t7, forR (loopF Γ (.nm 5) b23_tie) (ts.map tieD) [.val (webD f n ts), .val (tiesD g ws), .val (natsD h a), .val (natsD k b), .val (.int z), s5, s6, s7, s8]
    = .nx [.val (webD f n ts), .val (tiesD g ws), .val (natsD h a), .val (natsD k b), .val (.int (z + (ts.map (tcB a b)).sum)), t5, t6, t7, s8] := by
  obtain ⟨ρ', e, t5, t6, t7, e2⟩ := forR_pre (enc := tieD) (f := loopF Γ (.nm 5) b23_tie) (fun pre ρ => ∃ t5 t6 t7 : Sl, ρ = [.val (webD f n ts), .val (tiesD g ws), .val (natsD h a), .val (natsD k b), .val (.int (z + (pre.map (tcB a b)).sum)), t5, t6, t7, s8])
    (l := ts) (ρ := [.val (webD f n ts), .val (tiesD g ws), .val (natsD h a), .val (natsD k b), .val (.int z), s5, s6, s7, s8]) ⟨s5, s6, s7, by simp⟩ (by
      rintro pre t suf ρ hl ⟨t5, t6, t7, rfl⟩
      have i1 := faith_iN.inD (by decide) t.1 k b
      have i2 := faith_iN.inD (by decide) t.2 k b
      have i3 := faith_iN.inD (by decide) t.2 h a
      have i4 := faith_iN.inD (by decide) t.1 h a
      simp -implicitDefEqProofs only [iN_eq] at i1 i2 i3 i4
      have k2 : 2 ≤ cap := cap14 (by decide)
      have es : (pre ++ [t]).map (tcB a b) = pre.map (tcB a b) ++ [tcB a b t] := by simp
      refine ⟨[.val (webD f n ts), .val (tiesD g ws), .val (natsD h a), .val (natsD k b), .val (.int (z + ((pre ++ [t]).map (tcB a b)).sum)), .val (tieD t), .val (iN t.2), .val (iN t.1), s8], ?_, _, _, _, rfl⟩
      rw [es, sum_snoc]
      generalize (pre.map (tcB a b)).sum = y
      unfold tcB
      by_cases k1 : t.1 ∈ b <;> by_cases k2' : t.2 ∈ a <;> by_cases k3 : t.2 ∈ b <;> by_cases k4 : t.1 ∈ a <;> simp -implicitDefEqProofs [loopF, b23_tie, tieD, natsD, webD, tiesD, iN_eq, sliD, i1, i2, i3, i4, k1, k2', k3, k4, k2] <;> omega)
  subst e2
  exact ⟨t5, t6, t7, e⟩
theorem k23_piece {n : Nat} {ts ws : List (Nat × Nat)} {a b : List Nat} (h22 : ∀ p, Γ 22 [webD false n ts, natsD false p, natsD false b] = .ok (iN (ties ts p b))) (f g h k : Bool) (z : Int) (s5 s6 s7 s8 : Sl) (P : List (List Nat)) (hP : ∀ p ∈ P, p.length ≤ 1000 ∧ ∀ v ∈ p, v < ws.length) : ∃ t8, forR (loopF Γ (.nm 8) b23_piece) (P.map (natsD true)) [.val (webD f n ts), .val (tiesD g ws), .val (natsD h a), .val (natsD k b), .val (.int z), s5, s6, s7, s8]
    = .nx [.val (webD f n ts), .val (tiesD g ws), .val (natsD h a), .val (natsD k b), .val (.int (z - (P.map (oddP ts ws b)).sum)), s5, s6, s7, t8] := by
  obtain ⟨ρ', e, t8, e2⟩ := forR_pre (enc := natsD true) (f := loopF Γ (.nm 8) b23_piece) (fun pre ρ => ∃ t8 : Sl, ρ = [.val (webD f n ts), .val (tiesD g ws), .val (natsD h a), .val (natsD k b), .val (.int (z - (pre.map (oddP ts ws b)).sum)), s5, s6, s7, t8])
    (l := P) (ρ := [.val (webD f n ts), .val (tiesD g ws), .val (natsD h a), .val (natsD k b), .val (.int z), s5, s6, s7, s8]) ⟨s8, by simp⟩ (by
      rintro pre p suf ρ hl ⟨t8, rfl⟩
      obtain ⟨hp1, hp2⟩ := hP p (by rw [hl]; simp)
      have es : (pre ++ [p]).map (oddP ts ws b) = pre.map (oddP ts ws b) ++ [oddP ts ws b p] := by simp
      refine ⟨[.val (webD f n ts), .val (tiesD g ws), .val (natsD h a), .val (natsD k b), .val (.int (z - ((pre ++ [p]).map (oddP ts ws b)).sum)), s5, s6, s7, .val (natsD true p)], ?_, _, rfl⟩
      rw [es, sum_snoc]
      generalize (pre.map (oddP ts ws b)).sum = y
      have ce := c_eq (Γ := Γ) (ρ := [.val (webD f n ts), .val (tiesD g ws), .val (natsD h a), .val (natsD k b), .val (.int (z - y)), s5.share, s6.share, s7.share, .val (natsD true p)]) (k := 6) (own := [6]) (ws := ws) (l := p) (f := g) (fun d => ⟨rfl, rfl⟩) hp2
      have ch := c_hi (Γ := Γ) (ρ := [.val (webD f n ts), .val (tiesD g ws), .val (natsD h a), .val (natsD k b), .val (.int (z - y)), s5.share, s6.share, s7.share, .val (natsD true p)]) (k := 6) (own := [6]) (ws := ws) (l := p) (f := g) (fun d => ⟨rfl, rfl⟩) hp2
      have l1 : mkL (p.map fun p => D.bl (decide (loW ws p = hiW ws p))) = _ := ml_ok (cap14 (by simp; omega))
      have l2 : mkL (p.map fun p => D.int (hiW ws p)) = _ := ml_ok (cap14 (by simp; omega))
      have a1 := all_map true (fun v => decide (loW ws v = hiW ws v)) p
      have a2 := sum_map true (hiW ws) p
      have op := old_natsD p
      have ob := old_natsD b
      have mo := op_mod_i (i := (p.map (hiW ws)).sum + (ties ts p b : Nat)) (j := 2) (by decide)
      have c22 := h22 p
      unfold oddP
      generalize (p.map fun p => D.bl (decide (loW ws p = hiW ws p))) = xl at ce l1 a1
      generalize (p.map fun p => D.int (hiW ws p)) = yl at ch l2 a2
      generalize (p.map (hiW ws)).sum = sm at a2 mo
      simp -implicitDefEqProofs only [natsD, webD, tiesD, iN_eq] at ce ch c22 op ob
      generalize (p.all fun v => decide (loW ws v = hiW ws v)) = q at a1
      cases q <;> simp -implicitDefEqProofs [loopF, b23_piece, natsD, webD, tiesD, iN_eq, ce, ch, l1, l2, a1, a2, op, ob, mo, c22, share_share] <;> omega)
  subst e2
  exact ⟨t8, e⟩
theorem m_spare_of {n : Nat} {ts ws : List (Nat × Nat)} {a b : List Nat} {P : List (List Nat)} (h22 : ∀ p, Γ 22 [webD false n ts, natsD false p, natsD false b] = .ok (iN (ties ts p b)))
    (h21 : Γ 21 [webD false n ts, natsD false a, natsD false b] = .ok (.lst true (P.map (natsD true)))) (hP : ∀ p ∈ P, p.length ≤ 1000 ∧ ∀ v ∈ p, v < ws.length) (ha : a.length ≤ 1000 ∧ ∀ v ∈ a, v < ws.length) (hb : b.length ≤ 1000 ∧ ∀ v ∈ b, v < ws.length) (f g h k : Bool) :
    runB Γ 9 b_spare_of [webD f n ts, tiesD g ws, natsD h a, natsD k b] = .ok (.int (spareP ts ws a b P)) := by
  have ch := c_hi (Γ := Γ) (ρ := [.val (webD f n ts), .val (tiesD g ws), .val (natsD h a), .val (natsD k b), .no, .no, .no, .no, .no]) (k := 6) (own := [6]) (ws := ws) (l := a) (f := g) (fun d => ⟨rfl, rfl⟩) ha.2
  have cl := c_lo (Γ := Γ) (ρ := [.val (webD f n ts), .val (tiesD g ws), .val (natsD h a), .val (natsD k b), .no, .no, .no, .no, .no]) (k := 6) (own := [6]) (ws := ws) (l := b) (f := g) (fun d => ⟨rfl, rfl⟩) hb.2
  have l1 : mkL (a.map fun p => D.int (hiW ws p)) = _ := ml_ok (cap14 (by simp; omega))
  have l2 : mkL (b.map fun p => D.int (loW ws p)) = _ := ml_ok (cap14 (by simp; omega))
  have a1 := sum_map true (hiW ws) a
  have a2 := sum_map true (loW ws) b
  have oa := old_natsD a
  have ob := old_natsD b
  have ow : olds (ws.map tieD) = ws.map tieD := olds_map (fun _ => by simp [tieD, iN]) ws
  have ot : olds (ts.map tieD) = ts.map tieD := olds_map (fun _ => by simp [tieD, iN]) ts
  obtain ⟨t5, t6, t7, e1⟩ := k23_tie (Γ := Γ) (n := n) (ts := ts) (ws := ws) (a := a) (b := b) f g h k ((a.map (hiW ws)).sum - (b.map (loW ws)).sum) .no .no .no .no
  obtain ⟨t8, e2⟩ := k23_piece (Γ := Γ) (n := n) (ts := ts) (ws := ws) (a := a) (b := b) h22 f g h k ((a.map (hiW ws)).sum - (b.map (loW ws)).sum + (ts.map (tcB a b)).sum) t5 t6 t7 .no P hP
  have eb : b_spare_of = .seq (.set 4 (.bin .sub (.bi .sum (.cons (.comp (.idx (.idx (.var 1) (.var 6)) (.int 1)) (.nm 6) (.seq (.var 2)) .nil [6]) .nil)) (.bi .sum (.cons (.comp (.idx (.idx (.var 1) (.var 6)) (.int 0)) (.nm 6) (.seq (.var 3)) .nil [6]) .nil))))
    (.seq (.loop (.nm 5) (.seq (.idx (.var 0) (.int 1))) b23_tie) (.seq (.loop (.nm 8) (.seq (.call 21 (.cons (.var 0) (.cons (.var 2) (.cons (.var 3) .nil))))) b23_piece) (.seq (.ret (.var 4)) .skip))) := rfl
  unfold spareP
  generalize (a.map fun p => D.int (hiW ws p)) = xl at ch l1 a1
  generalize (b.map fun p => D.int (loW ws p)) = yl at cl l2 a2
  generalize (a.map (hiW ws)).sum = x1 at *
  generalize (b.map (loW ws)).sum = x2 at *
  generalize (ts.map (tcB a b)).sum = x3 at *
  generalize (P.map (oddP ts ws b)).sum = x4 at *
  generalize P.map (natsD true) = pl at *
  simp -implicitDefEqProofs only [natsD, webD, tiesD, iN_eq] at ch cl oa ob h21 e1 e2
  rw [eb]
  simp -implicitDefEqProofs [runB_eq, natsD, webD, tiesD, iN_eq, ch, cl, l1, l2, a1, a2, oa, ob, ow, ot, e1, h21, e2]
end
end Wt
/-! ## The law's own pieces -/
namespace Wt
open PySem L2 Lv
/-! ### plain -/
def addT (out : List Nat) (v : Nat) (q : List Nat) (t : Nat × Nat) : List Nat :=
  if v = t.1 ∨ v = t.2 then (if t.1 + t.2 - v ∉ out ∧ t.1 + t.2 - v ∉ q then q ++ [t.1 + t.2 - v] else q) else q
structure Bq (n : Nat) (ts : List (Nat × Nat)) (out : List Nat) (F : List (List Nat)) (q : List Nat) : Prop where
  nd : q.Nodup
  sub : ∀ v ∈ q, v < n ∧ v ∉ out ∧ v ∉ F.flatten
  conn : Conn ts q
def nbr (out q : List Nat) (v : Nat) (t : Nat × Nat) : Prop := (t.1 = v → t.2 ∉ out → t.2 ∈ q) ∧ (t.2 = v → t.1 ∉ out → t.1 ∈ q)
section
variable {n : Nat} {ts : List (Nat × Nat)} {out : List Nat} {F : List (List Nat)}
theorem addT_ok (ht : ∀ t ∈ ts, t.1 < t.2 ∧ t.2 < n) (hF : ∀ t ∈ ts, t.1 ∉ out → t.2 ∉ out → (t.1 ∈ F.flatten ↔ t.2 ∈ F.flatten)) {v : Nat} {q : List Nat} (B : Bq n ts out F q) (hv : v ∈ q) {t : Nat × Nat} (hm : t ∈ ts) :
    Bq n ts out F (addT out v q t) ∧ (∃ x, addT out v q t = q ++ x) ∧ nbr out (addT out v q t) v t := by
  obtain ⟨h1, h2⟩ := ht t hm
  obtain ⟨v1, v2, v3⟩ := B.sub v hv
  unfold addT
  by_cases k : v = t.1 ∨ v = t.2
  · rw [if_pos k]
    by_cases k2 : t.1 + t.2 - v ∉ out ∧ t.1 + t.2 - v ∉ q
    · rw [if_pos k2]
      refine ⟨⟨?_, fun w hw => ?_, ?_⟩, ⟨_, rfl⟩, fun e _ => ?_, fun e _ => ?_⟩
      · rw [List.nodup_append]
        exact ⟨B.nd, by simp, fun a ha b hb e => by simp at hb; subst hb; subst e; exact k2.2 ha⟩
      · rcases List.mem_append.mp hw with hw | hw
        · exact B.sub w hw
        · simp at hw
          subst hw
          refine ⟨by rcases k with k | k <;> omega, k2.1, fun z => v3 ?_⟩
          rcases k with k | k
          · have e : t.1 + t.2 - v = t.2 := by omega
            rw [e] at z k2
            rw [k]
            exact (hF t hm (k ▸ v2) k2.1).mpr z
          · have e : t.1 + t.2 - v = t.1 := by omega
            rw [e] at z k2
            rw [k]
            exact (hF t hm k2.1 (k ▸ v2)).mp z
      · refine Conn.join (p := q) (q := [t.1 + t.2 - v]) (e := t) B.conn (Conn.one _ _) (fun w => by simp) hm ?_
        rcases k with k | k
        · left; exact ⟨k ▸ hv, by simp; omega⟩
        · right; exact ⟨k ▸ hv, by simp; omega⟩
      · have : t.1 + t.2 - v = t.2 := by omega
        rw [this]; simp
      · have : t.1 + t.2 - v = t.1 := by omega
        rw [this]; simp
    · rw [if_neg k2]
      have k3 : ∀ x, t.1 + t.2 - v = x → x ∉ out → x ∈ q := fun x e ho => Classical.byContradiction fun z => k2 (by rw [e]; exact ⟨ho, z⟩)
      exact ⟨B, ⟨[], by simp⟩, fun e ho => k3 _ (by omega) ho, fun e ho => k3 _ (by omega) ho⟩
  · rw [if_neg k]
    exact ⟨B, ⟨[], by simp⟩, fun e => absurd (.inl e.symm) k, fun e => absurd (.inr e.symm) k⟩
theorem nbr.mono {q q' : List Nat} {v : Nat} {t : Nat × Nat} (h : nbr out q v t) (s : ∀ x ∈ q, x ∈ q') : nbr out q' v t := ⟨fun a b => s _ (h.1 a b), fun a b => s _ (h.2 a b)⟩
theorem addTs_ok (ht : ∀ t ∈ ts, t.1 < t.2 ∧ t.2 < n) (hF : ∀ t ∈ ts, t.1 ∉ out → t.2 ∉ out → (t.1 ∈ F.flatten ↔ t.2 ∈ F.flatten)) {v : Nat} : ∀ {l : List (Nat × Nat)} {q : List Nat}, (∀ t ∈ l, t ∈ ts) → Bq n ts out F q → v ∈ q →
    Bq n ts out F (l.foldl (addT out v) q) ∧ (∃ x, l.foldl (addT out v) q = q ++ x) ∧ ∀ t ∈ l, nbr out (l.foldl (addT out v) q) v t
  | [], q, _, B, _ => ⟨B, ⟨[], by simp⟩, fun t h => by cases h⟩
  | t :: l, q, hl, B, hv => by
    obtain ⟨B1, ⟨x1, e1⟩, n1⟩ := addT_ok ht hF B hv (hl t (List.mem_cons_self ..))
    obtain ⟨B2, ⟨x2, e2⟩, n2⟩ := addTs_ok ht hF (l := l) (q := addT out v q t) (fun t h => hl t (List.mem_cons_of_mem _ h)) B1 (by rw [e1]; exact List.mem_append_left _ hv)
    rw [List.foldl_cons]
    refine ⟨B2, ⟨x1 ++ x2, by rw [e2, e1, List.append_assoc]⟩, fun s hs => ?_⟩
    rcases List.mem_cons.mp hs with e | hs
    · subst e
      exact n1.mono fun y hy => by rw [e2]; exact List.mem_append_left _ hy
    · exact n2 s hs
/-- what is found so far -/
structure Bo (n : Nat) (ts : List (Nat × Nat)) (out : List Nat) (F : List (List Nat)) : Prop where
  nd : F.flatten.Nodup
  sub : ∀ v ∈ F.flatten, v < n ∧ v ∉ out
  closed : ∀ t ∈ ts, t.1 ∉ out → t.2 ∉ out → ∀ p ∈ F, (t.1 ∈ p ↔ t.2 ∈ p)
  conn : ∀ p ∈ F, Conn ts p
  ne : ∀ p ∈ F, p ≠ []
theorem Bo.flat (B : Bo n ts out F) : ∀ t ∈ ts, t.1 ∉ out → t.2 ∉ out → (t.1 ∈ F.flatten ↔ t.2 ∈ F.flatten) := fun t h h1 h2 => by
  rw [List.mem_flatten, List.mem_flatten]
  exact ⟨fun ⟨p, hp, z⟩ => ⟨p, hp, (B.closed t h h1 h2 p hp).mp z⟩, fun ⟨p, hp, z⟩ => ⟨p, hp, (B.closed t h h1 h2 p hp).mpr z⟩⟩
theorem Bo.add (B : Bo n ts out F) {q : List Nat} (Q : Bq n ts out F q) (hn : q ≠ []) (hd : ∀ v ∈ q, ∀ t ∈ ts, nbr out q v t) : Bo n ts out (F ++ [q]) := by
  refine ⟨?_, fun v hv => ?_, fun t h h1 h2 p hp => ?_, fun p hp => ?_, fun p hp => ?_⟩
  · rw [List.flatten_append, List.nodup_append]
    refine ⟨B.nd, by simp; exact Q.nd, fun a ha b hb e => ?_⟩
    simp at hb
    subst e
    exact (Q.sub a hb).2.2 ha
  · rw [List.flatten_append, List.mem_append] at hv
    rcases hv with hv | hv
    · exact B.sub v hv
    · simp at hv; exact ⟨(Q.sub v hv).1, (Q.sub v hv).2.1⟩
  · rcases List.mem_append.mp hp with hp | hp
    · exact B.closed t h h1 h2 p hp
    · simp at hp; subst hp
      exact ⟨fun z => (hd t.1 z t h).1 rfl h2, fun z => (hd t.2 z t h).2 rfl h1⟩
  · rcases List.mem_append.mp hp with hp | hp
    · exact B.conn p hp
    · simp at hp; subst hp; exact Q.conn
  · rcases List.mem_append.mp hp with hp | hp
    · exact B.ne p hp
    · simp at hp; subst hp; exact hn
theorem Bq.len {q : List Nat} (B : Bq n ts out F q) : q.length ≤ n := by
  have pm := perm_of B.nd (List.nodup_range.sublist (List.filter_sublist (p := fun v => decide (v ∈ q)) (l := List.range n))) (fun v => by
    rw [List.mem_filter, List.mem_range]
    exact ⟨fun h => ⟨(B.sub v h).1, by simpa using h⟩, fun h => by simpa using h.2⟩)
  rw [pm.length_eq]
  exact Nat.le_trans (List.length_filter_le _ _) (by simp)
end
/-! ### the walk -/
section
variable {Γ : Nat → List D → R D}
theorem whl_inv {t : Rho → R Bool} {b : Rho → Out} (I : Nat → Rho → Prop) (J : Rho → Prop) (step : ∀ m ρ, I m ρ → (t ρ = .ok false ∧ J ρ) ∨ (t ρ = .ok true ∧ ∃ ρ' m', b ρ = .nx ρ' ∧ I m' ρ' ∧ m' < m)) : ∀ fuel m ρ, I m ρ → m < fuel → ∃ ρ', whlR t b fuel ρ = .nx ρ' ∧ J ρ' := by
  intro fuel
  induction fuel with
  | zero => intro m ρ _ h; omega
  | succ fuel ih =>
    intro m ρ hI hm
    rcases step m ρ hI with ⟨e, j⟩ | ⟨e, ρ', m', eb, i', lt⟩
    · exact ⟨ρ, by rw [whlR, e], j⟩
    · obtain ⟨ρ2, e2, j⟩ := ih m' ρ' i' (by omega)
      exact ⟨ρ2, by rw [whlR, e]; simp only [eb]; exact e2, j⟩
def bp_tie : S := (.seq (.ite (.cmp (.idx (.var 4) (.var 5)) (.ccons .isin (.var 6) .cnil))
 (.seq (.set 7 (.bin .sub (.bin .add (.idx (.var 6) (.int 0)) (.idx (.var 6) (.int 1))) (.idx (.var 4) (.var 5))))
 (.seq (.ite (.and (.cons (.cmp (.var 7) (.ccons .notin (.var 1) .cnil)) (.cons (.cmp (.var 7) (.ccons .notin (.var 4) .cnil)) .nil)))
 (.seq (.app 4 (.var 7))
 .skip)
 .skip)
 .skip))
 .skip)
 .skip)
def bp_at : S := (.seq (.loop (.nm 6) (.seq (.idx (.var 0) (.int 1))) bp_tie)
 (.seq (.set 5 (.bin .add (.var 5) (.int 1)))
 .skip))
def bp_start : S := (.seq (.ite (.and (.cons (.cmp (.var 3) (.ccons .notin (.var 1) .cnil)) (.cons (.not (.bi .any (.cons (.comp (.cmp (.var 3) (.ccons .isin (.var 4) .cnil)) (.nm 4) (.seq (.var 2)) .nil [4]) .nil))) .nil)))
 (.seq (.par 4 5 (.lst (.cons (.var 3) .nil)) (.int 0))
 (.seq (.whl 100000 (.cmp (.var 5) (.ccons .lt (.bi .len (.cons (.var 4) .nil)) .cnil)) bp_at)
 (.seq (.app 2 (.var 4))
 .skip)))
 .skip)
 .skip)
theorem kp_tie {n : Nat} {ts : List (Nat × Nat)} {out : List Nat} {F : List (List Nat)} (ht : ∀ t ∈ ts, t.1 < t.2 ∧ t.2 < n) (hn : n ≤ 1000) (hF : ∀ t ∈ ts, t.1 ∉ out → t.2 ∉ out → (t.1 ∈ F.flatten ↔ t.2 ∈ F.flatten)) (f g : Bool) (s2 s3 : Sl) (q : List Nat) (B : Bq n ts out F q) (k : Nat) (hk : k < q.length) (s6 s7 : Sl) :
    ∃ t6 t7, forR (loopF Γ (.nm 6) bp_tie) (ts.map tieD) [.val (webD f n ts), .val (natsD g out), s2, s3, .own (q.map iN), .val (iN k), s6, s7] = .nx [.val (webD f n ts), .val (natsD g out), s2, s3, .own ((ts.foldl (addT out q[k]) q).map iN), .val (iN k), t6, t7] := by
  obtain ⟨ρ', e, t6, t7, e2⟩ := forR_pre (enc := tieD) (f := loopF Γ (.nm 6) bp_tie) (fun pre ρ => ∃ t6 t7 : Sl, ρ = [.val (webD f n ts), .val (natsD g out), s2, s3, .own ((pre.foldl (addT out q[k]) q).map iN), .val (iN k), t6, t7])
    (l := ts) (ρ := [.val (webD f n ts), .val (natsD g out), s2, s3, .own (q.map iN), .val (iN k), s6, s7]) ⟨s6, s7, rfl⟩ (by
      rintro pre t suf ρ hl ⟨t6, t7, rfl⟩
      have hsub : ∀ t ∈ pre, t ∈ ts := fun t h => by rw [hl]; exact List.mem_append_left _ h
      obtain ⟨B1, ⟨x, ex⟩, _⟩ := addTs_ok ht hF hsub B (List.getElem_mem hk)
      have hm : t ∈ ts := by rw [hl]; simp
      obtain ⟨h1, h2⟩ := ht t hm
      have hk2 : k < (pre.foldl (addT out q[k]) q).length := by rw [ex, List.length_append]; omega
      have ek : (pre.foldl (addT out q[k]) q)[k] = q[k] := by
        have : (pre.foldl (addT out q[k]) q)[k]? = some q[k] := by rw [ex, List.getElem?_append_left hk, List.getElem?_eq_getElem hk]
        rw [List.getElem?_eq_getElem hk2] at this
        exact Option.some.inj this
      have ll := B1.len
      rw [List.foldl_append]
      rw [List.foldl_cons, List.foldl_nil]
      generalize pre.foldl (addT out q[k]) q = Q at *
      have i1 := idx_map (enc := iN) (f := true) (l := Q) (i := k) hk2
      rw [ek] at i1
      generalize q[k] = v at *
      have i2 := faith_iN.inT (by decide) v [t.1, t.2]
      have i3 := faith_iN.inD (by decide) (t.1 + t.2 - v) g out
      have i4 := faith_iN.inD (by decide) (t.1 + t.2 - v) true Q
      have ap := fun ρ => appS_map (enc := iN) (l := Q) (x := 4) (ρ := ρ) (v := t.1 + t.2 - v) (cap15 (by omega))
      by_cases hv : v = t.1 ∨ v = t.2
      · have cast : ((t.1 : Nat) : Int) + (t.2 : Nat) - (v : Nat) = ((t.1 + t.2 - v : Nat) : Int) := by rcases hv with e | e <;> omega
        have dv : decide (v ∈ [t.1, t.2]) = true := by simpa using hv
        rw [dv] at i2
        unfold addT
        rw [if_pos hv]
        generalize t.1 + t.2 - v = w at *
        by_cases c1 : w ∈ out
        · refine ⟨[.val (webD f n ts), .val (natsD g out), s2, s3, .own (Q.map iN), .val (iN k), .val (tieD t), .val (iN w)], ?_, _, _, by rw [if_neg fun z => z.1 c1]⟩
          simp -implicitDefEqProofs only [iN_eq, List.map_cons, List.map_nil] at i1 i2 i3 i4
          simp -implicitDefEqProofs [loopF, bp_tie, tieD, natsD, webD, iN_eq, i1, i2, i3, i4, cast, c1]
        · by_cases c2 : w ∈ Q
          · refine ⟨[.val (webD f n ts), .val (natsD g out), s2, s3, .own (Q.map iN), .val (iN k), .val (tieD t), .val (iN w)], ?_, _, _, by rw [if_neg fun z => z.2 c2]⟩
            simp -implicitDefEqProofs only [iN_eq, List.map_cons, List.map_nil] at i1 i2 i3 i4
            simp -implicitDefEqProofs [loopF, bp_tie, tieD, natsD, webD, iN_eq, i1, i2, i3, i4, cast, c1, c2]
          · refine ⟨[.val (webD f n ts), .val (natsD g out), s2, s3, .own ((Q ++ [w]).map iN), .val (iN k), .val (tieD t), .val (iN w)], ?_, _, _, by rw [if_pos ⟨c1, c2⟩]⟩
            simp -implicitDefEqProofs only [iN_eq, List.map_cons, List.map_nil] at i1 i2 i3 i4 ap
            simp -implicitDefEqProofs [loopF, bp_tie, tieD, natsD, webD, iN_eq, i1, i2, i3, i4, cast, c1, c2, ap]
      · have dv : decide (v ∈ [t.1, t.2]) = false := by simpa using hv
        rw [dv] at i2
        refine ⟨[.val (webD f n ts), .val (natsD g out), s2, s3, .own (Q.map iN), .val (iN k), .val (tieD t), t7], ?_, _, _, by unfold addT; rw [if_neg hv]⟩
        simp -implicitDefEqProofs only [iN_eq, List.map_cons, List.map_nil] at i1 i2
        simp -implicitDefEqProofs [loopF, bp_tie, tieD, natsD, webD, iN_eq, i1, i2])
  subst e2
  exact ⟨t6, t7, e⟩
/-- the piece of a start -/
theorem kp_piece {n : Nat} {ts : List (Nat × Nat)} {out : List Nat} {F : List (List Nat)} (ht : ∀ t ∈ ts, t.1 < t.2 ∧ t.2 < n) (hn : n ≤ 1000) (hF : ∀ t ∈ ts, t.1 ∉ out → t.2 ∉ out → (t.1 ∈ F.flatten ↔ t.2 ∈ F.flatten)) (f g : Bool) (s2 s3 : Sl) {st : Nat} (B : Bq n ts out F [st]) (s6 s7 : Sl) :
    ∃ q k t6 t7, Bq n ts out F q ∧ st ∈ q ∧ (∀ v ∈ q, ∀ t ∈ ts, nbr out q v t) ∧ whlR (whlT Γ (.cmp (.var 5) (.ccons .lt (.bi .len (.cons (.var 4) .nil)) .cnil))) (exec Γ bp_at) 100000 [.val (webD f n ts), .val (natsD g out), s2, s3, .own ([st].map iN), .val (iN 0), s6, s7] = .nx [.val (webD f n ts), .val (natsD g out), s2, s3, .own (q.map iN), .val (iN k), t6, t7] := by
  obtain ⟨ρ', e, q, k, t6, t7, rfl, Q, hq, hd, _⟩ := whl_inv (t := whlT Γ (.cmp (.var 5) (.ccons .lt (.bi .len (.cons (.var 4) .nil)) .cnil))) (b := exec Γ bp_at)
    (fun m ρ => ∃ q k t6 t7, ρ = [.val (webD f n ts), .val (natsD g out), s2, s3, .own (q.map iN), .val (iN k), t6, t7] ∧ Bq n ts out F q ∧ st ∈ q ∧ k ≤ q.length ∧ (∀ i (hi : i < q.length), i < k → ∀ t ∈ ts, nbr out q q[i] t) ∧ m + k = n)
    (fun ρ => ∃ q k t6 t7, ρ = [.val (webD f n ts), .val (natsD g out), s2, s3, .own (q.map iN), .val (iN k), t6, t7] ∧ Bq n ts out F q ∧ st ∈ q ∧ (∀ v ∈ q, ∀ t ∈ ts, nbr out q v t) ∧ True)
    (by
      rintro m ρ ⟨q, k, t6, t7, rfl, Q, hq, hk, hd, hm⟩
      have ll := Q.len
      by_cases c : k < q.length
      · right
        obtain ⟨u6, u7, e⟩ := kp_tie (Γ := Γ) ht hn hF f g s2 s3 q Q k c t6 t7
        obtain ⟨B1, ⟨x, ex⟩, nb⟩ := addTs_ok ht hF (l := ts) (fun t h => h) Q (List.getElem_mem c)
        refine ⟨by simp -implicitDefEqProofs [whlT, iN_eq, c], [.val (webD f n ts), .val (natsD g out), s2, s3, .own ((ts.foldl (addT out q[k]) q).map iN), .val (iN (k + 1)), u6, u7], m - 1, ?_, ⟨_, _, _, _, rfl, B1, by rw [ex]; exact List.mem_append_left _ hq, by rw [ex, List.length_append]; omega, fun i hi h t h' => ?_, by omega⟩, by omega⟩
        · generalize (ts.foldl (addT out q[k]) q).map iN = ql at e
          simp -implicitDefEqProofs only [webD, natsD, iN_eq] at e
          simp -implicitDefEqProofs [bp_at, webD, natsD, iN_eq, e]
        · have sub : ∀ x ∈ q, x ∈ ts.foldl (addT out q[k]) q := fun y hy => by rw [ex]; exact List.mem_append_left _ hy
          have gi : ∀ j (hj : j < q.length) (hj' : j < (ts.foldl (addT out q[k]) q).length), (ts.foldl (addT out q[k]) q)[j] = q[j] := fun j hj hj' => by
            have : (ts.foldl (addT out q[k]) q)[j]? = some q[j] := by rw [ex, List.getElem?_append_left hj, List.getElem?_eq_getElem hj]
            rw [List.getElem?_eq_getElem hj'] at this
            exact Option.some.inj this
          have hiq : i < q.length := by omega
          rw [gi i hiq hi]
          by_cases ik : i < k
          · exact (hd i hiq ik t h').mono sub
          · have : i = k := by omega
            subst this
            exact nb t h'
      · left
        refine ⟨by simp -implicitDefEqProofs [whlT, iN_eq, c], q, k, t6, t7, rfl, Q, hq, fun v hv t h => ?_, trivial⟩
        obtain ⟨i, hi, rfl⟩ := List.getElem_of_mem hv
        exact hd i hi (by omega) t h)
    100000 n _ ⟨[st], 0, s6, s7, rfl, B, by simp, by simp, fun i hi h => by omega, by omega⟩ (by omega)
  exact ⟨q, k, t6, t7, Q, hq, hd, e⟩
end
end Wt
namespace Wt
open PySem L2 Lv
theorem nodup_len {l : List Nat} {n : Nat} (nd : l.Nodup) (h : ∀ v ∈ l, v < n) : l.length ≤ n := by
  have pm := perm_of nd (List.nodup_range.sublist (List.filter_sublist (p := fun v => decide (v ∈ l)) (l := List.range n))) (fun v => by
    rw [List.mem_filter, List.mem_range]
    exact ⟨fun k => ⟨h v k, by simpa using k⟩, fun k => by simpa using k.2⟩)
  rw [pm.length_eq]
  exact Nat.le_trans (List.length_filter_le _ _) (by simp)
theorem flat_len : ∀ {F : List (List Nat)}, (∀ p ∈ F, p ≠ []) → F.length ≤ F.flatten.length
  | [], _ => by simp
  | p :: F, h => by
    have h1 := flat_len fun q hq => h q (List.mem_cons_of_mem _ hq)
    have h2 : 0 < p.length := by have := h p (List.mem_cons_self ..); cases p with | nil => exact absurd rfl this | cons _ _ => simp
    rw [List.flatten_cons, List.length_append, List.length_cons]; omega
theorem Bo.len {n : Nat} {ts : List (Nat × Nat)} {out : List Nat} {F : List (List Nat)} (B : Bo n ts out F) : F.length ≤ n := Nat.le_trans (flat_len B.ne) (nodup_len B.nd fun v hv => (B.sub v hv).1)
theorem any_flat (F : List (List Nat)) (x : Nat) : (F.any fun p => decide (x ∈ p)) = decide (x ∈ F.flatten) := by
  rw [Bool.eq_iff_iff, List.any_eq_true, decide_eq_true_eq, List.mem_flatten]
  simp
section
variable {Γ : Nat → List D → R D}
theorem m_law_pieces {n : Nat} {ts : List (Nat × Nat)} {out : List Nat} (ht : ∀ t ∈ ts, t.1 < t.2 ∧ t.2 < n) (hn : n ≤ 1000) (f g : Bool) : ∃ P, Pcs n ts out P ∧ runB Γ 8 b_law_pieces [webD f n ts, natsD g out] = .ok (.lst true (P.map (natsD true))) := by
  obtain ⟨ρ', e, F, a3, a4, a5, a6, a7, rfl, B, cov⟩ := forR_pre (enc := iN) (f := loopF Γ (.nm 3) bp_start) (fun pre ρ => ∃ (F : List (List Nat)) (a3 a4 a5 a6 a7 : Sl), ρ = [.val (webD f n ts), .val (natsD g out), .own (F.map (natsD true)), a3, a4, a5, a6, a7] ∧ Bo n ts out F ∧ ∀ v ∈ pre, v ∉ out → v ∈ F.flatten)
    (l := List.range n) (ρ := [.val (webD f n ts), .val (natsD g out), .own [], .no, .no, .no, .no, .no]) ⟨[], .no, .no, .no, .no, .no, rfl, ⟨by simp, by simp, by simp, by simp, by simp⟩, by simp⟩ (by
      rintro pre x suf ρ hl ⟨F, a3, a4, a5, a6, a7, rfl, B, cov⟩
      obtain ⟨hx, _, _⟩ := range_pre hl
      have i1 := faith_iN.inD (by decide) x g out
      have c1 : ∀ ρ : Rho, ρ = [.val (webD f n ts), .val (natsD g out), .val (.lst true (F.map (natsD true))), .val (iN x), a4.share, a5.share, a6.share, a7.share] → compR (compF Γ (.cmp (.var 3) (.ccons .isin (.var 4) .cnil)) (.nm 4) .nil [4] ρ) (F.map (natsD true)) = .ok (F.map fun p => .bl (decide (x ∈ p))) := by
        rintro ρ rfl
        refine compR_all fun p hp => ?_
        have := faith_iN.inD (by decide) x true p
        simp -implicitDefEqProofs only [iN_eq] at this
        simp -implicitDefEqProofs [compF, natsD, iN_eq, this]
      have c1 := c1 _ rfl
      have a1 := any_map true (fun p : List Nat => decide (x ∈ p)) F
      rw [any_flat] at a1
      have fl := B.len
      have l1 : mkL (F.map fun p => D.bl (decide (x ∈ p))) = _ := ml_ok (cap14 (by simp; omega))
      generalize hxl : (F.map fun p => D.bl (decide (x ∈ p))) = xl at c1 a1 l1
      by_cases o : x ∈ out
      · refine ⟨[.val (webD f n ts), .val (natsD g out), .own (F.map (natsD true)), .val (iN x), a4, a5, a6, a7], ?_, F, _, _, _, _, _, rfl, B, fun v hv ho => ?_⟩
        · generalize F.map (natsD true) = fl at *
          simp -implicitDefEqProofs only [iN_eq, natsD] at i1
          simp -implicitDefEqProofs [loopF, bp_start, natsD, iN_eq, i1, o]
        · rcases List.mem_append.mp hv with hv | hv
          · exact cov v hv ho
          · simp at hv; subst hv; exact absurd o ho
      · by_cases hf : x ∈ F.flatten
        · refine ⟨[.val (webD f n ts), .val (natsD g out), .own (F.map (natsD true)), .val (iN x), a4, a5, a6, a7], ?_, F, _, _, _, _, _, rfl, B, fun v hv ho => ?_⟩
          · generalize F.map (natsD true) = fl at *
            simp -implicitDefEqProofs only [iN_eq, natsD, webD] at i1 c1
            simp -implicitDefEqProofs [loopF, bp_start, natsD, webD, iN_eq, i1, o, c1, l1, a1, hf, share_share]
          · rcases List.mem_append.mp hv with hv | hv
            · exact cov v hv ho
            · simp at hv; subst hv; exact hf
        · have Q0 : Bq n ts out F [x] := ⟨by simp, fun v hv => by simp at hv; subst hv; exact ⟨hx, o, hf⟩, Conn.one _ _⟩
          obtain ⟨q, k, t6, t7, Q, hq, hd, ew⟩ := kp_piece (Γ := Γ) ht hn B.flat f g (.own (F.map (natsD true))) (.val (iN x)) Q0 a6 a7
          have ap := fun ρ => appS_map (enc := natsD true) (l := F) (x := 2) (ρ := ρ) (v := q) (cap15 (by omega))
          have lx := ml_ok (ds := [iN x]) (cap14 (by simp))
          refine ⟨[.val (webD f n ts), .val (natsD g out), .own ((F ++ [q]).map (natsD true)), .val (iN x), .val (natsD true q), .val (iN k), t6, t7], ?_, F ++ [q], _, _, _, _, _, rfl, B.add Q (fun z => by rw [z] at hq; cases hq) hd, fun v hv ho => ?_⟩
          · generalize (F ++ [q]).map (natsD true) = fl2 at *
            generalize F.map (natsD true) = fl at *
            simp -implicitDefEqProofs only [iN_eq, natsD, webD] at i1 c1 lx ap
            simp -implicitDefEqProofs [iN_eq, natsD, webD] at ew
            simp -implicitDefEqProofs [loopF, bp_start, natsD, webD, iN_eq, i1, o, c1, l1, a1, hf, lx, share_share, ew, ap]
          · rw [List.flatten_append, List.mem_append]
            rcases List.mem_append.mp hv with hv | hv
            · exact .inl (cov v hv ho)
            · simp at hv; subst hv
              right; simp; exact hq)
  refine ⟨F, ⟨B.nd, fun v => ⟨B.sub v, fun h => cov v (List.mem_range.mpr h.1) h.2⟩, B.closed, B.conn, B.ne⟩, ?_⟩
  have eb : b_law_pieces = .seq (.set 2 (.lst .nil)) (.seq (.loop (.nm 3) (.rng (.cons (.idx (.var 0) (.int 0)) .nil)) bp_start) (.seq (.ret (.var 2)) .skip)) := rfl
  have l0 : mkL [] = .ok (.lst true []) := ml_ok (cap14 (by decide))
  have r1 := rng_nat (n := n) (cap14 (by omega))
  rw [eb]
  generalize F.map (natsD true) = fl at *
  simp -implicitDefEqProofs only [iN_eq, natsD, webD] at e r1
  simp -implicitDefEqProofs [runB_eq, natsD, webD, iN_eq, l0, r1, e]
end
end Wt
/-! ## What two lots leave, as the law reckons it -/
namespace Wt
open PySem L2 Lv
theorem map_sum {α : Type} (f : α → Int) : ∀ l : List α, (l.map f).sum = sm l f
  | [] => rfl
  | x :: l => by rw [List.map_cons, List.sum_cons, map_sum f l]; rfl
theorem oddP_perm (ts ws : List (Nat × Nat)) (b : List Nat) (l k : List Nat) (h : l.Perm k) : oddP ts ws b l = oddP ts ws b k := by
  have e1 : (l.all fun v => decide (loW ws v = hiW ws v)) = k.all fun v => decide (loW ws v = hiW ws v) := by
    rw [Bool.eq_iff_iff, List.all_eq_true, List.all_eq_true]
    exact ⟨fun z x hx => z x (h.mem_iff.mpr hx), fun z x hx => z x (h.mem_iff.mp hx)⟩
  have e2 : ties ts l b = ties ts k b := by
    unfold ties
    congr 1
    apply List.filter_congr
    intro t _
    unfold tieB
    simp only [h.mem_iff]
  unfold oddP
  rw [e1, e2, map_sum, map_sum, sm_perm h]
theorem spareP_same {n : Nat} {ts ws : List (Nat × Nat)} {a b out : List Nat} {P P' : List (List Nat)} (h : Pcs n ts out P) (h' : Pcs n ts out P') : spareP ts ws a b P = spareP ts ws a b P' := by
  unfold spareP
  rw [map_sum (oddP ts ws b) P, map_sum (oddP ts ws b) P', h.same h' (oddP_perm ts ws b)]
/-- each place of the other lot: its ties to what is free -/
def othN (n : Nat) (a : List Nat) (v : Nat) : List Nat := ((List.range n).filter fun x => !decide (x ∈ a)).filter fun x => !decide (x = v)
theorem len_sm {α : Type} (p : α → Bool) : ∀ l : List α, ((l.filter p).length : Int) = sm l fun x => if p x = true then 1 else 0
  | [] => rfl
  | x :: l => by
    rw [List.filter_cons]
    simp only [sm]
    split
    · rw [List.length_cons, Int.natCast_add, len_sm p l]; omega
    · rw [len_sm p l]; omega
theorem tc_sum {n : Nat} {ts : List (Nat × Nat)} (ht : ∀ t ∈ ts, t.1 < t.2 ∧ t.2 < n) (a : List Nat) {b : List Nat} (nd : b.Nodup) : (b.map fun v => ((ties ts [v] (othN n a v) : Nat) : Int)).sum = (ts.map (tcB a b)).sum := by
  rw [map_sum, map_sum]
  have e : ∀ v ∈ b, ((ties ts [v] (othN n a v) : Nat) : Int) = sm ts fun t => if tieB [v] (othN n a v) t = true then 1 else 0 := fun v _ => len_sm _ ts
  rw [sm_congr e, sm_comm (fun v t => if tieB [v] (othN n a v) t = true then (1 : Int) else 0) ts b]
  refine sm_congr fun t h => ?_
  obtain ⟨h1, h2⟩ := ht t h
  have one : ∀ x y : Nat, x ≠ y → x < n → y < n → sm b (fun v => if v = x ∧ y ∉ a then (1 : Int) else 0) = if x ∈ b ∧ y ∉ a then 1 else 0 := fun x y hne hx hy => by
    by_cases c : y ∉ a
    · by_cases cb : x ∈ b
      · rw [if_pos ⟨cb, c⟩]
        have := sm_point (g := fun v => if v = x ∧ y ∉ a then (1 : Int) else 0) (h := fun _ => 0) nd cb fun w _ hw => if_neg (fun z : w = x ∧ y ∉ a => hw z.1)
        rw [sm_zero (g := fun _ => 0) fun _ _ => rfl] at this
        simp only [c, not_false_eq_true, and_self, if_true] at this ⊢
        omega
      · rw [if_neg (fun z : x ∈ b ∧ y ∉ a => cb z.1)]
        exact sm_zero fun v hv => if_neg (fun z : v = x ∧ y ∉ a => cb (z.1 ▸ hv))
    · rw [if_neg (fun z : x ∈ b ∧ y ∉ a => c z.2)]
      exact sm_zero fun v hv => if_neg (fun z : v = x ∧ y ∉ a => c z.2)
  have split : ∀ v ∈ b, (if tieB [v] (othN n a v) t = true then (1 : Int) else 0) = (if v = t.1 ∧ t.2 ∉ a then 1 else 0) + (if v = t.2 ∧ t.1 ∉ a then 1 else 0) := fun v _ => by
    unfold tieB othN
    simp only [List.mem_singleton, List.mem_filter, List.mem_range, Bool.not_eq_true', decide_eq_false_iff_not, Bool.or_eq_true, Bool.and_eq_true, decide_eq_true_eq]
    by_cases c1 : v = t.1
    · have c2 : ¬ v = t.2 := by omega
      have c3 : ¬ t.2 = t.1 := by omega
      have c4 : ¬ t.1 = t.2 := by omega
      have c5 : t.2 < n := h2
      subst c1
      by_cases c6 : t.2 ∈ a <;> simp [c3, c4, c5, c6]
    · by_cases c2 : v = t.2
      · have c4 : ¬ t.1 = t.2 := by omega
        have c3 : ¬ t.2 = t.1 := by omega
        have c5 : t.1 < n := by omega
        subst c2
        by_cases c6 : t.1 ∈ a <;> simp [c3, c4, c5, c6]
      · have c3 : ¬ t.1 = v := fun z => c1 z.symm
        have c4 : ¬ t.2 = v := fun z => c2 z.symm
        simp [c1, c2, c3, c4]
  rw [sm_congr split, sm_add, one t.1 t.2 (by omega) (by omega) h2, one t.2 t.1 (by omega) h2 (by omega)]
  rfl
def oddL (ts ws : List (Nat × Nat)) (b p : List Nat) : Int := if p.all (fun v => decide (loW ws v = hiW ws v)) = true then ((p.map (loW ws)).sum + (ties ts p b : Nat)) % 2 else 0
theorem oddL_eq (ts ws : List (Nat × Nat)) (b p : List Nat) : oddL ts ws b p = oddP ts ws b p := by
  unfold oddL oddP
  by_cases h : p.all (fun v => decide (loW ws v = hiW ws v)) = true
  · rw [if_pos h, if_pos h]
    have : p.map (loW ws) = p.map (hiW ws) := List.map_congr_left fun v hv => by
      have := List.all_eq_true.mp h v hv
      simpa using this
    rw [this]
  · rw [if_neg h, if_neg h]
section
variable {Γ : Nat → List D → R D}
def b34_other : S := (.seq (.set 7 (.comp (.var 10) (.nm 10) (.seq (.var 5)) (.cons (.cmp (.var 10) (.ccons .ne (.var 6) .cnil)) .nil) [10]))
 (.seq (.set 4 (.bin .sub (.bin .add (.var 4) (.call 33 (.cons (.var 0) (.cons (.lst (.cons (.var 6) .nil)) (.cons (.var 7) .nil))))) (.idx (.idx (.var 1) (.var 6)) (.int 0))))
 .skip))
def b34_piece : S := (.seq (.ite (.bi .all (.cons (.comp (.cmp (.idx (.idx (.var 1) (.var 6)) (.int 0)) (.ccons .eq (.idx (.idx (.var 1) (.var 6)) (.int 1)) .cnil)) (.nm 6) (.seq (.var 8)) .nil [6]) .nil))
 (.seq (.set 9 (.bin .add (.bi .sum (.cons (.comp (.idx (.idx (.var 1) (.var 6)) (.int 0)) (.nm 6) (.seq (.var 8)) .nil [6]) .nil)) (.call 33 (.cons (.var 0) (.cons (.var 8) (.cons (.var 3) .nil))))))
 (.seq (.set 4 (.bin .sub (.var 4) (.bin .mod (.var 9) (.int 2))))
 .skip))
 .skip)
 .skip)
theorem k34_other {n : Nat} {ts ws : List (Nat × Nat)} {a b : List Nat} (hn : n ≤ 1000) (h33 : ∀ p o, Γ 33 [webD false n ts, natsD false p, natsD false o] = .ok (iN (ties ts p o))) (f g h k : Bool) (z : Int) (s5 s6 s7 s8 s9 : Sl) (h5 : s5.share = .val (natsD true ((List.range n).filter fun x => !decide (x ∈ a)))) (hb : ∀ v ∈ b, v < ws.length) :
    ∃ t5 t6 t7, forR (loopF Γ (.nm 6) b34_other) (b.map iN) [.val (webD f n ts), .val (tiesD g ws), .val (natsD h a), .val (natsD k b), .val (.int z), s5, s6, s7, s8, s9, .no]
    = .nx [.val (webD f n ts), .val (tiesD g ws), .val (natsD h a), .val (natsD k b), .val (.int (z + (b.map fun v => ((ties ts [v] (othN n a v) : Nat) : Int) - loW ws v).sum)), t5, t6, t7, s8, s9, .no] := by
  obtain ⟨ρ', e, t5, t6, t7, e2, _⟩ := forR_pre (enc := iN) (f := loopF Γ (.nm 6) b34_other) (fun pre ρ => ∃ t5 t6 t7 : Sl, ρ = [.val (webD f n ts), .val (tiesD g ws), .val (natsD h a), .val (natsD k b), .val (.int (z + (pre.map fun v => ((ties ts [v] (othN n a v) : Nat) : Int) - loW ws v).sum)), t5, t6, t7, s8, s9, .no] ∧ t5.share = .val (natsD true ((List.range n).filter fun x => !decide (x ∈ a))))
    (l := b) (ρ := [.val (webD f n ts), .val (tiesD g ws), .val (natsD h a), .val (natsD k b), .val (.int z), s5, s6, s7, s8, s9, .no]) ⟨s5, s6, s7, by simp, h5⟩ (by
      rintro pre v suf ρ hl ⟨t5, t6, t7, rfl, h5⟩
      have hv := hb v (by rw [hl]; simp)
      have es : (pre ++ [v]).map (fun v => ((ties ts [v] (othN n a v) : Nat) : Int) - loW ws v) = pre.map (fun v => ((ties ts [v] (othN n a v) : Nat) : Int) - loW ws v) ++ [((ties ts [v] (othN n a v) : Nat) : Int) - loW ws v] := by simp
      refine ⟨[.val (webD f n ts), .val (tiesD g ws), .val (natsD h a), .val (natsD k b), .val (.int (z + ((pre ++ [v]).map (fun v => ((ties ts [v] (othN n a v) : Nat) : Int) - loW ws v)).sum)), .val (natsD true ((List.range n).filter fun x => !decide (x ∈ a))), .val (iN v), .val (natsD true (othN n a v)), s8, s9, .no], ?_, _, _, _, rfl, rfl⟩
      rw [es, sum_snoc]
      generalize (pre.map (fun v => ((ties ts [v] (othN n a v) : Nat) : Int) - loW ws v)).sum = y
      have hlen : ((List.range n).filter fun x => !decide (x ∈ a)).length ≤ 1000 := Nat.le_trans (List.length_filter_le _ _) (by simp; omega)
      have c1 : ∀ ρ : Rho, ρ = [.val (webD f n ts), .val (tiesD g ws), .val (natsD h a), .val (natsD k b), .val (.int (z + y)), .val (natsD true ((List.range n).filter fun x => !decide (x ∈ a))), .val (iN v), t7, s8, s9, .no] → compR (compF Γ (.var 10) (.nm 10) (.cons (.cmp (.var 10) (.ccons .ne (.var 6) .cnil)) .nil) [10] ρ) (((List.range n).filter fun x => !decide (x ∈ a)).map iN) = .ok ((othN n a v).map iN) := by
        rintro ρ rfl
        refine compR_map fun x hx => ?_
        have := faith_iN.eqD (by decide) x v
        simp -implicitDefEqProofs only [iN_eq] at this
        by_cases q : x = v
        · subst q; simp -implicitDefEqProofs [compF, iN_eq, this]
        · simp -implicitDefEqProofs [compF, iN_eq, this, q]
      have c1 := c1 _ rfl
      have hlen2 : (othN n a v).length ≤ 1000 := Nat.le_trans (List.length_filter_le _ _) hlen
      have l1 : mkL ((othN n a v).map iN) = _ := ml_ok (cap14 (by simp; omega))
      have l2 := ml_ok (ds := [iN v]) (cap14 (by simp))
      have i := idx_lh g hv
      have o1 := old_natsD (othN n a v)
      have c33 := h33 [v] (othN n a v)
      have ot : olds (ts.map tieD) = ts.map tieD := olds_map (fun _ => by simp [tieD, iN]) ts
      generalize ties ts [v] (othN n a v) = ti at *
      generalize othN n a v = oo at *
      generalize hfl : (List.range n).filter (fun x => !decide (x ∈ a)) = fl at *
      simp -implicitDefEqProofs only [iN_eq, natsD, webD, tiesD, List.map_cons, List.map_nil] at h5 c1 i l2 c33
      simp -implicitDefEqProofs [loopF, b34_other, webD, natsD, tiesD, iN_eq, h5, c1, l1, l2, i, o1, c33, ot] <;> omega)
  subst e2
  exact ⟨t5, t6, t7, e⟩
theorem k34_piece {n : Nat} {ts ws : List (Nat × Nat)} {a b : List Nat} (h33 : ∀ p o, Γ 33 [webD false n ts, natsD false p, natsD false o] = .ok (iN (ties ts p o))) (f g h k : Bool) (z : Int) (s5 s6 s7 s8 s9 s10 : Sl) (P : List (List Nat)) (hP : ∀ p ∈ P, p.length ≤ 1000 ∧ ∀ v ∈ p, v < ws.length) :
    ∃ t8 t9, forR (loopF Γ (.nm 8) b34_piece) (P.map (natsD true)) [.val (webD f n ts), .val (tiesD g ws), .val (natsD h a), .val (natsD k b), .val (.int z), s5, s6, s7, s8, s9, s10]
    = .nx [.val (webD f n ts), .val (tiesD g ws), .val (natsD h a), .val (natsD k b), .val (.int (z - (P.map (oddL ts ws b)).sum)), s5, s6, s7, t8, t9, s10] := by
  obtain ⟨ρ', e, t8, t9, e2⟩ := forR_pre (enc := natsD true) (f := loopF Γ (.nm 8) b34_piece) (fun pre ρ => ∃ t8 t9 : Sl, ρ = [.val (webD f n ts), .val (tiesD g ws), .val (natsD h a), .val (natsD k b), .val (.int (z - (pre.map (oddL ts ws b)).sum)), s5, s6, s7, t8, t9, s10])
    (l := P) (ρ := [.val (webD f n ts), .val (tiesD g ws), .val (natsD h a), .val (natsD k b), .val (.int z), s5, s6, s7, s8, s9, s10]) ⟨s8, s9, by simp⟩ (by
      rintro pre p suf ρ hl ⟨t8, t9, rfl⟩
      obtain ⟨hp1, hp2⟩ := hP p (by rw [hl]; simp)
      have es : (pre ++ [p]).map (oddL ts ws b) = pre.map (oddL ts ws b) ++ [oddL ts ws b p] := by simp
      have ce := c_eq (Γ := Γ) (ρ := [.val (webD f n ts), .val (tiesD g ws), .val (natsD h a), .val (natsD k b), .val (.int (z - (pre.map (oddL ts ws b)).sum)), s5.share, s6.share, s7.share, .val (natsD true p), t9.share, s10.share]) (k := 6) (own := [6]) (ws := ws) (l := p) (f := g) (fun d => ⟨rfl, rfl⟩) hp2
      have ch := c_lo (Γ := Γ) (ρ := [.val (webD f n ts), .val (tiesD g ws), .val (natsD h a), .val (natsD k b), .val (.int (z - (pre.map (oddL ts ws b)).sum)), s5.share, s6.share, s7.share, .val (natsD true p), t9.share, s10.share]) (k := 6) (own := [6]) (ws := ws) (l := p) (f := g) (fun d => ⟨rfl, rfl⟩) hp2
      have l1 : mkL (p.map fun p => D.bl (decide (loW ws p = hiW ws p))) = _ := ml_ok (cap14 (by simp; omega))
      have l2 : mkL (p.map fun p => D.int (loW ws p)) = _ := ml_ok (cap14 (by simp; omega))
      have a1 := all_map true (fun v => decide (loW ws v = hiW ws v)) p
      have a2 := sum_map true (loW ws) p
      have op := old_natsD p
      have ob := old_natsD b
      have mo := op_mod_i (i := (p.map (loW ws)).sum + (ties ts p b : Nat)) (j := 2) (by decide)
      have c33 := h33 p b
      have ot : olds (ts.map tieD) = ts.map tieD := olds_map (fun _ => by simp [tieD, iN]) ts
      cases q : p.all fun v => decide (loW ws v = hiW ws v) with
      | false =>
        have eo : oddL ts ws b p = 0 := by unfold oddL; rw [q]; rfl
        refine ⟨[.val (webD f n ts), .val (tiesD g ws), .val (natsD h a), .val (natsD k b), .val (.int (z - ((pre ++ [p]).map (oddL ts ws b)).sum)), s5, s6, s7, .val (natsD true p), t9, s10], ?_, _, _, rfl⟩
        rw [es, sum_snoc, eo]
        rw [q] at a1
        generalize (pre.map (oddL ts ws b)).sum = y at *
        generalize (p.map fun p => D.bl (decide (loW ws p = hiW ws p))) = xl at ce l1 a1
        simp -implicitDefEqProofs only [natsD, webD, tiesD, iN_eq] at ce
        simp -implicitDefEqProofs [loopF, b34_piece, natsD, webD, tiesD, iN_eq, ce, l1, a1, share_share]
      | true =>
        have eo : oddL ts ws b p = ((p.map (loW ws)).sum + (ties ts p b : Nat)) % 2 := by unfold oddL; rw [q]; rfl
        refine ⟨[.val (webD f n ts), .val (tiesD g ws), .val (natsD h a), .val (natsD k b), .val (.int (z - ((pre ++ [p]).map (oddL ts ws b)).sum)), s5, s6, s7, .val (natsD true p), .val (.int ((p.map (loW ws)).sum + (ties ts p b : Nat))), s10], ?_, _, _, rfl⟩
        rw [es, sum_snoc, eo]
        rw [q] at a1
        generalize (pre.map (oddL ts ws b)).sum = y at *
        generalize (p.map fun p => D.bl (decide (loW ws p = hiW ws p))) = xl at ce l1 a1
        generalize (p.map fun p => D.int (loW ws p)) = yl at ch l2 a2
        generalize (p.map (loW ws)).sum = sm at *
        simp -implicitDefEqProofs only [natsD, webD, tiesD, iN_eq] at ce ch c33 op ob
        simp -implicitDefEqProofs [loopF, b34_piece, natsD, webD, tiesD, iN_eq, ce, ch, l1, l2, a1, a2, op, ob, ot, mo, c33, share_share]
        omega)
  subst e2
  exact ⟨t8, t9, e⟩
theorem m_law_spare {n : Nat} {ts ws : List (Nat × Nat)} {a b : List Nat} {P : List (List Nat)} (hn : n ≤ 1000) (ht : ∀ t ∈ ts, t.1 < t.2 ∧ t.2 < n) (h33 : ∀ p o, Γ 33 [webD false n ts, natsD false p, natsD false o] = .ok (iN (ties ts p o)))
    (h32 : Γ 32 [webD false n ts, natsD false (a ++ b)] = .ok (.lst true (P.map (natsD true)))) (hP : ∀ p ∈ P, p.length ≤ 1000 ∧ ∀ v ∈ p, v < ws.length) (ha : a.length ≤ 1000 ∧ ∀ v ∈ a, v < ws.length) (hb : b.length ≤ 1000 ∧ ∀ v ∈ b, v < ws.length) (nb : b.Nodup) (f g h k : Bool) :
    runB Γ 11 b_law_spare [webD f n ts, tiesD g ws, natsD h a, natsD k b] = .ok (.int (spareP ts ws a b P)) := by
  have ch := c_hi (Γ := Γ) (ρ := [.val (webD f n ts), .val (tiesD g ws), .val (natsD h a), .val (natsD k b), .no, .no, .no, .no, .no, .no, .no]) (k := 6) (own := [6]) (ws := ws) (l := a) (f := g) (fun d => ⟨rfl, rfl⟩) ha.2
  have cf : ∀ ρ : Rho, ρ = [.val (webD f n ts), .val (tiesD g ws), .val (natsD h a), .val (natsD k b), .val (.int (a.map (hiW ws)).sum), .no, .no, .no, .no, .no, .no] → compR (compF Γ (.var 6) (.nm 6) (.cons (.cmp (.var 6) (.ccons .notin (.var 2) .cnil)) .nil) [6] ρ) ((List.range n).map iN) = .ok (((List.range n).filter fun x => !decide (x ∈ a)).map iN) := by
    rintro ρ rfl
    refine compR_map fun x hx => ?_
    have := faith_iN.inD (by decide) x h a
    simp -implicitDefEqProofs only [iN_eq] at this
    by_cases q : x ∈ a <;> simp -implicitDefEqProofs [compF, natsD, iN_eq, this, q]
  have cf := cf _ rfl
  have hfl : ((List.range n).filter fun x => !decide (x ∈ a)).length ≤ 1000 := Nat.le_trans (List.length_filter_le _ _) (by simp; omega)
  have l1 : mkL (a.map fun p => D.int (hiW ws p)) = _ := ml_ok (cap14 (by simp; omega))
  have l2 : mkL (((List.range n).filter fun x => !decide (x ∈ a)).map iN) = _ := ml_ok (cap14 (by simp only [List.length_map]; omega))
  have l3 : mkL (a.map iN ++ b.map iN) = _ := ml_ok (cap14 (by simp; omega))
  have a1 := sum_map true (hiW ws) a
  have r1 := rng_nat (n := n) (cap14 (by omega))
  have oab := old_natsD (a ++ b)
  have ot : olds (ts.map tieD) = ts.map tieD := olds_map (fun _ => by simp [tieD, iN]) ts
  obtain ⟨t5, t6, t7, e1⟩ := k34_other (Γ := Γ) (ts := ts) (ws := ws) (a := a) (b := b) hn h33 f g h k (a.map (hiW ws)).sum (.own (((List.range n).filter fun x => !decide (x ∈ a)).map iN)) .no .no .no .no rfl hb.2
  obtain ⟨t8, t9, e2⟩ := k34_piece (Γ := Γ) (n := n) (ts := ts) (ws := ws) (a := a) (b := b) h33 f g h k ((a.map (hiW ws)).sum + (b.map fun v => ((ties ts [v] (othN n a v) : Nat) : Int) - loW ws v).sum) t5 t6 t7 .no .no .no P hP
  have eb : b_law_spare = .seq (.set 4 (.bi .sum (.cons (.comp (.idx (.idx (.var 1) (.var 6)) (.int 1)) (.nm 6) (.seq (.var 2)) .nil [6]) .nil)))
    (.seq (.set 5 (.comp (.var 6) (.nm 6) (.rng (.cons (.idx (.var 0) (.int 0)) .nil)) (.cons (.cmp (.var 6) (.ccons .notin (.var 2) .cnil)) .nil) [6]))
    (.seq (.loop (.nm 6) (.seq (.var 3)) b34_other) (.seq (.loop (.nm 8) (.seq (.call 32 (.cons (.var 0) (.cons (.bin .add (.var 2) (.var 3)) .nil)))) b34_piece) (.seq (.ret (.var 4)) .skip)))) := rfl
  have val : (a.map (hiW ws)).sum + (b.map fun v => ((ties ts [v] (othN n a v) : Nat) : Int) - loW ws v).sum - (P.map (oddL ts ws b)).sum = spareP ts ws a b P := by
    have e3 : P.map (oddL ts ws b) = P.map (oddP ts ws b) := List.map_congr_left fun p _ => oddL_eq ts ws b p
    have e4 : (b.map fun v => ((ties ts [v] (othN n a v) : Nat) : Int) - loW ws v).sum = (b.map fun v => ((ties ts [v] (othN n a v) : Nat) : Int)).sum - (b.map (loW ws)).sum := by
      rw [map_sum, map_sum, map_sum, sm_sub]
    unfold spareP
    rw [e3, e4, tc_sum ht a nb]; omega
  rw [← val]
  generalize (a.map fun p => D.int (hiW ws p)) = xl at ch l1 a1
  generalize (a.map (hiW ws)).sum = x1 at *
  generalize (b.map fun v => ((ties ts [v] (othN n a v) : Nat) : Int) - loW ws v).sum = x2 at *
  generalize (P.map (oddL ts ws b)).sum = x4 at *
  generalize P.map (natsD true) = pl at *
  generalize ((List.range n).filter fun x => !decide (x ∈ a)).map iN = fl at *
  simp -implicitDefEqProofs only [natsD, webD, tiesD, iN_eq, List.map_append] at ch cf oab h32 e1 e2 r1
  rw [eb]
  simp -implicitDefEqProofs [runB_eq, natsD, webD, tiesD, iN_eq, ch, cf, l1, l2, l3, a1, r1, oab, ot, e1, h32, e2]
end
end Wt
/-! ## Lots by the law; what answers say -/
namespace Wt
open PySem L2 Lv
/-! ### sorted lists of numbers -/
def insZ (x : Int) : List Int → List Int
  | [] => [x]
  | y :: r => if x < y then x :: y :: r else y :: insZ x r
def sortZ : List Int → List Int → List Int
  | acc, [] => acc
  | acc, x :: r => sortZ (insZ x acc) r
theorem ltK_int (x y : Int) : (D.int x).ltK (D.int y) = decide (x < y) := rfl
theorem insD_int (x : Int) : ∀ l, insD (D.int x) (l.map D.int) = (insZ x l).map D.int
  | [] => rfl
  | y :: r => by
    simp only [List.map_cons, insD, insZ, ltK_int, decide_eq_true_eq]
    split
    · rfl
    · rw [insD_int x r]; rfl
theorem sortD_int : ∀ l acc, sortD (acc.map D.int) (l.map D.int) = (sortZ acc l).map D.int
  | [], acc => rfl
  | x :: r, acc => by simp only [List.map_cons, sortD, sortZ, insD_int, sortD_int r]
theorem sorted_int {l : List Int} (h : l.length ≤ cap) : sortedD (l.map D.int) = .ok (.lst true ((sortZ [] l).map D.int)) := by
  unfold sortedD
  rw [if_pos (by simpa using h)]
  have e : oneKind 0 (l.map D.int) = true := by
    unfold oneKind
    rw [List.all_map, List.all_eq_true]
    intro x _
    simp [D.key, Ky.kind]
  rw [if_pos (by rw [e, Bool.true_or])]
  exact congrArg (fun z => R.ok (D.lst true z)) (sortD_int l [])
theorem mem_insZ {x z : Int} : ∀ {l}, z ∈ insZ x l ↔ z = x ∨ z ∈ l
  | [] => by simp [insZ]
  | y :: r => by
    unfold insZ
    split
    · simp
    · rw [List.mem_cons, mem_insZ, List.mem_cons]
      constructor
      · rintro (h | h | h) <;> simp [h]
      · rintro (h | h | h) <;> simp [h]
theorem up_insZ {x : Int} : ∀ {l : List Int}, l.Pairwise (· ≤ ·) → (insZ x l).Pairwise (· ≤ ·)
  | [], _ => by simp [insZ]
  | y :: r, h => by
    obtain ⟨h1, h2⟩ := List.pairwise_cons.mp h
    unfold insZ
    split
    · rename_i k
      refine List.pairwise_cons.mpr ⟨fun z hz => ?_, h⟩
      rcases List.mem_cons.mp hz with e | e
      · subst e; omega
      · have := h1 z e; omega
    · rename_i k
      refine List.pairwise_cons.mpr ⟨fun z hz => ?_, up_insZ h2⟩
      rcases mem_insZ.mp hz with e | e
      · subst e; omega
      · exact h1 z e
theorem up_sortZ : ∀ {l acc : List Int}, acc.Pairwise (· ≤ ·) → (sortZ acc l).Pairwise (· ≤ ·)
  | [], _, h => h
  | x :: r, acc, h => up_sortZ (l := r) (up_insZ h)
theorem insZ_end {x : Int} : ∀ {l : List Int}, (∀ y ∈ l, y ≤ x) → insZ x l = l ++ [x]
  | [], _ => rfl
  | y :: r, h => by
    have := h y (List.mem_cons_self ..)
    unfold insZ
    rw [if_neg (by omega), insZ_end fun z hz => h z (List.mem_cons_of_mem _ hz)]; rfl
theorem sortZ_up : ∀ {l acc : List Int}, (acc ++ l).Pairwise (· ≤ ·) → sortZ acc l = acc ++ l
  | [], acc, _ => by simp [sortZ]
  | x :: r, acc, h => by
    have h' := h
    rw [List.pairwise_append] at h'
    rw [sortZ, insZ_end fun y hy => h'.2.2 y hy x (List.mem_cons_self ..), sortZ_up (by simpa using h)]
    simp
theorem sortZ_iff (l : List Int) : l = sortZ [] l ↔ l.Pairwise (· ≤ ·) := by
  constructor
  · intro h; rw [h]; exact up_sortZ .nil
  · intro h; exact (sortZ_up (acc := []) (by simpa using h)).symm
theorem dd_len : ∀ l : List Int, (ddI l).length ≤ l.length
  | [] => Nat.le_refl _
  | x :: r => by
    have := dd_len r
    unfold ddI
    split <;> simp <;> omega
theorem dd_iff : ∀ l : List Int, (ddI l).length = l.length ↔ l.Nodup
  | [] => by simp [ddI]
  | x :: r => by
    have h1 := dd_len r
    have ih := dd_iff r
    unfold ddI
    by_cases h : x ∈ r
    · rw [if_pos h, List.nodup_cons, List.length_cons]
      exact ⟨fun e => by omega, fun e => absurd h e.1⟩
    · rw [if_neg h, List.nodup_cons, List.length_cons, List.length_cons]
      exact ⟨fun e => ⟨h, ih.mp (by omega)⟩, fun e => by have := ih.mpr e.2; omega⟩
theorem sortI_iff (l : List Int) : l = sortI l ↔ l.Pairwise (· < ·) := by
  constructor
  · intro h; rw [h]; exact rise_sortI l
  · intro h; exact rise_uniq h (rise_sortI l) fun x => mem_sortI.symm
def lotsL (n : Nat) (a b : List Int) : Bool := ((a ++ b).all fun p => decide (0 ≤ p) && decide (p < n)) && decide ((ddI (a ++ b)).length = (a ++ b).length) && (decide (a = sortZ [] a) && decide (b = sortZ [] b))
theorem lt_le_nd {l : List Int} : l.Pairwise (· < ·) ↔ l.Pairwise (· ≤ ·) ∧ l.Nodup := by
  constructor
  · exact fun h => ⟨h.imp fun h => by omega, h.imp fun h => by omega⟩
  · rintro ⟨h1, h2⟩
    exact (h1.and h2).imp fun ⟨h3, h4⟩ => by omega
theorem lots_eq (n : Nat) (a b : List Int) : lotsL n a b = lotsB n a b := by
  rw [Bool.eq_iff_iff]
  unfold lotsL lotsB risI
  simp only [Bool.and_eq_true, decide_eq_true_eq, Bool.not_eq_true', List.all_append, dd_iff, sortZ_iff, up_pair, List.nodup_append, lt_le_nd (l := a), lt_le_nd (l := b)]
  have dj : ((a.any fun p => decide (p ∈ b)) = false) ↔ ∀ x ∈ a, ∀ y ∈ b, x ≠ y := by
    rw [List.any_eq_false]
    simp only [decide_eq_true_eq]
    exact ⟨fun h x hx y hy e => h x hx (e ▸ hy), fun h x hx hb => h x hx x hb rfl⟩
  rw [dj]
  constructor
  · rintro ⟨⟨⟨h1, h2⟩, h3, h4, h5⟩, h6, h7⟩
    exact ⟨⟨⟨h1, h6, h3⟩, h2, h7, h4⟩, h5⟩
  · rintro ⟨⟨⟨h1, h6, h3⟩, h2, h7, h4⟩, h5⟩
    exact ⟨⟨⟨h1, h2⟩, h3, h4, h5⟩, h6, h7⟩
theorem old_ints (l : List Int) : olds (l.map D.int) = l.map D.int := olds_map (fun _ => by simp) l
theorem setL_int {f : Bool} {l : List Int} (h : l.length < 60) : setL (.lst f (l.map D.int)) = .ok l := by
  have e : intsD (l.map D.int) = some l := by
    have := intsD_map (fun x : Int => x) l
    simpa using this
  unfold setL
  simp only [e, if_pos h]
theorem eq_bl (a b : Bool) : eqD (.bl a) (.bl b) = .ok (decide (a = b)) := by
  rw [eqD_of (ok_bl (k := 0) a) (ok_bl b) (by decide)]
  cases a <;> cases b <;> rfl
section
variable {Γ : Nat → List D → R D}
theorem m_law_are_lots {n : Nat} {ts} {a b : List Int} (hl : (a ++ b).length < 60) (f g h : Bool) : runB Γ 5 b_law_are_lots [webD f n ts, .lst g (a.map .int), .lst h (b.map .int)] = .ok (.bl (lotsB n a b)) := by
  have c1 : ∀ ρ : Rho, ρ = [.val (webD f n ts), .val (.lst g (a.map .int)), .val (.lst h (b.map .int)), .val (.lst true ((a ++ b).map .int)), .no] → compR (compF Γ (.cmp (.int 0) (.ccons .le (.var 4) (.ccons .lt (.idx (.var 0) (.int 0)) .cnil))) (.nm 4) .nil [4] ρ) ((a ++ b).map D.int) = .ok ((a ++ b).map fun p => .bl (decide (0 ≤ p) && decide (p < (n : Int)))) := by
    rintro ρ rfl
    refine compR_all fun c hc => ?_
    by_cases k : 0 ≤ c <;> by_cases k2 : c < (n : Int) <;> simp -implicitDefEqProofs [compF, webD, iN_eq, k, k2]
  have c1 := c1 _ rfl
  have a1 := all_map true (fun p : Int => decide (0 ≤ p) && decide (p < (n : Int))) (a ++ b)
  have l1 : mkL ((a ++ b).map fun p => D.bl (decide (0 ≤ p) && decide (p < (n : Int)))) = _ := ml_ok (cap14 (by rw [List.length_map]; omega))
  have l2 : mkL ((a ++ b).map D.int) = _ := ml_ok (cap14 (by rw [List.length_map]; omega))
  have sl := setL_int (f := true) hl
  have ll : ((a ++ b).map D.int).length = (a ++ b).length := List.length_map _
  have e1 := faith_int.eqD (by decide) ((ddI (a ++ b)).length : Int) ((a ++ b).length : Int)
  have la : a.length ≤ cap ∧ b.length ≤ cap := by rw [List.length_append] at hl; exact ⟨cap14 (by omega), cap14 (by omega)⟩
  have s1 := sorted_int la.1
  have s2 := sorted_int la.2
  have q1 := faith_int.lsts (by decide) g true a (sortZ [] a)
  have q2 := faith_int.lsts (by decide) h true b (sortZ [] b)
  rw [← lots_eq]
  unfold lotsL
  have mapp : a.map D.int ++ b.map D.int = (a ++ b).map D.int := List.map_append.symm
  generalize ((a ++ b).map fun p => D.bl (decide (0 ≤ p) && decide (p < (n : Int)))) = xl at c1 a1 l1
  generalize ((a ++ b).all fun p => decide (0 ≤ p) && decide (p < (n : Int))) = z1 at a1
  have dn : decide (((ddI (a ++ b)).length : Int) = ((a ++ b).length : Int)) = decide ((ddI (a ++ b)).length = (a ++ b).length) := by
    rw [Bool.eq_iff_iff, decide_eq_true_eq, decide_eq_true_eq]; omega
  rw [dn] at e1
  generalize a ++ b = c at *
  generalize hdec : decide ((ddI c).length = c.length) = z2 at e1
  generalize c.map D.int = ab at *
  generalize (sortZ [] a).map D.int = sa at *
  generalize (sortZ [] b).map D.int = sb at *
  generalize decide (a = sortZ [] a) = z3 at q1
  generalize decide (b = sortZ [] b) = z4 at q2
  generalize a.map D.int = am at *
  generalize b.map D.int = bm at *
  simp -implicitDefEqProofs only [webD, iN_eq] at c1
  cases z1 <;> cases z2 <;> cases z3 <;> cases z4 <;> simp -implicitDefEqProofs [runB_eq, b_law_are_lots, webD, iN_eq, mapp, l1, l2, c1, a1, sl, ll, e1, s1, s2, q1, q2]
/-! ### what answers say -/
def bs1 (x : Nat) : S := (.seq (.ret (.and (.cons (.call 4 (.cons (.attr (.var 0) x) (.cons (.bi .len (.cons (.idx (.var 1) (.int 1)) .nil)) .nil))) (.cons (.call 8 (.cons (.var 1) (.cons (.var 2) (.cons (.attr (.var 0) x) .nil)))) .nil))))
 .skip)
def bs2 (x y : Nat) : S := (.seq (.ret (.and (.cons (.call 19 (.cons (.var 1) (.cons (.attr (.var 0) x) (.cons (.attr (.var 0) y) .nil)))) (.cons (.cmp (.call 23 (.cons (.var 1) (.cons (.var 2) (.cons (.attr (.var 0) x) (.cons (.attr (.var 0) y) .nil))))) (.ccons .lt (.int 0) .cnil)) .nil))))
 .skip)
theorem at_1 {x : Nat} (h : (okC (x / 8) 1 && decide (x % 8 = 0)) = true) (d : D) : ((okO (x / 8) (.obj 1 [d])).bind fun _ => attrD (.obj 1 [d]) (x % 8)) = .ok d := by
  simp only [Bool.and_eq_true, decide_eq_true_eq] at h
  simp only [okO, h.1, if_true, R.ok_bind, h.2]; rfl
theorem at_2 {x : Nat} (h : (okC (x / 8) 2 && decide (x % 8 = 1)) = true) (d e : D) : ((okO (x / 8) (.obj 2 [d, e])).bind fun _ => attrD (.obj 2 [d, e]) (x % 8)) = .ok d := by
  simp only [Bool.and_eq_true, decide_eq_true_eq] at h
  simp only [okO, h.1, if_true, R.ok_bind, h.2]; rfl
theorem at_3 {x : Nat} (h : (okC (x / 8) 2 && decide (x % 8 = 2)) = true) (d e : D) : ((okO (x / 8) (.obj 2 [d, e])).bind fun _ => attrD (.obj 2 [d, e]) (x % 8)) = .ok e := by
  simp only [Bool.and_eq_true, decide_eq_true_eq] at h
  simp only [okO, h.1, if_true, R.ok_bind, h.2]; rfl
def choiceB (n : Nat) (ts ws : List (Nat × Nat)) (l : List Int) : Bool := risI ts.length l && rightB n ts ws (l.map Int.toNat)
theorem m_shows1 {n : Nat} {ts ws : List (Nat × Nat)} {l : List Int} {x : Nat} (hx : (okC (x / 8) 1 && decide (x % 8 = 0)) = true) (h4 : Γ 4 [.lst false (l.map .int), iN ts.length] = .ok (.bl (risI ts.length l))) (h8 : risI ts.length l = true → Γ 8 [webD false n ts, tiesD false ws, .lst false (l.map .int)] = .ok (.bl (rightB n ts ws (l.map Int.toNat)))) (f g h : Bool) :
    runB Γ 3 (bs1 x) [.obj 1 [.lst f (l.map .int)], webD g n ts, tiesD h ws] = .ok (.bl (choiceB n ts ws l)) := by
  have a := at_1 hx (.lst f (l.map .int))
  have ol := old_ints l
  have ow : olds (ws.map tieD) = ws.map tieD := olds_map (fun _ => by simp [tieD, iN]) ws
  have ot : olds (ts.map tieD) = ts.map tieD := olds_map (fun _ => by simp [tieD, iN]) ts
  unfold choiceB
  generalize rightB n ts ws (l.map Int.toNat) = z2 at *
  generalize l.map D.int = al at *
  simp -implicitDefEqProofs only [webD, tiesD, iN_eq] at h4 h8
  cases hr : risI ts.length l with
  | false =>
    rw [hr] at h4
    simp -implicitDefEqProofs [runB_eq, bs1, webD, tiesD, iN_eq, a, ol, h4]
  | true =>
    rw [hr] at h4
    have h8 := h8 hr
    cases z2 <;> simp -implicitDefEqProofs [runB_eq, bs1, webD, tiesD, iN_eq, a, ol, ow, ot, h4, h8]
theorem m_shows2 {n : Nat} {ts ws : List (Nat × Nat)} {a b : List Int} {z : Int} {x y : Nat} (hx : (okC (x / 8) 2 && decide (x % 8 = 1)) = true) (hy : (okC (y / 8) 2 && decide (y % 8 = 2)) = true) (h19 : Γ 19 [webD false n ts, .lst false (a.map .int), .lst false (b.map .int)] = .ok (.bl (lotsB n a b)))
    (h23 : lotsB n a b = true → Γ 23 [webD false n ts, tiesD false ws, .lst false (a.map .int), .lst false (b.map .int)] = .ok (.int z)) (f g h k : Bool) :
    runB Γ 3 (bs2 x y) [.obj 2 [.lst f (a.map .int), .lst k (b.map .int)], webD g n ts, tiesD h ws] = .ok (.bl (lotsB n a b && decide (z < 0))) := by
  have a1 := at_2 hx (.lst f (a.map .int)) (.lst k (b.map .int))
  have a2 := at_3 hy (.lst f (a.map .int)) (.lst k (b.map .int))
  have oa := old_ints a
  have ob := old_ints b
  have ow : olds (ws.map tieD) = ws.map tieD := olds_map (fun _ => by simp [tieD, iN]) ws
  have ot : olds (ts.map tieD) = ts.map tieD := olds_map (fun _ => by simp [tieD, iN]) ts
  generalize a.map D.int = am at *
  generalize b.map D.int = bm at *
  simp -implicitDefEqProofs only [webD, tiesD, iN_eq] at h19 h23
  cases hr : lotsB n a b with
  | false =>
    rw [hr] at h19
    simp -implicitDefEqProofs [runB_eq, bs2, webD, tiesD, iN_eq, a1, a2, oa, ob, ot, h19]
  | true =>
    rw [hr] at h19
    have h23 := h23 hr
    by_cases hz : z < 0 <;> simp -implicitDefEqProofs [runB_eq, bs2, webD, tiesD, iN_eq, a1, a2, oa, ob, ow, ot, h19, h23, hz]
end
end Wt
/-! ## The law of the answers made by hand -/
namespace Wt
open PySem L2 Lv
theorem ints_D {l : List Int} : intsD (l.map D.int) = some l := by
  have := intsD_map (fun x : Int => x) l
  simpa using this
section
variable {Γ : Nat → List D → R D}
theorem m_law_says (s d : Bool) : runB Γ 2 b_law_says [.bl s, .bl d] = .ok (.bl (decide (s = d))) := by
  have e := eq_bl s d
  cases s <;> cases d <;> simp -implicitDefEqProofs [runB_eq, b_law_says, e]
/-- a choice by hand -/
theorem m_choice_right {n : Nat} {ts ws : List (Nat × Nat)} {l : List Int} (hl : l.length < 60) (h17 : risI ts.length l = true → Γ 17 [webD false n ts, tiesD false ws, .lst false (l.map .int)] = .ok (.bl (rightB n ts ws (l.map Int.toNat))))
    (h201 : Γ 201 [.obj 1 [.lst false (l.map .int)], webD false n ts, tiesD false ws] = .ok (.bl (choiceB n ts ws l))) (h38 : ∀ s d, Γ 38 [.bl s, .bl d] = .ok (.bl (decide (s = d)))) (f g h : Bool) :
    runB Γ 7 b_law_choice_right [webD f n ts, tiesD g ws, .lst h (l.map .int)] = .ok (.bl true) := by
  have md : madeD [.val (webD f n ts), .val (tiesD g ws), .val (.lst h (l.map .int)), .no, .no, .no, .no] 1 [2] = .ok (.obj 1 [.lst true (l.map .int)]) := by
    have : intsAt [.val (webD f n ts), .val (tiesD g ws), .val (.lst h (l.map .int)), .no, .no, .no, .no] 2 = some l := by
      show (match intsD (l.map D.int) with | some ns => if ns.length < 1000 then some ns else none | none => none) = some l
      rw [ints_D]
      exact if_pos (by omega)
    unfold madeD
    simp only [this]
    rfl
  have c1 : ∀ ρ : Rho, ρ = [.val (webD f n ts), .val (tiesD g ws), .val (.lst h (l.map .int)), .no, .val (.obj 1 [.lst true (l.map .int)]), .no, .no] → compR (compF Γ (.cmp (.int 0) (.ccons .le (.var 6) (.ccons .lt (.bi .len (.cons (.idx (.var 0) (.int 1)) .nil)) .cnil))) (.nm 6) .nil [6] ρ) (l.map D.int) = .ok (l.map fun c => .bl (decide (0 ≤ c) && decide (c < (ts.length : Int)))) := by
    rintro ρ rfl
    refine compR_all fun c hc => ?_
    by_cases k : 0 ≤ c <;> by_cases k2 : c < (ts.length : Int) <;> simp -implicitDefEqProofs [compF, webD, iN_eq, k, k2]
  have c1 := c1 _ rfl
  have a1 := all_map true (fun c : Int => decide (0 ≤ c) && decide (c < (ts.length : Int))) l
  have l1 : mkL (l.map fun c => D.bl (decide (0 ≤ c) && decide (c < (ts.length : Int)))) = _ := ml_ok (cap14 (by simp; omega))
  have sl := setL_int (f := h) hl
  have q1 := faith_int.lsts (by decide) h true l (sortI l)
  have q2 := faith_int.lsts (by decide) true h l l
  have ol := old_ints l
  have ow : olds (ws.map tieD) = ws.map tieD := olds_map (fun _ => by simp [tieD, iN]) ws
  have ot : olds (ts.map tieD) = ts.map tieD := olds_map (fun _ => by simp [tieD, iN]) ts
  have eu : decide (l = sortI l) = upB l := by rw [Bool.eq_iff_iff, decide_eq_true_eq, sortI_iff, up_pair]
  rw [eu] at q1
  have hr : risI ts.length l = ((l.all fun c => decide (0 ≤ c) && decide (c < (ts.length : Int))) && upB l) := rfl
  have e33 : okO 2 (.obj 1 [.lst true (l.map .int)]) = .ok 1 := rfl
  have e34 : attrD (.obj 1 [.lst true (l.map .int)]) 0 = .ok (.lst true (l.map .int)) := rfl
  have e35 : okO 6 (.obj 1 [.lst true (l.map .int)]) = .ok 1 := rfl
  have e36 : isa 1 0 = true := rfl
  have hch : choiceB n ts ws l = (risI ts.length l && rightB n ts ws (l.map Int.toNat)) := rfl
  rw [hch] at h201
  rw [runB_eq]
  unfold b_law_choice_right
  show runO (exec Γ (.made 3 4 1 [2] _) [.val (webD f n ts), .val (tiesD g ws), .val (.lst h (l.map .int)), .no, .no, .no, .no]) = _
  rw [x_made, if_pos (by simp), md, mdO_ok]
  have s1 := h38 true true
  have s2 := h38 false false
  generalize (l.map fun c => D.bl (decide (0 ≤ c) && decide (c < (ts.length : Int)))) = xl at c1 a1 l1
  generalize (l.all fun c => decide (0 ≤ c) && decide (c < (ts.length : Int))) = z1 at *
  generalize rightB n ts ws (l.map Int.toNat) = z3 at *
  rw [hr] at h17 h201
  generalize upB l = z2 at *
  generalize l.map D.int = al at *
  simp -implicitDefEqProofs only [webD, tiesD, iN_eq] at c1 h17 h201
  cases z1 with
  | false =>
    simp only [Bool.false_and] at h201
    cases z2 <;> cases z3 <;> simp -implicitDefEqProofs [webD, tiesD, iN_eq, c1, l1, a1, sl, q1, q2, ol, ow, ot, h201, e33, e34, e35, e36, s1, s2]
  | true =>
    cases z2 with
    | false =>
      simp only [Bool.and_false, Bool.false_and] at h201
      cases z3 <;> simp -implicitDefEqProofs [webD, tiesD, iN_eq, c1, l1, a1, sl, q1, q2, ol, ow, ot, h201, e33, e34, e35, e36, s1, s2]
    | true =>
      simp only [Bool.and_self, Bool.true_and] at h201 h17
      have h17 := h17 trivial
      cases z3 <;> simp -implicitDefEqProofs [webD, tiesD, iN_eq, c1, l1, a1, sl, q1, q2, ol, ow, ot, h17, h201, e33, e34, e35, e36, s1, s2]
/-- lots by hand -/
theorem m_lots_right {n : Nat} {ts ws : List (Nat × Nat)} {a b : List Int} {z : Int} (ha : a.length < 60) (hb : b.length < 60) (h31 : Γ 31 [webD false n ts, .lst false (a.map .int), .lst false (b.map .int)] = .ok (.bl (lotsB n a b)))
    (h34 : lotsB n a b = true → Γ 34 [webD false n ts, tiesD false ws, .lst false (a.map .int), .lst false (b.map .int)] = .ok (.int z))
    (h202 : Γ 202 [.obj 2 [.lst false (a.map .int), .lst false (b.map .int)], webD false n ts, tiesD false ws] = .ok (.bl (lotsB n a b && decide (z < 0)))) (h38 : ∀ s d, Γ 38 [.bl s, .bl d] = .ok (.bl (decide (s = d)))) (f g h k : Bool) :
    runB Γ 7 b_law_lots_right [webD f n ts, tiesD g ws, .lst h (a.map .int), .lst k (b.map .int)] = .ok (.bl true) := by
  have md : madeD [.val (webD f n ts), .val (tiesD g ws), .val (.lst h (a.map .int)), .val (.lst k (b.map .int)), .no, .no, .no] 2 [2, 3] = .ok (.obj 2 [.lst true (a.map .int), .lst true (b.map .int)]) := by
    have i1 : intsAt [.val (webD f n ts), .val (tiesD g ws), .val (.lst h (a.map .int)), .val (.lst k (b.map .int)), .no, .no, .no] 2 = some a := by
      show (match intsD (a.map D.int) with | some ns => if ns.length < 1000 then some ns else none | none => none) = some a
      rw [ints_D]
      exact if_pos (by omega)
    have i2 : intsAt [.val (webD f n ts), .val (tiesD g ws), .val (.lst h (a.map .int)), .val (.lst k (b.map .int)), .no, .no, .no] 3 = some b := by
      show (match intsD (b.map D.int) with | some ns => if ns.length < 1000 then some ns else none | none => none) = some b
      rw [ints_D]
      exact if_pos (by omega)
    unfold madeD
    simp only [i1, i2]
    rfl
  have oa := old_ints a
  have ob := old_ints b
  have ow : olds (ws.map tieD) = ws.map tieD := olds_map (fun _ => by simp [tieD, iN]) ws
  have ot : olds (ts.map tieD) = ts.map tieD := olds_map (fun _ => by simp [tieD, iN]) ts
  have k2 : 2 ≤ cap := cap14 (by decide)
  have m1 := fun x y : D => ml_ok (ds := [x, y]) (cap14 (by simp))
  have q2 : eqD (.lst true [.lst true (a.map D.int), .lst true (b.map D.int)]) (.lst true [.lst h (a.map D.int), .lst k (b.map D.int)]) = .ok true := by
    refine eqD_same (k := 2) (ok_lst fun x hx => ?_) (by decide) (by simp [D.py, pys])
    simp at hx
    rcases hx with e | e <;> rw [e] <;> exact ok_lst (faith_int.oks _)
  have e33 : okO 4 (.obj 2 [.lst true (a.map .int), .lst true (b.map .int)]) = .ok 2 := rfl
  have e34 : attrD (.obj 2 [.lst true (a.map .int), .lst true (b.map .int)]) 1 = .ok (.lst true (a.map .int)) := rfl
  have e37 : attrD (.obj 2 [.lst true (a.map .int), .lst true (b.map .int)]) 2 = .ok (.lst true (b.map .int)) := rfl
  have e35 : okO 6 (.obj 2 [.lst true (a.map .int), .lst true (b.map .int)]) = .ok 2 := rfl
  rw [runB_eq]
  unfold b_law_lots_right
  show runO (exec Γ (.made 4 5 2 [2, 3] _) [.val (webD f n ts), .val (tiesD g ws), .val (.lst h (a.map .int)), .val (.lst k (b.map .int)), .no, .no, .no]) = _
  rw [x_made, if_pos (by simp), md, mdO_ok]
  have s1 := h38 true true
  have s2 := h38 false false
  generalize a.map D.int = am at *
  generalize b.map D.int = bm at *
  simp -implicitDefEqProofs only [webD, tiesD, iN_eq] at h31 h34 h202
  cases hz : lotsB n a b with
  | false =>
    rw [hz] at h31 h202
    simp only [Bool.false_and] at h202
    simp -implicitDefEqProofs [webD, tiesD, iN_eq, oa, ob, ow, ot, h31, h202, q2, e33, e34, e35, e37, k2, m1, s1, s2]
  | true =>
    rw [hz] at h31 h202
    have h34 := h34 hz
    simp only [Bool.true_and] at h202
    by_cases c : z < 0
    · have : decide (z < 0) = true := by simpa using c
      rw [this] at h202
      simp -implicitDefEqProofs [webD, tiesD, iN_eq, oa, ob, ow, ot, h31, h34, h202, q2, e33, e34, e35, e37, k2, m1, s1, s2, c]
    · have : decide (z < 0) = false := by simpa using c
      rw [this] at h202
      simp -implicitDefEqProofs [webD, tiesD, iN_eq, oa, ob, ow, ot, h31, h34, h202, q2, e33, e34, e35, e37, k2, m1, s1, s2, c]
end
/-! ### the law -/
def spareZ (n : Nat) (ts ws : List (Nat × Nat)) (a b : List Int) : Int := spareP ts ws (a.map Int.toNat) (b.map Int.toNat) (pcsN n ts (a.map Int.toNat) (b.map Int.toNat))
structure Law3 (Γ : Nat → List D → R D) (ns : List Int) : Prop where
  web : ∀ bY places ties : Nat, bY ≤ 1000 → 2 ≤ places → places ≤ 8 → ties ≤ 14 → ∃ n ts, Web n ts ∧ 2 ≤ n ∧ n ≤ places ∧ ts.length ≤ ties ∧ Γ 28 [.scr ns, iN bY, iN places, iN ties] = .ok (webD true n ts)
  wishes : ∀ (bY : Nat) n ts, bY ≤ 900 → Web n ts → ∃ ws, Wish n ws ∧ Γ 15 [.scr ns, iN bY, webD false n ts] = .ok (tiesD true ws)
  all : ∀ n ts ws, Web n ts → Wish n ws → Γ 30 [webD false n ts, tiesD false ws] = .ok (lsD true (rights n ts ws))
  drawn : ∀ (bY : Nat) n ts, bY ≤ 900 → Web n ts → ∃ c, Ch ts.length c ∧ Γ 14 [.scr ns, iN bY, webD false n ts] = .ok (natsD true c)
  choice : ∀ n ts ws (l : List Int), Web n ts → Wish n ws → l.length < 60 → Γ 39 [webD false n ts, tiesD false ws, .lst false (l.map .int)] = .ok (.bl true)
  lots : ∀ n ts ws (a b : List Int), Web n ts → Wish n ws → a.length + b.length < 60 → Γ 40 [webD false n ts, tiesD false ws, .lst false (a.map .int), .lst false (b.map .int)] = .ok (.bl true)
  shows : ∀ n ts ws (a b : List Int), Web n ts → Wish n ws → a.length + b.length < 60 → Γ 202 [.obj 2 [.lst false (a.map .int), .lst false (b.map .int)], webD false n ts, tiesD false ws] = .ok (.bl (lotsB n a b && decide (spareZ n ts ws a b < 0)))
def intsF (l : List Int) : D := .lst true (l.map .int)
theorem natsF (l : List Nat) : natsD true l = intsF (castL l) := by
  unfold natsD intsF castL
  rw [List.map_map]; rfl
theorem nats0 (l : List Nat) : natsD false l = .lst false ((castL l).map .int) := by
  unfold natsD castL
  rw [List.map_map]; rfl
theorem cut_nats (c : List Nat) (lo hi : Option Int) : ∃ c' : List Nat, cutD (c.map iN) lo hi = c'.map iN ∧ c'.length ≤ c.length := by
  unfold cutD
  refine ⟨(c.drop (HT.sIx (c.map iN).length 0 lo)).take (HT.sIx (c.map iN).length (c.map iN).length hi - HT.sIx (c.map iN).length 0 lo), by rw [← List.map_drop, ← List.map_take], ?_⟩
  simp only [List.length_take, List.length_drop]; omega
theorem pow_20 : opD .pow (.int 10) (.int 20) = .ok (.int 100000000000000000000) := by
  simp only [opD]
  rw [if_pos (by decide)]
  rfl
theorem rng_11 {a : Int} (h1 : 0 ≤ a) (h2 : a < 5) : ∃ k : Nat, rangeD [.int a, .int 243, .int 11] = .ok ((List.range k).map fun i : Nat => .int (a + (i : Int) * 11)) := by
  refine ⟨(Builtin.Range.rangeSize a 243 11).toNat, ?_⟩
  have e : rangeD [.int a, .int 243, .int 11] = if (decide ((11 : Int) ≠ 0) && decide ((11 : Int).natAbs < 1073741824) && Builtin.Range.small a 243 11 && decide (0 ≤ Builtin.Range.rangeSize a 243 11)) = true then .ok ((List.range (Builtin.Range.rangeSize a 243 11).toNat).map fun i : Nat => .int (a + (i : Int) * 11)) else .bad := rfl
  rw [e, if_pos]
  have : a = 0 ∨ a = 1 ∨ a = 2 ∨ a = 3 ∨ a = 4 := by omega
  rcases this with rfl | rfl | rfl | rfl | rfl <;> decide +kernel
section
variable {Γ : Nat → List D → R D}
def b3_ties : S := (.seq (.ite (.not (.call 39 (.cons (.var 3) (.cons (.var 4) (.cons (.var 6) .nil)))))
 (.seq (.ret (.bl false))
 .skip)
 .skip)
 .skip)
def b3_number : S := (.seq (.set 8 (.comp (.var 11) (.nm 11) (.rng (.cons (.idx (.var 3) (.int 0)) .nil)) (.cons (.cmp (.bin .mod (.bin .fdiv (.var 7) (.idx (.tup (.cons (.int 1) (.cons (.int 3) (.cons (.int 9) (.cons (.int 27) (.cons (.int 81) .nil)))))) (.var 11))) (.int 3)) (.ccons .eq (.int 1) .cnil)) .nil) [11]))
 (.seq (.set 9 (.comp (.var 11) (.nm 11) (.rng (.cons (.idx (.var 3) (.int 0)) .nil)) (.cons (.cmp (.bin .mod (.bin .fdiv (.var 7) (.idx (.tup (.cons (.int 1) (.cons (.int 3) (.cons (.int 9) (.cons (.int 27) (.cons (.int 81) .nil)))))) (.var 11))) (.int 3)) (.ccons .eq (.int 2) .cnil)) .nil) [11]))
 (.seq (.ite (.not (.call 40 (.cons (.var 3) (.cons (.var 4) (.cons (.var 8) (.cons (.var 9) .nil))))))
 (.seq (.ret (.bl false))
 .skip)
 .skip)
 .skip)))
def b3_lots : S := (.seq (.ite (.not (.call 40 (.cons (.var 3) (.cons (.var 4) (.cons (.var 8) (.cons (.var 9) .nil))))))
 (.seq (.ret (.bl false))
 .skip)
 .skip)
 .skip)
def pw3 (p : Nat) : Int := [1, 3, 9, 27, 81].getD p 1
theorem c_number {n : Nat} (hn : n ≤ 5) {m e : Int} (s0 s1 s2 s3 s4 s5 s6 s8 s9 s10 : Sl) :
    compR (compF Γ (.var 11) (.nm 11) (.cons (.cmp (.bin .mod (.bin .fdiv (.var 7) (.idx (.tup (.cons (.int 1) (.cons (.int 3) (.cons (.int 9) (.cons (.int 27) (.cons (.int 81) .nil)))))) (.var 11))) (.int 3)) (.ccons .eq (.int e) .cnil)) .nil) [11] [s0, s1, s2, s3, s4, s5, s6, .val (.int m), s8, s9, s10, .no]) ((List.range n).map iN) = .ok (((List.range n).filter fun p => decide (m / pw3 p % 3 = e)).map iN) := by
  refine compR_map fun p hp => ?_
  have hp5 : p < 5 := by have := List.mem_range.mp hp; omega
  have i := idx_mapT (enc := D.int) (l := [1, 3, 9, 27, 81]) (i := p) hp5
  have g : pw3 p = [1, 3, 9, 27, 81][p] := by unfold pw3; rw [List.getD_eq_getElem?_getD, List.getElem?_eq_getElem hp5]; rfl
  have hpos : 0 < pw3 p ∧ pw3 p < 1073741824 := by
    have : p = 0 ∨ p = 1 ∨ p = 2 ∨ p = 3 ∨ p = 4 := by omega
    rcases this with rfl | rfl | rfl | rfl | rfl <;> decide
  rw [← g] at i
  have d := op_div_i (i := m) (j := pw3 p) hpos.1 hpos.2
  have mm := op_mod_i (i := m / pw3 p) (j := 3) (by decide)
  have q := faith_int.eqD (by decide) (m / pw3 p % 3) e
  have k5 : 5 ≤ cap := cap14 (by decide)
  generalize pw3 p = w at *
  simp -implicitDefEqProofs only [List.map_cons, List.map_nil] at i
  by_cases c : m / w % 3 = e
  · subst c; simp -implicitDefEqProofs [compF, iN_eq, i, d, mm, q, k5]
  · simp -implicitDefEqProofs [compF, iN_eq, i, d, mm, q, k5, c]
theorem k03_ties {ns n ts ws} (L : Law3 Γ ns) (W : Web n ts) (U : Wish n ws) (ls : List (List Int)) (hl : ∀ l ∈ ls, l.length < 60) (s0 s1 s2 s5 s6 s7 s8 s9 s10 s11 : Sl) : ∃ t6, forR (loopF Γ (.nm 6) b3_ties) (ls.map intsF) [s0, s1, s2, .val (webD true n ts), .val (tiesD true ws), s5, s6, s7, s8, s9, s10, s11] = .nx [s0, s1, s2, .val (webD true n ts), .val (tiesD true ws), s5, t6, s7, s8, s9, s10, s11] := by
  obtain ⟨ρ', e, t6, e2⟩ := forR_all (enc := intsF) (f := loopF Γ (.nm 6) b3_ties) (fun ρ => ∃ t6 : Sl, ρ = [s0, s1, s2, .val (webD true n ts), .val (tiesD true ws), s5, t6, s7, s8, s9, s10, s11])
    (l := ls) (ρ := [s0, s1, s2, .val (webD true n ts), .val (tiesD true ws), s5, s6, s7, s8, s9, s10, s11]) ⟨s6, rfl⟩ (by
      rintro l h ρ ⟨t6, rfl⟩
      have g := L.choice n ts ws l W U (hl l h)
      have ol := old_ints l
      have ow : olds (ws.map tieD) = ws.map tieD := olds_map (fun _ => by simp [tieD, iN]) ws
      have ot : olds (ts.map tieD) = ts.map tieD := olds_map (fun _ => by simp [tieD, iN]) ts
      refine ⟨[s0, s1, s2, .val (webD true n ts), .val (tiesD true ws), s5, .val (intsF l), s7, s8, s9, s10, s11], ?_, _, rfl⟩
      unfold intsF
      generalize l.map D.int = al at *
      simp -implicitDefEqProofs only [webD, tiesD, iN_eq] at g
      simp -implicitDefEqProofs [loopF, b3_ties, webD, tiesD, iN_eq, ol, ow, ot, g])
  subst e2
  exact ⟨t6, e⟩
theorem k03_lots {ns n ts ws} (L : Law3 Γ ns) (W : Web n ts) (U : Wish n ws) (ls : List (List Int × List Int)) (hl : ∀ l ∈ ls, l.1.length + l.2.length < 60) (s0 s1 s2 s5 s6 s7 s8 s9 s10 s11 : Sl) : ∃ t8 t9, forR (loopF Γ (.tp (.cons (.nm 8) (.cons (.nm 9) .nil))) b3_lots) (ls.map fun p => .tup [intsF p.1, intsF p.2]) [s0, s1, s2, .val (webD true n ts), .val (tiesD true ws), s5, s6, s7, s8, s9, s10, s11] = .nx [s0, s1, s2, .val (webD true n ts), .val (tiesD true ws), s5, s6, s7, t8, t9, s10, s11] := by
  obtain ⟨ρ', e, t8, t9, e2⟩ := forR_all (enc := fun p : List Int × List Int => .tup [intsF p.1, intsF p.2]) (f := loopF Γ (.tp (.cons (.nm 8) (.cons (.nm 9) .nil))) b3_lots) (fun ρ => ∃ t8 t9 : Sl, ρ = [s0, s1, s2, .val (webD true n ts), .val (tiesD true ws), s5, s6, s7, t8, t9, s10, s11])
    (l := ls) (ρ := [s0, s1, s2, .val (webD true n ts), .val (tiesD true ws), s5, s6, s7, s8, s9, s10, s11]) ⟨s8, s9, rfl⟩ (by
      rintro l h ρ ⟨t8, t9, rfl⟩
      have g := L.lots n ts ws l.1 l.2 W U (hl l h)
      have o1 := old_ints l.1
      have o2 := old_ints l.2
      have ow : olds (ws.map tieD) = ws.map tieD := olds_map (fun _ => by simp [tieD, iN]) ws
      have ot : olds (ts.map tieD) = ts.map tieD := olds_map (fun _ => by simp [tieD, iN]) ts
      refine ⟨[s0, s1, s2, .val (webD true n ts), .val (tiesD true ws), s5, s6, s7, .val (intsF l.1), .val (intsF l.2), s10, s11], ?_, _, _, rfl⟩
      unfold intsF
      generalize l.1.map D.int = al at *
      generalize l.2.map D.int = bl at *
      simp -implicitDefEqProofs only [webD, tiesD, iN_eq] at g
      simp -implicitDefEqProofs [loopF, b3_lots, webD, tiesD, iN_eq, o1, o2, ow, ot, g])
  subst e2
  exact ⟨t8, t9, e⟩
theorem k03_number {ns n ts ws} (L : Law3 Γ ns) (W : Web n ts) (hn : n ≤ 5) (U : Wish n ws) (a : Int) (k : Nat) (s0 s1 s2 s5 s6 s7 s8 s9 s10 : Sl) : ∃ t7 t8 t9, forR (loopF Γ (.nm 7) b3_number) ((List.range k).map fun i : Nat => .int (a + (i : Int) * 11)) [s0, s1, s2, .val (webD true n ts), .val (tiesD true ws), s5, s6, s7, s8, s9, s10, .no] = .nx [s0, s1, s2, .val (webD true n ts), .val (tiesD true ws), s5, s6, t7, t8, t9, s10, .no] := by
  obtain ⟨ρ', e, t7, t8, t9, e2⟩ := forR_all (enc := fun i : Nat => .int (a + (i : Int) * 11)) (f := loopF Γ (.nm 7) b3_number) (fun ρ => ∃ t7 t8 t9 : Sl, ρ = [s0, s1, s2, .val (webD true n ts), .val (tiesD true ws), s5, s6, t7, t8, t9, s10, .no])
    (l := List.range k) (ρ := [s0, s1, s2, .val (webD true n ts), .val (tiesD true ws), s5, s6, s7, s8, s9, s10, .no]) ⟨s7, s8, s9, rfl⟩ (by
      rintro i h ρ ⟨t7, t8, t9, rfl⟩
      generalize a + (i : Int) * 11 = m
      have c1 := c_number (Γ := Γ) hn (m := m) (e := 1) s0 s1 s2 (.val (webD true n ts)) (.val (tiesD true ws)) s5 s6 t8 t9 s10
      have c2 := c_number (Γ := Γ) hn (m := m) (e := 2) s0 s1 s2 (.val (webD true n ts)) (.val (tiesD true ws)) s5 s6 (.own (((List.range n).filter fun p => decide (m / pw3 p % 3 = 1)).map iN)) t9 s10
      have g1 : ((List.range n).filter fun p => decide (m / pw3 p % 3 = 1)).length ≤ n := Nat.le_trans (List.length_filter_le _ _) (by simp)
      have g2 : ((List.range n).filter fun p => decide (m / pw3 p % 3 = 2)).length ≤ n := Nat.le_trans (List.length_filter_le _ _) (by simp)
      generalize (List.range n).filter (fun p => decide (m / pw3 p % 3 = 1)) = o1 at *
      generalize (List.range n).filter (fun p => decide (m / pw3 p % 3 = 2)) = o2 at *
      have g := L.lots n ts ws (castL o1) (castL o2) W U (by unfold castL; simp; omega)
      rw [← nats0, ← nats0] at g
      have l1 : mkL (o1.map iN) = _ := ml_ok (cap14 (by simp; omega))
      have l2 : mkL (o2.map iN) = _ := ml_ok (cap14 (by simp; omega))
      have r1 := rng_nat (n := n) (cap14 (by omega))
      have q1 := old_natsD o1
      have q2 := old_natsD o2
      have ow : olds (ws.map tieD) = ws.map tieD := olds_map (fun _ => by simp [tieD, iN]) ws
      have ot : olds (ts.map tieD) = ts.map tieD := olds_map (fun _ => by simp [tieD, iN]) ts
      refine ⟨[s0, s1, s2, .val (webD true n ts), .val (tiesD true ws), s5, s6, .val (.int m), .own (o1.map iN), .own (o2.map iN), s10, .no], ?_, _, _, _, rfl⟩
      simp -implicitDefEqProofs only [webD, tiesD, natsD, iN_eq] at g c1 c2 r1
      simp -implicitDefEqProofs [loopF, b3_number, webD, tiesD, iN_eq, q1, q2, ow, ot, r1, c1, c2, l1, l2, g])
  subst e2
  exact ⟨t7, t8, t9, e⟩
def b3_by : S := (.seq (.set 3 (.call 28 (.cons (.var 0) (.cons (.var 2) (.cons (.int 5) (.cons (.int 8) .nil))))))
 (.seq (.set 4 (.call 15 (.cons (.var 0) (.cons (.var 2) (.cons (.var 3) .nil)))))
 (.seq (.set 5 (.idx (.bin .add (.call 30 (.cons (.var 3) (.cons (.var 4) .nil))) (.lst (.cons (.lst .nil) .nil))) (.int 0)))
 (.seq (.loop (.nm 6) (.seq (.lst (.cons (.var 5) (.cons (.call 14 (.cons (.var 0) (.cons (.var 2) (.cons (.var 3) .nil)))) (.cons (.sli .back (.var 5) .nil .nil) (.cons (.bin .add (.var 5) (.sli .one (.var 5) (.cons (.neg (.int 1)) .nil) .nil)) (.cons (.lst (.cons (.bi .len (.cons (.idx (.var 3) (.int 1)) .nil)) .nil)) (.cons (.lst (.cons (.neg (.int 1)) .nil)) (.cons (.lst (.cons (.bin .pow (.int 10) (.int 20)) .nil)) .nil)))))))))
 b3_ties)
 (.seq (.loop (.nm 7) (.rng (.cons (.bin .mod (.var 1) (.int 5)) (.cons (.int 243) (.cons (.int 11) .nil))))
 b3_number)
 (.seq (.loop (.tp (.cons (.nm 8) (.cons (.nm 9) .nil))) (.seq (.lst (.cons (.tup (.cons (.lst (.cons (.int 0) .nil)) (.cons (.lst (.cons (.int 0) .nil)) .nil))) (.cons (.tup (.cons (.lst (.cons (.int 1) (.cons (.int 0) .nil))) (.cons (.lst .nil) .nil))) (.cons (.tup (.cons (.lst .nil) (.cons (.lst (.cons (.idx (.var 3) (.int 0)) .nil)) .nil))) (.cons (.tup (.cons (.lst (.cons (.neg (.int 1)) .nil)) (.cons (.lst .nil) .nil))) (.cons (.tup (.cons (.lst (.cons (.int 0) (.cons (.int 0) .nil))) (.cons (.lst .nil) .nil))) (.cons (.tup (.cons (.lst .nil) (.cons (.lst (.cons (.bin .pow (.int 10) (.int 20)) .nil)) .nil))) .nil))))))))
 b3_lots)
 .skip))))))
theorem loopF_nm3 (i : Nat) (b : S) (d : D) (ρ : Rho) : loopF Γ (.nm i) b d ρ = exec Γ b (ρ.set i (.val d)) := by simp [loopF]
@[simp] theorem base_bin (o : Op) (a b : E) (ρ : Rho) (r : R D) : base (.bin o a b) ρ r = r := rfl
theorem rev_nats (c : List Nat) : (c.map iN).reverse = c.reverse.map iN := (List.map_reverse).symm
theorem k03_by {ns} (L : Law3 Γ ns) (whole : Int) (x : Nat) (hx : x ≤ 500) (a2 a3 a4 a5 a6 a7 a8 a9 a10 : Sl) :
    ∃ b2 b3 b4 b5 b6 b7 b8 b9, loopF Γ (.nm 2) b3_by (iN x) [.val (.scr ns), .val (.int whole), a2, a3, a4, a5, a6, a7, a8, a9, a10, .no] = .nx [.val (.scr ns), .val (.int whole), b2, b3, b4, b5, b6, b7, b8, b9, a10, .no] := by
  obtain ⟨n, ts, W, n2, n5, t8, w1⟩ := L.web x 5 8 (by omega) (by decide) (by decide) (by decide)
  obtain ⟨ws, U, w2⟩ := L.wishes x n ts (by omega) W
  have w3 := L.all n ts ws W U
  obtain ⟨cd, Cd, w4⟩ := L.drawn x n ts (by omega) W
  obtain ⟨c, hc, et⟩ : ∃ c : List Nat, c.length ≤ 14 ∧ (lsD true (rights n ts ws) = .lst true ((rights n ts ws).map (natsD true))) ∧ idxD (.lst true ((rights n ts ws).map (natsD true) ++ [.lst true []])) (.int 0) = .ok (natsD true c) := by
    cases h : rights n ts ws with
    | nil => exact ⟨[], by simp, rfl, by simp [natsD]⟩
    | cons c r =>
      have hm : c ∈ rights n ts ws := by rw [h]; simp
      have C := (mem_rights.mp hm).1
      exact ⟨c, by have := C.len; have := W.ties; omega, rfl, by simp⟩
  have hcd : cd.length ≤ 14 := by have := Cd.len; have := W.ties; omega
  obtain ⟨c', ec', hc'⟩ := cut_nats c (some (-1)) none
  have hrl : (rights n ts ws).length ≤ 20000 := Nat.le_trans (rights_length _ _ _) (Nat.le_trans (Nat.pow_le_pow_right (by decide) W.ties) (by decide))
  obtain ⟨k, r11⟩ := rng_11 (a := whole % 5) (Int.emod_nonneg _ (by decide)) (Int.emod_lt_of_pos _ (by decide))
  have m5 := op_mod_i (i := whole) (j := 5) (by decide)
  generalize whole % 5 = wm at *
  obtain ⟨t6, e1⟩ := k03_ties L W U [castL c, castL cd, castL c.reverse, castL (c ++ c'), [(ts.length : Int)], [-1], [100000000000000000000]] (by
    intro l hl
    simp at hl
    rcases hl with e | e | e | e | e | e | e <;> rw [e] <;> simp [castL] <;> omega) (.val (.scr ns)) (.val (.int whole)) (.val (iN x)) (.val (natsD true c)) a6 a7 a8 a9 a10 .no
  obtain ⟨t7, t8', t9, e2⟩ := k03_number L W n5 U wm k (.val (.scr ns)) (.val (.int whole)) (.val (iN x)) (.val (natsD true c)) t6 a7 a8 a9 a10
  obtain ⟨u8, u9, e3⟩ := k03_lots L W U [([0], [0]), ([1, 0], []), ([], [(n : Int)]), ([-1], []), ([0, 0], []), ([], [100000000000000000000])] (by
    intro l hl
    simp at hl
    rcases hl with e | e | e | e | e | e <;> rw [e] <;> simp) (.val (.scr ns)) (.val (.int whole)) (.val (iN x)) (.val (natsD true c)) t6 t7 t8' t9 a10 .no
  have l0 : mkL [] = .ok (.lst true []) := ml_ok (cap14 (by decide))
  have l1 := fun a : D => ml_ok (ds := [a]) (cap14 (by simp))
  have l2 := fun a b : D => ml_ok (ds := [a, b]) (cap14 (by simp))
  have l6 := fun a b c d e f : D => ml_ok (ds := [a, b, c, d, e, f]) (cap14 (by simp))
  have l7 := fun a b c d e f g : D => ml_ok (ds := [a, b, c, d, e, f, g]) (cap14 (by simp))
  have l8 : mkL ((rights n ts ws).map (natsD true) ++ [.lst true []]) = _ := ml_ok (cap14 (by simp; omega))
  have k2 : 2 ≤ cap := cap14 (by decide)
  have l9 : mkL (c.map iN ++ c'.map iN) = _ := ml_ok (cap14 (by simp; omega))
  have i1 : sliD .back (natsD true c) none none = .ok (.lst true (c.reverse.map iN)) := by rw [← rev_nats]; rfl
  have i2 : sliD .one (natsD true c) (some (-1)) none = .ok (.lst true (c'.map iN)) := by rw [← ec']; rfl
  have f1 : intsF (castL c) = natsD true c := (natsF c).symm
  have f2 : intsF (castL cd) = natsD true cd := (natsF cd).symm
  have f3 : intsF (castL c.reverse) = natsD true c.reverse := (natsF _).symm
  have f4 : intsF (castL (c ++ c')) = natsD true (c ++ c') := (natsF _).symm
  have ow : olds (ws.map tieD) = ws.map tieD := olds_map (fun _ => by simp [tieD, iN]) ws
  have ot : olds (ts.map tieD) = ts.map tieD := olds_map (fun _ => by simp [tieD, iN]) ts
  simp only [List.map_cons, List.map_nil, f1, f2, f3, f4] at e1 e3
  refine ⟨.val (iN x), .val (webD true n ts), .val (tiesD true ws), .val (natsD true c), t6, t7, u8, u9, ?_⟩
  rw [loopF_nm3]
  generalize (rights n ts ws).map (natsD true) = rl at *
  generalize lsD true (rights n ts ws) = rls at *
  have et1 := et.1
  have et2 := et.2
  subst et1
  simp -implicitDefEqProofs only [webD, natsD, tiesD, iN_eq, intsF, List.map_append, List.map_cons, List.map_nil, List.map_reverse] at e1 e2 e3 w2 w3 w4 et2 i1 i2 l9
  simp -implicitDefEqProofs [webD, iN_eq] at w1
  simp -implicitDefEqProofs [-forR_cons, b3_by, webD, natsD, tiesD, iN_eq, w1, w2, w3, w4, et2, i1, i2, l0, l1, l2, l6, l7, l8, l9, k2, ow, ot, pow_20, m5, r11, e1, e2, e3]
theorem pcs_three : Pcs 3 [(0, 1), (0, 2), (1, 2)] [] [[0, 1, 2]] := by
  refine ⟨by decide, fun v => by simp; omega, by decide, fun p hp => ?_, by decide⟩
  simp at hp
  subst hp
  intro A ⟨v, hv, av⟩ k
  have k1 := k (0, 1) (by simp) (by simp) (by simp)
  have k2 := k (0, 2) (by simp) (by simp) (by simp)
  have a0 : A 0 := by
    simp at hv
    rcases hv with rfl | rfl | rfl
    · exact av
    · exact k1.mpr av
    · exact k2.mpr av
  intro w hw
  simp at hw
  rcases hw with rfl | rfl | rfl
  · exact a0
  · exact k1.mp a0
  · exact k2.mp a0
theorem m_law3 {ns : List Int} (hs : ns.length ≤ 63) (L : Law3 Γ ns) : runB Γ 12 b_law3 [.scr ns] = .ok (.bl true) := by
  obtain ⟨ρ', e, a2, a3, a4, a5, a6, a7, a8, a9, e2⟩ := forR_all (enc := iN) (f := loopF Γ (.nm 2) b3_by) (fun ρ => ∃ a2 a3 a4 a5 a6 a7 a8 a9, ρ = [.val (.scr ns), .val (.int (ns.sum.natAbs : Int)), a2, a3, a4, a5, a6, a7, a8, a9, .no, .no])
    (l := [0, 1, 3]) (ρ := [.val (.scr ns), .val (.int (ns.sum.natAbs : Int)), .no, .no, .no, .no, .no, .no, .no, .no, .no, .no]) ⟨_, _, _, _, _, _, _, _, rfl⟩ (by
      rintro x hx ρ ⟨b2, b3, b4, b5, b6, b7, b8, b9, rfl⟩
      obtain ⟨d2, d3, d4, d5, d6, d7, d8, d9, e⟩ := k03_by L (ns.sum.natAbs : Int) x (by simp at hx; omega) b2 b3 b4 b5 b6 b7 b8 b9 .no
      exact ⟨_, e, _, _, _, _, _, _, _, _, rfl⟩)
  subst e2
  have W2 : Web 2 [] := ⟨by decide, by decide, by decide, by decide, .nil⟩
  have U2 : Wish 2 [(1, 1), (1, 1)] := ⟨rfl, by decide⟩
  have W3 : Web 3 [(0, 1), (0, 2), (1, 2)] := ⟨by decide, by decide, by decide, by decide, by unfold ltT; decide⟩
  have U3 : Wish 3 [(1, 1), (1, 1), (1, 1)] := ⟨rfl, by decide⟩
  have U4 : Wish 3 [(2, 2), (2, 2), (2, 2)] := ⟨rfl, by decide⟩
  have pc : Pcs 3 [(0, 1), (0, 2), (1, 2)] ([] ++ []) (pcsN 3 [(0, 1), (0, 2), (1, 2)] [] []) := pcsN_ok (by decide)
  have z3 : spareZ 3 [(0, 1), (0, 2), (1, 2)] [(1, 1), (1, 1), (1, 1)] [] [] = -1 := (spareP_same pc pcs_three).trans (by decide)
  have z4 : spareZ 3 [(0, 1), (0, 2), (1, 2)] [(2, 2), (2, 2), (2, 2)] [] [] = 0 := (spareP_same pc pcs_three).trans (by decide)
  have g1 := L.shows 2 _ _ [0] [0] W2 U2 (by decide)
  have g2 := L.shows 3 _ _ [] [] W3 U3 (by decide)
  have g3 := L.shows 3 _ _ [] [] W3 U4 (by decide)
  rw [z3] at g2
  rw [z4] at g3
  rw [show (lotsB 2 [0] [0] && decide (spareZ 2 [] [(1, 1), (1, 1)] [0] [0] < 0)) = false by rw [show lotsB 2 [0] [0] = false by decide]; rfl] at g1
  rw [show (lotsB 3 [] [] && decide ((-1 : Int) < 0)) = true by decide] at g2
  rw [show (lotsB 3 [] [] && decide ((0 : Int) < 0)) = false by decide] at g3
  have l0 : mkL [] = .ok (.lst true []) := ml_ok (cap14 (by decide))
  have l1 := fun a : D => ml_ok (ds := [a]) (cap14 (by simp))
  have l3 := fun a b c : D => ml_ok (ds := [a, b, c]) (cap14 (by simp))
  have k2 : 2 ≤ cap := cap14 (by decide)
  have mr2 := mul_rep (v := tieD (1, 1)) (n := 2) (f := true) (cap14 (by omega))
  have mr3 := mul_rep (v := tieD (1, 1)) (n := 3) (f := true) (cap14 (by omega))
  have mr4 := mul_rep (v := tieD (2, 2)) (n := 3) (f := true) (cap14 (by omega))
  have su := sum_ints true ns
  have ab := bi_absN ns.sum
  have ci := cut63 hs
  have md : ∀ a b : List D, mkD 2 [.lst true a, .lst true b] = .ok (.obj 2 [.lst true a, .lst true b]) := fun a b => rfl
  have ko : ∀ a b : D, okO 6 (.obj 2 [a, b]) = .ok 2 := fun a b => rfl
  have hit : [0, 1, 3].map iN = [.int 0, .int 1, .int 3] := rfl
  rw [hit] at e
  simp -implicitDefEqProofs [webD, tiesD, tieD, iN_eq] at g1 g2 g3 mr2 mr3 mr4
  have eb : b_law3 = (match b_law3 with
    | .seq a (.seq (.loop t it _) r) => .seq a (.seq (.loop t it b3_by) r)
    | s => s) := rfl
  rw [runB_eq, eb]
  simp only [b_law3]
  simp -implicitDefEqProofs [-bi_abs, -forR_cons, iN_eq, ci, su, ab, l0, l1, l3, k2, e, mr2, mr3, mr4, g1, g2, g3, md, ko]
end
end Wt
namespace Wt
open PySem L2
/-- 201: Chosen.shows -/
def b_shows1 : S :=
 (.seq (.ret (.and (.cons (.call 4 (.cons (.attr (.var 0) 16) (.cons (.bi .len (.cons (.idx (.var 1) (.int 1)) .nil)) .nil))) (.cons (.call 8 (.cons (.var 1) (.cons (.var 2) (.cons (.attr (.var 0) 16) .nil)))) .nil))))
 .skip)
abbrev fd_shows1 : Fd := ⟨["self", "web", "wishes"], ["self", "web", "wishes"], b_shows1, false⟩
/-- 202: Barred.shows -/
def b_shows2 : S :=
 (.seq (.ret (.and (.cons (.call 19 (.cons (.var 1) (.cons (.attr (.var 0) 33) (.cons (.attr (.var 0) 34) .nil)))) (.cons (.cmp (.call 23 (.cons (.var 1) (.cons (.var 2) (.cons (.attr (.var 0) 33) (.cons (.attr (.var 0) 34) .nil))))) (.ccons .lt (.int 0) .cnil)) .nil))))
 .skip)
abbrev fd_shows2 : Fd := ⟨["self", "web", "wishes"], ["self", "web", "wishes"], b_shows2, false⟩
def fnm : Nat → Str
  | 0 => "is_whole"
  | 4 => "is_rising"
  | 6 => "counts_of"
  | 8 => "is_right"
  | 19 => "are_lots"
  | 21 => "pieces"
  | 22 => "ties_to"
  | 23 => "spare_of"
  | 11 => "_law_number"
  | 28 => "_law_web"
  | 13 => "_law_counts"
  | 14 => "_law_drawn"
  | 15 => "_law_wishes"
  | 17 => "_law_right"
  | 30 => "_law_all"
  | 31 => "_law_are_lots"
  | 32 => "_law_pieces"
  | 33 => "_law_ties"
  | 34 => "_law_spare"
  | 38 => "_law_says"
  | 39 => "_law_choice_right"
  | 40 => "_law_lots_right"
  | 41 => "law"
  | 201 => "shows"
  | 202 => "shows"
  | _ => ""
def tabL : List (Nat × Fd) := [(0, fd_is_whole), (4, fd_is_rising), (6, fd_counts_of), (8, fd_is_right), (19, fd_are_lots), (21, fd_pieces), (22, fd_ties_to), (23, fd_spare_of), (11, fd_law_number), (28, fd_law_web2), (13, fd_law_counts), (14, fd_law_drawn), (15, fd_law_wishes), (17, fd_law_right), (30, fd_law_all), (31, fd_law_are_lots), (32, fd_law_pieces), (33, fd_law_ties), (34, fd_law_spare), (38, fd_law_says), (39, fd_law_choice_right), (40, fd_law_lots_right), (41, fd_law3)]
def tabM : List (Nat × Fd) := [(201, fd_shows1), (202, fd_shows2)]
def tab (f : Nat) : Option Fd := if f < 200 then tabL.lookup f else tabM.lookup f
def globs : List (Str × Int) := []
def xnames : List Str := ["WishError", "BadWeb", "BadWishes", "BadTies", "BadNumber", "BadWeights", "BadTrail", "BadOrder", "Unlike", "NoChoice", "TooMany"]
def kL : List Nat := [0, 1, 2]
def cL : List Nat := [1, 2]
def tb : Tb := ⟨fnm, fun f => decide (f < 200) && (tabL.lookup f).isSome, globs, fun c => ["Answer", "Chosen", "Barred", "Most"].getD c "", kL.contains, cL.contains, mnm, fun f => !decide (f < 200) && (tabM.lookup f).isSome⟩
def xsL : List Nat := []
def tx : Tx := ⟨fun c => xnames.getD c "", fun c => xsL.contains c, [], []⟩
def topS (i : Nat) : Stmt := PySem.Challenge.pw_wishties_k03_by_hand.main.body.getD i (.Pass ⟨0, 0, 0, 0⟩)
open PySem.Spec PyProof.Rows
def clsB : Stmt → List Stmt
  | .ClassDef (body := b) .. => b
  | _ => []
def metS (i j : Nat) : Stmt := (clsB (topS i)).getD j (.Pass ⟨0, 0, 0, 0⟩)
theorem sc_shows1 : FnScope fd_shows1.N fd_shows1.ps (defScope (metS 12 1)) := ⟨rfl, rfl, rfl, by decide +kernel, rfl, by decide +kernel, by decide +kernel⟩
theorem ck_shows1 : okB tb tx fd_shows1 (metS 12 1) = true := by decide +kernel
theorem sc_shows2 : FnScope fd_shows2.N fd_shows2.ps (defScope (metS 13 1)) := ⟨rfl, rfl, rfl, by decide +kernel, rfl, by decide +kernel, by decide +kernel⟩
theorem ck_shows2 : okB tb tx fd_shows2 (metS 13 1) = true := by decide +kernel
theorem si_Chosen : FnScope ["self", "ties"] ["self", "ties"] (defScope (metS 12 0)) := ⟨rfl, rfl, rfl, by decide +kernel, rfl, by decide +kernel, by decide +kernel⟩
theorem ci_Chosen : chkInit (defScope (metS 12 0)) ["self", "ties"] (names 1) 1 (defBody (metS 12 0)) = true := by decide +kernel
theorem si_Barred : FnScope ["self", "ahead", "behind"] ["self", "ahead", "behind"] (defScope (metS 13 0)) := ⟨rfl, rfl, rfl, by decide +kernel, rfl, by decide +kernel, by decide +kernel⟩
theorem ci_Barred : chkInit (defScope (metS 13 0)) ["self", "ahead", "behind"] (names 2) 1 (defBody (metS 13 0)) = true := by decide +kernel
theorem sc_is_whole : FnScope fd_is_whole.N fd_is_whole.ps (defScope (topS 1)) := ⟨rfl, rfl, rfl, by decide +kernel, rfl, by decide +kernel, by decide +kernel⟩
theorem ck_is_whole : okB tb tx fd_is_whole (topS 1) = true := by decide +kernel
theorem sc_is_rising : FnScope fd_is_rising.N fd_is_rising.ps (defScope (topS 2)) := ⟨rfl, rfl, rfl, by decide +kernel, rfl, by decide +kernel, by decide +kernel⟩
theorem ck_is_rising : okB tb tx fd_is_rising (topS 2) = true := by decide +kernel
theorem sc_counts_of : FnScope fd_counts_of.N fd_counts_of.ps (defScope (topS 3)) := ⟨rfl, rfl, rfl, by decide +kernel, rfl, by decide +kernel, by decide +kernel⟩
theorem ck_counts_of : okB tb tx fd_counts_of (topS 3) = true := by decide +kernel
theorem sc_is_right : FnScope fd_is_right.N fd_is_right.ps (defScope (topS 4)) := ⟨rfl, rfl, rfl, by decide +kernel, rfl, by decide +kernel, by decide +kernel⟩
theorem ck_is_right : okB tb tx fd_is_right (topS 4) = true := by decide +kernel
theorem sc_are_lots : FnScope fd_are_lots.N fd_are_lots.ps (defScope (topS 6)) := ⟨rfl, rfl, rfl, by decide +kernel, rfl, by decide +kernel, by decide +kernel⟩
theorem ck_are_lots : okB tb tx fd_are_lots (topS 6) = true := by decide +kernel
theorem sc_pieces : FnScope fd_pieces.N fd_pieces.ps (defScope (topS 7)) := ⟨rfl, rfl, rfl, by decide +kernel, rfl, by decide +kernel, by decide +kernel⟩
theorem ck_pieces : okB tb tx fd_pieces (topS 7) = true := by decide +kernel
theorem sc_ties_to : FnScope fd_ties_to.N fd_ties_to.ps (defScope (topS 8)) := ⟨rfl, rfl, rfl, by decide +kernel, rfl, by decide +kernel, by decide +kernel⟩
theorem ck_ties_to : okB tb tx fd_ties_to (topS 8) = true := by decide +kernel
theorem sc_spare_of : FnScope fd_spare_of.N fd_spare_of.ps (defScope (topS 9)) := ⟨rfl, rfl, rfl, by decide +kernel, rfl, by decide +kernel, by decide +kernel⟩
theorem ck_spare_of : okB tb tx fd_spare_of (topS 9) = true := by decide +kernel
theorem sc_law_number : FnScope fd_law_number.N fd_law_number.ps (defScope (topS 15)) := ⟨rfl, rfl, rfl, by decide +kernel, rfl, by decide +kernel, by decide +kernel⟩
theorem ck_law_number : okB tb tx fd_law_number (topS 15) = true := by decide +kernel
theorem sc_law_web2 : FnScope fd_law_web2.N fd_law_web2.ps (defScope (topS 16)) := ⟨rfl, rfl, rfl, by decide +kernel, rfl, by decide +kernel, by decide +kernel⟩
theorem ck_law_web2 : okB tb tx fd_law_web2 (topS 16) = true := by decide +kernel
theorem sc_law_counts : FnScope fd_law_counts.N fd_law_counts.ps (defScope (topS 17)) := ⟨rfl, rfl, rfl, by decide +kernel, rfl, by decide +kernel, by decide +kernel⟩
theorem ck_law_counts : okB tb tx fd_law_counts (topS 17) = true := by decide +kernel
theorem sc_law_drawn : FnScope fd_law_drawn.N fd_law_drawn.ps (defScope (topS 18)) := ⟨rfl, rfl, rfl, by decide +kernel, rfl, by decide +kernel, by decide +kernel⟩
theorem ck_law_drawn : okB tb tx fd_law_drawn (topS 18) = true := by decide +kernel
theorem sc_law_wishes : FnScope fd_law_wishes.N fd_law_wishes.ps (defScope (topS 19)) := ⟨rfl, rfl, rfl, by decide +kernel, rfl, by decide +kernel, by decide +kernel⟩
theorem ck_law_wishes : okB tb tx fd_law_wishes (topS 19) = true := by decide +kernel
theorem sc_law_right : FnScope fd_law_right.N fd_law_right.ps (defScope (topS 21)) := ⟨rfl, rfl, rfl, by decide +kernel, rfl, by decide +kernel, by decide +kernel⟩
theorem ck_law_right : okB tb tx fd_law_right (topS 21) = true := by decide +kernel
theorem sc_law_all : FnScope fd_law_all.N fd_law_all.ps (defScope (topS 22)) := ⟨rfl, rfl, rfl, by decide +kernel, rfl, by decide +kernel, by decide +kernel⟩
theorem ck_law_all : okB tb tx fd_law_all (topS 22) = true := by decide +kernel
theorem sc_law_are_lots : FnScope fd_law_are_lots.N fd_law_are_lots.ps (defScope (topS 23)) := ⟨rfl, rfl, rfl, by decide +kernel, rfl, by decide +kernel, by decide +kernel⟩
theorem ck_law_are_lots : okB tb tx fd_law_are_lots (topS 23) = true := by decide +kernel
theorem sc_law_pieces : FnScope fd_law_pieces.N fd_law_pieces.ps (defScope (topS 24)) := ⟨rfl, rfl, rfl, by decide +kernel, rfl, by decide +kernel, by decide +kernel⟩
theorem ck_law_pieces : okB tb tx fd_law_pieces (topS 24) = true := by decide +kernel
theorem sc_law_ties : FnScope fd_law_ties.N fd_law_ties.ps (defScope (topS 25)) := ⟨rfl, rfl, rfl, by decide +kernel, rfl, by decide +kernel, by decide +kernel⟩
theorem ck_law_ties : okB tb tx fd_law_ties (topS 25) = true := by decide +kernel
theorem sc_law_spare : FnScope fd_law_spare.N fd_law_spare.ps (defScope (topS 26)) := ⟨rfl, rfl, rfl, by decide +kernel, rfl, by decide +kernel, by decide +kernel⟩
theorem ck_law_spare : okB tb tx fd_law_spare (topS 26) = true := by decide +kernel
theorem sc_law_says : FnScope fd_law_says.N fd_law_says.ps (defScope (topS 27)) := ⟨rfl, rfl, rfl, by decide +kernel, rfl, by decide +kernel, by decide +kernel⟩
theorem ck_law_says : okB tb tx fd_law_says (topS 27) = true := by decide +kernel
theorem sc_law_choice_right : FnScope fd_law_choice_right.N fd_law_choice_right.ps (defScope (topS 28)) := ⟨rfl, rfl, rfl, by decide +kernel, rfl, by decide +kernel, by decide +kernel⟩
theorem ck_law_choice_right : okB tb tx fd_law_choice_right (topS 28) = true := by decide +kernel
theorem sc_law_lots_right : FnScope fd_law_lots_right.N fd_law_lots_right.ps (defScope (topS 29)) := ⟨rfl, rfl, rfl, by decide +kernel, rfl, by decide +kernel, by decide +kernel⟩
theorem ck_law_lots_right : okB tb tx fd_law_lots_right (topS 29) = true := by decide +kernel
theorem sc_law3 : FnScope fd_law3.N fd_law3.ps (defScope (topS 30)) := ⟨rfl, rfl, rfl, by decide +kernel, rfl, by decide +kernel, by decide +kernel⟩
theorem ck_law3 : okB tb tx fd_law3 (topS 30) = true := by decide +kernel
end Wt
namespace Wt
open PySem L2 Lv
theorem castL_len (l : List Int) (h : ∀ x ∈ l, 0 ≤ x) : castL (l.map Int.toNat) = l := by
  unfold castL
  rw [List.map_map]
  conv => rhs; rw [← List.map_id l]
  apply List.map_congr_left
  intro x hx
  show ((x.toNat : Nat) : Int) = x
  exact Int.toNat_of_nonneg (h x hx)
theorem risI_nat {m : Nat} {l : List Int} (h : risI m l = true) : castL (l.map Int.toNat) = l ∧ Ch m (l.map Int.toNat) := by
  unfold risI at h
  rw [Bool.and_eq_true, List.all_eq_true, up_pair] at h
  obtain ⟨h1, h2⟩ := h
  have b : ∀ x ∈ l, 0 ≤ x ∧ x < (m : Int) := fun x hx => by simpa using h1 x hx
  refine ⟨castL_len l fun x hx => (b x hx).1, fun c hc => ?_, ?_⟩
  · obtain ⟨x, hx, rfl⟩ := List.mem_map.mp hc
    have := b x hx; omega
  · rw [List.pairwise_map]
    exact h2.imp_of_mem fun {x y} hx hy hxy => by have := b x hx; have := b y hy; omega
theorem hm_k03 (ns : List Int) (h : ns.length ≤ 63) : mean tab 8 41 [.scr ns] = .ok (.bl true) := by
  have wh : ∀ (k : Nat) (i : Int), mean tab (k + 1) 0 [.int i] = .ok (.bl true) := fun k i => s_is_whole k rfl i
  have ri : ∀ (k : Nat) {m : Nat} {l : List Int}, l.length ≤ 100000 → mean tab (k + 2) 4 [.lst false (l.map .int), iN m] = .ok (.bl (risI m l)) := fun k {m l} hl => (mean_succ (d := fd_is_rising) rfl rfl).trans (m_rising (wh k) hl false)
  have al : ∀ (k : Nat) {m : Nat} {ts} {a b : List Int}, a.length ≤ 1000 → b.length ≤ 1000 → mean tab (k + 3) 19 [webD false m ts, .lst false (a.map .int), .lst false (b.map .int)] = .ok (.bl (lotsB m a b)) := fun k {m ts a b} ha hb => (mean_succ (d := fd_are_lots) rfl rfl).trans (m_are_lots (by omega) (ri k (by omega)) (ri k (by omega)) false false false)
  have ll : ∀ (k : Nat) {m : Nat} {ts} {a b : List Int}, a.length + b.length < 60 → mean tab (k + 1) 31 [webD false m ts, .lst false (a.map .int), .lst false (b.map .int)] = .ok (.bl (lotsB m a b)) := fun k {m ts a b} hl => (mean_succ (d := fd_law_are_lots) rfl rfl).trans (m_law_are_lots (by rw [List.length_append]; exact hl) false false false)
  have ltb : ∀ {m : Nat} {a b : List Int}, lotsB m a b = true → castL (a.map Int.toNat) = a ∧ castL (b.map Int.toNat) = b ∧ Ch m (a.map Int.toNat) ∧ Ch m (b.map Int.toNat) := fun {m a b} h => by
    unfold lotsB at h
    simp only [Bool.and_eq_true] at h
    exact ⟨(risI_nat h.1.1).1, (risI_nat h.1.2).1, (risI_nat h.1.1).2, (risI_nat h.1.2).2⟩
  have inn : ∀ {l : List Int}, castL (l.map Int.toNat) = l → (.lst false (l.map .int) : D) = natsD false (l.map Int.toNat) := fun {l} e => by rw [nats0, e]
  have sp : ∀ (k : Nat) {m ts ws} {a b : List Int}, Web m ts → Wish m ws → lotsB m a b = true → mean tab (k + 2) 23 [webD false m ts, tiesD false ws, .lst false (a.map .int), .lst false (b.map .int)] = .ok (.int (spareZ m ts ws a b)) := fun k {m ts ws a b} W U hl => by
    obtain ⟨e1, e2, C1, C2⟩ := ltb hl
    rw [inn e1, inn e2]
    have pk := pcsN_ok (n := m) (ts := ts) (os := a.map Int.toNat) (us := b.map Int.toNat) (fun t ht => by have := W.ok t ht; omega)
    have hm := W.most
    have ul := U.len
    have tl := W.ties
    refine (mean_succ (d := fd_spare_of) rfl rfl).trans (m_spare_of (fun p => (mean_succ (d := fd_ties_to) rfl rfl).trans (m_ties_to (by omega) false false false)) ((mean_nat (d := fd_pieces) rfl).trans (m_pieces (by omega) false false false)) (fun p hp => ?_) ⟨by have := C1.len; omega, fun v hv => by have := C1.lt v hv; omega⟩ ⟨by have := C2.len; omega, fun v hv => by have := C2.lt v hv; omega⟩ false false false false)
    have mb : ∀ v ∈ p, v < m := fun v hv => ((pk.mem v).mp (List.mem_flatten.mpr ⟨p, hp, hv⟩)).1
    exact ⟨by have := nodup_len (flat_nd pk.nd hp) mb; omega, fun v hv => by have := mb v hv; omega⟩
  have lsp : ∀ (k : Nat) {m ts ws} {a b : List Int}, Web m ts → Wish m ws → lotsB m a b = true → mean tab (k + 2) 34 [webD false m ts, tiesD false ws, .lst false (a.map .int), .lst false (b.map .int)] = .ok (.int (spareZ m ts ws a b)) := fun k {m ts ws a b} W U hl => by
    obtain ⟨e1, e2, C1, C2⟩ := ltb hl
    rw [inn e1, inn e2]
    have pk := pcsN_ok (n := m) (ts := ts) (os := a.map Int.toNat) (us := b.map Int.toNat) (fun t ht => by have := W.ok t ht; omega)
    have hm := W.most
    have ul := U.len
    have tl := W.ties
    obtain ⟨P, hP, eP⟩ := m_law_pieces (Γ := mean tab k) (n := m) (ts := ts) (out := a.map Int.toNat ++ b.map Int.toNat) (fun t ht => W.ok t ht) (by omega) false false
    have e32 := (mean_succ (tab := tab) (n := k) (f := 32) (d := fd_law_pieces) (args := [webD false m ts, natsD false (a.map Int.toNat ++ b.map Int.toNat)]) rfl rfl).trans eP
    refine (mean_succ (d := fd_law_spare) rfl rfl).trans ((m_law_spare (P := P) (by omega) (fun t ht => W.ok t ht) (fun p o => (mean_succ (d := fd_law_ties) rfl rfl).trans (m_law_ties (by omega) false false false)) e32 (fun p hp => ?_) ⟨by have := C1.len; omega, fun v hv => by have := C1.lt v hv; omega⟩ ⟨by have := C2.len; omega, fun v hv => by have := C2.lt v hv; omega⟩ (C2.rise.imp fun h => by omega) false false false false).trans ?_)
    · have mb : ∀ v ∈ p, v < m := fun v hv => ((hP.mem v).mp (List.mem_flatten.mpr ⟨p, hp, hv⟩)).1
      exact ⟨by have := nodup_len (flat_nd hP.nd hp) mb; omega, fun v hv => by have := mb v hv; omega⟩
    · unfold spareZ
      rw [spareP_same hP pk]
  have s2 : ∀ (k : Nat) {m ts ws} {a b : List Int}, Web m ts → Wish m ws → a.length + b.length < 60 → mean tab (k + 4) 202 [.obj 2 [.lst false (a.map .int), .lst false (b.map .int)], webD false m ts, tiesD false ws] = .ok (.bl (lotsB m a b && decide (spareZ m ts ws a b < 0))) := fun k {m ts ws a b} W U hl =>
    (mean_succ (d := fd_shows2) rfl rfl).trans (m_shows2 (x := 33) (y := 34) (by decide) (by decide) (al k (by omega) (by omega)) (fun z => sp (k + 1) W U z) false false false false)
  have chl : ∀ {m : Nat} {c : List Nat}, m ≤ 14 → Ch m c → c.length ≤ 100000 := fun hm C => by have := C.len; omega
  have lr : ∀ (k : Nat) {m ts ws c}, Web m ts → Wish m ws → Ch ts.length c → mean tab (k + 2) 17 [webD false m ts, tiesD false ws, natsD false c] = .ok (.bl (rightB m ts ws c)) := fun k {m ts ws c} W U C => s_law_right k rfl rfl W.most C.lt (chl W.ties C) (by have := U.len; have := W.most; omega) false false false
  have ir : ∀ (k : Nat) {m ts ws c}, Web m ts → Wish m ws → Ch ts.length c → mean tab (k + 2) 8 [webD false m ts, tiesD false ws, natsD false c] = .ok (.bl (rightB m ts ws c)) := fun k {m ts ws c} W U C => s_is_right k rfl rfl W.most (fun t ht => W.ok t ht) C.lt (by have := U.len; have := W.most; omega) false false false
  have s1 : ∀ (k : Nat) {m ts ws} {l : List Int}, Web m ts → Wish m ws → l.length < 60 → mean tab (k + 3) 201 [.obj 1 [.lst false (l.map .int)], webD false m ts, tiesD false ws] = .ok (.bl (choiceB m ts ws l)) := fun k {m ts ws l} W U hl =>
    (mean_succ (d := fd_shows1) rfl rfl).trans (m_shows1 (x := 16) (by decide) (ri k (by omega)) (fun z => by rw [inn (risI_nat z).1]; exact ir k W U (risI_nat z).2) false false false)
  have sy : ∀ (k : Nat) (s d : Bool), mean tab (k + 1) 38 [.bl s, .bl d] = .ok (.bl (decide (s = d))) := fun k s d => (mean_succ (d := fd_law_says) rfl rfl).trans (m_law_says s d)
  refine (mean_succ (d := fd_law3) rfl rfl).trans (m_law3 h ⟨?_, ?_, ?_, ?_, ?_, ?_, ?_⟩)
  · exact fun b p t h1 h2 h3 h4 => s_law_web2 5 rfl rfl h b p t h1 h2 h3 h4
  · exact fun b n ts hb W => s_law_wishes 4 rfl rfl rfl rfl h hb W false
  · exact fun n ts ws W U => (mean_succ (d := fd_law_all) rfl rfl).trans (m_law_all W.ties (fun c C => lr 4 W U C) false false)
  · exact fun b n ts hb W => s_law_drawn 5 rfl rfl h (by omega) (by have := W.ties; omega) false
  · exact fun n ts ws l W U hl => (mean_succ (d := fd_law_choice_right) rfl rfl).trans (m_choice_right hl (fun z => by rw [inn (risI_nat z).1]; exact lr 4 W U (risI_nat z).2) (s1 3 W U hl) (sy 5) false false false)
  · exact fun n ts ws a b W U hl => (mean_succ (d := fd_law_lots_right) rfl rfl).trans (m_lots_right (z := spareZ n ts ws a b) (by omega) (by omega) (ll 5 hl) (fun z => lsp 4 W U z) (s2 2 W U hl) (sy 5) false false false false)
  · exact fun n ts ws a b W U hl => s2 3 W U hl
end Wt
open PySem PySem.W PyProof.Rows
set_option maxHeartbeats 0 in
theorem PySem.Challenge.cw_wishties_k03_by_hand_holds : PySem.Challenge.rw_wishties_k03_by_hand.Holds := by
  w_on; o_law; k_head; (case hw => w_witness2)
  k_fill
  refine Wt.walk_wt (l := PySem.Challenge.rw_wishties_k03_by_hand) (n := 63) (k := 8 + 2) (x := "_law_script") rfl (by decide) rfl ⟨rfl, by decide, by decide⟩ (fun w h Y => PySem.W.kIn_of Y) (fun w => by rfl) ?F
  case F =>
    intro w mg fa h KX G hmg
    refine' Wt.law_wt (tab := Wt.tab) (T := Wt.tb) (U := Wt.tx) Wt.hm_k03 rfl rfl rfl KX G hmg (Wt.all_kF (Wt.Each.all ⟨?D0, ?D4, ?D6, ?D8, ?D19, ?D21, ?D22, ?D23, ?D11, ?D28, ?D13, ?D14, ?D15, ?D17, ?D30, ?D31, ?D32, ?D33, ?D34, ?D38, ?D39, ?D40, ?D41, trivial⟩)) (Wt.all_kM (Wt.Each.all ⟨?M201, ?M202, trivial⟩)) Wt.apart_k (Wt.Each.all (l := Wt.globs) trivial) (Wt.Each.all (l := Wt.bltNames) ⟨?z_len, ?z_sum, ?z_abs, ?z_min, ?z_max, ?z_sorted, ?z_list, ?z_all, ?z_any, ?z_range, ?z_enumerate, ?z_zip, ?z_isinstance, ?z_int, ?z_bool, ?z_tuple, ?z_set, trivial⟩) (fun c hc => Wt.Each.all (l := Wt.xsL) (p := Wt.ExcK Wt.tx _) trivial c (by simpa [Wt.tx] using hc)) (by decide +kernel) (Wt.Each.all (l := Wt.tx.xc) (p := Wt.TryK Wt.tx _) trivial) (fun c hc => Wt.Each.all (l := Wt.kL) (p := Wt.KnwK Wt.tb _) ⟨?Kn0, ?Kn1, ?Kn2, trivial⟩ c (by simpa [Wt.tb] using hc)) (fun c hc => Wt.Each.all (l := Wt.cL) (p := fun c => Wt.tb.kpres c = true ∧ Wt.ClsK Wt.tb _ c) ⟨?Cl1, ?Cl2, trivial⟩ c (by simpa [Wt.tb] using hc)) (fun c m _ => Wt.mnm_no c m)
    case D0 =>
      refine' ⟨_, _, Wt.defK_mk (d := Wt.fd_is_whole) (f := 0) (qual := "is_whole") Wt.sc_is_whole Wt.ck_is_whole (fun _ _ _ _ _ _ us hl => match us, hl with | [_], _ => rfl) ?n ?l ?c ?k⟩
      (case n => show PySem.W.nsIn _ mainGlobals "is_whole" = _; k_is); (case l => k_is); (case c => k_is); (case k => k_is)
    case D4 =>
      refine' ⟨_, _, Wt.defK_mk (d := Wt.fd_is_rising) (f := 4) (qual := "is_rising") Wt.sc_is_rising Wt.ck_is_rising (fun _ _ _ _ _ _ us hl => match us, hl with | [_, _], _ => rfl) ?n ?l ?c ?k⟩
      (case n => show PySem.W.nsIn _ mainGlobals "is_rising" = _; k_is); (case l => k_is); (case c => k_is); (case k => k_is)
    case D6 =>
      refine' ⟨_, _, Wt.defK_mk (d := Wt.fd_counts_of) (f := 6) (qual := "counts_of") Wt.sc_counts_of Wt.ck_counts_of (fun _ _ _ _ _ _ us hl => match us, hl with | [_, _], _ => rfl) ?n ?l ?c ?k⟩
      (case n => show PySem.W.nsIn _ mainGlobals "counts_of" = _; k_is); (case l => k_is); (case c => k_is); (case k => k_is)
    case D8 =>
      refine' ⟨_, _, Wt.defK_mk (d := Wt.fd_is_right) (f := 8) (qual := "is_right") Wt.sc_is_right Wt.ck_is_right (fun _ _ _ _ _ _ us hl => match us, hl with | [_, _, _], _ => rfl) ?n ?l ?c ?k⟩
      (case n => show PySem.W.nsIn _ mainGlobals "is_right" = _; k_is); (case l => k_is); (case c => k_is); (case k => k_is)
    case D19 =>
      refine' ⟨_, _, Wt.defK_mk (d := Wt.fd_are_lots) (f := 19) (qual := "are_lots") Wt.sc_are_lots Wt.ck_are_lots (fun _ _ _ _ _ _ us hl => match us, hl with | [_, _, _], _ => rfl) ?n ?l ?c ?k⟩
      (case n => show PySem.W.nsIn _ mainGlobals "are_lots" = _; k_is); (case l => k_is); (case c => k_is); (case k => k_is)
    case D21 =>
      refine' ⟨_, _, Wt.defK_mk (d := Wt.fd_pieces) (f := 21) (qual := "pieces") Wt.sc_pieces Wt.ck_pieces (fun _ _ _ _ _ _ us hl => match us, hl with | [_, _, _], _ => rfl) ?n ?l ?c ?k⟩
      (case n => show PySem.W.nsIn _ mainGlobals "pieces" = _; k_is); (case l => k_is); (case c => k_is); (case k => k_is)
    case D22 =>
      refine' ⟨_, _, Wt.defK_mk (d := Wt.fd_ties_to) (f := 22) (qual := "ties_to") Wt.sc_ties_to Wt.ck_ties_to (fun _ _ _ _ _ _ us hl => match us, hl with | [_, _, _], _ => rfl) ?n ?l ?c ?k⟩
      (case n => show PySem.W.nsIn _ mainGlobals "ties_to" = _; k_is); (case l => k_is); (case c => k_is); (case k => k_is)
    case D23 =>
      refine' ⟨_, _, Wt.defK_mk (d := Wt.fd_spare_of) (f := 23) (qual := "spare_of") Wt.sc_spare_of Wt.ck_spare_of (fun _ _ _ _ _ _ us hl => match us, hl with | [_, _, _, _], _ => rfl) ?n ?l ?c ?k⟩
      (case n => show PySem.W.nsIn _ mainGlobals "spare_of" = _; k_is); (case l => k_is); (case c => k_is); (case k => k_is)
    case D11 =>
      refine' ⟨_, _, Wt.defK_mk (d := Wt.fd_law_number) (f := 11) (qual := "_law_number") Wt.sc_law_number Wt.ck_law_number (fun _ _ _ _ _ _ us hl => match us, hl with | [_, _, _], _ => rfl) ?n ?l ?c ?k⟩
      (case n => show PySem.W.nsIn _ mainGlobals "_law_number" = _; k_is); (case l => k_is); (case c => k_is); (case k => k_is)
    case D28 =>
      refine' ⟨_, _, Wt.defK_mk (d := Wt.fd_law_web2) (f := 28) (qual := "_law_web") Wt.sc_law_web2 Wt.ck_law_web2 (fun _ _ _ _ _ _ us hl => match us, hl with | [_, _, _, _], _ => rfl) ?n ?l ?c ?k⟩
      (case n => show PySem.W.nsIn _ mainGlobals "_law_web" = _; k_is); (case l => k_is); (case c => k_is); (case k => k_is)
    case D13 =>
      refine' ⟨_, _, Wt.defK_mk (d := Wt.fd_law_counts) (f := 13) (qual := "_law_counts") Wt.sc_law_counts Wt.ck_law_counts (fun _ _ _ _ _ _ us hl => match us, hl with | [_, _], _ => rfl) ?n ?l ?c ?k⟩
      (case n => show PySem.W.nsIn _ mainGlobals "_law_counts" = _; k_is); (case l => k_is); (case c => k_is); (case k => k_is)
    case D14 =>
      refine' ⟨_, _, Wt.defK_mk (d := Wt.fd_law_drawn) (f := 14) (qual := "_law_drawn") Wt.sc_law_drawn Wt.ck_law_drawn (fun _ _ _ _ _ _ us hl => match us, hl with | [_, _, _], _ => rfl) ?n ?l ?c ?k⟩
      (case n => show PySem.W.nsIn _ mainGlobals "_law_drawn" = _; k_is); (case l => k_is); (case c => k_is); (case k => k_is)
    case D15 =>
      refine' ⟨_, _, Wt.defK_mk (d := Wt.fd_law_wishes) (f := 15) (qual := "_law_wishes") Wt.sc_law_wishes Wt.ck_law_wishes (fun _ _ _ _ _ _ us hl => match us, hl with | [_, _, _], _ => rfl) ?n ?l ?c ?k⟩
      (case n => show PySem.W.nsIn _ mainGlobals "_law_wishes" = _; k_is); (case l => k_is); (case c => k_is); (case k => k_is)
    case D17 =>
      refine' ⟨_, _, Wt.defK_mk (d := Wt.fd_law_right) (f := 17) (qual := "_law_right") Wt.sc_law_right Wt.ck_law_right (fun _ _ _ _ _ _ us hl => match us, hl with | [_, _, _], _ => rfl) ?n ?l ?c ?k⟩
      (case n => show PySem.W.nsIn _ mainGlobals "_law_right" = _; k_is); (case l => k_is); (case c => k_is); (case k => k_is)
    case D30 =>
      refine' ⟨_, _, Wt.defK_mk (d := Wt.fd_law_all) (f := 30) (qual := "_law_all") Wt.sc_law_all Wt.ck_law_all (fun _ _ _ _ _ _ us hl => match us, hl with | [_, _], _ => rfl) ?n ?l ?c ?k⟩
      (case n => show PySem.W.nsIn _ mainGlobals "_law_all" = _; k_is); (case l => k_is); (case c => k_is); (case k => k_is)
    case D31 =>
      refine' ⟨_, _, Wt.defK_mk (d := Wt.fd_law_are_lots) (f := 31) (qual := "_law_are_lots") Wt.sc_law_are_lots Wt.ck_law_are_lots (fun _ _ _ _ _ _ us hl => match us, hl with | [_, _, _], _ => rfl) ?n ?l ?c ?k⟩
      (case n => show PySem.W.nsIn _ mainGlobals "_law_are_lots" = _; k_is); (case l => k_is); (case c => k_is); (case k => k_is)
    case D32 =>
      refine' ⟨_, _, Wt.defK_mk (d := Wt.fd_law_pieces) (f := 32) (qual := "_law_pieces") Wt.sc_law_pieces Wt.ck_law_pieces (fun _ _ _ _ _ _ us hl => match us, hl with | [_, _], _ => rfl) ?n ?l ?c ?k⟩
      (case n => show PySem.W.nsIn _ mainGlobals "_law_pieces" = _; k_is); (case l => k_is); (case c => k_is); (case k => k_is)
    case D33 =>
      refine' ⟨_, _, Wt.defK_mk (d := Wt.fd_law_ties) (f := 33) (qual := "_law_ties") Wt.sc_law_ties Wt.ck_law_ties (fun _ _ _ _ _ _ us hl => match us, hl with | [_, _, _], _ => rfl) ?n ?l ?c ?k⟩
      (case n => show PySem.W.nsIn _ mainGlobals "_law_ties" = _; k_is); (case l => k_is); (case c => k_is); (case k => k_is)
    case D34 =>
      refine' ⟨_, _, Wt.defK_mk (d := Wt.fd_law_spare) (f := 34) (qual := "_law_spare") Wt.sc_law_spare Wt.ck_law_spare (fun _ _ _ _ _ _ us hl => match us, hl with | [_, _, _, _], _ => rfl) ?n ?l ?c ?k⟩
      (case n => show PySem.W.nsIn _ mainGlobals "_law_spare" = _; k_is); (case l => k_is); (case c => k_is); (case k => k_is)
    case D38 =>
      refine' ⟨_, _, Wt.defK_mk (d := Wt.fd_law_says) (f := 38) (qual := "_law_says") Wt.sc_law_says Wt.ck_law_says (fun _ _ _ _ _ _ us hl => match us, hl with | [_, _], _ => rfl) ?n ?l ?c ?k⟩
      (case n => show PySem.W.nsIn _ mainGlobals "_law_says" = _; k_is); (case l => k_is); (case c => k_is); (case k => k_is)
    case D39 =>
      refine' ⟨_, _, Wt.defK_mk (d := Wt.fd_law_choice_right) (f := 39) (qual := "_law_choice_right") Wt.sc_law_choice_right Wt.ck_law_choice_right (fun _ _ _ _ _ _ us hl => match us, hl with | [_, _, _], _ => rfl) ?n ?l ?c ?k⟩
      (case n => show PySem.W.nsIn _ mainGlobals "_law_choice_right" = _; k_is); (case l => k_is); (case c => k_is); (case k => k_is)
    case D40 =>
      refine' ⟨_, _, Wt.defK_mk (d := Wt.fd_law_lots_right) (f := 40) (qual := "_law_lots_right") Wt.sc_law_lots_right Wt.ck_law_lots_right (fun _ _ _ _ _ _ us hl => match us, hl with | [_, _, _, _], _ => rfl) ?n ?l ?c ?k⟩
      (case n => show PySem.W.nsIn _ mainGlobals "_law_lots_right" = _; k_is); (case l => k_is); (case c => k_is); (case k => k_is)
    case D41 =>
      refine' ⟨_, _, Wt.defK_mk (d := Wt.fd_law3) (f := 41) (qual := "law") Wt.sc_law3 Wt.ck_law3 (fun _ _ _ _ _ _ us hl => match us, hl with | [_], _ => rfl) ?n ?l ?c ?k⟩
      (case n => show PySem.W.nsIn _ mainGlobals "law" = _; k_is); (case l => k_is); (case c => k_is); (case k => k_is)
    case M201 =>
      refine' ⟨_, _, Wt.metK_mk (d := Wt.fd_shows1) (f := 201) (qual := "Chosen.shows") Wt.sc_shows1 Wt.ck_shows1 (fun _ _ _ _ _ _ us hl => match us, hl with | [_, _, _], _ => rfl) ?n ?m1 ?m2 ?l ?c ?k⟩
      (case n => show PySem.W.nsIn _ mainGlobals "Chosen" = _; k_is); (case m1 => show PySem.W.findIn _ _ "shows" = _; k_is); (case m2 => k_is); (case l => k_is); (case c => k_is); (case k => k_is)
    case M202 =>
      refine' ⟨_, _, Wt.metK_mk (d := Wt.fd_shows2) (f := 202) (qual := "Barred.shows") Wt.sc_shows2 Wt.ck_shows2 (fun _ _ _ _ _ _ us hl => match us, hl with | [_, _, _], _ => rfl) ?n ?m1 ?m2 ?l ?c ?k⟩
      (case n => show PySem.W.nsIn _ mainGlobals "Barred" = _; k_is); (case m1 => show PySem.W.findIn _ _ "shows" = _; k_is); (case m2 => k_is); (case l => k_is); (case c => k_is); (case k => k_is)
    case Kn0 =>
      refine' Wt.knwK_mk ?a
      (case a => show PySem.W.nsIn _ mainGlobals "Answer" = _; k_is)
    case Kn1 =>
      refine' Wt.knwK_mk ?a
      (case a => show PySem.W.nsIn _ mainGlobals "Chosen" = _; k_is)
    case Kn2 =>
      refine' Wt.knwK_mk ?a
      (case a => show PySem.W.nsIn _ mainGlobals "Barred" = _; k_is)
    case Cl1 =>
      refine' Wt.clsK_mk (kl := Wt.kL) (ps := ["self", "ties"]) (qual := "Chosen.__init__") Wt.si_Chosen Wt.ci_Chosen rfl (fun _ _ _ _ _ _ us hl => match us, hl with | [_, _], _ => rfl) rfl rfl ?n ?c1 ?c2 ?c3 ?c4 ⟨?na0, trivial⟩ ?m1 ?m2 ?m3 ?m4 ?l ?cd ?kf ⟨?j0, ?j1, ?j2, trivial⟩ ?t1 ?t2 ?t3 ?t4
      (case n => show PySem.W.nsIn _ mainGlobals "Chosen" = _; k_is)
      (case c1 => k_is); (case c2 => k_is); (case c3 => k_is); (case c4 => k_is)
      (case na0 => show PySem.W.findIn _ _ "ties" = _; k_is)
      (case m1 => k_is); (case m2 => k_is); (case m3 => k_is); (case m4 => k_is); (case l => k_is); (case cd => k_is); (case kf => k_is); (case t1 => k_is); (case t2 => k_is); (case t3 => k_is); (case t4 => k_is)
      case j0 =>
        refine' Wt.isaK_of (b := true) ?a ?b ?d ?e rfl ?f
        (case a => show PySem.W.nsIn _ mainGlobals "Answer" = _; k_is); (case b => k_is); (case d => k_is); (case e => k_is); (case f => decide)
      case j1 =>
        refine' Wt.isaK_self ?a
        (case a => show PySem.W.nsIn _ mainGlobals "Chosen" = _; k_is)
      case j2 =>
        refine' Wt.isaK_of (b := false) ?a ?b ?d ?e rfl ?f
        (case a => show PySem.W.nsIn _ mainGlobals "Barred" = _; k_is); (case b => k_is); (case d => k_is); (case e => k_is); (case f => decide)
    case Cl2 =>
      refine' Wt.clsK_mk (kl := Wt.kL) (ps := ["self", "ahead", "behind"]) (qual := "Barred.__init__") Wt.si_Barred Wt.ci_Barred rfl (fun _ _ _ _ _ _ us hl => match us, hl with | [_, _, _], _ => rfl) rfl rfl ?n ?c1 ?c2 ?c3 ?c4 ⟨?na0, ?na1, trivial⟩ ?m1 ?m2 ?m3 ?m4 ?l ?cd ?kf ⟨?j0, ?j1, ?j2, trivial⟩ ?t1 ?t2 ?t3 ?t4
      (case n => show PySem.W.nsIn _ mainGlobals "Barred" = _; k_is)
      (case c1 => k_is); (case c2 => k_is); (case c3 => k_is); (case c4 => k_is)
      (case na0 => show PySem.W.findIn _ _ "ahead" = _; k_is); (case na1 => show PySem.W.findIn _ _ "behind" = _; k_is)
      (case m1 => k_is); (case m2 => k_is); (case m3 => k_is); (case m4 => k_is); (case l => k_is); (case cd => k_is); (case kf => k_is); (case t1 => k_is); (case t2 => k_is); (case t3 => k_is); (case t4 => k_is)
      case j0 =>
        refine' Wt.isaK_of (b := true) ?a ?b ?d ?e rfl ?f
        (case a => show PySem.W.nsIn _ mainGlobals "Answer" = _; k_is); (case b => k_is); (case d => k_is); (case e => k_is); (case f => decide)
      case j1 =>
        refine' Wt.isaK_of (b := false) ?a ?b ?d ?e rfl ?f
        (case a => show PySem.W.nsIn _ mainGlobals "Chosen" = _; k_is); (case b => k_is); (case d => k_is); (case e => k_is); (case f => decide)
      case j2 =>
        refine' Wt.isaK_self ?a
        (case a => show PySem.W.nsIn _ mainGlobals "Barred" = _; k_is)
    (case z_len => show PySem.W.nsIn _ mainGlobals "len" = _; k_is)
    (case z_sum => show PySem.W.nsIn _ mainGlobals "sum" = _; k_is)
    (case z_abs => show PySem.W.nsIn _ mainGlobals "abs" = _; k_is)
    (case z_min => show PySem.W.nsIn _ mainGlobals "min" = _; k_is)
    (case z_max => show PySem.W.nsIn _ mainGlobals "max" = _; k_is)
    (case z_sorted => show PySem.W.nsIn _ mainGlobals "sorted" = _; k_is)
    (case z_list => show PySem.W.nsIn _ mainGlobals "list" = _; k_is)
    (case z_all => show PySem.W.nsIn _ mainGlobals "all" = _; k_is)
    (case z_any => show PySem.W.nsIn _ mainGlobals "any" = _; k_is)
    (case z_range => show PySem.W.nsIn _ mainGlobals "range" = _; k_is)
    (case z_enumerate => show PySem.W.nsIn _ mainGlobals "enumerate" = _; k_is)
    (case z_zip => show PySem.W.nsIn _ mainGlobals "zip" = _; k_is)
    (case z_isinstance => show PySem.W.nsIn _ mainGlobals "isinstance" = _; k_is)
    (case z_int => show PySem.W.nsIn _ mainGlobals "int" = _; k_is)
    (case z_bool => show PySem.W.nsIn _ mainGlobals "bool" = _; k_is)
    (case z_tuple => show PySem.W.nsIn _ mainGlobals "tuple" = _; k_is)
    (case z_set => show PySem.W.nsIn _ mainGlobals "set" = _; k_is)
