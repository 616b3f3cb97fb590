import PyProof.Rows.All
import HandS.ForMost
import HandS.Star
import HandS.TupMul
import HandS.TupAny
import HandS.Zip
import HandS.Rev
import HandS.IsInst
import HandS.Deep
import HandS.Conv
import KE.SortKeyHeap
import KE.DataCmp
import HandS.Style
import KE.GoesMore
import HandS.SetIn
import HandS.SortKw
import HandS.SetKeys
import KE.KDictCopyH
import PyProof.WalksMore
import HandS.Codes
import PySem.Challenge.RW_lagcones_k04_whole_outmost_members
set_option Elab.async false
set_option linter.all false
set_option maxRecDepth 100000
set_option maxHeartbeats 4000000
/-! Dn0: a pure reading of a part of Python's syntax, over plain data. -/
namespace Dn
open PySem PySem.W
abbrev D := PyData
/-- what the draws' row holds: the script, and three ints -/
structure W where
  ns : List Int
  i : Int
  s : Int
  q : Int
inductive R (α : Type) where
  | ok (a : α) (w : W)
  | exc (c : Str) (args : List D) (w : W)
  | bad
abbrev M (α : Type) := W → R α
def ret {α : Type} (a : α) : M α := fun w => .ok a w
def bad {α : Type} : M α := fun _ => .bad
def raise {α : Type} (c : Str) (args : List D) : M α := fun w => .exc c args w
def bnd {α β : Type} (m : M α) (f : α → M β) : M β := fun w => match m w with
  | .ok a w' => f a w'
  | .exc c xs w' => .exc c xs w'
  | .bad => .bad
theorem bnd_ret {α β : Type} (a : α) (f : α → M β) : bnd (ret a) f = f a := rfl
theorem bnd_bad {α β : Type} (f : α → M β) : bnd bad f = bad := rfl
theorem bnd_ok {α β : Type} {m : M α} {f : α → M β} {w : W} {a : α} {w' : W} (h : m w = .ok a w') : bnd m f w = f a w' := by unfold bnd; rw [h]
theorem bnd_bnd {α β γ : Type} (m : M α) (f : α → M β) (g : β → M γ) : bnd (bnd m f) g = bnd m fun a => bnd (f a) g := by
  funext w; unfold bnd; cases m w <;> rfl
instance : DecidableEq W := fun a b => by
  cases a; cases b
  rename_i n1 i1 s1 q1 n2 i2 s2 q2
  by_cases h1 : n1 = n2
  · by_cases h2 : i1 = i2
    · by_cases h3 : s1 = s2
      · by_cases h4 : q1 = q2
        · exact isTrue (by rw [h1, h2, h3, h4])
        · exact isFalse (fun h => h4 (W.mk.inj h).2.2.2)
      · exact isFalse (fun h => h3 (W.mk.inj h).2.2.1)
    · exact isFalse (fun h => h2 (W.mk.inj h).2.1)
  · exact isFalse (fun h => h1 (W.mk.inj h).1)
/-- the key of a datum, by a def that draws nothing -/
def keyAt (g : List D → M D) (w : W) (d : D) : Option D := match g [d] w with
  | .ok k w' => if w' = w then some k else none
  | _ => none
def keysAt (g : List D → M D) (w : W) : List D → Option (List D)
  | [] => some []
  | d :: ds => match keyAt g w d, keysAt g w ds with
    | some k, some ks => some (k :: ks)
    | _, _ => none
def tupNE : D → Bool | .tuple (_ :: _) => true | _ => false
def notTup : D → Bool | .tuple _ => false | .none => false | .dict _ => false | _ => true
def sortOk (ks : List D) : Bool := (ks.all fun a => ks.all fun b => alike a b) && ((ks.all tupNE || ks.all notTup) && ks.all fun k => decide (k.depth ≤ 8))
def sortBy (ks ds : List D) : List D := ((ks.zip ds).mergeSort (dataLe false fun p : D × D => p.1)).map (·.2)
def mapD (f : D → M (Option D)) : List D → M (List D)
  | [] => ret []
  | d :: ds => bnd (f d) fun o => bnd (mapD f ds) fun r => ret (match o with | some x => x :: r | none => r)
def asB : D → M Bool
  | .bool b => ret b
  | _ => bad
def itemsOf : D → M (List D)
  | .list ds => ret ds
  | .tuple ds => ret ds
  | _ => bad
inductive BOp | add | sub | mul | fdiv | mod | pow
inductive COp | eq | ne | lt | le | gt | ge | is_ | isnot | in_ | notin
inductive B1 | len | tuple | list | sum | max | min | abs | any | all | int | str
inductive B2 | max2 | min2
def line : Nat := sizeLine
def big (i : Int) : Bool := decide (-(2 ^ 64) < i ∧ i < 2 ^ 64)
def binD : BOp → D → D → M D
  | .add, .int i, .int j => ret (.int (i + j))
  | .add, .str x, .str y => if x.length + y.length ≤ sizeLine then ret (.str (x ++ y)) else bad
  | .add, .tuple xs, .tuple ys => if xs.length + ys.length ≤ sizeLine then ret (.tuple (xs ++ ys)) else bad
  | .add, .list xs, .list ys => if xs.length + ys.length ≤ sizeLine then ret (.list (xs ++ ys)) else bad
  | .sub, .int i, .int j => ret (.int (i - j))
  | .mul, .int i, .int j => if big i || big j then ret (.int (i * j)) else bad
  | .mul, .tuple xs, .int k => if 0 ≤ k ∧ k ≤ 1000 ∧ xs.length = 1 then ret (.tuple (List.replicate k.toNat xs).flatten) else bad
  | .mul, .list xs, .int k => if 0 ≤ k ∧ k ≤ 1000 ∧ xs.length = 1 then ret (.list (List.replicate k.toNat xs).flatten) else bad
  | .fdiv, .int i, .int j => if 0 < j ∧ j < 1073741824 then ret (.int (i / j)) else bad
  | .mod, .int i, .int j => if 0 < j then ret (.int (i % j)) else bad
  | .pow, .int i, .int j => if 0 ≤ j ∧ j ≤ 1000000 ∧ i.natAbs < 2 ^ 64 then ret (.int (i ^ j.toNat)) else bad
  | _, _, _ => bad
def negD : D → M D
  | .int i => ret (.int (-i))
  | _ => bad
def notD : D → M D
  | .bool b => ret (.bool (!b))
  | _ => bad
def isNone : D → Bool
  | .none => true
  | _ => false
def flatD : D → Bool
  | .none => true
  | .bool _ => true
  | .int _ => true
  | .str _ => true
  | _ => false
/-- may be compared by < -/
def ltOk (a b : D) : Bool := alike a b && decide (a.depth ≤ 8)
def cmpD : COp → D → D → M D
  | .eq, a, b => if SeqAt.shaped a && SeqAt.shaped b then ret (.bool (PyData.eqv a b)) else bad
  | .ne, a, b => if SeqAt.shaped a && SeqAt.shaped b then ret (.bool (!PyData.eqv a b)) else bad
  | .lt, .int i, .int j => ret (.bool (decide (i < j)))
  | .le, .int i, .int j => ret (.bool (decide (i ≤ j)))
  | .gt, .int i, .int j => ret (.bool (decide (j < i)))
  | .ge, .int i, .int j => ret (.bool (decide (j ≤ i)))
  | .is_, .bool a, .bool b => ret (.bool (decide (a = b)))
  | .isnot, .bool a, .bool b => ret (.bool (!decide (a = b)))
  | .is_, a, .none => ret (.bool (isNone a))
  | .isnot, a, .none => ret (.bool (!isNone a))
  | .lt, .list xs, .list ys => if ltOk (.list xs) (.list ys) then ret (.bool (dataLt (.list xs) (.list ys))) else bad
  | .lt, .tuple xs, .tuple ys => if ltOk (.tuple xs) (.tuple ys) then ret (.bool (dataLt (.tuple xs) (.tuple ys))) else bad
  | .in_, a, .list ds => if SeqAt.shaped a && SeqAt.shaped (.list ds) then ret (.bool (ds.any fun z => PyData.eqv z a)) else bad
  | .notin, a, .list ds => if SeqAt.shaped a && SeqAt.shaped (.list ds) then ret (.bool (!ds.any fun z => PyData.eqv z a)) else bad
  | .in_, a, .tuple ds => if SeqAt.shaped a && SeqAt.shaped (.tuple ds) then ret (.bool (ds.any fun z => PyData.eqv z a)) else bad
  | .notin, a, .tuple ds => if SeqAt.shaped a && SeqAt.shaped (.tuple ds) then ret (.bool (!ds.any fun z => PyData.eqv z a)) else bad
  | _, _, _ => bad
def ixD : D → D → M D
  | .list ds, .int i => match L2.atI ds i with | some d => ret d | none => bad
  | .tuple ds, .int i => match L2.atI ds i with | some d => ret d | none => bad
  | .str z, .int i => if z.length ≤ sizeLine then match L2.atI z.cps.toList i with | some c => ret (.str ⟨#[c]⟩) | none => bad else bad
  | _, _ => bad
def partD : D → M (Option Int)
  | .int i => ret (some i)
  | .dict [] => ret none
  | _ => bad
def cutL {α : Type} (xs : List α) (lo hi : Option Int) : List α := (xs.drop (HT.sIx xs.length 0 lo)).take (HT.sIx xs.length xs.length hi - HT.sIx xs.length 0 lo)
def sliceD : D → Option Int → Option Int → M D
  | .list ds, lo, hi => ret (.list (cutL ds lo hi))
  | .tuple ds, lo, hi => ret (.tuple (cutL ds lo hi))
  | _, _, _ => bad
def intsOf : List D → Option (List Int)
  | [] => some []
  | .int i :: r => (intsOf r).map (i :: ·)
  | _ :: _ => none
def boolsOf : List D → Option (List Bool)
  | [] => some []
  | .bool b :: r => (boolsOf r).map (b :: ·)
  | _ :: _ => none
def maxI : List Int → Int
  | [] => 0
  | x :: r => r.foldl (fun a b => if b > a then b else a) x
def minI : List Int → Int
  | [] => 0
  | x :: r => r.foldl (fun a b => if b < a then b else a) x
def b1D : B1 → D → M D
  | .len, .list ds => ret (.int ds.length)
  | .len, .tuple ds => ret (.int ds.length)
  | .len, .str z => if z.length ≤ sizeLine then ret (.int z.length) else bad
  | .tuple, .list ds => ret (.tuple ds)
  | .tuple, .tuple ds => ret (.tuple ds)
  | .list, .list ds => ret (.list ds)
  | .list, .tuple ds => ret (.list ds)
  | .sum, .list ds => match intsOf ds with | some ns => ret (.int ns.sum) | none => bad
  | .max, .list ds => match intsOf ds with | some (n :: ns) => ret (.int (maxI (n :: ns))) | _ => bad
  | .min, .list ds => match intsOf ds with | some (n :: ns) => ret (.int (minI (n :: ns))) | _ => bad
  | .abs, .int i => ret (.int (if i < 0 then -i else i))
  | .any, .list ds => match boolsOf ds with | some bs => ret (.bool (bs.any id)) | none => bad
  | .all, .list ds => match boolsOf ds with | some bs => ret (.bool (bs.all id)) | none => bad
  | .int, .int i => ret (.int i)
  | .str, .int i => if i.natAbs.log2 < 1920 then ret (.str (toString i)) else bad
  | _, _ => bad
def b2D : B2 → D → D → M D
  | .max2, .int i, .int j => ret (.int (if j > i then j else i))
  | .min2, .int i, .int j => ret (.int (if j < i then j else i))
  | _, _, _ => bad
inductive Cl | int | bool | str | tup | lst
  deriving DecidableEq
def Cl.name : Cl → String
  | .int => "int"
  | .bool => "bool"
  | .str => "str"
  | .tup => "tuple"
  | .lst => "list"
/-- isinstance: a bool is an int too -/
def isIn : D → Cl → Bool
  | .bool _, .bool => true
  | .bool _, .int => true
  | .int _, .int => true
  | .str _, .str => true
  | .tuple _, .tup => true
  | .list _, .lst => true
  | _, _ => false
def rangeD (lo hi : Int) : M D := if -(2 ^ 62) ≤ lo ∧ lo < 2 ^ 62 ∧ -(2 ^ 62) ≤ hi ∧ hi < 2 ^ 62 ∧ hi - lo ≤ 1000000 then ret (.list ((List.range (hi - lo).toNat).map fun (k : Nat) => PyData.int (lo + (k : Int)))) else bad
def range3D (lo hi : Int) : M D := if -(2 ^ 62) ≤ lo ∧ lo < 2 ^ 62 ∧ -(2 ^ 62) ≤ hi ∧ hi < 2 ^ 62 ∧ lo - hi ≤ 1000000 then ret (.list ((List.range (lo - hi).toNat).map fun (k : Nat) => PyData.int (lo + (k : Int) * (-1)))) else bad
def asI : D → M Int
  | .int i => ret i
  | _ => bad
def zipD (xs ys : List D) : List D := List.zipWith (fun a b => .tuple [a, b]) xs ys
def zip2D : D → D → M D
  | .list xs, .list ys => ret (.list (zipD xs ys))
  | .tuple xs, .tuple ys => ret (.list (zipD xs ys))
  | _, _ => bad
def enumD (xs : List D) : List D := List.zipWith (fun (k : Nat) a => .tuple [.int (k : Int), a]) (List.range xs.length) xs

inductive Sl | no | val (d : D) | own (l : List D) | row
abbrev Ev := List Sl
inductive Tg | nm (i : Nat) | tup (ts : Tg) | tnil | tcons (t r : Tg)
def bindT : Tg → D → Ev → Option Ev
  | .nm i, d, ρ => some (ρ.set i (.val d))
  | .tup ts, .tuple ds, ρ => bindT ts (.list ds) ρ
  | .tnil, .list [], ρ => some ρ
  | .tcons t r, .list (d :: ds), ρ => match bindT t d ρ with | some ρ' => bindT r (.list ds) ρ' | none => none
  | _, _, _ => none
def Tg.slots : Tg → List Nat
  | .nm i => [i]
  | .tup ts => ts.slots
  | .tnil => []
  | .tcons t r => t.slots ++ r.slots
def wipeE (ρ : Ev) : List Nat → Ev
  | [] => ρ
  | v :: vs => (wipeE ρ vs).set v .no

inductive E
  | nil | cons (a r : E) | star (a r : E)
  | var (i : Nat) | own (i : Nat)
  | lit (d : D) | glob (x : Str) (d : D)
  | bin (o : BOp) (a b : E) | neg (a : E) | not (a : E)
  | cmp (o : COp) (a b : E) | chain (o o' : COp) (a b c : E)
  | and (a b : E) | or (a b : E) | ite (c a b : E)
  | tup (es : E) | list (es : E)
  | ix (a b : E) | slice (a lo hi : E)
  | call (x : Str) (n : Nat) (f : List D → M D) (es : E)
  | callR (x : Str) (n : Nat) (f : List D → M D) (i : Nat) (es : E)
  | b1 (b : B1) (a : E) | b2 (b : B2) (a c : E)
  | isI (a : E) (c : Cl) | isTL (a : E)
  | comp (elt : E) (tg : Tg) (src cond : E)
  | range1 (a : E) | range2 (a b : E) | range3 (a b : E) | zip (a b : E) | enum (a : E) | rev (a : E)
  | rowAt (i j : Nat) | scrLen (i : Nat) | scrAt (i : Nat) (e : E)
  | stuck
  | listR1 (a : E) | listR2 (a b : E) | tupR1 (a : E)
  | sortK (x : Str) (g : List D → M D) (a : E) | sort0 (a : E) | revS (a : E) | bare (neg : Bool) (a : E)

def sortKD (g : List D → M D) : D → M D
  | .list ds => fun w => match keysAt g w ds with
    | some ks => if sortOk ks && decide (ds.length ≤ sizeLine) then .ok (.list (sortBy ks ds)) w else .bad
    | none => .bad
  | _ => bad
def leafD : D → Bool | .none => true | .int _ => true | _ => false
def bareD (neg : Bool) : D → M D
  | .list ds => if ds.all leafD && decide (ds.length ≤ 1000) then ret (.bool (neg != (!ds.isEmpty && ds.all isNone))) else bad
  | .tuple ds => if ds.all leafD && decide (ds.length ≤ 1000) then ret (.bool (neg != (!ds.isEmpty && ds.all isNone))) else bad
  | _ => bad
def sort0D : D → M D
  | .list ds => if sortOk ds && decide (ds.length ≤ sizeLine) then ret (.list (sortBy ds ds)) else bad
  | _ => bad
def revD : D → M D
  | .list ds => ret (.list ds.reverse)
  | _ => bad
def toT : D → M D
  | .list l => ret (.tuple l)
  | _ => bad
def listOf : D → List D
  | .list ds => ds
  | _ => []
def den : E → Ev → M D
  | .nil, _ => ret (.dict [])
  | .cons a r, ρ => bnd (den a ρ) fun x => bnd (den r ρ) fun xs => ret (.list (x :: listOf xs))
  | .star a r, ρ => bnd (den a ρ) fun x => bnd (itemsOf x) fun ds => bnd (den r ρ) fun xs => ret (.list (ds ++ listOf xs))
  | .var i, ρ => match ρ[i]? with | some (.val d) => ret d | _ => bad
  | .own i, ρ => match ρ[i]? with | some (.own l) => ret (.list l) | _ => bad
  | .lit d, _ => ret d
  | .glob _ d, _ => ret d
  | .bin o a b, ρ => bnd (den a ρ) fun x => bnd (den b ρ) fun y => binD o x y
  | .neg a, ρ => bnd (den a ρ) negD
  | .not a, ρ => bnd (den a ρ) notD
  | .cmp o a b, ρ => bnd (den a ρ) fun x => bnd (den b ρ) fun y => cmpD o x y
  | .chain o o' a b c, ρ => bnd (den a ρ) fun x => bnd (den b ρ) fun y => bnd (bnd (cmpD o x y) asB) fun k =>
      if k then bnd (den c ρ) fun z => cmpD o' y z else ret (.bool false)
  | .and a b, ρ => bnd (bnd (den a ρ) asB) fun k => if k then den b ρ else ret (.bool false)
  | .or a b, ρ => bnd (bnd (den a ρ) asB) fun k => if k then ret (.bool true) else den b ρ
  | .ite c a b, ρ => bnd (bnd (den c ρ) asB) fun k => if k then den a ρ else den b ρ
  | .tup es, ρ => bnd (den es ρ) fun xs => if (listOf xs).length ≤ sizeLine then ret (.tuple (listOf xs)) else bad
  | .list es, ρ => bnd (den es ρ) fun xs => if (listOf xs).length ≤ sizeLine then ret (.list (listOf xs)) else bad
  | .ix a b, ρ => bnd (den a ρ) fun x => bnd (den b ρ) fun y => ixD x y
  | .slice a lo hi, ρ => bnd (den a ρ) fun x => bnd (bnd (den lo ρ) partD) fun l => bnd (bnd (den hi ρ) partD) fun u => sliceD x l u
  | .call _ n f es, ρ => bnd (den es ρ) fun xs => if (listOf xs).length = n then f (listOf xs) else bad
  | .callR _ n f i es, ρ => match ρ[i]? with | some .row => bnd (den es ρ) fun xs => if (listOf xs).length = n then f (listOf xs) else bad | _ => bad
  | .b1 b a, ρ => bnd (den a ρ) fun x => b1D b x
  | .b2 b a c, ρ => bnd (den a ρ) fun x => bnd (den c ρ) fun y => b2D b x y
  | .isI a c, ρ => bnd (den a ρ) fun x => ret (.bool (isIn x c))
  | .isTL a, ρ => bnd (den a ρ) fun x => ret (.bool (isIn x .tup || isIn x .lst))
  | .comp elt tg src cond, ρ => bnd (bnd (den src ρ) itemsOf) fun ds =>
      bnd (mapD (fun d => match bindT tg d (wipeE ρ tg.slots) with
        | none => bad
        | some ρ' => bnd (bnd (den cond ρ') asB) fun k => if k then bnd (den elt ρ') fun x => ret (some x) else ret none) ds) fun out => ret (.list out)
  | .range1 a, ρ => bnd (bnd (den a ρ) asI) fun j => rangeD 0 j
  | .range2 a b, ρ => bnd (bnd (den a ρ) asI) fun i => bnd (bnd (den b ρ) asI) fun j => rangeD i j
  | .range3 a b, ρ => bnd (bnd (den a ρ) asI) fun i => bnd (bnd (den b ρ) asI) fun j => range3D i j
  | .zip a b, ρ => bnd (den a ρ) fun x => bnd (den b ρ) fun y => zip2D x y
  | .enum a, ρ => bnd (bnd (den a ρ) itemsOf) fun xs => ret (.list (enumD xs))
  | .rev a, ρ => bnd (bnd (den a ρ) itemsOf) fun xs => ret (.list xs.reverse)
  | .rowAt i j, ρ => match ρ[i]? with
      | some .row => fun w => match j with | 1 => .ok (.int w.i) w | 2 => .ok (.int w.s) w | 3 => .ok (.int w.q) w | _ => .bad
      | _ => bad
  | .scrLen i, ρ => match ρ[i]? with | some .row => fun w => .ok (.int w.ns.length) w | _ => bad
  | .scrAt i e, ρ => match ρ[i]? with
      | some .row => bnd (bnd (den e ρ) asI) fun k => fun w => match L2.atI w.ns k with | some n => .ok (.int n) w | none => .bad
      | _ => bad
  | .stuck, _ => bad
  | .listR1 a, ρ => bnd (bnd (den a ρ) asI) fun j => rangeD 0 j
  | .listR2 a b, ρ => bnd (bnd (den a ρ) asI) fun i => bnd (bnd (den b ρ) asI) fun j => rangeD i j
  | .tupR1 a, ρ => bnd (bnd (bnd (den a ρ) asI) fun j => rangeD 0 j) toT
  | .sortK _ g a, ρ => bnd (den a ρ) (sortKD g)
  | .sort0 a, ρ => bnd (den a ρ) sort0D
  | .bare n a, ρ => bnd (den a ρ) (bareD n)
  | .revS a, ρ => bnd (den a ρ) revD

inductive S
  | nil | seq (a r : S)
  | asg (t : Tg) (e : E)
  | newL (i : Nat) (e : E)
  | par (i j : Nat) (oi oj : Bool) (a b : E)
  | frz (i : Nat)
  | app (i : Nat) (e : E) | ext (i : Nat) (e : E) | setIx (i : Nat) (k e : E)
  | appPop (i j : Nat) (e : E)
  | ite (c : E) (a b : S)
  | for_ (t : Tg) (src : E) (body : S)
  | while_ (n : Ev → Nat) (c : E) (body : S)
  | ret (e : E)
  | expr (e : E)
  | raise (c : Str) (es : E)
  | rowSet (i j : Nat) (e : E)
  | aug (i : Nat) (o : BOp) (e : E)
  | stuck
  | kill (i : Nat)
inductive O | nx (ρ : Ev) | rt (d : D)
def slD (own : Bool) (d : D) : M Sl := if own then (match d with | .list l => ret (.own l) | _ => bad) else ret (.val d)
def forO (f : D → Ev → M O) : List D → Ev → M O
  | [], ρ => ret (.nx ρ)
  | d :: ds, ρ => bnd (f d ρ) fun o => match o with | .nx ρ' => forO f ds ρ' | .rt d => ret (.rt d)
def whileO (c : Ev → M Bool) (f : Ev → M O) : Nat → Ev → M O
  | 0, _ => bad
  | n + 1, ρ => bnd (c ρ) fun k => if k then bnd (f ρ) fun o => match o with | .nx ρ' => whileO c f n ρ' | .rt d => ret (.rt d) else ret (.nx ρ)
def setW (w : W) (j : Nat) (v : Int) : Option W := match j with | 1 => some { w with i := v } | 2 => some { w with s := v } | 3 => some { w with q := v } | _ => none
def augD (o : BOp) : D → D → M D
  | .int i, .int j => binD o (.int i) (.int j)
  | _, _ => bad
def denS : S → Ev → M O
  | .nil, ρ => ret (.nx ρ)
  | .seq a r, ρ => bnd (denS a ρ) fun o => match o with | .nx ρ' => denS r ρ' | .rt d => ret (.rt d)
  | .asg t e, ρ => bnd (den e ρ) fun d => match bindT t d ρ with | some ρ' => ret (.nx ρ') | none => bad
  | .newL i e, ρ => bnd (den e ρ) fun d => match d with | .list l => ret (.nx (ρ.set i (.own l))) | _ => bad
  | .par i j oi oj a b, ρ => bnd (bnd (den a ρ) (slD oi)) fun x => bnd (bnd (den b ρ) (slD oj)) fun y => ret (.nx ((ρ.set i x).set j y))
  | .frz i, ρ => match ρ[i]? with | some (.own l) => ret (.nx (ρ.set i (.val (.list l)))) | _ => bad
  | .app i e, ρ => match ρ[i]? with
      | some (.own l) => bnd (den e ρ) fun d => if l.length < sizeLine then ret (.nx (ρ.set i (.own (l ++ [d])))) else bad
      | _ => bad
  | .ext i e, ρ => match ρ[i]? with
      | some (.own l) => bnd (den e ρ) fun d => match d with | .list m => if l.length + m.length ≤ sizeLine then ret (.nx (ρ.set i (.own (l ++ m)))) else bad | _ => bad
      | _ => bad
  | .setIx i k e, ρ => bnd (den e ρ) fun d => match ρ[i]? with
      | some (.own l) => bnd (bnd (den k ρ) asI) fun n => match L2.ixN l.length n with | some j => ret (.nx (ρ.set i (.own (l.set j d)))) | none => bad
      | _ => bad
  | .appPop i j e, ρ => match ρ[i]?, ρ[j]? with
      | some (.own l), some (.own m) => bnd (bnd (den e ρ) asI) fun k => match L2.ixN m.length k with
          | some n => (match m[n]? with | some d => if l.length < sizeLine ∧ i ≠ j then ret (.nx ((ρ.set j (.own (m.eraseIdx n))).set i (.own (l ++ [d])))) else bad | none => bad)
          | none => bad
      | _, _ => bad
  | .ite c a b, ρ => bnd (bnd (den c ρ) asB) fun k => if k then denS a ρ else denS b ρ
  | .for_ t src body, ρ => bnd (bnd (den src ρ) itemsOf) fun ds => forO (fun d ρ' => match bindT t d ρ' with | some ρ'' => denS body ρ'' | none => bad) ds ρ
  | .while_ n c body, ρ => whileO (fun ρ' => bnd (den c ρ') asB) (denS body) (n ρ) ρ
  | .ret e, ρ => bnd (den e ρ) fun d => ret (.rt d)
  | .expr e, ρ => bnd (den e ρ) fun _ => ret (.nx ρ)
  | .raise c es, ρ => bnd (den es ρ) fun xs => raise c (listOf xs)
  | .rowSet i j e, ρ => match ρ[i]? with
      | some .row => bnd (bnd (den e ρ) asI) fun v => fun w => match setW w j v with | some w' => .ok (.nx ρ) w' | none => .bad
      | _ => bad
  | .aug i o e, ρ => match ρ[i]? with
      | some (.val x) => bnd (den e ρ) fun y => bnd (augD o x y) fun z => ret (.nx (ρ.set i (.val z)))
      | _ => bad
  | .stuck, _ => bad
  | .kill i, ρ => ret (.nx (ρ.set i .no))
/-- a def: its arguments, then empty slots -/
def fn (n : Nat) (b : S) (ds : List D) : M D := bnd (denS b (ds.map .val ++ List.replicate (n - ds.length) .no)) fun o => match o with | .rt d => ret d | .nx _ => ret .none
/-- a def whose first parameter is the draws' row -/
def fnR (n : Nat) (b : S) (ds : List D) : M D := bnd (denS b (.row :: (ds.map .val ++ List.replicate (n - ds.length) .no))) fun o => match o with | .rt d => ret d | .nx _ => ret .none
end Dn
namespace Dn
open PySem PySem.Spec PyProof.Rows L2
set_option autoImplicit true
/-! ### data at values -/
mutual
def Rp (H : Hp) : D → V → Prop
  | .none, v => v = .non
  | .bool b, v => v = .bl b
  | .int i, v => v = .int i
  | .str s, v => v = .str s
  | .list ds, v => ds.length ≤ sizeLine ∧ ∃ a vs, v = .ref a ∧ H a = some (.lst vs) ∧ RpL H ds vs
  | .tuple ds, v => ds.length ≤ sizeLine ∧ ∃ a vs, v = .ref a ∧ H a = some (.tup vs) ∧ RpL H ds vs
  | .dict _, _ => False
def RpL (H : Hp) : List D → List V → Prop
  | [], vs => vs = []
  | d :: ds, vs => ∃ v r, vs = v :: r ∧ Rp H d v ∧ RpL H ds r
end
def Sub (F H : Hp) : Prop := ∀ a o, F a = some o → H a = some o
theorem Sub.refl (F : Hp) : Sub F F := fun _ _ h => h
theorem Sub.trans {F G H : Hp} (a : Sub F G) (b : Sub G H) : Sub F H := fun c o h => b c o (a c o h)
mutual
theorem Rp.mono {F H : Hp} (s : Sub F H) : ∀ (d : D) (v : V), Rp F d v → Rp H d v
  | .none, _, h => h
  | .bool _, _, h => h
  | .int _, _, h => h
  | .str _, _, h => h
  | .list ds, _, ⟨z, a, vs, e, q, l⟩ => ⟨z, a, vs, e, s _ _ q, RpL.mono s ds vs l⟩
  | .tuple ds, _, ⟨z, a, vs, e, q, l⟩ => ⟨z, a, vs, e, s _ _ q, RpL.mono s ds vs l⟩
  | .dict _, _, h => h
theorem RpL.mono {F H : Hp} (s : Sub F H) : ∀ (ds : List D) (vs : List V), RpL F ds vs → RpL H ds vs
  | [], _, h => h
  | d :: ds, _, ⟨v, r, e, q, l⟩ => ⟨v, r, e, Rp.mono s d v q, RpL.mono s ds r l⟩
end
theorem RpL.nil {H : Hp} : RpL H [] [] := rfl
theorem RpL.cons {H : Hp} {d : D} {ds : List D} {v : V} {vs : List V} (a : Rp H d v) (b : RpL H ds vs) : RpL H (d :: ds) (v :: vs) := ⟨v, vs, rfl, a, b⟩
theorem RpL.length {H : Hp} : ∀ {ds : List D} {vs : List V}, RpL H ds vs → ds.length = vs.length
  | [], _, h => by rw [show _ = [] from h]; rfl
  | d :: ds, _, ⟨v, r, e, _, l⟩ => by rw [e, List.length_cons, List.length_cons, RpL.length l]
theorem RpL.get {H : Hp} : ∀ {ds : List D} {vs : List V} {i : Nat} {d : D}, RpL H ds vs → ds[i]? = some d → ∃ v, vs[i]? = some v ∧ Rp H d v
  | [], _, _, _, _, e => by simp at e
  | x :: ds, _, 0, d, ⟨v, r, e, q, l⟩, h => by
    have : x = d := by simpa using h
    subst this; subst e
    exact ⟨v, rfl, q⟩
  | x :: ds, _, i + 1, d, ⟨v, r, e, q, l⟩, h => by
    obtain ⟨u, h1, h2⟩ := RpL.get (i := i) l (by simpa using h)
    subst e
    exact ⟨u, by simpa using h1, h2⟩
theorem RpL.append {H : Hp} : ∀ {ds es : List D} {vs us : List V}, RpL H ds vs → RpL H es us → RpL H (ds ++ es) (vs ++ us)
  | [], _, _, _, h, k => by rw [show _ = [] from h]; exact k
  | _ :: ds, _, _, _, ⟨v, r, e, q, l⟩, k => by subst e; exact ⟨v, _, rfl, q, RpL.append l k⟩
theorem RpL.take {H : Hp} : ∀ {ds : List D} {vs : List V} (n : Nat), RpL H ds vs → RpL H (ds.take n) (vs.take n)
  | [], _, n, h => by rw [show _ = [] from h]; simp; exact rfl
  | _ :: _, _, 0, ⟨_, _, _, _, _⟩ => rfl
  | _ :: ds, _, n + 1, ⟨v, r, e, q, l⟩ => by subst e; exact ⟨v, _, rfl, q, RpL.take n l⟩
theorem RpL.drop {H : Hp} : ∀ {ds : List D} {vs : List V} (n : Nat), RpL H ds vs → RpL H (ds.drop n) (vs.drop n)
  | [], _, n, h => by rw [show _ = [] from h]; simp; exact rfl
  | _ :: _, _, 0, h => h
  | _ :: ds, _, n + 1, ⟨v, r, e, q, l⟩ => by subst e; exact RpL.drop n l
theorem RpL.set {H : Hp} {d : D} {v : V} (q : Rp H d v) : ∀ {ds : List D} {vs : List V} (n : Nat), RpL H ds vs → RpL H (ds.set n d) (vs.set n v)
  | [], _, n, h => by rw [show _ = [] from h]; exact rfl
  | _ :: _, _, 0, ⟨_, _, e, _, l⟩ => by subst e; exact ⟨_, _, rfl, q, l⟩
  | _ :: ds, _, n + 1, ⟨u, r, e, p, l⟩ => by subst e; exact ⟨u, _, rfl, p, RpL.set q n l⟩
theorem RpL.eraseIdx {H : Hp} : ∀ {ds : List D} {vs : List V} (n : Nat), RpL H ds vs → RpL H (ds.eraseIdx n) (vs.eraseIdx n)
  | [], _, n, h => by rw [show _ = [] from h]; exact rfl
  | _ :: _, _, 0, ⟨_, _, e, _, l⟩ => by subst e; exact l
  | _ :: ds, _, n + 1, ⟨u, r, e, p, l⟩ => by subst e; exact ⟨u, _, rfl, p, RpL.eraseIdx n l⟩
theorem RpL.reverse {H : Hp} : ∀ {ds : List D} {vs : List V}, RpL H ds vs → RpL H ds.reverse vs.reverse
  | [], _, h => by rw [show _ = [] from h]; exact rfl
  | d :: ds, _, ⟨v, r, e, q, l⟩ => by
    subst e
    rw [List.reverse_cons, List.reverse_cons]
    exact RpL.append (RpL.reverse l) (RpL.cons q RpL.nil)
theorem RpL.cut {H : Hp} {ds : List D} {vs : List V} (lo hi : Option Int) (h : RpL H ds vs) : RpL H (cutL ds lo hi) (cutV vs lo hi) := by
  unfold cutL cutV
  rw [h.length]
  exact (h.drop _).take _
theorem RpL.rep {H : Hp} {ds : List D} {vs : List V} (h : RpL H ds vs) : ∀ n : Nat, RpL H (List.replicate n ds).flatten (List.replicate n vs).flatten
  | 0 => rfl
  | n + 1 => by
    rw [List.replicate_succ, List.replicate_succ, List.flatten_cons, List.flatten_cons]
    exact h.append (RpL.rep h n)
theorem RpL.mem {H : Hp} {ds : List D} {vs : List V} (h : RpL H ds vs) {v : V} (hv : v ∈ vs) : ∃ d, Rp H d v := by
  obtain ⟨i, hi, e⟩ := List.getElem_of_mem hv
  have hl := h.length
  obtain ⟨u, h1, h2⟩ := h.get (List.getElem?_eq_getElem (show i < ds.length by omega))
  rw [List.getElem?_eq_getElem hi, e] at h1
  cases h1
  exact ⟨_, h2⟩
theorem intsOf_eq {H : Hp} : ∀ {ds : List D} {vs : List V} {ns : List Int}, RpL H ds vs → intsOf ds = some ns → vs = ns.map V.int ∧ ns.length = ds.length
  | [], _, ns, h, e => by
    cases (show some [] = some ns from e)
    rw [show _ = [] from h]; exact ⟨rfl, rfl⟩
  | .int i :: ds, _, ns, ⟨v, r, e1, q, l⟩, e => by
    cases k : intsOf ds with
    | none => rw [show intsOf (.int i :: ds) = (intsOf ds).map (i :: ·) from rfl, k] at e; cases e
    | some ms =>
      rw [show intsOf (.int i :: ds) = (intsOf ds).map (i :: ·) from rfl, k] at e
      cases e
      obtain ⟨h1, h2⟩ := intsOf_eq l k
      subst e1
      rw [show v = V.int i from q, h1]
      exact ⟨rfl, by simp [h2]⟩
  | .none :: _, _, _, _, e => by cases e
  | .bool _ :: _, _, _, _, e => by cases e
  | .str _ :: _, _, _, _, e => by cases e
  | .list _ :: _, _, _, _, e => by cases e
  | .tuple _ :: _, _, _, _, e => by cases e
  | .dict _ :: _, _, _, _, e => by cases e
theorem boolsOf_eq {H : Hp} : ∀ {ds : List D} {vs : List V} {ns : List Bool}, RpL H ds vs → boolsOf ds = some ns → vs = ns.map V.bl
  | [], _, ns, h, e => by
    cases (show some [] = some ns from e)
    rw [show _ = [] from h]; rfl
  | .bool i :: ds, _, ns, ⟨v, r, e1, q, l⟩, e => by
    cases k : boolsOf ds with
    | none => rw [show boolsOf (.bool i :: ds) = (boolsOf ds).map (i :: ·) from rfl, k] at e; cases e
    | some ms =>
      rw [show boolsOf (.bool i :: ds) = (boolsOf ds).map (i :: ·) from rfl, k] at e
      cases e
      have h1 := boolsOf_eq l k
      subst e1
      rw [show v = V.bl i from q, h1]
      rfl
  | .none :: _, _, _, _, e => by cases e
  | .int _ :: _, _, _, _, e => by cases e
  | .str _ :: _, _, _, _, e => by cases e
  | .list _ :: _, _, _, _, e => by cases e
  | .tuple _ :: _, _, _, _, e => by cases e
  | .dict _ :: _, _, _, _, e => by cases e
mutual
theorem Rp.dp {K : PySem.W.Frag} {H : Hp} : ∀ {d : D} {v : V}, Rp H d v → L2.Dp K H v d
  | .none, _, h => by rw [show _ = V.non from h]; exact .non
  | .bool _, _, h => by rw [show _ = V.bl _ from h]; exact .bl _
  | .int _, _, h => by rw [show _ = V.int _ from h]; exact .int _
  | .str _, _, h => by rw [show _ = V.str _ from h]; exact .str _
  | .list ds, _, ⟨z, a, vs, e, q, l⟩ => by subst e; exact .lst (SqL.of q) (RpL.dp l)
  | .tuple ds, _, ⟨z, a, vs, e, q, l⟩ => by subst e; exact .tup (SqT.of q) (RpL.dp l)
  | .dict _, _, h => h.elim
theorem RpL.dp {K : PySem.W.Frag} {H : Hp} : ∀ {ds : List D} {vs : List V}, RpL H ds vs → L2.DpAll K H vs ds
  | [], _, h => by rw [show _ = [] from h]; exact .nil
  | d :: ds, _, ⟨v, r, e, q, l⟩ => by subst e; exact .cons (Rp.dp q) (RpL.dp l)
end

/-! ### the step of a heap -/
/-- the draws' row and its script, by their places -/
abbrev Rw := Option (Addr × Addr × List Int)
def Rw.a (r : Rw) : Option Addr := r.map (·.1)
def RowOk (K : PySem.W.Frag) (r : Rw) (F H : Hp) (w : W) : Prop := match r with
  | none => True
  | some (a, t, ns) => F a = none ∧ (t ≠ a ∨ ∀ H', SqL K H' t (ns.map V.int)) ∧ w.ns = ns ∧ H a = some (.lst [.ref t, .int w.i, .int w.s, .int w.q]) ∧ SqL K H t (ns.map V.int)
structure Nx (K : PySem.W.Frag) (r : Rw) (F H F' H' : Hp) (w : W) : Prop where
  sub : Sub F F'
  inn : Sub F' H'
  keep : ∀ a o, r.a ≠ some a → H a = some o → H' a = some o
  new : ∀ a o, F' a = some o → F a = some o ∨ H a = none
  row : RowOk K r F' H' w
section
variable {K : PySem.W.Frag} {r : Rw} {F H F1 H1 F2 H2 : Hp} {w w1 w2 : W}
theorem RowOk.there (h : RowOk K r F H w) {a : Addr} (e : r.a = some a) : ∃ o, H a = some o := by
  cases r with
  | none => cases e
  | some p =>
    obtain ⟨b, t⟩ := p
    cases (show some b = some a from e)
    obtain ⟨_, _, _, q, _⟩ := h
    exact ⟨_, q⟩
theorem Nx.non (n : Nx K r F H F1 H1 w) {a : Addr} (e : H1 a = none) : H a = none := by
  cases q : H a with
  | none => rfl
  | some o =>
    by_cases hr : r.a = some a
    · obtain ⟨o', q'⟩ := n.row.there hr
      rw [e] at q'; cases q'
    · rw [n.keep a o hr q] at e; cases e
theorem Nx.refl (s : Sub F H) (h : RowOk K r F H w) : Nx K r F H F H w := ⟨Sub.refl _, s, fun _ _ _ q => q, fun _ _ q => .inl q, h⟩
theorem Nx.trans (a : Nx K r F H F1 H1 w1) (b : Nx K r F1 H1 F2 H2 w2) : Nx K r F H F2 H2 w2 where
  sub := a.sub.trans b.sub
  inn := b.inn
  keep := fun c o h q => b.keep c o h (a.keep c o h q)
  new := fun c o q => by
    rcases b.new c o q with z | z
    · exact a.new c o z
    · exact .inr (a.non z)
  row := b.row
/-- a new object, told as data of ours or not -/
theorem Nx.alloc (s : Sub F H) (h : RowOk K r F H w) {p : Addr} {o : HO} (hp : H p = none) : Nx K r F H (upd F p o) (upd H p o) w := by
  have fp : F p = none := by
    cases q : F p with
    | none => rfl
    | some o => rw [s p o q] at hp; cases hp
  refine ⟨fun a o' q => ?_, fun a o' q => ?_, fun a o' _ q => ?_, fun a o' q => ?_, ?_⟩
  · rw [upd_ne (ne_of_none q fp)]; exact q
  · by_cases e : a = p
    · subst e; rw [upd_same] at q ⊢; exact q
    · rw [upd_ne e] at q ⊢; exact s a o' q
  · rw [upd_ne (ne_of_none q hp)]; exact q
  · by_cases e : a = p
    · subst e; exact .inr hp
    · rw [upd_ne e] at q; exact .inl q
  · cases r with
    | none => trivial
    | some z =>
      obtain ⟨a, t, ns⟩ := z
      obtain ⟨f, ne, ew, q, l⟩ := h
      have ap : a ≠ p := ne_of_none q hp
      refine ⟨by rw [upd_ne ap]; exact f, ne, ew, by rw [upd_ne ap]; exact q, ?_⟩
      rcases l with (l | ⟨o', l⟩) | l
      · exact .inl (.inl (by rw [upd_ne (ne_of_none l hp)]; exact l))
      · exact .inl (.inr ⟨o', by rw [upd_ne (ne_of_none l hp)]; exact l⟩)
      · exact .inr l
theorem Nx.fresh (s : Sub F H) (h : RowOk K r F H w) {p : Addr} {o : HO} (hp : H p = none) : Nx K r F H F (upd H p o) w := by
  have n := Nx.alloc (K := K) (r := r) (w := w) s h (o := o) hp
  refine ⟨Sub.refl _, fun a o' q => ?_, n.keep, fun a o' q => .inl q, ?_⟩
  · rw [upd_ne (ne_of_none (s _ _ q) hp)]; exact s _ _ q
  · have q := n.row
    cases r with
    | none => trivial
    | some a => exact ⟨h.1, q.2⟩
end

/-- a place that is not the row, nor its script -/
def RwOff (K : PySem.W.Frag) (r : Rw) (p : Addr) : Prop := match r with
  | none => True
  | some (a, t, ns) => p ≠ a ∧ (p ≠ t ∨ ∀ H, SqL K H t (ns.map V.int))
theorem RowOk.off {K : PySem.W.Frag} {r : Rw} {F H : Hp} {w : W} (k : RowOk K r F H w) {p : Addr} (h : H p = none) : RwOff K r p := by
  cases r with
  | none => trivial
  | some z =>
    obtain ⟨a, t, ns⟩ := z
    obtain ⟨h1, h2, h3, h4, h5⟩ := k
    refine ⟨fun e => (by rw [e, h4] at h; cases h), ?_⟩
    rcases h5 with (h5 | ⟨o, h5⟩) | h5
    · exact .inl fun e => by rw [e, h5] at h; cases h
    · exact .inl fun e => by rw [e, h5] at h; cases h
    · exact .inr fun H => .inr h5
theorem RwOff.ne {K : PySem.W.Frag} {r : Rw} {p : Addr} (k : RwOff K r p) : r.a ≠ some p := by
  cases r with
  | none => intro e; cases e
  | some z =>
    obtain ⟨a, t, ns⟩ := z
    intro e
    exact k.1 (Option.some.inj (show some a = some p from e)).symm
/-! ### the state of a body -/
structure Sx (K : PySem.W.Frag) (r : Rw) (F H : Hp) (ρ : Ev) (σ : L2.St) (w : W) : Prop where
  sub : Sub F H
  row : RowOk K r F H w
  len : ρ.length = σ.length
  val : ∀ (i : Nat) d, ρ[i]? = some (.val d) → ∃ v, σ[i]? = some (some v) ∧ Rp F d v
  own : ∀ (i : Nat) l, ρ[i]? = some (.own l) → ∃ p vs, σ[i]? = some (some (.ref p)) ∧ H p = some (.lst vs) ∧ RpL F l vs ∧ F p = none ∧ RwOff K r p ∧ l.length ≤ sizeLine
  rw : ∀ (i : Nat), ρ[i]? = some .row → ∃ a, r.a = some a ∧ σ[i]? = some (some (.ref a))
  inj : ∀ (i j : Nat) l m p, ρ[i]? = some (.own l) → ρ[j]? = some (.own m) → σ[i]? = some (some (V.ref p)) → σ[j]? = some (some (V.ref p)) → i = j
theorem Sx.nx {K : PySem.W.Frag} {r : Rw} {F H F1 H1 : Hp} {ρ : Ev} {σ : L2.St} {w w1 : W} (s : Sx K r F H ρ σ w) (n : Nx K r F H F1 H1 w1) : Sx K r F1 H1 ρ σ w1 where
  sub := n.inn
  row := n.row
  len := s.len
  val := fun i d e => by
    obtain ⟨v, h1, h2⟩ := s.val i d e
    exact ⟨v, h1, Rp.mono n.sub _ _ h2⟩
  own := fun i l e => by
    obtain ⟨p, vs, h1, h2, h3, h4, h5, h6⟩ := s.own i l e
    refine ⟨p, vs, h1, n.keep _ _ h5.ne h2, RpL.mono n.sub _ _ h3, ?_, h5, h6⟩
    cases q : F1 p with
    | none => rfl
    | some o =>
      rcases n.new p o q with z | z
      · rw [h4] at z; cases z
      · rw [h2] at z; cases z
  rw := s.rw
  inj := s.inj

/-- what a reading delivers -/
abbrev Kind (α β : Type) := Rw → Hp → Hp → Hp → α → β → Prop
def Out {α β : Type} (P : Kind α β) (K : PySem.W.Frag) (r : Rw) (F H : Hp) (m : R α) (Q : β → Hp → Prop) : Prop := match m with
  | .ok a w => ∀ b F' H', Nx K r F H F' H' w → P r H F' H' a b → Q b H'
  | _ => False
def PV : Kind D V := fun _ _ F _ d v => Rp F d v
def PB : Kind Bool Bool := fun _ _ _ _ a b => a = b
def PL : Kind D (List V) := fun _ _ F _ d vs => RpL F (listOf d) vs
/-- a list or tuple read, a list of one's own too -/
def PSr : Kind D V := fun r _ F H d v => Rp F d v ∨ ∃ p vs l, v = .ref p ∧ d = .list l ∧ H p = some (.lst vs) ∧ RpL F l vs ∧ r.a ≠ some p ∧ l.length ≤ sizeLine
/-- a new list, not yet frozen -/
def PF : Kind D V := fun r H0 F H d v => ∃ p vs l, v = .ref p ∧ d = .list l ∧ H p = some (.lst vs) ∧ RpL F l vs ∧ F p = none ∧ H0 p = none ∧ r.a ≠ some p ∧ l.length ≤ sizeLine
def tOut {α β : Type} (P : Kind α β) (K : PySem.W.Frag) (f : Ev → M α) : L2.St → Hp → (β → Hp → Prop) → Prop := fun σ H Q => ∃ r F ρ w, Sx K r F H ρ σ w ∧ Out P K r F H (f ρ w) Q
section
variable {K : PySem.W.Frag} {r : Rw} {F H F1 H1 : Hp} {w w1 : W} {α β γ δ : Type} {P : Kind α β} {P' : Kind γ δ}
theorem Out.mono {m : R α} {Q Q' : β → Hp → Prop} (h : Out P K r F H m Q) (q : ∀ b H', Q b H' → Q' b H') : Out P K r F H m Q' := by
  cases m with
  | ok a w => exact fun b F' H' n p => q _ _ (h b F' H' n p)
  | exc c xs w => exact h
  | bad => exact h
class Mono (P : Kind α β) : Prop where
  back : ∀ {K r F H F1 H1 F' H' w a b}, Nx K r F H F1 H1 w → P r H1 F' H' a b → P r H F' H' a b
instance : Mono PV := ⟨fun _ h => h⟩
instance : Mono PB := ⟨fun _ h => h⟩
instance : Mono PL := ⟨fun _ h => h⟩
instance : Mono PSr := ⟨fun _ h => h⟩
instance : Mono PF := ⟨fun n ⟨p, vs, l, h1, h2, h3, h4, h5, h6, h7⟩ => ⟨p, vs, l, h1, h2, h3, h4, h5, n.non h6, h7⟩⟩
theorem Out.step [Mono P] {m : R α} {Q : β → Hp → Prop} (h : Out P K r F H m Q) (n : Nx K r F H F1 H1 w1) : Out P K r F1 H1 m Q := by
  cases m with
  | ok a w => exact fun b F' H' n' p => h b F' H' (n.trans n') (Mono.back n p)
  | exc c xs w => exact h
  | bad => exact h
theorem Out.bind [Mono P'] {m : M α} {k : α → M γ} {Q : δ → Hp → Prop} (h : Out P' K r F H (bnd m k w) Q) :
    Out P K r F H (m w) fun b H1 => ∃ F1 a w1, Nx K r F H F1 H1 w1 ∧ P r H F1 H1 a b ∧ Out P' K r F1 H1 (k a w1) Q := by
  unfold bnd at h
  cases e : m w with
  | ok a w1 =>
    rw [e] at h
    exact fun b F' H' n p => ⟨F', a, w1, n, p, h.step n⟩
  | exc c xs w1 => rw [e] at h; exact h
  | bad => rw [e] at h; exact h
theorem Out.ret {a : α} {Q : β → Hp → Prop} (h : Out P K r F H (Dn.ret a w) Q) {b : β} (n : Nx K r F H F1 H1 w) (p : P r H F1 H1 a b) : Q b H1 := h b F1 H1 n p
theorem Out.not {Q : β → Hp → Prop} (h : Out P K r F H (bad w) Q) {C : Prop} : C := h.elim
/-- a reading that gives more than is asked -/
theorem Out.weak {P2 : Kind α β} {m : R α} {Q : β → Hp → Prop} (h : Out P2 K r F H m Q) (k : ∀ {F' H' w a b}, Nx K r F H F' H' w → P r H F' H' a b → P2 r H F' H' a b) : Out P K r F H m Q := by
  cases m with
  | ok a w => exact fun b F' H' n p => h b F' H' n (k n p)
  | exc c xs w => exact h
  | bad => exact h
end
end Dn
namespace Dn
open PySem PySem.Spec PyProof.Rows L2
set_option autoImplicit true
theorem PE_imp {X : Cx} {e : Expr} {t t' : TE} (h : PE X e t) (i : ∀ σ H Q, t' σ H Q → t σ H Q) : PE X e t' := ⟨fun pins s σ H Q I q => h.run pins s σ H Q I (i σ H Q q)⟩
theorem PT_imp {X : Cx} {e : Expr} {t t' : TT} (h : PT X e t) (i : ∀ σ H Q, t' σ H Q → t σ H Q) : PT X e t' := ⟨fun pins s σ H Q I q => h.run pins s σ H Q I (i σ H Q q)⟩
theorem PA_imp {X : Cx} {e : List Expr} {t t' : TA} (h : PA X e t) (i : ∀ σ H Q, t' σ H Q → t σ H Q) : PA X e t' := ⟨fun pos pins s σ H Q I q => h.run pos pins s σ H Q I (i σ H Q q)⟩
abbrev DE (X : Cx) (e : Expr) (f : Ev → M D) : Prop := PE X e (tOut PV X.K f)
abbrev DS (X : Cx) (e : Expr) (f : Ev → M D) : Prop := PE X e (tOut PSr X.K f)
abbrev DF (X : Cx) (e : Expr) (f : Ev → M D) : Prop := PE X e (tOut PF X.K f)
abbrev DT (X : Cx) (e : Expr) (f : Ev → M Bool) : Prop := PT X e (tOut PB X.K f)
abbrev DA (X : Cx) (es : List Expr) (f : Ev → M D) : Prop := PA X es (tOut PL X.K f)
section
variable {X : Cx} {e a b c : Expr} {es : List Expr} {f fa fb fc fs : Ev → M D} {pos : Pos}
theorem DE.ds (h : DE X e f) : DS X e f := PE_imp h fun σ H Q ⟨r, F, ρ, w, s, o⟩ => ⟨r, F, ρ, w, s, o.weak fun _ p => .inl p⟩
theorem Nx.freeze {K : PySem.W.Frag} {r : Rw} {F H F' H' : Hp} {w : W} {p : Addr} {o : HO} (n : Nx K r F H F' H' w) (h1 : H' p = some o) (h2 : F' p = none) (h3 : H p = none) (h4 : r.a ≠ some p) : Nx K r F H (upd F' p o) H' w := by
  refine ⟨fun a u q => ?_, fun a u q => ?_, n.keep, fun a u q => ?_, ?_⟩
  · have q' := n.sub a u q
    rw [upd_ne (ne_of_none q' h2)]; exact q'
  · by_cases e : a = p
    · subst e; rw [upd_same] at q; cases q; exact h1
    · rw [upd_ne e] at q; exact n.inn a u q
  · by_cases e : a = p
    · subst e; exact .inr h3
    · rw [upd_ne e] at q; exact n.new a u q
  · have q := n.row
    cases r with
    | none => trivial
    | some z => exact ⟨by rw [upd_ne (fun e => h4 (by rw [← e]; rfl))]; exact q.1, q.2⟩
theorem sub_upd {F : Hp} {p : Addr} {o : HO} (h : F p = none) : Sub F (upd F p o) := fun a u q => by rw [upd_ne (ne_of_none q h)]; exact q
theorem DF.de (h : DF X e f) : DE X e f := PE_imp h fun σ H Q ⟨r, F, ρ, w, s, o⟩ => ⟨r, F, ρ, w, s, by
  revert o
  cases f ρ w with
  | ok d w' =>
    intro o v F' H' n p
    obtain ⟨p, vs, l, rfl, rfl, h1, h2, h3, h4, h5, h6⟩ := p
    exact o _ _ _ (n.freeze h1 h3 h4 h5) ⟨h6, p, vs, rfl, upd_same, RpL.mono (sub_upd h3) _ _ h2⟩
  | exc _ _ _ => exact fun o => o
  | bad => exact fun o => o⟩
/-! ### names, constants -/
theorem s_var {i : Nat} {x : Str} (hN : X.N[i]? = some x) (hv : Vis X.env.scope x) (hd : (x == ("__debug__" : Str)) = false) (hcd : (x == ("__classdict__" : Str)) = false) : DE X (.Name x pos) (den (.var i)) :=
  PE_imp (pe_var hN hv hd hcd) fun σ H Q ⟨r, F, ρ, w, s, o⟩ => by
    simp only [den] at o
    cases e : ρ[i]? with
    | none => rw [e] at o; exact o.elim
    | some z =>
      rw [e] at o
      cases z with
      | val d =>
        obtain ⟨v, h1, h2⟩ := s.val i d e
        exact ⟨v, h1, o v F H (Nx.refl s.sub s.row) h2⟩
      | _ => exact o.elim
theorem s_own {i : Nat} {x : Str} (hN : X.N[i]? = some x) (hv : Vis X.env.scope x) (hd : (x == ("__debug__" : Str)) = false) (hcd : (x == ("__classdict__" : Str)) = false) : DS X (.Name x pos) (den (.own i)) :=
  PE_imp (pe_var hN hv hd hcd) fun σ H Q ⟨r, F, ρ, w, s, o⟩ => by
    simp only [den] at o
    cases e : ρ[i]? with
    | none => rw [e] at o; exact o.elim
    | some z =>
      rw [e] at o
      cases z with
      | own l =>
        obtain ⟨p, vs, h1, h2, h3, h4, h5, h6⟩ := s.own i l e
        exact ⟨.ref p, h1, o _ F H (Nx.refl s.sub s.row) (.inr ⟨p, vs, l, rfl, rfl, h2, h3, h5.ne, h6⟩)⟩
      | _ => exact o.elim
/-- a constant by its value -/
theorem s_const {d : D} {v : V} (h : PE X e (tC v)) (hr : ∀ F, Rp F d v) : DE X e (fun _ => ret d) :=
  PE_imp h fun σ H Q ⟨r, F, ρ, w, s, o⟩ => o v F H (Nx.refl s.sub s.row) (hr F)
/-! ### operators by values -/
def VR2 (K : PySem.W.Frag) (r : R2) (g : D → D → M D) : Prop := ∀ {rr : Rw} {F H : Hp} {w : W} {x y : V} {a b : D} {Q : VK}, Sub F H → RowOk K rr F H w → Rp F a x → Rp F b y → Out PV K rr F H (g a b w) Q → r x y H Q
def VR2s (K : PySem.W.Frag) (r : R2) (g : D → D → M D) : Prop := ∀ {rr : Rw} {F H H0 : Hp} {w : W} {x y : V} {a b : D} {Q : VK}, Sub F H → RowOk K rr F H w → Rp F a x → PSr rr H0 F H b y → Out PV K rr F H (g a b w) Q → r x y H Q
theorem PSr.step {K : PySem.W.Frag} {r : Rw} {H0 F H F1 H1 : Hp} {w : W} {d : D} {v : V} (p : PSr r H0 F H d v) (n : Nx K r F H F1 H1 w) : PSr r H0 F1 H1 d v := by
  rcases p with p | ⟨p, vs, l, h1, h2, h3, h4, h5, h6⟩
  · exact .inl (Rp.mono n.sub _ _ p)
  · exact .inr ⟨p, vs, l, h1, h2, n.keep _ _ h5 h3, RpL.mono n.sub _ _ h4, h5, h6⟩
theorem two {g : D → D → M D} {r : R2} (v : VR2s X.K r g) : ∀ σ H Q, tOut PV X.K (fun ρ => bnd (fa ρ) fun x => bnd (fb ρ) fun y => g x y) σ H Q → tOp r (tOut PV X.K fa) (tOut PSr X.K fb) σ H Q := fun σ H Q ⟨rr, F, ρ, w, s, o⟩ =>
  ⟨rr, F, ρ, w, s, (Out.bind (P := PV) o).mono fun x H1 ⟨F1, a, w1, n1, p1, o1⟩ => ⟨rr, F1, ρ, w1, s.nx n1, (Out.bind (P := PSr) o1).mono fun y H2 ⟨F2, b, w2, n2, p2, o2⟩ => v n2.inn n2.row (Rp.mono n2.sub _ _ p1) p2 o2⟩⟩
theorem twoV {g : D → D → M D} {r : R2} (v : VR2 X.K r g) : ∀ σ H Q, tOut PV X.K (fun ρ => bnd (fa ρ) fun x => bnd (fb ρ) fun y => g x y) σ H Q → tOp r (tOut PV X.K fa) (tOut PV X.K fb) σ H Q := fun σ H Q ⟨rr, F, ρ, w, s, o⟩ =>
  ⟨rr, F, ρ, w, s, (Out.bind (P := PV) o).mono fun x H1 ⟨F1, a, w1, n1, p1, o1⟩ => ⟨rr, F1, ρ, w1, s.nx n1, (Out.bind (P := PV) o1).mono fun y H2 ⟨F2, b, w2, n2, p2, o2⟩ => v n2.inn n2.row (Rp.mono n2.sub _ _ p1) p2 o2⟩⟩
theorem s_bin {op : Operator} {r : R2} {g : D → D → M D} (ho : OpR X (binaryOp op) r) (v : VR2 X.K r g) (ha : DE X a fa) (hb : DE X b fb) : DE X (.BinOp a op b pos) (fun ρ => bnd (fa ρ) fun x => bnd (fb ρ) fun y => g x y) :=
  PE_imp (pe_op ho ha hb) (twoV v)
theorem s_cmp {op : CmpOp} {r : R2} {g : D → D → M D} (ho : OpR X (compareOp op) r) (v : VR2 X.K r g) (hm : behindInMarks op b = false) (ha : DE X a fa) (hb : DE X b fb) : DE X (.Compare a [op] [b] pos) (fun ρ => bnd (fa ρ) fun x => bnd (fb ρ) fun y => g x y) :=
  PE_imp (pe_cmpR ho ha hb hm) (twoV v)
theorem s_cmpS {op : CmpOp} {r : R2} {g : D → D → M D} (ho : OpR X (compareOp op) r) (v : VR2s X.K r g) (hm : behindInMarks op b = false) (ha : DE X a fa) (hb : DS X b fb) : DE X (.Compare a [op] [b] pos) (fun ρ => bnd (fa ρ) fun x => bnd (fb ρ) fun y => g x y) :=
  PE_imp (pe_cmpR ho ha hb hm) (two v)
theorem tt_of {t : TE} {f : Ev → M D} (h : ∀ σ H Q, tOut PV X.K f σ H Q → t σ H Q) : ∀ σ H Q, tOut PB X.K (fun ρ => bnd (f ρ) asB) σ H Q → tTest t σ H Q := fun σ H Q ⟨rr, F, ρ, w, s, o⟩ =>
  h σ H _ ⟨rr, F, ρ, w, s, (Out.bind (P := PV) o).mono fun x H1 ⟨F1, d, w1, n1, p1, o1⟩ => by
    cases d with
    | bool k => exact ⟨k, p1, o1 k F1 H1 (Nx.refl n1.inn n1.row) rfl⟩
    | _ => exact o1.elim⟩
theorem t_cmp {op : CmpOp} {r : R2} {g : D → D → M D} (ho : OpR X (compareOp op) r) (v : VR2 X.K r g) (hm : behindInMarks op b = false) (ha : DE X a fa) (hb : DE X b fb) : DT X (.Compare a [op] [b] pos) (fun ρ => bnd (bnd (fa ρ) fun x => bnd (fb ρ) fun y => g x y) asB) :=
  PT_imp (pt_cmpR ho ha hb hm) (tt_of (twoV v))
theorem t_cmpS {op : CmpOp} {r : R2} {g : D → D → M D} (ho : OpR X (compareOp op) r) (v : VR2s X.K r g) (hm : behindInMarks op b = false) (ha : DE X a fa) (hb : DS X b fb) : DT X (.Compare a [op] [b] pos) (fun ρ => bnd (bnd (fa ρ) fun x => bnd (fb ρ) fun y => g x y) asB) :=
  PT_imp (pt_cmpR ho ha hb hm) (tt_of (two v))
/-- an expression as a test, where a test is its value's truth -/
theorem t_val (h : DE X e f) (he : ∀ whole, isTrue e X.env whole = (do let v ← whole; standAt e.pos; holding [v] (truthy v))) : DT X e (fun ρ => bnd (f ρ) asB) :=
  PT_imp (pt_val h he) (tt_of fun _ _ _ q => q)
end
end Dn
namespace Dn
open PySem PySem.Spec PyProof.Rows L2
set_option autoImplicit true
/-! ### t * k for a tuple of one item, k any small number -/
theorem tuple_mul1 (l : Addr) (items : Array Value) (n : Nat) (sl : Array (Option Value)) (u : Tok) (c1 : items.isEmpty = false) :
    Meets (Builtin.«tuple.__mul__» ⟨[.ref l, .int 1 u], []⟩) (fun _ R s => s.heap.get? l = some { cls := .type "tuple", dict := dd, data := .seq items n, slots := sl } ∧
      R (.ok (.ret (Value.ref l))) s) :=
  .of_wp fun prog w A R s h => by
    obtain ⟨hp, g, d, tk, os⟩ := s
    obtain ⟨hl, h⟩ := h
    have f1 := AutoSeq1.idx_int
    wp_walk using wpAny_loadPart' hl
    repeat (first
      | (refine wpAny_ite_true (decide_eq_true (by simp)) ?_; wp_walk using wpAny_loadPart' hl)
      | (refine wpAny_ite_false (decide_eq_false (by simp)) ?_; wp_walk using wpAny_loadPart' hl))
    exact ⟨_, rfl, h⟩
theorem tuple_mul0 (l : Addr) (items : Array Value) (n : Nat) (sl : Array (Option Value)) (u : Tok) (c1 : items.isEmpty = false) :
    Meets (Builtin.«tuple.__mul__» ⟨[.ref l, .int 0 u], []⟩) (fun _ R s => s.heap.get? l = some { cls := .type "tuple", dict := dd, data := .seq items n, slots := sl } ∧
      R (.ok (.ret (Value.ref s.heap.objs.size))) { s with heap := s.heap.push { cls := Value.type "tuple", data := Data.seq #[] } }) :=
  .of_wp fun prog w A R s h => by
    obtain ⟨hp, g, d, tk, os⟩ := s
    obtain ⟨hl, h⟩ := h
    have f1 := AutoSeq1.idx_int
    wp_walk using wpAny_loadPart' hl
    repeat (first
      | (refine wpAny_ite_false (decide_eq_false (by simp [c1])) ?_; wp_walk using wpAny_loadPart' hl)
      | (refine wpAny_ite_true (decide_eq_true (by simp)) ?_; wp_walk using wpAny_loadPart' hl))
    exact ⟨_, rfl, h⟩
def rRepS (K : PySem.W.Frag) : R2 := fun x y H Q => ∃ l k v, x = .ref l ∧ y = .int k ∧ SqT K H l [v] ∧ 0 ≤ k ∧ k ≤ 1000 ∧ (k = 1 → Q (.ref l) H) ∧ (k ≠ 1 → ∀ p, H p = none → Q (.ref p) (upd H p (.tup (List.replicate k.toNat [v]).flatten)))
theorem op_repS {X : Cx} : OpR X (binaryOp .Mult) (rRepS X.K) := by
  intro pins s σ H x y v u Q I rx ry h
  obtain ⟨l, k, z, rfl, rfl, hT, h1, h2, q1, q2⟩ := h
  by_cases e1 : k = 1
  · subst e1
    cases rx
    obtain ⟨t, rfl⟩ := ry
    obtain ⟨its, r, ⟨⟨cls, dd, data, sl⟩, ho, hc, n, hd⟩, hs⟩ := I.tuple hT
    simp only at hc hd
    subst hc hd
    have hle : its.length = 1 := r.length.symm
    have hi : its.toArray.isEmpty = false := by
      cases its with
      | nil => cases hle
      | cons a b => rfl
    refine wpAny_binaryOp_repeat_ref (T := "tuple") (U := "int") (by decide) ⟨_, ho, rfl⟩ (fun s' => typeIs_int s' 1 t) noFill_tuple_mul F.fills_int_mul F.slot_int_rmul repeat_tuple F.slot_int_index.lookup
      (call_meets F.slot_int_rmul (typeIs_int s 1 t) F.entry_int_rmul (F.args_int_rmul_2 _ _) (int_rmul_tuple 1 t l its.toArray n dd sl)
        ⟨ho, rfl, ⟨_, ho, rfl⟩, call_meets F.slot_tuple_mul ⟨_, ho, rfl⟩ F.entry_tuple_mul (F.args_tuple_mul_2 _ _) (tuple_mul1 l its.toArray n sl t hi) ⟨ho, ?_⟩⟩)
    exact ⟨.ref l, H, I, rfl, q1 rfl⟩
  · by_cases e0 : k = 0
    · subst e0
      cases rx
      obtain ⟨t, rfl⟩ := ry
      obtain ⟨its, r, ⟨⟨cls, dd, data, sl⟩, ho, hc, n, hd⟩, hs⟩ := I.tuple hT
      simp only at hc hd
      subst hc hd
      have hle : its.length = 1 := r.length.symm
      have hi : its.toArray.isEmpty = false := by
        cases its with
        | nil => cases hle
        | cons a b => rfl
      refine wpAny_binaryOp_repeat_ref (T := "tuple") (U := "int") (by decide) ⟨_, ho, rfl⟩ (fun s' => typeIs_int s' 0 t) noFill_tuple_mul F.fills_int_mul F.slot_int_rmul repeat_tuple F.slot_int_index.lookup
        (call_meets F.slot_int_rmul (typeIs_int s 0 t) F.entry_int_rmul (F.args_int_rmul_2 _ _) (int_rmul_tuple 0 t l its.toArray n dd sl)
          ⟨ho, rfl, ⟨_, ho, rfl⟩, call_meets F.slot_tuple_mul ⟨_, ho, rfl⟩ F.entry_tuple_mul (F.args_tuple_mul_2 _ _) (tuple_mul0 l its.toArray n sl t hi) ⟨ho, ?_⟩⟩)
      refine ⟨.ref s.heap.objs.size, _, I.laid (t' := s.toks) (o := .tup []) (fun b ob q => Heap.get?_push_of_some _ q) (Nat.le_refl _) ?_, rfl, q2 e1 _ (I.hok.fresh (Nat.le_refl _))⟩
      exact ⟨Nat.zero_le _, [], .nil, IsTup.new _ _⟩
    · exact op_repT pins s σ H _ _ v u Q I rx ry ⟨l, k, [z], rfl, rfl, hT, by simp, by omega, h2, by simp, q2 e1⟩
/-! ### the operators' rules -/
section
variable {K : PySem.W.Frag}
theorem vr_or {r1 r2 : R2} {g1 g2 g : D → D → M D} (h1 : VR2 K r1 g1) (h2 : VR2 K r2 g2) (h : ∀ a b w, g a b w = g1 a b w ∨ g a b w = g2 a b w) : VR2 K (fun x y H Q => r1 x y H Q ∨ r2 x y H Q) g := fun {rr F H w x y a b Q} s k p q o => by
  rcases h a b w with e | e
  · rw [e] at o; exact .inl (h1 s k p q o)
  · rw [e] at o; exact .inr (h2 s k p q o)
/-- the end of a rule: a flat answer -/
theorem fin {rr : Rw} {F H : Hp} {w : W} {d : D} {v : V} {Q : VK} (s : Sub F H) (k : RowOk K rr F H w) (o : Out PV K rr F H (.ok d w) Q) (p : Rp F d v) : Q v H := o v F H (Nx.refl s k) p
theorem finT {rr : Rw} {F H : Hp} {w : W} {ds : List D} {vs : List V} {p : Addr} {Q : VK} (s : Sub F H) (k : RowOk K rr F H w) (o : Out PV K rr F H (.ok (.tuple ds) w) Q) (hp : H p = none) (hl : ds.length ≤ sizeLine) (l : RpL F ds vs) : Q (.ref p) (upd H p (.tup vs)) := by
  have n := Nx.alloc (K := K) (o := .tup vs) s k hp
  exact o _ _ _ n ⟨hl, p, vs, rfl, upd_same, RpL.mono n.sub _ _ l⟩
theorem finL {rr : Rw} {F H : Hp} {w : W} {ds : List D} {vs : List V} {p : Addr} {Q : VK} (s : Sub F H) (k : RowOk K rr F H w) (o : Out PV K rr F H (.ok (.list ds) w) Q) (hp : H p = none) (hl : ds.length ≤ sizeLine) (l : RpL F ds vs) : Q (.ref p) (upd H p (.lst vs)) := by
  have n := Nx.alloc (K := K) (o := .lst vs) s k hp
  exact o _ _ _ n ⟨hl, p, vs, rfl, upd_same, RpL.mono n.sub _ _ l⟩
def rAddI : R2 := rI0 fun i j => .int (i + j)
def rAddS : R2 := fun x y H Q => ∃ i j, x = .str i ∧ y = .str j ∧ i.length + j.length ≤ sizeLine ∧ Q (.str (i ++ j)) H
def rAddAll (K : PySem.W.Frag) : R2 := fun x y H Q => rAddI x y H Q ∨ (rAddS x y H Q ∨ (rCatA K x y H Q ∨ rCat x y H Q))
theorem op_addAll {X : Cx} : OpR X (binaryOp .Add) (rAddAll X.K) := op_add.or (op_add_str.or (op_catA.or op_cat))
theorem Rp.tup {F : Hp} {ds : List D} {v : V} (h : Rp F (.tuple ds) v) : ds.length ≤ sizeLine ∧ ∃ a vs, v = .ref a ∧ F a = some (.tup vs) ∧ RpL F ds vs := h
theorem Rp.lst {F : Hp} {ds : List D} {v : V} (h : Rp F (.list ds) v) : ds.length ≤ sizeLine ∧ ∃ a vs, v = .ref a ∧ F a = some (.lst vs) ∧ RpL F ds vs := h
theorem v_add : VR2 K (rAddAll K) (binD .add) := fun {rr F H w x y a b Q} s k p q o => by
  cases a <;> cases b <;> first | exact o.elim | skip
  · exact .inl ⟨_, _, p, q, fin s k o rfl⟩
  · rename_i i j
    by_cases hl : i.length + j.length ≤ sizeLine
    · rw [show binD .add (.str i) (.str j) = if i.length + j.length ≤ sizeLine then ret (.str (i ++ j)) else bad from rfl, if_pos hl] at o
      exact .inr (.inl ⟨_, _, p, q, hl, fin s k o rfl⟩)
    · rw [show binD .add (.str i) (.str j) = if i.length + j.length ≤ sizeLine then ret (.str (i ++ j)) else bad from rfl, if_neg hl] at o
      exact o.elim
  · rename_i i j
    by_cases hl : i.length + j.length ≤ sizeLine
    · rw [show binD .add (.list i) (.list j) = if i.length + j.length ≤ sizeLine then ret (.list (i ++ j)) else bad from rfl, if_pos hl] at o
      obtain ⟨z1, l1, xs, rfl, e1, r1⟩ := p.lst
      obtain ⟨z2, l2, ys, rfl, e2, r2⟩ := q.lst
      refine .inr (.inr (.inr ⟨l1, l2, xs, ys, rfl, rfl, s _ _ e1, s _ _ e2, by rw [← r1.length, ← r2.length]; exact hl, fun p hp => finL s k o hp (by rw [List.length_append]; exact hl) (r1.append r2)⟩))
    · rw [show binD .add (.list i) (.list j) = if i.length + j.length ≤ sizeLine then ret (.list (i ++ j)) else bad from rfl, if_neg hl] at o
      exact o.elim
  · rename_i i j
    by_cases hl : i.length + j.length ≤ sizeLine
    · rw [show binD .add (.tuple i) (.tuple j) = if i.length + j.length ≤ sizeLine then ret (.tuple (i ++ j)) else bad from rfl, if_pos hl] at o
      have p' := p
      have q' := q
      obtain ⟨z1, l1, xs, rfl, e1, r1⟩ := p.tup
      obtain ⟨z2, l2, ys, rfl, e2, r2⟩ := q.tup
      refine .inr (.inr (.inl ⟨l1, l2, xs, ys, rfl, rfl, SqT.of (s _ _ e1), SqT.of (s _ _ e2), by rw [← r1.length, ← r2.length]; exact hl, fun ex => ?_, fun _ ey => ?_, fun _ _ p hp => finT s k o hp (by rw [List.length_append]; exact hl) (r1.append r2)⟩))
      · have e : i = [] := List.eq_nil_of_length_eq_zero (by rw [r1.length, ex]; rfl)
        subst e
        exact fin s k o q'
      · have e : j = [] := List.eq_nil_of_length_eq_zero (by rw [r2.length, ey]; rfl)
        subst e
        rw [List.append_nil] at o
        exact fin s k o p'
    · rw [show binD .add (.tuple i) (.tuple j) = if i.length + j.length ≤ sizeLine then ret (.tuple (i ++ j)) else bad from rfl, if_neg hl] at o
      exact o.elim
theorem v_sub : VR2 K (rI0 fun i j => .int (i - j)) (binD .sub) := fun {rr F H w x y a b Q} s k p q o => by
  cases a <;> cases b <;> first | exact o.elim | skip
  exact ⟨_, _, p, q, fin s k o rfl⟩
def rMulAll (K : PySem.W.Frag) : R2 := fun x y H Q => rI CMul (fun i j => .int (i * j)) x y H Q ∨ (rRepS K x y H Q ∨ rRep x y H Q)
theorem op_mulAll {X : Cx} : OpR X (binaryOp .Mult) (rMulAll X.K) := op_mul.or (op_repS.or op_rep)
theorem ite_out {c : Prop} [Decidable c] {m : M D} {rr : Rw} {F H : Hp} {w : W} {Q : VK} (o : Out PV K rr F H ((if c then m else bad) w) Q) : c ∧ Out PV K rr F H (m w) Q := by
  by_cases h : c
  · rw [if_pos h] at o; exact ⟨h, o⟩
  · rw [if_neg h] at o; exact o.elim
theorem v_mul : VR2 K (rMulAll K) (binD .mul) := fun {rr F H w x y a b Q} s k p q o => by
  cases a <;> cases b <;> first | exact o.elim | skip
  · obtain ⟨hc, o⟩ := ite_out o
    refine .inl ⟨_, _, p, q, ?_, fin s k o rfl⟩
    simpa [big, CMul] using hc
  · obtain ⟨⟨h1, h2, h3⟩, o⟩ := ite_out o
    obtain ⟨z1, l1, xs, rfl, e1, r1⟩ := p.lst
    refine .inr (.inr ⟨l1, _, xs, rfl, q, s _ _ e1, by omega, by omega, ?_, fun p hp => finL s k o hp ?_ (r1.rep _)⟩)
    · rw [← r1.length, h3, sizeLine_eq]; omega
    · rw [PyProof.Rows.lm_len_rep_flat, h3, sizeLine_eq]; omega
  · obtain ⟨⟨h1, h2, h3⟩, o⟩ := ite_out o
    have p' := p
    obtain ⟨z1, l1, xs, rfl, e1, r1⟩ := p.tup
    obtain ⟨v, rfl⟩ : ∃ v, xs = [v] := List.length_eq_one_iff.mp (by rw [← r1.length, h3])
    refine .inr (.inl ⟨l1, _, v, rfl, q, SqT.of (s _ _ e1), h1, h2, fun e => ?_, fun e p hp => finT s k o hp ?_ (r1.rep _)⟩)
    · subst e
      simp only [show (1 : Int).toNat = 1 from rfl, List.replicate_one, List.flatten_cons, List.flatten_nil, List.append_nil] at o
      exact fin s k o p'
    · rw [PyProof.Rows.lm_len_rep_flat, h3, sizeLine_eq]; omega
theorem v_fdiv : VR2 K (rI CDiv fun i j => .int (i / j)) (binD .fdiv) := fun {rr F H w x y a b Q} s k p q o => by
  cases a <;> cases b <;> first | exact o.elim | skip
  obtain ⟨hc, o⟩ := ite_out o
  exact ⟨_, _, p, q, hc, fin s k o rfl⟩
theorem v_mod : VR2 K (rI (fun _ j => 0 < j) fun i j => .int (i % j)) (binD .mod) := fun {rr F H w x y a b Q} s k p q o => by
  cases a <;> cases b <;> first | exact o.elim | skip
  obtain ⟨hc, o⟩ := ite_out o
  exact ⟨_, _, p, q, hc, fin s k o rfl⟩
theorem v_pow : VR2 K (rI CPow fun i j => .int (i ^ j.toNat)) (binD .pow) := fun {rr F H w x y a b Q} s k p q o => by
  cases a <;> cases b <;> first | exact o.elim | skip
  obtain ⟨hc, o⟩ := ite_out o
  exact ⟨_, _, p, q, hc, fin s k o rfl⟩
/-! comparisons -/
theorem v_eq : VR2 K (rEqD K) (cmpD .eq) := fun {rr F H w x y a b Q} s k p q o => by
  obtain ⟨hc, o⟩ := ite_out o
  rw [Bool.and_eq_true] at hc
  exact ⟨a, b, (Rp.mono s _ _ p).dp, (Rp.mono s _ _ q).dp, hc.1, hc.2, fin s k o rfl⟩
theorem v_ne : VR2 K (rNeD K) (cmpD .ne) := fun {rr F H w x y a b Q} s k p q o => by
  obtain ⟨hc, o⟩ := ite_out o
  rw [Bool.and_eq_true] at hc
  exact ⟨a, b, (Rp.mono s _ _ p).dp, (Rp.mono s _ _ q).dp, hc.1, hc.2, fin s k o rfl⟩
def rLtD (K : PySem.W.Frag) : R2 := fun x y H Q => ∃ d e, L2.Dp K H x d ∧ L2.Dp K H y e ∧ PySem.W.alike d e = true ∧ d ≠ .none ∧ d.depth ≤ 8 ∧ Q (.bl (PySem.W.dataLt d e)) H
theorem op_ltD {X : Cx} (hu : X.A.units + 65 < cLine) : OpR X (compareOp .Lt) (rLtD X.K) := by
  intro pins s σ H x y v u Q I rx ry h
  obtain ⟨d, e, hd, he, sd, se, sz, q⟩ := h
  obtain ⟨as, r1⟩ := L2.Dp.reads I d x v hd rx
  obtain ⟨bs, r2⟩ := L2.Dp.reads I e y u he ry
  exact PySem.W.lt_data r1 r2 sd se (by have := Nat.min_le_left d.depth e.depth; omega) ⟨.bl _, H, I, rfl, q⟩
def rLtAll (K : PySem.W.Frag) : R2 := fun x y H Q => (rI0 fun i j => .bl (decide (i < j))) x y H Q ∨ rLtD K x y H Q
theorem op_ltAll {X : Cx} (hu : X.A.units + 65 < cLine) : OpR X (compareOp .Lt) (rLtAll X.K) := op_lt.or (op_ltD hu)
theorem ltOk_parts {a b : D} (h : ltOk a b = true) : PySem.W.alike a b = true ∧ a.depth ≤ 8 := by
  unfold ltOk at h
  rw [Bool.and_eq_true, decide_eq_true_eq] at h
  exact h
theorem v_lt : VR2 K (rLtAll K) (cmpD .lt) := fun {rr F H w x y a b Q} s k p q o => by
  cases a <;> cases b <;> first | exact o.elim | skip
  · exact .inl ⟨_, _, p, q, fin s k o rfl⟩
  · obtain ⟨hc, o⟩ := ite_out o
    obtain ⟨h1, h2⟩ := ltOk_parts hc
    exact .inr ⟨_, _, (Rp.mono s _ _ p).dp, (Rp.mono s _ _ q).dp, h1, (by intro z; cases z), h2, fin s k o rfl⟩
  · obtain ⟨hc, o⟩ := ite_out o
    obtain ⟨h1, h2⟩ := ltOk_parts hc
    exact .inr ⟨_, _, (Rp.mono s _ _ p).dp, (Rp.mono s _ _ q).dp, h1, (by intro z; cases z), h2, fin s k o rfl⟩
theorem v_le : VR2 K (rI0 fun i j => .bl (decide (i ≤ j))) (cmpD .le) := fun {rr F H w x y a b Q} s k p q o => by
  cases a <;> cases b <;> first | exact o.elim | skip
  exact ⟨_, _, p, q, fin s k o rfl⟩
theorem v_gt : VR2 K (rI0 fun i j => .bl (decide (j < i))) (cmpD .gt) := fun {rr F H w x y a b Q} s k p q o => by
  cases a <;> cases b <;> first | exact o.elim | skip
  exact ⟨_, _, p, q, fin s k o rfl⟩
theorem v_ge : VR2 K (rI0 fun i j => .bl (decide (j ≤ i))) (cmpD .ge) := fun {rr F H w x y a b Q} s k p q o => by
  cases a <;> cases b <;> first | exact o.elim | skip
  exact ⟨_, _, p, q, fin s k o rfl⟩
theorem isNone_rp {F : Hp} {a : D} {x : V} (p : Rp F a x) : decide (x = .non) = isNone a := by
  cases a with
  | none => rw [show x = .non from p]; rfl
  | bool b => rw [show x = .bl b from p]; rfl
  | int b => rw [show x = .int b from p]; rfl
  | str b => rw [show x = .str b from p]; rfl
  | list ds => obtain ⟨_, l, xs, e, _⟩ := p.lst; rw [e]; rfl
  | tuple ds => obtain ⟨_, l, xs, e, _⟩ := p.tup; rw [e]; rfl
  | dict _ => exact p.elim
def rIsAll : R2 := fun x y H Q => (y = .non ∧ Q (.bl (decide (x = .non))) H) ∨ rIsB x y H Q
def rIsntAll : R2 := fun x y H Q => (y = .non ∧ Q (.bl (!decide (x = .non))) H) ∨ rNotB x y H Q
theorem op_isAll {X : Cx} : OpR X (compareOp .Is) rIsAll := op_isN.or op_isBl
theorem op_isntAll {X : Cx} : OpR X (compareOp .IsNot) rIsntAll := op_notN.or op_notBl
theorem v_is : VR2 K rIsAll (cmpD .is_) := fun {rr F H w x y a b Q} s k p q o => by
  cases b with
  | none => exact .inl ⟨q, fin s k (show Out PV K rr F H (.ok (.bool (isNone a)) w) Q by cases a <;> exact o) (by rw [isNone_rp p]; rfl)⟩
  | bool b => cases a with
    | bool a => exact .inr ⟨a, b, p, q, fin s k o rfl⟩
    | _ => exact o.elim
  | _ => cases a <;> exact o.elim
theorem v_isnot : VR2 K rIsntAll (cmpD .isnot) := fun {rr F H w x y a b Q} s k p q o => by
  cases b with
  | none => exact .inl ⟨q, fin s k (show Out PV K rr F H (.ok (.bool (!isNone a)) w) Q by cases a <;> exact o) (by rw [isNone_rp p]; rfl)⟩
  | bool b => cases a with
    | bool a => exact .inr ⟨a, b, p, q, fin s k o rfl⟩
    | _ => exact o.elim
  | _ => cases a <;> exact o.elim
theorem PSr.dp {rr : Rw} {H0 F H : Hp} {d : D} {v : V} (s : Sub F H) (p : PSr rr H0 F H d v) : L2.Dp K H v d := by
  rcases p with p | ⟨p, vs, l, rfl, rfl, h3, h4, h5, h6⟩
  · exact (Rp.mono s _ _ p).dp
  · exact .lst (SqL.of h3) (RpL.mono s _ _ h4).dp
def rInAll (K : PySem.W.Frag) (neg : Bool) : R2 := fun x y H Q => ∃ (d : D) (ds : List D) (b : Bool), L2.Dp K H x d ∧ L2.Dp K H y (cond b (.list ds) (.tuple ds)) ∧ SeqAt.shaped d = true ∧ SeqAt.shaped (.list ds) = true ∧ Q (.bl (if neg then !(ds.any fun z => PyData.eqv z d) else ds.any fun z => PyData.eqv z d)) H
theorem op_inAll {X : Cx} (hu : X.A.units + 65 < cLine) : OpR X (compareOp .In) (rInAll X.K false) := by
  intro pins s σ H x y v u Q I rx ry h
  obtain ⟨d, ds, b, hd, he, sd, se, q⟩ := h
  obtain ⟨as, r1⟩ := L2.Dp.reads I d x v hd rx
  obtain ⟨bs, r2⟩ := L2.Dp.reads I _ y u he ry
  cases b with
  | true => exact SeqAt.in_list_reads r2 r1 (SeqAt.canLay_of_shaped se) (SeqAt.canLay_of_shaped sd) (room_in_shaped sd hu) ⟨.bl _, H, I, rfl, q⟩
  | false => exact SeqAt.in_tuple_reads r2 r1 (SeqAt.canLay_of_shaped se) (SeqAt.canLay_of_shaped sd) (room_in_shaped sd hu) ⟨.bl _, H, I, rfl, q⟩
theorem op_notinAll {X : Cx} (hu : X.A.units + 65 < cLine) : OpR X (compareOp .NotIn) (rInAll X.K true) := by
  intro pins s σ H x y v u Q I rx ry h
  obtain ⟨d, ds, b, hd, he, sd, se, q⟩ := h
  obtain ⟨as, r1⟩ := L2.Dp.reads I d x v hd rx
  obtain ⟨bs, r2⟩ := L2.Dp.reads I _ y u he ry
  cases b with
  | true => exact SeqAt.notIn_list_reads r2 r1 (SeqAt.canLay_of_shaped se) (SeqAt.canLay_of_shaped sd) (room_in_shaped sd hu) ⟨.bl _, H, I, rfl, q⟩
  | false => exact SeqAt.notIn_tuple_reads r2 r1 (SeqAt.canLay_of_shaped se) (SeqAt.canLay_of_shaped sd) (room_in_shaped sd hu) ⟨.bl _, H, I, rfl, q⟩
theorem shaped_tl (ds : List D) : SeqAt.shaped (.tuple ds) = SeqAt.shaped (.list ds) := by unfold SeqAt.shaped; simp [PyData.canLay0, PyData.depth]
theorem v_in : VR2s K (rInAll K false) (cmpD .in_) := fun {rr F H H0 w x y a b Q} s k p q o => by
  cases b <;> first | (cases a <;> exact o.elim) | skip
  · rename_i ds
    obtain ⟨hc, o⟩ := ite_out (c := (SeqAt.shaped a && SeqAt.shaped (.list ds)) = true) (m := ret (.bool (ds.any fun z => PyData.eqv z a))) (by cases a <;> exact o)
    rw [Bool.and_eq_true] at hc
    exact ⟨a, ds, true, (Rp.mono s _ _ p).dp, q.dp s, hc.1, hc.2, fin s k o rfl⟩
  · rename_i ds
    obtain ⟨hc, o⟩ := ite_out (c := (SeqAt.shaped a && SeqAt.shaped (.tuple ds)) = true) (m := ret (.bool (ds.any fun z => PyData.eqv z a))) (by cases a <;> exact o)
    rw [Bool.and_eq_true, shaped_tl] at hc
    exact ⟨a, ds, false, (Rp.mono s _ _ p).dp, q.dp s, hc.1, hc.2, fin s k o rfl⟩
theorem v_notin : VR2s K (rInAll K true) (cmpD .notin) := fun {rr F H H0 w x y a b Q} s k p q o => by
  cases b <;> first | (cases a <;> exact o.elim) | skip
  · rename_i ds
    obtain ⟨hc, o⟩ := ite_out (c := (SeqAt.shaped a && SeqAt.shaped (.list ds)) = true) (m := ret (.bool (!(ds.any fun z => PyData.eqv z a)))) (by cases a <;> exact o)
    rw [Bool.and_eq_true] at hc
    exact ⟨a, ds, true, (Rp.mono s _ _ p).dp, q.dp s, hc.1, hc.2, fin s k o rfl⟩
  · rename_i ds
    obtain ⟨hc, o⟩ := ite_out (c := (SeqAt.shaped a && SeqAt.shaped (.tuple ds)) = true) (m := ret (.bool (!(ds.any fun z => PyData.eqv z a)))) (by cases a <;> exact o)
    rw [Bool.and_eq_true, shaped_tl] at hc
    exact ⟨a, ds, false, (Rp.mono s _ _ p).dp, q.dp s, hc.1, hc.2, fin s k o rfl⟩
end
end Dn
namespace Dn
open PySem PySem.Spec PyProof.Rows L2
set_option autoImplicit true
section
variable {X : Cx} {e a b c : Expr} {es rest : List Expr} {f fa fb fc fs : Ev → M D} {ft : Ev → M Bool} {pos : Pos}
/-! ### unary, and, or, if -/
theorem s_neg (ha : DE X a fa) : DE X (.UnaryOp .USub a pos) (fun ρ => bnd (fa ρ) negD) :=
  PE_imp (pe_un un_neg ha) fun σ H Q ⟨rr, F, ρ, w, s, o⟩ => ⟨rr, F, ρ, w, s, (Out.bind (P := PV) o).mono fun x H1 ⟨F1, d, w1, n1, p1, o1⟩ => by
    cases d with
    | int i => exact ⟨i, p1, fin n1.inn n1.row o1 rfl⟩
    | _ => exact o1.elim⟩
theorem s_not (ha : DE X a fa) : DE X (.UnaryOp .Not a pos) (fun ρ => bnd (fa ρ) notD) :=
  PE_imp (pe_not ha) fun σ H Q ⟨rr, F, ρ, w, s, o⟩ => ⟨rr, F, ρ, w, s, (Out.bind (P := PV) o).mono fun x H1 ⟨F1, d, w1, n1, p1, o1⟩ => by
    cases d with
    | bool i => exact ⟨i, p1, fin n1.inn n1.row o1 rfl⟩
    | _ => exact o1.elim⟩
theorem t_not (ha : DT X a fun ρ => bnd (fa ρ) asB) : DT X (.UnaryOp .Not a pos) (fun ρ => bnd (bnd (fa ρ) notD) asB) :=
  PT_imp (pt_not ha) fun σ H Q ⟨rr, F, ρ, w, s, o⟩ => ⟨rr, F, ρ, w, s, by
    dsimp only at o ⊢
    rw [bnd_bnd] at o
    revert o
    unfold bnd
    cases fa ρ w with
    | exc _ _ _ => exact fun o => o
    | bad => exact fun o => o
    | ok d w' =>
      cases d with
      | bool k =>
        intro o k' F' H' n p
        exact o _ F' H' n (by rw [show k = k' from p]; exact rfl)
      | _ => exact fun o => o.elim⟩
theorem s_and (ha : DE X a fa) (hb : DE X (.BoolOp .And (b :: rest) pos) fb) : DE X (.BoolOp .And (a :: b :: rest) pos) (fun ρ => bnd (bnd (fa ρ) asB) fun k => if k then fb ρ else ret (.bool false)) :=
  PE_imp (pe_and ha hb) fun σ H Q ⟨rr, F, ρ, w, s, o⟩ => ⟨rr, F, ρ, w, s, by
    dsimp only at o
    rw [bnd_bnd] at o
    refine (Out.bind (P := PV) o).mono fun x H1 ⟨F1, d, w1, n1, p1, o1⟩ => ?_
    cases d with
    | bool k =>
      refine ⟨k, p1, ?_⟩
      cases k with
      | true => exact ⟨rr, F1, ρ, w1, s.nx n1, o1⟩
      | false => exact fin n1.inn n1.row o1 rfl
    | _ => exact o1.elim⟩
theorem s_or (ha : DE X a fa) (hb : DE X (.BoolOp .Or (b :: rest) pos) fb) : DE X (.BoolOp .Or (a :: b :: rest) pos) (fun ρ => bnd (bnd (fa ρ) asB) fun k => if k then ret (.bool true) else fb ρ) :=
  PE_imp (pe_or ha hb) fun σ H Q ⟨rr, F, ρ, w, s, o⟩ => ⟨rr, F, ρ, w, s, by
    dsimp only at o
    rw [bnd_bnd] at o
    refine (Out.bind (P := PV) o).mono fun x H1 ⟨F1, d, w1, n1, p1, o1⟩ => ?_
    cases d with
    | bool k =>
      refine ⟨k, p1, ?_⟩
      cases k with
      | false => exact ⟨rr, F1, ρ, w1, s.nx n1, o1⟩
      | true => exact fin n1.inn n1.row o1 rfl
    | _ => exact o1.elim⟩
theorem s_one {op} (h : DE X a f) : DE X (.BoolOp op [a] pos) f := pe_one h
abbrev DW (X : Cx) (e : Expr) (f : Ev → M Bool) : Prop := PW X e (tOut PB X.K f)
theorem PW_imp {t t' : TT} (h : PW X e t) (i : ∀ σ H Q, t' σ H Q → t σ H Q) : PW X e t' := ⟨fun wh pins s σ H Q I q => h.run wh pins s σ H Q I (i σ H Q q)⟩
theorem w_and1 (ha : DT X a ft) : DW X (.BoolOp .And [a] pos) ft := pw_and1 ha
theorem w_or1 (ha : DT X a ft) : DW X (.BoolOp .Or [a] pos) ft := pw_or1 ha
theorem w_and (ha : DT X a fun ρ => bnd (fa ρ) asB) (hb : DW X (.BoolOp .And (b :: rest) pos) fun ρ => bnd (fb ρ) asB) :
    DW X (.BoolOp .And (a :: b :: rest) pos) (fun ρ => bnd (bnd (bnd (fa ρ) asB) fun k => if k then fb ρ else ret (.bool false)) asB) :=
  PW_imp (pw_and ha hb) fun σ H Q ⟨rr, F, ρ, w, s, o⟩ => ⟨rr, F, ρ, w, s, by
    dsimp only at o
    rw [bnd_bnd] at o
    refine (Out.bind (P := PB) o).mono fun x H1 ⟨F1, d, w1, n1, p1, o1⟩ => ?_
    cases (show d = x from p1)
    cases x with
    | true => exact ⟨rr, F1, ρ, w1, s.nx n1, o1⟩
    | false => exact o1 false F1 H1 (Nx.refl n1.inn n1.row) rfl⟩
theorem w_or (ha : DT X a fun ρ => bnd (fa ρ) asB) (hb : DW X (.BoolOp .Or (b :: rest) pos) fun ρ => bnd (fb ρ) asB) :
    DW X (.BoolOp .Or (a :: b :: rest) pos) (fun ρ => bnd (bnd (bnd (fa ρ) asB) fun k => if k then ret (.bool true) else fb ρ) asB) :=
  PW_imp (pw_or ha hb) fun σ H Q ⟨rr, F, ρ, w, s, o⟩ => ⟨rr, F, ρ, w, s, by
    dsimp only at o
    rw [bnd_bnd] at o
    refine (Out.bind (P := PB) o).mono fun x H1 ⟨F1, d, w1, n1, p1, o1⟩ => ?_
    cases (show d = x from p1)
    cases x with
    | false => exact ⟨rr, F1, ρ, w1, s.nx n1, o1⟩
    | true => exact o1 true F1 H1 (Nx.refl n1.inn n1.row) rfl⟩
theorem s_ite (hc : DT X c ft) (ha : DE X a fa) (hb : DE X b fb) : DE X (.IfExp c a b pos) (fun ρ => bnd (ft ρ) fun k => if k then fa ρ else fb ρ) :=
  PE_imp (pe_ifExp hc ha hb) fun σ H Q ⟨rr, F, ρ, w, s, o⟩ => ⟨rr, F, ρ, w, s, (Out.bind (P := PB) o).mono fun x H1 ⟨F1, d, w1, n1, p1, o1⟩ => by
    cases (show d = x from p1)
    cases x with
    | true => exact ⟨rr, F1, ρ, w1, s.nx n1, o1⟩
    | false => exact ⟨rr, F1, ρ, w1, s.nx n1, o1⟩⟩
/-! ### argument lists, displays -/
theorem a_nil : DA X [] (fun _ => ret (.dict [])) := PA_imp pa_nil fun σ H Q ⟨rr, F, ρ, w, s, o⟩ => o [] F H (Nx.refl s.sub s.row) rfl
theorem a_cons (ha : DE X a fa) (hr : DA X es f) (hs : starEach (a :: es) X.env = (false, eval a X.env) :: starEach es X.env) : DA X (a :: es) (fun ρ => bnd (fa ρ) fun x => bnd (f ρ) fun xs => ret (.list (x :: listOf xs))) :=
  PA_imp (pa_cons ha hr hs) fun σ H Q ⟨rr, F, ρ, w, s, o⟩ => ⟨rr, F, ρ, w, s, (Out.bind (P := PV) o).mono fun x H1 ⟨F1, d, w1, n1, p1, o1⟩ =>
    ⟨rr, F1, ρ, w1, s.nx n1, (Out.bind (P := PL) o1).mono fun xs H2 ⟨F2, ds, w2, n2, p2, o2⟩ => o2 _ F2 H2 (Nx.refl n2.inn n2.row) (RpL.cons (Rp.mono n2.sub _ _ p1) p2)⟩⟩
theorem a_star {p : Pos} (ha : DS X a fa) (hr : DA X es f) (hs : starEach (.Starred a p :: es) X.env = (true, eval a X.env) :: starEach es X.env) : DA X (.Starred a p :: es) (fun ρ => bnd (fa ρ) fun x => bnd (itemsOf x) fun ds => bnd (f ρ) fun xs => ret (.list (ds ++ listOf xs))) :=
  PA_imp (StX.pa_star ha hr hs) fun σ H Q ⟨rr, F, ρ, w, s, o⟩ => ⟨rr, F, ρ, w, s, (Out.bind (P := PSr) o).mono fun x H1 ⟨F1, d, w1, n1, p1, o1⟩ => by
    have go : ∀ (q : Addr) (ds : List D) (vs : List V), RpL F1 ds vs → itemsOf d = ret ds → (SqT X.K H1 q vs ∨ SqL X.K H1 q vs) → x = .ref q →
        ∃ p xs, x = V.ref p ∧ (SqT X.K H1 p xs ∨ SqL X.K H1 p xs) ∧ tOut PL X.K f σ H1 fun ys H2 => Q (xs ++ ys) H2 := fun q ds vs l e sq ex => by
      rw [e] at o1
      exact ⟨q, vs, ex, sq, rr, F1, ρ, w1, s.nx n1, (Out.bind (P := PL) o1).mono fun xs H2 ⟨F2, es, w2, n2, p2, o2⟩ => o2 _ F2 H2 (Nx.refl n2.inn n2.row) (RpL.append (RpL.mono n2.sub _ _ l) p2)⟩
    rcases p1 with p1 | ⟨q, vs, l, rfl, rfl, h3, h4, h5, h6⟩
    · cases d <;> first | exact o1.elim | skip
      · obtain ⟨_, q, vs, e, h, l⟩ := p1.lst
        exact go q _ vs l rfl (.inr (SqL.of (n1.inn _ _ h))) e
      · obtain ⟨_, q, vs, e, h, l⟩ := p1.tup
        exact go q _ vs l rfl (.inl (SqT.of (n1.inn _ _ h))) e
    · exact go q l vs h4 rfl (.inr (SqL.of h3)) rfl⟩
theorem s_tup {x1} (h : DA X es f) : DE X (.Tuple es x1 pos) (fun ρ => bnd (f ρ) fun xs => if (listOf xs).length ≤ sizeLine then ret (.tuple (listOf xs)) else bad) :=
  PE_imp (pe_tup h) fun σ H Q ⟨rr, F, ρ, w, s, o⟩ => ⟨rr, F, ρ, w, s, (Out.bind (P := PL) o).mono fun xs H1 ⟨F1, d, w1, n1, p1, o1⟩ => by
    obtain ⟨hc, o1⟩ := ite_out o1
    exact ⟨by rw [← p1.length]; exact hc, fun p hp => finT n1.inn n1.row o1 hp hc p1⟩⟩
theorem f_list (h : DA X es f) : DF X (.List es pos) (fun ρ => bnd (f ρ) fun xs => if (listOf xs).length ≤ sizeLine then ret (.list (listOf xs)) else bad) :=
  PE_imp (pe_lst h) fun σ H Q ⟨rr, F, ρ, w, s, o⟩ => ⟨rr, F, ρ, w, s, (Out.bind (P := PL) (P' := PF) o).mono fun xs H1 ⟨F1, d, w1, n1, p1, o1⟩ => by
    by_cases hc : (listOf d).length ≤ sizeLine
    · rw [if_pos hc] at o1
      refine ⟨by rw [← p1.length]; exact hc, fun p hp => ?_⟩
      have n := Nx.fresh (K := X.K) (r := rr) (w := w1) (o := .lst xs) n1.inn n1.row hp
      refine o1 _ F1 _ n ⟨p, xs, listOf d, rfl, rfl, upd_same, p1, ?_, hp, fun e => ?_, hc⟩
      · cases q : F1 p with
        | none => rfl
        | some o => rw [n1.inn p o q] at hp; cases hp
      · obtain ⟨o, q⟩ := n1.row.there e
        rw [q] at hp; cases hp
    · rw [if_neg hc] at o1; exact o1.elim⟩
/-! ### subscripts -/
theorem atI_rp {F : Hp} {ds : List D} {vs : List V} {i : Int} {d : D} (l : RpL F ds vs) (h : atI ds i = some d) : ∃ v, atI vs i = some v ∧ Rp F d v := by
  unfold atI at h ⊢
  rw [← l.length]
  cases e : ixN ds.length i with
  | none => rw [e] at h; cases h
  | some j =>
    rw [e] at h
    exact l.get h
theorem s_ix (ha : DS X a fa) (hb : DE X b fb) (hs : PlainIx b) : DE X (.Subscript a b pos) (fun ρ => bnd (fa ρ) fun x => bnd (fb ρ) fun y => ixD x y) :=
  PE_imp (pe_ix ix_seq ha hb hs) fun σ H Q ⟨rr, F, ρ, w, s, o⟩ => ⟨rr, F, ρ, w, s, (Out.bind (P := PSr) o).mono fun x H1 ⟨F1, d, w1, n1, p1, o1⟩ =>
    ⟨rr, F1, ρ, w1, s.nx n1, (Out.bind (P := PV) o1).mono fun y H2 ⟨F2, u, w2, n2, p2, o2⟩ => by
      have p1 := p1.step n2
      have lst : ∀ (q : Addr) (ds : List D) (vs : List V), RpL F2 ds vs → d = .list ds → SqL X.K H2 q vs → x = .ref q → rIx X.K x y H2 Q := fun q ds vs l e sq ex => by
        subst e
        cases u <;> first | exact o2.elim | skip
        rename_i i
        cases k : atI ds i with
        | none => rw [show ixD (.list ds) (.int i) = (match atI ds i with | some d => ret d | none => bad) from rfl, k] at o2; exact o2.elim
        | some z =>
          rw [show ixD (.list ds) (.int i) = (match atI ds i with | some d => ret d | none => bad) from rfl, k] at o2
          obtain ⟨v, h1, h2⟩ := atI_rp l k
          exact .inl ⟨q, vs, i, v, ex, p2, sq, h1, fin n2.inn n2.row o2 h2⟩
      rcases p1 with p1 | ⟨q, vs, l, rfl, rfl, h3, h4, h5, h6⟩
      · cases d with
        | str z =>
          cases u with
          | int i =>
            obtain ⟨hc, o2⟩ := ite_out (c := z.length ≤ sizeLine) (m := match atI z.cps.toList i with | some c => ret (.str ⟨#[c]⟩) | none => bad) o2
            cases k : atI z.cps.toList i with
            | none => rw [k] at o2; exact o2.elim
            | some ch =>
              rw [k] at o2
              exact .inr (.inr ⟨z, i, ch, p1, p2, hc, k, fin n2.inn n2.row o2 rfl⟩)
          | _ => exact o2.elim
        | list ds =>
          obtain ⟨_, q, vs, e, h, l⟩ := p1.lst
          exact lst q _ vs l rfl (SqL.of (n2.inn _ _ h)) e
        | tuple ds =>
          obtain ⟨_, q, vs, e, h, l⟩ := p1.tup
          cases u with
          | int i =>
            cases k : atI ds i with
            | none => rw [show ixD (.tuple ds) (.int i) = (match atI ds i with | some d => ret d | none => bad) from rfl, k] at o2; exact o2.elim
            | some z =>
              rw [show ixD (.tuple ds) (.int i) = (match atI ds i with | some d => ret d | none => bad) from rfl, k] at o2
              obtain ⟨v, h1, h2⟩ := atI_rp l k
              exact .inr (.inl ⟨q, vs, i, v, e, p2, SqT.of (n2.inn _ _ h), h1, fin n2.inn n2.row o2 h2⟩)
          | _ => exact o2.elim
        | _ => cases u <;> exact o2.elim
      · exact lst q l vs h4 rfl (SqL.of h3) rfl⟩⟩
theorem cutL_length {α : Type} (xs : List α) (lo hi : Option Int) : (cutL xs lo hi).length ≤ xs.length := by
  unfold cutL
  rw [List.length_take, List.length_drop]
  omega
theorem cutL_whole {α : Type} {xs : List α} {lo hi : Option Int} (h1 : HT.sIx xs.length 0 lo = 0) (h2 : HT.sIx xs.length xs.length hi = xs.length) : cutL xs lo hi = xs := by
  unfold cutL; rw [h1, h2]; simp
abbrev DO (X : Cx) (e : Option Expr) (f : Ev → M (Option Int)) : Prop := PO X e (tOut (fun _ _ _ _ (a b : Option Int) => a = b) X.K f)
instance : Mono (fun _ _ _ _ (a b : Option Int) => a = b : Kind (Option Int) (Option Int)) := ⟨fun _ h => h⟩
theorem o_none : DO X none (fun _ => bnd (ret (.dict [])) partD) := ⟨fun pins s σ H Q I q => po_none.run pins s σ H Q I (by
  obtain ⟨rr, F, ρ, w, s, o⟩ := q
  exact o _ F H (Nx.refl s.sub s.row) rfl)⟩
theorem o_some (h : DE X e f) : DO X (some e) (fun ρ => bnd (f ρ) partD) := ⟨fun pins s σ H Q I q => (po_some h).run pins s σ H Q I (by
  obtain ⟨rr, F, ρ, w, s, o⟩ := q
  refine ⟨rr, F, ρ, w, s, (Out.bind (P := PV) o).mono fun x H1 ⟨F1, d, w1, n1, p1, o1⟩ => ?_⟩
  cases d with
  | int i => exact ⟨i, p1, o1 _ F1 H1 (Nx.refl n1.inn n1.row) rfl⟩
  | dict ds => exact (show False from p1).elim
  | _ => exact o1.elim)⟩
end
end Dn
namespace Dn
open PySem PySem.Spec PyProof.Rows L2
set_option autoImplicit true
/-- a value with its address: the list or tuple read -/
theorem PSr.seq {K : PySem.W.Frag} {rr : Rw} {H0 F H : Hp} {d : D} {v : V} (s : Sub F H) (p : PSr rr H0 F H d v) :
    (∃ q vs l, v = .ref q ∧ d = .list l ∧ SqL K H q vs ∧ RpL F l vs ∧ l.length ≤ sizeLine) ∨ (∃ q vs l, v = .ref q ∧ d = .tuple l ∧ SqT K H q vs ∧ RpL F l vs ∧ Rp F d v ∧ l.length ≤ sizeLine) ∨ (flatD d = true ∧ Rp F d v) := by
  rcases p with p | ⟨p, vs, l, h1, h2, h3, h4, h5, h6⟩
  · cases d with
    | list ds =>
      obtain ⟨z, q, vs, e, h, l⟩ := p.lst
      exact .inl ⟨q, vs, ds, e, rfl, SqL.of (s _ _ h), l, z⟩
    | tuple ds =>
      have p' := p
      obtain ⟨z, q, vs, e, h, l⟩ := p.tup
      exact .inr (.inl ⟨q, vs, ds, e, rfl, SqT.of (s _ _ h), l, p', z⟩)
    | dict _ => exact p.elim
    | _ => exact .inr (.inr ⟨rfl, p⟩)
  · exact .inl ⟨p, vs, l, h1, h2, SqL.of h3, h4, h6⟩
section
variable {X : Cx} {e a b c : Expr} {es rest : List Expr} {f fa fb fc fs : Ev → M D} {fl fh : Ev → M (Option Int)} {ft : Ev → M Bool} {pos p p2 : Pos} {lo hi : Option Expr}
def rSlAll (K : PySem.W.Frag) : V → Option Int → Option Int → Hp → VK → Prop := fun x lo hi H Q => rSlL K x lo hi H Q ∨ rSlA K x lo hi H Q
theorem sl_all : SlR X (rSlAll X.K) := SlR.or sl_list sl_tupA
theorem s_slice (ha : DS X a fa) (hl : DO X lo fl) (hh : DO X hi fh) : DE X (.Subscript a (.Slice lo hi none p2) pos) (fun ρ => bnd (fa ρ) fun x => bnd (fl ρ) fun l => bnd (fh ρ) fun u => sliceD x l u) :=
  PE_imp (pe_slice sl_all ha hl hh) fun σ H Q ⟨rr, F, ρ, w, s, o⟩ => ⟨rr, F, ρ, w, s, (Out.bind (P := PSr) o).mono fun x H1 ⟨F1, d, w1, n1, p1, o1⟩ =>
    ⟨rr, F1, ρ, w1, s.nx n1, (Out.bind (P := fun _ _ _ _ (a b : Option Int) => a = b) o1).mono fun l H2 ⟨F2, l', w2, n2, p2, o2⟩ =>
      ⟨rr, F2, ρ, w2, (s.nx n1).nx n2, (Out.bind (P := fun _ _ _ _ (a b : Option Int) => a = b) o2).mono fun u H3 ⟨F3, u', w3, n3, p3, o3⟩ => by
        have p2 : l' = l := p2
        have p3 : u' = u := p3
        subst p2 p3
        have p1 := (p1.step n2).step n3
        rcases p1.seq (K := X.K) n3.inn with ⟨q, vs, ds, rfl, rfl, sq, l, z⟩ | ⟨q, vs, ds, rfl, rfl, sq, l, pp, z⟩ | ⟨k, _⟩
        · exact .inl ⟨q, vs, rfl, sq, fun p hp => finL n3.inn n3.row o3 hp (Nat.le_trans (cutL_length _ _ _) z) (l.cut _ _)⟩
        · refine .inr ⟨q, vs, rfl, sq, fun ⟨h1, h2⟩ => ?_, fun _ p hp => finT n3.inn n3.row o3 hp (Nat.le_trans (cutL_length _ _ _) z) (l.cut _ _)⟩
          rw [← l.length] at h1 h2
          have o3' : Out PV X.K rr F3 H3 (.ok (.tuple (cutL ds l' u')) w3) Q := o3
          rw [cutL_whole h1 h2] at o3'
          exact fin n3.inn n3.row o3' pp
        · cases d <;> first | exact o3.elim | cases k⟩⟩⟩
/-! ### calls of defs -/
def spD (K : PySem.W.Frag) (n : Nat) (f : List D → M D) : Sp := fun vs H Q _ => vs.length = n ∧ ∃ (r : Rw) (F : Hp) (ds : List D) (w : W), Sub F H ∧ RowOk K r F H w ∧ RpL F ds vs ∧ Out PV K r F H (f ds w) Q
def spR (K : PySem.W.Frag) (n : Nat) (f : List D → M D) : Sp := fun vs H Q _ => vs.length = n + 1 ∧ ∃ a t us F ds w, vs = .ref a :: us ∧ Sub F H ∧ RowOk K (some (a, t)) F H w ∧ RpL F ds us ∧ Out PV K (some (a, t)) F H (f ds w) Q
structure CallOk (P : Program) (w : World) (K : PySem.W.Frag) (mg : Str → Option Value) (base : Heap) (k : Nat) (x : Str) (sp : Sp) : Prop where
  ok : ∃ fa fd ps, FnOk P w K mg base CX0 k fa fd ps sp ∧ mg x = some (.ref fa) ∧ PySem.W.keepIn K (.ref fa) = true ∧ Binds K fd ps []
theorem s_call {k n : Nat} {x : Str} {g : List D → M D} (F : CallOk X.prog X.w X.K X.mg X.base k x (spD X.K n g)) (hr : Room k X.A) (hg : Gl X x) (hdb : (x == ("__debug__" : Str)) = false) (ha : DA X (a :: es) fa)
    (he : starEach (a :: es) X.env = (false, eval a X.env) :: starEach es X.env) (hpl : (backTo pos (starEach es X.env)).any (·.1) = false) :
    DE X (.Call (.Name x p) (a :: es) [] pos) (fun ρ => bnd (fa ρ) fun xs => if (listOf xs).length = n then g (listOf xs) else bad) := by
  obtain ⟨f0, fd, ps, F, hm, hk, hb⟩ := F.ok
  refine PE_imp (pe_call F hr hg hm hk hb .nil pass0 ha hdb he hpl) fun σ H Q ⟨rr, F, ρ, w, s, o⟩ => ⟨rr, F, ρ, w, s, (Out.bind (P := PL) o).mono fun vs H1 ⟨F1, d, w1, n1, p1, o1⟩ => ?_⟩
  obtain ⟨hc, o1⟩ := ite_out o1
  rw [List.append_nil]
  exact ⟨by rw [← p1.length]; exact hc, rr, F1, listOf d, w1, n1.inn, n1.row, p1, o1⟩
theorem s_callR {k n i : Nat} {x rv : Str} {g : List D → M D} {pr : Pos} (F : CallOk X.prog X.w X.K X.mg X.base k x (spR X.K n g)) (hr : Room k X.A) (hg : Gl X x) (hdb : (x == ("__debug__" : Str)) = false)
    (hN : X.N[i]? = some rv) (hv : Vis X.env.scope rv) (hd : (rv == ("__debug__" : Str)) = false) (hcd : (rv == ("__classdict__" : Str)) = false) (ha : DA X es fa) (hpl : (backTo pos (starEach es X.env)).any (·.1) = false) :
    DE X (.Call (.Name x p) (.Name rv pr :: es) [] pos) (fun ρ => match ρ[i]? with | some .row => bnd (fa ρ) fun xs => if (listOf xs).length = n then g (listOf xs) else bad | _ => bad) := by
  obtain ⟨f0, fd, ps, F, hm, hk, hb⟩ := F.ok
  refine PE_imp (pe_call F hr hg hm hk hb .nil pass0 (pa_cons (pe_var hN hv hd hcd) ha) hdb (by rfl) hpl) fun σ H Q ⟨rr, F, ρ, w, s, o⟩ => ?_
  dsimp only at o
  cases e : ρ[i]? with
  | none => rw [e] at o; exact o.elim
  | some z =>
   rw [e] at o
   cases z with
   | row =>
    obtain ⟨ra, e1, e2⟩ := s.rw i e
    refine ⟨.ref ra, e2, rr, F, ρ, w, s, (Out.bind (P := PL) o).mono fun vs H1 ⟨F1, d, w1, n1, p1, o1⟩ => ?_⟩
    obtain ⟨hc, o1⟩ := ite_out o1
    rw [List.append_nil]
    obtain ⟨⟨ra', t⟩, rfl⟩ : ∃ z, rr = some z := by
      cases rr with
      | none => cases e1
      | some z => exact ⟨z, rfl⟩
    cases (show some ra' = some ra from e1)
    exact ⟨by rw [List.length_cons, ← p1.length, hc], ra, t, vs, F1, listOf d, w1, rfl, n1.inn, n1.row, p1, o1⟩
   | _ => exact o.elim
/-! ### built-ins -/
def VR1 (K : PySem.W.Frag) (r : List V → Hp → VK → Prop) (g : D → M D) : Prop := ∀ {rr : Rw} {F H H0 : Hp} {w : W} {x : V} {a : D} {Q : VK}, Sub F H → RowOk K rr F H w → PSr rr H0 F H a x → Out PV K rr F H (g a w) Q → r [x] H Q
theorem one_of {r : List V → Hp → VK → Prop} {g : D → M D} (v : VR1 X.K r g) : ∀ σ H Q, tOut PV X.K (fun ρ => bnd (fa ρ) g) σ H Q → tCB r (tCons (tOut PSr X.K fa) tNil) σ H Q := fun σ H Q ⟨rr, F, ρ, w, s, o⟩ =>
  ⟨rr, F, ρ, w, s, (Out.bind (P := PSr) o).mono fun x H1 ⟨F1, d, w1, n1, p1, o1⟩ => v n1.inn n1.row p1 o1⟩
theorem s_b1B {id : String} {x : Str} {r : List V → Hp → VK → Prop} {g : D → M D} (hc : CallR X (.builtin id) r) (v : VR1 X.K r g) (hg : Gl X x) (hm : X.mg x = none) (hv : bootBuiltins x = some (.builtin id)) (hn : x ≠ "__name__") (hdb : (x == ("__debug__" : Str)) = false)
    (hs : starEach [a] X.env = (false, eval a X.env) :: starEach [] X.env) (ha : DS X a fa) : DE X (.Call (.Name x p) [a] [] pos) (fun ρ => bnd (fa ρ) g) :=
  PE_imp (pe_callB hc hg hm hv (pa_cons ha pa_nil hs) hn hdb hs) (one_of v)
theorem s_b1T {id : String} {x : Str} {r : List V → Hp → VK → Prop} {g : D → M D} (hc : CallR X (.type id) r) (v : VR1 X.K r g) (hg : Gl X x) (hm : X.mg x = none) (hv : bootBuiltins x = some (.type id)) (hn : x ≠ "__name__") (hdb : (x == ("__debug__" : Str)) = false)
    (hs : starEach [a] X.env = (false, eval a X.env) :: starEach [] X.env) (ha : DS X a fa) : DE X (.Call (.Name x p) [a] [] pos) (fun ρ => bnd (fa ρ) g) :=
  PE_imp (pe_callTy hc hg hm hv (pa_cons ha pa_nil hs) hn hdb hs) (one_of v)
section
variable {K : PySem.W.Frag}
theorem v_len : VR1 K (fun xs H Q => (∃ p ys, xs = [.ref p] ∧ (SqL K H p ys ∨ SqT K H p ys) ∧ Q (.int ys.length) H) ∨ (∃ z, xs = [.str z] ∧ z.length ≤ sizeLine ∧ Q (.int z.length) H)) (b1D .len) := fun {rr F H H0 w x a Q} s k p o => by
  rcases p.seq (K := K) s with ⟨q, vs, ds, rfl, rfl, sq, l, z⟩ | ⟨q, vs, ds, rfl, rfl, sq, l, pp, z⟩ | ⟨kk, p⟩
  · exact .inl ⟨q, vs, rfl, .inl sq, fin s k o (by rw [← l.length]; rfl)⟩
  · exact .inl ⟨q, vs, rfl, .inr sq, fin s k o (by rw [← l.length]; rfl)⟩
  · cases a <;> first | exact o.elim | skip
    · obtain ⟨hc, o⟩ := ite_out o
      exact .inr ⟨_, by rw [show x = .str _ from p], hc, fin s k o rfl⟩
    · cases kk
    · cases kk
theorem v_tuple : VR1 K (fun xs H Q => ∃ p ys, xs = [.ref p] ∧ ((SqL K H p ys ∧ ∀ l, H l = none → Q (.ref l) (upd H l (.tup ys))) ∨ (SqT K H p ys ∧ Q (.ref p) H))) (b1D .tuple) := fun {rr F H H0 w x a Q} s k p o => by
  rcases p.seq (K := K) s with ⟨q, vs, ds, rfl, rfl, sq, l, z⟩ | ⟨q, vs, ds, rfl, rfl, sq, l, pp, z⟩ | ⟨kk, p⟩
  · exact ⟨q, vs, rfl, .inl ⟨sq, fun p hp => finT s k o hp z l⟩⟩
  · exact ⟨q, vs, rfl, .inr ⟨sq, fin s k o pp⟩⟩
  · cases a <;> first | exact o.elim | cases kk
theorem v_sum : VR1 K (rSum K) (b1D .sum) := fun {rr F H H0 w x a Q} s k p o => by
  rcases p.seq (K := K) s with ⟨q, vs, ds, rfl, rfl, sq, l, z⟩ | ⟨q, vs, ds, rfl, rfl, sq, l, pp, z⟩ | ⟨kk, p⟩
  · cases e : intsOf ds with
    | none => rw [show b1D .sum (.list ds) = (match intsOf ds with | some ns => ret (.int ns.sum) | none => bad) from rfl, e] at o; exact o.elim
    | some ns =>
      rw [show b1D .sum (.list ds) = (match intsOf ds with | some ns => ret (.int ns.sum) | none => bad) from rfl, e] at o
      obtain ⟨rfl, _⟩ := intsOf_eq l e
      exact ⟨q, ns, rfl, sq, fin s k o rfl⟩
  · exact o.elim
  · cases a <;> first | exact o.elim | cases kk
theorem maxI_spec : ∀ (ns : List Int) (x : Int), (ns.foldl (fun a b => if b > a then b else a) x) ∈ x :: ns ∧ ∀ y ∈ x :: ns, y ≤ ns.foldl (fun a b => if b > a then b else a) x
  | [], x => by simp
  | n :: ns, x => by
    obtain ⟨h1, h2⟩ := maxI_spec ns (if n > x then n else x)
    rw [List.foldl_cons]
    refine ⟨?_, fun y hy => ?_⟩
    · rcases List.mem_cons.mp h1 with e | m
      · rw [e]; split <;> simp
      · simp [m]
    · have hz := h2 _ List.mem_cons_self
      rcases List.mem_cons.mp hy with rfl | hy
      · exact Int.le_trans (by split <;> omega) hz
      · rcases List.mem_cons.mp hy with rfl | hy
        · exact Int.le_trans (by split <;> omega) hz
        · exact h2 y (List.mem_cons_of_mem _ hy)
theorem minI_spec : ∀ (ns : List Int) (x : Int), (ns.foldl (fun a b => if b < a then b else a) x) ∈ x :: ns ∧ ∀ y ∈ x :: ns, ns.foldl (fun a b => if b < a then b else a) x ≤ y
  | [], x => by simp
  | n :: ns, x => by
    obtain ⟨h1, h2⟩ := minI_spec ns (if n < x then n else x)
    rw [List.foldl_cons]
    refine ⟨?_, fun y hy => ?_⟩
    · rcases List.mem_cons.mp h1 with e | m
      · rw [e]; split <;> simp
      · simp [m]
    · have hz := h2 _ List.mem_cons_self
      rcases List.mem_cons.mp hy with rfl | hy
      · exact Int.le_trans hz (by split <;> omega)
      · rcases List.mem_cons.mp hy with rfl | hy
        · exact Int.le_trans hz (by split <;> omega)
        · exact h2 y (List.mem_cons_of_mem _ hy)
theorem v_max : VR1 K (rMax K) (b1D .max) := fun {rr F H H0 w x a Q} s k p o => by
  rcases p.seq (K := K) s with ⟨q, vs, ds, rfl, rfl, sq, l, z⟩ | ⟨q, vs, ds, rfl, rfl, sq, l, pp, z⟩ | ⟨kk, p⟩
  · rw [show b1D .max (.list ds) = (match intsOf ds with | some (n :: ns) => ret (.int (maxI (n :: ns))) | _ => bad) from rfl] at o
    cases e : intsOf ds with
    | none => rw [e] at o; exact o.elim
    | some ns =>
      rw [e] at o
      cases ns with
      | nil => exact o.elim
      | cons n ns =>
        obtain ⟨rfl, _⟩ := intsOf_eq l e
        refine ⟨q, n :: ns, rfl, sq, by simp, fun m hm hy => ?_⟩
        obtain ⟨h1, h2⟩ := maxI_spec ns n
        have e : m = maxI (n :: ns) := Int.le_antisymm (h2 m hm) (hy _ h1)
        rw [e]
        exact fin s k o rfl
  · exact o.elim
  · cases a <;> first | exact o.elim | cases kk
theorem v_min : VR1 K (rMin K) (b1D .min) := fun {rr F H H0 w x a Q} s k p o => by
  rcases p.seq (K := K) s with ⟨q, vs, ds, rfl, rfl, sq, l, z⟩ | ⟨q, vs, ds, rfl, rfl, sq, l, pp, z⟩ | ⟨kk, p⟩
  · rw [show b1D .min (.list ds) = (match intsOf ds with | some (n :: ns) => ret (.int (minI (n :: ns))) | _ => bad) from rfl] at o
    cases e : intsOf ds with
    | none => rw [e] at o; exact o.elim
    | some ns =>
      rw [e] at o
      cases ns with
      | nil => exact o.elim
      | cons n ns =>
        obtain ⟨rfl, _⟩ := intsOf_eq l e
        refine ⟨q, n :: ns, rfl, sq, by simp, fun m hm hy => ?_⟩
        obtain ⟨h1, h2⟩ := minI_spec ns n
        have e : m = minI (n :: ns) := Int.le_antisymm (hy _ h1) (h2 m hm)
        rw [e]
        exact fin s k o rfl
  · exact o.elim
  · cases a <;> first | exact o.elim | cases kk
theorem v_abs : VR1 K (fun xs H Q => ∃ i, xs = [.int i] ∧ Q (.int (if i < 0 then -i else i)) H) (b1D .abs) := fun {rr F H H0 w x a Q} s k p o => by
  rcases p.seq (K := K) s with ⟨q, vs, ds, rfl, rfl, sq, l, z⟩ | ⟨q, vs, ds, rfl, rfl, sq, l, pp, z⟩ | ⟨kk, p⟩
  · exact o.elim
  · exact o.elim
  · cases a <;> first | exact o.elim | cases kk
    exact ⟨_, by rw [show x = .int _ from p], fin s k o rfl⟩
theorem v_int : VR1 K (fun xs H Q => (∃ i, xs = [.int i] ∧ Q (.int i) H) ∨ ∃ k, xs = [.bl k] ∧ Q (.int (if k then 1 else 0)) H) (b1D .int) := fun {rr F H H0 w x a Q} s k p o => by
  rcases p.seq (K := K) s with ⟨q, vs, ds, rfl, rfl, sq, l, z⟩ | ⟨q, vs, ds, rfl, rfl, sq, l, pp, z⟩ | ⟨kk, p⟩
  · exact o.elim
  · exact o.elim
  · cases a <;> first | exact o.elim | cases kk
    exact .inl ⟨_, by rw [show x = .int _ from p], fin s k o rfl⟩
theorem v_str : VR1 K (fun xs H Q => ∃ i, xs = [.int i] ∧ i.natAbs.log2 < 1920 ∧ Q (.str (toString i)) H) (b1D .str) := fun {rr F H H0 w x a Q} s k p o => by
  rcases p.seq (K := K) s with ⟨q, vs, ds, rfl, rfl, sq, l, z⟩ | ⟨q, vs, ds, rfl, rfl, sq, l, pp, z⟩ | ⟨kk, p⟩
  · exact o.elim
  · exact o.elim
  · cases a <;> first | exact o.elim | cases kk
    obtain ⟨hc, o⟩ := ite_out o
    exact ⟨_, by rw [show x = .int _ from p], hc, fin s k o rfl⟩
theorem v_any : VR1 K (rAny K) (b1D .any) := fun {rr F H H0 w x a Q} s k p o => by
  rcases p.seq (K := K) s with ⟨q, vs, ds, rfl, rfl, sq, l, z⟩ | ⟨q, vs, ds, rfl, rfl, sq, l, pp, z⟩ | ⟨kk, p⟩
  · rw [show b1D .any (.list ds) = (match boolsOf ds with | some bs => ret (.bool (bs.any id)) | none => bad) from rfl] at o
    cases e : boolsOf ds with
    | none => rw [e] at o; exact o.elim
    | some bs =>
      rw [e] at o
      cases boolsOf_eq l e
      exact ⟨q, bs, rfl, sq, fin s k o rfl⟩
  · exact o.elim
  · cases a <;> first | exact o.elim | cases kk
theorem v_all : VR1 K (rAll K) (b1D .all) := fun {rr F H H0 w x a Q} s k p o => by
  rcases p.seq (K := K) s with ⟨q, vs, ds, rfl, rfl, sq, l, z⟩ | ⟨q, vs, ds, rfl, rfl, sq, l, pp, z⟩ | ⟨kk, p⟩
  · rw [show b1D .all (.list ds) = (match boolsOf ds with | some bs => ret (.bool (bs.all id)) | none => bad) from rfl] at o
    cases e : boolsOf ds with
    | none => rw [e] at o; exact o.elim
    | some bs =>
      rw [e] at o
      cases boolsOf_eq l e
      exact ⟨q, bs, rfl, sq, fin s k o rfl⟩
  · exact o.elim
  · cases a <;> first | exact o.elim | cases kk
end
/-- list(..): a new list -/
theorem f_listOf {x : Str} (hg : Gl X x) (hm : X.mg x = none) (hv : bootBuiltins x = some (.type "list")) (hn : x ≠ "__name__") (hdb : (x == ("__debug__" : Str)) = false)
    (hs : starEach [a] X.env = (false, eval a X.env) :: starEach [] X.env) (ha : DS X a fa) : DF X (.Call (.Name x p) [a] [] pos) (fun ρ => bnd (fa ρ) (b1D .list)) :=
  PE_imp (pe_callTy call_list_of hg hm hv (pa_cons ha pa_nil hs) hn hdb hs) fun σ H Q ⟨rr, F, ρ, w, s, o⟩ => ⟨rr, F, ρ, w, s, (Out.bind (P := PSr) (P' := PF) o).mono fun x H1 ⟨F1, d, w1, n1, p1, o1⟩ => by
    have go : ∀ (q : Addr) (vs : List V) (l : List D), RpL F1 l vs → l.length ≤ sizeLine → Out PF X.K rr F1 H1 (.ok (.list l) w1) Q → ∀ p, H1 p = none → Q (.ref p) (upd H1 p (.lst vs)) := fun q vs l r z o p hp => by
      have n := Nx.fresh (K := X.K) (r := rr) (w := w1) (o := .lst vs) n1.inn n1.row hp
      refine o _ F1 _ n ⟨p, vs, l, rfl, rfl, upd_same, r, ?_, hp, fun e => ?_, z⟩
      · cases q : F1 p with
        | none => rfl
        | some o => rw [n1.inn p o q] at hp; cases hp
      · obtain ⟨o, q⟩ := n1.row.there e
        rw [q] at hp; cases hp
    rcases p1.seq (K := X.K) n1.inn with ⟨q, vs, ds, rfl, rfl, sq, l, z⟩ | ⟨q, vs, ds, rfl, rfl, sq, l, pp, z⟩ | ⟨kk, p⟩
    · exact ⟨q, vs, rfl, .inl sq, go q vs ds l z o1⟩
    · exact ⟨q, vs, rfl, .inr sq, go q vs ds l z o1⟩
    · cases d <;> first | exact o1.elim | cases kk⟩
/-- max, min of two -/
def VRb (K : PySem.W.Frag) (r : List V → Hp → VK → Prop) (g : D → D → M D) : Prop := ∀ {rr : Rw} {F H : Hp} {w : W} {x y : V} {a b : D} {Q : VK}, Sub F H → RowOk K rr F H w → Rp F a x → Rp F b y → Out PV K rr F H (g a b w) Q → r [x, y] H Q
theorem s_b2 {id : String} {x : Str} {r : List V → Hp → VK → Prop} {g : D → D → M D} (hc : CallR X (.builtin id) r) (v : VRb X.K r g) (hg : Gl X x) (hm : X.mg x = none) (hv : bootBuiltins x = some (.builtin id)) (hn : x ≠ "__name__") (hdb : (x == ("__debug__" : Str)) = false)
    (hs : starEach [a, b] X.env = (false, eval a X.env) :: starEach [b] X.env) (hs2 : starEach [b] X.env = (false, eval b X.env) :: starEach [] X.env) (hpl : (backTo pos (starEach [b] X.env)).any (·.1) = false) (ha : DE X a fa) (hb : DE X b fb) :
    DE X (.Call (.Name x p) [a, b] [] pos) (fun ρ => bnd (fa ρ) fun x => bnd (fb ρ) fun y => g x y) :=
  PE_imp (pe_callB hc hg hm hv (pa_cons ha (pa_cons hb pa_nil hs2) hs) hn hdb hs hpl) fun σ H Q ⟨rr, F, ρ, w, s, o⟩ => ⟨rr, F, ρ, w, s, (Out.bind (P := PV) o).mono fun x H1 ⟨F1, d, w1, n1, p1, o1⟩ =>
    ⟨rr, F1, ρ, w1, s.nx n1, (Out.bind (P := PV) o1).mono fun y H2 ⟨F2, u, w2, n2, p2, o2⟩ => v n2.inn n2.row (Rp.mono n2.sub _ _ p1) p2 o2⟩⟩
theorem v_max2 {K : PySem.W.Frag} : VRb K (fun xs H Q => ∃ i j, xs = [.int i, .int j] ∧ Q (.int (if j > i then j else i)) H) (b2D .max2) := fun {rr F H w x y a b Q} s k p q o => by
  cases a <;> cases b <;> first | exact o.elim | skip
  exact ⟨_, _, by rw [show x = .int _ from p, show y = .int _ from q], fin s k o rfl⟩
theorem v_min2 {K : PySem.W.Frag} : VRb K (fun xs H Q => ∃ i j, xs = [.int i, .int j] ∧ Q (.int (if j < i then j else i)) H) (b2D .min2) := fun {rr F H w x y a b Q} s k p q o => by
  cases a <;> cases b <;> first | exact o.elim | skip
  exact ⟨_, _, by rw [show x = .int _ from p, show y = .int _ from q], fin s k o rfl⟩
/-! ### isinstance -/
theorem tyx_of {K : PySem.W.Frag} {F H : Hp} {d : D} {v : V} (s : Sub F H) (p : Rp F d v) : ∃ t, TyX K H v (.type t) ∧ ∀ c : Cl, PySem.W.kitOne K (.type t) (.type c.name) = some (isIn d c) := by
  cases d with
  | none => rw [show v = .non from p]; exact ⟨_, .base .non, fun c => kit_ty (by cases c <;> first | (show kitB _ _ = some true; decide +kernel) | (show kitB _ _ = some false; decide +kernel))⟩
  | bool b => rw [show v = .bl b from p]; exact ⟨_, .base (.bl b), fun c => kit_ty (by cases c <;> first | (show kitB _ _ = some true; decide +kernel) | (show kitB _ _ = some false; decide +kernel))⟩
  | int i => rw [show v = .int i from p]; exact ⟨_, .base (.int i), fun c => kit_ty (by cases c <;> first | (show kitB _ _ = some true; decide +kernel) | (show kitB _ _ = some false; decide +kernel))⟩
  | str x => rw [show v = .str x from p]; exact ⟨_, .base (.str x), fun c => kit_ty (by cases c <;> first | (show kitB _ _ = some true; decide +kernel) | (show kitB _ _ = some false; decide +kernel))⟩
  | list ds => obtain ⟨_, a, vs, rfl, h, _⟩ := p.lst; exact ⟨_, .base (.lst (s _ _ h)), fun c => kit_ty (by cases c <;> first | (show kitB _ _ = some true; decide +kernel) | (show kitB _ _ = some false; decide +kernel))⟩
  | tuple ds => obtain ⟨_, a, vs, rfl, h, _⟩ := p.tup; exact ⟨_, .base (.tup (s _ _ h)), fun c => kit_ty (by cases c <;> first | (show kitB _ _ = some true; decide +kernel) | (show kitB _ _ = some false; decide +kernel))⟩
  | dict _ => exact p.elim
theorem one_pv {r : List V → Hp → VK → Prop} {te : TE} (hte : ∀ σ H Q, tOut PV X.K fa σ H Q → te σ H Q) {g : D → M D} {y : V} (v : ∀ {rr : Rw} {F H : Hp} {w : W} {x : V} {a : D} {Q : VK}, Sub F H → RowOk X.K rr F H w → Rp F a x → Out PV X.K rr F H (g a w) Q → r [x, y] H Q) :
    ∀ σ H Q, tOut PV X.K (fun ρ => bnd (fa ρ) g) σ H Q → tCB r (tCons te (tCons (tC y) tNil)) σ H Q := fun σ H Q ⟨rr, F, ρ, w, s, o⟩ =>
  hte σ H _ ⟨rr, F, ρ, w, s, (Out.bind (P := PV) o).mono fun x H1 ⟨F1, d, w1, n1, p1, o1⟩ => v n1.inn n1.row p1 o1⟩
theorem s_isI {cl : Cl} {x cn : Str} {pc : Pos} (hg : Gl X x) (hm : X.mg x = none) (hv : bootBuiltins x = some (.builtin "isinstance")) (hn : x ≠ "__name__") (hdb : (x == ("__debug__" : Str)) = false)
    (hgc : Gl X cn) (hmc : X.mg cn = none) (hvc : bootBuiltins cn = some (.type cl.name)) (hnc : cn ≠ "__name__") (hdc : (cn == ("__debug__" : Str)) = false)
    (hs : starEach [a, .Name cn pc] X.env = (false, eval a X.env) :: starEach [.Name cn pc] X.env) (ha : DE X a fa) : DE X (.Call (.Name x p) [a, .Name cn pc] [] pos) (fun ρ => bnd (fa ρ) fun d => ret (.bool (isIn d cl))) :=
  PE_imp (pe_callB call_isi hg hm hv (pa_cons ha (pa_cons (pe_bltn (v := .ty cl.name) hgc hmc hvc rfl hnc hdc) pa_nil) hs) hn hdb hs) (one_pv (fun _ _ _ h => h) fun {rr F H w x a Q} s k p o => by
    obtain ⟨t, h1, h2⟩ := tyx_of (K := X.K) s p
    exact ⟨x, _, _, _, _, rfl, .ty _, h1, h2 cl, fin s k o rfl⟩)
theorem s_isTL {x ct cl : Str} {pt p1 p2 : Pos} {kk : Nat} (hg : Gl X x) (hm : X.mg x = none) (hv : bootBuiltins x = some (.builtin "isinstance")) (hn : x ≠ "__name__") (hdb : (x == ("__debug__" : Str)) = false)
    (hgc : Gl X ct) (hmc : X.mg ct = none) (hvc : bootBuiltins ct = some (.type "tuple")) (hnc : ct ≠ "__name__") (hdc : (ct == ("__debug__" : Str)) = false)
    (hgl : Gl X cl) (hml : X.mg cl = none) (hvl : bootBuiltins cl = some (.type "list")) (hnl : cl ≠ "__name__") (hdl : (cl == ("__debug__" : Str)) = false)
    (hs : starEach [a, .Tuple [.Name ct p1, .Name cl p2] kk pt] X.env = (false, eval a X.env) :: starEach [.Tuple [.Name ct p1, .Name cl p2] kk pt] X.env) (ha : DE X a fa) :
    DE X (.Call (.Name x p) [a, .Tuple [.Name ct p1, .Name cl p2] kk pt] [] pos) (fun ρ => bnd (fa ρ) fun d => ret (.bool (isIn d .tup || isIn d .lst))) :=
  PE_imp (pe_callB call_isiT hg hm hv (pa_cons ha (pa_cons (pe_tup (pa_cons (pe_bltn (v := .ty "tuple") hgc hmc hvc rfl hnc hdc) (pa_cons (pe_bltn (v := .ty "list") hgl hml hvl rfl hnl hdl) pa_nil))) pa_nil) hs) hn hdb hs) fun σ H Q ⟨rr, F, ρ, w, s, o⟩ =>
    ⟨rr, F, ρ, w, s, (Out.bind (P := PV) o).mono fun x H1 ⟨F1, d, w1, n1, p1, o1⟩ => by
      refine ⟨by show 2 ≤ sizeLine; decide, fun p hp => ?_⟩
      have n2 := Nx.fresh (K := X.K) (r := rr) (w := w1) (o := .tup [.ty "tuple", .ty "list"]) n1.inn n1.row hp
      obtain ⟨t, h1, h2⟩ := tyx_of (K := X.K) n2.inn p1
      refine ⟨x, p, _, _, [.type "tuple", .type "list"], (isIn d .tup || isIn d .lst), rfl, upd_same, .cons (.ty _) (.cons (.ty _) .nil), h1, ?_, o1 _ F1 _ n2 rfl⟩
      refine kitAny_cons (h2 .tup) (fun e => ?_) (fun e => by rw [e]; rfl)
      refine kitAny_cons (h2 .lst) (fun e' => ?_) (fun e' => by rw [e']; cases isIn d .tup <;> rfl)
      rw [e, e']; rfl⟩
end
end Dn
namespace Dn
open PySem PySem.Spec PyProof.Rows L2
set_option autoImplicit true
section
variable {X : Cx} {e a b c it tgt : Expr} {es rest : List Expr} {f fa fb fc fs : Ev → M D} {fl : Ev → M (List D)} {ft : Ev → M Bool} {pos p p2 tpos : Pos} {K : PySem.W.Frag} {r : Rw} {F H : Hp} {ρ ρ' : Ev} {σ σ' : L2.St} {w : W} {i : Nat} {d : D} {v : V}
/-! ### stores -/
theorem get_set {α : Type} {l : List α} {i j : Nat} {x y : α} (h : (l.set i x)[j]? = some y) : (j = i ∧ x = y) ∨ (j ≠ i ∧ l[j]? = some y) := by
  by_cases e : j = i
  · subst e
    by_cases hl : j < l.length
    · rw [List.getElem?_set_self hl] at h; exact .inl ⟨rfl, Option.some.inj h⟩
    · rw [List.getElem?_eq_none (by rw [List.length_set]; omega)] at h; cases h
  · rw [List.getElem?_set_ne (Ne.symm e)] at h
    exact .inr ⟨e, h⟩
theorem lt_of_set {α : Type} {l : List α} {i : Nat} {x y : α} (h : (l.set i x)[i]? = some y) : i < l.length := by
  have := (List.getElem?_eq_some_iff.mp h).1
  rwa [List.length_set] at this
theorem Sx.setV (s : Sx K r F H ρ σ w) (p : Rp F d v) : Sx K r F H (ρ.set i (.val d)) (σ.set i (some v)) w where
  sub := s.sub
  row := s.row
  len := by rw [List.length_set, List.length_set]; exact s.len
  val := fun j u e => by
    rcases get_set e with ⟨rfl, z⟩ | ⟨ne, z⟩
    · cases z
      exact ⟨v, by rw [List.getElem?_set_self (by rw [← s.len]; exact lt_of_set e)], p⟩
    · obtain ⟨u, h1, h2⟩ := s.val j u z
      exact ⟨u, by rw [List.getElem?_set_ne (Ne.symm ne)]; exact h1, h2⟩
  own := fun j l e => by
    rcases get_set e with ⟨rfl, z⟩ | ⟨ne, z⟩
    · cases z
    · obtain ⟨p, vs, h1, h2⟩ := s.own j l z
      exact ⟨p, vs, by rw [List.getElem?_set_ne (Ne.symm ne)]; exact h1, h2⟩
  rw := fun j e => by
    rcases get_set e with ⟨rfl, z⟩ | ⟨ne, z⟩
    · cases z
    · obtain ⟨p, h1, h2⟩ := s.rw j z
      exact ⟨p, h1, by rw [List.getElem?_set_ne (Ne.symm ne)]; exact h2⟩
  inj := fun j k l m p e1 e2 e3 e4 => by
    rcases get_set e1 with ⟨rfl, z⟩ | ⟨n1, z1⟩
    · cases z
    · rcases get_set e2 with ⟨rfl, z⟩ | ⟨n2, z2⟩
      · cases z
      · rw [List.getElem?_set_ne (Ne.symm n1)] at e3
        rw [List.getElem?_set_ne (Ne.symm n2)] at e4
        exact s.inj j k l m p z1 z2 e3 e4
theorem Sx.wipe (s : Sx K r F H ρ σ w) : ∀ vs : List Nat, Sx K r F H (wipeE ρ vs) (L2.wipe σ vs) w
  | [] => s
  | i :: vs => by
    have s := Sx.wipe s vs
    show Sx K r F H ((wipeE ρ vs).set i .no) ((L2.wipe σ vs).set i none) w
    generalize wipeE ρ vs = ρ at s
    generalize L2.wipe σ vs = σ at s
    refine ⟨s.sub, s.row, by rw [List.length_set, List.length_set]; exact s.len, fun j u e => ?_, fun j l e => ?_, fun j e => ?_, fun j k l m p e1 e2 e3 e4 => ?_⟩
    · rcases get_set e with ⟨rfl, z⟩ | ⟨ne, z⟩
      · cases z
      · obtain ⟨u, h1, h2⟩ := s.val j u z
        exact ⟨u, by rw [List.getElem?_set_ne (Ne.symm ne)]; exact h1, h2⟩
    · rcases get_set e with ⟨rfl, z⟩ | ⟨ne, z⟩
      · cases z
      · obtain ⟨p, vs, h1, h2⟩ := s.own j l z
        exact ⟨p, vs, by rw [List.getElem?_set_ne (Ne.symm ne)]; exact h1, h2⟩
    · rcases get_set e with ⟨rfl, z⟩ | ⟨ne, z⟩
      · cases z
      · obtain ⟨p, h1, h2⟩ := s.rw j z
        exact ⟨p, h1, by rw [List.getElem?_set_ne (Ne.symm ne)]; exact h2⟩
    · rcases get_set e1 with ⟨rfl, z⟩ | ⟨n1, z1⟩
      · cases z
      · rcases get_set e2 with ⟨rfl, z⟩ | ⟨n2, z2⟩
        · cases z
        · rw [List.getElem?_set_ne (Ne.symm n1)] at e3
          rw [List.getElem?_set_ne (Ne.symm n2)] at e4
          exact s.inj j k l m p z1 z2 e3 e4
/-! ### targets -/
def Off (vs : List Nat) (σ σ' : L2.St) : Prop := σ'.length = σ.length ∧ ∀ i, i ∉ vs → σ'[i]? = σ[i]?
theorem wipe_get {σ : L2.St} {i : Nat} : ∀ {vs : List Nat}, (L2.wipe σ vs)[i]? = if i ∈ vs ∧ i < σ.length then some none else σ[i]?
  | [] => by simp [L2.wipe]
  | v :: vs => by
    unfold L2.wipe
    by_cases e : i = v
    · subst e
      by_cases h : i < σ.length
      · rw [List.getElem?_set_self (by rw [L2.wipe_length]; exact h), if_pos ⟨by simp, h⟩]
      · rw [if_neg (fun z => h z.2), List.getElem?_eq_none (by rw [List.length_set, L2.wipe_length]; omega), List.getElem?_eq_none (by omega)]
    · rw [List.getElem?_set_ne (Ne.symm e), wipe_get]
      simp [e]
theorem Off.wipe {vs : List Nat} (h : Off vs σ σ') : L2.wipe σ' vs = L2.wipe σ vs := by
  apply List.ext_getElem?
  intro i
  rw [wipe_get, wipe_get, h.1]
  by_cases m : i ∈ vs
  · by_cases l : i < σ.length
    · rw [if_pos ⟨m, l⟩, if_pos ⟨m, l⟩]
    · rw [if_neg (fun z => l z.2), if_neg (fun z => l z.2), List.getElem?_eq_none (by rw [h.1]; omega), List.getElem?_eq_none (by omega)]
  · rw [if_neg (fun z => m z.1), if_neg (fun z => m z.1), h.2 i m]
def tG (K : PySem.W.Frag) (t : Tg) : TG := fun v σ H Q => ∃ r F ρ w d ρ', Sx K r F H ρ σ w ∧ Rp F d v ∧ bindT t d ρ = some ρ' ∧ ∀ σ', Sx K r F H ρ' σ' w → Off t.slots σ σ' → Q σ' H
def tGs (K : PySem.W.Frag) (t : Tg) : TGs := fun vs σ H Q => ∃ r F ρ w ds ρ', Sx K r F H ρ σ w ∧ RpL F ds vs ∧ bindT t (.list ds) ρ = some ρ' ∧ ∀ σ', Sx K r F H ρ' σ' w → Off t.slots σ σ' → Q σ' H
theorem PG_imp {t t' : TG} (h : PG X e t) (i : ∀ v σ H Q, t' v σ H Q → t v σ H Q) : PG X e t' := ⟨fun pins s σ H v u Q I r q => h.run pins s σ H v u Q I r (i v σ H Q q)⟩
theorem PGs_imp {t t' : TGs} (h : PGs X es t) (i : ∀ v σ H Q, t' v σ H Q → t v σ H Q) : PGs X es t' := ⟨fun pins s σ H v u Q I r q => h.run pins s σ H v u Q I r (i v σ H Q q)⟩
theorem g_nm {x : Str} (hN : X.N.Nodup) (hi : X.N[i]? = some x) (hx : Loc X.env.scope x) (hf : X.fn x = true ∨ X.env.scope.names.lookup x = some .local) : PG X (.Name x pos) (tG X.K (.nm i)) :=
  PG_imp (pg_name hN hi hx hf) fun v σ H Q ⟨r, F, ρ, w, d, ρ', s, p, e, q⟩ => by
    cases (show some (ρ.set i (.val d)) = some ρ' from e)
    exact q _ (s.setV p) ⟨by rw [List.length_set], fun j hj => List.getElem?_set_ne (fun z => hj (by rw [z]; simp [Tg.slots]))⟩
theorem gs_nil : PGs X [] (tGs X.K .tnil) := PGs_imp pgs_nil fun vs σ H Q ⟨r, F, ρ, w, ds, ρ', s, p, e, q⟩ => by
  cases ds with
  | cons d ds => cases e
  | nil =>
    cases (show some ρ = some ρ' from e)
    exact ⟨p, q _ s ⟨rfl, fun _ _ => rfl⟩⟩
theorem gs_cons {t u : Tg} (h1 : PG X e (tG X.K t)) (h2 : PGs X es (tGs X.K u)) (hs : (assignEach (e :: es) X.env).map (·.2) = assign e X.env :: (assignEach es X.env).map (·.2)) : PGs X (e :: es) (tGs X.K (.tcons t u)) :=
  PGs_imp (pgs_cons h1 h2 hs) fun vs σ H Q ⟨r, F, ρ, w, ds, ρ', s, p, e, q⟩ => by
    cases ds with
    | nil => cases e
    | cons d ds =>
      obtain ⟨v, vr, rfl, p1, p2⟩ := p
      rw [show bindT (.tcons t u) (.list (d :: ds)) ρ = (match bindT t d ρ with | some ρ' => bindT u (.list ds) ρ' | none => none) from rfl] at e
      cases k : bindT t d ρ with
      | none => rw [k] at e; cases e
      | some ρ1 =>
        rw [k] at e
        refine ⟨v, vr, rfl, r, F, ρ, w, d, ρ1, s, p1, k, fun σ1 s1 o1 => ⟨r, F, ρ1, w, ds, ρ', s1, p2, e, fun σ2 s2 o2 => q _ s2 ⟨o2.1.trans o1.1, fun j hj => ?_⟩⟩⟩
        have hj : j ∉ t.slots ++ u.slots := hj
        rw [List.mem_append, not_or] at hj
        exact (o2.2 j hj.2).trans (o1.2 j hj.1)
def Tg.count : Tg → Nat
  | .tcons _ r => r.count + 1
  | _ => 0
theorem bind_count : ∀ {t : Tg} {ds : List D} {ρ ρ' : Ev}, (match t with | .tnil => True | .tcons _ _ => True | _ => False) → bindT t (.list ds) ρ = some ρ' → True := fun _ _ => trivial
theorem g_tup {t : Tg} {kk : Nat} (hc : X.calm = true) (h : PGs X es (tGs X.K t)) (hn : (assignEach es X.env).length = es.length) (hst : (assignEach es X.env).findIdx? (·.1) = none)
    (ht : ∀ ds ρ ρ', bindT t (.list ds) ρ = some ρ' → ds.length = es.length) : PG X (.Tuple es kk pos) (tG X.K (.tup t)) :=
  PG_imp (pg_tup hc h hn hst) fun v σ H Q ⟨r, F, ρ, w, d, ρ', s, p, e, q⟩ => by
    cases d with
    | tuple ds =>
      obtain ⟨_, a, vs, rfl, h, l⟩ := p.tup
      exact ⟨a, vs, rfl, SqT.of (s.sub _ _ h), by rw [← l.length]; exact ht ds ρ ρ' e, r, F, ρ, w, ds, ρ', s, l, e, q⟩
    | _ => cases e
/-! ### what is walked -/
structure JOk (K : PySem.W.Frag) (r : Rw) (F0 : Hp) (J : It) (G : Hp → Prop) (ds : List D) : Prop where
  go : ∀ i H, i < ds.length → G H → J.go i H
  stop : ∀ H, G H → J.stop ds.length H
  yld : ∀ {i F H x H' w}, i < ds.length → G H → Sub F0 F → Sub F H → RowOk K r F H w → J.yld i H x H' → ∃ F' d, ds[i]? = some d ∧ Nx K r F H F' H' w ∧ Rp F' d x
  keep : ∀ H H', G H → (∀ a o, r.a ≠ some a → H a = some o → H' a = some o) → G H'
/-- what is walked stands frozen; or it stands as yet -/
def PJ (K : PySem.W.Frag) : Kind (List D) It := fun r _ F H ds J => ∃ G, JOk K r F J G ds ∧ (∀ H, Sub F H → G H) ∧ ds.length ≤ sizeLine
def PJo (K : PySem.W.Frag) : Kind (List D) It := fun r _ F H ds J => ∃ G, JOk K r F J G ds ∧ G H ∧ ds.length ≤ sizeLine
instance : Mono (PJ K) := ⟨fun _ h => h⟩
instance : Mono (PJo K) := ⟨fun _ h => h⟩
def tI (K : PySem.W.Frag) (f : Ev → M (List D)) : TI := fun σ H R => tOut (PJ K) K f σ H R
def tIo (K : PySem.W.Frag) (f : Ev → M (List D)) : TI := fun σ H R => tOut (PJo K) K f σ H R
abbrev DI (X : Cx) (tgt it : Expr) (f : Ev → M (List D)) : Prop := PI X tgt it (tI X.K f)
abbrev DIo (X : Cx) (tgt it : Expr) (f : Ev → M (List D)) : Prop := PI X tgt it (tIo X.K f)
theorem PI_imp {t t' : TI} (h : PI X tgt e t) (i : ∀ σ H R, t' σ H R → t σ H R) : PI X tgt e t' := ⟨fun pins s σ H R I q => h.run pins s σ H R I (i σ H R q)⟩
/-- a list or a tuple -/
def iSeq (K : PySem.W.Frag) (tl : TE) : TI := fun σ H R => tl σ H fun x H1 => ∃ a, x = .ref a ∧ (((∃ xs, SqL K H1 a xs) ∧ R (Itl K a) H1) ∨ ((∃ xs, SqT K H1 a xs) ∧ R (Itt K a) H1))
theorem pi_seq {tl : TE} (hl : PE X e tl) : PI X tgt e (iSeq X.K tl) := by
  refine ⟨fun pins s σ H R I h => ?_⟩
  refine thn (hl.run pins s σ H _ I h) fun v s1 ⟨x, H1, I1, r1, q1⟩ => ?_
  obtain ⟨a, e, q⟩ := q1
  subst e
  cases r1
  rcases q with ⟨⟨xs, hq⟩, q⟩ | ⟨⟨xs, hq⟩, q⟩
  · obtain ⟨its, rv, p, hz⟩ := I1.list hq
    refine wpAny_pyIter_list p.isList ?_
    refine ⟨s1.heap.objs.size, [s1.heap.objs.size], _, _, H1, rfl, I1.kept (t' := s1.toks) fun b o e => Heap.get?_push_of_some _ e, turn_list a _, ⟨_, Heap.get?_push_size _ rfl, rfl, rfl⟩, fun b hb => ?_, q⟩
    have e : b = s1.heap.objs.size := by simpa using hb
    subst e
    exact I1.fpOk (Nat.le_refl _) (I1.hok.fresh (Nat.le_refl _))
  · obtain ⟨its, rv, p, hz⟩ := I1.tuple hq
    refine wpAny_pyIter_tuple (show s1.heap.IsTuple a its.toArray from p) ?_
    refine ⟨s1.heap.objs.size, [s1.heap.objs.size], _, _, H1, rfl, I1.kept (t' := s1.toks) fun b o e => Heap.get?_push_of_some _ e, turn_tuple a _, ⟨_, Heap.get?_push_size _ rfl, rfl, rfl⟩, fun b hb => ?_, q⟩
    have e : b = s1.heap.objs.size := by simpa using hb
    subst e
    exact I1.fpOk (Nat.le_refl _) (I1.hok.fresh (Nat.le_refl _))
theorem sql_keep {a : Addr} {xs : List V} {H H' : Hp} (ha : r.a ≠ some a) (h : SqL K H a xs) (k : ∀ a o, r.a ≠ some a → H a = some o → H' a = some o) : SqL K H' a xs := by
  rcases h with (h | ⟨o, h⟩) | h
  · exact .inl (.inl (k _ _ ha h))
  · exact .inl (.inr ⟨o, k _ _ ha h⟩)
  · exact .inr h
theorem jok_list {a : Addr} {vs : List V} {ds : List D} {F0 : Hp} (ha : r.a ≠ some a) (l : RpL F0 ds vs) : JOk K r F0 (Itl K a) (fun H => SqL K H a vs) ds where
  go := fun i H hi h => by
    obtain ⟨v, e, _⟩ := l.get (List.getElem?_eq_getElem hi)
    exact ⟨vs, v, h, e⟩
  stop := fun H h => ⟨vs, h, by rw [l.length]; exact Nat.le_refl _⟩
  yld := fun {i F H x H' w} hi h s0 s k ⟨e, q⟩ => by
    subst e
    obtain ⟨v, e, p⟩ := l.get (List.getElem?_eq_getElem hi)
    have ev : x = v := Option.some.inj ((q vs h).symm.trans e)
    subst ev
    exact ⟨F, _, List.getElem?_eq_getElem hi, Nx.refl s k, Rp.mono s0 _ _ p⟩
  keep := fun H H' h k => sql_keep ha h k
theorem jok_tup {a : Addr} {vs : List V} {ds : List D} {F0 : Hp} (h0 : F0 a = some (.tup vs)) (hr : r.a ≠ some a) (l : RpL F0 ds vs) : JOk K r F0 (Itt K a) (fun H => H a = some (.tup vs)) ds where
  go := fun i H hi h => by
    obtain ⟨v, e, _⟩ := l.get (List.getElem?_eq_getElem hi)
    exact ⟨vs, v, SqT.of h, e⟩
  stop := fun H h => ⟨vs, SqT.of h, by rw [l.length]; exact Nat.le_refl _⟩
  yld := fun {i F H x H' w} hi h s0 s k ⟨e, q⟩ => by
    subst e
    obtain ⟨v, e, p⟩ := l.get (List.getElem?_eq_getElem hi)
    have ev : x = v := Option.some.inj ((q vs (SqT.of h)).symm.trans e)
    subst ev
    exact ⟨F, _, List.getElem?_eq_getElem hi, Nx.refl s k, Rp.mono s0 _ _ p⟩
  keep := fun H H' h k => k _ _ hr h
/-- what is frozen is not the row -/
theorem RowOk.ne {a : Addr} {o : HO} (k : RowOk K r F H w) (h : F a = some o) : r.a ≠ some a := by
  cases r with
  | none => intro e; cases e
  | some z =>
    obtain ⟨b, t⟩ := z
    intro e
    cases (show some b = some a from e)
    rw [k.1] at h; cases h
theorem DI.o (h : DI X tgt e fl) : DIo X tgt e fl := PI_imp h fun σ H R ⟨r, F, ρ, w, s, o⟩ => ⟨r, F, ρ, w, s, o.weak fun n ⟨G, h1, h2, h3⟩ => ⟨G, h1, h2 _ n.inn, h3⟩⟩
theorem i_seq (h : DE X e f) : DI X tgt e (fun ρ => bnd (f ρ) itemsOf) :=
  PI_imp (pi_seq h) fun σ H R ⟨rr, F, ρ, w, s, o⟩ => ⟨rr, F, ρ, w, s, (Out.bind (P := PV) (P' := PJ X.K) o).mono fun x H1 ⟨F1, d, w1, n1, p1, o1⟩ => by
    cases d with
    | list ds =>
      obtain ⟨z, q, vs, rfl, h, l⟩ := p1.lst
      exact ⟨q, rfl, .inl ⟨⟨vs, SqL.of (n1.inn _ _ h)⟩, o1 _ F1 H1 (Nx.refl n1.inn n1.row) ⟨_, jok_list (n1.row.ne h) l, fun H s => SqL.of (s _ _ h), z⟩⟩⟩
    | tuple ds =>
      obtain ⟨z, q, vs, rfl, h, l⟩ := p1.tup
      exact ⟨q, rfl, .inr ⟨⟨vs, SqT.of (n1.inn _ _ h)⟩, o1 _ F1 H1 (Nx.refl n1.inn n1.row) ⟨_, jok_tup h (n1.row.ne h) l, fun H s => s _ _ h, z⟩⟩⟩
    | _ => exact o1.elim⟩
theorem i_own (h : DS X e f) : DIo X tgt e (fun ρ => bnd (f ρ) itemsOf) :=
  PI_imp (pi_seq h) fun σ H R ⟨rr, F, ρ, w, s, o⟩ => ⟨rr, F, ρ, w, s, (Out.bind (P := PSr) (P' := PJo X.K) o).mono fun x H1 ⟨F1, d, w1, n1, p1, o1⟩ => by
    rcases p1 with p1 | ⟨q, vs, l, rfl, rfl, h3, h4, h5, h6⟩
    · cases d with
      | list ds =>
        obtain ⟨z, q, vs, rfl, h, l⟩ := p1.lst
        exact ⟨q, rfl, .inl ⟨⟨vs, SqL.of (n1.inn _ _ h)⟩, o1 _ F1 H1 (Nx.refl n1.inn n1.row) ⟨_, jok_list (n1.row.ne h) l, SqL.of (n1.inn _ _ h), z⟩⟩⟩
      | tuple ds =>
        obtain ⟨z, q, vs, rfl, h, l⟩ := p1.tup
        exact ⟨q, rfl, .inr ⟨⟨vs, SqT.of (n1.inn _ _ h)⟩, o1 _ F1 H1 (Nx.refl n1.inn n1.row) ⟨_, jok_tup h (n1.row.ne h) l, n1.inn _ _ h, z⟩⟩⟩
      | _ => exact o1.elim
    · exact ⟨q, rfl, .inl ⟨⟨vs, SqL.of h3⟩, o1 _ F1 H1 (Nx.refl n1.inn n1.row) ⟨_, jok_list h5 h4, SqL.of h3, h6⟩⟩⟩⟩
theorem jok_rng {lo : Int} {n : Nat} {F0 : Hp} : JOk K r F0 (Itr lo n) (fun _ => True) ((List.range n).map fun (k : Nat) => PyData.int (lo + (k : Int))) where
  go := fun i H hi _ => by
    show i < n
    simpa using hi
  stop := fun H _ => by
    show n ≤ _
    simp
  yld := fun {i F H x H' w} hi _ s0 s k ⟨e, q⟩ => by
    subst e; subst q
    have hi' : i < n := by simpa using hi
    exact ⟨F, .int (lo + i), by simp [List.getElem?_map, List.getElem?_range hi'], Nx.refl s k, rfl⟩
  keep := fun _ _ _ _ => trivial
theorem jok_rngD {lo : Int} {n : Nat} {F0 : Hp} : JOk K r F0 (Itc lo (-1) n) (fun _ => True) ((List.range n).map fun (k : Nat) => PyData.int (lo + (k : Int) * (-1))) where
  go := fun i H hi _ => by
    show i < n
    simpa using hi
  stop := fun H _ => by
    show n ≤ _
    simp
  yld := fun {i F H x H' w} hi _ s0 s k ⟨e, q⟩ => by
    subst e; subst q
    have hi' : i < n := by simpa using hi
    exact ⟨F, .int (lo + i * (-1)), by simp [List.getElem?_map, List.getElem?_range hi'], Nx.refl s k, rfl⟩
  keep := fun _ _ _ _ => trivial
theorem line_of {n : Int} (h : n ≤ 1000000) : n.toNat ≤ sizeLine := by rw [sizeLine_eq]; omega
theorem ite_out' {α β : Type} {P : Kind α β} {c : Prop} [Decidable c] {m : M α} {Q : β → Hp → Prop} (o : Out P K r F H ((if c then m else bad) w) Q) : c ∧ Out P K r F H (m w) Q := by
  by_cases h : c
  · rw [if_pos h] at o; exact ⟨h, o⟩
  · rw [if_neg h] at o; exact o.elim
theorem i_range1 (hg : Gl X "range") (hm : X.mg "range" = none) (hs : starEach [a] X.env = (false, eval a X.env) :: starEach [] X.env) (ha : DE X a fa) :
    DI X tgt (.Call (.Name "range" p) [a] [] pos) (fun ρ => bnd (bnd (bnd (fa ρ) asI) fun j => rangeD 0 j) itemsOf) := by
  refine PI_imp (pi_range1 hg hm (pa_cons ha pa_nil hs) hs) fun σ H R ⟨rr, F, ρ, w, s, o⟩ => ?_
  dsimp only at o
  rw [bnd_bnd, bnd_bnd] at o
  refine ⟨rr, F, ρ, w, s, (Out.bind (P := PV) (P' := PJ X.K) o).mono fun x H1 ⟨F1, d, w1, n1, p1, o1⟩ => ?_⟩
  cases d with
  | int j =>
    dsimp only [asI] at o1
    rw [bnd_ret] at o1
    by_cases hc : -(2 ^ 62) ≤ (0 : Int) ∧ (0 : Int) < 2 ^ 62 ∧ -(2 ^ 62) ≤ j ∧ j < 2 ^ 62 ∧ j - 0 ≤ 1000000
    · unfold rangeD at o1
      rw [if_pos hc] at o1
      refine ⟨j, by rw [show x = .int j from p1], by omega, by omega, o1 _ F1 H1 (Nx.refl n1.inn n1.row) ⟨fun _ => True, ?_, fun _ _ => trivial, ?_⟩⟩
      · rw [show (j - 0).toNat = j.toNat from by rw [Int.sub_zero]]
        exact jok_rng
      · rw [List.length_map, List.length_range]; exact line_of (by omega)
    · unfold rangeD at o1; rw [if_neg hc] at o1; exact o1.elim
  | _ => exact o1.elim
theorem i_range2 (hg : Gl X "range") (hm : X.mg "range" = none) (hs : starEach [a, b] X.env = (false, eval a X.env) :: starEach [b] X.env) (hs2 : starEach [b] X.env = (false, eval b X.env) :: starEach [] X.env) (hpl : (backTo pos (starEach [b] X.env)).any (·.1) = false) (ha : DE X a fa) (hb : DE X b fb) :
    DI X tgt (.Call (.Name "range" p) [a, b] [] pos) (fun ρ => bnd (bnd (bnd (fa ρ) asI) fun i => bnd (bnd (fb ρ) asI) fun j => rangeD i j) itemsOf) := by
  refine PI_imp (pi_range2 hg hm (pa_cons ha (pa_cons hb pa_nil hs2) hs) (hs.trans (by rw [hs2]; rfl)) hs2) fun σ H R ⟨rr, F, ρ, w, s, o⟩ => ?_
  dsimp only at o
  rw [bnd_bnd, bnd_bnd] at o
  refine ⟨rr, F, ρ, w, s, (Out.bind (P := PV) (P' := PJ X.K) o).mono fun x H1 ⟨F1, d, w1, n1, p1, o1⟩ => ?_⟩
  cases d with
  | int i =>
    dsimp only [asI] at o1
    rw [bnd_ret, bnd_bnd, bnd_bnd] at o1
    refine ⟨rr, F1, ρ, w1, s.nx n1, (Out.bind (P := PV) (P' := PJ X.K) o1).mono fun y H2 ⟨F2, u, w2, n2, p2, o2⟩ => ?_⟩
    cases u with
    | int j =>
      dsimp only [asI] at o2
      rw [bnd_ret] at o2
      by_cases hc : -(2 ^ 62) ≤ i ∧ i < 2 ^ 62 ∧ -(2 ^ 62) ≤ j ∧ j < 2 ^ 62 ∧ j - i ≤ 1000000
      · unfold rangeD at o2
        rw [if_pos hc] at o2
        refine ⟨i, j, by rw [show x = .int i from p1, show y = .int j from p2], ⟨by omega, by omega, by omega, by omega⟩, o2 _ F2 H2 (Nx.refl n2.inn n2.row) ⟨_, jok_rng, fun _ _ => trivial, ?_⟩⟩
        rw [List.length_map, List.length_range]; exact line_of (by omega)
      · unfold rangeD at o2; rw [if_neg hc] at o2; exact o2.elim
    | _ => exact o2.elim
  | _ => exact o1.elim
theorem i_range3 {c : Expr} (hg : Gl X "range") (hm : X.mg "range" = none) (hs : starEach [a, b, c] X.env = (false, eval a X.env) :: starEach [b, c] X.env) (hs2 : starEach [b, c] X.env = (false, eval b X.env) :: starEach [c] X.env) (hs3 : starEach [c] X.env = (false, eval c X.env) :: starEach [] X.env)
    (hpl : (backTo pos (starEach [b, c] X.env)).any (·.1) = false) (ha : DE X a fa) (hb : DE X b fb) (hc : DE X c fun _ => ret (.int (-1))) :
    DI X tgt (.Call (.Name "range" p) [a, b, c] [] pos) (fun ρ => bnd (bnd (bnd (fa ρ) asI) fun i => bnd (bnd (fb ρ) asI) fun j => range3D i j) itemsOf) := by
  refine PI_imp (pi_range3 hg hm (pa_cons ha (pa_cons hb (pa_cons hc pa_nil hs3) hs2) hs) hs hpl) fun σ H R ⟨rr, F, ρ, w, s, o⟩ => ?_
  dsimp only at o
  rw [bnd_bnd, bnd_bnd] at o
  refine ⟨rr, F, ρ, w, s, (Out.bind (P := PV) (P' := PJ X.K) o).mono fun x H1 ⟨F1, d, w1, n1, p1, o1⟩ => ?_⟩
  cases d with
  | int i =>
    dsimp only [asI] at o1
    rw [bnd_ret, bnd_bnd, bnd_bnd] at o1
    refine ⟨rr, F1, ρ, w1, s.nx n1, (Out.bind (P := PV) (P' := PJ X.K) o1).mono fun y H2 ⟨F2, u, w2, n2, p2, o2⟩ => ?_⟩
    cases u with
    | int j =>
      dsimp only [asI] at o2
      rw [bnd_ret] at o2
      by_cases hc : -(2 ^ 62) ≤ i ∧ i < 2 ^ 62 ∧ -(2 ^ 62) ≤ j ∧ j < 2 ^ 62 ∧ i - j ≤ 1000000
      · unfold range3D at o2
        rw [if_pos hc] at o2
        refine ⟨rr, F2, ρ, w2, (s.nx n1).nx n2, fun z F3 H3 n3 p3 => ?_⟩
        refine ⟨i, j, -1, _, by rw [show x = .int i from p1, show y = .int j from p2, show z = .int (-1) from p3], RgC.neg (by omega) (by omega) (by omega) (by omega), o2 _ F3 H3 n3 ⟨fun _ => True, jok_rngD, fun _ _ => trivial, ?_⟩⟩
        rw [List.length_map, List.length_range]; exact line_of (by omega)
      · unfold range3D at o2; rw [if_neg hc] at o2; exact o2.elim
    | _ => exact o2.elim
  | _ => exact o1.elim
/-! ### zip, reversed -/
theorem zip_get {xs ys : List D} {i : Nat} {x y : D} (h1 : xs[i]? = some x) (h2 : ys[i]? = some y) : (zipD xs ys)[i]? = some (.tuple [x, y]) := by
  unfold zipD
  rw [List.getElem?_zipWith, h1, h2]
theorem zip_len (xs ys : List D) : (zipD xs ys).length = min xs.length ys.length := by unfold zipD; rw [List.length_zipWith]
/-- a pair just made -/
theorem pair_rp {x y : V} {d u : D} {T : Addr} {F0 : Hp} (s0 : Sub F0 F) (s : Sub F H) (k : RowOk K r F H w) (hT : H T = none) (p : Rp F0 d x) (q : Rp F0 u y) : Nx K r F H (upd F T (.tup [x, y])) (upd H T (.tup [x, y])) w ∧ Rp (upd F T (.tup [x, y])) (.tuple [d, u]) (.ref T) := by
  have n := Nx.alloc (o := .tup [x, y]) s k hT
  exact ⟨n, by show 2 ≤ sizeLine; decide, T, [x, y], rfl, upd_same, RpL.cons (Rp.mono (s0.trans n.sub) _ _ p) (RpL.cons (Rp.mono (s0.trans n.sub) _ _ q) RpL.nil)⟩
theorem jok_zipL {a b : Addr} {vs us : List V} {ds es : List D} {F0 : Hp} (ha : r.a ≠ some a) (hb : r.a ≠ some b) (l : RpL F0 ds vs) (m : RpL F0 es us) : JOk K r F0 (Itz K a b) (fun H => SqL K H a vs ∧ SqL K H b us) (zipD ds es) where
  go := fun i H hi h => by
    rw [zip_len] at hi
    obtain ⟨v, e, _⟩ := l.get (List.getElem?_eq_getElem (show i < ds.length by omega))
    obtain ⟨u, e', _⟩ := m.get (List.getElem?_eq_getElem (show i < es.length by omega))
    exact ⟨vs, us, v, u, h.1, h.2, e, e'⟩
  stop := fun H h => ⟨vs, us, h.1, h.2, by rw [zip_len, l.length, m.length]; omega⟩
  yld := fun {i F H x H' w} hi h s0 s k ⟨T, x, y, e1, hT, e2, q1, q2⟩ => by
    subst e1; subst e2
    rw [zip_len] at hi
    obtain ⟨v, e, p⟩ := l.get (List.getElem?_eq_getElem (show i < ds.length by omega))
    obtain ⟨u, e', p'⟩ := m.get (List.getElem?_eq_getElem (show i < es.length by omega))
    cases Option.some.inj ((q1 vs h.1).symm.trans e)
    cases Option.some.inj ((q2 us h.2).symm.trans e')
    obtain ⟨n, p3⟩ := pair_rp s0 s k hT p p'
    exact ⟨_, _, zip_get (List.getElem?_eq_getElem _) (List.getElem?_eq_getElem _), n, p3⟩
  keep := fun H H' h k => ⟨sql_keep ha h.1 k, sql_keep hb h.2 k⟩
theorem jok_zipT {a b : Addr} {vs us : List V} {ds es : List D} {F0 : Hp} (ha : r.a ≠ some a) (hb : r.a ≠ some b) (l : RpL F0 ds vs) (m : RpL F0 es us) : JOk K r F0 (RZ.ItzT K a b) (fun H => H a = some (.tup vs) ∧ H b = some (.tup us)) (zipD ds es) where
  go := fun i H hi h => by
    rw [zip_len] at hi
    obtain ⟨v, e, _⟩ := l.get (List.getElem?_eq_getElem (show i < ds.length by omega))
    obtain ⟨u, e', _⟩ := m.get (List.getElem?_eq_getElem (show i < es.length by omega))
    exact ⟨vs, us, v, u, SqT.of h.1, SqT.of h.2, e, e'⟩
  stop := fun H h => ⟨vs, us, SqT.of h.1, SqT.of h.2, by rw [zip_len, l.length, m.length]; omega⟩
  yld := fun {i F H x H' w} hi h s0 s k ⟨T, x, y, e1, hT, e2, q1, q2⟩ => by
    subst e1; subst e2
    rw [zip_len] at hi
    obtain ⟨v, e, p⟩ := l.get (List.getElem?_eq_getElem (show i < ds.length by omega))
    obtain ⟨u, e', p'⟩ := m.get (List.getElem?_eq_getElem (show i < es.length by omega))
    cases Option.some.inj ((q1 vs (SqT.of h.1)).symm.trans e)
    cases Option.some.inj ((q2 us (SqT.of h.2)).symm.trans e')
    obtain ⟨n, p3⟩ := pair_rp s0 s k hT p p'
    exact ⟨_, _, zip_get (List.getElem?_eq_getElem _) (List.getElem?_eq_getElem _), n, p3⟩
  keep := fun H H' h k => ⟨k _ _ ha h.1, k _ _ hb h.2⟩
end
end Dn
namespace Dn
open PySem PySem.Spec PyProof.Rows L2
set_option autoImplicit true
section
variable {X : Cx} {e a b c it tgt elt : Expr} {es rest elts : List Expr} {f fa fb fc fs : Ev → M D} {fl : Ev → M (List D)} {ft : Ev → M Bool} {pos p p2 tpos : Pos} {K : PySem.W.Frag} {r : Rw} {F H : Hp} {ρ ρ' : Ev} {σ σ' : L2.St} {w : W} {i kk : Nat} {d : D} {v : V}
theorem i_zip (hg : Gl X "zip") (hm : X.mg "zip" = none) (hs : starEach [a, b] X.env = (false, eval a X.env) :: starEach [b] X.env) (hs2 : starEach [b] X.env = (false, eval b X.env) :: starEach [] X.env) (hpl : (backTo pos (starEach [b] X.env)).any (·.1) = false) (ha : DE X a fa) (hb : DE X b fb) :
    DI X (.Tuple elts kk tpos) (.Call (.Name "zip" p) [a, b] [] pos) (fun ρ => bnd (bnd (fa ρ) fun x => bnd (fb ρ) fun y => zip2D x y) itemsOf) := by
  refine PI_imp (RZ.pi_zipA hg hm (pa_cons ha (pa_cons hb pa_nil hs2) hs) hs hpl) fun σ H R ⟨rr, F, ρ, w, s, o⟩ => ?_
  dsimp only at o
  rw [bnd_bnd] at o
  refine ⟨rr, F, ρ, w, s, (Out.bind (P := PV) (P' := PJ X.K) o).mono fun x H1 ⟨F1, d, w1, n1, p1, o1⟩ => ?_⟩
  rw [bnd_bnd] at o1
  refine ⟨rr, F1, ρ, w1, s.nx n1, (Out.bind (P := PV) (P' := PJ X.K) o1).mono fun y H2 ⟨F2, u, w2, n2, p2, o2⟩ => ?_⟩
  have p1 := Rp.mono n2.sub _ _ p1
  cases d <;> cases u <;> first | exact o2.elim | skip
  · obtain ⟨z1, q1, vs, rfl, h1, l1⟩ := p1.lst
    obtain ⟨z2, q2, us, rfl, h2, l2⟩ := p2.lst
    refine ⟨q1, q2, vs, us, rfl, .inl ⟨SqL.of (n2.inn _ _ h1), SqL.of (n2.inn _ _ h2), o2 _ F2 H2 (Nx.refl n2.inn n2.row) ⟨_, jok_zipL (n2.row.ne h1) (n2.row.ne h2) l1 l2, fun H s => ⟨SqL.of (s _ _ h1), SqL.of (s _ _ h2)⟩, ?_⟩⟩⟩
    rw [zip_len]; omega
  · obtain ⟨z1, q1, vs, rfl, h1, l1⟩ := p1.tup
    obtain ⟨z2, q2, us, rfl, h2, l2⟩ := p2.tup
    refine ⟨q1, q2, vs, us, rfl, .inr ⟨SqT.of (n2.inn _ _ h1), SqT.of (n2.inn _ _ h2), o2 _ F2 H2 (Nx.refl n2.inn n2.row) ⟨_, jok_zipT (n2.row.ne h1) (n2.row.ne h2) l1 l2, fun H s => ⟨s _ _ h1, s _ _ h2⟩, ?_⟩⟩⟩
    rw [zip_len]; omega
/-! ### comprehensions -/
abbrev DTs (X : Cx) (ifs : List Expr) (f : Ev → M Bool) : Prop := PTs X ifs (tOut PB X.K f)
theorem PTs_imp {t t' : TT} {ifs : List Expr} (h : PTs X ifs t) (i : ∀ σ H Q, t' σ H Q → t σ H Q) : PTs X ifs t' := ⟨fun pins s σ H Q I q => h.run pins s σ H Q I (i σ H Q q)⟩
theorem c_none : DTs X [] (fun _ => bnd (ret (.bool true)) asB) := PTs_imp pts_nil fun σ H Q ⟨rr, F, ρ, w, s, o⟩ => o true F H (Nx.refl s.sub s.row) rfl
theorem c_one (h : DT X c fun ρ => bnd (f ρ) asB) : DTs X [c] (fun ρ => bnd (f ρ) asB) := pts_one h
def cutH (H : Hp) (p : Addr) : Hp := fun b => if b = p then none else H b
theorem del_same {p : Addr} : cutH H p p = none := by unfold cutH; rw [if_pos rfl]
theorem del_ne {p b : Addr} (h : b ≠ p) : cutH H p b = H b := by unfold cutH; rw [if_neg h]
theorem del_sub {p : Addr} : Sub (cutH H p) H := fun a o q => by
  by_cases e : a = p
  · subst e; rw [del_same] at q; cases q
  · rw [del_ne e] at q; exact q
theorem sub_del {p : Addr} (h : F p = none) (s : Sub F H) : Sub F (cutH H p) := fun a o q => by rw [del_ne (ne_of_none q h)]; exact s _ _ q
theorem row_del {p : Addr} (k : RowOk K r F (cutH H p) w) : RowOk K r F H w := by
  cases r with
  | none => trivial
  | some z =>
    obtain ⟨a, t, ns⟩ := z
    obtain ⟨h1, h2, h3, h4, h5⟩ := k
    refine ⟨h1, h2, h3, del_sub _ _ h4, ?_⟩
    rcases h5 with (h5 | ⟨o, h5⟩) | h5
    · exact .inl (.inl (del_sub _ _ h5))
    · exact .inl (.inr ⟨o, del_sub _ _ h5⟩)
    · exact .inr h5
theorem row_undel {p : Addr} (n : RwOff K r p) (k : RowOk K r F H w) : RowOk K r F (cutH H p) w := by
  cases r with
  | none => trivial
  | some z =>
    obtain ⟨a, t, ns⟩ := z
    obtain ⟨h1, h2, h3, h4, h5⟩ := k
    refine ⟨h1, h2, h3, by rw [del_ne (Ne.symm n.1)]; exact h4, ?_⟩
    rcases n.2 with q | q
    · rcases h5 with (h5 | ⟨o, h5⟩) | h5
      · exact .inl (.inl (by rw [del_ne (Ne.symm q)]; exact h5))
      · exact .inl (.inr ⟨o, by rw [del_ne (Ne.symm q)]; exact h5⟩)
      · exact .inr h5
    · exact q _
theorem row_upd {p : Addr} {o : HO} (n : RwOff K r p) (k : RowOk K r F (cutH H p) w) : RowOk K r F (upd H p o) w := by
  have e : cutH H p = cutH (upd H p o) p := by
    funext b
    by_cases h : b = p
    · subst h; rw [del_same, del_same]
    · rw [del_ne h, del_ne h, upd_ne h]
  rw [e] at k
  exact row_del k
theorem del_upd {p : Addr} {o : HO} : cutH (upd H p o) p = cutH H p := by
  funext b
  by_cases h : b = p
  · subst h; rw [del_same, del_same]
  · rw [del_ne h, del_ne h, upd_ne h]
/-- a step of the heap with a list of one's own beside -/
theorem Nx.del {K : PySem.W.Frag} {r : Rw} {F H F' H' : Hp} {w : W} {p : Addr} {o : HO} (n : Nx K r F H F' H' w) (hp : H p = some o) (fp : F p = none) (k : RwOff K r p) : Nx K r F (cutH H p) F' (cutH H' p) w ∧ H' p = some o ∧ F' p = none := by
  have fp' : F' p = none := by
    cases q : F' p with
    | none => rfl
    | some o' =>
      rcases n.new p o' q with z | z
      · rw [fp] at z; cases z
      · rw [hp] at z; cases z
  refine ⟨⟨n.sub, sub_del fp' n.inn, fun a u h q => ?_, fun a u q => ?_, row_undel k n.row⟩, n.keep _ _ k.ne hp, fp'⟩
  · by_cases e : a = p
    · subst e; rw [del_same] at q; cases q
    · rw [del_ne e] at q ⊢; exact n.keep _ _ h q
  · by_cases e : a = p
    · subst e; rw [fp'] at q; cases q
    · rw [del_ne e]; exact n.new a u q
theorem del_none {p : Addr} (h : H p = none) : cutH H p = H := by
  funext b
  by_cases e : b = p
  · subst e; rw [del_same, h]
  · rw [del_ne e]
theorem Sx.up {p : Addr} (s : Sx K r F (cutH H p) ρ σ w) : Sx K r F H ρ σ w :=
  ⟨s.sub.trans del_sub, row_del s.row, s.len, s.val, fun i l e => let ⟨p, vs, h1, h2, h3⟩ := s.own i l e; ⟨p, vs, h1, del_sub _ _ h2, h3⟩, s.rw, s.inj⟩
theorem wipe_wipe {σ : L2.St} {vs : List Nat} : L2.wipe (L2.wipe σ vs) vs = L2.wipe σ vs := by
  apply List.ext_getElem?
  intro i
  rw [wipe_get, L2.wipe_length, wipe_get]
  by_cases h : i ∈ vs ∧ i < σ.length
  · rw [if_pos h, if_pos h]
  · rw [if_neg h, if_neg h]
def bodyD (tg : Tg) (fc : Ev → M Bool) (fe : Ev → M D) (ρ : Ev) (d : D) : M (Option D) := match bindT tg d (wipeE ρ tg.slots) with
  | none => bad
  | some ρ' => bnd (fc ρ') fun k => if k then bnd (fe ρ') fun x => ret (some x) else ret none
theorem Nx.up {p : Addr} (s : Sub F (cutH H p)) (k : RowOk K r F (cutH H p) w) : Nx K r F (cutH H p) F H w := ⟨Sub.refl _, s.trans del_sub, fun a o _ q => del_sub _ _ q, fun _ _ q => .inl q, row_del k⟩
theorem comp_read {tg : Tg} {fe : Ev → M D} : ∀ σ H Q, tOut PF K (fun ρ => bnd (fl ρ) fun ds => bnd (mapD (bodyD tg ft fe ρ) ds) fun out => ret (.list out)) σ H Q → tLc (tIo K fl) (tG K tg) (tOut PB K ft) (tOut PV K fe) tg.slots σ H Q := fun σ H0 Q ⟨r, F, ρ, w, s, o⟩ => by
  refine ⟨r, F, ρ, w, s, (Out.bind (P := PJo K) (P' := PF) o).mono fun J H1 ⟨F1, ds, w1, n1, ⟨G, jok, hG, hl⟩, o1⟩ Lx hD => ?_⟩
  have off := n1.row.off hD
  have s1 := s.nx n1
  have f1 : F1 Lx = none := by
    cases q : F1 Lx with
    | none => rfl
    | some u => rw [n1.inn _ _ q] at hD; cases hD
  let Wn : Nat → Hp → Prop := fun i H => G (cutH H Lx) ∧ ∃ F2 w2 acc out, H Lx = some (.lst acc) ∧ RpL F2 out acc ∧ out.length ≤ i ∧ F2 Lx = none ∧ Nx K r F1 H1 F2 (cutH H Lx) w2 ∧ Out PF K r F2 (cutH H Lx) (bnd (mapD (bodyD tg ft fe ρ) (ds.drop i)) (fun rest => ret (.list (out ++ rest))) w2) Q
  refine ⟨fun i m H => m = ds.length - i ∧ i ≤ ds.length ∧ Wn i H, ⟨ds.length, rfl, Nat.zero_le _, ?_⟩, ?_⟩
  · show G _ ∧ _
    rw [del_upd, del_none hD]
    exact ⟨hG, F1, w1, [], [], upd_same, RpL.nil, Nat.zero_le _, f1, Nx.refl n1.inn n1.row, o1⟩
  · rintro i m H ⟨rfl, hi, hG, F2, w2, acc, out, hD, l, lo, fD, n, o⟩
    have hGH : G H := jok.keep _ _ hG fun a u _ q => del_sub _ _ q
    by_cases hlt : i < ds.length
    · refine .inr ⟨jok.go i H hlt hGH, fun H' => Wn (i + 1) H', fun H' q => ⟨_, by omega, rfl, by omega, q⟩, fun x H' hy => ?_⟩
      obtain ⟨F', d, ed, n', p⟩ := jok.yld hlt hGH n.sub (n.inn.trans del_sub) (row_del n.row) hy
      obtain ⟨nd, hD', fD'⟩ := n'.del hD fD off
      have e : ds.drop i = d :: ds.drop (i + 1) := by
        obtain ⟨h1, h2⟩ := List.getElem?_eq_some_iff.mp ed
        rw [List.drop_eq_getElem_cons h1, h2]
      rw [e] at o
      have o' := o.step nd
      rw [show mapD (bodyD tg ft fe ρ) (d :: ds.drop (i + 1)) = bnd (bodyD tg ft fe ρ d) (fun o => bnd (mapD (bodyD tg ft fe ρ) (ds.drop (i + 1))) fun r => ret (match o with | some x => x :: r | none => r)) from rfl, bnd_bnd] at o'
      cases k : bindT tg d (wipeE ρ tg.slots) with
      | none => rw [show bodyD tg ft fe ρ d = bad by unfold bodyD; rw [k]] at o'; exact o'.elim
      | some ρ' =>
        rw [show bodyD tg ft fe ρ d = bnd (ft ρ') fun k => if k then bnd (fe ρ') fun x => ret (some x) else ret none by unfold bodyD; rw [k], bnd_bnd] at o'
        have sx : Sx K r F' H' (wipeE ρ tg.slots) (L2.wipe σ tg.slots) w2 := ((s1.nx (n.trans nd)).up).wipe _
        refine ⟨r, F', _, w2, d, ρ', sx, p, k, fun σ2 s2 off2 => ⟨off2.wipe.trans wipe_wipe, r, F', ρ', w2, s2, ?_⟩⟩
        cases e1 : ft ρ' w2 with
        | exc c xs w3 => unfold bnd at o'; rw [e1] at o'; exact o'
        | bad => unfold bnd at o'; rw [e1] at o'; exact o'
        | ok b w3 =>
          rw [bnd_ok e1] at o'
          intro b' F3 H3 n3 pb
          cases (show b = b' from pb)
          obtain ⟨nd3, hD3, fD3⟩ := n3.del hD' fD' off
          have o3 := o'.step nd3
          cases b with
          | false =>
            refine ⟨jok.keep _ _ hG fun a u h q => nd3.keep _ _ h (nd.keep _ _ h q), F3, w3, acc, out, hD3, RpL.mono (nd.sub.trans nd3.sub) _ _ l, by omega, fD3, (n.trans nd).trans nd3, ?_⟩
            have o4 : Out PF K r F3 (cutH H3 Lx) (bnd (bnd (mapD (bodyD tg ft fe ρ) (ds.drop (i + 1))) fun r => ret r) (fun rest => ret (.list (out ++ rest))) w3) Q := o3
            rw [bnd_bnd] at o4
            exact o4
          | true =>
            refine ⟨r, F3, ρ', w3, s2.nx n3, ?_⟩
            have o4 : Out PF K r F3 (cutH H3 Lx) (bnd (bnd (fe ρ') fun x => ret (some x)) (fun o => bnd (bnd (mapD (bodyD tg ft fe ρ) (ds.drop (i + 1))) fun r => ret (match o with | some x => x :: r | none => r)) fun rest => ret (.list (out ++ rest))) w3) Q := o3
            rw [bnd_bnd] at o4
            cases e2 : fe ρ' w3 with
            | exc c xs w4 => unfold bnd at o4; rw [e2] at o4; exact o4
            | bad => unfold bnd at o4; rw [e2] at o4; exact o4
            | ok y' w4 =>
              rw [bnd_ok e2, bnd_ret] at o4
              intro y F4 H4 n4 py
              obtain ⟨nd4, hD4, fD4⟩ := n4.del hD3 fD3 off
              have o5 := o4.step nd4
              refine ⟨acc, hD4, by rw [← l.length]; omega, ?_⟩
              show G _ ∧ _
              rw [del_upd]
              refine ⟨jok.keep _ _ hG fun a u h q => nd4.keep _ _ h (nd3.keep _ _ h (nd.keep _ _ h q)), F4, w4, acc ++ [y], out ++ [y'], upd_same, (RpL.mono ((nd.sub.trans nd3.sub).trans nd4.sub) _ _ l).append (RpL.cons py RpL.nil), by rw [List.length_append]; exact Nat.succ_le_succ lo, fD4, ((n.trans nd).trans nd3).trans nd4, ?_⟩
              rw [bnd_bnd] at o5
              rw [show (fun rest => ret (PyData.list (out ++ [y'] ++ rest)) : List D → M D) = fun r => bnd (ret (y' :: r)) fun rest => ret (.list (out ++ rest)) from funext fun r => by rw [bnd_ret, List.append_assoc]; rfl]
              exact o5
    · have e : i = ds.length := by omega
      subst e
      refine .inl ⟨jok.stop H hGH, ?_⟩
      rw [List.drop_length] at o
      have o' : Out PF K r F2 (cutH H Lx) (.ok (.list (out ++ [])) w2) Q := o
      rw [List.append_nil] at o'
      exact o' _ F2 H (Nx.up n.inn n.row) ⟨Lx, acc, out, rfl, rfl, hD, l, fD, del_same, off.ne, by omega⟩
theorem f_comp {tg : Tg} {fe : Ev → M D} {ifs : List Expr} {scope : Scope} {own : List (Str × Nat)} (hc : X.calm = true) (hN : X.N.Nodup) (hi : DIo X tgt it fl) (ok : BlkOk X.N X.env.scope scope own) (ho : own.map (·.2) = tg.slots)
    (hg : ∀ (s : Shared) (H : Hp) (C : Addr) (cl : List (Str × Addr)) (fp : List Addr), PG (X.blk s H scope (compEnvC scope cl C X.env) fp) tgt (tG X.K tg))
    (ht : ∀ (s : Shared) (H : Hp) (C : Addr) (cl : List (Str × Addr)) (fp : List Addr), DTs (X.blk s H scope (compEnvC scope cl C X.env) fp) ifs ft)
    (he : ∀ (s : Shared) (H : Hp) (C : Addr) (cl : List (Str × Addr)) (fp : List Addr), DE (X.blk s H scope (compEnvC scope cl C X.env) fp) elt fe) (hs : ∀ x, foldedSetIterable it X.env x = pure x) :
    DF X (.ListComp elt [⟨tgt, it, ifs, 0⟩] scope pos) (fun ρ => bnd (fl ρ) fun ds => bnd (mapD (bodyD tg ft fe ρ) ds) fun out => ret (.list out)) := by
  have h := pe_lc (pos := pos) (te := tOut PV X.K fe) (tt := tOut PB X.K ft) hc hN hi ok hg ht he hs
  rw [ho] at h
  exact PE_imp h comp_read
end
end Dn
namespace Dn
open PySem PySem.Spec PyProof.Rows L2
/-! ### enumerate over a tuple or a list -/
set_option maxHeartbeats 8000000 in
theorem enum_newT (q : Addr) (vs : Array Value) (m : Nat) (dd : Option Addr) (ss : Array (Option Value)) :
    Meets (Builtin.«enumerate.__new__» ⟨[.type "enumerate", .ref q], []⟩) (fun _ R s => s.heap.get? q = some ⟨.type "tuple", dd, .seq vs m, ss⟩ ∧
      R (.ok (.ret (.ref (s.heap.push { cls := .type "tuple_iterator", data := .fields #[.ref q, .int 0 0] }).objs.size))) { s with heap := (s.heap.push { cls := .type "tuple_iterator", data := .fields #[.ref q, .int 0 0] }).push { cls := .type "enumerate", data := .fields #[.none, .bool false, .ref s.heap.objs.size, rawInt 0, .none, .none] } }) :=
  .of_wp fun prog w A R s h => by
    obtain ⟨hp, g, d, tk, os⟩ := s; obtain ⟨hq, h⟩ := h
    have hsub := sub_enumerate; have hT : Heap.IsTuple (Shared.heap ⟨hp, g, d, tk, os⟩) q vs := ⟨_, hq, rfl, m, rfl⟩
    wp_walk using AutoSeq1.wpAny_loadPart' hq
    refine wpAny_stack_any fun st => wpAny_pure ?_
    split
    · rename_i c _ _ _ _ _; cases (c == Value.type "enumerate") <;> (wp_walk using AutoSeq1.wpAny_loadPart' hq, wpAny_pyIter_tuple hT; exact ⟨_, rfl, h⟩)
    · wp_walk using AutoSeq1.wpAny_loadPart' hq, wpAny_pyIter_tuple hT; exact ⟨_, rfl, h⟩
section
variable {prog : Program} {w : World} {A : Around} {E : Value → Shared → Prop} {s : Shared}
theorem enum_callT {q : Addr} {vs : Array Value} {Q : Value → Shared → Prop} (hq : s.heap.IsTuple q vs)
    (h : ∀ h', IsEnum h' (s.heap.objs.size + 1) s.heap.objs.size 0 .none → h'.IsTupleIter s.heap.objs.size q 0 → h'.objs.size = s.heap.objs.size + 2 → (∀ b o, s.heap.get? b = some o → h'.get? b = some o) → Q (.ref (s.heap.objs.size + 1)) { s with heap := h' }) : wpAny (model prog w) A (call (.type "enumerate") [.ref q]) Q E s := by
  obtain ⟨⟨cc, dd, dt, ss⟩, ho, hc, m, hd⟩ := hq
  cases (show cc = .type "tuple" from hc)
  cases (show dt = .seq vs m from hd)
  refine callType_new F.called_enumerate (by decide) (F.typeCall_enumerate_1 _) (F.newCall_enumerate_1 _) (fun obj => F.args_object_init_2 obj _) F.entry_enumerate_new (enum_newT q vs m dd ss) ⟨ho, ?_⟩
  have sz : (s.heap.push { cls := .type "tuple_iterator", data := .fields #[.ref q, .int 0 0] }).objs.size = s.heap.objs.size + 1 := Heap.size_push ..
  show _ ∧ _
  rw [sz]
  have he : IsEnum ((s.heap.push { cls := .type "tuple_iterator", data := .fields #[.ref q, .int 0 0] }).push { cls := .type "enumerate", data := .fields #[.none, .bool false, .ref s.heap.objs.size, rawInt 0, .none, .none] }) (s.heap.objs.size + 1) s.heap.objs.size 0 .none := by
    have z := Heap.get?_push_size (s.heap.push { cls := .type "tuple_iterator", data := .fields #[.ref q, .int 0 0] }) (o := { cls := .type "enumerate", data := .fields #[.none, .bool false, .ref s.heap.objs.size, rawInt 0, .none, .none] }) rfl
    rw [sz] at z
    exact z
  exact ⟨⟨_, he, rfl⟩, h _ he ⟨_, Heap.get?_push_of_some _ (Heap.get?_push_size _ rfl), rfl, rfl⟩ (by rw [Heap.size_push, sz]) fun b o y => Heap.get?_push_of_some _ (Heap.get?_push_of_some _ y)⟩
end
/-- the tuple at a as it stands at each turn, each item in a new pair -/
def IteT (K : PySem.W.Frag) (a : Addr) : It :=
  ⟨fun i H => ∃ (ys : List V) (y : V), SqT K H a ys ∧ ys[i]? = some y, fun i H v H' => ∃ T y, v = .ref T ∧ H T = none ∧ H' = upd H T (.tup [.int (i : Nat), y]) ∧ ∀ ys, SqT K H a ys → ys[i]? = some y, fun i H => ∃ ys : List V, SqT K H a ys ∧ ys.length = i⟩
theorem turn_enumT {P : Program} {w : World} {K : PySem.W.Frag} {elts : List Expr} {kk : Nat} {tpos : Pos} (a e it : Addr) :
    Turn P w K (.Tuple elts kk tpos) (IteT K a) [e, it] e (fun i h => (∃ old, IsEnum h e it ((i : Nat) : Int) old) ∧ h.IsTupleIter it a i ∧ (e ≠ it ∧ a ≠ it ∧ a ≠ e)) where
  mem := List.mem_cons_self ..
  obj := fun i h st b hb => by
    obtain ⟨⟨old, he⟩, ⟨o, ho, hc, hd⟩, _⟩ := st
    rcases (show b = e ∨ b = it by simpa using hb) with z | z <;> rw [z]
    · exact ⟨_, he, fun v q => nomatch q⟩
    · exact ⟨o, ho, fun v q => by rw [hd] at q; cases q⟩
  keep := fun i h h' ⟨⟨old, he⟩, hi, hne⟩ k => ⟨⟨old, k e (List.mem_cons_self ..) _ he⟩, hi.at fun o q => k it (by simp) o q, hne⟩
  item := by
    intro X hP hw hK hc i pins s σ H E I hf st hg
    subst hP hw hK
    obtain ⟨⟨old, he⟩, hit, hne, hai, hae⟩ := st
    obtain ⟨xs, x, hq, hx⟩ := hg
    obtain ⟨its, rv, p, hz⟩ := I.tuple hq
    obtain ⟨u, hu, ru⟩ := rv.get hx
    have hel : e < s.heap.objs.size := Heap.lt_size he
    have hil : it < s.heap.objs.size := by obtain ⟨_, q, _⟩ := hit; exact Heap.lt_size q
    have hlen : i < its.toArray.size := by
      have hu' : its[i]? = some u := hu
      simpa using (List.getElem?_eq_some_iff.mp hu').1
    refine wpAny_pyNext_enum_itemD (Draws.tuple (A := X.A.in1) (show X.A.in1.handled = none from I.ok.hd hc) it a hai its.toArray) he ⟨hit, p⟩ hlen hne (by simp [hne, hae.symm]) fun x' h' tk hx' ho st' hT hsz hk => ?_
    have ex' : x' = u := by
      have q1 : its.toArray[i]? = some x' := hx'
      have q2 : its.toArray[i]? = some u := by simpa using hu
      exact Option.some.inj (q1.symm.trans q2)
    subst ex'
    refine ⟨_, rfl, wpAny_letOwnedTupleGo_enum (s := { s with heap := h', toks := tk + 1 }) ho fun h'' he' sb => ?_⟩
    have hT2 : h''.get? s.heap.objs.size = some { cls := .type "tuple", data := .seq #[.int i tk, x'] } := (sb.2 _ (Nat.ne_of_gt hel)).trans hT
    have new : ObjOk X.prog X.w (upd H s.heap.objs.size (.tup [.int (i : Nat), x])) h'' s.heap.objs.size (.tup [.int (i : Nat), x]) :=
      ⟨by show 2 ≤ sizeLine; decide, [.int i tk, x'], .cons ⟨_, rfl⟩ (.cons ru .nil), ⟨_, hT2, rfl, _, rfl⟩⟩
    have I1 : Inv X pins σ (upd H s.heap.objs.size (.tup [.int (i : Nat), x])) { s with heap := h'', toks := tk + 1 } :=
      I.turnedNew (ch := [e, it]) (fun b ob hb q => (sb.2 b (fun z => hb (by simp [z]))).trans (hk b ob (fun z => hb (by simp [z])) (fun z => hb (by simp [z])) q)) hf (Nat.le_refl _) new
    refine ⟨.ref s.heap.objs.size, _, I1, rfl, ⟨_, x, rfl, I.hok.fresh (Nat.le_refl _), rfl, fun ys hy => by rw [I.tuple_inj hy hq]; exact hx⟩, ⟨⟨x', ?_⟩, st'.1.at fun o q => (sb.2 it (Ne.symm hne)).trans q, hne, hai, hae⟩, fun b hb => ?_⟩
    · rw [show ((i + 1 : Nat) : Int) = (i : Int) + 1 by omega]
      exact he'
    · have hb' : b < s.heap.objs.size := by
        rcases (show b = e ∨ b = it by simpa using hb) with z | z <;> rw [z] <;> assumption
      rw [upd_ne (Nat.ne_of_lt hb')]
      exact (hf b hb).1
  done := by
    intro X hP hw hK hc i pins s σ H E I hf st hg
    subst hP hw hK
    obtain ⟨⟨old, he⟩, hit, hne, hai, hae⟩ := st
    obtain ⟨xs, hq, hx⟩ := hg
    obtain ⟨its, rv, p, hz⟩ := I.tuple hq
    obtain ⟨f0, f1, f2, f3, f4, f5⟩ := hf it (by simp)
    have hn : i = its.toArray.size := by
      have := rv.length
      simp
      omega
    have p' : s.heap.IsTuple a its.toArray := p
    exact wpAny_pyNext_enum_endD (Draws.tuple (A := X.A.in1) (show X.A.in1.handled = none from I.ok.hd hc) it a hai its.toArray) he ⟨by rw [← hn]; exact hit, p'⟩ fun h' eb => ⟨rfl, I.turned (t' := s.toks) (fun b o hb q => eb b o hb q) f0 f1 f3 f4 f5⟩
  self := fun A i s Q E ⟨⟨_, he⟩, _⟩ h => wpAny_pyIter_enum he h
def iEnumA (K : PySem.W.Frag) (tl : TE) : TI := fun σ H R => tl σ H fun x H1 => ∃ a xs, ([x] : List V) = [V.ref a] ∧ ((SqL K H1 a xs ∧ R (Ite K a) H1) ∨ (SqT K H1 a xs ∧ R (IteT K a) H1))
theorem pi_enumA {X : Cx} {e : Expr} {tl : TE} {p pos tpos : Pos} {elts : List Expr} {kk : Nat} (hg : Gl X "enumerate") (hm : X.mg "enumerate" = none) (he : PE X e tl) (hs : starEach [e] X.env = (false, eval e X.env) :: starEach [] X.env) :
    PI X (.Tuple elts kk tpos) (.Call (.Name "enumerate" p) [e] [] pos) (iEnumA X.K tl) := by
  refine ⟨fun pins s σ H R I h => ?_⟩
  refine Call_ (ld_blt I hg hm boot_enumerate (PyProof.Rows.callWith_type1 (thn ((pa_cons he pa_nil hs).run pos pins s σ H (fun vs H1 => ∃ a xs, vs = [.ref a] ∧ ((SqL X.K H1 a xs ∧ R (Ite X.K a) H1) ∨ (SqT X.K H1 a xs ∧ R (IteT X.K a) H1))) I h) fun us s1 ⟨vs, H1, I1, r1, q1⟩ => ?_) hs rfl))
  obtain ⟨a, xs, ex, hq⟩ := q1
  subst ex
  cases r1 with
  | cons r rr =>
    cases rr
    cases r
    have two : ∀ b, b ∈ [s1.heap.objs.size + 1, s1.heap.objs.size] → FpOk X pins H1 b := fun b hb => by
      have hle : s1.heap.objs.size ≤ b := by
        rcases (show b = s1.heap.objs.size + 1 ∨ b = s1.heap.objs.size by simpa using hb) with z | z <;> rw [z] <;> omega
      exact I1.fpOk hle (I1.hok.fresh hle)
    rcases hq with ⟨hq, q⟩ | ⟨hq, q⟩
    · obtain ⟨its, rv, p', hz⟩ := I1.list hq
      refine call_enumerate_list p'.isList fun h' he hit hsz hk => wpAny_pyIter_enum he ?_
      exact ⟨s1.heap.objs.size + 1, [s1.heap.objs.size + 1, s1.heap.objs.size], _, _, H1, rfl, I1.kept (t' := s1.toks) hk, turn_enum a (s1.heap.objs.size + 1) s1.heap.objs.size, ⟨⟨.none, he⟩, hit, Nat.succ_ne_self _⟩, two, q⟩
    · obtain ⟨its, rv, p', hz⟩ := I1.tuple hq
      have p2 : s1.heap.IsTuple a its.toArray := p'
      have ha : a < s1.heap.objs.size := by obtain ⟨_, q, _⟩ := p2; exact Heap.lt_size q
      refine enum_callT p2 fun h' he hit hsz hk => wpAny_pyIter_enum he ?_
      exact ⟨s1.heap.objs.size + 1, [s1.heap.objs.size + 1, s1.heap.objs.size], _, _, H1, rfl, I1.kept (t' := s1.toks) hk, turn_enumT a (s1.heap.objs.size + 1) s1.heap.objs.size, ⟨⟨.none, he⟩, hit, Nat.succ_ne_self _, Nat.ne_of_lt ha, Nat.ne_of_lt (Nat.lt_succ_of_lt ha)⟩, two, q⟩
section
variable {X : Cx} {e a b c it tgt : Expr} {es rest elts : List Expr} {fa : Ev → M D} {pos p tpos : Pos} {K : PySem.W.Frag} {r : Rw} {F H : Hp} {ρ : Ev} {σ : L2.St} {w : W} {i kk : Nat}
theorem enum_len (xs : List D) : (enumD xs).length = xs.length := by
  unfold enumD
  rw [List.length_zipWith, List.length_range, Nat.min_self]
theorem enum_get {xs : List D} {i : Nat} {x : D} (h : xs[i]? = some x) : (enumD xs)[i]? = some (.tuple [.int (i : Int), x]) := by
  unfold enumD
  have hi : i < xs.length := (List.getElem?_eq_some_iff.mp h).1
  rw [List.getElem?_zipWith, List.getElem?_range hi, h]
theorem ipair_rp {x : V} {d : D} {n : Int} {T : Addr} {F0 : Hp} (s0 : Sub F0 F) (s : Sub F H) (k : RowOk K r F H w) (hT : H T = none) (p : Rp F0 d x) : Nx K r F H (upd F T (.tup [.int n, x])) (upd H T (.tup [.int n, x])) w ∧ Rp (upd F T (.tup [.int n, x])) (.tuple [.int n, d]) (.ref T) :=
  pair_rp s0 s k hT (show Rp F0 (.int n) (.int n) from rfl) p
theorem jok_enumL {a : Addr} {vs : List V} {ds : List D} {F0 : Hp} (ha : r.a ≠ some a) (l : RpL F0 ds vs) : JOk K r F0 (Ite K a) (fun H => SqL K H a vs) (enumD ds) where
  go := fun i H hi h => by
    rw [enum_len] at hi
    obtain ⟨v, e, _⟩ := l.get (List.getElem?_eq_getElem hi)
    exact ⟨vs, v, h, e⟩
  stop := fun H h => ⟨vs, h, by rw [enum_len, l.length]; omega⟩
  yld := fun {i F H x H' w} hi h s0 s k ⟨T, y, e1, hT, e2, q1⟩ => by
    subst e1; subst e2
    rw [enum_len] at hi
    obtain ⟨v, e, p⟩ := l.get (List.getElem?_eq_getElem hi)
    cases Option.some.inj ((q1 vs h).symm.trans e)
    obtain ⟨n, p3⟩ := ipair_rp s0 s k hT p
    exact ⟨_, _, enum_get (List.getElem?_eq_getElem _), n, p3⟩
  keep := fun H H' h k => sql_keep ha h k
theorem jok_enumT {a : Addr} {vs : List V} {ds : List D} {F0 : Hp} (ha : r.a ≠ some a) (l : RpL F0 ds vs) : JOk K r F0 (IteT K a) (fun H => H a = some (.tup vs)) (enumD ds) where
  go := fun i H hi h => by
    rw [enum_len] at hi
    obtain ⟨v, e, _⟩ := l.get (List.getElem?_eq_getElem hi)
    exact ⟨vs, v, SqT.of h, e⟩
  stop := fun H h => ⟨vs, SqT.of h, by rw [enum_len, l.length]⟩
  yld := fun {i F H x H' w} hi h s0 s k ⟨T, y, e1, hT, e2, q1⟩ => by
    subst e1; subst e2
    rw [enum_len] at hi
    obtain ⟨v, e, p⟩ := l.get (List.getElem?_eq_getElem hi)
    cases Option.some.inj ((q1 vs (SqT.of h)).symm.trans e)
    obtain ⟨n, p3⟩ := ipair_rp s0 s k hT p
    exact ⟨_, _, enum_get (List.getElem?_eq_getElem _), n, p3⟩
  keep := fun H H' h k => k _ _ ha h
theorem i_enum (hg : Gl X "enumerate") (hm : X.mg "enumerate" = none) (hs : starEach [a] X.env = (false, eval a X.env) :: starEach [] X.env) (ha : DE X a fa) :
    DI X (.Tuple elts kk tpos) (.Call (.Name "enumerate" p) [a] [] pos) (fun ρ => bnd (bnd (bnd (fa ρ) itemsOf) fun xs => ret (.list (enumD xs))) itemsOf) := by
  refine PI_imp (pi_enumA hg hm ha hs) fun σ H R ⟨rr, F, ρ, w, s, o⟩ => ?_
  dsimp only at o
  rw [bnd_bnd, bnd_bnd] at o
  refine ⟨rr, F, ρ, w, s, (Out.bind (P := PV) (P' := PJ X.K) o).mono fun x H1 ⟨F1, d, w1, n1, p1, o1⟩ => ?_⟩
  cases d with
  | list ds =>
    obtain ⟨z1, q1, vs, rfl, h1, l1⟩ := p1.lst
    exact ⟨q1, vs, rfl, .inl ⟨SqL.of (n1.inn _ _ h1), o1 _ F1 H1 (Nx.refl n1.inn n1.row) ⟨_, jok_enumL (n1.row.ne h1) l1, fun H s => SqL.of (s _ _ h1), by rw [enum_len]; exact z1⟩⟩⟩
  | tuple ds =>
    obtain ⟨z1, q1, vs, rfl, h1, l1⟩ := p1.tup
    exact ⟨q1, vs, rfl, .inr ⟨SqT.of (n1.inn _ _ h1), o1 _ F1 H1 (Nx.refl n1.inn n1.row) ⟨_, jok_enumT (n1.row.ne h1) l1, fun H s => s _ _ h1, by rw [enum_len]; exact z1⟩⟩⟩
  | _ => exact o1.elim
end
end Dn
namespace Dn
open PySem PySem.Spec PyProof.Rows L2
set_option autoImplicit true
/-! ### list(range(..)), tuple(range(..)) -/
theorem rpl_ints (F : Hp) (lo : Int) : ∀ l : List Nat, RpL F (l.map fun (k : Nat) => PyData.int (lo + (k : Int))) (l.map fun (k : Nat) => V.int (lo + (k : Int)))
  | [] => rfl
  | k :: l => ⟨_, _, rfl, rfl, rpl_ints F lo l⟩
def RgC (i j : Int) : Prop := -(2 ^ 62) ≤ i ∧ i < 2 ^ 62 ∧ -(2 ^ 62) ≤ j ∧ j < 2 ^ 62 ∧ j - i ≤ 1000000
theorem rangeD_yes {i j : Int} (h : RgC i j) : rangeD i j = ret (.list ((List.range (j - i).toNat).map fun (k : Nat) => PyData.int (i + (k : Int)))) := if_pos h
theorem rangeD_no {i j : Int} (h : ¬ RgC i j) : rangeD i j = bad := if_neg h
theorem rg_ok {i j : Int} (h : RgC i j) : RgOk i j := by
  obtain ⟨h1, h2, h3, h4, h5⟩ := h
  exact ⟨h1, h2, h3, h4, by omega⟩
theorem rg_len {i j : Int} (h : RgC i j) : ((List.range (j - i).toNat).map fun (k : Nat) => PyData.int (i + (k : Int))).length ≤ sizeLine := by
  rw [List.length_map, List.length_range]
  exact line_of h.2.2.2.2
section
variable {X : Cx} {a b : Expr} {fa fb : Ev → M D} {pos p p2 pos2 : Pos} {K : PySem.W.Frag} {rr : Rw} {F H : Hp} {w : W}
theorem rgL {i j : Int} {Q : VK} (s : Sub F H) (k : RowOk K rr F H w) (o : Out PF K rr F H (rangeD i j w) Q) : RgOk i j ∧ ∀ q, H q = none → Q (.ref q) (upd H q (.lst (rgV i j))) := by
  by_cases hc : RgC i j
  · rw [rangeD_yes hc] at o
    refine ⟨rg_ok hc, fun q hp => ?_⟩
    have n := Nx.fresh (K := K) (r := rr) (w := w) (o := .lst (rgV i j)) s k hp
    refine o _ F _ n ⟨q, rgV i j, _, rfl, rfl, upd_same, rpl_ints F i _, ?_, hp, fun e => ?_, rg_len hc⟩
    · cases z : F q with
      | none => rfl
      | some o => rw [s q o z] at hp; cases hp
    · obtain ⟨o, z⟩ := k.there e
      rw [z] at hp; cases hp
  · rw [rangeD_no hc] at o
    exact o.elim
theorem rgT {i j : Int} {Q : VK} (s : Sub F H) (k : RowOk K rr F H w) (o : Out PV K rr F H (bnd (rangeD i j) toT w) Q) : RgOk i j ∧ ∀ q, H q = none → Q (.ref q) (upd H q (.tup (rgV i j))) := by
  by_cases hc : RgC i j
  · rw [rangeD_yes hc, bnd_ret] at o
    exact ⟨rg_ok hc, fun q hp => finT s k o hp (rg_len hc) (rpl_ints F i _)⟩
  · rw [rangeD_no hc] at o
    exact o.elim
theorem f_listR1 (hc : X.calm = true) (hl : Gl X "list") (hlm : X.mg "list" = none) (hg : Gl X "range") (hm : X.mg "range" = none) (hs : starEach [a] X.env = (false, eval a X.env) :: starEach [] X.env) (ha : DE X a fa) :
    DF X (.Call (.Name "list" p) [.Call (.Name "range" p2) [a] [] pos2] [] pos) (fun ρ => bnd (bnd (fa ρ) asI) fun j => rangeD 0 j) :=
  PE_imp (pe_listRg hc hl hlm (prg_1 hg hm ha hs)) fun σ H R ⟨rr, F, ρ, w, s, o⟩ => by
    dsimp only at o
    rw [bnd_bnd] at o
    refine ⟨rr, F, ρ, w, s, (Out.bind (P := PV) (P' := PF) o).mono fun x H1 ⟨F1, d, w1, n1, p1, o1⟩ => ?_⟩
    cases d with
    | int i => exact ⟨i, p1, rgL n1.inn n1.row o1⟩
    | _ => exact o1.elim
theorem s_tupR1 (hc : X.calm = true) (hl : Gl X "tuple") (hlm : X.mg "tuple" = none) (hg : Gl X "range") (hm : X.mg "range" = none) (hs : starEach [a] X.env = (false, eval a X.env) :: starEach [] X.env) (ha : DE X a fa) :
    DE X (.Call (.Name "tuple" p) [.Call (.Name "range" p2) [a] [] pos2] [] pos) (fun ρ => bnd (bnd (bnd (fa ρ) asI) fun j => rangeD 0 j) toT) :=
  PE_imp (pe_tupRg hc hl hlm (prg_1 hg hm ha hs)) fun σ H R ⟨rr, F, ρ, w, s, o⟩ => by
    dsimp only at o
    rw [bnd_bnd, bnd_bnd] at o
    refine ⟨rr, F, ρ, w, s, (Out.bind (P := PV) (P' := PV) o).mono fun x H1 ⟨F1, d, w1, n1, p1, o1⟩ => ?_⟩
    cases d with
    | int i => exact ⟨i, p1, rgT n1.inn n1.row o1⟩
    | _ => exact o1.elim
theorem f_listR2 (hc : X.calm = true) (hl : Gl X "list") (hlm : X.mg "list" = none) (hg : Gl X "range") (hm : X.mg "range" = none) (hs : starEach [a, b] X.env = (false, eval a X.env) :: starEach [b] X.env) (hs2 : starEach [b] X.env = (false, eval b X.env) :: starEach [] X.env) (hpl : (backTo pos2 (starEach [b] X.env)).any (·.1) = false) (ha : DE X a fa) (hb : DE X b fb) :
    DF X (.Call (.Name "list" p) [.Call (.Name "range" p2) [a, b] [] pos2] [] pos) (fun ρ => bnd (bnd (fa ρ) asI) fun i => bnd (bnd (fb ρ) asI) fun j => rangeD i j) :=
  PE_imp (pe_listRg hc hl hlm (prg_2 hg hm ha hb hs hs2 hpl)) fun σ H R ⟨rr, F, ρ, w, s, o⟩ => by
    dsimp only at o
    rw [bnd_bnd] at o
    refine ⟨rr, F, ρ, w, s, (Out.bind (P := PV) (P' := PF) o).mono fun x H1 ⟨F1, d, w1, n1, p1, o1⟩ => ?_⟩
    cases d with
    | int i =>
      dsimp only [asI] at o1
      rw [bnd_ret, bnd_bnd] at o1
      refine ⟨rr, F1, ρ, w1, s.nx n1, (Out.bind (P := PV) (P' := PF) o1).mono fun y H2 ⟨F2, u, w2, n2, p2, o2⟩ => ?_⟩
      cases u with
      | int j => exact ⟨i, j, p1, p2, rgL n2.inn n2.row o2⟩
      | _ => exact o2.elim
    | _ => exact o1.elim
end
end Dn
namespace Dn
open PySem PySem.Spec PyProof.Rows L2
set_option autoImplicit true
/-! ### the draws' row -/
section
variable {X : Cx} {e a b c it tgt : Expr} {es rest : List Expr} {f fa fb fc fe : Ev → M D} {fl : Ev → M (List D)} {ft : Ev → M Bool} {pos p p2 p3 p4 p5 : Pos} {K : PySem.W.Frag} {r : Rw} {F H F0 H0 F1 H1 : Hp} {ρ ρ' : Ev} {σ σ' : L2.St} {w w1 : W} {i j : Nat} {d : D} {v : V} {rv : Str} {kk : Nat}
theorem row_of (s : Sx K r F H ρ σ w) (e : ρ[i]? = some .row) : ∃ a t, r = some (a, t, w.ns) ∧ σ[i]? = some (some (.ref a)) ∧ F a = none ∧ (t ≠ a ∨ ∀ H', SqL K H' t (w.ns.map V.int)) ∧ H a = some (.lst [.ref t, .int w.i, .int w.s, .int w.q]) ∧ SqL K H t (w.ns.map V.int) := by
  obtain ⟨a, e1, e2⟩ := s.rw i e
  have k := s.row
  cases r with
  | none => cases e1
  | some z =>
    obtain ⟨b, t, ns⟩ := z
    have ea : b = a := Option.some.inj e1
    subst ea
    obtain ⟨h1, h2, h3, h4, h5⟩ := k
    subst h3
    exact ⟨b, t, rfl, e2, h1, h2, h4, h5⟩
theorem s_rowAt (hN : X.N[i]? = some rv) (hv : Vis X.env.scope rv) (hd : (rv == ("__debug__" : Str)) = false) (hcd : (rv == ("__classdict__" : Str)) = false) :
    DE X (.Subscript (.Name rv p) (.Constant (.int (j : Int)) kk p2) pos) (den (.rowAt i j)) :=
  PE_imp (pe_ix ix_list (pe_var hN hv hd hcd) pe_int (fun _ _ => rfl)) fun σ H Q ⟨rr, F, ρ, w, s, o⟩ => by
    simp only [den] at o
    cases e : ρ[i]? with
    | none => rw [e] at o; exact o.elim
    | some z =>
      rw [e] at o
      cases z with
      | row =>
        obtain ⟨a, t, rfl, h1, h2, h3, h4, h5⟩ := row_of s e
        refine ⟨.ref a, h1, a, [.ref t, .int w.i, .int w.s, .int w.q], (j : Int), ?_⟩
        match j, o with
        | 1, o => exact ⟨.int w.i, rfl, rfl, SqL.of h4, atI_nat (j := 1) rfl, o _ F H (Nx.refl s.sub s.row) rfl⟩
        | 2, o => exact ⟨.int w.s, rfl, rfl, SqL.of h4, atI_nat (j := 2) rfl, o _ F H (Nx.refl s.sub s.row) rfl⟩
        | 3, o => exact ⟨.int w.q, rfl, rfl, SqL.of h4, atI_nat (j := 3) rfl, o _ F H (Nx.refl s.sub s.row) rfl⟩
        | 0, o => exact o.elim
        | (n + 4), o => exact o.elim
      | _ => exact o.elim
theorem s_scrLen (hg : Gl X "len") (hm : X.mg "len" = none) (hN : X.N[i]? = some rv) (hv : Vis X.env.scope rv) (hd : (rv == ("__debug__" : Str)) = false) (hcd : (rv == ("__classdict__" : Str)) = false) :
    DE X (.Call (.Name "len" p3) [.Subscript (.Name rv p) (.Constant (.int 0) kk p2) p4] [] pos) (den (.scrLen i)) :=
  PE_imp (pe_callB call_len_seq hg hm PySem.boot_len (pa_cons (pe_ix ix_list (pe_var hN hv hd hcd) pe_int (fun _ _ => rfl)) pa_nil)) fun σ H Q ⟨rr, F, ρ, w, s, o⟩ => by
    simp only [den] at o
    cases e : ρ[i]? with
    | none => rw [e] at o; exact o.elim
    | some z =>
      rw [e] at o
      cases z with
      | row =>
        obtain ⟨a, t, rfl, h1, h2, h3, h4, h5⟩ := row_of s e
        refine ⟨.ref a, h1, a, _, 0, .ref t, rfl, rfl, SqL.of h4, atI_nat (j := 0) rfl, t, _, rfl, .inl h5, o _ F H (Nx.refl s.sub s.row) ?_⟩
        rw [List.length_map]; rfl
      | _ => exact o.elim
theorem s_scrAt (hN : X.N[i]? = some rv) (hv : Vis X.env.scope rv) (hd : (rv == ("__debug__" : Str)) = false) (hcd : (rv == ("__classdict__" : Str)) = false) (hs : PlainIx e) (he : DE X e fe) :
    DE X (.Subscript (.Subscript (.Name rv p) (.Constant (.int 0) kk p2) p4) e pos) (fun ρ => match ρ[i]? with | some .row => bnd (bnd (fe ρ) asI) fun k => fun w => (match L2.atI w.ns k with | some n => .ok (.int n) w | none => .bad) | _ => bad) :=
  PE_imp (pe_ix ix_list (pe_ix ix_list (pe_var hN hv hd hcd) pe_int (fun _ _ => rfl)) he hs) fun σ H Q ⟨rr, F, ρ, w, s, o⟩ => by
    dsimp only at o
    cases e : ρ[i]? with
    | none => rw [e] at o; exact o.elim
    | some z =>
      rw [e] at o
      cases z with
      | row =>
        obtain ⟨a, t, rfl, h1, h2, h3, h4, h5⟩ := row_of s e
        dsimp only at o
        rw [bnd_bnd] at o
        refine ⟨.ref a, h1, a, _, 0, .ref t, rfl, rfl, SqL.of h4, atI_nat (j := 0) rfl, _, F, ρ, w, s, (Out.bind (P := PV) o).mono fun x H1 ⟨F1, d, w1, n1, p1, o1⟩ => ?_⟩
        cases d with
        | int k =>
          dsimp only [asI] at o1
          rw [bnd_ret] at o1
          cases q : atI w1.ns k with
          | none => rw [q] at o1; exact o1.elim
          | some n =>
            rw [q] at o1
            obtain ⟨k1, k2, k3, k4, k5⟩ := n1.row
            refine ⟨t, _, k, .int n, rfl, p1, k5, ?_, o1 _ F1 H1 (Nx.refl n1.inn n1.row) rfl⟩
            rw [k3] at q
            unfold atI at q ⊢
            rw [List.length_map]
            cases q' : ixN w.ns.length k with
            | none => rw [q'] at q; cases q
            | some m =>
              rw [q'] at q
              show (w.ns.map V.int)[m]? = _
              rw [List.getElem?_map, show w.ns[m]? = some n from q]
              rfl
        | _ => exact o1.elim
      | _ => exact o.elim
/-! ### statements -/
structure Sb (K : PySem.W.Frag) (r : Rw) (F0 H0 F H : Hp) (ρ : Ev) (σ : L2.St) (w : W) : Prop where
  sx : Sx K r F H ρ σ w
  nx : Nx K r F0 H0 F H w
  fr : ∀ (i : Nat) l p, ρ[i]? = some (.own l) → σ[i]? = some (some (V.ref p)) → H0 p = none
def OutS (K : PySem.W.Frag) (r : Rw) (F0 H0 : Hp) (m : R O) (T : Ends) : Prop := match m with
  | .ok (.nx ρ) w => ∀ σ F H, Sb K r F0 H0 F H ρ σ w → T.nx σ H
  | .ok (.rt d) w => ∀ v F H, Nx K r F0 H0 F H w → Rp F d v → T.rt v H
  | _ => False
def tSt (K : PySem.W.Frag) (f : Ev → M O) : TS := fun T σ H => ∃ r F0 H0 F ρ w, Sb K r F0 H0 F H ρ σ w ∧ OutS K r F0 H0 (f ρ w) T
theorem Sb.step (s : Sb K r F0 H0 F H ρ σ w) (n : Nx K r F H F1 H1 w1) : Sb K r F0 H0 F1 H1 ρ σ w1 := ⟨s.sx.nx n, s.nx.trans n, s.fr⟩
theorem OutS.bind {α β : Type} {P : Kind α β} {m : M α} {k : α → M O} {T : Ends} (h : OutS K r F0 H0 (bnd m k w) T) :
    Out P K r F H (m w) fun b H1 => ∃ F1 a w1, Nx K r F H F1 H1 w1 ∧ P r H F1 H1 a b ∧ OutS K r F0 H0 (k a w1) T := by
  unfold bnd at h
  cases e : m w with
  | ok a w1 => rw [e] at h; exact fun b F' H' n p => ⟨F', a, w1, n, p, h⟩
  | exc c xs w1 => rw [e] at h; exact h
  | bad => rw [e] at h; exact h
theorem OutS.mono {m : R O} {T T' : Ends} (h : OutS K r F0 H0 m T) (q : ∀ σ H, T.nx σ H → T'.nx σ H) (q' : ∀ v H, T.rt v H → T'.rt v H) : OutS K r F0 H0 m T' := by
  cases m with
  | ok o w =>
    cases o with
    | nx ρ => exact fun σ F H s => q _ _ (h σ F H s)
    | rt d => exact fun v F H n p => q' _ _ (h v F H n p)
  | exc c xs w => exact h
  | bad => exact h
abbrev DSt (X : Cx) (st : Stmt) (f : Ev → M O) : Prop := PS X st (tSt X.K f)
abbrev DSs (X : Cx) (st : List Stmt) (f : Ev → M O) : Prop := PSs X st (tSt X.K f)
theorem PS_imp {st : Stmt} {t t' : TS} (h : PS X st t) (i : ∀ T σ H, t' T σ H → t T σ H) : PS X st t' := ⟨fun pins s σ H T I q => h.run pins s σ H T I (i T σ H q)⟩
theorem PSs_imp {st : List Stmt} {t t' : TS} (h : PSs X st t) (i : ∀ T σ H, t' T σ H → t T σ H) : PSs X st t' := ⟨fun pins s σ H T I q => h.run pins s σ H T I (i T σ H q)⟩
def seqO (f g : Ev → M O) : Ev → M O := fun ρ => bnd (f ρ) fun o => match o with | .nx ρ' => g ρ' | .rt d => ret (.rt d)
theorem OutS.seq {f g : Ev → M O} {T : Ends} (h : OutS K r F0 H0 (seqO f g ρ w) T) : OutS K r F0 H0 (f ρ w) { T with nx := fun σ H => ∃ F ρ w, Sb K r F0 H0 F H ρ σ w ∧ OutS K r F0 H0 (g ρ w) T } := by
  unfold seqO bnd at h
  cases e : f ρ w with
  | ok o w1 =>
    rw [e] at h
    cases o with
    | nx ρ' => exact fun σ F H s => ⟨F, ρ', w1, s, h⟩
    | rt d => exact h
  | exc c xs w1 => rw [e] at h; exact h
  | bad => rw [e] at h; exact h
section
variable {st : Stmt} {sts body : List Stmt} {g h k : Ev → M O}
theorem ss_nil : DSs X [] (fun ρ => ret (.nx ρ)) := PSs_imp pss_nil fun T σ H ⟨r, F0, H0, F, ρ, w, s, o⟩ => o σ F H s
theorem ss_cons (h1 : DSt X st g) (h2 : DSs X sts h) : DSs X (st :: sts) (seqO g h) :=
  PSs_imp (pss_cons h1 h2) fun T σ H ⟨r, F0, H0, F, ρ, w, s, o⟩ => ⟨r, F0, H0, F, ρ, w, s, (OutS.seq o).mono (fun σ H ⟨F, ρ, w, s, o⟩ => ⟨r, F0, H0, F, ρ, w, s, o⟩) fun _ _ q => q⟩
theorem st_ret (h : DE X e fe) : DSt X (.Return (some e) pos) (fun ρ => bnd (fe ρ) fun d => ret (.rt d)) :=
  PS_imp (ps_ret h) fun T σ H ⟨r, F0, H0, F, ρ, w, s, o⟩ => ⟨r, F, ρ, w, s.sx, (OutS.bind (P := PV) o).mono fun v H1 ⟨F1, d, w1, n1, p1, o1⟩ => o1 v F1 H1 (s.nx.trans n1) p1⟩
theorem st_expr (h : DE X e fe) (hs : swapsWith e none pos.line X.env = pure false) : DSt X (.Expr e pos) (fun ρ => bnd (fe ρ) fun _ => ret (.nx ρ)) :=
  PS_imp (ps_expr h hs) fun T σ H ⟨r, F0, H0, F, ρ, w, s, o⟩ => ⟨r, F, ρ, w, s.sx, (OutS.bind (P := PV) o).mono fun v H1 ⟨F1, d, w1, n1, p1, o1⟩ => o1 σ F1 H1 (s.step n1)⟩
theorem st_if (hc : DT X c ft) (ha : DSs X sts g) (hb : DSs X body h) : DSt X (.If c sts body pos) (fun ρ => bnd (ft ρ) fun k => if k then g ρ else h ρ) :=
  PS_imp (ps_if hc ha hb) fun T σ H ⟨r, F0, H0, F, ρ, w, s, o⟩ => ⟨r, F, ρ, w, s.sx, (OutS.bind (P := PB) o).mono fun b H1 ⟨F1, d, w1, n1, p1, o1⟩ => by
    cases (show d = b from p1)
    cases b with
    | true => exact ⟨r, F0, H0, F1, ρ, w1, s.step n1, o1⟩
    | false => exact ⟨r, F0, H0, F1, ρ, w1, s.step n1, o1⟩⟩
/-- name = value, through whatever rule stores it -/
theorem setV_read {T : Ends} {σ : L2.St} (q : tSt K (fun ρ => bnd (fe ρ) fun d => match bindT (.nm i) d ρ with | some ρ' => ret (.nx ρ') | none => bad) T σ H) : tAsg (tOut PV K fe) (gName i) T σ H := by
  obtain ⟨r, F0, H0, F, ρ, w, s, o⟩ := q
  refine ⟨r, F, ρ, w, s.sx, (OutS.bind (P := PV) o).mono fun v H1 ⟨F1, d, w1, n1, p1, o1⟩ => ?_⟩
  have s1 := s.step n1
  refine o1 (σ.set i (some v)) F1 H1 ⟨s1.sx.setV p1, s1.nx, fun j l p e1 e2 => ?_⟩
  rcases get_set e1 with ⟨rfl, z⟩ | ⟨ne, z⟩
  · cases z
  · rw [List.getElem?_set_ne (Ne.symm ne)] at e2
    exact s1.fr j l p z e2
theorem st_set {x : Str} (hN : X.N.Nodup) (hi : X.N[i]? = some x) (hx : Loc X.env.scope x) (hf : X.fn x = true) (he : DE X e fe) (hs : swapsWith e (some (.Name x p)) pos.line X.env = pure false) :
    DSt X (.Assign [.Name x p] e pos) (fun ρ => bnd (fe ρ) fun d => match bindT (.nm i) d ρ with | some ρ' => ret (.nx ρ') | none => bad) :=
  PS_imp (ps_set hN hi hx he hs (.inl hf)) fun T σ H q => setV_read q
theorem bind_own : ∀ (t : Tg) (d : D) (ρ ρ' : Ev), bindT t d ρ = some ρ' → ∀ (i : Nat) l, ρ'[i]? = some (.own l) → i ∉ t.slots ∧ ρ[i]? = some (.own l)
  | .nm j, d, ρ, ρ', e, i, l, h => by
    cases (show some (ρ.set j (.val d)) = some ρ' from e)
    rcases get_set h with ⟨rfl, z⟩ | ⟨ne, z⟩
    · cases z
    · exact ⟨by simpa [Tg.slots] using ne, z⟩
  | .tup ts, .tuple ds, ρ, ρ', e, i, l, h => bind_own ts (.list ds) ρ ρ' e i l h
  | .tnil, .list [], ρ, ρ', e, i, l, h => by
    cases (show some ρ = some ρ' from e)
    exact ⟨by simp [Tg.slots], h⟩
  | .tcons t u, .list (d :: ds), ρ, ρ', e, i, l, h => by
    rw [show bindT (.tcons t u) (.list (d :: ds)) ρ = (match bindT t d ρ with | some ρ' => bindT u (.list ds) ρ' | none => none) from rfl] at e
    cases k : bindT t d ρ with
    | none => rw [k] at e; cases e
    | some ρ1 =>
      rw [k] at e
      obtain ⟨h1, h2⟩ := bind_own u (.list ds) ρ1 ρ' e i l h
      obtain ⟨h3, h4⟩ := bind_own t d ρ ρ1 k i l h2
      exact ⟨by rw [Tg.slots, List.mem_append, not_or]; exact ⟨h3, h1⟩, h4⟩
  | .tup _, .none, _, _, e, _, _, _ => by cases e
  | .tup _, .bool _, _, _, e, _, _, _ => by cases e
  | .tup _, .int _, _, _, e, _, _, _ => by cases e
  | .tup _, .str _, _, _, e, _, _, _ => by cases e
  | .tup _, .list _, _, _, e, _, _, _ => by cases e
  | .tup _, .dict _, _, _, e, _, _, _ => by cases e
  | .tnil, .none, _, _, e, _, _, _ => by cases e
  | .tnil, .bool _, _, _, e, _, _, _ => by cases e
  | .tnil, .int _, _, _, e, _, _, _ => by cases e
  | .tnil, .str _, _, _, e, _, _, _ => by cases e
  | .tnil, .list (_ :: _), _, _, e, _, _, _ => by cases e
  | .tnil, .tuple _, _, _, e, _, _, _ => by cases e
  | .tnil, .dict _, _, _, e, _, _, _ => by cases e
  | .tcons _ _, .none, _, _, e, _, _, _ => by cases e
  | .tcons _ _, .bool _, _, _, e, _, _, _ => by cases e
  | .tcons _ _, .int _, _, _, e, _, _, _ => by cases e
  | .tcons _ _, .str _, _, _, e, _, _, _ => by cases e
  | .tcons _ _, .list [], _, _, e, _, _, _ => by cases e
  | .tcons _ _, .tuple _, _, _, e, _, _, _ => by cases e
  | .tcons _ _, .dict _, _, _, e, _, _, _ => by cases e
theorem Sb.bound {t : Tg} (s : Sb K r F0 H0 F H ρ σ w) (e : bindT t d ρ = some ρ') (x : Sx K r F H ρ' σ' w) (o : Off t.slots σ σ') : Sb K r F0 H0 F H ρ' σ' w := ⟨x, s.nx, fun i l p h1 h2 => by
  obtain ⟨h3, h4⟩ := bind_own t d ρ ρ' e i l h1
  rw [o.2 i h3] at h2
  exact s.fr i l p h4 h2⟩
theorem st_asg {t : Tg} (he : DE X e fe) (hg : PG X tgt (tG X.K t)) (hs : swapsWithSole [tgt] e pos.line X.env = pure false) (hw : swappedStores [tgt] e X.env = pure none) (h1 : (assignEach [tgt] X.env).map (·.2) = [assign tgt X.env]) :
    DSt X (.Assign [tgt] e pos) (fun ρ => bnd (fe ρ) fun d => match bindT t d ρ with | some ρ' => ret (.nx ρ') | none => bad) :=
  PS_imp (ps_asg he hg hs hw h1) fun T σ H ⟨r, F0, H0, F, ρ, w, s, o⟩ => ⟨r, F, ρ, w, s.sx, (OutS.bind (P := PV) o).mono fun v H1 ⟨F1, d, w1, n1, p1, o1⟩ => by
    have s1 := s.step n1
    cases k : bindT t d ρ with
    | none => rw [k] at o1; exact o1.elim
    | some ρ' =>
      rw [k] at o1
      exact ⟨r, F1, ρ, w1, d, ρ', s1.sx, p1, k, fun σ' x off => o1 σ' F1 H1 (s1.bound k x off)⟩⟩
/-! own lists -/
theorem Sb.setOwn {p : Addr} {vs : List V} {l : List D} (s : Sb K r F0 H0 F H ρ σ w) (hp : H p = some (.lst vs)) (q : RpL F l vs) (fp : F p = none) (off : RwOff K r p) (z : l.length ≤ sizeLine) (h0 : H0 p = none)
    (hne : ∀ (j : Nat) m, ρ[j]? = some (.own m) → σ[j]? ≠ some (some (V.ref p))) : Sb K r F0 H0 F H (ρ.set i (.own l)) (σ.set i (some (.ref p))) w where
  sx := {
    sub := s.sx.sub
    row := s.sx.row
    len := by rw [List.length_set, List.length_set]; exact s.sx.len
    val := fun j u e => by
      rcases get_set e with ⟨rfl, z⟩ | ⟨ne, z⟩
      · cases z
      · obtain ⟨u, h1, h2⟩ := s.sx.val j u z
        exact ⟨u, by rw [List.getElem?_set_ne (Ne.symm ne)]; exact h1, h2⟩
    own := fun j m e => by
      rcases get_set e with ⟨rfl, k⟩ | ⟨ne, k⟩
      · cases k
        exact ⟨p, vs, by rw [List.getElem?_set_self (by rw [← s.sx.len]; exact lt_of_set e)], hp, q, fp, off, z⟩
      · obtain ⟨p, vs, h1, h2⟩ := s.sx.own j m k
        exact ⟨p, vs, by rw [List.getElem?_set_ne (Ne.symm ne)]; exact h1, h2⟩
    rw := fun j e => by
      rcases get_set e with ⟨rfl, k⟩ | ⟨ne, k⟩
      · cases k
      · obtain ⟨p, h1, h2⟩ := s.sx.rw j k
        exact ⟨p, h1, by rw [List.getElem?_set_ne (Ne.symm ne)]; exact h2⟩
    inj := fun j k m m' p' e1 e2 e3 e4 => by
      rcases get_set e1 with ⟨rfl, z1⟩ | ⟨n1, z1⟩
      · rcases get_set e2 with ⟨rfl, z2⟩ | ⟨n2, z2⟩
        · rfl
        · rw [List.getElem?_set_self (by rw [← s.sx.len]; exact lt_of_set e1)] at e3
          cases e3
          rw [List.getElem?_set_ne (Ne.symm n2)] at e4
          exact absurd e4 (hne k m' z2)
      · rw [List.getElem?_set_ne (Ne.symm n1)] at e3
        rcases get_set e2 with ⟨rfl, z2⟩ | ⟨n2, z2⟩
        · rw [List.getElem?_set_self (by rw [← s.sx.len]; exact lt_of_set e2)] at e4
          cases e4
          exact absurd e3 (hne j m z1)
        · rw [List.getElem?_set_ne (Ne.symm n2)] at e4
          exact s.sx.inj j k m m' p' z1 z2 e3 e4 }
  nx := s.nx
  fr := fun j m p' e1 e2 => by
    rcases get_set e1 with ⟨rfl, z1⟩ | ⟨n1, z1⟩
    · rw [List.getElem?_set_self (by rw [← s.sx.len]; exact lt_of_set e1)] at e2
      cases e2
      exact h0
    · rw [List.getElem?_set_ne (Ne.symm n1)] at e2
      exact s.fr j m p' z1 e2
theorem newL_read {T : Ends} {σ : L2.St} (q : tSt K (fun ρ => bnd (fe ρ) fun d => match d with | .list l => ret (.nx (ρ.set i (.own l))) | _ => bad) T σ H) : tAsg (tOut PF K fe) (gName i) T σ H := by
  obtain ⟨r, F0, H0, F, ρ, w, s, o⟩ := q
  refine ⟨r, F, ρ, w, s.sx, (OutS.bind (P := PF) o).mono fun v H1 ⟨F1, d, w1, n1, p1, o1⟩ => ?_⟩
  obtain ⟨p, vs, l, rfl, rfl, h1, h2, h3, h4, h5, h6⟩ := p1
  have s1 := s.step n1
  refine o1 (σ.set i (some (.ref p))) F1 H1 (s1.setOwn h1 h2 h3 (s.sx.row.off h4) h6 (s.nx.non h4) fun j m e1 e2 => ?_)
  obtain ⟨p', vs', k1, k2, _⟩ := s.sx.own j m e1
  rw [k1] at e2
  cases e2
  rw [k2] at h4; cases h4
theorem st_newL {x : Str} (hN : X.N.Nodup) (hi : X.N[i]? = some x) (hx : Loc X.env.scope x) (hf : X.fn x = true) (he : DF X e fe) (hs : swapsWith e (some (.Name x p)) pos.line X.env = pure false) :
    DSt X (.Assign [.Name x p] e pos) (fun ρ => bnd (fe ρ) fun d => match d with | .list l => ret (.nx (ρ.set i (.own l))) | _ => bad) :=
  PS_imp (ps_set hN hi hx he hs (.inl hf)) fun T σ H q => newL_read q
/-- name = [.. for ..] -/
theorem comp_set {T : Ends} {σ : L2.St} {tg : Tg} (q : tAsg (tOut PF K (fun ρ => bnd (fl ρ) fun ds => bnd (mapD (bodyD tg ft fe ρ) ds) fun out => ret (.list out))) (gName i) T σ H) : tAsg (tLc (tIo K fl) (tG K tg) (tOut PB K ft) (tOut PV K fe) tg.slots) (gName i) T σ H := comp_read σ H _ q
theorem freeze_set {T : Ends} {σ : L2.St} {fe : Ev → M D} (q : tAsg (tOut PV K fe) (gName i) T σ H) : tAsg (tOut PF K fe) (gName i) T σ H := by
  obtain ⟨r, F, ρ, w, s, o⟩ := q
  refine ⟨r, F, ρ, w, s, ?_⟩
  revert o
  cases fe ρ w with
  | ok d w' =>
    intro o v F' H' n p
    obtain ⟨p, vs, l, rfl, rfl, h1, h2, h3, h4, h5, h6⟩ := p
    exact o _ _ _ (n.freeze h1 h3 h4 h5) ⟨h6, p, vs, rfl, upd_same, RpL.mono (sub_upd h3) _ _ h2⟩
  | exc _ _ _ => exact fun o => o
  | bad => exact fun o => o
theorem own_of {l : List D} (s : Sb K r F0 H0 F H ρ σ w) (e : ρ[i]? = some (.own l)) : ∃ p vs, σ[i]? = some (some (.ref p)) ∧ H p = some (.lst vs) ∧ RpL F l vs ∧ F p = none ∧ RwOff K r p ∧ l.length ≤ sizeLine ∧ H0 p = none := by
  obtain ⟨p, vs, h1, h2, h3, h4, h5, h6⟩ := s.sx.own i l e
  exact ⟨p, vs, h1, h2, h3, h4, h5, h6, s.fr i l p e h1⟩
theorem set_id {α : Type} {l : List α} {i : Nat} {x : α} (h : l[i]? = some x) : l.set i x = l := by
  apply List.ext_getElem?
  intro j
  by_cases e : j = i
  · subst e
    rw [List.getElem?_set_self (List.getElem?_eq_some_iff.mp h).1, h]
  · rw [List.getElem?_set_ne (Ne.symm e)]
/-- an own list changed -/
theorem Sb.write {l l' : List D} {vs' : List V} {p : Addr} {vs : List V} (s : Sb K r F0 H0 F H ρ σ w) (e : ρ[i]? = some (.own l)) (h1 : σ[i]? = some (some (.ref p))) (h2 : H p = some (.lst vs)) (q : RpL F l' vs') (z : l'.length ≤ sizeLine) :
    Sb K r F0 H0 F (upd H p (.lst vs')) (ρ.set i (.own l')) σ w := by
  obtain ⟨p', vs0, k1, k2, k3, k4, k5, k6, k7⟩ := own_of s e
  rw [h1] at k1
  cases k1
  have hs : Sub F (upd H p (.lst vs')) := fun a o q => by rw [upd_ne (ne_of_none q k4)]; exact s.sx.sub a o q
  have hr : RowOk K r F (upd H p (.lst vs')) w := row_upd k5 (row_undel k5 s.sx.row)
  refine ⟨⟨hs, hr, by rw [List.length_set]; exact s.sx.len, fun j u e' => ?_, fun j m e' => ?_, fun j e' => ?_, fun j k m m' p' e1 e2 e3 e4 => ?_⟩, ⟨s.nx.sub, hs, fun a o h q => ?_, s.nx.new, hr⟩, fun j m p' e1 e2 => ?_⟩
  · rcases get_set e' with ⟨rfl, z⟩ | ⟨ne, z⟩
    · cases z
    · exact s.sx.val j u z
  · rcases get_set e' with ⟨rfl, k⟩ | ⟨ne, k⟩
    · cases k
      exact ⟨p, vs', h1, upd_same, q, k4, k5, z⟩
    · obtain ⟨p2, vs2, j1, j2, j3⟩ := s.sx.own j m k
      refine ⟨p2, vs2, j1, ?_, j3⟩
      rw [upd_ne fun e2 => ne (s.sx.inj j i m l p2 k e j1 (by rw [h1, e2]))]
      exact j2
  · rcases get_set e' with ⟨rfl, z⟩ | ⟨ne, z⟩
    · cases z
    · exact s.sx.rw j z
  · have g : ∀ {j : Nat} {m}, (ρ.set i (.own l'))[j]? = some (.own m) → ∃ m2, ρ[j]? = some (.own m2) := fun {j m} e' => by
      rcases get_set e' with ⟨rfl, z⟩ | ⟨ne, z⟩
      · exact ⟨l, e⟩
      · exact ⟨m, z⟩
    obtain ⟨m2, g1⟩ := g e1
    obtain ⟨m3, g2⟩ := g e2
    exact s.sx.inj j k m2 m3 p' g1 g2 e3 e4
  · have ap : a ≠ p := fun e' => by rw [e', k7] at q; cases q
    rw [upd_ne ap]
    exact s.nx.keep a o h q
  · rcases get_set e1 with ⟨rfl, z⟩ | ⟨ne, z⟩
    · exact s.fr j l p' e e2
    · exact s.fr j m p' z e2
theorem pvx (hN : X.N[i]? = some rv) (hv : Vis X.env.scope rv) (hd : (rv == ("__debug__" : Str)) = false) (hcd : (rv == ("__classdict__" : Str)) = false) : PE X (.Name rv p) (tVar i) := pe_var hN hv hd hcd
theorem st_app (hN : X.N[i]? = some rv) (hv : Vis X.env.scope rv) (hd : (rv == ("__debug__" : Str)) = false) (hcd : (rv == ("__classdict__" : Str)) = false) (hs : starEach [e] X.env = (false, eval e X.env) :: starEach [] X.env) (hline : (p2.endLine == p3.line) = true) (he : DE X e fe)
    (hfew : ((backTo p3 (starEach [e] X.env)).all (fun x => !x.1) && (backToKw p3 (keywordEach [] X.env)).all (fun x => x.1.isSome) && decide ([e].length + ([] : List Keyword).length + (if ([] : List Keyword).isEmpty then 0 else 1) < 30)) = true) :
    DSt X (.Expr (.Call (.Attribute (.Name rv p) "append" p2) [e] [] p3) pos) (fun ρ => match ρ[i]? with
      | some (.own l) => bnd (fe ρ) fun d => if l.length < sizeLine then ret (.nx (ρ.set i (.own (l ++ [d])))) else bad
      | _ => bad) :=
  PS_imp (ps_expr (pe_bm PySem.F.plainAttrs_list PySem.F.slot_list_append PySem.F.type_list_append mt_append (pvx hN hv hd hcd) (pa_cons he pa_nil hs) (by rfl) hfew hline hs) (by rfl)) fun T σ H ⟨r, F0, H0, F, ρ, w, s, o⟩ => by
    dsimp only at o
    cases k : ρ[i]? with
    | none => rw [k] at o; exact o.elim
    | some sl =>
      rw [k] at o
      cases sl with
      | own l =>
        obtain ⟨q, vs, h1, h2, h3, h4, h5, h6, h7⟩ := own_of s k
        refine ⟨.ref q, h1, .inl ⟨rfl, _, SqL.of h2⟩, r, F, ρ, w, s.sx, (OutS.bind (P := PV) o).mono fun v H1 ⟨F1, d, w1, n1, p1, o1⟩ => ?_⟩
        have h2' := n1.keep _ _ h5.ne h2
        refine ⟨q, vs, v, rfl, rfl, h2', ?_⟩
        by_cases hl : l.length < sizeLine
        · rw [if_pos hl] at o1
          exact ⟨by rw [← h3.length]; exact hl, o1 _ F1 _ ((s.step n1).write k h1 h2' ((RpL.mono n1.sub _ _ h3).append (RpL.cons p1 RpL.nil)) (by rw [List.length_append]; exact hl))⟩
        · rw [if_neg hl] at o1; exact o1.elim
      | _ => exact o.elim
end
end
end Dn
namespace Dn
open PySem PySem.Spec PyProof.Rows L2
set_option autoImplicit true
section
variable {X : Cx} {e a b c it tgt : Expr} {es rest : List Expr} {f fa fb fc fe fk : Ev → M D} {fl : Ev → M (List D)} {ft : Ev → M Bool} {pos p p2 p3 p4 p5 p6 p7 : Pos} {K : PySem.W.Frag} {r : Rw} {F H F0 H0 F1 H1 : Hp} {ρ ρ' : Ev} {σ σ' : L2.St} {w w1 : W} {i j : Nat} {d : D} {v : V} {rv rx : Str} {kk : Nat}
variable {st : Stmt} {sts body : List Stmt} {g h k : Ev → M O}
theorem st_ext (hN : X.N[i]? = some rv) (hv : Vis X.env.scope rv) (hd : (rv == ("__debug__" : Str)) = false) (hcd : (rv == ("__classdict__" : Str)) = false) (hs : starEach [e] X.env = (false, eval e X.env) :: starEach [] X.env) (hline : (p2.endLine == p3.line) = true) (he : DE X e fe)
    (hfew : ((backTo p3 (starEach [e] X.env)).all (fun x => !x.1) && (backToKw p3 (keywordEach [] X.env)).all (fun x => x.1.isSome) && decide ([e].length + ([] : List Keyword).length + (if ([] : List Keyword).isEmpty then 0 else 1) < 30)) = true) :
    DSt X (.Expr (.Call (.Attribute (.Name rv p) "extend" p2) [e] [] p3) pos) (fun ρ => match ρ[i]? with
      | some (.own l) => bnd (fe ρ) fun d => match d with | .list m => if l.length + m.length ≤ sizeLine then ret (.nx (ρ.set i (.own (l ++ m)))) else bad | _ => bad
      | _ => bad) :=
  PS_imp (ps_expr (pe_bm PySem.F.plainAttrs_list PySem.F.slot_list_extend PySem.F.type_list_extend mt_extend (pvx hN hv hd hcd) (pa_cons he pa_nil hs) (by rfl) hfew hline hs) (by rfl)) fun T σ H ⟨r, F0, H0, F, ρ, w, s, o⟩ => by
    dsimp only at o
    cases k : ρ[i]? with
    | none => rw [k] at o; exact o.elim
    | some sl =>
      rw [k] at o
      cases sl with
      | own l =>
        obtain ⟨q, vs, h1, h2, h3, h4, h5, h6, h7⟩ := own_of s k
        refine ⟨.ref q, h1, .inl ⟨rfl, _, SqL.of h2⟩, r, F, ρ, w, s.sx, (OutS.bind (P := PV) o).mono fun v H1 ⟨F1, d, w1, n1, p1, o1⟩ => ?_⟩
        have h2' := n1.keep _ _ h5.ne h2
        cases d with
        | list m =>
          obtain ⟨z, b, us, rfl, hb, l2⟩ := p1.lst
          dsimp only at o1
          by_cases hl : l.length + m.length ≤ sizeLine
          · rw [if_pos hl] at o1
            exact ⟨q, b, vs, us, rfl, rfl, h2', n1.inn _ _ hb, by rw [← h3.length, ← l2.length]; exact hl, o1 _ F1 _ ((s.step n1).write k h1 h2' ((RpL.mono n1.sub _ _ h3).append l2) (by rw [List.length_append]; exact hl))⟩
          · rw [if_neg hl] at o1; exact o1.elim
        | _ => exact o1.elim
      | _ => exact o.elim
theorem st_setIx (hN : X.N[i]? = some rv) (hv : Vis X.env.scope rv) (hd : (rv == ("__debug__" : Str)) = false) (hcd : (rv == ("__classdict__" : Str)) = false) (he : DE X e fe) (hk : DE X a fk)
    (hs : swapsWithSole [.Subscript (.Name rv p) a p2] e pos.line X.env = pure false) (hw : swappedStores [.Subscript (.Name rv p) a p2] e X.env = pure none)
    (hsub : ∀ v, assign (.Subscript (.Name rv p) a p2) X.env v = (do
      let ov ← holding [v] (eval (.Name rv p) X.env)
      let iv ← holding [v, ov] (eval a X.env)
      standAt p2
      holding [v, ov, iv] (setItem ov iv v)
      release [v, ov, iv] [])) :
    DSt X (.Assign [.Subscript (.Name rv p) a p2] e pos) (fun ρ => bnd (fe ρ) fun d => match ρ[i]? with
      | some (.own l) => bnd (bnd (fk ρ) asI) fun n => (match ixN l.length n with | some j => ret (.nx (ρ.set i (.own (l.set j d)))) | none => bad)
      | _ => bad) :=
  PS_imp (ps_asg he (pg_sub (pvx hN hv hd hcd) hk set_list hsub) hs hw (by rfl)) fun T σ H ⟨r, F0, H0, F, ρ, w, s, o⟩ => ⟨r, F, ρ, w, s.sx, (OutS.bind (P := PV) o).mono fun v H1 ⟨F1, d, w1, n1, p1, o1⟩ => by
    have s1 := s.step n1
    cases k : ρ[i]? with
    | none => rw [k] at o1; exact o1.elim
    | some sl =>
      rw [k] at o1
      cases sl with
      | own l =>
        obtain ⟨q, vs, h1, h2, h3, h4, h5, h6, h7⟩ := own_of s1 k
        dsimp only at o1
        rw [bnd_bnd] at o1
        refine ⟨.ref q, h1, r, F1, ρ, w1, s1.sx, (OutS.bind (P := PV) o1).mono fun u H2 ⟨F2, dn, w2, n2, p2, o2⟩ => ?_⟩
        have h2' := n2.keep _ _ h5.ne h2
        cases dn with
        | int n =>
          dsimp only [asI] at o2
          rw [bnd_ret] at o2
          cases kx : ixN l.length n with
          | none => rw [kx] at o2; exact o2.elim
          | some j =>
            rw [kx] at o2
            have s2 := s1.step n2
            refine ⟨q, vs, n, j, rfl, p2, h2', by rw [← h3.length]; exact kx, o2 _ F2 _ (s2.write k h1 h2' ((RpL.mono n2.sub _ _ h3).set (Rp.mono n2.sub _ _ p1) j) (by rw [List.length_set]; exact h6))⟩
        | _ => exact o2.elim
      | _ => exact o1.elim⟩
theorem st_rowSet (hN : X.N[i]? = some rv) (hv : Vis X.env.scope rv) (hd : (rv == ("__debug__" : Str)) = false) (hcd : (rv == ("__classdict__" : Str)) = false) (he : DE X e fe)
    (hs : swapsWithSole [.Subscript (.Name rv p) (.Constant (.int (j : Int)) kk p3) p2] e pos.line X.env = pure false) (hw : swappedStores [.Subscript (.Name rv p) (.Constant (.int (j : Int)) kk p3) p2] e X.env = pure none) :
    DSt X (.Assign [.Subscript (.Name rv p) (.Constant (.int (j : Int)) kk p3) p2] e pos) (fun ρ => match ρ[i]? with
      | some .row => bnd (bnd (fe ρ) asI) fun v => fun w => (match setW w j v with | some w' => .ok (.nx ρ) w' | none => .bad)
      | _ => bad) :=
  PS_imp (ps_asg he (pg_sub (pvx hN hv hd hcd) pe_int set_list) hs hw (by rfl)) fun T σ H ⟨r, F0, H0, F, ρ, w, s, o⟩ => by
    dsimp only at o
    cases k : ρ[i]? with
    | none => rw [k] at o; exact o.elim
    | some sl =>
      rw [k] at o
      cases sl with
      | row =>
        dsimp only at o
        rw [bnd_bnd] at o
        refine ⟨r, F, ρ, w, s.sx, (OutS.bind (P := PV) o).mono fun v H1 ⟨F1, d, w1, n1, p1, o1⟩ => ?_⟩
        have s1 := s.step n1
        obtain ⟨ra, t, rfl, h1, h2, h3, h4, h5⟩ := row_of s1.sx k
        cases d with
        | int n =>
          dsimp only [asI] at o1
          rw [bnd_ret] at o1
          have fin : ∀ (w' : W) (xs : List V) (m : Nat), w'.ns = w1.ns → ixN 4 (j : Int) = some m → [V.ref t, .int w1.i, .int w1.s, .int w1.q].set m v = [.ref t, .int w'.i, .int w'.s, .int w'.q] → OutS X.K (some (ra, t, w1.ns)) F0 H0 (.ok (.nx ρ) w') T →
              gSub (tVar i) (tC (.int (j : Int))) rSetL v σ H1 T.nx := fun w' xs m e1 e2 e3 o => by
            refine ⟨.ref ra, h1, ra, _, (j : Int), m, rfl, rfl, h4, e2, ?_⟩
            rw [e3]
            have hr : RowOk X.K (some (ra, t, w1.ns)) F1 (upd H1 ra (.lst [.ref t, .int w'.i, .int w'.s, .int w'.q])) w' := by
              refine ⟨h2, h3, e1, upd_same, ?_⟩
              rcases h3 with h3 | h3
              case inr => exact h3 _
              rcases h5 with (h5 | ⟨o, h5⟩) | h5
              · exact .inl (.inl (by rw [upd_ne h3]; exact h5))
              · exact .inl (.inr ⟨o, by rw [upd_ne h3]; exact h5⟩)
              · exact .inr h5
            have hsub : Sub F1 (upd H1 ra (.lst [.ref t, .int w'.i, .int w'.s, .int w'.q])) := fun a o q => by rw [upd_ne (ne_of_none q h2)]; exact s1.sx.sub a o q
            refine o σ F1 _ ⟨⟨hsub, hr, s1.sx.len, s1.sx.val, fun j l e => ?_, s1.sx.rw, s1.sx.inj⟩, ⟨s1.nx.sub, hsub, fun a o h q => ?_, s1.nx.new, hr⟩, s1.fr⟩
            · obtain ⟨p, vs, k1, k2, k3, k4, k5, k6⟩ := s1.sx.own j l e
              exact ⟨p, vs, k1, by rw [upd_ne k5.1]; exact k2, k3, k4, k5, k6⟩
            · rw [upd_ne fun e => h (by rw [e]; rfl)]
              exact s1.nx.keep a o h q
          have ev : v = .int n := p1
          subst ev
          match j, o1, fin with
          | 1, o1, fin => exact fin { w1 with i := n } [] 1 rfl rfl rfl o1
          | 2, o1, fin => exact fin { w1 with s := n } [] 2 rfl rfl rfl o1
          | 3, o1, fin => exact fin { w1 with q := n } [] 3 rfl rfl rfl o1
          | 0, o1, fin => exact o1.elim
          | (m + 4), o1, fin => exact o1.elim
        | _ => exact o1.elim
      | _ => exact o.elim
theorem st_aug {op : Operator} {r2 : R2} {gd : D → D → M D} (hN : X.N.Nodup) (hi : X.N[i]? = some rv) (hx : Loc X.env.scope rv) (hf : X.fn rv = true) (he : DE X e fe) (ho : OpR X (inplaceOp op) r2) (vr : VR2 X.K r2 gd) :
    DSt X (.AugAssign (.Name rv p) op e pos) (fun ρ => match ρ[i]? with | some (.val x) => bnd (fe ρ) fun y => bnd (gd x y) fun z => ret (.nx (ρ.set i (.val z))) | _ => bad) :=
  PS_imp (ps_aug (ti := r2) hN hi hx he ho (.inl hf)) fun T σ H ⟨r, F0, H0, F, ρ, w, s, o⟩ => by
    dsimp only at o
    cases k : ρ[i]? with
    | none => rw [k] at o; exact o.elim
    | some sl =>
      rw [k] at o
      cases sl with
      | val x =>
        obtain ⟨u, h1, h2⟩ := s.sx.val i x k
        refine ⟨u, h1, r, F, ρ, w, s.sx, (OutS.bind (P := PV) o).mono fun y H1 ⟨F1, d, w1, n1, p1, o1⟩ => ?_⟩
        refine vr (rr := r) (F := F1) n1.inn n1.row (Rp.mono n1.sub _ _ h2) p1 ((OutS.bind (P := PV) (F := F1) (H := H1) o1).mono fun z H2 ⟨F2, d2, w2, n2, p2, o2⟩ => ?_)
        have s2 := (s.step n1).step n2
        refine o2 _ F2 H2 ⟨s2.sx.setV p2, s2.nx, fun j l p e1 e2 => ?_⟩
        rcases get_set e1 with ⟨rfl, z⟩ | ⟨ne, z⟩
        · cases z
        · rw [List.getElem?_set_ne (Ne.symm ne)] at e2
          exact s2.fr j l p z e2
      | _ => exact o.elim
theorem Sb.freeze {l : List D} (s : Sb K r F0 H0 F H ρ σ w) (e : ρ[i]? = some (.own l)) : ∃ F', Sb K r F0 H0 F' H (ρ.set i (.val (.list l))) σ w := by
  obtain ⟨q, vs, h1, h2, h3, h4, h5, h6, h7⟩ := own_of s e
  have hs : Sub (upd F q (.lst vs)) H := fun a u q' => by
    by_cases e : a = q
    · subst e; rw [upd_same] at q'; cases q'; exact h2
    · rw [upd_ne e] at q'; exact s.sx.sub a u q'
  have hr : RowOk K r (upd F q (.lst vs)) H w := by
    have k := s.sx.row
    cases r with
    | none => trivial
    | some z => exact ⟨by rw [upd_ne fun e => h5.ne (by rw [← e]; rfl)]; exact k.1, k.2⟩
  refine ⟨upd F q (.lst vs), ⟨hs, hr, by rw [List.length_set]; exact s.sx.len, fun j u e' => ?_, fun j m e' => ?_, fun j e' => ?_, fun j k m m' p' e1 e2 e3 e4 => ?_⟩, ⟨s.nx.sub.trans (sub_upd h4), hs, s.nx.keep, fun a u q' => ?_, hr⟩, fun j m p' e1 e2 => ?_⟩
  · rcases get_set e' with ⟨rfl, z⟩ | ⟨ne, z⟩
    · cases z
      exact ⟨.ref q, h1, h6, q, vs, rfl, upd_same, RpL.mono (sub_upd h4) _ _ h3⟩
    · obtain ⟨u', k1, k2⟩ := s.sx.val j u z
      exact ⟨u', k1, Rp.mono (sub_upd h4) _ _ k2⟩
  · rcases get_set e' with ⟨rfl, z⟩ | ⟨ne, z⟩
    · cases z
    · obtain ⟨p2, vs2, j1, j2, j3, j4, j5, j6⟩ := s.sx.own j m z
      have hne : p2 ≠ q := fun e2 => ne (s.sx.inj j i m l p2 z e j1 (by rw [h1, e2]))
      exact ⟨p2, vs2, j1, j2, RpL.mono (sub_upd h4) _ _ j3, by rw [upd_ne hne]; exact j4, j5, j6⟩
  · rcases get_set e' with ⟨rfl, z⟩ | ⟨ne, z⟩
    · cases z
    · exact s.sx.rw j z
  · rcases get_set e1 with ⟨rfl, z⟩ | ⟨n1, z1⟩
    · cases z
    · rcases get_set e2 with ⟨rfl, z⟩ | ⟨n2, z2⟩
      · cases z
      · exact s.sx.inj j k m m' p' z1 z2 e3 e4
  · by_cases e : a = q
    · subst e; exact .inr h7
    · rw [upd_ne e] at q'; exact s.nx.new a u q'
  · rcases get_set e1 with ⟨rfl, z⟩ | ⟨n1, z1⟩
    · cases z
    · exact s.fr j m p' z1 e2
/-- an own list is frozen: no statement of the text -/
theorem Sb.kill (s : Sb K r F0 H0 F H ρ σ w) (i : Nat) : Sb K r F0 H0 F H (ρ.set i .no) σ w := by
  have key : ∀ (j : Nat) (x : Sl), (ρ.set i .no)[j]? = some x → x ≠ .no → ρ[j]? = some x := fun j x h hx => by
    rw [List.getElem?_set] at h
    split at h
    · split at h
      · cases h; exact absurd rfl hx
      · cases h
    · exact h
  exact ⟨⟨s.sx.sub, s.sx.row, by rw [List.length_set]; exact s.sx.len, fun j d e => s.sx.val j d (key j _ e (by intro z; cases z)), fun j l e => s.sx.own j l (key j _ e (by intro z; cases z)), fun j e => s.sx.rw j (key j _ e (by intro z; cases z)),
    fun a b l m p e1 e2 => s.sx.inj a b l m p (key a _ e1 (by intro z; cases z)) (key b _ e2 (by intro z; cases z))⟩, s.nx, fun j l p e => s.fr j l p (key j _ e (by intro z; cases z))⟩
theorem ss_kill {i : Nat} (h1 : DSs X sts g) : DSs X sts (seqO (fun ρ => ret (.nx (ρ.set i .no))) g) :=
  PSs_imp h1 fun T σ H ⟨r, F0, H0, F, ρ, w, s, o⟩ => ⟨r, F0, H0, F, _, w, s.kill i, o⟩
theorem ss_frz (h1 : DSs X sts g) : DSs X sts (seqO (fun ρ => match ρ[i]? with | some (.own l) => ret (.nx (ρ.set i (.val (.list l)))) | _ => bad) g) :=
  PSs_imp h1 fun T σ H ⟨r, F0, H0, F, ρ, w, s, o⟩ => by
    have o := OutS.seq o
    cases k : ρ[i]? with
    | none => rw [k] at o; exact o.elim
    | some sl =>
      rw [k] at o
      cases sl with
      | own l =>
        obtain ⟨F', s'⟩ := s.freeze k
        obtain ⟨F2, ρ2, w2, s2, o2⟩ := o σ F' H s'
        exact ⟨r, F0, H0, F2, ρ2, w2, s2, o2⟩
      | _ => exact o.elim
/-! ### loops -/
theorem OutS.weak {m : R O} {T T' : Ends} (h : OutS K r F0 H0 m T) (q : ∀ σ F H ρ w, m = .ok (.nx ρ) w → Sb K r F0 H0 F H ρ σ w → T'.nx σ H) (q' : ∀ v H, T.rt v H → T'.rt v H) : OutS K r F0 H0 m T' := by
  cases m with
  | ok o w =>
    cases o with
    | nx ρ => exact fun σ F H s => q _ _ _ _ _ rfl s
    | rt d => exact fun v F H n p => q' _ _ (h v F H n p)
  | exc c xs w => exact h
  | bad => exact h
def bodyO (t : Tg) (g : Ev → M O) (d : D) (ρ : Ev) : M O := match bindT t d ρ with | some ρ' => g ρ' | none => bad
theorem Sb.rebase (s : Sb K r F0 H0 F H ρ σ w) (h : Sub F1 F) (h0 : Sub F0 F1) : Sb K r F1 H0 F H ρ σ w := ⟨s.sx, ⟨h, s.nx.inn, s.nx.keep, fun a o q => (s.nx.new a o q).imp (h0 a o) id, s.nx.row⟩, s.fr⟩
theorem Nx.back (n : Nx K r F1 H0 F H w) (h0 : Sub F0 F1) (hn : ∀ a o, F1 a = some o → F0 a = some o ∨ H0 a = none) : Nx K r F0 H0 F H w := ⟨h0.trans n.sub, n.inn, n.keep, fun a o q => (n.new a o q).elim (hn a o) .inr, n.row⟩
theorem Sb.back (s : Sb K r F1 H0 F H ρ σ w) (h0 : Sub F0 F1) (hn : ∀ a o, F1 a = some o → F0 a = some o ∨ H0 a = none) : Sb K r F0 H0 F H ρ σ w := ⟨s.sx, s.nx.back h0 hn, s.fr⟩
theorem st_for {t : Tg} (hp : PassesOwn (model X.prog X.w) X.A X.env X.xe) (hc : X.calm = true) (hi : DI X tgt it fl) (hg : PG X tgt (tG X.K t)) (hb : DSs X body g) (hs : ∀ x, foldedSetIterable it X.env x = pure x) :
    DSt X (.For tgt it body [] pos) (fun ρ => bnd (fl ρ) fun ds => forO (bodyO t g) ds ρ) :=
  PS_imp (ps_for hp hc hi hg hb (hs := hs)) fun T σ H ⟨r, F0, H0, F, ρ, w, s, o⟩ => ⟨r, F, ρ, w, s.sx, (OutS.bind (P := PJ X.K) o).mono fun J H1 ⟨F1, ds, w1, n1, ⟨G, jok, hG, hl⟩, o1⟩ => by
    have s1 := s.step n1
    let Wn : Nat → L2.St → Hp → Prop := fun i σ H => ∃ F2 ρ2 w2, Sub F1 F2 ∧ Sb X.K r F0 H0 F2 H ρ2 σ w2 ∧ OutS X.K r F0 H0 (forO (bodyO t g) (ds.drop i) ρ2 w2) T
    refine ⟨fun i m σ H => m = ds.length - i ∧ i ≤ ds.length ∧ Wn i σ H, ⟨ds.length, rfl, Nat.zero_le _, F1, ρ, w1, Sub.refl _, s1, o1⟩, ?_⟩
    rintro i m σ H ⟨rfl, hi, F2, ρ2, w2, hs, s2, o2⟩
    have hGH : G H := hG _ (hs.trans s2.sx.sub)
    by_cases hlt : i < ds.length
    · refine .inr ⟨jok.go i H hlt hGH, fun σ H => Wn (i + 1) σ H, fun σ' H' q => ⟨_, by omega, rfl, by omega, q⟩, fun x H' hy => ?_⟩
      obtain ⟨F', d, ed, n', p⟩ := jok.yld hlt hGH hs s2.sx.sub s2.sx.row hy
      have e : ds.drop i = d :: ds.drop (i + 1) := by
        obtain ⟨h1, h2⟩ := List.getElem?_eq_some_iff.mp ed
        rw [List.drop_eq_getElem_cons h1, h2]
      rw [e, show forO (bodyO t g) (d :: ds.drop (i + 1)) ρ2 = bnd (bodyO t g d ρ2) fun o => match o with | .nx ρ' => forO (bodyO t g) (ds.drop (i + 1)) ρ' | .rt d => ret (.rt d) from rfl] at o2
      have s3 := s2.step n'
      cases k : bindT t d ρ2 with
      | none => rw [show bodyO t g d ρ2 = bad by unfold bodyO; rw [k]] at o2; exact o2.elim
      | some ρ' =>
        rw [show bodyO t g d ρ2 = g ρ' by unfold bodyO; rw [k]] at o2
        refine ⟨r, F', ρ2, w2, d, ρ', s3.sx, p, k, fun σ' x off => ⟨r, F1, H0, F', ρ', w2, (s3.bound k x off).rebase (hs.trans n'.sub) s1.nx.sub, ?_⟩⟩
        unfold bnd at o2
        cases e2 : g ρ' w2 with
        | exc c xs w => rw [e2] at o2; exact o2
        | bad => rw [e2] at o2; exact o2
        | ok u w3 =>
          rw [e2] at o2
          cases u with
          | rt d => exact fun v F4 H4 n4 p4 => o2 v F4 H4 (n4.back s1.nx.sub s1.nx.new) p4
          | nx ρ3 => exact fun σ4 F4 H4 s4 => ⟨F4, ρ3, w3, s4.nx.sub, s4.back s1.nx.sub s1.nx.new, o2⟩
    · have e : i = ds.length := by omega
      subst e
      rw [List.drop_length] at o2
      exact .inl ⟨jok.stop H hGH, o2 σ F2 H s2⟩⟩
theorem st_while {n : Ev → Nat} (hp : PassesOwn (model X.prog X.w) X.A X.env X.xe) (hc : DT X c ft) (hb : DSs X body g) :
    DSt X (.While c body [] pos) (fun ρ => whileO ft g (n ρ) ρ) :=
  PS_imp (ps_while hp hc hb) fun T σ H ⟨r, F0, H0, F, ρ, w, s, o⟩ => by
    refine ⟨fun m σ H => ∃ F ρ w, Sb X.K r F0 H0 F H ρ σ w ∧ OutS X.K r F0 H0 (whileO ft g m ρ w) T, ⟨n ρ, F, ρ, w, s, o⟩, ?_⟩
    rintro m σ H ⟨F, ρ, w, s, o⟩
    cases m with
    | zero => exact o.elim
    | succ m =>
      refine ⟨r, F, ρ, w, s.sx, (OutS.bind (P := PB) (F := F) (H := H) o).mono fun b H1 ⟨F1, k, w1, n1, p1, o1⟩ => ?_⟩
      cases (show k = b from p1)
      have s1 := s.step n1
      cases b with
      | false => exact o1 σ F1 H1 s1
      | true =>
        refine ⟨fun σ H => ∃ F ρ w, Sb X.K r F0 H0 F H ρ σ w ∧ OutS X.K r F0 H0 (whileO ft g m ρ w) T, fun σ' H' q => ⟨m, Nat.lt_succ_self m, q⟩, r, F0, H0, F1, ρ, w1, s1, ?_⟩
        have o1 : OutS X.K r F0 H0 (bnd (g ρ) (fun o => match o with | .nx ρ' => whileO ft g m ρ' | .rt d => ret (.rt d)) w1) T := o1
        unfold bnd at o1
        cases e2 : g ρ w1 with
        | exc c xs w => rw [e2] at o1; exact o1
        | bad => rw [e2] at o1; exact o1
        | ok u w3 =>
          rw [e2] at o1
          cases u with
          | rt d => exact o1
          | nx ρ3 => exact fun σ4 F4 H4 s4 => ⟨F4, ρ3, w3, s4, o1⟩
/-! ### two names at once -/
def PO2 (o : Bool) : Kind D V := fun r H0 F H d v => if o then PF r H0 F H d v else PV r H0 F H d v
def DE2 (X : Cx) (o : Bool) (e : Expr) (f : Ev → M D) : Prop := if o then DF X e f else DE X e f
theorem sb_put {o : Bool} {x : Sl} (s : Sb K r F0 H0 F H ρ σ w) (e : (slD o d : M Sl) = ret x) (h : if o then ∃ p vs l, v = .ref p ∧ d = .list l ∧ H p = some (.lst vs) ∧ RpL F l vs ∧ F p = none ∧ RwOff K r p ∧ l.length ≤ sizeLine ∧ H0 p = none ∧ (∀ (j : Nat) m, ρ[j]? = some (.own m) → σ[j]? ≠ some (some (V.ref p))) else Rp F d v) :
    Sb K r F0 H0 F H (ρ.set i x) (σ.set i (some v)) w := by
  cases o with
  | true =>
    obtain ⟨p, vs, l, rfl, rfl, h1, h2, h3, h4, h5, h6, h7⟩ := h
    have ex : Sl.own l = x := by
      have := congrFun e ⟨[], 0, 0, 0⟩
      simpa [slD, ret] using this
    subst ex
    exact s.setOwn h1 h2 h3 h4 h5 h6 h7
  | false =>
    have ex : Sl.val d = x := by
      have := congrFun e ⟨[], 0, 0, 0⟩
      simpa [slD, ret] using this
    subst ex
    refine ⟨s.sx.setV h, s.nx, fun j l p e1 e2 => ?_⟩
    rcases get_set e1 with ⟨rfl, z⟩ | ⟨ne, z⟩
    · cases z
    · rw [List.getElem?_set_ne (Ne.symm ne)] at e2
      exact s.fr j l p z e2
end
end Dn
namespace Dn
open PySem PySem.Spec PyProof.Rows L2
set_option autoImplicit true
section
variable {X : Cx} {e a b c it tgt : Expr} {es rest : List Expr} {f fa fb fc fe fk : Ev → M D} {fl : Ev → M (List D)} {ft : Ev → M Bool} {pos p p2 p3 p4 p5 p6 p7 : Pos} {K : PySem.W.Frag} {r : Rw} {F H F0 H0 F1 H1 : Hp} {ρ ρ' : Ev} {σ σ' : L2.St} {w w1 : W} {i j : Nat} {d : D} {v : V} {rv rx x y : Str} {kk k2 : Nat} {oi oj : Bool}
variable {st : Stmt} {sts body : List Stmt} {g h k : Ev → M O}
def tO (K : PySem.W.Frag) (o : Bool) (f : Ev → M D) : TE := fun σ H Q => ∃ r F ρ w, Sx K r F H ρ σ w ∧ Out (PO2 o) K r F H (f ρ w) Q
abbrev DO2 (X : Cx) (o : Bool) (e : Expr) (f : Ev → M D) : Prop := PE X e (tO X.K o f)
theorem DE.o2 (h : DE X e f) : DO2 X false e f := PE_imp h fun σ H Q ⟨r, F, ρ, w, s, o⟩ => ⟨r, F, ρ, w, s, o.weak fun _ p => p⟩
theorem DF.o2 (h : DF X e f) : DO2 X true e f := PE_imp h fun σ H Q ⟨r, F, ρ, w, s, o⟩ => ⟨r, F, ρ, w, s, o.weak fun _ p => p⟩
/-- what is told of a new value, by its flag -/
def Put (K : PySem.W.Frag) (r : Rw) (H0 F H : Hp) (o : Bool) (d : D) (v : V) : Prop :=
  if o then ∃ p vs l, v = .ref p ∧ d = .list l ∧ H p = some (.lst vs) ∧ RpL F l vs ∧ F p = none ∧ H0 p = none ∧ RwOff K r p ∧ l.length ≤ sizeLine else Rp F d v
theorem Put.step {o : Bool} {Hs : Hp} (q : Put K r Hs F H o d v) (n : Nx K r F H F1 H1 w1) : Put K r Hs F1 H1 o d v := by
  cases o with
  | false => exact Rp.mono n.sub _ _ q
  | true =>
    obtain ⟨p, vs, l, e1, e2, h1, h2, h3, h4, h5, h6⟩ := q
    refine ⟨p, vs, l, e1, e2, n.keep _ _ h5.ne h1, RpL.mono n.sub _ _ h2, ?_, h4, h5, h6⟩
    cases q : F1 p with
    | none => rfl
    | some u =>
      rcases n.new p u q with z | z
      · rw [h3] at z; cases z
      · rw [h1] at z; cases z
theorem slD_put {o : Bool} {Hs : Hp} (q : Put K r Hs F H o d v) : ∃ x, (slD o d : M Sl) = ret x := by
  cases o with
  | false => exact ⟨_, rfl⟩
  | true =>
    obtain ⟨p, vs, l, e1, e2, _⟩ := q
    subst e2
    exact ⟨_, rfl⟩
theorem PO2.put {o : Bool} (n : Nx K r F H F1 H1 w1) (k : RowOk K r F H w) (q : PO2 o r H F1 H1 d v) : Put K r H F1 H1 o d v := by
  cases o with
  | false => exact q
  | true =>
    obtain ⟨p, vs, l, e1, e2, h1, h2, h3, h4, h5, h6⟩ := q
    exact ⟨p, vs, l, e1, e2, h1, h2, h3, h4, k.off h4, h6⟩
/-- the new value goes into its slot -/
theorem Sb.put {o : Bool} {Hs : Hp} {x : Sl} (s : Sb K r F0 H0 F H ρ σ w) (q : Put K r Hs F H o d v) (e : (slD o d : M Sl) = ret x) (h0 : ∀ p, Hs p = none → H0 p = none) (hn : o = true → ∀ p, v = .ref p → ∀ (j : Nat) m, ρ[j]? = some (.own m) → σ[j]? ≠ some (some (V.ref p))) :
    Sb K r F0 H0 F H (ρ.set i x) (σ.set i (some v)) w := by
  refine sb_put s e ?_
  cases o with
  | false => exact q
  | true =>
    obtain ⟨p, vs, l, e1, e2, h1, h2, h3, h4, h5, h6⟩ := q
    exact ⟨p, vs, l, e1, e2, h1, h2, h3, h5, h6, h0 p h4, hn rfl p e1⟩
theorem own_ne {p : Addr} (s : Sx K r F H ρ σ w) (h : H p = none) (j : Nat) (m : List D) (e : ρ[j]? = some (.own m)) : σ[j]? ≠ some (some (V.ref p)) := fun e2 => by
  obtain ⟨p', vs, k1, k2, _⟩ := s.own j m e
  rw [k1] at e2
  cases e2
  rw [k2] at h; cases h
def par2 (i j : Nat) (oi oj : Bool) (fa fb : Ev → M D) : Ev → M O := fun ρ => bnd (bnd (fa ρ) (slD oi)) fun x => bnd (bnd (fb ρ) (slD oj)) fun y => ret (.nx ((ρ.set i x).set j y))
theorem par2_read {T : Ends} (s : Sb K r F0 H0 F H ρ σ w) (o : OutS K r F0 H0 (par2 i j oi oj fa fb ρ w) T) :
    tO K oi fa σ H fun v H1 => tO K oj fb σ H1 fun u H2 => ∃ F2 w2, RowOk K r F2 H2 w2 ∧ Sub F2 H2 ∧ ∀ H3, Nx K r F2 H2 F2 H3 w2 → T.nx ((σ.set i (some v)).set j (some u)) H3 := by
  unfold par2 at o
  rw [bnd_bnd] at o
  refine ⟨r, F, ρ, w, s.sx, (OutS.bind (P := PO2 oi) o).mono fun v H1 ⟨F1, d, w1, n1, p1, o1⟩ => ?_⟩
  have q1 := PO2.put n1 s.sx.row p1
  obtain ⟨x, ex⟩ := slD_put q1
  rw [ex, bnd_ret, bnd_bnd] at o1
  have s1 := s.step n1
  refine ⟨r, F1, ρ, w1, s1.sx, (OutS.bind (P := PO2 oj) o1).mono fun u H2 ⟨F2, d2, w2, n2, p2, o2⟩ => ?_⟩
  have q2 := PO2.put n2 s1.sx.row p2
  obtain ⟨y, ey⟩ := slD_put q2
  rw [ey, bnd_ret] at o2
  have s2 := s1.step n2
  refine ⟨F2, w2, n2.row, n2.inn, fun H3 n3 => ?_⟩
  have s3 := s2.step n3
  have s4 := s3.put (i := i) ((q1.step n2).step n3) ex (fun p h => s.nx.non h) fun eo p ev j m e => by
    subst eo; subst ev
    obtain ⟨p', vs, l, e1, e2, h1, h2, h3, h4, _⟩ := q1
    cases e1
    exact own_ne s.sx h4 j m e
  have s5 := s4.put (i := j) (q2.step n3) ey (fun p h => s1.nx.non h) fun eo p ev jj m e => by
    subst eo; subst ev
    obtain ⟨p', vs, l, e1, e2, h1, h2, h3, h4, _⟩ := q2
    cases e1
    rcases get_set e with ⟨rfl, z⟩ | ⟨ne, z⟩
    · intro e2
      rw [List.getElem?_set_self (by rw [← s.sx.len]; exact lt_of_set e)] at e2
      cases e2
      cases oi with
      | false =>
        have := congrFun ex ⟨[], 0, 0, 0⟩
        simp only [slD, ret] at this
        rw [z] at this
        cases this
      | true =>
        obtain ⟨p3, vs3, l3, k1, k2, k3, _⟩ := q1
        cases k1
        rw [k3] at h4; cases h4
    · rw [List.getElem?_set_ne (Ne.symm ne)]
      exact own_ne s1.sx h4 jj m z
  exact o2 _ F2 H3 s5
theorem st_par {pt : Pos} {kt : Nat} {p8 : Pos} (hc : X.calm = true) (hN : X.N.Nodup) (hi : X.N[i]? = some x) (hj : X.N[j]? = some y) (hij : i ≠ j)
    (hx : X.env.scope.names.lookup x = some .local) (hy : X.env.scope.names.lookup y = some .local) (h1 : starEach [a, b] X.env = (false, eval a X.env) :: starEach [b] X.env) (h2 : starEach [b] X.env = (false, eval b X.env) :: starEach [] X.env)
    (ha : DO2 X oi a fa) (hb : DO2 X oj b fb)
    (hw : swappedStores [.Tuple [.Name x p, .Name y p2] kt pt] (.Tuple [a, b] k2 p8) X.env = pure (some [x, y])) :
    DSt X (.Assign [.Tuple [.Name x p, .Name y p2] kt pt] (.Tuple [a, b] k2 p8) pos) (par2 i j oi oj fa fb) :=
  PS_imp (ps_par hc hN hi hj hij hx hy (pa_cons ha (pa_cons hb pa_nil h2) h1) hw) fun T σ H ⟨r, F0, H0, F, ρ, w, s, o⟩ => by
    obtain ⟨r1, F1, ρ1, w1, s1, o1⟩ := par2_read s o
    refine ⟨r1, F1, ρ1, w1, s1, o1.mono fun v H1 ⟨r2, F2, ρ2, w2, s2, o2⟩ => ⟨r2, F2, ρ2, w2, s2, o2.mono fun u H2 ⟨F3, w3, k1, k2, q⟩ => ⟨v, u, rfl, q H2 (Nx.refl k2 k1)⟩⟩⟩
theorem st_parT {pt : Pos} {kt : Nat} {p8 : Pos} (hc : X.calm = true) (hN : X.N.Nodup) (hi : X.N[i]? = some x) (hj : X.N[j]? = some y)
    (hx : Loc X.env.scope x) (hy : Loc X.env.scope y) (hfx : X.fn x = true) (hfy : X.fn y = true) (h1 : starEach [a, b] X.env = (false, eval a X.env) :: starEach [b] X.env) (h2 : starEach [b] X.env = (false, eval b X.env) :: starEach [] X.env)
    (ha : DO2 X oi a fa) (hb : DO2 X oj b fb)
    (hw : swappedStores [.Tuple [.Name x p, .Name y p2] kt pt] (.Tuple [a, b] k2 p8) X.env = pure none) :
    DSt X (.Assign [.Tuple [.Name x p, .Name y p2] kt pt] (.Tuple [a, b] k2 p8) pos) (par2 i j oi oj fa fb) :=
  PS_imp (ps_asg (pe_tup (pa_cons ha (pa_cons hb pa_nil h2) h1)) (pg_tup hc (pgs_cons (pg_name hN hi hx (.inl hfx)) (pgs_cons (pg_name hN hj hy (.inl hfy)) pgs_nil))) (by rfl) hw (by rfl)) fun T σ H ⟨r, F0, H0, F, ρ, w, s, o⟩ => by
    obtain ⟨r1, F1, ρ1, w1, s1, o1⟩ := par2_read s o
    refine ⟨r1, F1, ρ1, w1, s1, o1.mono fun v H1 ⟨r2, F2, ρ2, w2, s2, o2⟩ => ⟨r2, F2, ρ2, w2, s2, o2.mono fun u H2 ⟨F3, w3, k1, k2, q⟩ => ⟨by show 2 ≤ sizeLine; decide, fun p hp => ?_⟩⟩⟩
    exact ⟨p, [v, u], rfl, SqT.of upd_same, rfl, v, [u], rfl, u, [], rfl, rfl, q _ (Nx.fresh k2 k1 hp)⟩
/-! ### defs -/
variable {P : Program} {wd : World} {mg : Str → Option Value} {base : Heap}
theorem start_get {N : List Str} {vs : List V} {i : Nat} : (L2.start N vs)[i]? = if i < vs.length then (vs[i]?).map some else if i < vs.length + (N.length - vs.length) then some none else none := by
  unfold L2.start
  by_cases h : i < vs.length
  · rw [if_pos h, List.getElem?_append_left (by rw [List.length_map]; exact h), List.getElem?_map]
  · rw [if_neg h, List.getElem?_append_right (by rw [List.length_map]; omega), List.length_map]
    by_cases h2 : i < vs.length + (N.length - vs.length)
    · rw [if_pos h2, List.getElem?_replicate, if_pos (by omega)]
    · rw [if_neg h2, List.getElem?_replicate, if_neg (by omega)]
theorem sb_start {N : List Str} {ds : List D} {vs : List V} (s : Sub F H) (k : RowOk K r F H w) (l : RpL F ds vs) : Sb K r F H F H (ds.map Sl.val ++ List.replicate (N.length - ds.length) Sl.no) (L2.start N vs) w := by
  have ll := l.length
  have g : ∀ (i : Nat) (sl : Sl), (ds.map Sl.val ++ List.replicate (N.length - ds.length) Sl.no)[i]? = some sl → (∃ d, ds[i]? = some d ∧ sl = .val d) ∨ sl = .no := fun i sl e => by
    by_cases h : i < ds.length
    · rw [List.getElem?_append_left (by rw [List.length_map]; exact h), List.getElem?_map, List.getElem?_eq_getElem h] at e
      exact .inl ⟨_, List.getElem?_eq_getElem h, (Option.some.inj e).symm⟩
    · rw [List.getElem?_append_right (by rw [List.length_map]; omega), List.getElem?_replicate] at e
      split at e
      · exact .inr (Option.some.inj e).symm
      · cases e
  refine ⟨⟨s, k, ?_, fun i d e => ?_, fun i l e => ?_, fun i e => ?_, fun i j l m p e1 e2 e3 e4 => ?_⟩, Nx.refl s k, fun i l p e1 e2 => ?_⟩
  · unfold L2.start
    rw [List.length_append, List.length_append, List.length_map, List.length_map, List.length_replicate, List.length_replicate, ll]
  · rcases g i _ e with ⟨d', h1, h2⟩ | h
    · cases h2
      obtain ⟨v, h3, h4⟩ := l.get h1
      refine ⟨v, ?_, h4⟩
      rw [start_get, if_pos (List.getElem?_eq_some_iff.mp h3).1, h3]; rfl
    · cases h
  · rcases g i _ e with ⟨d', h1, h2⟩ | h <;> cases ‹_›
  · rcases g i _ e with ⟨d', h1, h2⟩ | h <;> cases ‹_›
  · rcases g i _ e1 with ⟨d', h1, h2⟩ | h <;> cases ‹_›
  · rcases g i _ e1 with ⟨d', h1, h2⟩ | h <;> cases ‹_›
/-- a def's body read, its end -/
theorem fn_read {n : Nat} {B : S} {T : L2.Ends} {F H : Hp} {w : W} {ds : List D} {Q : VK} (o : Out PV K r F H (bnd (denS B ρ) (fun o => match o with | .rt d => ret d | .nx _ => ret .none) w) Q) : OutS K r F H (denS B ρ w) { nx := fun _ H' => Q .non H', rt := Q } := by
  unfold bnd at o
  cases e : denS B ρ w with
  | exc c xs w => rw [e] at o; exact o
  | bad => rw [e] at o; exact o
  | ok u w1 =>
    rw [e] at o
    cases u with
    | nx ρ' => exact fun σ F' H' s => o .non F' H' s.nx rfl
    | rt d => exact fun v F' H' n p => o v F' H' n p
theorem fun_okC {P : Program} {wd : World} {K : PySem.W.Frag} {mg : Str → Option Value} {base : Heap} {x qual : Str} {st : Stmt} {f : Addr} {fd : FuncData} {N ps : List Str} {k : Nat} {sp : Sp} (F : Fun K x qual st f fd) (S : FnScope N ps (defScope st)) (len : ∀ vs H Q E, sp vs H Q E → vs.length = ps.length)
    (hbody : ∀ (cdv : Value), PySem.W.kdsCode K cdv = true → ∀ (A : Around) (outer : List Env) (s : Shared) (H : Hp) (vs : List V) (Q : VK) (E : XK), Room k (A.deeper (envOfC qual (defScope st) s.heap.objs.size f cdv)) → sp vs H Q E →
      ∃ t, PSs (cxOf CX0 P wd K mg base N qual (defScope st) f cdv A outer s H E).nox (defBody st) t ∧ t { nx := fun _ H' => Q .non H', rt := Q } (start N vs) H) : FnOk P wd K mg base CX0 (k + 1) f fd ps sp := by
  obtain ⟨oc, od, kV, doc, pm, an, cdv, ct, osl, rfl, lk, hcd⟩ := F.ex
  refine fn_of lk hcd S len fun A outer s H vs Q E hr hsp => ?_
  obtain ⟨t, h, q⟩ := hbody cdv (kdsCode_of hcd) A outer s H vs Q E hr hsp
  exact ⟨t, h.nox, q⟩
theorem fn_ok {st : Stmt} {f : Addr} {fd : FuncData} {x qual : Str} {N ps : List Str} {k n : Nat} {B : S} (Fn : Fun K x qual st f fd) (Sc : FnScope N ps (defScope st)) (hn : ps.length = n)
    (h : ∀ (X : Cx), X.prog = P → X.w = wd → X.K = K → X.mg = mg → X.base = base → X.N = N → X.env.scope = defScope st → X.calm = true → Room k X.A → X.fn = (fun _ => true) → X.xe = (fun _ _ => False) → PySem.W.kdsCode X.K X.env.code = true → DSs X (defBody st) (denS B)) :
    FnOk P wd K mg base CX0 (k + 1) f fd ps (spD K n (fn N.length B)) := by
  refine fun_okC Fn Sc (fun vs H Q E h => by rw [h.1, hn]) fun cdv hcd A outer s H vs Q E hr hs => ?_
  obtain ⟨hl, r, F, ds, w, hs, hk, l, o⟩ := hs
  refine ⟨_, h _ rfl rfl rfl rfl rfl rfl rfl rfl hr rfl rfl hcd, r, F, H, F, _, w, sb_start (N := N) hs hk l, ?_⟩
  exact fn_read (n := n) (T := ⟨fun _ _ => True, fun _ _ => True, fun _ _ => True, fun _ _ => True⟩) (ds := ds) o
theorem sb_startR {N : List Str} {ds : List D} {vs : List V} {ra t : Addr} {ns : List Int} (s : Sub F H) (k : RowOk K (some (ra, t, ns)) F H w) (l : RpL F ds vs) :
    Sb K (some (ra, t, ns)) F H F H (.row :: (ds.map Sl.val ++ List.replicate (N.length - ds.length) Sl.no)) (some (.ref ra) :: L2.start N vs) w := by
  have h := sb_start (N := N) s k l
  refine ⟨⟨s, k, by rw [List.length_cons, List.length_cons, h.sx.len], fun i d e => ?_, fun i l e => ?_, fun i e => ?_, fun i j l m p e1 e2 e3 e4 => ?_⟩, Nx.refl s k, fun i l p e1 e2 => ?_⟩
  · cases i with
    | zero => cases e
    | succ i => exact h.sx.val i d e
  · cases i with
    | zero => cases e
    | succ i => exact h.sx.own i l e
  · cases i with
    | zero => exact ⟨ra, rfl, rfl⟩
    | succ i => exact h.sx.rw i e
  · cases i with
    | zero => cases e1
    | succ i =>
      cases j with
      | zero => cases e2
      | succ j => rw [h.sx.inj i j l m p e1 e2 e3 e4]
  · cases i with
    | zero => cases e1
    | succ i => exact h.fr i l p e1 e2
theorem fnR_ok {st : Stmt} {f : Addr} {fd : FuncData} {x qual n0 : Str} {N ps : List Str} {k n : Nat} {B : S} (Fn : Fun K x qual st f fd) (Sc : FnScope (n0 :: N) ps (defScope st)) (hn : ps.length = n + 1)
    (h : ∀ (X : Cx), X.prog = P → X.w = wd → X.K = K → X.mg = mg → X.base = base → X.N = n0 :: N → X.env.scope = defScope st → X.calm = true → Room k X.A → X.fn = (fun _ => true) → X.xe = (fun _ _ => False) → PySem.W.kdsCode X.K X.env.code = true → DSs X (defBody st) (denS B)) :
    FnOk P wd K mg base CX0 (k + 1) f fd ps (spR K n (fnR N.length B)) := by
  refine fun_okC Fn Sc (fun vs H Q E h => by rw [h.1, hn]) fun cdv hcd A outer s H vs Q E hr hs => ?_
  obtain ⟨hl, ra, ⟨t, ns⟩, us, F, ds, w, rfl, hs, hk, l, o⟩ := hs
  have e : L2.start (n0 :: N) (V.ref ra :: us) = some (.ref ra) :: L2.start N us := by
    unfold L2.start
    rw [List.map_cons, List.cons_append, List.length_cons, List.length_cons, Nat.add_sub_add_right]
  refine ⟨_, h _ rfl rfl rfl rfl rfl rfl rfl rfl hr rfl rfl hcd, some (ra, t, ns), F, H, F, _, w, by rw [e]; exact sb_startR (N := N) hs hk l, ?_⟩
  exact fn_read (n := n) (T := ⟨fun _ _ => True, fun _ _ => True, fun _ _ => True, fun _ _ => True⟩) (ds := ds) o
end
end Dn
namespace Dn
open PySem PySem.Spec PyProof.Rows L2 PySem.W
set_option autoImplicit true
theorem keysAt_len {g : List D → M D} {w : W} : ∀ {ds ks : List D}, keysAt g w ds = some ks → ks.length = ds.length
  | [], ks, h => by cases (show some [] = some ks from h); rfl
  | d :: ds, ks, h => by
    unfold keysAt at h
    cases e1 : keyAt g w d with
    | none => rw [e1] at h; cases h
    | some k =>
      cases e2 : keysAt g w ds with
      | none => rw [e1, e2] at h; cases h
      | some kr =>
        rw [e1, e2] at h
        cases h
        rw [List.length_cons, List.length_cons, keysAt_len e2]
theorem keysAt_get {g : List D → M D} {w : W} : ∀ {ds ks : List D} {i : Nat} {d k : D}, keysAt g w ds = some ks → ds[i]? = some d → ks[i]? = some k → g [d] w = .ok k w
  | [], ks, i, d, k, h, e, _ => by simp at e
  | x :: ds, ks, i, d, k, h, e, f => by
    unfold keysAt at h
    cases e1 : keyAt g w x with
    | none => rw [e1] at h; cases h
    | some y =>
      cases e2 : keysAt g w ds with
      | none => rw [e1, e2] at h; cases h
      | some kr =>
        rw [e1, e2] at h
        cases h
        cases i with
        | zero =>
          cases e; cases f
          unfold keyAt at e1
          cases q : g [x] w with
          | ok k' w' =>
            rw [q] at e1
            dsimp only at e1
            by_cases hw : w' = w
            · rw [if_pos hw] at e1
              cases e1
              rw [hw]
            · rw [if_neg hw] at e1
              cases e1
          | exc _ _ _ => rw [q] at e1; cases e1
          | bad => rw [q] at e1; cases e1
        | succ i => exact keysAt_get e2 (by simpa using e) (by simpa using f)
section
variable {X : Cx} {rr : Rw}
/-- keys told in the heap -/
def KeyIs (F : Hp) (v : Value) (k : D) : Prop := ∃ u, RelV u v ∧ Rp F k u
theorem KeyIs.mono {F F' : Hp} {v : Value} {k : D} (s : Sub F F') (h : KeyIs F v k) : KeyIs F' v k := ⟨h.choose, h.choose_spec.1, Rp.mono s _ _ h.choose_spec.2⟩
/-- an object that no reading speaks of changes -/
theorem Un.off {fs : List Addr} {H H1 : Hp} {h h1 h2 : Heap} {c : List Addr} (u : Un fs [] H H1 h h1) (k : ∀ b, b ∉ c → h2.get? b = h1.get? b) (hc : ∀ b ∈ c, h.objs.size ≤ b) : Un fs [] H H1 h h2 := by
  have ne : ∀ b o, h.get? b = some o → b ∉ c := fun b o e z => absurd (Nat.lt_of_lt_of_le (Heap.lt_size e) (hc b z)) (Nat.lt_irrefl _)
  exact ⟨fun b o e n x y => by rw [k b (ne b o e)]; exact u.keep b o e n x y, fun b o e n x y => by
    obtain ⟨sl, q⟩ := u.slot b o e n x y
    exact ⟨sl, by rw [k b (ne b o e)]; exact q⟩, u.free, fun b o e x => by
    obtain ⟨o', q⟩ := u.there b o e x
    exact ⟨o', by rw [k b (ne b o e)]; exact q⟩, u.tups, u.frzs, u.tbls⟩
theorem hok_off {P : Program} {wd : World} {H : Hp} {h h' : Heap} {c : List Addr} (ok : HOk P wd H h) (k : ∀ b, b ∉ c → h'.get? b = h.get? b) (hc : ∀ b ∈ c, H b = none) : HOk P wd H h' := fun b o e => by
  have ne : ∀ b o, H b = some o → b ∉ c := fun b o e z => by rw [hc b z] at e; cases e
  exact (ok b o e).stay (fun d u hd q => by
    rcases hd with rfl | hd
    · rw [k _ (ne _ _ e)]; exact q
    · rw [k _ (ne _ _ hd)]; exact q) (fun _ q => q) fun _ _ q => q
theorem hok_add {P : Program} {wd : World} {H : Hp} {h : Heap} {a : Addr} {o : HO} (ok : HOk P wd H h) (hn : H a = none) (new : ObjOk P wd (upd H a o) h a o) : HOk P wd (upd H a o) h := fun b u e => by
  by_cases hb : b = a
  · subst hb; rw [upd_same] at e; cases e; exact new
  · rw [upd_ne hb] at e
    exact (ok b u e).stay (fun _ _ _ q => q) (fun c q => by rw [upd_ne (ne_of_none q hn)]; exact q) fun c xs q => by rw [upd_ne (ne_of_none q hn)]; exact q
theorem un_add {fs : List Addr} {H H1 : Hp} {h h1 : Heap} {a : Addr} {o : HO} (u : Un fs [] H H1 h h1) (ha : h.objs.size ≤ a) (hn : H1 a = none) : Un fs [] H (upd H1 a o) h h1 := by
  have ne : ∀ b u, h.get? b = some u → b ≠ a := fun b u e z => absurd (Nat.lt_of_lt_of_le (Heap.lt_size e) (z ▸ ha)) (Nat.lt_irrefl _)
  exact ⟨u.keep, u.slot, fun b ob e n x => by rw [upd_ne (ne b ob e)]; exact u.free b ob e n x, u.there, fun b xs q => by
    have q1 := u.tups b xs q
    rw [upd_ne (ne_of_none q1 hn)]; exact q1, fun b ob u1 q => by
    have q1 := u.frzs b ob u1 q
    rw [upd_ne (ne_of_none q1 hn)]; exact q1, fun b ps q => by
    obtain ⟨more, q1⟩ := u.tbls b ps q
    exact ⟨more, by rw [upd_ne (ne_of_none q1 hn)]; exact q1⟩⟩
/-- the state while the keys are made -/
structure Keying (X : Cx) (pins : List (Addr × Obj)) (σ : L2.St) (rr : Rw) (F H : Hp) (w : W) (s : Shared) (a c : Addr) (e1 : Nat) (ks : List D) (s' : Shared) : Prop where
  st : ∃ F' H' kA e, s'.os = s.os ∧ Inv X pins σ H' s' ∧ Un (frs X.stack) [] H H' s.heap s'.heap ∧ Nx X.K rr F H F' H' w ∧ s'.heap.get? c = some (seqObj "list" kA e) ∧ s'.heap.get? a = some (seqObj "list" #[] e1) ∧ H' a = none ∧ H' c = none ∧ EachIs (KeyIs F') kA.toList ks
theorem each_end {α β : Type} {R : α → β → Prop} {as : List α} {bs : List β} {a : α} {b : β} (h : EachIs R as bs) (r : R a b) : EachIs R (as ++ [a]) (bs ++ [b]) := by
  induction h with
  | nil => exact .cons r .nil
  | cons r1 _ ih => exact .cons r1 ih
theorem keying_step {X : Cx} {pins : List (Addr × Obj)} {σ : L2.St} {rr : Rw} {F H : Hp} {w : W} {s s' : Shared} {a c f : Addr} {e1 n : Nat} {ks : List D} {fd : FuncData} {ps : List Str} {g : List D → M D} {x : Value} {v : V} {d k : D} {E : Value → Shared → Prop} {R : Except Value Value → Shared → Prop}
    (I0 : Inv X pins σ H s) (J : Keying X pins σ rr F H w s a c e1 ks s') (Fo : FnOk X.prog X.w X.K X.mg X.base CX0 n f fd ps (spD X.K 1 g)) (hr : Room n X.A.in1.in1) (hb : Binds X.K fd ps []) (ha : s.heap.objs.size ≤ a) (hc : s.heap.objs.size ≤ c) (hac : c ≠ a)
    (rx : RelV v x) (rd : Rp F d v) (hg : g [d] w = .ok k w) (hz : ks.length + 1 ≤ sizeLine)
    (q : ∀ s2, Keying X pins σ rr F H w s a c e1 (ks ++ [k]) s2 → R (.ok .none) s2) :
    wpAny (model X.prog X.w) X.A.in1.in1 (call (.ref f) [x]).attempt (fun r s2 => ∃ y, r = .ok y ∧ wpAny (model X.prog X.w) X.A.in1.in1 (Builtin.List.listUpdate (.ref c) (·.push y)) (fun _ s3 => R (.ok .none) s3) E s2) E s' := by
  obtain ⟨F', H', kA, e, ho, I, u, nx, gc, ga, na, nc, hk⟩ := J.st
  refine wpAny_attempt ?_
  have hl : ([x] : List Value).length = ps.length := by
    have := Fo.len [v] H' (fun _ _ => True) E0 ⟨rfl, rr, F', [d], w, nx.inn, nx.row, RpL.cons (Rp.mono nx.sub _ _ rd) RpL.nil, by rw [hg]; exact fun _ _ _ _ _ => trivial⟩
    exact this
  refine wpAny_call (codeAny_mono (Fo.run X.A.in1.in1 X.stack s' H' ⟨[x], []⟩ [x] [v] (fun u2 H2 => ∃ F2, Nx X.K rr F' H' F2 H2 w ∧ Rp F2 k u2) E0 hr I.env0.in1.in1 (by
    have := hb s' [x] I.kIn (by rw [List.append_nil]; exact hl)
    rwa [List.append_nil] at this) (.cons rx .nil) ⟨rfl, rr, F', [d], w, nx.inn, nx.row, RpL.cons (Rp.mono nx.sub _ _ rd) RpL.nil, by rw [hg]; exact fun b F2 H2 n2 p2 => ⟨F2, n2, p2⟩⟩) fun r s2 hq => ?_)
  cases r with
  | error e => exact hq.elim
  | ok fl =>
    cases fl with
    | ret y =>
      obtain ⟨v2, H2, os2, bare2, u2, hok2, ry, F2, n2, p2⟩ := hq
      have nfs : ∀ b, s.heap.objs.size ≤ b → b ∉ frs X.stack := fun b hb hm => by
        obtain ⟨_, o, e, _⟩ := I0.stack.mem hm
        exact absurd (Nat.lt_of_lt_of_le (Heap.lt_size e) hb) (Nat.lt_irrefl _)
      have gc2 := u2.keep c _ gc nc (nfs c hc) (by simp)
      have ga2 := u2.keep a _ ga na (nfs a ha) (by simp)
      have nc2 := u2.free c _ gc nc (by simp)
      have na2 := u2.free a _ ga na (by simp)
      have I2 : Inv X pins σ H2 s2 := I.call' (ch := []) os2 u2 hok2 bare2 (fun b z => absurd z (by simp))
      have hkl := hk.length
      rw [Array.length_toList] at hkl
      refine ⟨y, rfl, listUpdate_at gc2 rfl ?_ (by omega) (by rw [Array.size_push]; omega)⟩
      have oth : ∀ b, b ∉ [c] → (s2.heap.update c (Obj.mapSeq (·.push y))).get? b = s2.heap.get? b := fun b hb => Heap.get?_update_other _ _ (fun z => hb (by simp [z]))
      refine q _ ⟨F2, H2, kA.push y, _, ho ▸ os2, ?_, Un.off (u.trans u2) oth (fun b hb => by simp at hb; rw [hb]; exact hc), nx.trans n2, get?_update_seq gc2 (·.push y), (oth a (by simp; exact fun z => hac z.symm)).trans ga2, na2, nc2, ?_⟩
      · exact I2.turnedL (t' := s2.toks) (ch := [c]) (fun b o hb e => by rw [oth b hb]; exact e) (fun b hb => by simp at hb; rw [hb]; exact I0.fpOk hc nc2)
      · rw [show (kA.push y).toList = kA.toList ++ [y] by simp]
        exact each_end (hk.mono fun _ _ z => KeyIs.mono n2.sub z) ⟨v2, ry, p2⟩
    | next => exact hq.elim
    | brk => exact hq.elim
    | cont => exact hq.elim
theorem each_vals {F : Hp} : ∀ {ds : List D} {vs : List V} {us : List Value} {ks : List D}, RpL F ds vs → Vals vs us → ks.length = ds.length → EachIs (fun (v : Value) (p : D × D) => ∃ u, RelV u v ∧ Rp F p.2 u) us (ks.zip ds)
  | [], _, us, ks, l, r, h => by
    rw [show _ = [] from l] at r
    cases r
    cases ks with
    | nil => exact .nil
    | cons _ _ => simp at h
  | d :: ds, _, us, ks, ⟨v, rest, e, q, l⟩, r, h => by
    subst e
    cases r with
    | cons r1 r2 =>
      cases ks with
      | nil => simp at h
      | cons k ks => exact .cons ⟨v, r1, q⟩ (each_vals l r2 (by simpa using h))
theorem vals_each {F : Hp} : ∀ {ds : List (D × D)} {us : List Value}, EachIs (fun (v : Value) (p : D × D) => ∃ u, RelV u v ∧ Rp F p.2 u) us ds → ∃ vs, Vals vs us ∧ RpL F (ds.map (·.2)) vs
  | [], us, h => by cases h; exact ⟨[], .nil, rfl⟩
  | p :: ds, us, h => by
    cases h with
    | cons h1 h2 =>
      obtain ⟨u, r, q⟩ := h1
      obtain ⟨vs, r2, l⟩ := vals_each h2
      exact ⟨u :: vs, .cons r r2, RpL.cons q l⟩
theorem each_reads {X : Cx} {pins : List (Addr × Obj)} {σ : L2.St} {F H : Hp} {s : Shared} (I : Inv X pins σ H s) (sub : Sub F H) : ∀ {us : List Value} {ks : List D}, EachIs (KeyIs F) us ks → EachIs (fun v d => ∃ as, Reads s.heap v d as) us ks := fun h =>
  h.mono fun v d ⟨u, r, q⟩ => L2.Dp.reads I d u v (Rp.dp (Rp.mono sub _ _ q)) r
theorem sortOk_parts {ks : List D} (h : sortOk ks = true) : AllAlike ks ∧ Sortable ks ∧ ∀ k ∈ ks, k.depth ≤ 8 := by
  unfold sortOk at h
  simp only [Bool.and_eq_true, Bool.or_eq_true, List.all_eq_true, decide_eq_true_eq] at h
  obtain ⟨h1, h2, h3⟩ := h
  refine ⟨fun d hd d' hd' => h1 d hd d' hd', ?_, h3⟩
  rcases h2 with h2 | h2
  · refine .inl fun d hd => ?_
    have := h2 d hd
    unfold tupNE at this
    split at this
    · exact ⟨_, _, rfl⟩
    · cases this
  · refine .inr fun d hd => ?_
    have := h2 d hd
    constructor
    · intro e; subst e; cases this
    · intro xs e; subst e; cases this
theorem sortKey_run {X : Cx} {pins : List (Addr × Obj)} {σ : L2.St} {rr : Rw} {F H : Hp} {w : W} {s : Shared} {l f : Addr} {n : Nat} {fd : FuncData} {ps : List Str} {g : List D → M D} {ds ks : List D} {vs : List V} {Q : VK}
    (I : Inv X pins σ H s) (hl : SqL X.K H l vs) (sub : Sub F H) (row : RowOk X.K rr F H w) (rl : RpL F ds vs) (hk : keysAt g w ds = some ks) (hs : sortOk ks = true) (hz : ds.length ≤ sizeLine)
    (Fo : FnOk X.prog X.w X.K X.mg X.base CX0 n f fd ps (spD X.K 1 g)) (hr : Room n X.A.in1.in1) (hu : X.A.in1.in1.units + 8 < cLine) (hb : Binds X.K fd ps [])
    (q : Out PF X.K rr F H (.ok (.list (sortBy ks ds)) w) Q) : wpAny (model X.prog X.w) X.A (call (.builtin "sorted") [.ref l] [(Str.ofString "key", .ref f)]) (EP X pins σ Q) X.xe s := by
  obtain ⟨its, rv, hpl, hz2⟩ := I.list hl
  have hlen := keysAt_len hk
  have hvl : vs.length = ds.length := rl.length.symm
  have hil : its.length = ds.length := by rw [← rv.length, hvl]
  obtain ⟨al, so, dp⟩ := sortOk_parts hs
  refine sorted_of_sort hpl.isList (by rw [hil]; exact hz) (ksk_s1 _ _) (fun _ => ksk_l1 _ _) fun E' => ?_
  rw [ksk_t1]
  generalize ha : s.heap.objs.size + 1 = a
  have a0 : s.heap.objs.size ≤ a := by omega
  have g0 : (copyHeap s.heap its).get? a = some (seqObj "list" its.toArray 0) := by rw [← ha]; exact copyHeap_at s.heap its
  obtain ⟨e1, g1⟩ : ∃ e1, ((copyHeap s.heap its).update a (Obj.mapSeq fun _ => (#[] : Array Value))).get? a = some (seqObj "list" #[] e1) := ⟨_, get?_update_seq g0 fun _ => #[]⟩
  have key : ∀ (h1 : Heap) (c : Addr), a < c → h1.get? c = some (seqObj "list" #[] 0) → h1.get? a = some (seqObj "list" #[] e1) → (∀ b o, s.heap.get? b = some o → h1.get? b = some o) →
      wpAny (model X.prog X.w) X.A.in1.in1 (ksk_rest a (.ref f) false its.toArray e1 (.ref c)) (fun fl s' => fl = .done (.ret .none) ∧ EP X pins σ Q (.ref a) s') E' { s with heap := h1 } := by
    intro h1 c hca gc ga old
    have c0 : s.heap.objs.size ≤ c := by omega
    have na : H a = none := I.hok.fresh a0
    have nc : H c = none := I.hok.fresh c0
    unfold ksk_rest
    refine wpAny_bind (wpAny_rule ?_)
    first
      | rw [List.forIn_toArray]
      | rw [← Array.forIn_toList]
    refine wpAny_bind (ksk_fold (fun i s' => Keying X pins σ rr F H w s a c e1 (ks.take i) s') its 0 _ ⟨⟨F, H, #[], 0, rfl, I.kept (t' := s.toks) old, Un.kept old, Nx.refl sub row, gc, ga, na, nc, by rw [List.take_zero]; exact .nil⟩⟩ ?step ?done)
    case step =>
      intro j x s' hx J
      rw [Nat.zero_add] at J ⊢
      have hj : j < its.length := (List.getElem?_eq_some_iff.mp hx).1
      obtain ⟨k, ek⟩ : ∃ k, ks[j]? = some k := ⟨_, List.getElem?_eq_getElem (by omega)⟩
      obtain ⟨d, ed⟩ : ∃ d, ds[j]? = some d := ⟨_, List.getElem?_eq_getElem (by omega)⟩
      obtain ⟨v, ev, pv⟩ := rl.get ed
      obtain ⟨x', ex, rx⟩ := rv.get ev
      rw [hx] at ex
      cases ex
      have ht : ks.take (j + 1) = ks.take j ++ [k] := by rw [List.take_add_one, ek]; rfl
      refine wpAny_bind (wpAny_mono (keying_step (R := fun _ s3 => Keying X pins σ rr F H w s a c e1 (ks.take (j + 1)) s3) (E := E') I J Fo hr hb a0 c0 (Nat.ne_of_gt hca) rx pv (keysAt_get hk ed ek) (by rw [List.length_take]; omega) fun s2 J2 => by rw [ht]; exact J2) (fun r s2 hq => ?_) fun _ _ z => z)
      obtain ⟨y, rfl, hq⟩ := hq
      exact wpAny_bind (wpAny_mono hq (fun _ s3 J3 => wpAny_pure ⟨rfl, J3⟩) fun _ _ z => z)
    case done =>
      intro s' J
      rw [Nat.zero_add, List.take_of_length_le (by omega)] at J
      obtain ⟨F', H', kA, e, ho, I', u, nx, gc', ga', na', nc', hk'⟩ := J.st
      refine wpAny_bind (listItems_at gc' rfl ?_)
      have rk := each_reads I' nx.inn hk'
      have hkl := hk'.length
      have hks : kA.size = its.length := by rw [Array.length_toList] at hkl; omega
      have hole : (s'.heap.update c fun o => { o with data := .freed }).get? c = none := by
        have hcs : c < s'.heap.objs.size := Heap.lt_size gc'
        unfold Heap.update Heap.get?
        simp [hcs, Array.getElem_modify_self]
      have kp : KeepsBut a (s'.heap.update c fun o => { o with data := .freed }) s'.heap := fun b o _ z => by
        by_cases hbc : b = c
        · subst hbc; rw [hole] at z; cases z
        · rw [Heap.get?_update_other _ _ (Ne.symm hbc)] at z; exact z
      refine keyH_end (κ := dataKind s'.heap ks) kp hole gc' ga' (Nat.ne_of_gt hca) (SortsAt.data (s := s') rk al so fun d hd => by have := dp d hd; omega) hks (by rw [hil]; exact hz) fun h3 tk cc k3 n3 => ?_
      have hko : KeyedOut false ks its (sortVals (dataKind s'.heap ks) false kA.toList its) := ⟨s'.heap, kA.toList, al, rfl, rk⟩
      have ez := each_vals (F := F) rl rv hlen
      have emap : (ks.zip ds).map (·.1) = ks := List.map_fst_zip (by omega)
      have eo := keyedOut_each (R := fun (v : Value) (p : D × D) => ∃ u, RelV u v ∧ Rp F p.2 u) (bs := ks.zip ds) (fun p => p.1) (by rw [emap]; exact hko) ez
      generalize sortVals (dataKind s'.heap ks) false kA.toList its = out at n3 eo
      obtain ⟨vo, ro, lo⟩ := vals_each eo
      have hlo : vo.length = ds.length := by
        have h1 := lo.length
        rw [List.length_map, List.length_mergeSort, List.length_zip, hlen, Nat.min_self] at h1
        exact h1.symm
      have hb1 : (sortBy ks ds).length = ds.length := by
        unfold sortBy
        rw [List.length_map, List.length_mergeSort, List.length_zip, hlen, Nat.min_self]
      have oth : ∀ b o, b ∉ [a, c] → s'.heap.get? b = some o → h3.get? b = some o := fun b o hb z => by
        simp at hb
        exact k3 b o hb.1 (by rw [Heap.get?_update_other _ _ (Ne.symm hb.2)]; exact z)
      have I3 : Inv X pins σ H' { s' with heap := h3, toks := tk } := I'.turnedL (ch := [a, c]) oth fun b hb => by
        simp at hb
        rcases hb with rfl | rfl
        · exact I.fpOk a0 na'
        · exact I.fpOk c0 nc'
      have newA : ObjOk X.prog X.w (upd H' a (.lst vo)) h3 a (.lst vo) := ⟨by rw [hlo]; exact hz, out, cc, ro, n3⟩
      have hokF : HOk X.prog X.w (upd H' a (.lst vo)) h3 := hok_add I3.hok na' newA
      have u3 : Un (frs X.stack) [] H H' s.heap h3 := by
        refine ⟨fun b o e1 n1 x y => ?_, fun b o e1 n1 x y => ?_, u.free, fun b o e1 y => ?_, u.tups, u.frzs, u.tbls⟩
        · exact oth b o (by simp; exact ⟨fun z => absurd (Nat.lt_of_lt_of_le (Heap.lt_size e1) (z ▸ a0)) (Nat.lt_irrefl _), fun z => absurd (Nat.lt_of_lt_of_le (Heap.lt_size e1) (z ▸ c0)) (Nat.lt_irrefl _)⟩) (u.keep b o e1 n1 x y)
        · obtain ⟨sl, z⟩ := u.slot b o e1 n1 x y
          exact ⟨sl, oth b _ (by simp; exact ⟨fun z => absurd (Nat.lt_of_lt_of_le (Heap.lt_size e1) (z ▸ a0)) (Nat.lt_irrefl _), fun z => absurd (Nat.lt_of_lt_of_le (Heap.lt_size e1) (z ▸ c0)) (Nat.lt_irrefl _)⟩) z⟩
        · obtain ⟨o', z⟩ := u.there b o e1 y
          exact ⟨o', oth b _ (by simp; exact ⟨fun z => absurd (Nat.lt_of_lt_of_le (Heap.lt_size e1) (z ▸ a0)) (Nat.lt_irrefl _), fun z => absurd (Nat.lt_of_lt_of_le (Heap.lt_size e1) (z ▸ c0)) (Nat.lt_irrefl _)⟩) z⟩
      refine ⟨rfl, .ref a, upd H' a (.lst vo), I.call' (ch := []) ho (un_add u3 a0 na') hokF I3.bare (fun b z => absurd z (by simp)), rfl, ?_⟩
      have rowne : rr.a ≠ some a := fun z => by
        obtain ⟨o, hh⟩ := nx.row.there z
        rw [na'] at hh; cases hh
      have nF : F' a = none := by
        cases z : F' a with
        | none => rfl
        | some o => rw [nx.inn a o z] at na'; cases na'
      exact q (.ref a) F' (upd H' a (.lst vo)) (nx.trans (Nx.fresh nx.inn nx.row na')) ⟨a, vo, _, rfl, rfl, upd_same, RpL.mono nx.sub _ _ lo, nF, na, rowne, by rw [hb1]; exact hz⟩
  have alt : a < (copyHeap s.heap its).objs.size := Heap.lt_size g0
  have hsz : (((copyHeap s.heap its).update a (Obj.mapSeq fun _ => (#[] : Array Value))).push (seqObj "tuple" its.toArray 0)).objs.size = (copyHeap s.heap its).objs.size + 1 := by rw [size_push', Heap.size_update]
  have fin := key ((((copyHeap s.heap its).update a (Obj.mapSeq fun _ => (#[] : Array Value))).push (seqObj "tuple" its.toArray 0)).push (seqObj "list" (#[] : Array Value) 0)) (((copyHeap s.heap its).update a (Obj.mapSeq fun _ => (#[] : Array Value))).push (seqObj "tuple" its.toArray 0)).objs.size (by rw [hsz]; omega)
    (Heap.get?_push_size _ rfl) (Heap.get?_push_of_some _ (Heap.get?_push_of_some _ g1)) fun b o e => by
    refine Heap.get?_push_of_some _ (Heap.get?_push_of_some _ ?_)
    rw [Heap.get?_update_other _ _ (fun z => by
      have h9 := Heap.lt_size e
      have q9 := Nat.lt_of_lt_of_le h9 a0
      rw [z] at q9
      exact Nat.lt_irrefl _ q9)]
    exact copyHeap_old e
  unfold ksk_tree
  refine wpAny_bind (listItems_at g0 rfl (wpAny_bind (listUpdate_at g0 rfl (wpAny_bind (seqEpoch_at g1 rfl (wpAny_bind (wpAny_newTuple (wpAny_bind (wpAny_newList (wpAny_holding ?_) (Nat.zero_le _))) (by show its.length ≤ _; rw [hil]; exact hz))))) (by rw [List.size_toArray, hil]; exact hz) (Nat.zero_le _))))
  exact fin
theorem sort0_run {X : Cx} {pins : List (Addr × Obj)} {σ : L2.St} {rr : Rw} {F H : Hp} {w : W} {s : Shared} {l : Addr} {ds : List D} {vs : List V} {Q : VK}
    (I : Inv X pins σ H s) (hl : SqL X.K H l vs) (sub : Sub F H) (row : RowOk X.K rr F H w) (rl : RpL F ds vs) (hs : sortOk ds = true) (hz : ds.length ≤ sizeLine) (hu : X.A.units + 10 < cLine)
    (q : Out PF X.K rr F H (.ok (.list (sortBy ds ds)) w) Q) : wpAny (model X.prog X.w) X.A (call (.builtin "sorted") [.ref l]) (EP X pins σ Q) X.xe s := by
  obtain ⟨its, rv, hpl, hz2⟩ := I.list hl
  have hil : its.length = ds.length := by rw [← rv.length, ← rl.length]
  obtain ⟨al, so, dp⟩ := sortOk_parts hs
  have emap : (ds.zip ds).map (·.1) = ds := List.map_fst_zip (by omega)
  have ez := each_vals (F := F) (ks := ds) rl rv rfl
  have er : EachIs (fun v (b : D × D) => ∃ as, Reads s.heap v b.1 as) its (ds.zip ds) := by
    refine EachIs.of_zip (by rw [List.length_zip, Nat.min_self, hil]) fun p hp => ?_
    obtain ⟨u, r, pq⟩ := ez.zip p hp
    have e12 : p.2.1 = p.2.2 := by
      have hm := (List.of_mem_zip hp).2
      obtain ⟨i, hi⟩ := List.mem_iff_getElem?.mp hm
      rw [List.getElem?_zip_eq_some] at hi
      rw [hi.1] at hi
      exact Option.some.inj hi.2
    exact L2.Dp.reads I p.2.1 u p.1 (Rp.dp (Rp.mono sub _ _ (e12 ▸ pq))) r
  refine sorted_data (β := D × D) (enc := fun p => p.1) (R := fun (v : Value) (p : D × D) => ∃ u, RelV u v ∧ Rp F p.2 u) (bs := ds.zip ds) hpl.isList ez er (by rw [emap]; exact al) (by rw [emap]; exact so) (by rw [List.length_zip, Nat.min_self]; exact hz)
    (fun b hb => by
      have := dp b.1 (List.of_mem_zip (a := b.1) (b := b.2) hb).1
      omega) fun out ho eo => ?_
  obtain ⟨vo, ro, lo⟩ := vals_each eo
  have hlo : vo.length = ds.length := by
    have h1 := lo.length
    rw [List.length_map, List.length_mergeSort, List.length_zip, Nat.min_self] at h1
    exact h1.symm
  have hb1 : (sortBy ds ds).length = ds.length := by
    unfold sortBy
    rw [List.length_map, List.length_mergeSort, List.length_zip, Nat.min_self]
  obtain ⟨ep, he'⟩ := PyProof.Rows.sortedAll_at s.heap its out.toArray
  have hf : H (s.heap.objs.size + 1) = none := I.hok.fresh (Nat.le_succ _)
  have nF : F (s.heap.objs.size + 1) = none := by
    cases z : F (s.heap.objs.size + 1) with
    | none => rfl
    | some o => rw [sub _ o z] at hf; cases hf
  exact ⟨.ref _, upd H (s.heap.objs.size + 1) (.lst vo), I.laid (t' := s.toks) (fun _ _ => PyProof.Rows.sortedAll_old) (Nat.le_succ _) ⟨by rw [hlo]; exact hz, out, ep, ro, he'⟩, rfl,
    q (.ref (s.heap.objs.size + 1)) F (upd H (s.heap.objs.size + 1) (.lst vo)) (Nx.fresh sub row hf) ⟨_, vo, _, rfl, rfl, upd_same, lo, nF, hf, (fun z => by
      obtain ⟨o, hh⟩ := row.there z
      rw [hf] at hh
      cases hh), by rw [hb1]; exact hz⟩⟩
end
section
variable {X : Cx} {a : Expr} {fa : Ev → M D} {pos p p2 kp : Pos} {x : Str} {g : List D → M D} {n : Nat}
def rSortK (X : Cx) (fa : Addr) (g : List D → M D) : List V → List V → Hp → VK → Prop := fun vs zs H Q => ∃ (rr : Rw) (F : Hp) (w : W) (l : Addr) (us : List V) (ds ks : List D), vs = [V.ref l] ∧ zs = [V.ref fa] ∧ SqL X.K H l us ∧ Sub F H ∧ RowOk X.K rr F H w ∧ RpL F ds us ∧ keysAt g w ds = some ks ∧ sortOk ks = true ∧ ds.length ≤ sizeLine ∧ Out PF X.K rr F H (.ok (.list (sortBy ks ds)) w) Q
theorem PSr.lst {rr : Rw} {H0 F H : Hp} {ds : List D} {v : V} {K : PySem.W.Frag} (s : Sub F H) (p : PSr rr H0 F H (.list ds) v) : ∃ l us, v = .ref l ∧ SqL K H l us ∧ RpL F ds us := by
  rcases p with p | ⟨l, us, l2, h1, h2, h3, h4, h5, h6⟩
  · obtain ⟨_, l, us, e, z, q⟩ := p.lst
    exact ⟨l, us, e, SqL.of (s _ _ z), q⟩
  · cases h2
    exact ⟨l, us, h1, SqL.of h3, h4⟩
theorem f_sortK (hg : Gl X "sorted") (hm : X.mg "sorted" = none) (F : CallOk X.prog X.w X.K X.mg X.base n x (spD X.K 1 g)) (hr : Room (n + 2) X.A) (hgx : Gl X x) (hdb : (x == ("__debug__" : Str)) = false) (hs : starEach [a] X.env = (false, eval a X.env) :: starEach [] X.env) (ha : DS X a fa) :
    DF X (.Call (.Name "sorted" p) [a] [⟨some ("key" : Str), .Name x p2, kp⟩] pos) (fun ρ => bnd (fa ρ) (sortKD g)) := by
  obtain ⟨f0, fd, ps, Fo, hmx, hk, hb⟩ := F.ok
  have hc : CallRK X (.builtin "sorted") [Str.ofString "key"] (rSortK X f0 g) := by
    intro pins s σ H vs zs us ws Q I r rz h
    obtain ⟨rr, F, w, l, us', ds, ks, rfl, rfl, h1, h2, h3, h4, h5, h6, h7, h8⟩ := h
    obtain rfl := L2.Vals.ref1 r
    obtain rfl := L2.Vals.ref1 rz
    have hr2 : Room n X.A.in1.in1 := (Room.in1 (Room.in1 (k := n + 1) hr))
    exact sortKey_run I h1 h2 h3 h4 h5 h6 h7 Fo hr2 (by have := hr2.un; omega) hb h8
  refine PE_imp (pe_callBK (ks := [Str.ofString "key"]) hc hg hm (by rfl) (pa_cons ha pa_nil hs) (pk_cons (pe_glob hgx hmx (show RelV (V.ref f0) (Value.ref f0) from rfl) hdb) pk_nil) (by decide) (by decide) (by rw [hs]; rfl) (by rw [hs]; rfl) (by rfl) (by rfl) (by rfl)) fun σ H Q ⟨rr, F, ρ, w, s, o⟩ => ?_
  refine ⟨rr, F, ρ, w, s, (Out.bind (P := PSr) (P' := PF) o).mono fun v H1 ⟨F1, d, w1, n1, p1, o1⟩ => ?_⟩
  cases d with
  | list ds =>
    obtain ⟨l, us, rfl, q1, q2⟩ := PSr.lst (K := X.K) n1.inn p1
    have o1' : Out PF X.K rr F1 H1 (sortKD g (.list ds) w1) Q := o1
    unfold sortKD at o1'
    dsimp only at o1'
    cases e : keysAt g w1 ds with
    | none => rw [e] at o1'; exact o1'.elim
    | some ks =>
      rw [e] at o1'
      dsimp only at o1'
      by_cases hc : (sortOk ks && decide (ds.length ≤ sizeLine)) = true
      · rw [if_pos hc] at o1'
        rw [Bool.and_eq_true, decide_eq_true_eq] at hc
        exact ⟨rr, F1, w1, l, us, ds, ks, rfl, rfl, q1, n1.inn, n1.row, q2, e, hc.1, hc.2, o1'⟩
      · rw [if_neg hc] at o1'
        exact o1'.elim
  | _ => exact o1.elim
theorem f_sort0 (hu : X.A.units + 10 < cLine) (hg : Gl X "sorted") (hm : X.mg "sorted" = none) (hs : starEach [a] X.env = (false, eval a X.env) :: starEach [] X.env) (ha : DS X a fa) :
    DF X (.Call (.Name "sorted" p) [a] [] pos) (fun ρ => bnd (fa ρ) sort0D) := by
  have hc : CallR X (.builtin "sorted") (fun vs H Q => ∃ (rr : Rw) (F : Hp) (w : W) (l : Addr) (us : List V) (ds : List D), vs = [V.ref l] ∧ SqL X.K H l us ∧ Sub F H ∧ RowOk X.K rr F H w ∧ RpL F ds us ∧ sortOk ds = true ∧ ds.length ≤ sizeLine ∧ Out PF X.K rr F H (.ok (.list (sortBy ds ds)) w) Q) := by
    intro pins s σ H vs us Q I r h
    obtain ⟨rr, F, w, l, us', ds, rfl, h1, h2, h3, h4, h6, h7, h8⟩ := h
    obtain rfl := L2.Vals.ref1 r
    exact sort0_run I h1 h2 h3 h4 h6 h7 hu h8
  refine PE_imp (pe_callB hc hg hm (by rfl) (pa_cons ha pa_nil hs) (by decide) (by decide) hs) fun σ H Q ⟨rr, F, ρ, w, s, o⟩ => ?_
  refine ⟨rr, F, ρ, w, s, (Out.bind (P := PSr) (P' := PF) o).mono fun v H1 ⟨F1, d, w1, n1, p1, o1⟩ => ?_⟩
  cases d with
  | list ds =>
    obtain ⟨l, us, rfl, q1, q2⟩ := PSr.lst (K := X.K) n1.inn p1
    have o1' : Out PF X.K rr F1 H1 (sort0D (.list ds) w1) Q := o1
    unfold sort0D at o1'
    dsimp only at o1'
    by_cases hc : (sortOk ds && decide (ds.length ≤ sizeLine)) = true
    · rw [if_pos hc] at o1'
      rw [Bool.and_eq_true, decide_eq_true_eq] at hc
      exact ⟨rr, F1, w1, l, us, ds, rfl, q1, n1.inn, n1.row, q2, hc.1, hc.2, o1'⟩
    · rw [if_neg hc] at o1'
      exact o1'.elim
  | _ => exact o1.elim
theorem f_revS {k : Nat} {q1 q2 q3 : Pos} (ha : DS X a fa) : DF X (.Subscript a (.Slice none none (some (.UnaryOp .USub (.Constant (.int 1) k q1) q2)) q3) pos) (fun ρ => bnd (fa ρ) revD) :=
  PE_imp (pe_revL ha) fun σ H Q ⟨rr, F, ρ, w, s, o⟩ => ⟨rr, F, ρ, w, s, (Out.bind (P := PSr) (P' := PF) o).mono fun v H1 ⟨F1, d, w1, n1, p1, o1⟩ => by
    cases d with
    | list ds =>
      obtain ⟨l, us, rfl, q1, q2⟩ := PSr.lst (K := X.K) n1.inn p1
      refine ⟨l, us, rfl, q1, fun p hp => ?_⟩
      have nF : F1 p = none := by
        cases z : F1 p with
        | none => rfl
        | some o => rw [n1.inn _ o z] at hp; cases hp
      have hz : ds.length ≤ sizeLine := by
        rcases p1 with p1 | ⟨_, _, l2, _, h2, _, _, _, h6⟩
        · exact p1.lst.1
        · cases h2; exact h6
      exact o1 (.ref p) F1 (upd H1 p (.lst us.reverse)) (Nx.fresh n1.inn n1.row hp) ⟨p, us.reverse, _, rfl, rfl, upd_same, RpL.reverse q2, nF, hp, (fun z => by
        obtain ⟨o, hh⟩ := n1.row.there z
        rw [hp] at hh
        cases hh), by rw [List.length_reverse]; exact hz⟩
    | _ => exact o1.elim⟩
end
end Dn
/-! sets of things that are carried by value: set(x), {None}, == -/
namespace SV
open PySem PySem.Spec PyProof.Rows L2 PySem.W
set_option autoImplicit true
section
variable {K : Type} [DecidableEq K]
/-- the things met, each once -/
def firsts (val : Nat → K) (i : Nat) : List K := ((List.range i).map val).foldl (fun l k => if l.contains k then l else l ++ [k]) []
theorem firsts_succ (val : Nat → K) (i : Nat) : firsts val (i + 1) = if (firsts val i).contains (val i) then firsts val i else firsts val i ++ [val i] := by
  unfold firsts
  rw [List.range_succ, List.map_append, List.foldl_append]
  rfl
theorem firsts_le (val : Nat → K) : ∀ i, (firsts val i).length ≤ i
  | 0 => Nat.le_refl _
  | i + 1 => by
    rw [firsts_succ]
    have ih := firsts_le val i
    split
    · omega
    · rw [List.length_append, List.length_singleton]; omega
theorem firsts_mem (val : Nat → K) : ∀ (i : Nat) (k : K), k ∈ firsts val i ↔ ∃ j, j < i ∧ val j = k
  | 0, k => ⟨(fun h => by cases h), fun ⟨j, h, _⟩ => absurd h (Nat.not_lt_zero _)⟩
  | i + 1, k => by
    rw [firsts_succ]
    have ih := firsts_mem val i
    constructor
    · intro h
      split at h
      · obtain ⟨j, h1, h2⟩ := (ih k).mp h
        exact ⟨j, by omega, h2⟩
      · rcases List.mem_append.mp h with h | h
        · obtain ⟨j, h1, h2⟩ := (ih k).mp h
          exact ⟨j, by omega, h2⟩
        · cases List.mem_singleton.mp h
          exact ⟨i, by omega, rfl⟩
    · rintro ⟨j, h1, h2⟩
      by_cases hj : j < i
      · have := (ih k).mpr ⟨j, hj, h2⟩
        split
        · exact this
        · exact List.mem_append_left _ this
      · have e : j = i := by omega
        subst e
        subst h2
        split
        · rename_i h
          simpa using h
        · exact List.mem_append_right _ (List.mem_singleton_self _)
theorem firsts_nodup (val : Nat → K) : ∀ i, (firsts val i).Nodup
  | 0 => List.nodup_nil
  | i + 1 => by
    rw [firsts_succ]
    have ih := firsts_nodup val i
    split
    · exact ih
    · rename_i h
      rw [List.nodup_append]
      refine ⟨ih, by simp, fun a ha b hb e => ?_⟩
      cases List.mem_singleton.mp hb
      exact h (by rw [← e]; simpa using ha)
end
section
variable {prog : Program} {w : World} {A : Around} {R : Result → Shared → Prop} {I : Addr} {fp wr : List Addr} {G : Array GenState → Array GenState → Prop} {n : Nat} {P : Nat → Value → Prop} {St : Nat → Shared → Prop}
variable {K : Type} [DecidableEq K] {knd : KeyKind prog w K}
theorem setOf_same {h : Heap} {a : Addr} {S S' : K → Bool} {n n' : Nat} (hS : h.SetOf knd a S n) (e : ∀ k, S k = S' k) (en : n = n') : h.SetOf knd a S' n' := by
  have : S = S' := funext e
  subst this; subst en; exact hS
theorem setOf_stay {h h' : Heap} {a : Addr} {S : K → Bool} {n : Nat} (R : h.SetOf knd a S n) (k : ∀ o, h.get? a = some o → h'.get? a = some o) : h'.SetOf knd a S n := by
  obtain ⟨o, es, ep, t, ho, r⟩ := R
  exact ⟨o, es, ep, t, k o ho, r⟩
theorem loopK (W : WalksS prog w A.in1 I fp wr G n P St) (S : Addr) (hSf : S ∉ fp)
    (val : Nat → K) (hval : ∀ i v, P i v → knd.is (val i) v = true ∧ v.scannable = true) (hb : n + 1 < scanBound) :
    ∀ (k i : Nat) (s : Shared), n - i = k → i ≤ n → St i s →
      s.heap.SetOf knd S (fun k' => (firsts val i).contains k') (firsts val i).length →
      (∀ s', Moved (S :: wr) G s s' → s'.heap.SetOf knd S (fun k' => (firsts val n).contains k') (firsts val n).length → R (.ok (.ret .none)) s') →
      codeAny (model prog w) A (.builtin "set.update.loop" ⟨[.ref S, .ref I], []⟩) R s := by
  have hSw : S ∉ wr := fun h => hSf (W.sub _ h)
  have hsub : ∀ b ∈ wr, b ∈ S :: wr := fun b hb => List.mem_cons_of_mem _ hb
  intro k
  induction k with
  | zero =>
    intro i s hk hi hst hS hR
    have hin : i = n := by omega
    subst hin
    refine codeAny_builtin F.entry_set_update_loop ?_
    rw [Around.under_plainId F.plain_set_update_loop _]
    show wpAny _ A.in1 (pyNext (.ref I) >>= _) _ _ s
    refine wpAny_bind (W.done s _ _ hst fun s' hm => ?_)
    show wpAny _ A.in1 (ret Value.none) _ _ s'
    exact wpAny_pure (hR s' (hm.mono hsub) (setOf_stay hS fun o ho => hm.heap S _ hSw ho))
  | succ k ih =>
    intro i s hk hi hst hS hR
    have hlt : i < n := by omega
    refine codeAny_builtin F.entry_set_update_loop ?_
    rw [Around.under_plainId F.plain_set_update_loop _]
    show wpAny _ A.in1 (pyNext (.ref I) >>= _) _ _ s
    refine wpAny_bind (W.item i s _ _ hlt hst fun v s' hP hst' hm => ?_)
    obtain ⟨hkey, hsc⟩ := hval i v hP
    have hS' : s'.heap.SetOf knd S (fun k' => (firsts val i).contains k') (firsts val i).length := setOf_stay hS fun o ho => hm.heap S _ hSw ho
    show wpAny _ A.in1 (holding [v] (setAdd S v) >>= _) _ _ s'
    refine wpAny_bind (wpAny_holding ?_)
    unfold setAdd
    refine wpAny_holding ?_
    refine wpAny_bind (knd.pyHash (k := val i) hkey ?_)
    have hroom : (firsts val i).length + 1 < scanBound := by have := firsts_le val i; omega
    refine wpAny_setAddHashed_of (knd := knd) (s := { s' with toks := s'.toks + 1 }) hkey hsc hS' hroom fun h' hsb hS2 => ?_
    have hSi : h'.SetOf knd S (fun k' => (firsts val (i + 1)).contains k') (firsts val (i + 1)).length := by
      refine setOf_same hS2 (fun k' => ?_) ?_
      · rw [firsts_succ]
        by_cases h : (firsts val i).contains (val i) = true
        · rw [if_pos h]
          by_cases e : k' = val i
          · subst e; rw [h]; rfl
          · simp [e]
        · rw [if_neg h]
          simp [List.contains_eq_mem]
      · rw [firsts_succ]
        split <;> simp_all
    refine wpAny_pure ⟨plainId_quiet F.plain_set_update_loop _, ih (i + 1) _ (by omega) hlt (W.frame _ s' _ _ hst' (Nat.le_succ _) fun b hb o e => ?_) hSi fun s'' hm'' hS'' => ?_⟩
    · rw [hsb.2 b (fun h : b = S => hSf (by rw [← h]; exact hb))]; exact e
    · refine hR s'' (Moved.trans W.gtrans ((hm.mono hsub).then_heap (Nat.le_succ _) fun b o hb e => ?_) hm'') hS''
      rw [hsb.2 b (fun h : b = S => hb (by rw [h]; exact List.mem_cons_self))]; exact e
end
section
variable {prog : Program} {w : World} {A : Around} {E : Value → Shared → Prop} {s : Shared}
variable {K : Type} [DecidableEq K] {knd : KeyKind prog w K}
theorem setOf_fresh {h : Heap} {a : Addr} (led : Bool) (ho : h.get? a = some { cls := .type "set", dict := none, data := .set #[] 0 (.fresh 0 0 led) }) : h.SetOf knd a (fun _ => false) 0 :=
  ⟨_, #[], 0, _, ho, ⟨rfl, rfl, rfl⟩, rfl, (fun e he => by simp at he), (fun k => by simp), (by decide), (by rfl), rfl⟩
set_option maxHeartbeats 3200000
theorem call_set_list {l : Addr} {items : Array Value} {val : Nat → K} {Q : Value → Shared → Prop}
    (hh : A.handled = none) (hl : s.heap.IsList l items) (hval : ∀ (i : Nat) (v : Value), items[i]? = some v → knd.is (val i) v = true ∧ v.scannable = true) (hb : items.size + 1 < scanBound)
    (h : ∀ (h' : Heap) (tk : Nat), h'.SetOf knd s.heap.objs.size (fun k' => (firsts val items.size).contains k') (firsts val items.size).length →
      (∀ b o, b < s.heap.objs.size → s.heap.get? b = some o → h'.get? b = some o) → Q (.ref s.heap.objs.size) { s with heap := h', toks := tk }) :
    wpAny (model prog w) A (call (.type "set") [.ref l]) Q E s := by
  obtain ⟨c, tl, hmro⟩ := PySem.F.called_set.mro
  have hmade := PySem.F.called_set.made
  have hsub := PySem.F.called_set.sub
  refine wpAny_call (codeAny_of_tree ?_)
  show wpAny _ _ (callAny (.type "set") _) _ _ _
  refine wpAny_pure ⟨Code.quiet_builtin _ (by decide +kernel), codeAny_builtin PySem.F.entry_type_call ?_⟩
  rw [Around.under_plain (weight_type_call_type "set" [.ref l] []) rfl]
  have h1 := PySem.F.called_set.notType
  have h2 := PySem.F.called_set.canCreate
  have hct := PySem.F.typeCall_set_1 (.ref l)
  repeat (any_goals (first | assumption | wp_step))
  refine codeAny_mono (code_set_new_1 (.ref l) (E := E) (Q₁ := fun obj s₁ => ∃ led : Bool, obj = .ref s.heap.objs.size ∧ s₁ = { s with heap := s.heap.push { cls := .type "set", dict := none, data := .set #[] 0 (.fresh 0 0 led) } }) fun led => ⟨led, rfl, rfl⟩) fun r s₁ hr => ?_
  cases r with
  | error e => exact hr
  | ok fl =>
    cases fl with
    | ret obj =>
      obtain ⟨led, rfl, rfl⟩ := hr
      have hS : (s.heap.push { cls := .type "set", dict := none, data := .set #[] 0 (.fresh 0 0 led) }).get? s.heap.objs.size = some { cls := .type "set", dict := none, data := .set #[] 0 (.fresh 0 0 led) } := Heap.get?_push_size _ rfl
      have hT : Shared.TypeIs { s with heap := s.heap.push { cls := .type "set", dict := none, data := .set #[] 0 (.fresh 0 0 led) } } (.ref s.heap.objs.size) "set" := ⟨_, hS, rfl⟩
      have hli := PySem.F.called_set.init.lookup
      have hbi := PySem.F.called_set.init.bind (.ref s.heap.objs.size)
      repeat (any_goals (first | assumption | wp_step))
      refine codeAny_mono (codeAny_call_builtin (R := wants (fun r s₂ => r = .none ∧ ∃ h' tk, s₂ = { s with heap := h', toks := tk } ∧
          h'.SetOf knd s.heap.objs.size (fun k' => (firsts val items.size).contains k') (firsts val items.size).length ∧
          (∀ b o, b < s.heap.objs.size → s.heap.get? b = some o → h'.get? b = some o)) E) PySem.F.called_set.init.plain PySem.F.entry_set_init (check_set_init_1 hT ?_)) fun r₂ s₂ hr₂ => ?_
      · obtain ⟨ol, hol, hcl, nl, hdl⟩ := hl
        obtain ⟨ocls, odict, odata, oslots⟩ := ol
        simp only at hcl hdl
        subst hcl; subst hdl
        have hol' : (s.heap.push { cls := .type "set", dict := none, data := .set #[] 0 (.fresh 0 0 led) }).get? l = some { cls := .type "list", dict := odict, data := .seq items nl, slots := oslots } := Heap.get?_push_of_some _ hol
        have hsls := PySem.F.sub_list_set
        have hslf := PySem.F.sub_list_frozenset
        have hne : (Value.type "list" == Value.type "dict") = false := by decide
        have hl1 : (s.heap.push { cls := .type "set", dict := none, data := .set #[] 0 (.fresh 0 0 led) }).IsList l items := ⟨_, hol', rfl, nl, rfl⟩
        unfold Builtin.«set.__init__» noKeywords Builtin.Frozenset.updateFrom
        generalize hPI : pyIter = PI
        wp_walk
        subst hPI
        refine wpAny_pyIter_list hl1 ?_
        refine wpAny_bind (wpAny_runValue ?_)
        have hlS : l < s.heap.objs.size := Heap.lt_size hol
        have hh3 : A.in1.in1.in1.handled = none := by simp [hh]
        have hneI : l ≠ (s.heap.push { cls := .type "set", dict := none, data := .set #[] 0 (.fresh 0 0 led) }).objs.size := by
          rw [Heap.size_push]; exact Nat.ne_of_lt (Nat.lt_succ_of_lt hlS)
        have hSf : s.heap.objs.size ∉ [(s.heap.push { cls := .type "set", dict := none, data := .set #[] 0 (.fresh 0 0 led) }).objs.size, l] := by
          rw [Heap.size_push]; simp only [List.mem_cons, List.mem_singleton, List.not_mem_nil, or_false, not_or]
          exact ⟨Nat.ne_of_lt (Nat.lt_succ_self _), Nat.ne_of_gt hlS⟩
        refine loopK ((Walks.list hh3 _ l hneI items).toS) s.heap.objs.size
          hSf val hval hb (items.size - 0) 0 _ (by omega) (Nat.zero_le _)
          ⟨⟨_, Heap.get?_push_size _ rfl, rfl, rfl⟩, (hl1.push _)⟩ ?hS0 ?hR
        case hS0 =>
          have hget : ((s.heap.push { cls := .type "set", dict := none, data := .set #[] 0 (.fresh 0 0 led) }).push { cls := .type "list_iterator", data := .fields #[.ref l, .int 0 0] }).get? s.heap.objs.size
              = some { cls := .type "set", dict := none, data := .set #[] 0 (.fresh 0 0 led) } := Heap.get?_push_of_some _ hS
          exact setOf_same (setOf_fresh (knd := knd) led hget) (fun _ => rfl) rfl
        case hR =>
          intro s' hm hS'
          obtain ⟨h', g', d', tk', os'⟩ := s'
          have eg : g' = s.gens := hm.gens
          have ed : d' = s.drawn := hm.drawn
          have eo : os' = s.os := hm.os
          subst eg; subst ed; subst eo
          show wpAny _ _ _ _ _ _
          refine wpAny_pure ?_
          show wpAny _ _ (ret Value.none) _ _ _
          refine wpAny_pure ⟨rfl, h', tk', rfl, hS', fun b o hb e => ?_⟩
          have hb1 : b ≠ s.heap.objs.size := Nat.ne_of_lt hb
          have hb2 : b ≠ (s.heap.push { cls := .type "set", dict := none, data := .set #[] 0 (.fresh 0 0 led) }).objs.size := by
            rw [Heap.size_push]; exact Nat.ne_of_lt (Nat.lt_succ_of_lt hb)
          exact hm.heap b o (by simp only [List.mem_cons, List.mem_singleton, List.not_mem_nil, or_false, not_or]; exact ⟨hb1, hb2⟩) (Heap.get?_push_of_some _ (Heap.get?_push_of_some _ e))
      · cases r₂ with
        | error e => exact hr₂
        | ok fl₂ =>
          cases fl₂ with
          | ret r =>
            obtain ⟨rfl, h', tk, rfl, hS', hk'⟩ := hr₂
            repeat (any_goals (first | assumption | wp_step))
            exact h _ _ hS' hk'
          | _ => exact hr₂.elim
    | _ => exact hr.elim
theorem call_set_tuple {l : Addr} {items : Array Value} {val : Nat → K} {Q : Value → Shared → Prop}
    (hh : A.handled = none) (hl : s.heap.IsTuple l items) (hval : ∀ (i : Nat) (v : Value), items[i]? = some v → knd.is (val i) v = true ∧ v.scannable = true) (hb : items.size + 1 < scanBound)
    (h : ∀ (h' : Heap) (tk : Nat), h'.SetOf knd s.heap.objs.size (fun k' => (firsts val items.size).contains k') (firsts val items.size).length →
      (∀ b o, b < s.heap.objs.size → s.heap.get? b = some o → h'.get? b = some o) → Q (.ref s.heap.objs.size) { s with heap := h', toks := tk }) :
    wpAny (model prog w) A (call (.type "set") [.ref l]) Q E s := by
  obtain ⟨c, tl, hmro⟩ := PySem.F.called_set.mro
  have hmade := PySem.F.called_set.made
  have hsub := PySem.F.called_set.sub
  refine wpAny_call (codeAny_of_tree ?_)
  show wpAny _ _ (callAny (.type "set") _) _ _ _
  refine wpAny_pure ⟨Code.quiet_builtin _ (by decide +kernel), codeAny_builtin PySem.F.entry_type_call ?_⟩
  rw [Around.under_plain (weight_type_call_type "set" [.ref l] []) rfl]
  have h1 := PySem.F.called_set.notType
  have h2 := PySem.F.called_set.canCreate
  have hct := PySem.F.typeCall_set_1 (.ref l)
  repeat (any_goals (first | assumption | wp_step))
  refine codeAny_mono (code_set_new_1 (.ref l) (E := E) (Q₁ := fun obj s₁ => ∃ led : Bool, obj = .ref s.heap.objs.size ∧ s₁ = { s with heap := s.heap.push { cls := .type "set", dict := none, data := .set #[] 0 (.fresh 0 0 led) } }) fun led => ⟨led, rfl, rfl⟩) fun r s₁ hr => ?_
  cases r with
  | error e => exact hr
  | ok fl =>
    cases fl with
    | ret obj =>
      obtain ⟨led, rfl, rfl⟩ := hr
      have hS : (s.heap.push { cls := .type "set", dict := none, data := .set #[] 0 (.fresh 0 0 led) }).get? s.heap.objs.size = some { cls := .type "set", dict := none, data := .set #[] 0 (.fresh 0 0 led) } := Heap.get?_push_size _ rfl
      have hT : Shared.TypeIs { s with heap := s.heap.push { cls := .type "set", dict := none, data := .set #[] 0 (.fresh 0 0 led) } } (.ref s.heap.objs.size) "set" := ⟨_, hS, rfl⟩
      have hli := PySem.F.called_set.init.lookup
      have hbi := PySem.F.called_set.init.bind (.ref s.heap.objs.size)
      repeat (any_goals (first | assumption | wp_step))
      refine codeAny_mono (codeAny_call_builtin (R := wants (fun r s₂ => r = .none ∧ ∃ h' tk, s₂ = { s with heap := h', toks := tk } ∧
          h'.SetOf knd s.heap.objs.size (fun k' => (firsts val items.size).contains k') (firsts val items.size).length ∧
          (∀ b o, b < s.heap.objs.size → s.heap.get? b = some o → h'.get? b = some o)) E) PySem.F.called_set.init.plain PySem.F.entry_set_init (check_set_init_1 hT ?_)) fun r₂ s₂ hr₂ => ?_
      · obtain ⟨ol, hol, hcl, nl, hdl⟩ := hl
        obtain ⟨ocls, odict, odata, oslots⟩ := ol
        simp only at hcl hdl
        subst hcl; subst hdl
        have hol' : (s.heap.push { cls := .type "set", dict := none, data := .set #[] 0 (.fresh 0 0 led) }).get? l = some { cls := .type "tuple", dict := odict, data := .seq items nl, slots := oslots } := Heap.get?_push_of_some _ hol
        have hsls := PySem.F.sub_tuple_set
        have hslf := PySem.F.sub_tuple_frozenset
        have hne : (Value.type "tuple" == Value.type "dict") = false := by decide
        have hl1 : (s.heap.push { cls := .type "set", dict := none, data := .set #[] 0 (.fresh 0 0 led) }).IsTuple l items := ⟨_, hol', rfl, nl, rfl⟩
        unfold Builtin.«set.__init__» noKeywords Builtin.Frozenset.updateFrom
        generalize hPI : pyIter = PI
        wp_walk
        subst hPI
        refine wpAny_pyIter_tuple hl1 ?_
        refine wpAny_bind (wpAny_runValue ?_)
        have hlS : l < s.heap.objs.size := Heap.lt_size hol
        have hh3 : A.in1.in1.in1.handled = none := by simp [hh]
        have hneI : l ≠ (s.heap.push { cls := .type "set", dict := none, data := .set #[] 0 (.fresh 0 0 led) }).objs.size := by
          rw [Heap.size_push]; exact Nat.ne_of_lt (Nat.lt_succ_of_lt hlS)
        have hSf : s.heap.objs.size ∉ [(s.heap.push { cls := .type "set", dict := none, data := .set #[] 0 (.fresh 0 0 led) }).objs.size, l] := by
          rw [Heap.size_push]; simp only [List.mem_cons, List.mem_singleton, List.not_mem_nil, or_false, not_or]
          exact ⟨Nat.ne_of_lt (Nat.lt_succ_self _), Nat.ne_of_gt hlS⟩
        refine loopK ((Walks.tuple hh3 _ l hneI items).toS) s.heap.objs.size
          hSf val hval hb (items.size - 0) 0 _ (by omega) (Nat.zero_le _)
          ⟨⟨_, Heap.get?_push_size _ rfl, rfl, rfl⟩, (hl1.push _)⟩ ?hS0 ?hR
        case hS0 =>
          have hget : ((s.heap.push { cls := .type "set", dict := none, data := .set #[] 0 (.fresh 0 0 led) }).push { cls := .type "tuple_iterator", data := .fields #[.ref l, .int 0 0] }).get? s.heap.objs.size
              = some { cls := .type "set", dict := none, data := .set #[] 0 (.fresh 0 0 led) } := Heap.get?_push_of_some _ hS
          exact setOf_same (setOf_fresh (knd := knd) led hget) (fun _ => rfl) rfl
        case hR =>
          intro s' hm hS'
          obtain ⟨h', g', d', tk', os'⟩ := s'
          have eg : g' = s.gens := hm.gens
          have ed : d' = s.drawn := hm.drawn
          have eo : os' = s.os := hm.os
          subst eg; subst ed; subst eo
          show wpAny _ _ _ _ _ _
          refine wpAny_pure ?_
          show wpAny _ _ (ret Value.none) _ _ _
          refine wpAny_pure ⟨rfl, h', tk', rfl, hS', fun b o hb e => ?_⟩
          have hb1 : b ≠ s.heap.objs.size := Nat.ne_of_lt hb
          have hb2 : b ≠ (s.heap.push { cls := .type "set", dict := none, data := .set #[] 0 (.fresh 0 0 led) }).objs.size := by
            rw [Heap.size_push]; exact Nat.ne_of_lt (Nat.lt_succ_of_lt hb)
          exact hm.heap b o (by simp only [List.mem_cons, List.mem_singleton, List.not_mem_nil, or_false, not_or]; exact ⟨hb1, hb2⟩) (Heap.get?_push_of_some _ (Heap.get?_push_of_some _ e))
      · cases r₂ with
        | error e => exact hr₂
        | ok fl₂ =>
          cases fl₂ with
          | ret r =>
            obtain ⟨rfl, h', tk, rfl, hS', hk'⟩ := hr₂
            repeat (any_goals (first | assumption | wp_step))
            exact h _ _ hS' hk'
          | _ => exact hr₂.elim
    | _ => exact hr.elim
end
end SV
/-! sets of things that are carried by value: set(x), {None}, == -/
namespace SV
open PySem PySem.Spec PyProof.Rows L2 PySem.W
set_option autoImplicit true
section
variable {prog : Program} {w : World} {A : Around} {E : Value → Shared → Prop} {s : Shared}
variable {K : Type} [DecidableEq K] {knd : KeyKind prog w K}
/-- quiet turns -/
theorem for_quiet {α β : Type} {M : Model} {f : α → β → Sem (ForInStep β)} {b : β} {Q : β → Shared → Prop} : ∀ {l : List α}, (∀ x ∈ l, ∀ P : ForInStep β → Shared → Prop, P (.yield b) s → wpAny M A (f x b) P E s) → Q b s → wpAny M A (forIn l b f) Q E s
  | [], _, h => by rw [List.forIn_nil]; exact wpAny_pure h
  | x :: l, g, h => by
    rw [List.forIn_cons]
    refine wpAny_bind (g x (List.mem_cons_self ..) _ ?_)
    exact for_quiet (fun y hy => g y (List.mem_cons_of_mem _ hy)) h
/-- turns that may stop -/
theorem for_stop {α β : Type} {M : Model} {f : α → β → Sem (ForInStep β)} {b d : β} {good : α → Bool} {Q : β → Shared → Prop} : ∀ {l : List α}, (∀ x ∈ l, ∀ P : ForInStep β → Shared → Prop, P (if good x then .yield b else .done d) s → wpAny M A (f x b) P E s) → Q (if l.all good then b else d) s → wpAny M A (forIn l b f) Q E s
  | [], _, h => by rw [List.forIn_nil]; exact wpAny_pure h
  | x :: l, g, h => by
    rw [List.forIn_cons]
    refine wpAny_bind (g x (List.mem_cons_self ..) _ ?_)
    rw [List.all_cons] at h
    cases e : good x with
    | true =>
      rw [e, Bool.true_and] at h
      exact for_stop (fun y hy => g y (List.mem_cons_of_mem _ hy)) h
    | false =>
      rw [e] at h
      exact wpAny_pure h
theorem entry_set_eq : entryFor table "set.__eq__" = some Builtin.«frozenset.__eq__» :=
  entryFor_alias (id' := "frozenset.__eq__") (by kernel_rfl) rfl (by decide +kernel) (by kernel_rfl)
theorem entry_set_ne : entryFor table "set.__ne__" = some Builtin.«frozenset.__ne__» :=
  entryFor_alias (id' := "frozenset.__ne__") (by kernel_rfl) rfl (by decide +kernel) (by kernel_rfl)
theorem quiet_val {x : Value} {M : Model} {Q : Bool → Shared → Prop} (hx : carriedByValue x = true) (h : Q true s) : wpAny M A (Builtin.Frozenset.quietEq x) Q E s := by
  cases x <;> first | exact wpAny_pure h | exact absurd hx Bool.false_ne_true
theorem subset_ok {id : String} {a b : Addr} {S S' : K → Bool} {n n' : Nat} {Q : Bool → Shared → Prop} (hS : s.heap.SetOf knd a S n) (hS' : s.heap.SetOf knd b S' n') (hle : n ≤ n') {r : Bool}
    (hr : r = true ↔ ∀ k, S k = true → S' k = true) (h : Q r s) : wpAny (model prog w) A (Builtin.Frozenset.subsetOf id a b) Q E s := by
  have ⟨o, es, ep, t, ho, hex, hd, hel, hmem, hbd, hf, hn⟩ := hS
  have ⟨o', es', ep', t', ho', hex', hd', hel', hmem', hbd', hf', hn'⟩ := hS'
  unfold Builtin.Frozenset.subsetOf
  refine wpAny_bind (m := Builtin.Frozenset.sizeOf _) (wpAny_bind (wpAny_setEntries_of ho hd hf (wpAny_pure ?_)))
  refine wpAny_bind (m := Builtin.Frozenset.sizeOf _) (wpAny_bind (wpAny_setEntries_of ho' hd' hf' (wpAny_pure ?_)))
  rw [if_neg (by rw [hn, hn']; omega)]
  refine wpAny_bind (wpAny_setEpoch_of ho hd hf ?_)
  refine wpAny_bind (m := Builtin.Frozenset.walkUnseen a b) ?_
  unfold Builtin.Frozenset.walkUnseen
  refine wpAny_bind (wpAny_setEntries_of ho hd hf ?_)
  refine wpAny_bind (wpAny_setEntries_of ho' hd' hf' ?_)
  refine wpAny_bind (for_quiet (fun e he P hp => ?_) ?_)
  · have hc : carriedByValue e.2 = true := by
      rcases List.mem_append.mp he with he | he
      · obtain ⟨⟨k, hk, _⟩, _⟩ := hel e he
        exact knd.byValue k _ hk
      · obtain ⟨⟨k, hk, _⟩, _⟩ := hel' e he
        exact knd.byValue k _ hk
    refine wpAny_bind (quiet_val hc ?_)
    rw [if_neg (by decide)]
    exact wpAny_pure hp
  · refine wpAny_pure ?_
    refine wpAny_bind (for_stop (good := fun e => @decide (∃ k, knd.is k e.2 = true ∧ S' k = true) (Classical.propDecidable _)) (d := ⟨some false, PUnit.unit⟩) (fun e he P hp => ?_) ?_)
    · obtain ⟨⟨k, hk, hh⟩, hsc⟩ := hel e he
      have hg : @decide (∃ k, knd.is k e.2 = true ∧ S' k = true) (Classical.propDecidable _) = S' k := by
        cases hs : S' k with
        | true => exact @decide_eq_true _ (Classical.propDecidable _) ⟨k, hk, hs⟩
        | false =>
          refine @decide_eq_false _ (Classical.propDecidable _) fun ⟨k', h1, h2⟩ => ?_
          rw [knd.inj _ k' k h1 hk, hs] at h2
          cases h2
      rw [hg] at hp
      obtain ⟨h0, x⟩ := e
      have hh : h0 = knd.hash k := hh
      subst hh
      dsimp only
      refine wpAny_bind (wpAny_holding (wpAny_setFind_of hk hsc hS' fun r hr => ?_))
      cases hs : S' k with
      | true =>
        rw [hs] at hp hr
        cases r with
        | none => cases hr
        | some r =>
          rw [if_neg (by exact Bool.false_ne_true)]
          unfold Builtin.Frozenset.unchanged
          refine wpAny_bind (wpAny_bind (wpAny_setEpoch_of ho hd hf ?_))
          rw [if_neg (by simp)]
          exact wpAny_pure (wpAny_pure hp)
      | false =>
        rw [hs] at hp hr
        cases r with
        | some r => cases hr
        | none =>
          rw [if_pos (by rfl)]
          exact wpAny_pure hp
    · have hall : (es.toList.all fun e => @decide (∃ k, knd.is k e.2 = true ∧ S' k = true) (Classical.propDecidable _)) = r := by
        rw [Bool.eq_iff_iff, hr, List.all_eq_true]
        constructor
        · intro g k hk
          obtain ⟨e, he, hi⟩ := (hmem k).mp hk
          obtain ⟨k', h1, h2⟩ := @of_decide_eq_true _ (Classical.propDecidable _) (g e he)
          rwa [knd.inj _ k' k h1 hi] at h2
        · intro g e he
          obtain ⟨⟨k, hk, _⟩, _⟩ := hel e he
          exact @decide_eq_true _ (Classical.propDecidable _) ⟨k, hk, g k ((hmem k).mpr ⟨e, he, hk⟩)⟩
      rw [hall]
      cases r with
      | true => exact wpAny_pure h
      | false => exact wpAny_pure h
theorem set_eq_tree {a b : Addr} {S S' : K → Bool} {n n' : Nat} {P : PySem.Fin → Shared → Prop} (hS : s.heap.SetOf knd a S n) (hS' : s.heap.SetOf knd b S' n') {r : Bool}
    (hr : r = true ↔ n = n' ∧ ∀ k, S k = true → S' k = true) (h : P (.done (.ret (.bool r))) s) :
    wpAny (model prog w) A (Builtin.«frozenset.__eq__» ⟨[.ref a, .ref b], []⟩) P E s := by
  have hTa : s.TypeIs (.ref a) "set" := hS.typeIs
  have hTb : s.TypeIs (.ref b) "set" := hS'.typeIs
  have ⟨o, es, ep, t, ho, hex, hd, hel, hmem, hbd, hf, hn⟩ := hS
  have ⟨o', es', ep', t', ho', hex', hd', hel', hmem', hbd', hf', hn'⟩ := hS'
  show wpAny _ _ (Builtin.Frozenset.slot1 "__eq__" _ >>= _) _ _ _
  refine wpAny_bind (m := Builtin.Frozenset.slot1 "__eq__" _) (wpAny_pure ?_)
  dsimp only
  refine wpAny_bind (m := Builtin.Frozenset.isAnySet _) ?_
  show wpAny _ _ (isInstance (.ref b) (.type "set") >>= _) _ _ _
  refine wpAny_bind (wpAny_isInstance hTb sub_set_self (wpAny_pure ?_))
  rw [if_neg (by decide)]
  refine wpAny_bind (m := Builtin.Frozenset.addrOf _) (wpAny_pure ?_)
  refine wpAny_bind (m := Builtin.Frozenset.addrOf _) (wpAny_pure ?_)
  refine wpAny_bind (m := Builtin.Frozenset.sizeOf _) (wpAny_bind (wpAny_setEntries_of ho hd hf (wpAny_pure ?_)))
  refine wpAny_bind (m := Builtin.Frozenset.sizeOf _) (wpAny_bind (wpAny_setEntries_of ho' hd' hf' (wpAny_pure ?_)))
  rw [hn, hn']
  by_cases hnn : n = n'
  · rw [if_neg (by simpa using hnn)]
    refine wpAny_bind (wpAny_bind (m := isInstance (.ref a) (.type "frozenset") <&&> isInstance (.ref b) (.type "frozenset")) ?_)
    show wpAny _ _ (isInstance (.ref a) (.type "frozenset") >>= _) _ _ _
    refine wpAny_bind (wpAny_isInstance hTa PySem.F.sub_set_frozenset (wpAny_pure ?_))
    rw [if_neg (by decide)]
    refine subset_ok hS hS' (Nat.le_of_eq hnn) (r := r) (hr.trans ⟨fun g => g.2, fun g => ⟨hnn, g⟩⟩) ?_
    exact wpAny_pure h
  · rw [if_pos (by simpa using hnn)]
    have e : r = false := by
      cases r with
      | false => rfl
      | true => exact absurd (hr.mp rfl).1 hnn
    subst e
    exact wpAny_bind (wpAny_pure (wpAny_pure h))
end
end SV
/-! set(x) == {None} -/
namespace SV
open PySem PySem.Spec PyProof.Rows L2 PySem.W
set_option autoImplicit true
section
variable {prog : Program} {w : World} {A : Around} {E : Value → Shared → Prop} {s : Shared}
variable {K : Type} [DecidableEq K] {knd : KeyKind prog w K}
theorem set_ne_tree {a b : Addr} {S S' : K → Bool} {n n' : Nat} {P : PySem.Fin → Shared → Prop} (hS : s.heap.SetOf knd a S n) (hS' : s.heap.SetOf knd b S' n') {r : Bool}
    (hr : r = true ↔ n = n' ∧ ∀ k, S k = true → S' k = true) (h : P (.done (.ret (.bool (!r)))) s) :
    wpAny (model prog w) A (Builtin.«frozenset.__ne__» ⟨[.ref a, .ref b], []⟩) P E s := by
  have hTa : s.TypeIs (.ref a) "set" := hS.typeIs
  have hTb : s.TypeIs (.ref b) "set" := hS'.typeIs
  have ⟨o, es, ep, t, ho, hex, hd, hel, hmem, hbd, hf, hn⟩ := hS
  have ⟨o', es', ep', t', ho', hex', hd', hel', hmem', hbd', hf', hn'⟩ := hS'
  show wpAny _ _ (Builtin.Frozenset.slot1 "__ne__" _ >>= _) _ _ _
  refine wpAny_bind (m := Builtin.Frozenset.slot1 "__ne__" _) (wpAny_pure ?_)
  dsimp only
  refine wpAny_bind (m := Builtin.Frozenset.isAnySet _) ?_
  show wpAny _ _ (isInstance (.ref b) (.type "set") >>= _) _ _ _
  refine wpAny_bind (wpAny_isInstance hTb sub_set_self (wpAny_pure ?_))
  rw [if_neg (by decide)]
  refine wpAny_bind (m := Builtin.Frozenset.addrOf _) (wpAny_pure ?_)
  refine wpAny_bind (m := Builtin.Frozenset.addrOf _) (wpAny_pure ?_)
  refine wpAny_bind (m := Builtin.Frozenset.sizeOf _) (wpAny_bind (wpAny_setEntries_of ho hd hf (wpAny_pure ?_)))
  refine wpAny_bind (m := Builtin.Frozenset.sizeOf _) (wpAny_bind (wpAny_setEntries_of ho' hd' hf' (wpAny_pure ?_)))
  rw [hn, hn']
  by_cases hnn : n = n'
  · rw [if_neg (by simpa using hnn)]
    refine wpAny_bind (wpAny_bind (m := isInstance (.ref a) (.type "frozenset") <&&> isInstance (.ref b) (.type "frozenset")) ?_)
    show wpAny _ _ (isInstance (.ref a) (.type "frozenset") >>= _) _ _ _
    refine wpAny_bind (wpAny_isInstance hTa PySem.F.sub_set_frozenset (wpAny_pure ?_))
    rw [if_neg (by decide)]
    refine subset_ok hS hS' (Nat.le_of_eq hnn) (r := r) (hr.trans ⟨fun g => g.2, fun g => ⟨hnn, g⟩⟩) ?_
    exact wpAny_pure h
  · rw [if_pos (by simpa using hnn)]
    have e : r = false := by
      cases r with
      | false => rfl
      | true => exact absurd (hr.mp rfl).1 hnn
    subst e
    exact wpAny_bind (wpAny_pure (wpAny_pure h))
/-- two sets alike? -/
theorem cmp_set_eq {a b : Addr} {S S' : K → Bool} {n n' : Nat} {Q : Value → Shared → Prop} (hu : A.units < cLine) (hS : s.heap.SetOf knd a S n) (hS' : s.heap.SetOf knd b S' n') {r : Bool}
    (hr : r = true ↔ n = n' ∧ ∀ k, S k = true → S' k = true) (h : Q (.bool r) s) : wpAny (model prog w) A (compareOp .Eq (.ref a) (.ref b)) Q E s :=
  wpAny_richCompare_same_room (op := .Eq) hS.typeIs hS'.typeIs PySem.F.slot_set_eq (wpAny_call_entry PySem.F.slot_set_eq hS.typeIs entry_set_eq (set_eq_tree hS hS' hr ⟨_, rfl, (fun e => nomatch e), h⟩) (PySem.F.args_set_eq_2 _ _)) hu
theorem cmp_set_ne {a b : Addr} {S S' : K → Bool} {n n' : Nat} {Q : Value → Shared → Prop} (hu : A.units < cLine) (hS : s.heap.SetOf knd a S n) (hS' : s.heap.SetOf knd b S' n') {r : Bool}
    (hr : r = true ↔ n = n' ∧ ∀ k, S k = true → S' k = true) (h : Q (.bool (!r)) s) : wpAny (model prog w) A (compareOp .NotEq (.ref a) (.ref b)) Q E s :=
  wpAny_richCompare_same_room (op := .NotEq) hS.typeIs hS'.typeIs PySem.F.slot_set_ne (wpAny_call_entry PySem.F.slot_set_ne hS.typeIs entry_set_ne (set_ne_tree hS hS' hr ⟨_, rfl, (fun e => nomatch e), h⟩) (PySem.F.args_set_ne_2 _ _)) hu
theorem unledK {S : K → Bool} {n : Nat} {D : Addr} {Q : Unit → Shared → Prop} (hS : s.heap.SetOf knd D S n) (h : ∀ h', h'.SetOf knd D S n → (∀ b o, b ≠ D → s.heap.get? b = some o → h'.get? b = some o) → Q () { s with heap := h' }) :
    wpAny (model prog w) A (setUnled D) Q E s := by
  obtain ⟨o, es, ep, t, ho, hex, hd, hel, hmem, hb, hf, hn⟩ := hS
  have hf' : ({ t with led := false } : SetTable).fits es.size = true := by cases t; exact hf
  unfold setUnled
  refine wpAny_bind (wpAny_setState_of ho hd hf ?_)
  dsimp only
  refine wpAny_storeSet_of ho hd ?_ (fits_of_scanBound hb)
  obtain ⟨_, hS⟩ := SetOf_store (knd := knd) ho hex hd hel hmem hb hf'
  rw [hn] at hS
  have sb := Heap.SameBut.update s.heap D (Obj.putSet es { t with led := false })
  exact h _ hS fun b o hb e => (sb.2 b hb).trans e
end
section
variable {X : Cx}
def SetL (P : Program) (w : World) (a : Addr) (S : Leaf → Bool) (n : Nat) : HO := .ext fun h => h.SetOf (leafKind P w) a S n
theorem setL_new {w : World} {P : Program} {H : Hp} {h : Heap} {a : Addr} {S : Leaf → Bool} {n : Nat} (R : h.SetOf (leafKind P w) a S n) : ObjOk P w H h a (SetL P w a S n) := by
  have ⟨o, _, _, _, ho, _⟩ := R
  exact ⟨R, ⟨o, ho⟩, fun h1 h2 p k => setOf_stay p k⟩
theorem setL_get {pins : List (Addr × Obj)} {σ : L2.St} {H : Hp} {s : Shared} {a : Addr} {S : Leaf → Bool} {n : Nat} (I : Inv X pins σ H s) (ha : H a = some (SetL X.prog X.w a S n)) : s.heap.SetOf (leafKind X.prog X.w) a S n := (I.hok a _ ha).1
def oneNone : Leaf → Bool := fun k => decide (k = .none)
/-- {None} -/
theorem display_none {A : Around} {E : Value → Shared → Prop} {pins : List (Addr × Obj)} {σ : L2.St} {H : Hp} {s : Shared} {pos p : Pos} {j : Nat} {Q : Value → Shared → Prop} (I : Inv X pins σ H s) (hcd : PySem.W.kdsCode X.K X.env.code = true)
    (hQ : ∀ h' k', h'.SetOf (leafKind X.prog X.w) s.heap.objs.size oneNone 1 → (∀ b o, b ≠ s.heap.objs.size → s.heap.get? b = some o → h'.get? b = some o) → Q (.ref s.heap.objs.size) { s with heap := h', toks := k' }) :
    wpAny (model X.prog X.w) A (eval (.Set [.Constant .none j p] 0 pos) X.env) Q E s := by
  have hpl : ([Expr.Constant .none j p] : List Expr).all PySem.W.kdsPlain = true := rfl
  rw [arm_eval_Set]
  refine wpAny_bind (wpAny_standAt ?_)
  refine wpAny_bind (PySem.W.kds_main I.kIn hcd fun b => ?_)
  rw [PySem.W.kds_star _ hpl, List.map_map]
  refine PySem.W.kds_core (ts := (evalEach [Expr.Constant .none j p] X.env).map fun t => do let v ← t; standAt pos; pure v) (road0 _) ?_ ?_ ?_ fun led => ?_
  · refine List.findIdx?_eq_none_iff.mpr fun x hx => ?_
    obtain ⟨t, _, rfl⟩ := List.mem_map.mp hx
    rfl
  · rw [List.length_map, PySem.W.kds_len]
    exact (show 1 ≤ 30 by decide)
  · rw [List.map_map]
    try rfl
  · refine PySem.W.kds_all pos _ _ _ ?_
    show wpAny _ _ (eval (.Constant .none j p) X.env) _ _ _
    refine Constant_none ?_
    show PySem.W.KdsFill _ _ _ _ _ _ [Value.none] _
    have hS0 : (s.heap.push { cls := .type "set", dict := none, data := .set #[] 0 (.fresh 0 0 led) }).SetOf (leafKind X.prog X.w) s.heap.objs.size (fun _ => false) 0 := setOf_fresh led (Heap.get?_push_size _ rfl)
    refine PySem.W.kds_fill_cons ?_
    unfold setAdd
    refine wpAny_holding (wpAny_bind ((leafKind X.prog X.w).pyHash (k := Leaf.none) rfl ?_))
    refine wpAny_setAddHashed_of (knd := leafKind X.prog X.w) (k := Leaf.none) rfl rfl hS0 (by decide) fun h' sb hS' => ?_
    have hS1 : h'.SetOf (leafKind X.prog X.w) s.heap.objs.size oneNone 1 := setOf_same hS' (fun k => by show (false || decide (k = Leaf.none)) = _; rfl) rfl
    have hk : ∀ b o, b ≠ s.heap.objs.size → s.heap.get? b = some o → h'.get? b = some o := fun b o hb e => (sb.2 b hb).trans (Heap.get?_push_of_some _ e)
    cases hu : (displayRoad 0 [Expr.Constant .none j p] == DisplayRoad.unsure) with
    | false => exact PySem.W.kds_fill_nil rfl (hQ h' _ hS1 hk)
    | true => exact PySem.W.kds_fill_unled rfl (unledK hS1 fun h2 hS2 sb => hQ h2 _ hS2 fun b o hb e => sb b o hb (hk b o hb e))
def tNone (X : Cx) : TE := fun σ H Q => ∀ p, H p = none → Q (.ref p) (upd H p (SetL X.prog X.w p oneNone 1))
theorem pe_none {j : Nat} {p pos : Pos} (hcd : PySem.W.kdsCode X.K X.env.code = true) : PE X (.Set [.Constant .none j p] 0 pos) (tNone X) := by
  refine ⟨fun pins s σ H Q I h => ?_⟩
  refine display_none I hcd fun h' k' hS hk => ?_
  refine ⟨.ref _, upd H s.heap.objs.size (SetL X.prog X.w s.heap.objs.size oneNone 1), I.laid (t' := k') (fun b u e => hk b u (fun z => Nat.lt_irrefl _ (z ▸ Heap.lt_size e)) e) (Nat.le_refl _) (setL_new hS), rfl, h _ (I.hok.fresh (Nat.le_refl _))⟩
/-- a leaf's value -/
def leafV : V → Option Leaf | .non => some .none | .int i => some (.num i) | _ => none
theorem leafV_is {P : Program} {w : World} {v : V} {u : Value} {k : Leaf} (r : RelV v u) (e : leafV v = some k) : (leafKind P w).is k u = true ∧ u.scannable = true := by
  cases v with
  | non => cases e; cases r; exact ⟨rfl, rfl⟩
  | int i =>
    cases e
    obtain ⟨t, rfl⟩ := r
    exact ⟨by show Leaf.isOf (.num i) (.int i t) = true; simp [Leaf.isOf], rfl⟩
  | _ => cases e
def valOf (vs : List V) (i : Nat) : Leaf := ((vs[i]?).bind leafV).getD .none
/-- set(x) -/
def rSetL (X : Cx) : List V → Hp → VK → Prop := fun xs H Q => ∃ l us, xs = [V.ref l] ∧ (SqL X.K H l us ∨ SqT X.K H l us) ∧ us.length ≤ 1000 ∧ (∀ u ∈ us, ∃ k, leafV u = some k) ∧
  ∀ p, H p = none → Q (.ref p) (upd H p (SetL X.prog X.w p (fun k => (firsts (valOf us) us.length).contains k) (firsts (valOf us) us.length).length))
theorem vals_at : ∀ {us : List V} {its : List Value} {i : Nat} {v : Value}, Vals us its → its[i]? = some v → ∃ u, us[i]? = some u ∧ RelV u v
  | _, _, i, v, .nil, h => by simp at h
  | _, _, 0, v, .cons r _, h => by
    simp at h
    subst h
    exact ⟨_, rfl, r⟩
  | _, _, i + 1, v, .cons _ rs, h => by
    obtain ⟨u, h1, h2⟩ := vals_at (i := i) rs (by simpa using h)
    exact ⟨u, by simpa using h1, h2⟩
theorem cr_setL (hc : X.calm = true) : CallR X (.type "set") (rSetL X) := by
  intro pins s σ H xs us Q I r h
  obtain ⟨l, vs, rfl, sq, hz, hl, q⟩ := h
  have hh : X.A.handled = none := I.ok.hd hc
  obtain rfl := L2.Vals.ref1 r
  have go : ∀ its : List Value, Vals vs its → (∀ (i : Nat) (v : Value), its.toArray[i]? = some v → (leafKind X.prog X.w).is (valOf vs i) v = true ∧ v.scannable = true) ∧ its.toArray.size = vs.length := fun its rv => by
    refine ⟨fun i v hv => ?_, by rw [List.size_toArray]; exact rv.length.symm⟩
    obtain ⟨u, h1, h2⟩ := vals_at rv (by simpa using hv)
    obtain ⟨k, hk⟩ := hl u (List.mem_iff_getElem?.mpr ⟨i, h1⟩)
    have : valOf vs i = k := by
      unfold valOf
      rw [h1]
      show (leafV u).getD .none = k
      rw [hk]
      rfl
    rw [this]
    exact leafV_is h2 hk
  have fin : ∀ (h' : Heap) (tk : Nat), h'.SetOf (leafKind X.prog X.w) s.heap.objs.size (fun k => (firsts (valOf vs) vs.length).contains k) (firsts (valOf vs) vs.length).length →
      (∀ b o, b < s.heap.objs.size → s.heap.get? b = some o → h'.get? b = some o) → EP X pins σ Q (.ref s.heap.objs.size) { s with heap := h', toks := tk } := fun h' tk hS hk =>
    ⟨.ref _, upd H s.heap.objs.size (SetL X.prog X.w s.heap.objs.size _ _), I.laid (t' := tk) (fun b u e => hk b u (Heap.lt_size e) e) (Nat.le_refl _) (setL_new hS), rfl, q _ (I.hok.fresh (Nat.le_refl _))⟩
  rcases sq with sq | sq
  · obtain ⟨its, rv, hpl, _⟩ := I.list sq
    obtain ⟨g1, g2⟩ := go its rv
    refine call_set_list (knd := leafKind X.prog X.w) (val := valOf vs) hh hpl.isList g1 (by rw [g2]; unfold scanBound; omega) fun h' tk hS hk => ?_
    rw [g2] at hS
    exact fin h' tk hS hk
  · obtain ⟨its, rv, ht, _⟩ := I.tuple sq
    obtain ⟨g1, g2⟩ := go its rv
    refine call_set_tuple (knd := leafKind X.prog X.w) (val := valOf vs) hh ht g1 (by rw [g2]; unfold scanBound; omega) fun h' tk hS hk => ?_
    rw [g2] at hS
    exact fin h' tk hS hk
def rSetCmp (X : Cx) (neg : Bool) : R2 := fun x y H Q => ∃ a b S S' n n' r, x = V.ref a ∧ y = V.ref b ∧ H a = some (SetL X.prog X.w a S n) ∧ H b = some (SetL X.prog X.w b S' n') ∧ (r = true ↔ n = n' ∧ ∀ k, S k = true → S' k = true) ∧ Q (.bl (if neg then !r else r)) H
theorem or_setEq (hu : X.A.units < cLine) : OpR X (compareOp .Eq) (rSetCmp X false) := by
  intro pins s σ H x y v u Q I rx ry h
  obtain ⟨a, b, S, S', n, n', r, rfl, rfl, ha, hb, hr, q⟩ := h
  cases rx
  cases ry
  refine cmp_set_eq hu (setL_get I ha) (setL_get I hb) hr ?_
  exact ⟨.bl r, H, I, rfl, q⟩
theorem or_setNe (hu : X.A.units < cLine) : OpR X (compareOp .NotEq) (rSetCmp X true) := by
  intro pins s σ H x y v u Q I rx ry h
  obtain ⟨a, b, S, S', n, n', r, rfl, rfl, ha, hb, hr, q⟩ := h
  cases rx
  cases ry
  refine cmp_set_ne hu (setL_get I ha) (setL_get I hb) hr ?_
  exact ⟨.bl (!r), H, I, rfl, q⟩
end
end SV
namespace Dn
open PySem PySem.Spec PyProof.Rows L2 SV
set_option autoImplicit true
/-! ### set(x) == {None}, over plain data -/
theorem firsts_one {val : Nat → Leaf} {n : Nat} : ((firsts val n).length = 1 ∧ ∀ k, (firsts val n).contains k = true → oneNone k = true) ↔ (0 < n ∧ ∀ j, j < n → val j = .none) := by
  constructor
  · rintro ⟨h1, h2⟩
    refine ⟨?_, fun j hj => ?_⟩
    · cases n with
      | zero => cases h1
      | succ n => exact Nat.succ_pos _
    · have := h2 (val j) (by rw [List.contains_eq_mem]; exact decide_eq_true ((firsts_mem val n _).mpr ⟨j, hj, rfl⟩))
      simpa [oneNone] using this
  · rintro ⟨h1, h2⟩
    have hall : ∀ k ∈ firsts val n, k = Leaf.none := fun k hk => by
      obtain ⟨j, hj, e⟩ := (firsts_mem val n k).mp hk
      rw [← e, h2 j hj]
    refine ⟨?_, fun k hk => ?_⟩
    · have hnd := firsts_nodup val n
      have hm : Leaf.none ∈ firsts val n := (firsts_mem val n _).mpr ⟨0, h1, h2 0 h1⟩
      cases e : firsts val n with
      | nil => rw [e] at hm; cases hm
      | cons a l =>
        cases l with
        | nil => rfl
        | cons b l =>
          rw [e] at hnd hall
          have e1 := hall a (List.mem_cons_self ..)
          have e2 := hall b (List.mem_cons_of_mem _ (List.mem_cons_self ..))
          subst e1
          subst e2
          exact absurd (List.mem_cons_self ..) (List.nodup_cons.mp hnd).1
    · have : k ∈ firsts val n := by simpa [List.contains_eq_mem] using hk
      rw [hall k this]
      rfl
theorem leaf_rel {F : Hp} {d : D} {v : V} (h : Rp F d v) (hl : leafD d = true) : ∃ k, leafV v = some k ∧ (k = Leaf.none ↔ isNone d = true) := by
  cases d with
  | none => cases (show v = .non from h); exact ⟨_, rfl, ⟨fun _ => rfl, fun _ => rfl⟩⟩
  | int i => cases (show v = .int i from h); exact ⟨_, rfl, ⟨(fun e => by cases e), (fun e => by cases e)⟩⟩
  | _ => cases hl
theorem leaf_all {F : Hp} : ∀ {ds : List D} {vs : List V}, RpL F ds vs → ds.all leafD = true → (∀ u ∈ vs, ∃ k, leafV u = some k) ∧ ((∀ j, j < vs.length → SV.valOf vs j = .none) ↔ ds.all isNone = true)
  | [], _, l, _ => by
    rw [show _ = [] from l]
    exact ⟨(fun u h => by cases h), ⟨(fun _ => rfl), (fun _ j h => by cases h)⟩⟩
  | d :: ds, _, ⟨v, r, e, q, l⟩, h => by
    subst e
    rw [List.all_cons, Bool.and_eq_true] at h
    obtain ⟨k, h1, h2⟩ := leaf_rel q h.1
    obtain ⟨g1, g2⟩ := leaf_all l h.2
    refine ⟨fun u hu => ?_, ?_⟩
    · rcases List.mem_cons.mp hu with rfl | hu
      · exact ⟨k, h1⟩
      · exact g1 u hu
    · have e0 : SV.valOf (v :: r) 0 = k := by
        unfold SV.valOf
        show ((leafV v)).getD .none = k
        rw [h1]
        rfl
      rw [List.all_cons, Bool.and_eq_true, ← h2, ← g2]
      constructor
      · intro a
        refine ⟨by rw [← e0]; exact a 0 (by simp), fun j hj => a (j + 1) (by simpa using hj)⟩
      · rintro ⟨a, b⟩ j hj
        cases j with
        | zero => rw [e0]; exact a
        | succ j => exact b j (by simpa using hj)
section
variable {X : Cx} {a : Expr} {fa : Ev → M D} {pos p p2 p3 p4 : Pos} {j : Nat} {n : Bool}
theorem bare_imp (n : Bool) : ∀ σ H Q, tOut PV X.K (fun ρ => bnd (fa ρ) (bareD n)) σ H Q → tOp (rSetCmp X n) (tCB (rSetL X) (tCons (tOut PSr X.K fa) tNil)) (tNone X) σ H Q := fun σ H Q ⟨rr, F, ρ, w, s, o⟩ => by
  refine ⟨rr, F, ρ, w, s, (Out.bind (P := PSr) (P' := PV) o).mono fun v H1 ⟨F1, d, w1, n1, p1, o1⟩ => ?_⟩
  have key : ∀ (l : Addr) (vs : List V) (ds : List D), v = V.ref l → (SqL X.K H1 l vs ∨ SqT X.K H1 l vs) → RpL F1 ds vs → Out PV X.K rr F1 H1 ((if ds.all leafD && decide (ds.length ≤ 1000) then ret (.bool (n != (!ds.isEmpty && ds.all isNone))) else bad : M D) w1) Q →
      rSetL X [v] H1 fun x H2 => tNone X σ H2 fun y H3 => rSetCmp X n x y H3 Q := fun l vs ds ev sq rl o2 => by
    by_cases hc : (ds.all leafD && decide (ds.length ≤ 1000)) = true
    · rw [if_pos hc] at o2
      rw [Bool.and_eq_true, decide_eq_true_eq] at hc
      obtain ⟨g1, g2⟩ := leaf_all rl hc.1
      have hlen := rl.length
      refine ⟨l, vs, by rw [ev], sq, by omega, g1, fun q hq p' hp' => ?_⟩
      have nx1 := Nx.fresh (K := X.K) (r := rr) (w := w1) (o := SetL X.prog X.w q (fun k => (firsts (SV.valOf vs) vs.length).contains k) (firsts (SV.valOf vs) vs.length).length) n1.inn n1.row hq
      have nx2 := Nx.fresh (K := X.K) (r := rr) (w := w1) (o := SetL X.prog X.w p' oneNone 1) nx1.inn nx1.row hp'
      have hne : q ≠ p' := fun e => by rw [e, upd_same] at hp'; cases hp'
      refine ⟨q, p', _, _, _, _, !ds.isEmpty && ds.all isNone, rfl, rfl, by rw [upd_ne hne, upd_same], upd_same, ?_, ?_⟩
      · rw [firsts_one, Bool.and_eq_true, ← g2]
        have : (!ds.isEmpty) = true ↔ 0 < vs.length := by
          rw [← hlen]
          cases ds <;> simp
        rw [this]
      · have := o2 (.bl (n != (!ds.isEmpty && ds.all isNone))) F1 _ (nx1.trans nx2) rfl
        cases n with
        | false => simpa using this
        | true => simpa using this
    · rw [if_neg hc] at o2
      exact o2.elim
  rcases p1.seq (K := X.K) n1.inn with ⟨q, vs, ds, e1, e2, sq, l, z⟩ | ⟨q, vs, ds, e1, e2, sq, l, pp, z⟩ | ⟨kk, p⟩
  · subst e2; exact key q vs ds e1 (.inl sq) l o1
  · subst e2; exact key q vs ds e1 (.inr sq) l o1
  · cases d <;> first | exact o1.elim | cases kk
def negC : Bool → CmpOp → Bool | false, .Eq => true | true, .NotEq => true | _, _ => false
theorem or_setN (hu : X.A.units < cLine) : ∀ {n : Bool} {o : CmpOp}, negC n o = true → OpR X (compareOp o) (rSetCmp X n) ∧ (o ≠ .In ∧ o ≠ .NotIn) := by
  intro n o h
  cases n <;> cases o <;> first | cases h | skip
  · exact ⟨or_setEq hu, (by decide), (by decide)⟩
  · exact ⟨or_setNe hu, (by decide), (by decide)⟩
theorem s_bare {o : CmpOp} (hc : X.calm = true) (hu : X.A.units < cLine) (hcd : PySem.W.kdsCode X.K X.env.code = true) (hg : Gl X "set") (hm : X.mg "set" = none) (hs : starEach [a] X.env = (false, eval a X.env) :: starEach [] X.env) (ho : negC n o = true) (ha : DS X a fa) :
    DE X (.Compare (.Call (.Name "set" p) [a] [] pos) [o] [.Set [.Constant .none j p2] 0 p3] p4) (fun ρ => bnd (fa ρ) (bareD n)) := by
  obtain ⟨h1, h2, h3⟩ := or_setN hu ho
  exact PE_imp (pe_cmpR h1 (pe_callTy (cr_setL hc) hg hm (by rfl) (pa_cons ha pa_nil hs) (by decide) (by decide) hs) (pe_none hcd) (nobehind _ h2 h3)) (bare_imp n)
theorem t_bare {o : CmpOp} (hc : X.calm = true) (hu : X.A.units < cLine) (hcd : PySem.W.kdsCode X.K X.env.code = true) (hg : Gl X "set") (hm : X.mg "set" = none) (hs : starEach [a] X.env = (false, eval a X.env) :: starEach [] X.env) (ho : negC n o = true) (ha : DS X a fa) :
    DT X (.Compare (.Call (.Name "set" p) [a] [] pos) [o] [.Set [.Constant .none j p2] 0 p3] p4) (fun ρ => bnd (bnd (fa ρ) (bareD n)) asB) := by
  obtain ⟨h1, h2, h3⟩ := or_setN hu ho
  exact PT_imp (pt_cmpR h1 (pe_callTy (cr_setL hc) hg hm (by rfl) (pa_cons ha pa_nil hs) (by decide) (by decide) hs) (pe_none hcd) (nobehind _ h2 h3)) (tt_of (bare_imp n))
end
end Dn
namespace Dn
open PySem PySem.Spec PyProof.Rows L2
set_option autoImplicit true
/-! ### looks at the syntax -/
structure Cg where
  N : List Str
  sc : Scope
  fb : Str → Bool
inductive Syn | e (x : Expr) | l (xs : List Expr) | i (t x : Expr)
def vName : Expr → Option Str | .Name x _ => some x | _ => none
theorem vName_eq {x : Expr} {n : Str} (h : vName x = some n) : ∃ p, x = .Name n p := by
  cases x <;> first | (cases h; done) | (cases h; exact ⟨_, rfl⟩)
def vConst : Expr → Option Const | .Constant c _ _ => some c | _ => none
theorem vConst_eq {x : Expr} {n : Const} (h : vConst x = some n) : ∃ k p, x = .Constant n k p := by
  cases x <;> first | (cases h; done) | (cases h; exact ⟨_, _, rfl⟩)
def vBin : Expr → Option (Expr × Operator × Expr) | .BinOp a o b _ => some (a, o, b) | _ => none
theorem vBin_eq {x a b : Expr} {o : Operator} (h : vBin x = some (a, o, b)) : ∃ p, x = .BinOp a o b p := by
  cases x <;> first | (cases h; done) | (cases h; exact ⟨_, rfl⟩)
def vUn : Expr → Option (UnaryOp × Expr) | .UnaryOp o a _ => some (o, a) | _ => none
theorem vUn_eq {x a : Expr} {o : UnaryOp} (h : vUn x = some (o, a)) : ∃ p, x = .UnaryOp o a p := by
  cases x <;> first | (cases h; done) | (cases h; exact ⟨_, rfl⟩)
def vCmp : Expr → Option (Expr × CmpOp × Expr) | .Compare a [o] [b] _ => some (a, o, b) | _ => none
theorem vCmp_eq {x a b : Expr} {o : CmpOp} (h : vCmp x = some (a, o, b)) : ∃ p, x = .Compare a [o] [b] p := by
  unfold vCmp at h
  split at h
  · cases h; exact ⟨_, rfl⟩
  · cases h
def vChain : Expr → Option (Expr × CmpOp × Expr × CmpOp × Expr) | .Compare a [o, o'] [b, c] _ => some (a, o, b, o', c) | _ => none
theorem vChain_eq {x a b c : Expr} {o o' : CmpOp} (h : vChain x = some (a, o, b, o', c)) : ∃ p, x = .Compare a [o, o'] [b, c] p := by
  unfold vChain at h
  split at h
  · cases h; exact ⟨_, rfl⟩
  · cases h
def vBool : Expr → Option (BoolOp × Expr × Expr × List Expr × Pos) | .BoolOp o (a :: b :: r) p => some (o, a, b, r, p) | _ => none
theorem vBool_eq {x a b : Expr} {o : BoolOp} {r : List Expr} {p : Pos} (h : vBool x = some (o, a, b, r, p)) : x = .BoolOp o (a :: b :: r) p := by
  unfold vBool at h
  split at h
  · cases h; rfl
  · cases h
def vIf : Expr → Option (Expr × Expr × Expr) | .IfExp c a b _ => some (c, a, b) | _ => none
theorem vIf_eq {x a b c : Expr} (h : vIf x = some (c, a, b)) : ∃ p, x = .IfExp c a b p := by
  cases x <;> first | (cases h; done) | (cases h; exact ⟨_, rfl⟩)
def vTup : Expr → Option (List Expr) | .Tuple es _ _ => some es | _ => none
theorem vTup_eq {x : Expr} {es : List Expr} (h : vTup x = some es) : ∃ k p, x = .Tuple es k p := by
  cases x <;> first | (cases h; done) | (cases h; exact ⟨_, _, rfl⟩)
def vList : Expr → Option (List Expr) | .List es _ => some es | _ => none
theorem vList_eq {x : Expr} {es : List Expr} (h : vList x = some es) : ∃ p, x = .List es p := by
  cases x <;> first | (cases h; done) | (cases h; exact ⟨_, rfl⟩)
def vSub : Expr → Option (Expr × Expr) | .Subscript a b _ => some (a, b) | _ => none
theorem vSub_eq {x a b : Expr} (h : vSub x = some (a, b)) : ∃ p, x = .Subscript a b p := by
  cases x <;> first | (cases h; done) | (cases h; exact ⟨_, rfl⟩)
def vSlice : Expr → Option (Option Expr × Option Expr) | .Slice l h none _ => some (l, h) | _ => none
theorem vSlice_eq {x : Expr} {l u : Option Expr} (h : vSlice x = some (l, u)) : ∃ p, x = .Slice l u none p := by
  unfold vSlice at h
  split at h
  · cases h; exact ⟨_, rfl⟩
  · cases h
def vCall : Expr → Option (Str × Expr × List Expr × Pos) | .Call (.Name x _) (a :: es) [] p => some (x, a, es, p) | _ => none
theorem vCall_eq {x a : Expr} {f : Str} {es : List Expr} {p : Pos} (h : vCall x = some (f, a, es, p)) : ∃ q, x = .Call (.Name f q) (a :: es) [] p := by
  unfold vCall at h
  split at h
  · cases h; exact ⟨_, rfl⟩
  · cases h
def vComp : Expr → Option (Expr × Expr × Expr × List Expr × Scope × Pos) | .ListComp x [⟨t, it, ifs, 0⟩] sc p => some (x, t, it, ifs, sc, p) | _ => none
theorem vComp_eq {x e t it : Expr} {ifs : List Expr} {sc : Scope} {p : Pos} (h : vComp x = some (e, t, it, ifs, sc, p)) : x = .ListComp e [⟨t, it, ifs, 0⟩] sc p := by
  unfold vComp at h
  split at h
  · cases h; rfl
  · cases h
def isStar : Expr → Bool | .Starred .. => true | _ => false
def vStar : Expr → Option Expr | .Starred e _ => some e | _ => none
theorem vStar_eq {x a : Expr} (h : vStar x = some a) : ∃ p, x = .Starred a p := by
  cases x <;> first | (cases h; done) | (cases h; exact ⟨_, rfl⟩)
def isSlice : Expr → Bool | .Slice .. => true | _ => false
def isSet : Expr → Bool | .Set .. => true | _ => false
theorem star_no {a : Expr} (h : isStar a = false) (es : List Expr) (env : Env) : starEach (a :: es) env = (false, eval a env) :: starEach es env := by
  cases a <;> first | rfl | cases h
theorem plain_no {a : Expr} (h : isSlice a = false) : PlainIx a := fun o i => by
  cases a <;> first | rfl | cases h
theorem noset {a : Expr} (h : isSet a = false) (env : Env) (x : Value) : foldedSetIterable a env x = pure x := by
  cases a <;> first | rfl | cases h
theorem any_no {es : List Expr} (h : es.all (fun a => !isStar a) = true) (p : Pos) (env : Env) : (backTo p (starEach es env)).any (·.1) = false := by
  induction es with
  | nil => rfl
  | cons a es ih =>
    rw [List.all_cons, Bool.and_eq_true] at h
    rw [star_no (by simpa using h.1)]
    show (false || (backTo p (starEach es env)).any (·.1)) = false
    rw [ih h.2]
    rfl
def visB (c : Cg) (x : Str) : Bool := match c.sc.names.lookup x with | some .local => true | some .cell => true | some .free => true | _ => false
def glB (c : Cg) (x : Str) : Bool := match c.sc.names.lookup x with | some .globalImplicit => true | _ => false
def dbB (x : Str) : Bool := !(x == ("__debug__" : Str))
def nmB (c : Cg) (i : Nat) (x : Str) : Bool := decide (c.N[i]? = some x) && visB c x && dbB x && !(x == ("__classdict__" : Str))
def stB (c : Cg) (i : Nat) (x : Str) : Bool := decide (c.N[i]? = some x) && (match c.sc.names.lookup x with | some .local => true | some .cell => c.fb x | _ => false)
/-- a built-in's name as it stands -/
def bnB (c : Cg) (x : Str) (n : String) : Bool := decide (x = Str.ofString n) && glB c x
def litB : D → Const → Bool
  | .int i, .int j => decide (i = j)
  | .none, .none => true
  | .bool b, .bool k => b == k
  | .str x, .str y => decide (x = y)
  | _, _ => false
def opB : BOp → Operator → Bool
  | .add, .Add => true
  | .sub, .Sub => true
  | .mul, .Mult => true
  | .fdiv, .FloorDiv => true
  | .mod, .Mod => true
  | .pow, .Pow => true
  | _, _ => false
def opC : COp → CmpOp → Bool
  | .eq, .Eq => true
  | .ne, .NotEq => true
  | .lt, .Lt => true
  | .le, .LtE => true
  | .gt, .Gt => true
  | .ge, .GtE => true
  | .is_, .Is => true
  | .isnot, .IsNot => true
  | .in_, .In => true
  | .notin, .NotIn => true
  | _, _ => false
def inC : COp → Bool | .in_ => true | .notin => true | _ => false
def ownL : Tg → Syn → List (Str × Nat)
  | .nm i, .e (.Name x _) => [(x, i)]
  | .tup ts, .e (.Tuple es _ _) => ownL ts (.l es)
  | .tcons t u, .l (e :: es) => ownL t (.e e) ++ ownL u (.l es)
  | _, _ => []
def chkT : Tg → Cg → Syn → Bool
  | .nm i, c, .e (.Name x _) => stB c i x
  | .tup ts, c, .e (.Tuple es _ _) => chkT ts c (.l es)
  | .tnil, _, .l [] => true
  | .tcons t u, c, .l (e :: es) => !isStar e && chkT t c (.e e) && chkT u c (.l es)
  | _, _, _ => false
def isIter : E → Bool | .range1 _ => true | .range2 _ _ => true | .range3 _ _ => true | .zip _ _ => true | .enum _ => true | .rev _ => true | _ => false
def tst : E → Bool | .ite _ _ _ => false | _ => true
def tru : E → Bool | .lit (.bool true) => true | _ => false
def b1N : B1 → String
  | .len => "len" | .tuple => "tuple" | .list => "list" | .sum => "sum" | .max => "max" | .min => "min" | .abs => "abs" | .any => "any" | .all => "all" | .int => "int" | .str => "str"
def b2N : B2 → String | .max2 => "max" | .min2 => "min"
def inner (c : Cg) (scope : Scope) : Cg := ⟨c.N, relS scope c.sc, fun y => match scope.names.lookup y with | some .cell => true | _ => false⟩
def ob {α : Type} (o : Option α) (f : α → Bool) : Bool := match o with | some y => f y | none => false
theorem vw {α : Type} {o : Option α} {f : α → Bool} (h : ob o f = true) : ∃ y, o = some y ∧ f y = true := by
  cases o with
  | none => cases h
  | some y => exact ⟨y, rfl, h⟩
def vNeg : Expr → Option Expr | .UnaryOp .USub a _ => some a | _ => none
theorem vNeg_eq {x a : Expr} (h : vNeg x = some a) : ∃ p, x = .UnaryOp .USub a p := by
  unfold vNeg at h
  split at h
  · cases h; exact ⟨_, rfl⟩
  · cases h
def vNot : Expr → Option Expr | .UnaryOp .Not a _ => some a | _ => none
theorem vNot_eq {x a : Expr} (h : vNot x = some a) : ∃ p, x = .UnaryOp .Not a p := by
  unfold vNot at h
  split at h
  · cases h; exact ⟨_, rfl⟩
  · cases h
def bnext (op : BoolOp) (z : Expr) (r : List Expr) (p : Pos) : Expr := match r with | [] => z | _ :: _ => .BoolOp op (z :: r) p
def vAnd : Expr → Option (Expr × Expr × List Expr × Pos) | .BoolOp .And (a :: b :: r) p => some (a, b, r, p) | _ => none
theorem vAnd_eq {x a b : Expr} {r : List Expr} {p : Pos} (h : vAnd x = some (a, b, r, p)) : x = .BoolOp .And (a :: b :: r) p := by
  unfold vAnd at h
  split at h
  · cases h; rfl
  · cases h
def vOr : Expr → Option (Expr × Expr × List Expr × Pos) | .BoolOp .Or (a :: b :: r) p => some (a, b, r, p) | _ => none
theorem vOr_eq {x a b : Expr} {r : List Expr} {p : Pos} (h : vOr x = some (a, b, r, p)) : x = .BoolOp .Or (a :: b :: r) p := by
  unfold vOr at h
  split at h
  · cases h; rfl
  · cases h
def vCall1 : Expr → Option (Str × Expr) | .Call (.Name x _) [a] [] _ => some (x, a) | _ => none
theorem vCall1_eq {x a : Expr} {f : Str} (h : vCall1 x = some (f, a)) : ∃ q p, x = .Call (.Name f q) [a] [] p := by
  unfold vCall1 at h
  split at h
  · cases h; exact ⟨_, _, rfl⟩
  · cases h
def vCall2 : Expr → Option (Str × Expr × Expr) | .Call (.Name x _) [a, b] [] _ => some (x, a, b) | _ => none
theorem vCall2_eq {x a b : Expr} {f : Str} (h : vCall2 x = some (f, a, b)) : ∃ q p, x = .Call (.Name f q) [a, b] [] p := by
  unfold vCall2 at h
  split at h
  · cases h; exact ⟨_, _, rfl⟩
  · cases h
def vCall3 : Expr → Option (Str × Expr × Expr × Expr) | .Call (.Name x _) [a, b, c] [] _ => some (x, a, b, c) | _ => none
theorem vCall3_eq {x a b c : Expr} {f : Str} (h : vCall3 x = some (f, a, b, c)) : ∃ q p, x = .Call (.Name f q) [a, b, c] [] p := by
  unfold vCall3 at h
  split at h
  · cases h; exact ⟨_, _, rfl⟩
  · cases h
/-- a name at a constant place -/
def vAt : Expr → Option (Str × Int) | .Subscript (.Name x _) (.Constant (.int k) _ _) _ => some (x, k) | _ => none
theorem vAt_eq {x : Expr} {f : Str} {k : Int} (h : vAt x = some (f, k)) : ∃ p1 p2 p3 kk, x = .Subscript (.Name f p1) (.Constant (.int k) kk p2) p3 := by
  unfold vAt at h
  split at h
  · cases h; exact ⟨_, _, _, _, rfl⟩
  · cases h
def vM1 : Expr → Bool | .UnaryOp .USub (.Constant (.int 1) _ _) _ => true | _ => false
theorem vM1_eq {x : Expr} (h : vM1 x = true) : ∃ p1 p2 kk, x = .UnaryOp .USub (.Constant (.int 1) kk p1) p2 := by
  unfold vM1 at h
  split at h
  · exact ⟨_, _, _, rfl⟩
  · cases h
def vBare : Expr → Option (Str × CmpOp × Expr) | .Compare (.Call (.Name x _) [a] [] _) [o] [.Set [.Constant .none _ _] 0 _] _ => some (x, o, a) | _ => none
theorem vBare_eq {x a : Expr} {f : Str} {o : CmpOp} (h : vBare x = some (f, o, a)) : ∃ q p j p1 p2 pos, x = .Compare (.Call (.Name f q) [a] [] p) [o] [.Set [.Constant .none j p1] 0 p2] pos := by
  unfold vBare at h
  split at h
  · cases h; exact ⟨_, _, _, _, _, _, rfl⟩
  · cases h
def vCallK : Expr → Option (Str × Expr × Str) | .Call (.Name x _) [a] [⟨some k, .Name y _, _⟩] _ => if k = ("key" : Str) then some (x, a, y) else none | _ => none
theorem vCallK_eq {x a : Expr} {f y : Str} (h : vCallK x = some (f, a, y)) : ∃ q p2 kp p, x = .Call (.Name f q) [a] [⟨some ("key" : Str), .Name y p2, kp⟩] p := by
  unfold vCallK at h
  split at h
  · split at h
    · cases h
      rename_i hk
      subst hk
      exact ⟨_, _, _, _, rfl⟩
    · cases h
  · cases h
def vRev : Expr → Option Expr | .Subscript a (.Slice none none (some (.UnaryOp .USub (.Constant (.int 1) _ _) _)) _) _ => some a | _ => none
theorem vRev_eq {x a : Expr} (h : vRev x = some a) : ∃ k p1 p2 p3 pos, x = .Subscript a (.Slice none none (some (.UnaryOp .USub (.Constant (.int 1) k p1) p2)) p3) pos := by
  unfold vRev at h
  split at h
  · cases h; exact ⟨_, _, _, _, _, rfl⟩
  · cases h
def opt : Option Expr → Syn | some x => .e x | none => .l []
def chk : E → Cg → Bool → Syn → Bool
  | .nil, _, _, .l xs => xs.isEmpty
  | .cons a r, c, _, .l (x :: xs) => !isStar x && (chk a c false (.e x) && chk r c false (.l xs))
  | .star a r, c, _, .l (x :: xs) => ob (vStar x) (fun y => chk a c true (.e y)) && chk r c false (.l xs)
  | .var i, c, _, .e x => ob (vName x) fun n => nmB c i n
  | .own i, c, true, .e x => ob (vName x) fun n => nmB c i n
  | .lit d, _, _, .e x => ob (vConst x) fun k => litB d k
  | .glob n _, c, _, .e x => ob (vName x) fun y => decide (y = n) && (glB c y && dbB y)
  | .bin o a b, c, _, .e x => ob (vBin x) fun q => opB o q.2.1 && (chk a c false (.e q.1) && chk b c false (.e q.2.2))
  | .neg a, c, _, .e x => ob (vNeg x) fun y => chk a c false (.e y)
  | .not a, c, _, .e x => ob (vNot x) fun y => tst a && chk a c false (.e y)
  | .cmp o a b, c, _, .e x => ob (vCmp x) fun q => opC o q.2.1 && (!(behindInMarks q.2.1 q.2.2) && (chk a c false (.e q.1) && chk b c (inC o) (.e q.2.2)))
  | .chain o o' a b d, c, _, .e x => ob (vChain x) fun q => opC o q.2.1 && (opC o' q.2.2.2.1 && (!inC o && (!inC o' && (!(lastMarks [q.2.1, q.2.2.2.1] [q.2.2.1, q.2.2.2.2]) && (chk a c false (.e q.1) && (chk b c false (.e q.2.2.1) && chk d c false (.e q.2.2.2.2)))))))
  | .and a b, c, _, .e x => ob (vAnd x) fun q => tst a && (tst b && (chk a c false (.e q.1) && chk b c false (.e (bnext .And q.2.1 q.2.2.1 q.2.2.2))))
  | .or a b, c, _, .e x => ob (vOr x) fun q => tst a && (tst b && (chk a c false (.e q.1) && chk b c false (.e (bnext .Or q.2.1 q.2.2.1 q.2.2.2))))
  | .ite a b d, c, _, .e x => ob (vIf x) fun q => tst a && (chk a c false (.e q.1) && (chk b c false (.e q.2.1) && chk d c false (.e q.2.2)))
  | .tup es, c, _, .e x => ob (vTup x) fun xs => chk es c false (.l xs)
  | .list es, c, _, .e x => ob (vList x) fun xs => chk es c false (.l xs)
  | .ix a b, c, _, .e x => ob (vSub x) fun q => !isSlice q.2 && (chk a c true (.e q.1) && chk b c false (.e q.2))
  | .slice a lo hi, c, _, .e x => ob (vSub x) fun q => ob (vSlice q.2) fun u => chk a c true (.e q.1) && (chk lo c false (opt u.1) && chk hi c false (opt u.2))
  | .call n _ _ es, c, _, .e x => ob (vCall x) fun q => decide (q.1 = n) && (glB c q.1 && (dbB q.1 && (!isStar q.2.1 && (q.2.2.1.all (fun a => !isStar a) && chk es c false (.l (q.2.1 :: q.2.2.1))))))
  | .callR n _ _ i es, c, _, .e x => ob (vCall x) fun q => decide (q.1 = n) && (glB c q.1 && (dbB q.1 && (ob (vName q.2.1) (fun rv => nmB c i rv) && (q.2.2.1.all (fun a => !isStar a) && chk es c false (.l q.2.2.1)))))
  | .b1 b a, c, _, .e x => ob (vCall1 x) fun q => bnB c q.1 (b1N b) && (!isStar q.2 && chk a c true (.e q.2))
  | .b2 b a d, c, _, .e x => ob (vCall2 x) fun q => bnB c q.1 (b2N b) && (!isStar q.2.1 && (!isStar q.2.2 && (chk a c false (.e q.2.1) && chk d c false (.e q.2.2))))
  | .isI a cl, c, _, .e x => ob (vCall2 x) fun q => bnB c q.1 "isinstance" && (!isStar q.2.1 && (chk a c false (.e q.2.1) && ob (vName q.2.2) fun n => bnB c n cl.name))
  | .isTL a, c, _, .e x => ob (vCall2 x) fun q => bnB c q.1 "isinstance" && (!isStar q.2.1 && (chk a c false (.e q.2.1) && ob (vTup q.2.2) fun us => (match us with
      | [u1, u2] => ob (vName u1) fun n1 => ob (vName u2) fun n2 => bnB c n1 "tuple" && bnB c n2 "list"
      | _ => false)))
  | .comp elt tg src cond, c, _, .e x => ob (vComp x) fun q => blkC c.N c.sc q.2.2.2.2.1 (ownL tg (.e q.2.1)) && (decide ((ownL tg (.e q.2.1)).map (·.2) = tg.slots) && (chkT tg (inner c q.2.2.2.2.1) (.e q.2.1) &&
          (!isSet q.2.2.1 && ((if isIter src then chk src c false (.i q.2.1 q.2.2.1) else chk src c true (.e q.2.2.1)) && (chk elt (inner c q.2.2.2.2.1) false (.e q.1) &&
          (match q.2.2.2.1 with | [] => tru cond | [z] => tst cond && chk cond (inner c q.2.2.2.2.1) false (.e z) | _ => false))))))
  | .range1 a, c, _, .i _ x => ob (vCall1 x) fun q => bnB c q.1 "range" && (!isStar q.2 && chk a c false (.e q.2))
  | .range2 a b, c, _, .i _ x => ob (vCall2 x) fun q => bnB c q.1 "range" && (!isStar q.2.1 && (!isStar q.2.2 && (chk a c false (.e q.2.1) && chk b c false (.e q.2.2))))
  | .range3 a b, c, _, .i _ x => ob (vCall3 x) fun q => bnB c q.1 "range" && (!isStar q.2.1 && (!isStar q.2.2.1 && (chk a c false (.e q.2.1) && (chk b c false (.e q.2.2.1) && vM1 q.2.2.2))))
  | .zip a b, c, _, .i t x => ob (vTup t) fun _ => ob (vCall2 x) fun q => bnB c q.1 "zip" && (!isStar q.2.1 && (!isStar q.2.2 && (chk a c false (.e q.2.1) && chk b c false (.e q.2.2))))
  | .enum a, c, _, .i t x => ob (vTup t) fun _ => ob (vCall1 x) fun q => bnB c q.1 "enumerate" && (!isStar q.2 && chk a c false (.e q.2))
  | .rowAt i j, c, _, .e x => ob (vAt x) fun q => nmB c i q.1 && decide (q.2 = (j : Int))
  | .scrLen i, c, _, .e x => ob (vCall1 x) fun q => bnB c q.1 "len" && ob (vAt q.2) fun u => nmB c i u.1 && decide (u.2 = 0)
  | .scrAt i a, c, _, .e x => ob (vSub x) fun q => !isSlice q.2 && (chk a c false (.e q.2) && ob (vAt q.1) fun u => nmB c i u.1 && decide (u.2 = 0))
  | .stuck, _, _, .e _ => true
  | .listR1 a, c, _, .e x => ob (vCall1 x) fun q => bnB c q.1 "list" && ob (vCall1 q.2) fun r => bnB c r.1 "range" && (!isStar r.2 && chk a c false (.e r.2))
  | .tupR1 a, c, _, .e x => ob (vCall1 x) fun q => bnB c q.1 "tuple" && ob (vCall1 q.2) fun r => bnB c r.1 "range" && (!isStar r.2 && chk a c false (.e r.2))
  | .listR2 a b, c, _, .e x => ob (vCall1 x) fun q => bnB c q.1 "list" && ob (vCall2 q.2) fun r => bnB c r.1 "range" && (!isStar r.2.1 && (!isStar r.2.2 && (chk a c false (.e r.2.1) && chk b c false (.e r.2.2))))
  | .sortK n _ a, c, _, .e x => ob (vCallK x) fun q => bnB c q.1 "sorted" && (!isStar q.2.1 && (chk a c true (.e q.2.1) && (decide (q.2.2 = n) && (glB c n && dbB n))))
  | .sort0 a, c, _, .e x => ob (vCall1 x) fun q => bnB c q.1 "sorted" && (!isStar q.2 && chk a c true (.e q.2))
  | .bare n a, c, _, .e x => ob (vBare x) fun q => bnB c q.1 "set" && (negC n q.2.1 && (!isStar q.2.2 && chk a c true (.e q.2.2)))
  | .revS a, c, _, .e x => ob (vRev x) fun y => chk a c true (.e y)
  | _, _, _, _ => false
inductive Need | fnS (x : Str) (f : List D → M D) | fn (x : Str) (n : Nat) (f : List D → M D) | fnR (x : Str) (n : Nat) (f : List D → M D) | gl (x : Str) (d : D)
def needs : E → List Need
  | .cons a r => needs a ++ needs r
  | .star a r => needs a ++ needs r
  | .glob x d => [.gl x d]
  | .bin _ a b => needs a ++ needs b
  | .neg a => needs a
  | .not a => needs a
  | .cmp _ a b => needs a ++ needs b
  | .chain _ _ a b c => needs a ++ (needs b ++ needs c)
  | .and a b => needs a ++ needs b
  | .or a b => needs a ++ needs b
  | .ite a b c => needs a ++ (needs b ++ needs c)
  | .tup es => needs es
  | .list es => needs es
  | .ix a b => needs a ++ needs b
  | .slice a b c => needs a ++ (needs b ++ needs c)
  | .call x n f es => .fn x n f :: needs es
  | .callR x n f _ es => .fnR x n f :: needs es
  | .b1 _ a => needs a
  | .b2 _ a b => needs a ++ needs b
  | .isI a _ => needs a
  | .isTL a => needs a
  | .comp a _ b c => needs a ++ (needs b ++ needs c)
  | .range1 a => needs a
  | .range2 a b => needs a ++ needs b
  | .range3 a b => needs a ++ needs b
  | .zip a b => needs a ++ needs b
  | .enum a => needs a
  | .rev a => needs a
  | .scrAt _ e => needs e
  | .listR1 a => needs a
  | .listR2 a b => needs a ++ needs b
  | .tupR1 a => needs a
  | .sortK x g a => .fnS x g :: needs a
  | .sort0 a => needs a
  | .revS a => needs a
  | .bare _ a => needs a
  | _ => []
def scalarV : D → Option V
  | .int i => some (.int i)
  | .str s => some (.str s)
  | _ => none
def NeedOk (P : Program) (w : World) (K : PySem.W.Frag) (mg : Str → Option Value) (base : Heap) (k : Nat) : Need → Prop
  | .fnS x f => 2 ≤ k ∧ CallOk P w K mg base (k - 2) x (spD K 1 f)
  | .fn x n f => CallOk P w K mg base k x (spD K n f)
  | .fnR x n f => CallOk P w K mg base k x (spR K n f)
  | .gl x d => ∃ v u, scalarV d = some v ∧ mg x = some u ∧ RelV v u
def bnames : List String := ["len", "tuple", "list", "sum", "max", "min", "abs", "any", "all", "int", "str", "bool", "isinstance", "range", "zip", "enumerate", "reversed", "sorted", "set", "dict"]
structure Good (X : Cx) (c : Cg) (k : Nat) : Prop where
  N : X.N = c.N
  nd : X.N.Nodup
  sc : X.env.scope = c.sc
  kind : X.env.scope.kind = .function
  fb : ∀ x, c.fb x = true → X.fn x = true
  calm : X.calm = true
  room : Room k X.A
  bn : ∀ n ∈ bnames, X.mg (Str.ofString n) = none
  code : PySem.W.kdsCode X.K X.env.code = true
section
variable {X : Cx} {c : Cg} {k i : Nat} {x : Str} {n : String}
theorem Good.nm (G : Good X c k) (h : nmB c i x = true) : X.N[i]? = some x ∧ Vis X.env.scope x ∧ (x == ("__debug__" : Str)) = false ∧ (x == ("__classdict__" : Str)) = false := by
  unfold nmB at h
  simp only [Bool.and_eq_true, decide_eq_true_eq, dbB, Bool.not_eq_true'] at h
  obtain ⟨⟨⟨h1, h2⟩, h3⟩, h4⟩ := h
  refine ⟨by rw [G.N]; exact h1, ?_, h3, h4⟩
  rw [G.sc]
  unfold visB at h2
  split at h2 <;> first | exact .inl (by assumption) | exact .inr (.inl (by assumption)) | exact .inr (.inr (by assumption)) | cases h2
theorem Good.gl (G : Good X c k) (h : glB c x = true) : Gl X x := by
  show X.env.scope.names.lookup x = _
  rw [G.sc]
  unfold glB at h
  split at h
  · assumption
  · cases h
theorem Good.st (G : Good X c k) (h : stB c i x = true) : X.N[i]? = some x ∧ Loc X.env.scope x ∧ (X.fn x = true ∨ X.env.scope.names.lookup x = some .local) := by
  unfold stB at h
  simp only [Bool.and_eq_true, decide_eq_true_eq] at h
  obtain ⟨h1, h2⟩ := h
  refine ⟨by rw [G.N]; exact h1, ?_⟩
  rw [G.sc]
  split at h2 <;> first | exact ⟨.inl (by assumption), .inr (by assumption)⟩ | exact ⟨.inr (by assumption), .inl (G.fb _ h2)⟩ | cases h2
theorem Good.bt (G : Good X c k) (h : bnB c x n = true) (hn : n ∈ bnames) : x = Str.ofString n ∧ Gl X (Str.ofString n) ∧ X.mg (Str.ofString n) = none := by
  unfold bnB at h
  simp only [Bool.and_eq_true, decide_eq_true_eq] at h
  obtain ⟨rfl, h2⟩ := h
  exact ⟨rfl, G.gl h2, G.bn n hn⟩
theorem Good.blk (G : Good X c k) {scope : Scope} (hk : scope.kind = .function) (s : Shared) (H : Hp) (C : Addr) (cl : List (Str × Addr)) (fp : List Addr) : Good (X.blk s H scope (compEnvC scope cl C X.env) fp) (inner c scope) k where
  N := G.N
  nd := G.nd
  sc := by
    show relS scope X.env.scope = relS scope c.sc
    rw [G.sc]
  kind := by
    show (relS scope X.env.scope).kind = .function
    exact hk
  fb := fun x h => by
    show (scope.names.lookup x == some .cell) = true
    have h : (match scope.names.lookup x with | some .cell => true | _ => false) = true := h
    split at h
    · rename_i e; rw [e]; rfl
    · cases h
  calm := G.calm
  room := G.room
  bn := G.bn
  code := G.code
end
end Dn
namespace Dn
open PySem PySem.Spec PyProof.Rows L2
set_option autoImplicit true
def fresh : E → Bool | .list _ => true | .comp _ _ _ _ => true | .b1 .list _ => true | .listR1 _ => true | .listR2 _ _ => true | .sortK _ _ _ => true | .sort0 _ => true | .revS _ => true | _ => false
structure Snd (X : Cx) (c : Cg) (E : E) : Prop where
  v : ∀ x, chk E c false (.e x) = true → DE X x (den E)
  s : ∀ x, chk E c true (.e x) = true → DS X x (den E)
  l : ∀ xs, chk E c false (.l xs) = true → DA X xs (den E)
  i : ∀ t x, chk E c false (.i t x) = true → DI X t x (fun ρ => bnd (den E ρ) itemsOf)
  t : ∀ x, tst E = true → chk E c false (.e x) = true → DT X x (fun ρ => bnd (den E ρ) asB)
  w : ∀ op y r p, tst E = true → chk E c false (.e (.BoolOp op (y :: r) p)) = true → DW X (.BoolOp op (y :: r) p) (fun ρ => bnd (den E ρ) asB)
  f : fresh E = true → ∀ x, chk E c false (.e x) = true → DF X x (den E)
def plainX : Expr → Bool
  | .UnaryOp .Not _ _ => false
  | .BoolOp _ _ _ => false
  | .IfExp _ _ _ _ => false
  | .Compare _ _ _ _ => false
  | _ => true
theorem plain_t {x : Expr} (h : plainX x = true) (env : Env) (whole : Sem Value) : isTrue x env whole = (do let v ← whole; standAt x.pos; holding [v] (truthy v)) := by
  cases x with
  | UnaryOp op a p => cases op <;> first | rfl | cases h
  | BoolOp _ _ _ => cases h
  | IfExp _ _ _ _ => cases h
  | Compare _ _ _ _ => cases h
  | _ => rfl
section
variable {X : Cx} {c : Cg} {k i : Nat} {E0 a b d e : Dn.E}
theorem no {α : Prop} (h : false = true) : α := absurd h Bool.false_ne_true
/-- a node that is a value only, of a plain shape -/
theorem Snd.plain (v : ∀ x, chk E0 c false (.e x) = true → DE X x (den E0)) (hp : ∀ x, chk E0 c false (.e x) = true → plainX x = true) (hs : ∀ x, chk E0 c true (.e x) = chk E0 c false (.e x)) (hl : ∀ xs, chk E0 c false (.l xs) = false) (hi : ∀ t x, chk E0 c false (.i t x) = false)
    (hf : fresh E0 = true → ∀ x, chk E0 c false (.e x) = true → DF X x (den E0) := by intro z; exact no z) : Snd X c E0 where
  v := v
  s := fun x h => (v x (by rw [← hs x]; exact h)).ds
  l := fun xs h => by rw [hl] at h; exact no h
  i := fun t x h => by rw [hi] at h; exact no h
  t := fun x _ h => t_val (v x h) (plain_t (hp x h) _)
  w := fun op y r p _ h => no (hp _ h)
  f := hf
/-- .. that is walked only -/
theorem Snd.iter (i : ∀ t x, chk E0 c false (.i t x) = true → DI X t x (fun ρ => bnd (den E0 ρ) itemsOf)) (he : ∀ m x, chk E0 c m (.e x) = false) (hl : ∀ xs, chk E0 c false (.l xs) = false) (hf : fresh E0 = false) : Snd X c E0 where
  v := fun x h => by rw [he] at h; exact no h
  s := fun x h => by rw [he] at h; exact no h
  l := fun xs h => by rw [hl] at h; exact no h
  i := i
  t := fun x _ h => by rw [he] at h; exact no h
  w := fun op y r p _ h => by rw [he] at h; exact no h
  f := fun z => by rw [hf] at z; exact no z
theorem Snd.args (l : ∀ xs, chk E0 c false (.l xs) = true → DA X xs (den E0)) (he : ∀ m x, chk E0 c m (.e x) = false) (hi : ∀ t x, chk E0 c false (.i t x) = false) (hf : fresh E0 = false) : Snd X c E0 where
  v := fun x h => by rw [he] at h; exact no h
  s := fun x h => by rw [he] at h; exact no h
  l := l
  i := fun t x h => by rw [hi] at h; exact no h
  t := fun x _ h => by rw [he] at h; exact no h
  w := fun op y r p _ h => by rw [he] at h; exact no h
  f := fun z => by rw [hf] at z; exact no z
theorem nstar {x : Expr} (h : (!isStar x) = true) : isStar x = false := by simpa using h
theorem nslice {x : Expr} (h : (!isSlice x) = true) : isSlice x = false := by simpa using h
theorem two_t {a b : Bool} (h : (a && b) = true) : a = true ∧ b = true := Bool.and_eq_true _ _ ▸ h
theorem c_nil : Snd X c .nil := .args (fun xs h => by
  cases xs with
  | nil => exact a_nil
  | cons _ _ => exact no h) (fun _ _ => rfl) (fun _ _ => rfl) rfl
theorem c_cons (ha : Snd X c a) (hb : Snd X c b) : Snd X c (.cons a b) := .args (fun xs h => by
  cases xs with
  | nil => exact no h
  | cons x xs =>
    obtain ⟨h1, h⟩ := two_t h
    obtain ⟨h2, h3⟩ := two_t h
    exact a_cons (ha.v _ h2) (hb.l _ h3) (star_no (nstar h1) _ _)) (fun _ _ => rfl) (fun _ _ => rfl) rfl
theorem c_star (ha : Snd X c a) (hb : Snd X c b) : Snd X c (.star a b) := .args (fun xs h => by
  cases xs with
  | nil => exact no h
  | cons x xs =>
    obtain ⟨h1, h2⟩ := two_t h
    obtain ⟨y, e, h1⟩ := vw h1
    obtain ⟨p, rfl⟩ := vStar_eq e
    exact a_star (ha.s _ h1) (hb.l _ h2) rfl) (fun _ _ => rfl) (fun _ _ => rfl) rfl
theorem c_var (G : Good X c k) : Snd X c (.var i) := .plain (fun x h => by
    obtain ⟨n, e, h⟩ := vw h
    obtain ⟨p, rfl⟩ := vName_eq e
    obtain ⟨h1, h2, h3, h4⟩ := G.nm h
    exact s_var h1 h2 h3 h4) (fun x h => by
    obtain ⟨n, e, h⟩ := vw h
    obtain ⟨p, rfl⟩ := vName_eq e
    rfl) (fun _ => rfl) (fun _ => rfl) (fun _ _ => rfl)
theorem c_own (G : Good X c k) : Snd X c (.own i) where
  v := fun x h => no h
  s := fun x h => by
    obtain ⟨n, e, h⟩ := vw h
    obtain ⟨p, rfl⟩ := vName_eq e
    obtain ⟨h1, h2, h3, h4⟩ := G.nm h
    exact s_own h1 h2 h3 h4
  l := fun xs h => no h
  i := fun t x h => no h
  t := fun x _ h => no h
  w := fun op y r p _ h => no h
  f := fun z => no z
theorem c_lit {d : D} : Snd X c (.lit d) := .plain (fun x h => by
    obtain ⟨n, e, h⟩ := vw h
    obtain ⟨kk, p, rfl⟩ := vConst_eq e
    cases d <;> cases n <;> first | exact no h | skip
    · exact s_const pe_non fun _ => rfl
    · rename_i b b' h'
      have e : b = b' := by simpa [litB] using h'
      subst e
      exact s_const pe_bl fun _ => rfl
    · rename_i b b' h'
      have e : b = b' := by simpa [litB] using h'
      subst e
      exact s_const pe_int fun _ => rfl
    · rename_i b b' h'
      have e : b = b' := by simpa [litB] using h'
      subst e
      exact s_const pe_str fun _ => rfl) (fun x h => by
    obtain ⟨n, e, h⟩ := vw h
    obtain ⟨kk, p, rfl⟩ := vConst_eq e
    rfl) (fun _ => rfl) (fun _ => rfl) (fun _ _ => rfl)
theorem db_of {x : Str} (h : dbB x = true) : (x == ("__debug__" : Str)) = false := by
  unfold dbB at h
  simpa using h
theorem c_glob {n : Str} {d : D} (G : Good X c k) (hn : NeedOk X.prog X.w X.K X.mg X.base k (.gl n d)) : Snd X c (.glob n d) := .plain (fun x h => by
    obtain ⟨y, e, h⟩ := vw h
    obtain ⟨p, rfl⟩ := vName_eq e
    obtain ⟨h1, h⟩ := two_t h
    obtain ⟨h2, h3⟩ := two_t h
    obtain rfl := of_decide_eq_true h1
    obtain ⟨v, u, e1, e2, e3⟩ := hn
    refine s_const (pe_glob (G.gl h2) e2 e3 (db_of h3)) fun F => ?_
    cases d <;> first | (cases e1; done) | (cases e1; rfl)) (fun x h => by
    obtain ⟨y, e, h⟩ := vw h
    obtain ⟨p, rfl⟩ := vName_eq e
    rfl) (fun _ => rfl) (fun _ => rfl) (fun _ _ => rfl)
theorem bin_of {o : BOp} {op : Operator} (h : opB o op = true) : ∃ r : R2, OpR X (binaryOp op) r ∧ VR2 X.K r (binD o) := by
  cases o <;> cases op <;> first | exact no h | skip
  · exact ⟨_, op_addAll, v_add⟩
  · exact ⟨_, op_sub, v_sub⟩
  · exact ⟨_, op_mulAll, v_mul⟩
  · exact ⟨_, op_fdiv, v_fdiv⟩
  · exact ⟨_, op_mod, v_mod⟩
  · exact ⟨_, op_pow, v_pow⟩
theorem c_bin {o : BOp} (ha : Snd X c a) (hb : Snd X c b) : Snd X c (.bin o a b) := .plain (fun x h => by
    obtain ⟨⟨y, op, z⟩, e, h⟩ := vw h
    obtain ⟨p, rfl⟩ := vBin_eq e
    obtain ⟨h1, h⟩ := two_t h
    obtain ⟨h2, h3⟩ := two_t h
    obtain ⟨r, k1, k2⟩ := bin_of (X := X) h1
    exact s_bin k1 k2 (ha.v _ h2) (hb.v _ h3)) (fun x h => by
    obtain ⟨⟨y, op, z⟩, e, h⟩ := vw h
    obtain ⟨p, rfl⟩ := vBin_eq e
    rfl) (fun _ => rfl) (fun _ => rfl) (fun _ _ => rfl)
theorem c_neg (ha : Snd X c a) : Snd X c (.neg a) := .plain (fun x h => by
    obtain ⟨y, e, h⟩ := vw h
    obtain ⟨p, rfl⟩ := vNeg_eq e
    exact s_neg (ha.v _ h)) (fun x h => by
    obtain ⟨y, e, h⟩ := vw h
    obtain ⟨p, rfl⟩ := vNeg_eq e
    rfl) (fun _ => rfl) (fun _ => rfl) (fun _ _ => rfl)
/-- a node whose truth has a way of its own -/
theorem Snd.test (v : ∀ x, chk E0 c false (.e x) = true → DE X x (den E0)) (t : ∀ x, tst E0 = true → chk E0 c false (.e x) = true → DT X x (fun ρ => bnd (den E0 ρ) asB)) (hs : ∀ x, chk E0 c true (.e x) = chk E0 c false (.e x)) (hl : ∀ xs, chk E0 c false (.l xs) = false) (hi : ∀ t x, chk E0 c false (.i t x) = false)
    (hw : ∀ op y r p, tst E0 = true → chk E0 c false (.e (.BoolOp op (y :: r) p)) = true → DW X (.BoolOp op (y :: r) p) (fun ρ => bnd (den E0 ρ) asB)) (hf : fresh E0 = false) : Snd X c E0 where
  v := v
  s := fun x h => (v x (by rw [← hs x]; exact h)).ds
  l := fun xs h => by rw [hl] at h; exact no h
  i := fun t x h => by rw [hi] at h; exact no h
  t := t
  w := hw
  f := fun z => by rw [hf] at z; exact no z
theorem c_not (ha : Snd X c a) : Snd X c (.not a) := .test (fun x h => by
    obtain ⟨y, e, h⟩ := vw h
    obtain ⟨p, rfl⟩ := vNot_eq e
    exact s_not (ha.v _ (two_t h).2)) (fun x _ h => by
    obtain ⟨y, e, h⟩ := vw h
    obtain ⟨p, rfl⟩ := vNot_eq e
    obtain ⟨h1, h2⟩ := two_t h
    exact t_not (ha.t _ h1 h2)) (fun _ => rfl) (fun _ => rfl) (fun _ _ => rfl) (fun op y r p _ h => no h) rfl
theorem units65 (G : Good X c k) : X.A.units + 65 < cLine := by
  have := G.room.un
  omega
theorem units64 (G : Good X c k) : X.A.units + 64 < cLine := by
  have := units65 G
  omega
theorem cmp_of (G : Good X c k) {o : COp} {op : CmpOp} (h : opC o op = true) (hi : inC o = false) : ∃ r : R2, OpR X (compareOp op) r ∧ VR2 X.K r (cmpD o) := by
  cases o <;> cases op <;> first | exact no h | exact no hi.symm | skip
  · exact ⟨_, op_eqD (units64 G), v_eq⟩
  · exact ⟨_, op_neD (units64 G), v_ne⟩
  · exact ⟨_, op_ltAll (units65 G), v_lt⟩
  · exact ⟨_, op_le, v_le⟩
  · exact ⟨_, op_gt, v_gt⟩
  · exact ⟨_, op_ge, v_ge⟩
  · exact ⟨_, op_isAll, v_is⟩
  · exact ⟨_, op_isntAll, v_isnot⟩
theorem cmp_ofS (G : Good X c k) {o : COp} {op : CmpOp} (h : opC o op = true) (hi : inC o = true) : ∃ r : R2, OpR X (compareOp op) r ∧ VR2s X.K r (cmpD o) := by
  cases o <;> cases op <;> first | exact no h | exact no hi | skip
  · exact ⟨_, op_inAll (units65 G), v_in⟩
  · exact ⟨_, op_notinAll (units65 G), v_notin⟩
theorem cmp_view {o : COp} {x : Expr} {m : Bool} (h : chk (.cmp o a b) c m (.e x) = true) : ∃ y op z p, x = .Compare y [op] [z] p ∧ opC o op = true ∧ behindInMarks op z = false ∧ chk a c false (.e y) = true ∧ chk b c (inC o) (.e z) = true := by
  obtain ⟨⟨y, op, z⟩, e, h⟩ := vw h
  obtain ⟨p, rfl⟩ := vCmp_eq e
  obtain ⟨h1, h⟩ := two_t h
  obtain ⟨h2, h⟩ := two_t h
  obtain ⟨h3, h4⟩ := two_t h
  exact ⟨y, op, z, p, rfl, h1, by simpa using h2, h3, h4⟩
theorem c_cmp {o : COp} (G : Good X c k) (ha : Snd X c a) (hb : Snd X c b) : Snd X c (.cmp o a b) := .test (fun x h => by
    obtain ⟨y, op, z, p, rfl, h1, h2, h3, h4⟩ := cmp_view h
    cases e : inC o with
    | false => rw [e] at h4; obtain ⟨r, k1, k2⟩ := cmp_of G h1 e; exact s_cmp k1 k2 h2 (ha.v _ h3) (hb.v _ h4)
    | true => rw [e] at h4; obtain ⟨r, k1, k2⟩ := cmp_ofS G h1 e; exact s_cmpS k1 k2 h2 (ha.v _ h3) (hb.s _ h4)) (fun x _ h => by
    obtain ⟨y, op, z, p, rfl, h1, h2, h3, h4⟩ := cmp_view h
    cases e : inC o with
    | false => rw [e] at h4; obtain ⟨r, k1, k2⟩ := cmp_of G h1 e; exact t_cmp k1 k2 h2 (ha.v _ h3) (hb.v _ h4)
    | true => rw [e] at h4; obtain ⟨r, k1, k2⟩ := cmp_ofS G h1 e; exact t_cmpS k1 k2 h2 (ha.v _ h3) (hb.s _ h4)) (fun _ => rfl) (fun _ => rfl) (fun _ _ => rfl) (fun op y r p _ h => no h) rfl
end
end Dn
namespace Dn
open PySem PySem.Spec PyProof.Rows L2
set_option autoImplicit true
section
variable {X : Cx} {c : Cg} {k i : Nat} {E0 a b d e es lo hi : Dn.E}
theorem t_chain {op op' : CmpOp} {x y z : Expr} {pos : Pos} {r r' : R2} {g g' : D → D → M D} {fa fb fc : Ev → M D} (ho : OpR X (compareOp op) r) (ho' : OpR X (compareOp op') r') (v : VR2 X.K r g) (v' : VR2 X.K r' g') (ha : DE X x fa) (hb : DE X y fb) (hc : DE X z fc) :
    ∀ σ H Q, tOut PV X.K (fun ρ => bnd (fa ρ) fun x => bnd (fb ρ) fun y => bnd (bnd (g x y) asB) fun k => if k then bnd (fc ρ) fun z => g' y z else ret (.bool false)) σ H Q →
      tChain r r' (tOut PV X.K fa) (tOut PV X.K fb) (tOut PV X.K fc) σ H Q := fun σ H Q ⟨rr, F, ρ, w, s, o⟩ =>
  ⟨rr, F, ρ, w, s, (Out.bind (P := PV) o).mono fun x H1 ⟨F1, d, w1, n1, p1, o1⟩ => ⟨rr, F1, ρ, w1, s.nx n1, (Out.bind (P := PV) o1).mono fun y H2 ⟨F2, b, w2, n2, p2, o2⟩ => by
    rw [bnd_bnd] at o2
    refine v n2.inn n2.row (Rp.mono n2.sub _ _ p1) p2 ((Out.bind (P := PV) o2).mono fun z H3 ⟨F3, u, w3, n3, p3, o3⟩ => ?_)
    cases u with
    | bool k =>
      refine ⟨k, p3, ?_⟩
      cases k with
      | true =>
        rw [if_pos rfl]
        exact ⟨rr, F3, ρ, w3, ((s.nx n1).nx n2).nx n3, (Out.bind (P := PV) o3).mono fun y2 H4 ⟨F4, b4, w4, n4, p4, o4⟩ => v' n4.inn n4.row (Rp.mono (n3.sub.trans n4.sub) _ _ p2) p4 o4⟩
      | false =>
        rw [if_neg (by decide)]
        exact fin n3.inn n3.row o3 rfl
    | _ => exact o3.elim⟩⟩
theorem s_chain {op op' : CmpOp} {x y z : Expr} {pos : Pos} {r r' : R2} {g g' : D → D → M D} {fa fb fc : Ev → M D} (ho : OpR X (compareOp op) r) (ho' : OpR X (compareOp op') r') (v : VR2 X.K r g) (v' : VR2 X.K r' g') (hm : lastMarks [op, op'] [y, z] = false) (ha : DE X x fa) (hb : DE X y fb) (hc : DE X z fc) :
    DE X (.Compare x [op, op'] [y, z] pos) (fun ρ => bnd (fa ρ) fun x => bnd (fb ρ) fun y => bnd (bnd (g x y) asB) fun k => if k then bnd (fc ρ) fun z => g' y z else ret (.bool false)) :=
  PE_imp (pe_chain ho ho' ha hb hc hm) (t_chain (pos := pos) ho ho' v v' ha hb hc)
theorem tt_chain {op op' : CmpOp} {x y z : Expr} {pos : Pos} {r r' : R2} {g g' : D → D → M D} {fa fb fc : Ev → M D} (ho : OpR X (compareOp op) r) (ho' : OpR X (compareOp op') r') (v : VR2 X.K r g) (v' : VR2 X.K r' g') (hm : lastMarks [op, op'] [y, z] = false) (ha : DE X x fa) (hb : DE X y fb) (hc : DE X z fc) :
    DT X (.Compare x [op, op'] [y, z] pos) (fun ρ => bnd (bnd (fa ρ) fun x => bnd (fb ρ) fun y => bnd (bnd (g x y) asB) fun k => if k then bnd (fc ρ) fun z => g' y z else ret (.bool false)) asB) :=
  PT_imp (pt_chain ho ho' ha hb hc hm) (tt_of (t_chain (pos := pos) ho ho' v v' ha hb hc))
theorem chain_view {o o' : COp} {x : Expr} {m : Bool} (h : chk (.chain o o' a b d) c m (.e x) = true) : ∃ y op z op' u p, x = .Compare y [op, op'] [z, u] p ∧ opC o op = true ∧ opC o' op' = true ∧ inC o = false ∧ inC o' = false ∧ lastMarks [op, op'] [z, u] = false ∧ chk a c false (.e y) = true ∧ chk b c false (.e z) = true ∧ chk d c false (.e u) = true := by
  obtain ⟨⟨y, op, z, op', u⟩, e, h⟩ := vw h
  obtain ⟨p, rfl⟩ := vChain_eq e
  obtain ⟨h1, h⟩ := two_t h
  obtain ⟨h2, h⟩ := two_t h
  obtain ⟨h3, h⟩ := two_t h
  obtain ⟨h4, h⟩ := two_t h
  obtain ⟨h5, h⟩ := two_t h
  obtain ⟨h6, h⟩ := two_t h
  obtain ⟨h7, h8⟩ := two_t h
  exact ⟨y, op, z, op', u, p, rfl, h1, h2, by simpa using h3, by simpa using h4, by simpa using h5, h6, h7, h8⟩
theorem c_chain {o o' : COp} (G : Good X c k) (ha : Snd X c a) (hb : Snd X c b) (hd : Snd X c d) : Snd X c (.chain o o' a b d) := .test (fun x h => by
    obtain ⟨y, op, z, op', u, p, rfl, h1, h2, h3, h4, h5, h6, h7, h8⟩ := chain_view h
    obtain ⟨r, k1, k2⟩ := cmp_of G h1 h3
    obtain ⟨r', k1', k2'⟩ := cmp_of G h2 h4
    exact s_chain k1 k1' k2 k2' h5 (ha.v _ h6) (hb.v _ h7) (hd.v _ h8)) (fun x _ h => by
    obtain ⟨y, op, z, op', u, p, rfl, h1, h2, h3, h4, h5, h6, h7, h8⟩ := chain_view h
    obtain ⟨r, k1, k2⟩ := cmp_of G h1 h3
    obtain ⟨r', k1', k2'⟩ := cmp_of G h2 h4
    exact tt_chain k1 k1' k2 k2' h5 (ha.v _ h6) (hb.v _ h7) (hd.v _ h8)) (fun _ => rfl) (fun _ => rfl) (fun _ _ => rfl) (fun op y r p _ h => no h) rfl
theorem next_v {op : BoolOp} {z : Expr} {r : List Expr} {p : Pos} {f : Ev → M D} (h : DE X (bnext op z r p) f) : DE X (.BoolOp op (z :: r) p) f := by
  cases r with
  | nil => exact s_one h
  | cons _ _ => exact h
theorem and_view {x : Expr} {m : Bool} (h : chk (.and a b) c m (.e x) = true) : ∃ y z r p, x = .BoolOp .And (y :: z :: r) p ∧ tst a = true ∧ tst b = true ∧ chk a c false (.e y) = true ∧ chk b c false (.e (bnext .And z r p)) = true := by
  obtain ⟨⟨y, z, r, p⟩, e, h⟩ := vw h
  obtain rfl := vAnd_eq e
  obtain ⟨h1, h⟩ := two_t h
  obtain ⟨h2, h⟩ := two_t h
  obtain ⟨h3, h4⟩ := two_t h
  exact ⟨y, z, r, p, rfl, h1, h2, h3, h4⟩
theorem or_view {x : Expr} {m : Bool} (h : chk (.or a b) c m (.e x) = true) : ∃ y z r p, x = .BoolOp .Or (y :: z :: r) p ∧ tst a = true ∧ tst b = true ∧ chk a c false (.e y) = true ∧ chk b c false (.e (bnext .Or z r p)) = true := by
  obtain ⟨⟨y, z, r, p⟩, e, h⟩ := vw h
  obtain rfl := vOr_eq e
  obtain ⟨h1, h⟩ := two_t h
  obtain ⟨h2, h⟩ := two_t h
  obtain ⟨h3, h4⟩ := two_t h
  exact ⟨y, z, r, p, rfl, h1, h2, h3, h4⟩
theorem and_w (ha : Snd X c a) (hb : Snd X c b) {x : Expr} (h : chk (.and a b) c false (.e x) = true) : DW X x (fun ρ => bnd (den (.and a b) ρ) asB) := by
  obtain ⟨y, z, r, p, rfl, h1, h2, h3, h4⟩ := and_view h
  refine w_and (ha.t _ h1 h3) ?_
  cases r with
  | nil => exact w_and1 (hb.t _ h2 h4)
  | cons z2 r => exact hb.w _ _ _ _ h2 h4
theorem or_w (ha : Snd X c a) (hb : Snd X c b) {x : Expr} (h : chk (.or a b) c false (.e x) = true) : DW X x (fun ρ => bnd (den (.or a b) ρ) asB) := by
  obtain ⟨y, z, r, p, rfl, h1, h2, h3, h4⟩ := or_view h
  refine w_or (ha.t _ h1 h3) ?_
  cases r with
  | nil => exact w_or1 (hb.t _ h2 h4)
  | cons z2 r => exact hb.w _ _ _ _ h2 h4
theorem c_and (ha : Snd X c a) (hb : Snd X c b) : Snd X c (.and a b) := .test (fun x h => by
    obtain ⟨y, z, r, p, rfl, h1, h2, h3, h4⟩ := and_view h
    exact s_and (ha.v _ h3) (next_v (hb.v _ h4))) (fun x _ h => (and_w ha hb h).pt) (fun _ => rfl) (fun _ => rfl) (fun _ _ => rfl) (fun op y r p _ h => and_w ha hb h) rfl
theorem c_or (ha : Snd X c a) (hb : Snd X c b) : Snd X c (.or a b) := .test (fun x h => by
    obtain ⟨y, z, r, p, rfl, h1, h2, h3, h4⟩ := or_view h
    exact s_or (ha.v _ h3) (next_v (hb.v _ h4))) (fun x _ h => (or_w ha hb h).pt) (fun _ => rfl) (fun _ => rfl) (fun _ _ => rfl) (fun op y r p _ h => or_w ha hb h) rfl
theorem c_ite (ha : Snd X c a) (hb : Snd X c b) (hd : Snd X c d) : Snd X c (.ite a b d) := .test (fun x h => by
    obtain ⟨⟨y, z, u⟩, e, h⟩ := vw h
    obtain ⟨p, rfl⟩ := vIf_eq e
    obtain ⟨h1, h⟩ := two_t h
    obtain ⟨h2, h⟩ := two_t h
    obtain ⟨h3, h4⟩ := two_t h
    exact s_ite (ha.t _ h1 h2) (hb.v _ h3) (hd.v _ h4)) (fun x z _ => no z) (fun _ => rfl) (fun _ => rfl) (fun _ _ => rfl) (fun op y r p z h => no z) rfl
theorem c_tup (hs : Snd X c es) : Snd X c (.tup es) := .plain (fun x h => by
    obtain ⟨xs, e, h⟩ := vw h
    obtain ⟨kk, p, rfl⟩ := vTup_eq e
    exact s_tup (hs.l _ h)) (fun x h => by
    obtain ⟨xs, e, h⟩ := vw h
    obtain ⟨kk, p, rfl⟩ := vTup_eq e
    rfl) (fun _ => rfl) (fun _ => rfl) (fun _ _ => rfl)
theorem l_list (hs : Snd X c es) {x : Expr} {m : Bool} (h : chk (.list es) c m (.e x) = true) : DF X x (den (.list es)) := by
  obtain ⟨xs, e, h⟩ := vw h
  obtain ⟨p, rfl⟩ := vList_eq e
  exact f_list (hs.l _ h)
theorem c_list (hs : Snd X c es) : Snd X c (.list es) := .plain (fun x h => (l_list hs h).de) (fun x h => by
    obtain ⟨xs, e, h⟩ := vw h
    obtain ⟨p, rfl⟩ := vList_eq e
    rfl) (fun _ => rfl) (fun _ => rfl) (fun _ _ => rfl) (fun _ x h => l_list hs h)
theorem c_ix (ha : Snd X c a) (hb : Snd X c b) : Snd X c (.ix a b) := .plain (fun x h => by
    obtain ⟨⟨y, z⟩, e, h⟩ := vw h
    obtain ⟨p, rfl⟩ := vSub_eq e
    obtain ⟨h1, h⟩ := two_t h
    obtain ⟨h2, h3⟩ := two_t h
    exact s_ix (ha.s _ h2) (hb.v _ h3) (plain_no (nslice h1))) (fun x h => by
    obtain ⟨⟨y, z⟩, e, h⟩ := vw h
    obtain ⟨p, rfl⟩ := vSub_eq e
    rfl) (fun _ => rfl) (fun _ => rfl) (fun _ _ => rfl)
theorem part_of (hl : Snd X c lo) (hn : ∀ h : chk lo c false (.l []) = true, lo = .nil) {l : Option Expr} (h : chk lo c false (opt l) = true) : DO X l (fun ρ => bnd (den lo ρ) partD) := by
  cases l with
  | none => rw [hn h]; exact o_none
  | some y => exact o_some (hl.v _ h)
theorem nil_of : ∀ {E : Dn.E} {c : Cg} (h : chk E c false (.l []) = true), E = .nil := fun {E c} h => by
  cases E <;> first | rfl | exact no h
theorem c_slice (ha : Snd X c a) (hl : Snd X c lo) (hh : Snd X c hi) : Snd X c (.slice a lo hi) := .plain (fun x h => by
    obtain ⟨⟨y, z⟩, e, g⟩ := vw h
    obtain ⟨⟨l, u⟩, e2, g⟩ := vw g
    obtain ⟨p, rfl⟩ := vSub_eq e
    obtain ⟨p2, rfl⟩ := vSlice_eq e2
    obtain ⟨h1, g⟩ := two_t g
    obtain ⟨h2, h3⟩ := two_t g
    exact s_slice (ha.s _ h1) (part_of hl nil_of h2) (part_of hh nil_of h3)) (fun x h => by
    obtain ⟨⟨y, z⟩, e, h⟩ := vw h
    obtain ⟨p, rfl⟩ := vSub_eq e
    rfl) (fun _ => rfl) (fun _ => rfl) (fun _ _ => rfl)
theorem c_call {x : Str} {n : Nat} {f : List D → M D} (G : Good X c k) (hn : CallOk X.prog X.w X.K X.mg X.base k x (spD X.K n f)) (hs : Snd X c es) : Snd X c (.call x n f es) := .plain (fun y h => by
    obtain ⟨⟨g, z, zs, p⟩, e, h⟩ := vw h
    obtain ⟨q, rfl⟩ := vCall_eq e
    obtain ⟨h1, h⟩ := two_t h
    obtain ⟨h2, h⟩ := two_t h
    obtain ⟨h3, h⟩ := two_t h
    obtain ⟨h4, h⟩ := two_t h
    obtain ⟨h5, h6⟩ := two_t h
    obtain rfl := of_decide_eq_true h1
    exact s_call hn G.room (G.gl h2) (db_of h3) (hs.l _ h6) (star_no (nstar h4) _ _) (any_no h5 _ _)) (fun x h => by
    obtain ⟨⟨g, z, zs, p⟩, e, h⟩ := vw h
    obtain ⟨q, rfl⟩ := vCall_eq e
    rfl) (fun _ => rfl) (fun _ => rfl) (fun _ _ => rfl)
theorem c_callR {x : Str} {n : Nat} {f : List D → M D} (G : Good X c k) (hn : CallOk X.prog X.w X.K X.mg X.base k x (spR X.K n f)) (hs : Snd X c es) : Snd X c (.callR x n f i es) := .plain (fun y h => by
    obtain ⟨⟨g, z, zs, p⟩, e, h⟩ := vw h
    obtain ⟨q, rfl⟩ := vCall_eq e
    obtain ⟨h1, h⟩ := two_t h
    obtain ⟨h2, h⟩ := two_t h
    obtain ⟨h3, h⟩ := two_t h
    obtain ⟨h4, h⟩ := two_t h
    obtain ⟨h5, h6⟩ := two_t h
    obtain rfl := of_decide_eq_true h1
    obtain ⟨rv, e, h4⟩ := vw h4
    obtain ⟨pr, rfl⟩ := vName_eq e
    obtain ⟨n1, n2, n3, n4⟩ := G.nm h4
    exact s_callR hn G.room (G.gl h2) (db_of h3) n1 n2 n3 n4 (hs.l _ h6) (any_no h5 _ _)) (fun x h => by
    obtain ⟨⟨g, z, zs, p⟩, e, h⟩ := vw h
    obtain ⟨q, rfl⟩ := vCall_eq e
    rfl) (fun _ => rfl) (fun _ => rfl) (fun _ _ => rfl)
theorem call1_plain {x z : Expr} {f : Str} (e : vCall1 x = some (f, z)) : plainX x = true := by
  obtain ⟨q, p, rfl⟩ := vCall1_eq e
  rfl
theorem call2_plain {x z u : Expr} {f : Str} (e : vCall2 x = some (f, z, u)) : plainX x = true := by
  obtain ⟨q, p, rfl⟩ := vCall2_eq e
  rfl
theorem l_b1list (G : Good X c k) (ha : Snd X c a) {x : Expr} {m : Bool} (h : chk (.b1 .list a) c m (.e x) = true) : DF X x (den (.b1 .list a)) := by
  obtain ⟨⟨f, z⟩, e, h⟩ := vw h
  obtain ⟨q, p, rfl⟩ := vCall1_eq e
  obtain ⟨h1, h⟩ := two_t h
  obtain ⟨h2, h3⟩ := two_t h
  obtain ⟨rfl, g1, g2⟩ := G.bt h1 (by decide)
  exact f_listOf g1 g2 (by decide +kernel) (by decide) (by decide) (star_no (nstar h2) _ _) (ha.s _ h3)
theorem c_b1 {bb : B1} (G : Good X c k) (ha : Snd X c a) : Snd X c (.b1 bb a) := .plain (fun x h => by
    cases bb
    case list => exact (l_b1list G ha h).de
    all_goals
      obtain ⟨⟨f, z⟩, e, h⟩ := vw h
      obtain ⟨q, p, rfl⟩ := vCall1_eq e
      obtain ⟨h1, h⟩ := two_t h
      obtain ⟨h2, h3⟩ := two_t h
      obtain ⟨rfl, g1, g2⟩ := G.bt h1 (by decide)
    · exact s_b1B (call_len_seq.or call_len_str) v_len g1 g2 (by decide +kernel) (by decide) (by decide) (star_no (nstar h2) _ _) (ha.s _ h3)
    · exact s_b1T call_tuple_of v_tuple g1 g2 (by decide +kernel) (by decide) (by decide) (star_no (nstar h2) _ _) (ha.s _ h3)
    · exact s_b1B (cr_sum G.calm) v_sum g1 g2 (by decide +kernel) (by decide) (by decide) (star_no (nstar h2) _ _) (ha.s _ h3)
    · exact s_b1B (cr_max G.calm) v_max g1 g2 (by decide +kernel) (by decide) (by decide) (star_no (nstar h2) _ _) (ha.s _ h3)
    · exact s_b1B (cr_min G.calm) v_min g1 g2 (by decide +kernel) (by decide) (by decide) (star_no (nstar h2) _ _) (ha.s _ h3)
    · exact s_b1B call_abs v_abs g1 g2 (by decide +kernel) (by decide) (by decide) (star_no (nstar h2) _ _) (ha.s _ h3)
    · exact s_b1B (cr_any G.calm) v_any g1 g2 (by decide +kernel) (by decide) (by decide) (star_no (nstar h2) _ _) (ha.s _ h3)
    · exact s_b1B (cr_all G.calm) v_all g1 g2 (by decide +kernel) (by decide) (by decide) (star_no (nstar h2) _ _) (ha.s _ h3)
    · exact s_b1T call_int1 v_int g1 g2 (by decide +kernel) (by decide) (by decide) (star_no (nstar h2) _ _) (ha.s _ h3)
    · exact s_b1T call_str_int v_str g1 g2 (by decide +kernel) (by decide) (by decide) (star_no (nstar h2) _ _) (ha.s _ h3)) (fun x h => by
    obtain ⟨⟨f, z⟩, e, h⟩ := vw h
    exact call1_plain e) (fun _ => rfl) (fun _ => rfl) (fun _ _ => rfl) (fun z x h => by
    cases bb <;> first | exact no z | exact l_b1list G ha h)
theorem any1 {x : Expr} (h : isStar x = false) (p : Pos) (env : Env) : (backTo p (starEach [x] env)).any (·.1) = false := any_no (by rw [List.all_cons, h]; rfl) p env
theorem c_b2 {bb : B2} (G : Good X c k) (ha : Snd X c a) (hb : Snd X c b) : Snd X c (.b2 bb a b) := .plain (fun x h => by
    cases bb
    all_goals
      obtain ⟨⟨f, z, u⟩, e, h⟩ := vw h
      obtain ⟨q, p, rfl⟩ := vCall2_eq e
      obtain ⟨h1, h⟩ := two_t h
      obtain ⟨h2, h⟩ := two_t h
      obtain ⟨h3, h⟩ := two_t h
      obtain ⟨h4, h5⟩ := two_t h
      obtain ⟨rfl, g1, g2⟩ := G.bt h1 (by decide)
    · exact s_b2 (call_max2 G.calm) v_max2 g1 g2 (by decide +kernel) (by decide) (by decide) (star_no (nstar h2) _ _) (star_no (nstar h3) _ _) (any1 (nstar h3) _ _) (ha.v _ h4) (hb.v _ h5)
    · exact s_b2 (call_min2 G.calm) v_min2 g1 g2 (by decide +kernel) (by decide) (by decide) (star_no (nstar h2) _ _) (star_no (nstar h3) _ _) (any1 (nstar h3) _ _) (ha.v _ h4) (hb.v _ h5)) (fun x h => by
    obtain ⟨⟨f, z, u⟩, e, h⟩ := vw h
    exact call2_plain e) (fun _ => rfl) (fun _ => rfl) (fun _ _ => rfl)
theorem cl_in (cl : Cl) : cl.name ∈ bnames := by cases cl <;> decide
theorem cl_boot (cl : Cl) : bootBuiltins (Str.ofString cl.name) = some (.type cl.name) := by cases cl <;> decide +kernel
theorem cl_ne (cl : Cl) : Str.ofString cl.name ≠ "__name__" := by cases cl <;> decide
theorem cl_db (cl : Cl) : (Str.ofString cl.name == ("__debug__" : Str)) = false := by cases cl <;> decide
theorem c_isI {cl : Cl} (G : Good X c k) (ha : Snd X c a) : Snd X c (.isI a cl) := .plain (fun x h => by
    obtain ⟨⟨f, z, u⟩, e, h⟩ := vw h
    obtain ⟨q, p, rfl⟩ := vCall2_eq e
    obtain ⟨h1, h⟩ := two_t h
    obtain ⟨h2, h⟩ := two_t h
    obtain ⟨h3, h4⟩ := two_t h
    obtain ⟨n, e, h4⟩ := vw h4
    obtain ⟨pc, rfl⟩ := vName_eq e
    obtain ⟨rfl, g1, g2⟩ := G.bt h1 (by decide)
    obtain ⟨rfl, g3, g4⟩ := G.bt h4 (cl_in cl)
    exact s_isI g1 g2 (by decide +kernel) (by decide) (by decide) g3 g4 (cl_boot cl) (cl_ne cl) (cl_db cl) (star_no (nstar h2) _ _) (ha.v _ h3)) (fun x h => by
    obtain ⟨⟨f, z, u⟩, e, h⟩ := vw h
    exact call2_plain e) (fun _ => rfl) (fun _ => rfl) (fun _ _ => rfl)
theorem c_isTL (G : Good X c k) (ha : Snd X c a) : Snd X c (.isTL a) := .plain (fun x h => by
    obtain ⟨⟨f, z, u⟩, e, h⟩ := vw h
    obtain ⟨q, p, rfl⟩ := vCall2_eq e
    obtain ⟨h1, h⟩ := two_t h
    obtain ⟨h2, h⟩ := two_t h
    obtain ⟨h3, h4⟩ := two_t h
    obtain ⟨us, e, h4⟩ := vw h4
    obtain ⟨kk, pt, rfl⟩ := vTup_eq e
    obtain ⟨u1, u2, rfl, g4⟩ : ∃ u1 u2, us = [u1, u2] ∧ ob (vName u1) (fun n1 => ob (vName u2) fun n2 => bnB c n1 "tuple" && bnB c n2 "list") = true := by
      match us, h4 with
      | [u1, u2], h4 => exact ⟨u1, u2, rfl, h4⟩
      | [], h4 => exact no h4
      | [_], h4 => exact no h4
      | _ :: _ :: _ :: _, h4 => exact no h4
    obtain ⟨n1, e1, j1⟩ := vw g4
    obtain ⟨n2, e2, j2⟩ := vw j1
    obtain ⟨j3, h5⟩ := two_t j2
    obtain ⟨p1, rfl⟩ := vName_eq e1
    obtain ⟨p2, rfl⟩ := vName_eq e2
    obtain ⟨rfl, g1, g2⟩ := G.bt h1 (by decide)
    obtain ⟨rfl, g3, g4'⟩ := G.bt j3 (by decide)
    obtain ⟨rfl, g5, g6⟩ := G.bt h5 (by decide)
    exact s_isTL g1 g2 (by decide +kernel) (by decide) (by decide) g3 g4' (by decide +kernel) (by decide) (by decide) g5 g6 (by decide +kernel) (by decide) (by decide) (star_no (nstar h2) _ _) (ha.v _ h3)) (fun x h => by
    obtain ⟨⟨f, z, u⟩, e, h⟩ := vw h
    exact call2_plain e) (fun _ => rfl) (fun _ => rfl) (fun _ _ => rfl)
theorem c_range1 (G : Good X c k) (ha : Snd X c a) : Snd X c (.range1 a) := .iter (fun t x h => by
    obtain ⟨⟨f, z⟩, e, h⟩ := vw h
    obtain ⟨q, p, rfl⟩ := vCall1_eq e
    obtain ⟨h1, h⟩ := two_t h
    obtain ⟨h2, h3⟩ := two_t h
    obtain ⟨rfl, g1, g2⟩ := G.bt h1 (by decide)
    exact i_range1 g1 g2 (star_no (nstar h2) _ _) (ha.v _ h3)) (fun _ _ => rfl) (fun _ => rfl) rfl
theorem c_range2 (G : Good X c k) (ha : Snd X c a) (hb : Snd X c b) : Snd X c (.range2 a b) := .iter (fun t x h => by
    obtain ⟨⟨f, z, u⟩, e, h⟩ := vw h
    obtain ⟨q, p, rfl⟩ := vCall2_eq e
    obtain ⟨h1, h⟩ := two_t h
    obtain ⟨h2, h⟩ := two_t h
    obtain ⟨h3, h⟩ := two_t h
    obtain ⟨h4, h5⟩ := two_t h
    obtain ⟨rfl, g1, g2⟩ := G.bt h1 (by decide)
    exact i_range2 g1 g2 (star_no (nstar h2) _ _) (star_no (nstar h3) _ _) (any1 (nstar h3) _ _) (ha.v _ h4) (hb.v _ h5)) (fun _ _ => rfl) (fun _ => rfl) rfl
theorem c_range3 (G : Good X c k) (ha : Snd X c a) (hb : Snd X c b) : Snd X c (.range3 a b) := .iter (fun t x h => by
    obtain ⟨⟨f, z, u, y⟩, e, h⟩ := vw h
    obtain ⟨q, p, rfl⟩ := vCall3_eq e
    obtain ⟨h1, h⟩ := two_t h
    obtain ⟨h2, h⟩ := two_t h
    obtain ⟨h3, h⟩ := two_t h
    obtain ⟨h4, h⟩ := two_t h
    obtain ⟨h5, h6⟩ := two_t h
    obtain ⟨p1, p2, kk, rfl⟩ := vM1_eq h6
    obtain ⟨rfl, g1, g2⟩ := G.bt h1 (by decide)
    exact i_range3 g1 g2 (star_no (nstar h2) _ _) (star_no (nstar h3) _ _) rfl (any_no (by rw [List.all_cons, h3]; rfl) _ _) (ha.v _ h4) (hb.v _ h5) (s_neg (fa := fun _ => ret (.int 1)) (s_const pe_int fun _ => rfl))) (fun _ _ => rfl) (fun _ => rfl) rfl
theorem c_zip (G : Good X c k) (ha : Snd X c a) (hb : Snd X c b) : Snd X c (.zip a b) := .iter (fun t x h => by
    obtain ⟨ts, e, g⟩ := vw h
    obtain ⟨⟨f, z, u⟩, e2, h⟩ := vw g
    obtain ⟨kk, pt, rfl⟩ := vTup_eq e
    obtain ⟨q, p, rfl⟩ := vCall2_eq e2
    obtain ⟨h1, h⟩ := two_t h
    obtain ⟨h2, h⟩ := two_t h
    obtain ⟨h3, h⟩ := two_t h
    obtain ⟨h4, h5⟩ := two_t h
    obtain ⟨rfl, g1, g2⟩ := G.bt h1 (by decide)
    exact i_zip g1 g2 (star_no (nstar h2) _ _) (star_no (nstar h3) _ _) (any1 (nstar h3) _ _) (ha.v _ h4) (hb.v _ h5)) (fun _ _ => rfl) (fun _ => rfl) rfl
theorem c_enum (G : Good X c k) (ha : Snd X c a) : Snd X c (.enum a) := .iter (fun t x h => by
    obtain ⟨ts, e, g⟩ := vw h
    obtain ⟨⟨f, z⟩, e2, h⟩ := vw g
    obtain ⟨kk, pt, rfl⟩ := vTup_eq e
    obtain ⟨q, p, rfl⟩ := vCall1_eq e2
    obtain ⟨h1, h⟩ := two_t h
    obtain ⟨h2, h3⟩ := two_t h
    obtain ⟨rfl, g1, g2⟩ := G.bt h1 (by decide)
    exact i_enum g1 g2 (star_no (nstar h2) _ _) (ha.v _ h3)) (fun _ _ => rfl) (fun _ => rfl) rfl
theorem l_listR1 (G : Good X c k) (ha : Snd X c a) {x : Expr} {m : Bool} (h : chk (.listR1 a) c m (.e x) = true) : DF X x (den (.listR1 a)) := by
  obtain ⟨⟨f, z⟩, e, g⟩ := vw h
  obtain ⟨h1, g⟩ := two_t g
  obtain ⟨⟨f2, y⟩, e2, g⟩ := vw g
  obtain ⟨h2, g⟩ := two_t g
  obtain ⟨h3, h4⟩ := two_t g
  obtain ⟨q, p, rfl⟩ := vCall1_eq e
  obtain ⟨q2, p2, rfl⟩ := vCall1_eq e2
  obtain ⟨rfl, g1, g2⟩ := G.bt h1 (by decide)
  obtain ⟨rfl, g3, g4⟩ := G.bt h2 (by decide)
  exact f_listR1 G.calm g1 g2 g3 g4 (star_no (nstar h3) _ _) (ha.v _ h4)
theorem l_listR2 (G : Good X c k) (ha : Snd X c a) (hb : Snd X c b) {x : Expr} {m : Bool} (h : chk (.listR2 a b) c m (.e x) = true) : DF X x (den (.listR2 a b)) := by
  obtain ⟨⟨f, z⟩, e, g⟩ := vw h
  obtain ⟨h1, g⟩ := two_t g
  obtain ⟨⟨f2, y, u⟩, e2, g⟩ := vw g
  obtain ⟨h2, g⟩ := two_t g
  obtain ⟨h3, g⟩ := two_t g
  obtain ⟨h4, g⟩ := two_t g
  obtain ⟨h5, h6⟩ := two_t g
  obtain ⟨q, p, rfl⟩ := vCall1_eq e
  obtain ⟨q2, p2, rfl⟩ := vCall2_eq e2
  obtain ⟨rfl, g1, g2⟩ := G.bt h1 (by decide)
  obtain ⟨rfl, g3, g4⟩ := G.bt h2 (by decide)
  exact f_listR2 G.calm g1 g2 g3 g4 (star_no (nstar h3) _ _) (star_no (nstar h4) _ _) (any1 (nstar h4) _ _) (ha.v _ h5) (hb.v _ h6)
theorem c_listR1 (G : Good X c k) (ha : Snd X c a) : Snd X c (.listR1 a) := .plain (fun x h => (l_listR1 G ha h).de) (fun x h => by
    obtain ⟨⟨f, z⟩, e, g⟩ := vw h
    exact call1_plain e) (fun _ => rfl) (fun _ => rfl) (fun _ _ => rfl) (fun _ x h => l_listR1 G ha h)
theorem c_listR2 (G : Good X c k) (ha : Snd X c a) (hb : Snd X c b) : Snd X c (.listR2 a b) := .plain (fun x h => (l_listR2 G ha hb h).de) (fun x h => by
    obtain ⟨⟨f, z⟩, e, g⟩ := vw h
    exact call1_plain e) (fun _ => rfl) (fun _ => rfl) (fun _ _ => rfl) (fun _ x h => l_listR2 G ha hb h)
theorem c_tupR1 (G : Good X c k) (ha : Snd X c a) : Snd X c (.tupR1 a) := .plain (fun x h => by
    obtain ⟨⟨f, z⟩, e, g⟩ := vw h
    obtain ⟨h1, g⟩ := two_t g
    obtain ⟨⟨f2, y⟩, e2, g⟩ := vw g
    obtain ⟨h2, g⟩ := two_t g
    obtain ⟨h3, h4⟩ := two_t g
    obtain ⟨q, p, rfl⟩ := vCall1_eq e
    obtain ⟨q2, p2, rfl⟩ := vCall1_eq e2
    obtain ⟨rfl, g1, g2⟩ := G.bt h1 (by decide)
    obtain ⟨rfl, g3, g4⟩ := G.bt h2 (by decide)
    exact s_tupR1 G.calm g1 g2 g3 g4 (star_no (nstar h3) _ _) (ha.v _ h4)) (fun x h => by
    obtain ⟨⟨f, z⟩, e, g⟩ := vw h
    exact call1_plain e) (fun _ => rfl) (fun _ => rfl) (fun _ _ => rfl)
theorem l_sortK {n : Str} {g : List D → M D} (G : Good X c k) (hn : NeedOk X.prog X.w X.K X.mg X.base k (.fnS n g)) (ha : Snd X c a) {x : Expr} (h : chk (.sortK n g a) c false (.e x) = true) : DF X x (den (.sortK n g a)) := by
  obtain ⟨⟨f, z, y⟩, e, q⟩ := vw h
  obtain ⟨h1, q⟩ := two_t q
  obtain ⟨h2, q⟩ := two_t q
  obtain ⟨h3, q⟩ := two_t q
  obtain ⟨h4, q⟩ := two_t q
  obtain ⟨h5, h6⟩ := two_t q
  obtain ⟨q1, p2, kp, p, rfl⟩ := vCallK_eq e
  obtain ⟨rfl, g1, g2⟩ := G.bt h1 (by decide)
  have e4 : y = n := by simpa using h4
  subst e4
  obtain ⟨k2, F⟩ := hn
  exact f_sortK g1 g2 F (by rw [Nat.sub_add_cancel k2]; exact G.room) (G.gl h5) (by simpa [dbB] using h6) (star_no (nstar h2) _ _) (ha.s _ h3)
theorem callK_plain {x a : Expr} {f y : Str} (h : vCallK x = some (f, a, y)) : plainX x = true := by
  obtain ⟨q, p2, kp, p, rfl⟩ := vCallK_eq h
  rfl
theorem c_sortK {n : Str} {g : List D → M D} (G : Good X c k) (hn : NeedOk X.prog X.w X.K X.mg X.base k (.fnS n g)) (ha : Snd X c a) : Snd X c (.sortK n g a) := .plain (fun x h => (l_sortK G hn ha h).de) (fun x h => by
    obtain ⟨⟨f, z, y⟩, e, q⟩ := vw h
    exact callK_plain e) (fun _ => rfl) (fun _ => rfl) (fun _ _ => rfl) (fun _ x h => l_sortK G hn ha h)
theorem l_sort0 (G : Good X c k) (ha : Snd X c a) {x : Expr} (h : chk (.sort0 a) c false (.e x) = true) : DF X x (den (.sort0 a)) := by
  obtain ⟨⟨f, z⟩, e, q⟩ := vw h
  obtain ⟨h1, q⟩ := two_t q
  obtain ⟨h2, h3⟩ := two_t q
  obtain ⟨q1, p, rfl⟩ := vCall1_eq e
  obtain ⟨rfl, g1, g2⟩ := G.bt h1 (by decide)
  exact f_sort0 (by have := G.room.un; omega) g1 g2 (star_no (nstar h2) _ _) (ha.s _ h3)
theorem c_sort0 (G : Good X c k) (ha : Snd X c a) : Snd X c (.sort0 a) := .plain (fun x h => (l_sort0 G ha h).de) (fun x h => by
    obtain ⟨⟨f, z⟩, e, g⟩ := vw h
    exact call1_plain e) (fun _ => rfl) (fun _ => rfl) (fun _ _ => rfl) (fun _ x h => l_sort0 G ha h)
theorem v_bare {n : Bool} {x : Expr} {m : Bool} (h : chk (.bare n a) c m (.e x) = true) : ∃ f y o q p j p1 p2 pos, x = .Compare (.Call (.Name f q) [y] [] p) [o] [.Set [.Constant .none j p1] 0 p2] pos ∧ bnB c f "set" = true ∧ negC n o = true ∧ isStar y = false ∧ chk a c true (.e y) = true := by
  obtain ⟨⟨f, o, y⟩, e, h⟩ := vw h
  obtain ⟨q, p, j, p1, p2, pos, rfl⟩ := vBare_eq e
  obtain ⟨h1, h⟩ := two_t h
  obtain ⟨h2, h⟩ := two_t h
  obtain ⟨h3, h4⟩ := two_t h
  exact ⟨f, y, o, q, p, j, p1, p2, pos, rfl, h1, h2, by simpa using h3, h4⟩
theorem c_bare {n : Bool} (G : Good X c k) (ha : Snd X c a) : Snd X c (.bare n a) := .test (fun x h => by
    obtain ⟨f, y, o, q, p, j, p1, p2, pos, rfl, h1, h2, h3, h4⟩ := v_bare h
    obtain ⟨rfl, g1, g2⟩ := G.bt h1 (by decide)
    exact s_bare G.calm (by have := G.room.un; omega) G.code g1 g2 (star_no h3 _ _) h2 (ha.s _ h4)) (fun x _ h => by
    obtain ⟨f, y, o, q, p, j, p1, p2, pos, rfl, h1, h2, h3, h4⟩ := v_bare h
    obtain ⟨rfl, g1, g2⟩ := G.bt h1 (by decide)
    exact t_bare G.calm (by have := G.room.un; omega) G.code g1 g2 (star_no h3 _ _) h2 (ha.s _ h4)) (fun _ => rfl) (fun _ => rfl) (fun _ _ => rfl) (fun op y r p _ h => no h) rfl
theorem l_revS (ha : Snd X c a) {x : Expr} (h : chk (.revS a) c false (.e x) = true) : DF X x (den (.revS a)) := by
  obtain ⟨y, e, q⟩ := vw h
  obtain ⟨k1, p1, p2, p3, pos, rfl⟩ := vRev_eq e
  exact f_revS (ha.s _ q)
theorem c_revS (ha : Snd X c a) : Snd X c (.revS a) := .plain (fun x h => (l_revS ha h).de) (fun x h => by
    obtain ⟨y, e, q⟩ := vw h
    obtain ⟨k1, p1, p2, p3, pos, rfl⟩ := vRev_eq e
    rfl) (fun _ => rfl) (fun _ => rfl) (fun _ _ => rfl) (fun _ x h => l_revS ha h)
theorem at_view {x : Expr} {n : Str} {j : Int} (e : vAt x = some (n, j)) : plainX x = true := by
  obtain ⟨p1, p2, p3, kk, rfl⟩ := vAt_eq e
  rfl
theorem c_rowAt {j : Nat} (G : Good X c k) : Snd X c (.rowAt i j) := .plain (fun x h => by
    obtain ⟨⟨n, q⟩, e, h⟩ := vw h
    obtain ⟨p1, p2, p3, kk, rfl⟩ := vAt_eq e
    obtain ⟨h1, h2⟩ := two_t h
    have h2 : q = (j : Int) := of_decide_eq_true h2
    subst h2
    obtain ⟨n1, n2, n3, n4⟩ := G.nm h1
    exact s_rowAt n1 n2 n3 n4) (fun x h => by
    obtain ⟨⟨n, q⟩, e, h⟩ := vw h
    exact at_view e) (fun _ => rfl) (fun _ => rfl) (fun _ _ => rfl)
theorem c_scrLen (G : Good X c k) : Snd X c (.scrLen i) := .plain (fun x h => by
    obtain ⟨⟨f, z⟩, e, g⟩ := vw h
    obtain ⟨h1, g1⟩ := two_t g
    obtain ⟨⟨n, j⟩, e2, g2⟩ := vw g1
    obtain ⟨h2, h3⟩ := two_t g2
    obtain ⟨q, p, rfl⟩ := vCall1_eq e
    obtain ⟨p1, p2, p3, kk, rfl⟩ := vAt_eq e2
    have h3 : j = 0 := of_decide_eq_true h3
    subst h3
    obtain ⟨rfl, g1, g2⟩ := G.bt h1 (by decide)
    obtain ⟨n1, n2, n3, n4⟩ := G.nm h2
    exact s_scrLen g1 g2 n1 n2 n3 n4) (fun x h => by
    obtain ⟨⟨f, z⟩, e, h⟩ := vw h
    exact call1_plain e) (fun _ => rfl) (fun _ => rfl) (fun _ _ => rfl)
theorem c_scrAt (G : Good X c k) (ha : Snd X c a) : Snd X c (.scrAt i a) := .plain (fun x h => by
    obtain ⟨⟨y, z⟩, e, g⟩ := vw h
    obtain ⟨h1, g1⟩ := two_t g
    obtain ⟨h2, g2⟩ := two_t g1
    obtain ⟨⟨n, j⟩, e2, g3⟩ := vw g2
    obtain ⟨h3, h4⟩ := two_t g3
    obtain ⟨p, rfl⟩ := vSub_eq e
    obtain ⟨p1, p2, p3, kk, rfl⟩ := vAt_eq e2
    have h4 : j = 0 := of_decide_eq_true h4
    subst h4
    obtain ⟨n1, n2, n3, n4⟩ := G.nm h3
    exact s_scrAt n1 n2 n3 n4 (plain_no (nslice h1)) (ha.v _ h2)) (fun x h => by
    obtain ⟨⟨y, z⟩, e, h⟩ := vw h
    obtain ⟨p, rfl⟩ := vSub_eq e
    rfl) (fun _ => rfl) (fun _ => rfl) (fun _ _ => rfl)
end
end Dn
namespace Dn
open PySem PySem.Spec PyProof.Rows L2
set_option autoImplicit true
section
variable {X : Cx} {c : Cg} {k i : Nat}
theorem ae_no {a : Expr} (h : isStar a = false) (es : List Expr) (env : Env) : assignEach (a :: es) env = (false, assign a env) :: assignEach es env := by
  cases a <;> first | rfl | cases h
theorem tg_len : ∀ {t : Tg} {c : Cg} {es : List Expr}, chkT t c (.l es) = true → (∀ env, (assignEach es env).length = es.length ∧ (assignEach es env).findIdx? (·.1) = none) ∧ ∀ ds ρ ρ', bindT t (.list ds) ρ = some ρ' → ds.length = es.length
  | .nm _, c, es, h => no h
  | .tup _, c, es, h => no h
  | .tnil, c, [], h => ⟨fun env => ⟨rfl, rfl⟩, fun ds ρ ρ' e => by cases ds with
    | nil => rfl
    | cons _ _ => cases e⟩
  | .tnil, c, _ :: _, h => no h
  | .tcons t u, c, [], h => no h
  | .tcons t u, c, a :: es, h => by
    have h : ((!isStar a && chkT t c (.e a)) && chkT u c (.l es)) = true := h
    obtain ⟨h1, h2⟩ := two_t h
    obtain ⟨h1, h3⟩ := two_t h1
    obtain ⟨g1, g2⟩ := tg_len h2
    refine ⟨fun env => ?_, fun ds ρ ρ' e => ?_⟩
    · rw [ae_no (nstar h1)]
      refine ⟨by rw [List.length_cons, List.length_cons, (g1 env).1], ?_⟩
      rw [List.findIdx?_cons]
      simp [(g1 env).2]
    · cases ds with
      | nil => cases e
      | cons d ds =>
        simp only [bindT] at e
        split at e
        · rw [List.length_cons, List.length_cons, g2 _ _ _ e]
        · cases e
mutual
theorem tg_e (G : Good X c k) : ∀ {t : Tg} {x : Expr}, chkT t c (.e x) = true → PG X x (tG X.K t)
  | .nm i, .Name x p, h => by
    obtain ⟨h1, h2, h3⟩ := G.st h
    exact g_nm G.nd h1 h2 h3
  | .tup ts, .Tuple es kk p, h => by
    have h : chkT ts c (.l es) = true := h
    obtain ⟨g1, g2⟩ := tg_len h
    exact g_tup G.calm (tg_l G h) (g1 _).1 (g1 _).2 g2
  | .nm _, .Tuple _ _ _, h => no h
  | .tup _, .Name _ _, h => no h
  | .tnil, _, h => no (by cases ‹Expr› <;> exact h)
  | .tcons _ _, _, h => no (by cases ‹Expr› <;> exact h)
theorem tg_l (G : Good X c k) : ∀ {t : Tg} {xs : List Expr}, chkT t c (.l xs) = true → PGs X xs (tGs X.K t)
  | .nm _, _, h => no h
  | .tup _, _, h => no h
  | .tnil, [], h => gs_nil
  | .tnil, _ :: _, h => no h
  | .tcons _ _, [], h => no h
  | .tcons t u, a :: es, h => by
    have h : ((!isStar a && chkT t c (.e a)) && chkT u c (.l es)) = true := h
    obtain ⟨h1, h2⟩ := two_t h
    obtain ⟨h1, h3⟩ := two_t h1
    exact gs_cons (tg_e G h3) (tg_l G h2) (by rw [ae_no (nstar h1)]; rfl)
end
end
/-- what a list comprehension's check tells -/
structure CompParts (X : Cx) (tg : Tg) (elt src cond : Dn.E) (y t it : Expr) (ifs : List Expr) (scope : Scope) (own : List (Str × Nat)) : Prop where
  i : DIo X t it (fun ρ => bnd (den src ρ) itemsOf)
  ok : BlkOk X.N X.env.scope scope own
  ho : own.map (·.2) = tg.slots
  g : ∀ (s : Shared) (H : Hp) (C : Addr) (cl : List (Str × Addr)) (fp : List Addr), PG (X.blk s H scope (compEnvC scope cl C X.env) fp) t (tG X.K tg)
  t : ∀ (s : Shared) (H : Hp) (C : Addr) (cl : List (Str × Addr)) (fp : List Addr), DTs (X.blk s H scope (compEnvC scope cl C X.env) fp) ifs (fun ρ => bnd (den cond ρ) asB)
  e : ∀ (s : Shared) (H : Hp) (C : Addr) (cl : List (Str × Addr)) (fp : List Addr), DE (X.blk s H scope (compEnvC scope cl C X.env) fp) y (den elt)
  s : ∀ x, foldedSetIterable it X.env x = pure x
section
variable {X : Cx} {c : Cg} {k i : Nat} {elt src cond : Dn.E} {tg : Tg}
def ifsB (cond : Dn.E) (c : Cg) : List Expr → Bool
  | [] => tru cond
  | [z] => tst cond && chk cond c false (.e z)
  | _ => false
theorem comp_parts {m : Bool} {x : Expr} (G : Good X c k) (hs : Snd X c src) (he : ∀ {X c}, Good X c k → (∀ n ∈ needs elt, NeedOk X.prog X.w X.K X.mg X.base k n) → Snd X c elt) (hc : ∀ {X c}, Good X c k → (∀ n ∈ needs cond, NeedOk X.prog X.w X.K X.mg X.base k n) → Snd X c cond)
    (hn1 : ∀ n ∈ needs elt, NeedOk X.prog X.w X.K X.mg X.base k n) (hn2 : ∀ n ∈ needs cond, NeedOk X.prog X.w X.K X.mg X.base k n) (h : chk (.comp elt tg src cond) c m (.e x) = true) :
    ∃ y t it ifs scope p own, x = .ListComp y [⟨t, it, ifs, 0⟩] scope p ∧ CompParts X tg elt src cond y t it ifs scope own := by
  obtain ⟨⟨y, t, it, ifs, scope, p⟩, e, h⟩ := vw h
  obtain ⟨h1, h⟩ := two_t h
  obtain ⟨h2, h⟩ := two_t h
  obtain ⟨h3, h⟩ := two_t h
  obtain ⟨h4, h⟩ := two_t h
  obtain ⟨h5, h⟩ := two_t h
  obtain ⟨h6, h7⟩ := two_t h
  obtain rfl := vComp_eq e
  have hk : scope.kind = .function := (blkOk_by h1).kind
  refine ⟨y, t, it, ifs, scope, p, ownL tg (.e t), rfl, ?_, ?_, of_decide_eq_true h2, fun s H C cl fp => tg_e (G.blk hk s H C cl fp) h3, fun s H C cl fp => ?_, fun s H C cl fp => (he (G.blk hk s H C cl fp) hn1).v _ h6, noset (by simpa using h4) _⟩
  · have h5 : (if isIter src then chk src c false (.i t it) else chk src c true (.e it)) = true := h5
    split at h5
    · exact (hs.i _ _ h5).o
    · exact i_own (hs.s _ h5)
  · rw [G.N, G.sc]
    exact blkOk_by h1
  · have h7 : ifsB cond (inner c scope) ifs = true := by
      revert h7
      unfold ifsB
      rcases ifs with _ | ⟨z, _ | ⟨u, r⟩⟩ <;> exact fun h => h
    rcases ifs with _ | ⟨z, _ | ⟨u, r⟩⟩
    · have e : cond = .lit (.bool true) := by
        have h7 : tru cond = true := h7
        unfold tru at h7
        split at h7
        · rfl
        · exact no h7
      subst e
      exact c_none
    · obtain ⟨g1, g2⟩ := two_t h7
      exact c_one ((hc (G.blk hk s H C cl fp) hn2).t _ g1 g2)
    · exact no h7
theorem comp_f {y t it : Expr} {ifs : List Expr} {scope : Scope} {own : List (Str × Nat)} {p : Pos} (G : Good X c k) (P : CompParts X tg elt src cond y t it ifs scope own) : DF X (.ListComp y [⟨t, it, ifs, 0⟩] scope p) (den (.comp elt tg src cond)) :=
  f_comp G.calm G.nd P.i P.ok P.ho P.g P.t P.e P.s
theorem c_comp (G : Good X c k) (hs : Snd X c src) (he : ∀ {X c}, Good X c k → (∀ n ∈ needs elt, NeedOk X.prog X.w X.K X.mg X.base k n) → Snd X c elt) (hc : ∀ {X c}, Good X c k → (∀ n ∈ needs cond, NeedOk X.prog X.w X.K X.mg X.base k n) → Snd X c cond)
    (hn1 : ∀ n ∈ needs elt, NeedOk X.prog X.w X.K X.mg X.base k n) (hn2 : ∀ n ∈ needs cond, NeedOk X.prog X.w X.K X.mg X.base k n) : Snd X c (.comp elt tg src cond) := .plain (fun x h => by
    obtain ⟨y, t, it, ifs, scope, p, own, rfl, P⟩ := comp_parts G hs he hc hn1 hn2 h
    exact (comp_f G P).de) (fun x h => by
    obtain ⟨y, t, it, ifs, scope, p, own, rfl, P⟩ := comp_parts G hs he hc hn1 hn2 h
    rfl) (fun _ => rfl) (fun _ => rfl) (fun _ _ => rfl) (fun _ x h => by
    obtain ⟨y, t, it, ifs, scope, p, own, rfl, P⟩ := comp_parts G hs he hc hn1 hn2 h
    exact comp_f G P)
end
theorem out_bad {α β : Type} {P : Kind α β} {K : PySem.W.Frag} {g : Ev → M α} (h : ∀ ρ, g ρ = bad) : ∀ σ H Q, ¬ tOut P K g σ H Q := fun σ H Q ⟨r, F, ρ, w, s, o⟩ => by rw [h] at o; exact o
theorem c_stuck {X : Cx} {c : Cg} : Snd X c .stuck where
  v := fun x _ => ⟨fun pins s σ H Q I q => (out_bad (fun _ => rfl) σ H Q q).elim⟩
  s := fun x _ => ⟨fun pins s σ H Q I q => (out_bad (fun _ => rfl) σ H Q q).elim⟩
  l := fun xs h => no h
  i := fun t x h => no h
  t := fun x _ _ => ⟨fun pins s σ H Q I q => (out_bad (fun _ => rfl) σ H Q q).elim⟩
  w := fun op y r p _ _ => ⟨fun wh pins s σ H Q I q => (out_bad (fun _ => rfl) σ H Q q).elim⟩
  f := fun z => no z
theorem sound (E : Dn.E) : ∀ {X : Cx} {c : Cg} {k : Nat}, Good X c k → (∀ n ∈ needs E, NeedOk X.prog X.w X.K X.mg X.base k n) → Snd X c E := by
  induction E with
  | nil => exact fun G hn => c_nil
  | cons a r iha ihr => exact fun G hn => c_cons (iha G fun n h => hn n (List.mem_append_left _ h)) (ihr G fun n h => hn n (List.mem_append_right _ h))
  | star a r iha ihr => exact fun G hn => c_star (iha G fun n h => hn n (List.mem_append_left _ h)) (ihr G fun n h => hn n (List.mem_append_right _ h))
  | var i => exact fun G hn => c_var G
  | own i => exact fun G hn => c_own G
  | lit d => exact fun G hn => c_lit
  | glob x d => exact fun G hn => c_glob G (hn _ (List.mem_singleton_self _))
  | bin o a b iha ihb => exact fun G hn => c_bin (iha G fun n h => hn n (List.mem_append_left _ h)) (ihb G fun n h => hn n (List.mem_append_right _ h))
  | neg a iha => exact fun G hn => c_neg (iha G hn)
  | not a iha => exact fun G hn => c_not (iha G hn)
  | cmp o a b iha ihb => exact fun G hn => c_cmp G (iha G fun n h => hn n (List.mem_append_left _ h)) (ihb G fun n h => hn n (List.mem_append_right _ h))
  | chain o o' a b d iha ihb ihd => exact fun G hn => c_chain G (iha G fun n h => hn n (List.mem_append_left _ h)) (ihb G fun n h => hn n (List.mem_append_right _ (List.mem_append_left _ h))) (ihd G fun n h => hn n (List.mem_append_right _ (List.mem_append_right _ h)))
  | and a b iha ihb => exact fun G hn => c_and (iha G fun n h => hn n (List.mem_append_left _ h)) (ihb G fun n h => hn n (List.mem_append_right _ h))
  | or a b iha ihb => exact fun G hn => c_or (iha G fun n h => hn n (List.mem_append_left _ h)) (ihb G fun n h => hn n (List.mem_append_right _ h))
  | ite a b d iha ihb ihd => exact fun G hn => c_ite (iha G fun n h => hn n (List.mem_append_left _ h)) (ihb G fun n h => hn n (List.mem_append_right _ (List.mem_append_left _ h))) (ihd G fun n h => hn n (List.mem_append_right _ (List.mem_append_right _ h)))
  | tup es ih => exact fun G hn => c_tup (ih G hn)
  | list es ih => exact fun G hn => c_list (ih G hn)
  | ix a b iha ihb => exact fun G hn => c_ix (iha G fun n h => hn n (List.mem_append_left _ h)) (ihb G fun n h => hn n (List.mem_append_right _ h))
  | slice a b d iha ihb ihd => exact fun G hn => c_slice (iha G fun n h => hn n (List.mem_append_left _ h)) (ihb G fun n h => hn n (List.mem_append_right _ (List.mem_append_left _ h))) (ihd G fun n h => hn n (List.mem_append_right _ (List.mem_append_right _ h)))
  | call x n f es ih => exact fun G hn => c_call G (hn _ (List.mem_cons_self ..)) (ih G fun n h => hn n (List.mem_cons_of_mem _ h))
  | callR x n f i es ih => exact fun G hn => c_callR G (hn _ (List.mem_cons_self ..)) (ih G fun n h => hn n (List.mem_cons_of_mem _ h))
  | b1 bb a iha => exact fun G hn => c_b1 G (iha G hn)
  | b2 bb a b iha ihb => exact fun G hn => c_b2 G (iha G fun n h => hn n (List.mem_append_left _ h)) (ihb G fun n h => hn n (List.mem_append_right _ h))
  | isI a cl iha => exact fun G hn => c_isI G (iha G hn)
  | isTL a iha => exact fun G hn => c_isTL G (iha G hn)
  | comp elt tg src cond ihe ihs ihc => exact fun G hn => c_comp G (ihs G fun n h => hn n (List.mem_append_right _ (List.mem_append_left _ h))) ihe ihc (fun n h => hn n (List.mem_append_left _ h)) (fun n h => hn n (List.mem_append_right _ (List.mem_append_right _ h)))
  | range1 a iha => exact fun G hn => c_range1 G (iha G hn)
  | range2 a b iha ihb => exact fun G hn => c_range2 G (iha G fun n h => hn n (List.mem_append_left _ h)) (ihb G fun n h => hn n (List.mem_append_right _ h))
  | range3 a b iha ihb => exact fun G hn => c_range3 G (iha G fun n h => hn n (List.mem_append_left _ h)) (ihb G fun n h => hn n (List.mem_append_right _ h))
  | zip a b iha ihb => exact fun G hn => c_zip G (iha G fun n h => hn n (List.mem_append_left _ h)) (ihb G fun n h => hn n (List.mem_append_right _ h))
  | enum a iha => exact fun G hn => c_enum G (iha G hn)
  | rev a iha => exact fun G hn => .iter (fun t x h => no h) (fun _ _ => rfl) (fun _ => rfl) rfl
  | rowAt i j => exact fun G hn => c_rowAt G
  | scrLen i => exact fun G hn => c_scrLen G
  | scrAt i e ih => exact fun G hn => c_scrAt G (ih G hn)
  | stuck => exact fun G hn => c_stuck
  | listR1 a iha => exact fun G hn => c_listR1 G (iha G hn)
  | listR2 a b iha ihb => exact fun G hn => c_listR2 G (iha G fun n h => hn n (List.mem_append_left _ h)) (ihb G fun n h => hn n (List.mem_append_right _ h))
  | tupR1 a iha => exact fun G hn => c_tupR1 G (iha G hn)
  | sortK x g a iha => exact fun G hn => c_sortK G (hn _ (List.mem_cons_self ..)) (iha G fun n h => hn n (List.mem_cons_of_mem _ h))
  | sort0 a iha => exact fun G hn => c_sort0 G (iha G hn)
  | bare n a iha => exact fun G hn => c_bare G (iha G hn)
  | revS a iha => exact fun G hn => c_revS (iha G hn)
end Dn
namespace Dn
open PySem PySem.Spec PyProof.Rows L2
set_option autoImplicit true
/-! ### statements: the check and what it tells -/
def isComp : Expr → Bool | .ListComp .. => true | .SetComp .. => true | .DictComp .. => true | _ => false
theorem swaps_no {v : Expr} (h : isComp v = false) (t : Option Expr) (l : Nat) (env : Env) : swapsWith v t l env = pure false := by
  cases v <;> first | rfl | cases h
def isTupX : Expr → Bool | .Tuple .. => true | _ => false
theorem stores_tup {ts : List Expr} {kk : Nat} {p : Pos} {v : Expr} (h : isTupX v = false) (env : Env) : swappedStores [.Tuple ts kk p] v env = pure none := by
  cases v <;> first | rfl | cases h
theorem stores_name {x : Str} {p : Pos} {v : Expr} (env : Env) : swappedStores [.Name x p] v env = pure none := by
  cases v <;> rfl
theorem stores_sub {a b : Expr} {p : Pos} {v : Expr} (env : Env) : swappedStores [.Subscript a b p] v env = pure none := by
  cases v <;> rfl
def locB (c : Cg) (x : Str) : Bool := match c.sc.names.lookup x with | some .local => true | _ => false
def celB (c : Cg) (x : Str) : Bool := match c.sc.names.lookup x with | some .cell => true | _ => false
theorem loc_of {c : Cg} {x : Str} (h : locB c x = true) : c.sc.names.lookup x = some .local := by
  unfold locB at h
  split at h
  · assumption
  · cases h
theorem cel_of {c : Cg} {x : Str} (h : celB c x = true) : c.sc.names.lookup x = some .cell := by
  unfold celB at h
  split at h
  · assumption
  · cases h
theorem swaps_cell {v : Expr} {y : Str} {py : Pos} {l : Nat} {env : Env} (hy : env.scope.names.lookup y = some .cell) : swapsWith v (some (.Name y py)) l env = pure false := by
  have ky : env.kindOf y = some .cell := hy
  cases v <;> first | rfl | (unfold swapsWith; simp only [ky]; simp [show (some NameKind.cell == some NameKind.local) = false from rfl]; try rfl)

/-! views of statements -/
inductive SyS | s (st : Stmt) | l (sts : List Stmt)
def vAsg : Stmt → Option (Expr × Expr × Pos) | .Assign [t] v p => some (t, v, p) | _ => none
theorem vAsg_eq {st : Stmt} {t v : Expr} {p : Pos} (h : vAsg st = some (t, v, p)) : st = .Assign [t] v p := by
  unfold vAsg at h
  split at h
  · cases h; rfl
  · cases h
def vRet : Stmt → Option Expr | .Return (some e) _ => some e | _ => none
theorem vRet_eq {st : Stmt} {e : Expr} (h : vRet st = some e) : ∃ p, st = .Return (some e) p := by
  unfold vRet at h
  split at h
  · cases h; exact ⟨_, rfl⟩
  · cases h
def vExp : Stmt → Option (Expr × Pos) | .Expr e p => some (e, p) | _ => none
theorem vExp_eq {st : Stmt} {e : Expr} {p : Pos} (h : vExp st = some (e, p)) : st = .Expr e p := by
  unfold vExp at h
  split at h
  · cases h; rfl
  · cases h
def vIfS : Stmt → Option (Expr × List Stmt × List Stmt) | .If c a b _ => some (c, a, b) | _ => none
theorem vIfS_eq {st : Stmt} {c : Expr} {a b : List Stmt} (h : vIfS st = some (c, a, b)) : ∃ p, st = .If c a b p := by
  unfold vIfS at h
  split at h
  · cases h; exact ⟨_, rfl⟩
  · cases h
def vFor : Stmt → Option (Expr × Expr × List Stmt) | .For t it b [] _ => some (t, it, b) | _ => none
theorem vFor_eq {st : Stmt} {t it : Expr} {b : List Stmt} (h : vFor st = some (t, it, b)) : ∃ p, st = .For t it b [] p := by
  unfold vFor at h
  split at h
  · cases h; exact ⟨_, rfl⟩
  · cases h
def vWhile : Stmt → Option (Expr × List Stmt) | .While c b [] _ => some (c, b) | _ => none
theorem vWhile_eq {st : Stmt} {c : Expr} {b : List Stmt} (h : vWhile st = some (c, b)) : ∃ p, st = .While c b [] p := by
  unfold vWhile at h
  split at h
  · cases h; exact ⟨_, rfl⟩
  · cases h
def vAug : Stmt → Option (Str × Operator × Expr) | .AugAssign (.Name x _) o e _ => some (x, o, e) | _ => none
theorem vAug_eq {st : Stmt} {x : Str} {o : Operator} {e : Expr} (h : vAug st = some (x, o, e)) : ∃ p q, st = .AugAssign (.Name x p) o e q := by
  unfold vAug at h
  split at h
  · cases h; exact ⟨_, _, rfl⟩
  · cases h
/-- a name's method with one argument -/
def vMet : Stmt → Option (Str × Str × Expr × Bool) | .Expr (.Call (.Attribute (.Name x _) m p2) [a] [] p3) _ => some (x, m, a, p2.endLine == p3.line) | _ => none
theorem vMet_eq {st : Stmt} {x m : Str} {a : Expr} {k : Bool} (h : vMet st = some (x, m, a, k)) : ∃ p p2 p3 q, st = .Expr (.Call (.Attribute (.Name x p) m p2) [a] [] p3) q ∧ (p2.endLine == p3.line) = k := by
  unfold vMet at h
  split at h
  · cases h; exact ⟨_, _, _, _, rfl, rfl⟩
  · cases h
/-- two names set at once to two values -/
def vPar : Stmt → Option (Str × Pos × Str × Pos × Expr × Expr) | .Assign [.Tuple [.Name x px, .Name y py] _ _] (.Tuple [a, b] _ _) _ => some (x, px, y, py, a, b) | _ => none
theorem vPar_eq {st : Stmt} {x y : Str} {px py : Pos} {a b : Expr} (h : vPar st = some (x, px, y, py, a, b)) : ∃ kt pt k2 p8 pos, st = .Assign [.Tuple [.Name x px, .Name y py] kt pt] (.Tuple [a, b] k2 p8) pos := by
  unfold vPar at h
  split at h
  · cases h; exact ⟨_, _, _, _, _, rfl⟩
  · cases h
def vHead : List Stmt → Option (Stmt × List Stmt) | a :: r => some (a, r) | [] => none
theorem vHead_eq {sts r : List Stmt} {a : Stmt} (h : vHead sts = some (a, r)) : sts = a :: r := by
  cases sts with
  | nil => cases h
  | cons _ _ => cases h; rfl
def swB (c : Cg) (x : Str) (px : Pos) (v : Expr) : Bool := match v with
  | .ListComp _ _ scope pos => locB c x && ((px.line == pos.line) && !(scope.names.any fun (n, k) => n == x && (k == .local || k == .cell)))
  | _ => false
/-- how a value may be given to a target -/
def hasCel (c : Cg) (ts : List Expr) : Bool := ts.any fun | .Name x _ => celB c x | _ => false
def tri (c : Cg) (ts : List Expr) (v : Expr) : Bool := match ts, v with
  | [.Name x px, .Name y py, .Name z pz], .Tuple [a, b, d] _ _ => locB c x && (locB c y && (locB c z && ((py.line == px.line) && ((pz.line == px.line) && (!(x == y) && (!(x == z) && (!(y == z) && (!isStar a && (!isStar b && (!isStar d && (!(foldedForSure 8 a && (foldedForSure 8 b && foldedForSure 8 d)) && !(constantsAlone 8 a && (constantsAlone 8 b && constantsAlone 8 d)))))))))))))
  | _, _ => false
def asgB (c : Cg) (t v : Expr) : Bool := match t with
  | .Name x px => !isComp v || (celB c x || swB c x px v)
  | .Tuple ts _ _ => !isComp v && (!isTupX v || hasCel c ts || tri c ts v)
  | _ => false
def nmX : Expr → Option (Str × Pos) | .Name x p => some (x, p) | _ => none
theorem nmX_eq {e : Expr} {x : Str} {p : Pos} (h : nmX e = some (x, p)) : e = .Name x p := by
  cases e <;> first | (cases h; done) | (cases h; rfl)
def parL (c : Cg) (x y : Str) (px py : Pos) (a b : Expr) : Bool :=
  locB c x && (locB c y && ((py.line == px.line) && (!(x == y) && (!(foldedForSure 8 a && foldedForSure 8 b) && !(constantsAlone 8 a && constantsAlone 8 b)))))
def opA (o : BOp) (op : Operator) : Bool := match o with | .pow => false | _ => opB o op
def parC (c : Cg) (x y : Str) : Bool := celB c x || celB c y
def isFrz : S → Bool | .frz _ => true | .kill _ => true | _ => false
def chkS : S → Cg → SyS → Bool
  | .nil, _, .l sts => sts.isEmpty
  | .seq a r, c, .l sts => (isFrz a && chkS r c (.l sts)) || ob (vHead sts) fun q => chkS a c (.s q.1) && chkS r c (.l q.2)
  | .asg t e, c, .s st => ob (vAsg st) fun q => asgB c q.1 q.2.1 && (chkT t c (.e q.1) && chk e c false (.e q.2.1))
  | .newL i e, c, .s st => ob (vAsg st) fun q => ob (nmX q.1) fun u => stB c i u.1 && (fresh e && (asgB c q.1 q.2.1 && chk e c false (.e q.2.1)))
  | .par i j oi oj a b, c, .s st => ob (vPar st) fun q => stB c i q.1 && (stB c j q.2.2.1 && (!isStar q.2.2.2.2.1 && (!isStar q.2.2.2.2.2 && (chk a c false (.e q.2.2.2.2.1) && (chk b c false (.e q.2.2.2.2.2) && ((!oi || fresh a) && ((!oj || fresh b) && (decide (i ≠ j) && (parC c q.1 q.2.2.1 || parL c q.1 q.2.2.1 q.2.1 q.2.2.2.1 q.2.2.2.2.1 q.2.2.2.2.2)))))))))
  | .app i e, c, .s st => ob (vMet st) fun q => q.2.2.2 && (decide (q.2.1 = ("append" : Str)) && (nmB c i q.1 && (!isStar q.2.2.1 && chk e c false (.e q.2.2.1))))
  | .ext i e, c, .s st => ob (vMet st) fun q => q.2.2.2 && (decide (q.2.1 = ("extend" : Str)) && (nmB c i q.1 && (!isStar q.2.2.1 && chk e c false (.e q.2.2.1))))
  | .setIx i k e, c, .s st => ob (vAsg st) fun q => ob (vSub q.1) fun u => ob (vName u.1) fun rv => nmB c i rv && (!isSlice u.2 && (!isComp q.2.1 && (chk k c false (.e u.2) && chk e c false (.e q.2.1))))
  | .ite e a b, c, .s st => ob (vIfS st) fun q => tst e && (chk e c false (.e q.1) && (chkS a c (.l q.2.1) && chkS b c (.l q.2.2)))
  | .for_ t src body, c, .s st => ob (vFor st) fun q => chkT t c (.e q.1) && (!isSet q.2.1 && ((if isIter src then chk src c false (.i q.1 q.2.1) else chk src c false (.e q.2.1)) && chkS body c (.l q.2.2)))
  | .while_ _ e body, c, .s st => ob (vWhile st) fun q => tst e && (chk e c false (.e q.1) && chkS body c (.l q.2))
  | .ret e, c, .s st => ob (vRet st) fun y => chk e c false (.e y)
  | .expr e, c, .s st => ob (vExp st) fun q => !isComp q.1 && chk e c false (.e q.1)
  | .rowSet i j e, c, .s st => ob (vAsg st) fun q => ob (vAt q.1) fun u => nmB c i u.1 && (decide (u.2 = (j : Int)) && (!isComp q.2.1 && chk e c false (.e q.2.1)))
  | .aug i o e, c, .s st => ob (vAug st) fun q => stB c i q.1 && (opA o q.2.1 && chk e c false (.e q.2.2))
  | .stuck, _, _ => true
  | _, _, _ => false
def needsS : S → List Need
  | .seq a r => needsS a ++ needsS r
  | .asg _ e => needs e
  | .newL _ e => needs e
  | .par _ _ _ _ a b => needs a ++ needs b
  | .app _ e => needs e
  | .ext _ e => needs e
  | .setIx _ k e => needs k ++ needs e
  | .ite e a b => needs e ++ (needsS a ++ needsS b)
  | .for_ _ e b => needs e ++ needsS b
  | .while_ _ e b => needs e ++ needsS b
  | .ret e => needs e
  | .expr e => needs e
  | .rowSet _ _ e => needs e
  | .aug _ _ e => needs e
  | _ => []
structure SndS (X : Cx) (c : Cg) (B : S) : Prop where
  s : ∀ st, chkS B c (.s st) = true → DSt X st (denS B)
  l : ∀ sts, chkS B c (.l sts) = true → DSs X sts (denS B)
section
variable {X : Cx} {c : Cg} {k i j : Nat} {e e1 e2 a b src elt cond : Dn.E} {t tg : Tg} {B A : S}
theorem SndS.one (s : ∀ st, chkS B c (.s st) = true → DSt X st (denS B)) (l : ∀ sts, chkS B c (.l sts) = false) : SndS X c B := ⟨s, fun sts h => by rw [l] at h; exact no h⟩
theorem q_nil : SndS X c .nil := ⟨fun st h => no h, fun sts h => by
  cases sts with
  | nil => exact ss_nil
  | cons _ _ => exact no h⟩
theorem q_seq (ha : SndS X c A) (hb : SndS X c B) : SndS X c (.seq A B) := ⟨fun st h => no h, fun sts h => by
  have h : ((isFrz A && chkS B c (.l sts)) || ob (vHead sts) fun q => chkS A c (.s q.1) && chkS B c (.l q.2)) = true := h
  rw [Bool.or_eq_true] at h
  rcases h with h | h
  · obtain ⟨h1, h2⟩ := two_t h
    cases A <;> first | exact no h1 | exact ss_frz (hb.l _ h2) | exact ss_kill (hb.l _ h2)
  · obtain ⟨⟨st, r⟩, e, h⟩ := vw h
    obtain ⟨h1, h2⟩ := two_t h
    obtain rfl := vHead_eq e
    exact ss_cons (ha.s _ h1) (hb.l _ h2)⟩
structure GoodS (X : Cx) (c : Cg) (k : Nat) : Prop extends Good X c k where
  fn : ∀ x, X.fn x = true
  xe : X.xe = fun _ _ => False
theorem comp_only {y : Expr} {gs : List Comprehension} {scope : Scope} {p : Pos} (h : chk e c false (.e (.ListComp y gs scope p)) = true) : e = .stuck ∨ ∃ elt tg src cond, e = .comp elt tg src cond := by
  cases e <;> first | exact .inr ⟨_, _, _, _, rfl⟩ | exact .inl rfl | exact no h
theorem setLc {x : Str} {px spos : Pos} {y t it : Expr} {ifs : List Expr} {scope : Scope} {p : Pos} {own : List (Str × Nat)} (G : GoodS X c k) (P : CompParts X tg elt src cond y t it ifs scope own) (hi : X.N[i]? = some x) (h : swB c x px (.ListComp y [⟨t, it, ifs, 0⟩] scope p) = true) :
    PS X (.Assign [.Name x px] (.ListComp y [⟨t, it, ifs, 0⟩] scope p) spos) (tAsg (tLc (tIo X.K fun ρ => bnd (den src ρ) itemsOf) (tG X.K tg) (tOut PB X.K fun ρ => bnd (den cond ρ) asB) (tOut PV X.K (den elt)) tg.slots) (gName i)) := by
  have h : (locB c x && ((px.line == p.line) && !(scope.names.any fun (n, k) => n == x && (k == .local || k == .cell)))) = true := h
  obtain ⟨h1, h⟩ := two_t h
  obtain ⟨h2, h3⟩ := two_t h
  have hl : X.env.scope.names.lookup x = some .local := by rw [G.sc]; exact loc_of h1
  have q := ps_setLc (te := tOut PV X.K (den elt)) (tt := tOut PB X.K fun ρ => bnd (den cond ρ) asB) (spos := spos) (py := px) (pos := p) G.calm G.nd hi hl (sw_true G.kind hl h2 (by simpa using h3)) P.i P.ok P.g P.t P.e P.s
  rw [P.ho] at q
  exact q
theorem need_comp (hn : ∀ n ∈ needs (.comp elt tg src cond), NeedOk X.prog X.w X.K X.mg X.base k n) :
    (∀ n ∈ needs elt, NeedOk X.prog X.w X.K X.mg X.base k n) ∧ (∀ n ∈ needs src, NeedOk X.prog X.w X.K X.mg X.base k n) ∧ (∀ n ∈ needs cond, NeedOk X.prog X.w X.K X.mg X.base k n) :=
  ⟨fun n h => hn n (List.mem_append_left _ h), fun n h => hn n (List.mem_append_right _ (List.mem_append_left _ h)), fun n h => hn n (List.mem_append_right _ (List.mem_append_right _ h))⟩
theorem tup_or {v : Expr} (tgt : Expr) (h : asgB c tgt v = true) : (∃ x px, tgt = .Name x px ∧ (isComp v = false ∨ celB c x = true ∨ swB c x px v = true)) ∨ (∃ ts kk p, tgt = .Tuple ts kk p ∧ isComp v = false ∧ ((isTupX v = false ∨ hasCel c ts = true) ∨ tri c ts v = true)) := by
  unfold asgB at h
  split at h
  · refine .inl ⟨_, _, rfl, ?_⟩
    simp only [Bool.or_eq_true, Bool.not_eq_true'] at h
    exact h
  · refine .inr ⟨_, _, _, rfl, ?_⟩
    simp only [Bool.and_eq_true, Bool.or_eq_true, Bool.not_eq_true'] at h
    exact h
  · exact no h
theorem filt_lt {α β : Type} {f : α → Option β} : ∀ {l : List α}, (∃ x ∈ l, f x = none) → (l.filterMap f).length < l.length
  | [], ⟨x, h, _⟩ => by cases h
  | y :: l, ⟨x, h, e⟩ => by
    have hle : (l.filterMap f).length ≤ l.length := List.length_filterMap_le ..
    rw [List.filterMap_cons, List.length_cons]
    rcases List.mem_cons.mp h with rfl | h
    · rw [e]; exact Nat.lt_succ_of_le hle
    · have ih := filt_lt ⟨x, h, e⟩
      cases f y with
      | none => exact Nat.lt_succ_of_lt ih
      | some _ => exact Nat.succ_lt_succ ih
theorem stores_cells {ts vs : List Expr} {kk k2 : Nat} {pt p8 : Pos} {env : Env} (h : ∃ x p, Expr.Name x p ∈ ts ∧ env.scope.names.lookup x = some .cell) : swappedStores [.Tuple ts kk pt] (.Tuple vs k2 p8) env = pure none := by
  obtain ⟨x, p, hm, hl⟩ := h
  have kx : env.kindOf x = some .cell := hl
  unfold swappedStores
  simp only []
  split
  · rfl
  split
  · rfl
  · rw [if_pos ?_]
    · rw [Bool.or_eq_true]
      left
      rw [bne_iff_ne]
      refine Nat.ne_of_lt (filt_lt ⟨_, hm, ?_⟩)
      simp [kx]
theorem cel_mem {ts : List Expr} (G : Good X c k) (h : hasCel c ts = true) : ∃ x p, Expr.Name x p ∈ ts ∧ X.env.scope.names.lookup x = some .cell := by
  unfold hasCel at h
  obtain ⟨e, hm, h⟩ := List.any_eq_true.mp h
  split at h
  · exact ⟨_, _, hm, by rw [G.sc]; exact cel_of h⟩
  · exact no h
theorem stores_any {ts : List Expr} {v : Expr} {kk : Nat} {pt : Pos} (G : Good X c k) (h : isTupX v = false ∨ hasCel c ts = true) : swappedStores [.Tuple ts kk pt] v X.env = pure none := by
  rcases h with h | h
  · exact stores_tup h _
  · cases ev : isTupX v with
    | false => exact stores_tup ev _
    | true =>
      cases v <;> first | exact no ev.symm | exact no ev | skip
      exact stores_cells (cel_mem G h)
theorem one_each {tgt : Expr} (h : isStar tgt = false) (env : Env) : (assignEach [tgt] env).map (·.2) = [assign tgt env] := by rw [ae_no h]; rfl
theorem sole_no {v t : Expr} (h : isComp v = false) (l : Nat) (env : Env) : swapsWithSole [t] v l env = pure false := swaps_no h (some t) l env
theorem sole_cell {v : Expr} {y : Str} {py : Pos} {l : Nat} {env : Env} (hy : env.scope.names.lookup y = some .cell) : swapsWithSole [.Name y py] v l env = pure false := swaps_cell (l := l) hy
theorem bnot {b : Bool} (h : (!b) = true) : b = false := by cases b <;> first | rfl | cases h
theorem stores_some3 {x y z : Str} {px py pz p8 pt : Pos} {k2 kt : Nat} {a b d : Expr} {env : Env} (hk : env.scope.kind = .function) (hx : env.scope.names.lookup x = some .local) (hy : env.scope.names.lookup y = some .local) (hz : env.scope.names.lookup z = some .local) (hl : (py.line == px.line) = true) (hl2 : (pz.line == px.line) = true)
    (h1 : (x == y) = false) (h2 : (x == z) = false) (h3 : (y == z) = false) (ha : isStar a = false) (hb : isStar b = false) (hd : isStar d = false) (hf : (foldedForSure 8 a && (foldedForSure 8 b && foldedForSure 8 d)) = false) (hc : (constantsAlone 8 a && (constantsAlone 8 b && constantsAlone 8 d)) = false) :
    swappedStores [.Tuple [.Name x px, .Name y py, .Name z pz] kt pt] (.Tuple [a, b, d] k2 p8) env = pure (some [x, y, z]) := by
  have kx : env.kindOf x = some .local := hx
  have ky : env.kindOf y = some .local := hy
  have kz : env.kindOf z = some .local := hz
  have hbk : env.blockKind = .function := by unfold Env.blockKind; rw [hk]; rfl
  have hl' : py.line = px.line := by simpa using hl
  have hl2' : pz.line = px.line := by simpa using hl2
  have n1 : ¬ x = y := by simpa using h1
  have n2 : ¬ x = z := by simpa using h2
  have n3 : ¬ y = z := by simpa using h3
  have he : ([x, y, z] : List Str).eraseDups.length = 3 := by
    simp [List.eraseDups_cons, List.filter_cons, List.eraseDups_nil, Ne.symm n1, Ne.symm n2, Ne.symm n3, n1, n2, n3, fun e : y = x => n1 e.symm, fun e : z = x => n2 e.symm, fun e : z = y => n3 e.symm]
  unfold swappedStores
  simp [hbk, kx, ky, kz, hl', hl2', hf, hc, Expr.pos, he, List.filterMap_cons]
  intro h
  rcases h with h | h | h
  · cases a <;> first | (cases ha; done) | (cases h; done)
  · cases b <;> first | (cases hb; done) | (cases h; done)
  · cases d <;> first | (cases hd; done) | (cases h; done)
theorem tri_t {x y z : Str} {px py pz p : Pos} {kk : Nat} (h : chkT t c (.e (.Tuple [.Name x px, .Name y py, .Name z pz] kk p)) = true) : ∃ i j l, t = .tup (.tcons (.nm i) (.tcons (.nm j) (.tcons (.nm l) .tnil))) ∧ stB c i x = true ∧ stB c j y = true ∧ stB c l z = true := by
  cases t with
  | tup ts =>
    have h : chkT ts c (.l [.Name x px, .Name y py, .Name z pz]) = true := h
    cases ts with
    | tcons t1 u =>
      obtain ⟨h1, h2⟩ := two_t (show ((!isStar (.Name x px) && chkT t1 c (.e (.Name x px))) && chkT u c (.l [.Name y py, .Name z pz])) = true from h)
      cases u with
      | tcons t2 u2 =>
        obtain ⟨h3, h4⟩ := two_t (show ((!isStar (.Name y py) && chkT t2 c (.e (.Name y py))) && chkT u2 c (.l [.Name z pz])) = true from h2)
        cases u2 with
        | tcons t3 u3 =>
          obtain ⟨h5, h6⟩ := two_t (show ((!isStar (.Name z pz) && chkT t3 c (.e (.Name z pz))) && chkT u3 c (.l [])) = true from h4)
          have g1 := (two_t h1).2
          have g2 := (two_t h3).2
          have g3 := (two_t h5).2
          cases t1 <;> first | exact no g1 | skip
          cases t2 <;> first | exact no g2 | skip
          cases t3 <;> first | exact no g3 | skip
          cases u3 <;> first | exact no h6 | skip
          exact ⟨_, _, _, rfl, g1, g2, g3⟩
        | _ => exact no h4
      | _ => exact no h2
    | _ => exact no h
  | _ => exact no h
theorem asg_tri {ts : List Expr} {kk : Nat} {pt pos : Pos} {v : Expr} (G : GoodS X c k) (hn : ∀ n ∈ needs e, NeedOk X.prog X.w X.K X.mg X.base k n) (h4 : tri c ts v = true) (h2 : chkT t c (.e (.Tuple ts kk pt)) = true) (h3 : chk e c false (.e v) = true) : DSt X (.Assign [.Tuple ts kk pt] v pos) (denS (.asg t e)) := by
  unfold tri at h4
  split at h4
  · rename_i x px y py z pz a b d k2 p8
    obtain ⟨l1, h4⟩ := two_t h4
    obtain ⟨l2, h4⟩ := two_t h4
    obtain ⟨l3, h4⟩ := two_t h4
    obtain ⟨l4, h4⟩ := two_t h4
    obtain ⟨l5, h4⟩ := two_t h4
    obtain ⟨l6, h4⟩ := two_t h4
    obtain ⟨l7, h4⟩ := two_t h4
    obtain ⟨l8, h4⟩ := two_t h4
    obtain ⟨l9, h4⟩ := two_t h4
    obtain ⟨l10, h4⟩ := two_t h4
    obtain ⟨l11, h4⟩ := two_t h4
    obtain ⟨l12, l13⟩ := two_t h4
    obtain ⟨i, j, l, rfl, t1, t2, t3⟩ := tri_t h2
    have lx : X.env.scope.names.lookup x = some .local := by rw [G.sc]; exact loc_of l1
    have ly : X.env.scope.names.lookup y = some .local := by rw [G.sc]; exact loc_of l2
    have lz : X.env.scope.names.lookup z = some .local := by rw [G.sc]; exact loc_of l3
    have ni := (G.st t1).1
    have nj := (G.st t2).1
    have nl := (G.st t3).1
    have dij : i ≠ j := fun e => by
      rw [e, nj] at ni
      have q : x = y := (Option.some.inj ni).symm
      rw [q] at l6
      simp at l6
    have dil : i ≠ l := fun e => by
      rw [e, nl] at ni
      have q : x = z := (Option.some.inj ni).symm
      rw [q] at l7
      simp at l7
    have djl : j ≠ l := fun e => by
      rw [e, nl] at nj
      have q : y = z := (Option.some.inj nj).symm
      rw [q] at l8
      simp at l8
    cases e with
    | stuck => exact ⟨fun pins s σ H T I ⟨r, F0, H0, F, ρ, w, s', o⟩ => (show False from o).elim⟩
    | tup es =>
      obtain ⟨xs, e0, h3⟩ := vw h3
      cases e0
      have ha : DA X [a, b, d] (den es) := (sound es G.toGood hn).l _ h3
      refine PS_imp (ps_par3 G.calm G.nd ni nj nl dij dil djl lx ly lz ha (stores_some3 G.kind lx ly lz l4 l5 (bnot l6) (bnot l7) (bnot l8) (nstar l9) (nstar l10) (nstar l11) (bnot l12) (bnot l13))) fun T σ H ⟨r, F0, H0, F, ρ, w, s, o⟩ => ?_
      have o : OutS X.K r F0 H0 (bnd (bnd (den es ρ) fun xs => if (listOf xs).length ≤ sizeLine then ret (.tuple (listOf xs)) else bad) (fun d => match bindT (.tup (.tcons (.nm i) (.tcons (.nm j) (.tcons (.nm l) .tnil)))) d ρ with | some ρ' => ret (.nx ρ') | none => bad) w) T := o
      rw [bnd_bnd] at o
      refine ⟨r, F, ρ, w, s.sx, (OutS.bind (P := PL) o).mono fun vs H1 ⟨F1, dd, w1, n1, p1, o1⟩ => ?_⟩
      have s1 := s.step n1
      by_cases hc : (listOf dd).length ≤ sizeLine
      · rw [if_pos hc, bnd_ret] at o1
        have p1 : RpL F1 (listOf dd) vs := p1
        revert p1 o1
        generalize listOf dd = ds
        intro o1 p1
        match ds, p1, o1 with
        | [d1, d2, d3], p1, o1 =>
          obtain ⟨v1, r1, rfl, q1, p1⟩ := p1
          obtain ⟨v2, r2, rfl, q2, p1⟩ := p1
          obtain ⟨v3, r3, rfl, q3, p1⟩ := p1
          cases (show r3 = [] from p1)
          refine ⟨v1, v2, v3, rfl, ?_⟩
          have x3 := ((s1.sx.setV (i := i) q1).setV (i := j) q2).setV (i := l) q3
          refine o1 _ F1 H1 (s1.bound (t := .tup (.tcons (.nm i) (.tcons (.nm j) (.tcons (.nm l) .tnil)))) (d := .tuple [d1, d2, d3]) rfl x3 ⟨by simp, fun m hm => ?_⟩)
          have hm : m ∉ [i] ++ ([j] ++ ([l] ++ [])) := hm
          simp only [List.mem_append, List.mem_singleton, List.not_mem_nil, or_false, not_or] at hm
          rw [List.getElem?_set_ne (fun e => hm.2.2 e.symm), List.getElem?_set_ne (fun e => hm.2.1 e.symm), List.getElem?_set_ne (fun e => hm.1 e.symm)]
        | [], p1, o1 => exact o1.elim
        | [_], p1, o1 => exact o1.elim
        | [_, _], p1, o1 => exact o1.elim
        | _ :: _ :: _ :: _ :: _, p1, o1 => exact o1.elim
      · rw [if_neg hc] at o1
        exact o1.elim
    | _ => exact no h3
  · exact no h4
theorem q_asg (G : GoodS X c k) (hn : ∀ n ∈ needs e, NeedOk X.prog X.w X.K X.mg X.base k n) : SndS X c (.asg t e) := .one (fun st h => by
  obtain ⟨⟨tgt, v, p⟩, e0, h⟩ := vw h
  obtain ⟨h1, h⟩ := two_t h
  obtain ⟨h2, h3⟩ := two_t h
  obtain rfl := vAsg_eq e0
  have hv := (sound e G.toGood hn).v _ h3
  have hg := tg_e G.toGood h2
  rcases tup_or _ h1 with ⟨x, px, rfl, h1 | h1 | h1⟩ | ⟨ts, kk, pt, rfl, h1, h4⟩
  · exact st_asg hv hg (sole_no h1 _ _) (stores_name _) (one_each rfl _)
  · exact st_asg hv hg (sole_cell (by rw [G.sc]; exact cel_of h1)) (stores_name _) (one_each rfl _)
  · obtain ⟨y, gs, scope, q, rfl⟩ : ∃ y gs scope q, v = .ListComp y gs scope q := by
      cases v <;> first | exact no h1 | exact ⟨_, _, _, _, rfl⟩
    rcases comp_only h3 with rfl | ⟨elt, tg, src, cond, rfl⟩
    · exact ⟨fun pins s σ H T I ⟨r, F0, H0, F, ρ, w, s', o⟩ => (show False from o).elim⟩
    obtain ⟨n1, n2, n3⟩ := need_comp hn
    obtain ⟨y', t', it, ifs, scope', p', own, e, P⟩ := comp_parts G.toGood (sound src G.toGood n2) (sound elt) (sound cond) n1 n3 h3
    cases e
    cases t with
    | nm i =>
      obtain ⟨g1, _, _⟩ := G.st (show stB c i x = true from h2)
      exact PS_imp (setLc G P g1 h1) fun T σ H q => comp_set (freeze_set (setV_read q))
    | _ => exact no h2
  · rcases h4 with h4 | h4
    · exact st_asg hv hg (sole_no h1 _ _) (stores_any G.toGood h4) (one_each rfl _)
    · exact asg_tri G hn h4 h2 h3) fun _ => rfl
theorem q_newL (G : GoodS X c k) (hn : ∀ n ∈ needs e, NeedOk X.prog X.w X.K X.mg X.base k n) : SndS X c (.newL i e) := .one (fun st h => by
  obtain ⟨⟨tgt, v, p⟩, e0, h⟩ := vw h
  obtain ⟨⟨x, px⟩, e1, h⟩ := vw h
  obtain ⟨h0, h⟩ := two_t h
  obtain ⟨hf, h⟩ := two_t h
  obtain ⟨h1, h3⟩ := two_t h
  obtain rfl := vAsg_eq e0
  obtain rfl := nmX_eq e1
  obtain ⟨g1, g2, _⟩ := G.st h0
  have hv := (sound e G.toGood hn).f hf _ h3
  rcases tup_or _ h1 with ⟨x, px, e, h1 | h1 | h1⟩ | ⟨ts, kk, pt, e, h1, h4⟩
  · cases e; exact st_newL G.nd g1 g2 (G.fn _) hv (swaps_no h1 _ _ _)
  · cases e; exact st_newL G.nd g1 g2 (G.fn _) hv (swaps_cell (by rw [G.sc]; exact cel_of h1))
  · cases e
    obtain ⟨y, gs, scope, q, rfl⟩ : ∃ y gs scope q, v = .ListComp y gs scope q := by
      cases v <;> first | exact no h1 | exact ⟨_, _, _, _, rfl⟩
    rcases comp_only h3 with rfl | ⟨elt, tg, src, cond, rfl⟩
    · exact no hf
    obtain ⟨n1, n2, n3⟩ := need_comp hn
    obtain ⟨y', t', it, ifs, scope', p', own, e, P⟩ := comp_parts G.toGood (sound src G.toGood n2) (sound elt) (sound cond) n1 n3 h3
    cases e
    exact PS_imp (setLc G P g1 h1) fun T σ H q => comp_set (newL_read q)
  · cases e) fun _ => rfl
theorem do2 {o : Bool} {x : Expr} (hs : Snd X c a) (ho : (!o || fresh a) = true) (h : chk a c false (.e x) = true) : DO2 X o x (den a) := by
  cases o with
  | false => exact (hs.v _ h).o2
  | true => exact (hs.f ho _ h).o2
theorem stores_some {x y : Str} {px py p8 pt : Pos} {k2 kt : Nat} {a b : Expr} {env : Env} (hk : env.scope.kind = .function) (hx : env.scope.names.lookup x = some .local) (hy : env.scope.names.lookup y = some .local) (hl : (py.line == px.line) = true) (hne : (x == y) = false)
    (ha : isStar a = false) (hb : isStar b = false) (hf : (foldedForSure 8 a && foldedForSure 8 b) = false) (hc : (constantsAlone 8 a && constantsAlone 8 b) = false) : swappedStores [.Tuple [.Name x px, .Name y py] kt pt] (.Tuple [a, b] k2 p8) env = pure (some [x, y]) := by
  have kx : env.kindOf x = some .local := hx
  have ky : env.kindOf y = some .local := hy
  have hbk : env.blockKind = .function := by unfold Env.blockKind; rw [hk]; rfl
  have st : ∀ a : Expr, isStar a = false → (match a with | .Starred .. => true | _ => false) = false := fun a h => by cases a <;> first | rfl | cases h
  have hl' : py.line = px.line := by simpa using hl
  have he : ([x, y] : List Str).eraseDups.length = 2 := by
    have hne' : ¬ x = y := by simpa using hne
    simp [List.eraseDups_cons, List.filter_cons, List.eraseDups_nil]
    rw [if_neg (fun e => hne' e.symm)]
    simp [List.eraseDups_cons]
  unfold swappedStores
  simp [hbk, kx, ky, hl', st a ha, st b hb, hf, hc, Expr.pos, he, List.filterMap_cons]
  intro h
  rcases h with h | h
  · cases a <;> first | (cases ha; done) | (cases h; done)
  · cases b <;> first | (cases hb; done) | (cases h; done)
theorem stores_cell {x y : Str} {px py p8 pt : Pos} {k2 kt : Nat} {a b : Expr} {env : Env} (h : env.scope.names.lookup x = some .cell ∨ env.scope.names.lookup y = some .cell) : swappedStores [.Tuple [.Name x px, .Name y py] kt pt] (.Tuple [a, b] k2 p8) env = pure none := by
  rcases h with h | h
  · have kx : env.kindOf x = some .cell := h
    unfold swappedStores
    simp [kx, Expr.pos, List.filterMap_cons]
    intro _ _ _ h2
    exfalso
    revert h2
    split <;> simp
  · have ky : env.kindOf y = some .cell := h
    unfold swappedStores
    simp [ky, Expr.pos, List.filterMap_cons]
    intro _ _ _ h2
    exfalso
    revert h2
    split <;> simp
theorem cel_or {x y : Str} (h : parC c x y = true) (G : Good X c k) : X.env.scope.names.lookup x = some .cell ∨ X.env.scope.names.lookup y = some .cell := by
  unfold parC at h
  rw [Bool.or_eq_true] at h
  rw [G.sc]
  exact h.imp cel_of cel_of
theorem q_par {oi oj : Bool} (G : GoodS X c k) (ha : Snd X c a) (hb : Snd X c b) : SndS X c (.par i j oi oj a b) := .one (fun st h => by
  obtain ⟨⟨x, px, y, py, u, v⟩, e0, h⟩ := vw h
  obtain ⟨h1, h⟩ := two_t h
  obtain ⟨h2, h⟩ := two_t h
  obtain ⟨h3, h⟩ := two_t h
  obtain ⟨h4, h⟩ := two_t h
  obtain ⟨h5, h⟩ := two_t h
  obtain ⟨h6, h⟩ := two_t h
  obtain ⟨h7, h⟩ := two_t h
  obtain ⟨h8, h⟩ := two_t h
  obtain ⟨h9, g⟩ := two_t h
  obtain ⟨kt, pt, k2, p8, pos, rfl⟩ := vPar_eq e0
  rw [Bool.or_eq_true] at g
  rcases g with h | h
  · exact st_parT G.calm G.nd (G.st h1).1 (G.st h2).1 (G.st h1).2.1 (G.st h2).2.1 (G.fn _) (G.fn _) (star_no (nstar h3) _ _) (star_no (nstar h4) _ _) (do2 ha h7 h5) (do2 hb h8 h6) (stores_cell (cel_or h G.toGood))
  obtain ⟨l1, h⟩ := two_t h
  obtain ⟨l2, h⟩ := two_t h
  obtain ⟨l3, h⟩ := two_t h
  obtain ⟨l4, h⟩ := two_t h
  obtain ⟨l5, l6⟩ := two_t h
  have lx : X.env.scope.names.lookup x = some .local := by rw [G.sc]; exact loc_of l1
  have ly : X.env.scope.names.lookup y = some .local := by rw [G.sc]; exact loc_of l2
  exact st_par G.calm G.nd (G.st h1).1 (G.st h2).1 (of_decide_eq_true h9) lx ly (star_no (nstar h3) _ _) (star_no (nstar h4) _ _) (do2 ha h7 h5) (do2 hb h8 h6)
    (stores_some G.kind lx ly l3 (by simpa using l4) (nstar h3) (nstar h4) (bnot l5) (bnot l6))) fun _ => rfl
theorem few {x : Expr} (h : isStar x = false) (p3 : Pos) (env : Env) : ((backTo p3 (starEach [x] env)).all (fun x => !x.1) && (backToKw p3 (keywordEach [] env)).all (fun x => x.1.isSome) && decide ([x].length + ([] : List Keyword).length + (if ([] : List Keyword).isEmpty then 0 else 1) < 30)) = true := by
  rw [star_no h]
  rfl
theorem q_app (G : GoodS X c k) (he : Snd X c e) : SndS X c (.app i e) := .one (fun st h => by
  obtain ⟨⟨x, m, u, q⟩, e0, h⟩ := vw h
  obtain ⟨h1, h⟩ := two_t h
  obtain ⟨h2, h⟩ := two_t h
  obtain ⟨h3, h⟩ := two_t h
  obtain ⟨h4, h5⟩ := two_t h
  obtain rfl := of_decide_eq_true h2
  obtain ⟨p, p2, p3, pos, rfl, hl⟩ := vMet_eq e0
  obtain ⟨n1, n2, n3, n4⟩ := G.nm h3
  exact st_app n1 n2 n3 n4 (star_no (nstar h4) _ _) (hl.trans h1) (he.v _ h5) (few (nstar h4) _ _)) fun _ => rfl
theorem q_ext (G : GoodS X c k) (he : Snd X c e) : SndS X c (.ext i e) := .one (fun st h => by
  obtain ⟨⟨x, m, u, q⟩, e0, h⟩ := vw h
  obtain ⟨h1, h⟩ := two_t h
  obtain ⟨h2, h⟩ := two_t h
  obtain ⟨h3, h⟩ := two_t h
  obtain ⟨h4, h5⟩ := two_t h
  obtain rfl := of_decide_eq_true h2
  obtain ⟨p, p2, p3, pos, rfl, hl⟩ := vMet_eq e0
  obtain ⟨n1, n2, n3, n4⟩ := G.nm h3
  exact st_ext n1 n2 n3 n4 (star_no (nstar h4) _ _) (hl.trans h1) (he.v _ h5) (few (nstar h4) _ _)) fun _ => rfl
theorem asub {o a : Expr} (h : isSlice a = false) (p : Pos) (env : Env) (v : Value) : assign (.Subscript o a p) env v = (do
      let ov ← holding [v] (eval o env)
      let iv ← holding [v, ov] (eval a env)
      standAt p
      holding [v, ov, iv] (setItem ov iv v)
      release [v, ov, iv] []) := by
  cases a <;> first | rfl | cases h
theorem q_setIx (G : GoodS X c k) (hk : Snd X c a) (he : Snd X c e) : SndS X c (.setIx i a e) := .one (fun st h => by
  obtain ⟨⟨tgt, v, pos⟩, e0, g⟩ := vw h
  obtain ⟨⟨o, u⟩, e1, g⟩ := vw g
  obtain ⟨rv, e2, g⟩ := vw g
  obtain ⟨h1, g⟩ := two_t g
  obtain ⟨h2, g⟩ := two_t g
  obtain ⟨h3, g⟩ := two_t g
  obtain ⟨h4, h5⟩ := two_t g
  obtain rfl := vAsg_eq e0
  obtain ⟨p2, rfl⟩ := vSub_eq e1
  obtain ⟨p, rfl⟩ := vName_eq e2
  obtain ⟨n1, n2, n3, n4⟩ := G.nm h1
  exact st_setIx n1 n2 n3 n4 (he.v _ h5) (hk.v _ h4) (sole_no (by simpa using h3) _ _) (stores_sub _) (asub (nslice h2) _ _)) fun _ => rfl
theorem q_rowSet {j : Nat} (G : GoodS X c k) (he : Snd X c e) : SndS X c (.rowSet i j e) := .one (fun st h => by
  obtain ⟨⟨tgt, v, pos⟩, e0, g⟩ := vw h
  obtain ⟨⟨rv, n⟩, e1, g⟩ := vw g
  obtain ⟨h1, g⟩ := two_t g
  obtain ⟨h2, g⟩ := two_t g
  obtain ⟨h3, h4⟩ := two_t g
  obtain rfl := vAsg_eq e0
  have h2 : n = (j : Int) := of_decide_eq_true h2
  subst h2
  obtain ⟨p1, p2, p3, kk, rfl⟩ := vAt_eq e1
  obtain ⟨n1, n2, n3, n4⟩ := G.nm h1
  exact st_rowSet n1 n2 n3 n4 (he.v _ h4) (sole_no (by simpa using h3) _ _) (stores_sub _)) fun _ => rfl
theorem q_ite (he : Snd X c e) (ha : SndS X c A) (hb : SndS X c B) : SndS X c (.ite e A B) := .one (fun st h => by
  obtain ⟨⟨y, u, v⟩, e0, g⟩ := vw h
  obtain ⟨h1, g⟩ := two_t g
  obtain ⟨h2, g⟩ := two_t g
  obtain ⟨h3, h4⟩ := two_t g
  obtain ⟨p, rfl⟩ := vIfS_eq e0
  exact st_if (he.t _ h1 h2) (ha.l _ h3) (hb.l _ h4)) fun _ => rfl
theorem q_for (G : GoodS X c k) (he : Snd X c e) (hb : SndS X c B) : SndS X c (.for_ t e B) := .one (fun st h => by
  obtain ⟨⟨y, it, v⟩, e0, g⟩ := vw h
  obtain ⟨h1, g⟩ := two_t g
  obtain ⟨h2, g⟩ := two_t g
  obtain ⟨h3, h4⟩ := two_t g
  obtain ⟨p, rfl⟩ := vFor_eq e0
  have hi : DI X y it (fun ρ => bnd (den e ρ) itemsOf) := by
    have h3 : (if isIter e then chk e c false (.i y it) else chk e c false (.e it)) = true := h3
    split at h3
    · exact he.i _ _ h3
    · exact i_seq (he.v _ h3)
  exact st_for (by rw [G.xe]; exact PassesOwn.never) G.calm hi (tg_e G.toGood h1) (hb.l _ h4) (noset (by simpa using h2) _)) fun _ => rfl
theorem q_while {n : Ev → Nat} (G : GoodS X c k) (he : Snd X c e) (hb : SndS X c B) : SndS X c (.while_ n e B) := .one (fun st h => by
  obtain ⟨⟨y, v⟩, e0, g⟩ := vw h
  obtain ⟨h1, g⟩ := two_t g
  obtain ⟨h2, h3⟩ := two_t g
  obtain ⟨p, rfl⟩ := vWhile_eq e0
  exact st_while (by rw [G.xe]; exact PassesOwn.never) (he.t _ h1 h2) (hb.l _ h3)) fun _ => rfl
theorem q_ret (he : Snd X c e) : SndS X c (.ret e) := .one (fun st h => by
  obtain ⟨y, e0, g⟩ := vw h
  obtain ⟨p, rfl⟩ := vRet_eq e0
  exact st_ret (he.v _ g)) fun _ => rfl
theorem q_expr (he : Snd X c e) : SndS X c (.expr e) := .one (fun st h => by
  obtain ⟨⟨y, p⟩, e0, g⟩ := vw h
  obtain ⟨h1, h2⟩ := two_t g
  obtain rfl := vExp_eq e0
  exact st_expr (he.v _ h2) (swaps_no (by simpa using h1) _ _ _)) fun _ => rfl
theorem aug_of {K : PySem.W.Frag} {X : Cx} {o : BOp} {op : Operator} (h : opA o op = true) : ∃ r : R2, OpR X (inplaceOp op) r ∧ VR2 X.K r (augD o) := by
  cases o <;> cases op <;> first | exact no h | skip
  · exact ⟨_, iop_add, fun {rr F H w x y a b Q} s k p q o => by
      cases a <;> cases b <;> first | exact o.elim | skip
      exact ⟨_, _, p, q, fin s k o rfl⟩⟩
  · exact ⟨_, iop_sub, fun {rr F H w x y a b Q} s k p q o => by
      cases a <;> cases b <;> first | exact o.elim | skip
      exact ⟨_, _, p, q, fin s k o rfl⟩⟩
  · exact ⟨_, iop_mul, fun {rr F H w x y a b Q} s k p q o => by
      cases a <;> cases b <;> first | exact o.elim | skip
      obtain ⟨hc, o⟩ := ite_out o
      exact ⟨_, _, p, q, by simpa [big, CMul] using hc, fin s k o rfl⟩⟩
  · exact ⟨_, iop_fdiv, fun {rr F H w x y a b Q} s k p q o => by
      cases a <;> cases b <;> first | exact o.elim | skip
      obtain ⟨hc, o⟩ := ite_out o
      exact ⟨_, _, p, q, hc, fin s k o rfl⟩⟩
  · exact ⟨_, iop_mod, fun {rr F H w x y a b Q} s k p q o => by
      cases a <;> cases b <;> first | exact o.elim | skip
      obtain ⟨hc, o⟩ := ite_out o
      exact ⟨_, _, p, q, hc, fin s k o rfl⟩⟩
theorem q_aug {o : BOp} (G : GoodS X c k) (he : Snd X c e) : SndS X c (.aug i o e) := .one (fun st h => by
  obtain ⟨⟨x, op, v⟩, e0, g⟩ := vw h
  obtain ⟨h1, g⟩ := two_t g
  obtain ⟨h2, h3⟩ := two_t g
  obtain ⟨p, q, rfl⟩ := vAug_eq e0
  obtain ⟨r, k1, k2⟩ := aug_of (K := X.K) (X := X) h2
  obtain ⟨g1, g2, _⟩ := G.st h1
  exact st_aug G.nd g1 g2 (G.fn _) (he.v _ h3) k1 k2) fun _ => rfl
theorem soundS (B : S) : ∀ {X : Cx} {c : Cg} {k : Nat}, GoodS X c k → (∀ n ∈ needsS B, NeedOk X.prog X.w X.K X.mg X.base k n) → SndS X c B := by
  induction B with
  | nil => exact fun G hn => q_nil
  | seq a r iha ihr => exact fun G hn => q_seq (iha G fun n h => hn n (List.mem_append_left _ h)) (ihr G fun n h => hn n (List.mem_append_right _ h))
  | asg t e => exact fun G hn => q_asg G hn
  | newL i e => exact fun G hn => q_newL G hn
  | par i j oi oj a b => exact fun G hn => q_par G (sound a G.toGood fun n h => hn n (List.mem_append_left _ h)) (sound b G.toGood fun n h => hn n (List.mem_append_right _ h))
  | frz i => exact fun G hn => ⟨fun st h => no h, fun sts h => no h⟩
  | app i e => exact fun G hn => q_app G (sound e G.toGood hn)
  | ext i e => exact fun G hn => q_ext G (sound e G.toGood hn)
  | setIx i a e => exact fun G hn => q_setIx G (sound a G.toGood fun n h => hn n (List.mem_append_left _ h)) (sound e G.toGood fun n h => hn n (List.mem_append_right _ h))
  | appPop i j e => exact fun G hn => ⟨fun st h => no h, fun sts h => no h⟩
  | ite e a b iha ihb => exact fun G hn => q_ite (sound e G.toGood fun n h => hn n (List.mem_append_left _ h)) (iha G fun n h => hn n (List.mem_append_right _ (List.mem_append_left _ h))) (ihb G fun n h => hn n (List.mem_append_right _ (List.mem_append_right _ h)))
  | for_ t e b ihb => exact fun G hn => q_for G (sound e G.toGood fun n h => hn n (List.mem_append_left _ h)) (ihb G fun n h => hn n (List.mem_append_right _ h))
  | while_ n e b ihb => exact fun G hn => q_while G (sound e G.toGood fun n h => hn n (List.mem_append_left _ h)) (ihb G fun n h => hn n (List.mem_append_right _ h))
  | ret e => exact fun G hn => q_ret (sound e G.toGood hn)
  | expr e => exact fun G hn => q_expr (sound e G.toGood hn)
  | raise x es => exact fun G hn => ⟨fun st h => no h, fun sts h => no h⟩
  | rowSet i j e => exact fun G hn => q_rowSet G (sound e G.toGood hn)
  | aug i o e => exact fun G hn => q_aug G (sound e G.toGood hn)
  | kill i => exact fun G hn => ⟨fun st h => no h, fun sts h => no h⟩
  | stuck => exact fun G hn => ⟨fun st h => ⟨fun pins s σ H T I ⟨r, F0, H0, F, ρ, w, s', o⟩ => o.elim⟩, fun sts h => ⟨fun pins s σ H T I ⟨r, F0, H0, F, ρ, w, s', o⟩ => o.elim⟩⟩
end
end Dn
namespace Dn
open PySem PySem.Spec PyProof.Rows L2
set_option autoImplicit true
/-! ### defs by the check -/
section
variable {P : Program} {wd : World} {K : PySem.W.Frag} {mg : Str → Option Value} {base : Heap} {st : Stmt} {f : Addr} {fd : FuncData} {x qual n0 : Str} {N ps : List Str} {j k n : Nat} {B : S}
theorem kind_of {N ps : List Str} {sc : Scope} (h : FnScope N ps sc) : sc.kind = .function := h.kind
theorem good_of {X : Cx} (Sc : FnScope N ps (defScope st)) (hb : ∀ n ∈ bnames, X.mg (Str.ofString n) = none) (e1 : X.N = N) (e2 : X.env.scope = defScope st) (e3 : X.calm = true) (e4 : Room k X.A) (e5 : X.fn = fun _ => true) (e6 : X.xe = fun _ _ => False) (e7 : PySem.W.kdsCode X.K X.env.code = true) :
    GoodS X ⟨N, defScope st, fun _ => true⟩ k where
  N := e1
  nd := by rw [e1]; exact Sc.nd
  sc := e2
  kind := by rw [e2]; exact Sc.kind
  fb := fun x _ => by rw [e5]
  calm := e3
  room := e4
  bn := hb
  code := e7
  fn := fun x => by rw [e5]
  xe := e6
theorem def_by (Fn : Fun K x qual st f fd) (Sc : FnScope N ps (defScope st)) (hn : ps.length = n) (hb : ∀ n ∈ bnames, mg (Str.ofString n) = none)
    (hc : chkS B ⟨N, defScope st, fun _ => true⟩ (.l (defBody st)) = true) (need : ∀ m ∈ needsS B, NeedOk P wd K mg base k m) : FnOk P wd K mg base CX0 (k + 1) f fd ps (spD K n (fn N.length B)) :=
  fn_ok Fn Sc hn fun X e1 e2 e3 e4 e5 e6 e7 e8 e9 e10 e11 e12 => (soundS B (good_of Sc (by rw [e4]; exact hb) e6 e7 e8 e9 e10 e11 e12) (by rw [e1, e2, e3, e4, e5]; exact need)).l _ hc
theorem defR_by (Fn : Fun K x qual st f fd) (Sc : FnScope (n0 :: N) ps (defScope st)) (hn : ps.length = n + 1) (hb : ∀ n ∈ bnames, mg (Str.ofString n) = none)
    (hc : chkS B ⟨n0 :: N, defScope st, fun _ => true⟩ (.l (defBody st)) = true) (need : ∀ m ∈ needsS B, NeedOk P wd K mg base k m) : FnOk P wd K mg base CX0 (k + 1) f fd ps (spR K n (fnR N.length B)) :=
  fnR_ok Fn Sc hn fun X e1 e2 e3 e4 e5 e6 e7 e8 e9 e10 e11 e12 => (soundS B (good_of Sc (by rw [e4]; exact hb) e6 e7 e8 e9 e10 e11 e12) (by rw [e1, e2, e3, e4, e5]; exact need)).l _ hc
theorem CallOk.mono {sp : Sp} (h : CallOk P wd K mg base j x sp) (e : j ≤ k) : CallOk P wd K mg base k x sp := by
  obtain ⟨fa, fd, ps, h1, h2⟩ := h.ok
  exact ⟨⟨fa, fd, ps, h1.mono e, h2⟩⟩
/-- what stands at the top for a def -/
structure TopFn (K : PySem.W.Frag) (mg : Str → Option Value) (x : Str) (st : Stmt) (ps : List Str) : Prop where
  ok : ∃ f fd, Fun K x x st f fd ∧ (∀ us : List Value, us.length = ps.length → bindArgs fd ⟨us, []⟩ = pure (ps.zip us)) ∧ mg x = some (.ref f)
theorem top_of {h : Heap} {od an : Option Addr} {sl : Array (Option Value)} {oc kV dc pm cd ct : Value} (X : K.In h) (G : h.Ns mainGlobals mg) (a : PySem.W.nsIn K mainGlobals x = some (some (.ref f)))
    (l : K.lookup f = some ⟨oc, od, .func (PySem.W.fnOf x x (defArgs st) (defBody st) (defScope st) .none kV dc pm an cd ct), sl⟩) (c : PySem.W.codeIn K cd x = true) (k : PySem.W.keepIn K (.ref f) = true)
    (b : ∀ (kV doc pm : Value) (an : Option Addr) (cdv ct : Value) (us : List Value), us.length = ps.length → bindArgs (PySem.W.fnOf x x (defArgs st) (defBody st) (defScope st) .none kV doc pm an cdv ct) ⟨us, []⟩ = pure (ps.zip us)) : TopFn K mg x st ps :=
  ⟨⟨f, _, fun_mk l c k, b _ _ _ _ _ _, PySem.W.mg_of X G a⟩⟩
theorem gl_of {h : Heap} {d : D} {v : V} {u : Value} (X : K.In h) (G : h.Ns mainGlobals mg) (a : PySem.W.nsIn K mainGlobals x = some (some u)) (e : scalarV d = some v) (r : RelV v u) : ∃ v u, scalarV d = some v ∧ mg x = some u ∧ RelV v u :=
  ⟨v, u, e, PySem.W.mg_of X G a, r⟩
theorem bn_of {h : Heap} (X : K.In h) (G : h.Ns mainGlobals mg) (z1 : PySem.W.nsIn K mainGlobals "len" = some none) (z2 : PySem.W.nsIn K mainGlobals "tuple" = some none) (z3 : PySem.W.nsIn K mainGlobals "list" = some none) (z4 : PySem.W.nsIn K mainGlobals "sum" = some none)
    (z5 : PySem.W.nsIn K mainGlobals "max" = some none) (z6 : PySem.W.nsIn K mainGlobals "min" = some none) (z7 : PySem.W.nsIn K mainGlobals "abs" = some none) (z8 : PySem.W.nsIn K mainGlobals "any" = some none) (z9 : PySem.W.nsIn K mainGlobals "all" = some none)
    (z10 : PySem.W.nsIn K mainGlobals "int" = some none) (z11 : PySem.W.nsIn K mainGlobals "str" = some none) (z12 : PySem.W.nsIn K mainGlobals "bool" = some none) (z13 : PySem.W.nsIn K mainGlobals "isinstance" = some none) (z14 : PySem.W.nsIn K mainGlobals "range" = some none)
    (z15 : PySem.W.nsIn K mainGlobals "zip" = some none) (z16 : PySem.W.nsIn K mainGlobals "enumerate" = some none) (z17 : PySem.W.nsIn K mainGlobals "reversed" = some none) (z18 : PySem.W.nsIn K mainGlobals "sorted" = some none) (z19 : PySem.W.nsIn K mainGlobals "set" = some none) (z20 : PySem.W.nsIn K mainGlobals "dict" = some none) : ∀ n ∈ bnames, mg (Str.ofString n) = none := by
  intro n hn
  simp only [bnames, List.mem_cons, List.not_mem_nil, or_false] at hn
  rcases hn with rfl | rfl | rfl | rfl | rfl | rfl | rfl | rfl | rfl | rfl | rfl | rfl | rfl | rfl | rfl | rfl | rfl | rfl | rfl | rfl <;> exact PySem.W.mg_none_of X G (by assumption)
theorem callD (T : TopFn K mg x st ps) (Sc : FnScope N ps (defScope st)) (hn : ps.length = n) (hb : ∀ n ∈ bnames, mg (Str.ofString n) = none)
    (hc : chkS B ⟨N, defScope st, fun _ => true⟩ (.l (defBody st)) = true) (need : ∀ m ∈ needsS B, NeedOk P wd K mg base k m) : CallOk P wd K mg base (k + 1) x (spD K n (fn N.length B)) := by
  obtain ⟨f, fd, h1, h2, h3⟩ := T.ok
  exact ⟨⟨f, fd, ps, def_by h1 Sc hn hb hc need, h3, h1.kp, .all h2⟩⟩
theorem callDR (T : TopFn K mg x st ps) (Sc : FnScope (n0 :: N) ps (defScope st)) (hn : ps.length = n + 1) (hb : ∀ n ∈ bnames, mg (Str.ofString n) = none)
    (hc : chkS B ⟨n0 :: N, defScope st, fun _ => true⟩ (.l (defBody st)) = true) (need : ∀ m ∈ needsS B, NeedOk P wd K mg base k m) : CallOk P wd K mg base (k + 1) x (spR K n (fnR N.length B)) := by
  obtain ⟨f, fd, h1, h2, h3⟩ := T.ok
  exact ⟨⟨f, fd, ps, defR_by h1 Sc hn hb hc need, h3, h1.kp, .all h2⟩⟩
theorem call_bad (T : TopFn K mg x st ps) (hn : ps.length = n) : CallOk P wd K mg base k x (spD K n (fun _ => bad)) := by
  obtain ⟨f, fd, h1, h2, h3⟩ := T.ok
  exact ⟨⟨f, fd, ps, ⟨fun vs H Q E h => by rw [h.1, hn], fun A outer s H args us vs Q E hr he hb hv ⟨_, r, F, ds, w, _, _, _, o⟩ => o.elim⟩, h3, h1.kp, .all h2⟩⟩
theorem need_by {Γ : List Need} {l : List Need} (is : List Nat) (h : l = is.filterMap (Γ[·]?)) (g : ∀ m ∈ Γ, NeedOk P wd K mg base k m) : ∀ m ∈ l, NeedOk P wd K mg base k m := fun m hm => by
  rw [h, List.mem_filterMap] at hm
  obtain ⟨i, _, e⟩ := hm
  exact g m (List.mem_of_getElem? e)
/-! ### the law's own def -/
def spLaw (K : PySem.W.Frag) (n : Nat) : Sp := fun vs H Q _ => ∃ (a : Addr) (ns : List Int), vs = [.ref a] ∧ SqL K H a (ns.map V.int) ∧ ns.length ≤ n ∧ ∀ H', Q (.bl true) H'
/-- row = [script, 0, c, 0] and the rest -/
def lawHead : List Stmt → Option (Int × List Stmt)
  | .Assign [.Name r _] (.List [.Name x _, .Constant (.int 0) _ _, .Constant (.int c) _ _, .Constant (.int 0) _ _] _) _ :: rest => if r = ("row" : Str) ∧ x = ("script" : Str) then some (c, rest) else none
  | _ => none
theorem lawHead_eq {l rest : List Stmt} {c : Int} (h : lawHead l = some (c, rest)) : ∃ p1 p2 k3 p3 k4 p4 k5 p5 p6 p7, l = .Assign [.Name "row" p1] (.List [.Name "script" p2, .Constant (.int 0) k3 p3, .Constant (.int c) k4 p4, .Constant (.int 0) k5 p5] p6) p7 :: rest := by
  unfold lawHead at h
  split at h
  · split at h
    · rename_i hh
      obtain ⟨rfl, rfl⟩ := hh
      cases h
      exact ⟨_, _, _, _, _, _, _, _, _, _, rfl⟩
    · cases h
  · cases h
def lawW (ns : List Int) (c : Int) : W := ⟨ns, 0, c, 0⟩
def lawEv (m : Nat) : Ev := .no :: .row :: List.replicate m .no
theorem head_ps {X : Cx} {cg : Cg} {c : Int} {rest : List Stmt} {t : TS} {p1 p2 p3 p4 p5 p6 p7 : Pos} {k3 k4 k5 : Nat} (G : GoodS X cg k) (hl : nmB cg 0 "script" = true ∧ stB cg 1 "row" = true) (h : PSs X rest t) :
    PSs X (.Assign [.Name "row" p1] (.List [.Name "script" p2, .Constant (.int 0) k3 p3, .Constant (.int c) k4 p4, .Constant (.int 0) k5 p5] p6) p7 :: rest) (tSeq (tAsg (tLst (tCons (tVar 0) (tCons (tC (.int 0)) (tCons (tC (.int c)) (tCons (tC (.int 0)) tNil))))) (gName 1)) t) := by
  obtain ⟨n1, n2, n3, n4⟩ := G.nm hl.1
  obtain ⟨g1, g2, _⟩ := G.st hl.2
  exact pss_cons (ps_set (i := 1) G.nd g1 g2 (pe_lst (pa_cons (pe_var (i := 0) n1 n2 n3 n4) (pa_cons pe_int (pa_cons pe_int (pa_cons pe_int pa_nil))))) (hf := .inl (G.fn _))) h
theorem law_by {rest : List Stmt} {c : Int} {most : Nat} (Fn : Fun K x qual st f fd) (Sc : FnScope ("script" :: "row" :: N) ["script"] (defScope st)) (hb : ∀ n ∈ bnames, mg (Str.ofString n) = none)
    (hh : lawHead (defBody st) = some (c, rest)) (hl : nmB ⟨"script" :: "row" :: N, defScope st, fun _ => true⟩ 0 "script" = true ∧ stB ⟨"script" :: "row" :: N, defScope st, fun _ => true⟩ 1 "row" = true)
    (hc : chkS B ⟨"script" :: "row" :: N, defScope st, fun _ => true⟩ (.l rest) = true) (need : ∀ m ∈ needsS B, NeedOk P wd K mg base k m)
    (hr : ∀ ns : List Int, ns.length ≤ most → ∃ w', denS B (lawEv N.length) (lawW ns c) = .ok (.rt (.bool true)) w') : FnOk P wd K mg base CX0 (k + 1) f fd ["script"] (spLaw K most) := by
  obtain ⟨p1, p2, k3, p3, k4, p4, k5, p5, p6, p7, eb⟩ := lawHead_eq hh
  refine fun_okC Fn Sc (fun vs H Q E h => ?_) fun cdv hcd A outer s H vs Q E hroom hs => ?_
  · obtain ⟨a, ns, rfl, _⟩ := h
    rfl
  · obtain ⟨a, ns, rfl, hS, hlen, q⟩ := hs
    obtain ⟨w', hr⟩ := hr ns hlen
    rw [eb]
    refine ⟨_, head_ps (good_of Sc hb rfl rfl rfl hroom rfl rfl hcd) hl ((soundS B (good_of Sc hb rfl rfl rfl hroom rfl rfl hcd) need).l _ hc), ?_⟩
    refine ⟨.ref a, rfl, by show 4 ≤ sizeLine; decide, fun r hp => ?_⟩
    have hrow : RowOk K (some (r, a, ns)) (fun _ => none) (upd H r (.lst [.ref a, .int 0, .int c, .int 0])) (lawW ns c) := by
      refine ⟨rfl, ?_, rfl, upd_same, ?_⟩
      · rcases hS with (h5 | ⟨o, h5⟩) | h5
        · exact .inl (ne_of_none h5 hp)
        · exact .inl (ne_of_none h5 hp)
        · exact .inr fun H' => .inr h5
      · rcases hS with (h5 | ⟨o, h5⟩) | h5
        · exact .inl (.inl (by rw [upd_ne (ne_of_none h5 hp)]; exact h5))
        · exact .inl (.inr ⟨o, by rw [upd_ne (ne_of_none h5 hp)]; exact h5⟩)
        · exact .inr h5
    have hsub : Sub (fun _ => none) (upd H r (.lst [.ref a, .int 0, .int c, .int 0])) := fun _ _ e => by cases e
    refine ⟨some (r, a, ns), (fun _ => none), _, (fun _ => none), lawEv N.length, lawW ns c, ⟨⟨hsub, hrow, ?_, ?_, ?_, ?_, ?_⟩, Nx.refl hsub hrow, ?_⟩, ?_⟩
    · show (Sl.no :: Sl.row :: List.replicate N.length Sl.no).length = ((L2.start ("script" :: "row" :: N) [V.ref a]).set 1 _).length
      unfold L2.start
      simp
    · intro i d e
      match i, e with
      | 0, e => cases e
      | 1, e => cases e
      | i + 2, e =>
        have e : (List.replicate N.length Sl.no)[i]? = some (.val d) := e
        rw [List.getElem?_replicate] at e
        split at e <;> cases e
    · intro i d e
      match i, e with
      | 0, e => cases e
      | 1, e => cases e
      | i + 2, e =>
        have e : (List.replicate N.length Sl.no)[i]? = some (.own d) := e
        rw [List.getElem?_replicate] at e
        split at e <;> cases e
    · intro i e
      match i, e with
      | 0, e => cases e
      | 1, e => exact ⟨r, rfl, rfl⟩
      | i + 2, e =>
        have e : (List.replicate N.length Sl.no)[i]? = some .row := e
        rw [List.getElem?_replicate] at e
        split at e <;> cases e
    · intro i j l m p e
      match i, e with
      | 0, e => cases e
      | 1, e => cases e
      | i + 2, e =>
        have e : (List.replicate N.length Sl.no)[i]? = some (.own l) := e
        rw [List.getElem?_replicate] at e
        split at e <;> cases e
    · intro i l p e
      match i, e with
      | 0, e => cases e
      | 1, e => cases e
      | i + 2, e =>
        have e : (List.replicate N.length Sl.no)[i]? = some (.own l) := e
        rw [List.getElem?_replicate] at e
        split at e <;> cases e
    · rw [hr]
      intro v F' H' n p
      cases (show v = .bl true from p)
      exact q H'
theorem law_fin {rest : List Stmt} {c : Int} {most : Nat} {fa : Addr} (L : TopFn K mg "law" st ["script"]) (hfa : mg "law" = some (.ref fa)) (Sc : FnScope ("script" :: "row" :: N) ["script"] (defScope st)) (hb : ∀ n ∈ bnames, mg (Str.ofString n) = none)
    (hh : lawHead (defBody st) = some (c, rest)) (hl : nmB ⟨"script" :: "row" :: N, defScope st, fun _ => true⟩ 0 "script" = true ∧ stB ⟨"script" :: "row" :: N, defScope st, fun _ => true⟩ 1 "row" = true)
    (hc : chkS B ⟨"script" :: "row" :: N, defScope st, fun _ => true⟩ (.l rest) = true) (need : ∀ base : Heap, ∀ m ∈ needsS B, NeedOk P wd K mg base k m)
    (hr : ∀ ns : List Int, ns.length ≤ most → ∃ w', denS B (lawEv N.length) (lawW ns c) = .ok (.rt (.bool true)) w') :
    ∃ fd : FuncData, (∀ (s : Shared) (v : Value), BindsTo s fd ⟨[v], []⟩ [("script", v)]) ∧ ∀ base : Heap, K.In base → base.Ns mainGlobals mg → FnOk P wd K mg base CX0 (k + 1) fa fd ["script"] (spLaw K most) := by
  obtain ⟨f, fd, h1, h2, h3⟩ := L.ok
  rw [hfa] at h3
  cases h3
  exact ⟨fd, fun s v => .of_eq (h2 [v] rfl), fun base _ _ => law_by h1 Sc hb hh hl hc (need base) hr⟩
end
end Dn
namespace Dn.DL
open PySem PySem.Spec PyProof.Rows L2
def topS (i : Nat) : Stmt := PySem.Challenge.pw_lagcones_k04_whole_outmost_members.main.body.getD i (.Pass ⟨0, 0, 0, 0⟩)
def B_is_int : S :=
  (.seq (.ret (.and (.isI (.var 0) .int) (.not (.isI (.var 0) .bool))))
  .nil)
def f_is_int : List D → M D := fn 1 B_is_int
def B_later : S :=
  (.seq (.ite (.or (.cmp .is_ (.var 0) (.lit .none)) (.cmp .is_ (.var 1) (.lit .none))) (.seq (.ret (.ite (.cmp .is_ (.var 0) (.lit .none)) (.var 1) (.var 0)))
  .nil) .nil)
  (.seq (.ret (.b2 .max2 (.var 0) (.var 1)))
  .nil))
def f_later : List D → M D := fn 2 B_later
def B_added : S :=
  (.seq (.ret (.ite (.or (.cmp .is_ (.var 0) (.lit .none)) (.cmp .is_ (.var 1) (.lit .none))) (.lit .none) (.bin .add (.var 0) (.var 1))))
  .nil)
def f_added : List D → M D := fn 2 B_added
def B_is_by : S :=
  (.seq (.ret (.or (.cmp .is_ (.var 0) (.lit .none)) (.and (.cmp .isnot (.var 1) (.lit .none)) (.cmp .le (.var 0) (.var 1)))))
  .nil)
def f_is_by : List D → M D := fn 2 B_is_by
def B_key_of : S :=
  (.seq (.ret (.comp (.ite (.cmp .is_ (.var 1) (.lit .none)) (.tup (.cons (.lit (.int 0)) (.cons (.lit (.int 0)) .nil))) (.tup (.cons (.lit (.int 1)) (.cons (.var 1) .nil)))) (.nm 1) (.var 0) (.lit (.bool true))))
  .nil)
def f_key_of : List D → M D := fn 2 B_key_of
def B_share : S :=
  (.seq (.asg (.nm 2) (.lit .none))
  (.seq (.for_ (.tup (.tcons (.nm 3) (.tcons (.nm 4) .tnil))) (.zip (.var 1) (.var 0)) (.seq (.ite (.cmp .isnot (.var 3) (.lit .none)) (.seq (.ite (.cmp .is_ (.var 4) (.lit .none)) (.seq (.ret (.lit .none))
  .nil) .nil)
  (.seq (.asg (.nm 2) (.ite (.or (.cmp .is_ (.var 2) (.lit .none)) (.cmp .lt (.bin .sub (.var 4) (.var 3)) (.var 2))) (.bin .sub (.var 4) (.var 3)) (.var 2)))
  .nil)) .nil)
  (.seq (.kill 3)
  (.seq (.kill 4)
  .nil))))
  (.seq (.ret (.var 2))
  .nil)))
def f_share : List D → M D := fn 5 B_share
def B__law_taken : S :=
  (.seq (.ite (.cmp .gt (.rowAt 0 3) (.lit (.int 0))) (.seq (.asg (.nm 2) (.bin .mod (.b1 .int (.rowAt 0 3)) (.var 1)))
  (.seq (.rowSet 0 3 (.bin .fdiv (.rowAt 0 3) (.var 1)))
  (.seq (.ret (.var 2))
  .nil))) .nil)
  (.seq (.rowSet 0 1 (.bin .add (.rowAt 0 1) (.lit (.int 1))))
  (.seq (.ite (.cmp .gt (.rowAt 0 1) (.scrLen 0)) (.seq (.rowSet 0 2 (.bin .mod (.b1 .int (.bin .add (.bin .mul (.rowAt 0 2) (.lit (.int 48271))) (.lit (.int 11)))) (.lit (.int 2147483647))))
  (.seq (.ret (.bin .mod (.b1 .int (.bin .fdiv (.rowAt 0 2) (.lit (.int 7)))) (.var 1)))
  .nil)) .nil)
  (.seq (.asg (.nm 3) (.scrAt 0 (.bin .sub (.rowAt 0 1) (.lit (.int 1)))))
  (.seq (.rowSet 0 2 (.bin .mod (.b1 .int (.bin .add (.bin .add (.bin .mul (.rowAt 0 2) (.lit (.int 48271))) (.var 3)) (.lit (.int 11)))) (.lit (.int 2147483647))))
  (.seq (.ite (.cmp .ge (.var 3) (.bin .pow (.lit (.int 10)) (.lit (.int 18)))) (.seq (.rowSet 0 3 (.bin .fdiv (.var 3) (.var 1)))
  .nil) .nil)
  (.seq (.ret (.bin .mod (.b1 .int (.var 3)) (.var 1)))
  .nil)))))))
def f__law_taken : List D → M D := fnR 3 B__law_taken
def B__law_later : S :=
  (.seq (.ite (.or (.cmp .is_ (.var 0) (.lit .none)) (.cmp .is_ (.var 1) (.lit .none))) (.seq (.ret (.ite (.cmp .is_ (.var 0) (.lit .none)) (.var 1) (.var 0)))
  .nil) .nil)
  (.seq (.ret (.b2 .max2 (.var 0) (.var 1)))
  .nil))
def f__law_later : List D → M D := fn 2 B__law_later
def B__law_by : S :=
  (.seq (.ret (.or (.cmp .is_ (.var 0) (.lit .none)) (.and (.cmp .isnot (.var 1) (.lit .none)) (.cmp .le (.var 0) (.var 1)))))
  .nil)
def f__law_by : List D → M D := fn 2 B__law_by
def B__law_shift : S :=
  (.seq (.ret (.b1 .tuple (.comp (.ite (.cmp .is_ (.var 2) (.lit .none)) (.var 2) (.bin .add (.var 2) (.var 1))) (.nm 2) (.var 0) (.lit (.bool true)))))
  .nil)
def f__law_shift : List D → M D := fn 3 B__law_shift
def B__law_key : S :=
  (.seq (.ret (.comp (.ite (.cmp .is_ (.var 1) (.lit .none)) (.tup (.cons (.lit (.int 0)) (.cons (.lit (.int 0)) .nil))) (.tup (.cons (.lit (.int 1)) (.cons (.var 1) .nil)))) (.nm 1) (.var 0) (.lit (.bool true))))
  .nil)
def f__law_key : List D → M D := fn 2 B__law_key
def B__law_share : S :=
  (.seq (.asg (.nm 2) (.lit .none))
  (.seq (.for_ (.nm 3) (.range1 (.b1 .len (.var 1))) (.seq (.ite (.cmp .isnot (.ix (.var 0) (.var 3)) (.lit .none)) (.seq (.ite (.cmp .is_ (.ix (.var 1) (.var 3)) (.lit .none)) (.seq (.ret (.lit .none))
  .nil) .nil)
  (.seq (.asg (.nm 2) (.ite (.cmp .is_ (.var 2) (.lit .none)) (.bin .sub (.ix (.var 1) (.var 3)) (.ix (.var 0) (.var 3))) (.b2 .min2 (.var 2) (.bin .sub (.ix (.var 1) (.var 3)) (.ix (.var 0) (.var 3))))))
  .nil)) .nil)
  (.seq (.kill 3)
  .nil)))
  (.seq (.ret (.var 2))
  .nil)))
def f__law_share : List D → M D := fn 4 B__law_share
def B__law_grid : S :=
  (.seq (.asg (.nm 2) (.list (.cons (.tup .nil) .nil)))
  (.seq (.for_ (.nm 3) (.range1 (.var 0)) (.seq (.asg (.nm 4) (.list .nil))
  (.seq (.for_ (.nm 5) (.var 2) (.seq (.asg (.nm 4) (.bin .add (.var 4) (.comp (.bin .add (.var 5) (.tup (.cons (.var 6) .nil))) (.nm 6) (.bin .add (.list (.cons (.lit .none) .nil)) (.listR2 (.bin .sub (.lit (.int 0)) (.var 1)) (.lit (.int 1)))) (.lit (.bool true)))))
  (.seq (.kill 5)
  .nil)))
  (.seq (.asg (.nm 2) (.var 4))
  (.seq (.kill 3)
  (.seq (.kill 4)
  (.seq (.kill 5)
  .nil)))))))
  (.seq (.ret (.comp (.var 5) (.nm 5) (.var 2) (.cmp .in_ (.lit (.int 0)) (.var 5))))
  .nil)))
def f__law_grid : List D → M D := fn 7 B__law_grid
def B_is_lag : S :=
  (.seq (.ret (.or (.cmp .is_ (.var 0) (.lit .none)) (.and (.call "is_int" 1 f_is_int (.cons (.var 0) .nil)) (.chain .le .le (.neg (.glob "MOST_LAG" (.int 1000))) (.var 0) (.glob "MOST_LAG" (.int 1000))))))
  .nil)
def f_is_lag : List D → M D := fn 1 B_is_lag
def B_latest_of : S :=
  (.seq (.asg (.nm 1) (.lit .none))
  (.seq (.for_ (.nm 2) (.var 0) (.seq (.asg (.nm 1) (.call "later" 2 f_later (.cons (.var 1) (.cons (.var 2) .nil))))
  (.seq (.kill 2)
  .nil)))
  (.seq (.ret (.var 1))
  .nil)))
def f_latest_of : List D → M D := fn 3 B_latest_of
def B_both_of : S :=
  (.seq (.ret (.b1 .tuple (.comp (.call "later" 2 f_later (.cons (.var 2) (.cons (.var 3) .nil))) (.tup (.tcons (.nm 2) (.tcons (.nm 3) .tnil))) (.zip (.var 0) (.var 1)) (.lit (.bool true)))))
  .nil)
def f_both_of : List D → M D := fn 4 B_both_of
def B_shift_of : S :=
  (.seq (.ret (.b1 .tuple (.comp (.call "added" 2 f_added (.cons (.var 2) (.cons (.var 1) .nil))) (.nm 2) (.var 0) (.lit (.bool true)))))
  .nil)
def f_shift_of : List D → M D := fn 3 B_shift_of
def B_shares_of : S :=
  (.seq (.ret (.comp (.call "share" 2 f_share (.cons (.var 1) (.cons (.var 2) .nil))) (.nm 2) (.var 0) (.lit (.bool true))))
  .nil)
def f_shares_of : List D → M D := fn 3 B_shares_of
def B__law_sum : S :=
  (.seq (.asg (.nm 2) (.lit .none))
  (.seq (.for_ (.nm 3) (.range1 (.b1 .len (.var 0))) (.seq (.ite (.and (.cmp .isnot (.ix (.var 0) (.var 3)) (.lit .none)) (.cmp .isnot (.ix (.var 1) (.var 3)) (.lit .none))) (.seq (.asg (.nm 2) (.call "_law_later" 2 f__law_later (.cons (.var 2) (.cons (.bin .add (.ix (.var 0) (.var 3)) (.ix (.var 1) (.var 3))) .nil))))
  .nil) .nil)
  (.seq (.kill 3)
  .nil)))
  (.seq (.ret (.var 2))
  .nil)))
def f__law_sum : List D → M D := fn 4 B__law_sum
def B__law_row : S :=
  (.seq (.newL 4 (.list .nil))
  (.seq (.for_ (.nm 5) (.range1 (.var 1)) (.seq (.app 4 (.ite (.cmp .eq (.callR "_law_taken" 1 f__law_taken 0 (.cons (.var 3) .nil)) (.lit (.int 0))) (.lit .none) (.bin .sub (.callR "_law_taken" 1 f__law_taken 0 (.cons (.bin .add (.bin .mul (.lit (.int 2)) (.var 2)) (.lit (.int 1))) .nil)) (.var 2))))
  (.seq (.kill 5)
  .nil)))
  (.seq (.ret (.b1 .tuple (.own 4)))
  .nil)))
def f__law_row : List D → M D := fnR 5 B__law_row
def B__law_both : S :=
  (.seq (.ret (.b1 .tuple (.comp (.call "_law_later" 2 f__law_later (.cons (.ix (.var 0) (.var 2)) (.cons (.ix (.var 1) (.var 2)) .nil))) (.nm 2) (.range1 (.b1 .len (.var 0))) (.lit (.bool true)))))
  .nil)
def f__law_both : List D → M D := fn 3 B__law_both
def B__law_norm : S :=
  (.seq (.asg (.nm 1) (.comp (.var 2) (.nm 2) (.var 0) (.cmp .isnot (.var 2) (.lit .none))))
  (.seq (.ret (.ite (.cmp .ne (.var 1) (.list .nil)) (.call "_law_shift" 2 f__law_shift (.cons (.var 0) (.cons (.bin .sub (.lit (.int 0)) (.b1 .max (.var 1))) .nil))) (.var 0)))
  .nil))
def f__law_norm : List D → M D := fn 3 B__law_norm
def B__law_order : S :=
  (.seq (.asg (.nm 1) (.list .nil))
  (.seq (.for_ (.nm 2) (.var 0) (.seq (.asg (.nm 3) (.b1 .len (.comp (.lit (.int 1)) (.nm 4) (.var 1) (.cmp .lt (.call "_law_key" 1 f__law_key (.cons (.var 4) .nil)) (.call "_law_key" 1 f__law_key (.cons (.var 2) .nil))))))
  (.seq (.asg (.nm 1) (.bin .add (.bin .add (.slice (.var 1) .nil (.var 3)) (.list (.cons (.var 2) .nil))) (.slice (.var 1) (.var 3) .nil)))
  (.seq (.kill 2)
  (.seq (.kill 3)
  .nil)))))
  (.seq (.ret (.var 1))
  .nil)))
def f__law_order : List D → M D := fn 5 B__law_order
def B_is_row : S :=
  (.seq (.ret (.and (.isI (.var 0) .tup) (.and (.cmp .eq (.b1 .len (.var 0)) (.var 1)) (.b1 .all (.comp (.call "is_lag" 1 f_is_lag (.cons (.var 2) .nil)) (.nm 2) (.var 0) (.lit (.bool true)))))))
  .nil)
def f_is_row : List D → M D := fn 3 B_is_row
def B_sum_of : S :=
  (.seq (.ret (.call "latest_of" 1 f_latest_of (.cons (.comp (.call "added" 2 f_added (.cons (.var 2) (.cons (.var 3) .nil))) (.tup (.tcons (.nm 2) (.tcons (.nm 3) .tnil))) (.zip (.var 0) (.var 1)) (.lit (.bool true))) .nil)))
  .nil)
def f_sum_of : List D → M D := fn 4 B_sum_of
def B_norm : S :=
  (.seq (.asg (.nm 1) (.call "latest_of" 1 f_latest_of (.cons (.var 0) .nil)))
  (.seq (.ret (.ite (.cmp .is_ (.var 1) (.lit .none)) (.var 0) (.call "shift_of" 2 f_shift_of (.cons (.var 0) (.cons (.neg (.var 1)) .nil)))))
  .nil))
def f_norm : List D → M D := fn 2 B_norm
def B_made_of : S :=
  (.seq (.asg (.nm 2) (.bin .mul (.tup (.cons (.lit .none) .nil)) (.b1 .len (.var 1))))
  (.seq (.for_ (.tup (.tcons (.nm 3) (.tcons (.nm 4) .tnil))) (.zip (.var 0) (.call "shares_of" 2 f_shares_of (.cons (.var 0) (.cons (.var 1) .nil)))) (.seq (.ite (.cmp .isnot (.var 4) (.lit .none)) (.seq (.asg (.nm 2) (.call "both_of" 2 f_both_of (.cons (.var 2) (.cons (.call "shift_of" 2 f_shift_of (.cons (.var 3) (.cons (.var 4) .nil))) .nil))))
  .nil) .nil)
  (.seq (.kill 3)
  (.seq (.kill 4)
  .nil))))
  (.seq (.ret (.var 2))
  .nil)))
def f_made_of : List D → M D := fn 5 B_made_of
def B__law_task : S :=
  (.seq (.asg (.nm 4) (.bin .add (.lit (.int 1)) (.callR "_law_taken" 1 f__law_taken 0 (.cons (.var 1) .nil))))
  (.seq (.newL 5 (.list .nil))
  (.seq (.for_ (.nm 6) (.range1 (.callR "_law_taken" 1 f__law_taken 0 (.cons (.bin .add (.var 2) (.lit (.int 1))) .nil))) (.seq (.app 5 (.tup (.cons (.callR "_law_row" 3 f__law_row 0 (.cons (.var 4) (.cons (.var 3) (.cons (.lit (.int 2)) .nil)))) (.cons (.callR "_law_row" 3 f__law_row 0 (.cons (.var 4) (.cons (.var 3) (.cons (.lit (.int 3)) .nil)))) .nil))))
  (.seq (.kill 6)
  .nil)))
  (.seq (.ret (.tup (.cons (.var 4) (.cons (.b1 .tuple (.own 5)) .nil))))
  .nil))))
def f__law_task : List D → M D := fnR 6 B__law_task
def B__law_keeps : S :=
  (.seq (.ret (.cmp .eq (.comp (.lit (.int 1)) (.tup (.tcons (.nm 2) (.tcons (.nm 3) .tnil))) (.var 0) (.not (.call "_law_by" 2 f__law_by (.cons (.call "_law_sum" 2 f__law_sum (.cons (.var 2) (.cons (.var 1) .nil))) (.cons (.call "_law_sum" 2 f__law_sum (.cons (.var 3) (.cons (.var 1) .nil))) .nil))))) (.list .nil)))
  .nil)
def f__law_keeps : List D → M D := fn 4 B__law_keeps
def B__law_made : S :=
  (.seq (.asg (.nm 2) (.bin .mul (.tup (.cons (.lit .none) .nil)) (.b1 .len (.var 1))))
  (.seq (.for_ (.nm 3) (.var 0) (.seq (.asg (.nm 4) (.call "_law_share" 2 f__law_share (.cons (.var 3) (.cons (.var 1) .nil))))
  (.seq (.ite (.cmp .isnot (.var 4) (.lit .none)) (.seq (.asg (.nm 2) (.call "_law_both" 2 f__law_both (.cons (.var 2) (.cons (.call "_law_shift" 2 f__law_shift (.cons (.var 3) (.cons (.var 4) .nil))) .nil))))
  .nil) .nil)
  (.seq (.kill 3)
  (.seq (.kill 4)
  .nil)))))
  (.seq (.ret (.var 2))
  .nil)))
def f__law_made : List D → M D := fn 5 B__law_made
def B_is_pair : S :=
  (.seq (.ret (.and (.isI (.var 0) .tup) (.and (.cmp .eq (.b1 .len (.var 0)) (.lit (.int 2))) (.b1 .all (.comp (.call "is_row" 2 f_is_row (.cons (.var 2) (.cons (.var 1) .nil))) (.nm 2) (.var 0) (.lit (.bool true)))))))
  .nil)
def f_is_pair : List D → M D := fn 3 B_is_pair
def B_outmost_of : S :=
  (.seq (.newL 1 (.list .nil))
  (.seq (.for_ (.nm 2) (.var 0) (.seq (.ite (.and (.cmp .notin (.call "norm" 1 f_norm (.cons (.var 2) .nil)) (.own 1)) (.cmp .isnot (.call "latest_of" 1 f_latest_of (.cons (.var 2) .nil)) (.lit .none))) (.seq (.app 1 (.call "norm" 1 f_norm (.cons (.var 2) .nil)))
  .nil) .nil)
  (.seq (.kill 2)
  .nil)))
  (.seq (.asg (.nm 1) (.sortK "key_of" f_key_of (.own 1)))
  (.seq (.for_ (.nm 2) (.b1 .list (.var 1)) (.seq (.asg (.nm 3) (.comp (.var 4) (.nm 4) (.var 1) (.cmp .ne (.var 4) (.var 2))))
  (.seq (.ite (.cmp .eq (.call "made_of" 2 f_made_of (.cons (.var 3) (.cons (.var 2) .nil))) (.var 2)) (.seq (.asg (.nm 1) (.var 3))
  .nil) .nil)
  (.seq (.kill 2)
  (.seq (.kill 3)
  .nil)))))
  (.seq (.ret (.var 1))
  .nil)))))
def f_outmost_of : List D → M D := fn 5 B_outmost_of
def B_unit_rows : S :=
  (.seq (.ret (.sortK "key_of" f_key_of (.comp (.b1 .tuple (.comp (.ite (.cmp .eq (.var 2) (.var 1)) (.lit (.int 0)) (.lit .none)) (.nm 2) (.range1 (.var 0)) (.lit (.bool true)))) (.nm 1) (.range1 (.var 0)) (.lit (.bool true)))))
  .nil)
def f_unit_rows : List D → M D := fn 3 B_unit_rows
def B_need_task : S :=
  (.seq (.ite (.or (.not (.isI (.var 0) .tup)) (.or (.cmp .ne (.b1 .len (.var 0)) (.lit (.int 2))) (.or (.not (.call "is_int" 1 f_is_int (.cons (.ix (.var 0) (.lit (.int 0))) .nil))) (.not (.chain .le .le (.lit (.int 1)) (.ix (.var 0) (.lit (.int 0))) (.glob "MOST_WIDE" (.int 6))))))) (.seq .stuck
  .nil) .nil)
  (.seq (.asg (.tup (.tcons (.nm 1) (.tcons (.nm 2) .tnil))) (.var 0))
  (.seq (.ite (.or (.not (.isI (.var 2) .tup)) (.cmp .gt (.b1 .len (.var 2)) (.glob "MOST_ROWS" (.int 6)))) (.seq .stuck
  .nil) .nil)
  (.seq (.for_ (.tup (.tcons (.nm 3) (.tcons (.nm 4) .tnil))) (.enum (.var 2)) (.seq (.ite (.not (.call "is_pair" 2 f_is_pair (.cons (.var 4) (.cons (.var 1) .nil)))) (.seq .stuck
  .nil) .nil)
  (.seq (.kill 3)
  (.seq (.kill 4)
  .nil))))
  .nil))))
def f_need_task : List D → M D := fn 5 B_need_task
def B_with_pair : S :=
  (.seq (.asg (.tup (.tcons (.nm 2) (.tcons (.nm 3) .tnil))) (.var 1))
  (.seq (.asg (.nm 4) (.comp (.var 7) (.nm 7) (.var 0) (.call "is_by" 2 f_is_by (.cons (.call "sum_of" 2 f_sum_of (.cons (.var 2) (.cons (.var 7) .nil))) (.cons (.call "sum_of" 2 f_sum_of (.cons (.var 3) (.cons (.var 7) .nil))) .nil)))))
  (.seq (.asg (.nm 5) (.comp (.var 7) (.nm 7) (.var 0) (.not (.call "is_by" 2 f_is_by (.cons (.call "sum_of" 2 f_sum_of (.cons (.var 2) (.cons (.var 7) .nil))) (.cons (.call "sum_of" 2 f_sum_of (.cons (.var 3) (.cons (.var 7) .nil))) .nil))))))
  (.seq (.newL 6 (.b1 .list (.var 4)))
  (.seq (.for_ (.nm 7) (.var 4) (.seq (.asg (.nm 8) (.call "sum_of" 2 f_sum_of (.cons (.var 3) (.cons (.var 7) .nil))))
  (.seq (.ite (.cmp .isnot (.var 8) (.lit .none)) (.seq (.ext 6 (.comp (.call "both_of" 2 f_both_of (.cons (.call "shift_of" 2 f_shift_of (.cons (.var 7) (.cons (.call "sum_of" 2 f_sum_of (.cons (.var 2) (.cons (.var 9) .nil))) .nil))) (.cons (.call "shift_of" 2 f_shift_of (.cons (.var 9) (.cons (.var 8) .nil))) .nil))) (.nm 9) (.var 5) (.lit (.bool true))))
  .nil) .nil)
  (.seq (.kill 7)
  (.seq (.kill 8)
  .nil)))))
  (.seq (.frz 6)
  (.seq (.ret (.call "outmost_of" 1 f_outmost_of (.cons (.var 6) .nil)))
  .nil)))))))
def f_with_pair : List D → M D := fn 10 B_with_pair
def B_outmost_members_of : S :=
  (.seq (.asg (.nm 1) (.call "unit_rows" 1 f_unit_rows (.cons (.ix (.var 0) (.lit (.int 0))) .nil)))
  (.seq (.for_ (.nm 2) (.ix (.var 0) (.lit (.int 1))) (.seq (.asg (.nm 1) (.call "with_pair" 2 f_with_pair (.cons (.var 1) (.cons (.var 2) .nil))))
  (.seq (.kill 2)
  .nil)))
  (.seq (.ret (.var 1))
  .nil)))
def f_outmost_members_of : List D → M D := fn 3 B_outmost_members_of
def B_outmost_members : S :=
  (.seq (.expr (.call "need_task" 1 f_need_task (.cons (.var 0) .nil)))
  (.seq (.ret (.call "outmost_members_of" 1 f_outmost_members_of (.cons (.var 0) .nil)))
  .nil))
def f_outmost_members : List D → M D := fn 1 B_outmost_members
def B_law : S :=
  (.seq (.asg (.tup (.tcons (.nm 2) (.tcons (.nm 3) .tnil))) (.callR "_law_task" 3 f__law_task 1 (.cons (.lit (.int 3)) (.cons (.lit (.int 3)) (.cons (.lit (.int 2)) .nil)))))
  (.seq (.asg (.nm 4) (.call "outmost_members" 1 f_outmost_members (.cons (.tup (.cons (.var 2) (.cons (.var 3) .nil))) .nil)))
  (.seq (.ite (.or (.cmp .ne (.var 4) (.call "_law_order" 1 f__law_order (.cons (.var 4) .nil))) (.not (.isI (.var 4) .lst))) (.seq (.ret (.lit (.bool false)))
  .nil) .nil)
  (.seq (.for_ (.nm 5) (.range1 (.b1 .len (.var 4))) (.seq (.ite (.or (.cmp .ne (.ix (.var 4) (.var 5)) (.call "_law_norm" 1 f__law_norm (.cons (.ix (.var 4) (.var 5)) .nil))) (.or (.not (.call "_law_keeps" 2 f__law_keeps (.cons (.var 3) (.cons (.ix (.var 4) (.var 5)) .nil)))) (.bare false (.ix (.var 4) (.var 5))))) (.seq (.ret (.lit (.bool false)))
  .nil) .nil)
  (.seq (.ite (.cmp .eq (.call "_law_made" 2 f__law_made (.cons (.bin .add (.slice (.var 4) .nil (.var 5)) (.slice (.var 4) (.bin .add (.var 5) (.lit (.int 1))) .nil)) (.cons (.ix (.var 4) (.var 5)) .nil))) (.ix (.var 4) (.var 5))) (.seq (.ret (.lit (.bool false)))
  .nil) .nil)
  (.seq (.kill 5)
  .nil))))
  (.seq (.for_ (.nm 6) (.call "_law_grid" 2 f__law_grid (.cons (.var 2) (.cons (.ite (.cmp .lt (.var 2) (.lit (.int 3))) (.lit (.int 9)) (.lit (.int 5))) .nil))) (.seq (.ite (.cmp .ne (.call "_law_keeps" 2 f__law_keeps (.cons (.var 3) (.cons (.var 6) .nil))) (.cmp .eq (.call "_law_made" 2 f__law_made (.cons (.var 4) (.cons (.var 6) .nil))) (.var 6))) (.seq (.ret (.lit (.bool false)))
  .nil) .nil)
  (.seq (.kill 6)
  .nil)))
  (.seq (.asg (.nm 7) (.callR "_law_row" 3 f__law_row 1 (.cons (.var 2) (.cons (.lit (.int 30)) (.cons (.lit (.int 4)) .nil)))))
  (.seq (.ret (.cmp .eq (.call "_law_keeps" 2 f__law_keeps (.cons (.var 3) (.cons (.var 7) .nil))) (.cmp .eq (.call "_law_made" 2 f__law_made (.cons (.var 4) (.cons (.var 7) .nil))) (.var 7))))
  .nil)))))))

section
variable {P : Program} {wd : World} {K : PySem.W.Frag} {mg : Str → Option Value} {base : Heap}
structure Tops (K : PySem.W.Frag) (mg : Str → Option Value) : Prop where
  bn : ∀ n ∈ bnames, mg (Str.ofString n) = none
  g_MOST_LAG : ∃ v u, scalarV (.int 1000) = some v ∧ mg "MOST_LAG" = some u ∧ RelV v u
  g_MOST_ROWS : ∃ v u, scalarV (.int 6) = some v ∧ mg "MOST_ROWS" = some u ∧ RelV v u
  g_MOST_WIDE : ∃ v u, scalarV (.int 6) = some v ∧ mg "MOST_WIDE" = some u ∧ RelV v u
  t_is_int : TopFn K mg "is_int" (topS 6) ["value"]
  t_later : TopFn K mg "later" (topS 9) ["one", "other"]
  t_added : TopFn K mg "added" (topS 10) ["one", "other"]
  t_is_by : TopFn K mg "is_by" (topS 11) ["one", "other"]
  t_key_of : TopFn K mg "key_of" (topS 16) ["row"]
  t_share : TopFn K mg "share" (topS 23) ["row", "told"]
  t__law_taken : TopFn K mg "_law_taken" (topS 32) ["row", "many"]
  t__law_later : TopFn K mg "_law_later" (topS 33) ["one", "other"]
  t__law_by : TopFn K mg "_law_by" (topS 35) ["one", "other"]
  t__law_shift : TopFn K mg "_law_shift" (topS 39) ["given", "lag"]
  t__law_key : TopFn K mg "_law_key" (topS 42) ["given"]
  t__law_share : TopFn K mg "_law_share" (topS 43) ["told", "given"]
  t__law_grid : TopFn K mg "_law_grid" (topS 45) ["wide", "size"]
  t_is_lag : TopFn K mg "is_lag" (topS 7) ["value"]
  t_latest_of : TopFn K mg "latest_of" (topS 12) ["some"]
  t_both_of : TopFn K mg "both_of" (topS 14) ["one", "other"]
  t_shift_of : TopFn K mg "shift_of" (topS 15) ["row", "lag"]
  t_shares_of : TopFn K mg "shares_of" (topS 24) ["some", "row"]
  t__law_sum : TopFn K mg "_law_sum" (topS 34) ["given", "times"]
  t__law_row : TopFn K mg "_law_row" (topS 36) ["row", "wide", "size", "never"]
  t__law_both : TopFn K mg "_law_both" (topS 40) ["one", "other"]
  t__law_norm : TopFn K mg "_law_norm" (topS 41) ["given"]
  t__law_order : TopFn K mg "_law_order" (topS 46) ["some"]
  t_is_row : TopFn K mg "is_row" (topS 8) ["value", "wide"]
  t_sum_of : TopFn K mg "sum_of" (topS 13) ["row", "times"]
  t_norm : TopFn K mg "norm" (topS 22) ["row"]
  t_made_of : TopFn K mg "made_of" (topS 25) ["some", "row"]
  t__law_task : TopFn K mg "_law_task" (topS 37) ["row", "columns", "pairs", "size"]
  t__law_keeps : TopFn K mg "_law_keeps" (topS 38) ["pairs", "times"]
  t__law_made : TopFn K mg "_law_made" (topS 44) ["some", "given"]
  t_is_pair : TopFn K mg "is_pair" (topS 20) ["value", "wide"]
  t_outmost_of : TopFn K mg "outmost_of" (topS 26) ["some"]
  t_unit_rows : TopFn K mg "unit_rows" (topS 28) ["wide"]
  t_need_task : TopFn K mg "need_task" (topS 19) ["value"]
  t_with_pair : TopFn K mg "with_pair" (topS 27) ["some", "pair"]
  t_outmost_members_of : TopFn K mg "outmost_members_of" (topS 29) ["task"]
  t_outmost_members : TopFn K mg "outmost_members" (topS 30) ["task"]
theorem sc_is_int : FnScope ["value"] ["value"] (defScope (topS 6)) := C8.fnScope_by (by decide +kernel)
theorem ck_is_int : chkS B_is_int ⟨["value"], defScope (topS 6), fun _ => true⟩ (.l (defBody (topS 6))) = true := by with_unfolding_all rfl
theorem sc_later : FnScope ["one", "other"] ["one", "other"] (defScope (topS 9)) := C8.fnScope_by (by decide +kernel)
theorem ck_later : chkS B_later ⟨["one", "other"], defScope (topS 9), fun _ => true⟩ (.l (defBody (topS 9))) = true := by with_unfolding_all rfl
theorem sc_added : FnScope ["one", "other"] ["one", "other"] (defScope (topS 10)) := C8.fnScope_by (by decide +kernel)
theorem ck_added : chkS B_added ⟨["one", "other"], defScope (topS 10), fun _ => true⟩ (.l (defBody (topS 10))) = true := by with_unfolding_all rfl
theorem sc_is_by : FnScope ["one", "other"] ["one", "other"] (defScope (topS 11)) := C8.fnScope_by (by decide +kernel)
theorem ck_is_by : chkS B_is_by ⟨["one", "other"], defScope (topS 11), fun _ => true⟩ (.l (defBody (topS 11))) = true := by with_unfolding_all rfl
theorem sc_key_of : FnScope ["row", "one"] ["row"] (defScope (topS 16)) := C8.fnScope_by (by decide +kernel)
theorem ck_key_of : chkS B_key_of ⟨["row", "one"], defScope (topS 16), fun _ => true⟩ (.l (defBody (topS 16))) = true := by with_unfolding_all rfl
theorem sc_share : FnScope ["row", "told", "found", "lag", "one"] ["row", "told"] (defScope (topS 23)) := C8.fnScope_by (by decide +kernel)
theorem ck_share : chkS B_share ⟨["row", "told", "found", "lag", "one"], defScope (topS 23), fun _ => true⟩ (.l (defBody (topS 23))) = true := by with_unfolding_all rfl
theorem sc__law_taken : FnScope ["row", "many", "found", "cell"] ["row", "many"] (defScope (topS 32)) := C8.fnScope_by (by decide +kernel)
theorem ck__law_taken : chkS B__law_taken ⟨["row", "many", "found", "cell"], defScope (topS 32), fun _ => true⟩ (.l (defBody (topS 32))) = true := by with_unfolding_all rfl
theorem sc__law_later : FnScope ["one", "other"] ["one", "other"] (defScope (topS 33)) := C8.fnScope_by (by decide +kernel)
theorem ck__law_later : chkS B__law_later ⟨["one", "other"], defScope (topS 33), fun _ => true⟩ (.l (defBody (topS 33))) = true := by with_unfolding_all rfl
theorem sc__law_by : FnScope ["one", "other"] ["one", "other"] (defScope (topS 35)) := C8.fnScope_by (by decide +kernel)
theorem ck__law_by : chkS B__law_by ⟨["one", "other"], defScope (topS 35), fun _ => true⟩ (.l (defBody (topS 35))) = true := by with_unfolding_all rfl
theorem sc__law_shift : FnScope ["given", "lag", "one"] ["given", "lag"] (defScope (topS 39)) := C8.fnScope_by (by decide +kernel)
theorem ck__law_shift : chkS B__law_shift ⟨["given", "lag", "one"], defScope (topS 39), fun _ => true⟩ (.l (defBody (topS 39))) = true := by with_unfolding_all rfl
theorem sc__law_key : FnScope ["given", "one"] ["given"] (defScope (topS 42)) := C8.fnScope_by (by decide +kernel)
theorem ck__law_key : chkS B__law_key ⟨["given", "one"], defScope (topS 42), fun _ => true⟩ (.l (defBody (topS 42))) = true := by with_unfolding_all rfl
theorem sc__law_share : FnScope ["told", "given", "found", "at"] ["told", "given"] (defScope (topS 43)) := C8.fnScope_by (by decide +kernel)
theorem ck__law_share : chkS B__law_share ⟨["told", "given", "found", "at"], defScope (topS 43), fun _ => true⟩ (.l (defBody (topS 43))) = true := by with_unfolding_all rfl
theorem sc__law_grid : FnScope ["wide", "size", "found", "turn", "later_v", "told", "one"] ["wide", "size"] (defScope (topS 45)) := C8.fnScope_by (by decide +kernel)
theorem ck__law_grid : chkS B__law_grid ⟨["wide", "size", "found", "turn", "later_v", "told", "one"], defScope (topS 45), fun _ => true⟩ (.l (defBody (topS 45))) = true := by with_unfolding_all rfl
theorem sc_is_lag : FnScope ["value"] ["value"] (defScope (topS 7)) := C8.fnScope_by (by decide +kernel)
theorem ck_is_lag : chkS B_is_lag ⟨["value"], defScope (topS 7), fun _ => true⟩ (.l (defBody (topS 7))) = true := by with_unfolding_all rfl
theorem sc_latest_of : FnScope ["some", "found", "one"] ["some"] (defScope (topS 12)) := C8.fnScope_by (by decide +kernel)
theorem ck_latest_of : chkS B_latest_of ⟨["some", "found", "one"], defScope (topS 12), fun _ => true⟩ (.l (defBody (topS 12))) = true := by with_unfolding_all rfl
theorem sc_both_of : FnScope ["one", "other", "a", "b"] ["one", "other"] (defScope (topS 14)) := C8.fnScope_by (by decide +kernel)
theorem ck_both_of : chkS B_both_of ⟨["one", "other", "a", "b"], defScope (topS 14), fun _ => true⟩ (.l (defBody (topS 14))) = true := by with_unfolding_all rfl
theorem sc_shift_of : FnScope ["row", "lag", "one"] ["row", "lag"] (defScope (topS 15)) := C8.fnScope_by (by decide +kernel)
theorem ck_shift_of : chkS B_shift_of ⟨["row", "lag", "one"], defScope (topS 15), fun _ => true⟩ (.l (defBody (topS 15))) = true := by with_unfolding_all rfl
theorem sc_shares_of : FnScope ["some", "row", "told"] ["some", "row"] (defScope (topS 24)) := C8.fnScope_by (by decide +kernel)
theorem ck_shares_of : chkS B_shares_of ⟨["some", "row", "told"], defScope (topS 24), fun _ => true⟩ (.l (defBody (topS 24))) = true := by with_unfolding_all rfl
theorem sc__law_sum : FnScope ["given", "times", "found", "at"] ["given", "times"] (defScope (topS 34)) := C8.fnScope_by (by decide +kernel)
theorem ck__law_sum : chkS B__law_sum ⟨["given", "times", "found", "at"], defScope (topS 34), fun _ => true⟩ (.l (defBody (topS 34))) = true := by with_unfolding_all rfl
theorem sc__law_row : FnScope ["row", "wide", "size", "never", "found", "at"] ["row", "wide", "size", "never"] (defScope (topS 36)) := C8.fnScope_by (by decide +kernel)
theorem ck__law_row : chkS B__law_row ⟨["row", "wide", "size", "never", "found", "at"], defScope (topS 36), fun _ => true⟩ (.l (defBody (topS 36))) = true := by with_unfolding_all rfl
theorem sc__law_both : FnScope ["one", "other", "at"] ["one", "other"] (defScope (topS 40)) := C8.fnScope_by (by decide +kernel)
theorem ck__law_both : chkS B__law_both ⟨["one", "other", "at"], defScope (topS 40), fun _ => true⟩ (.l (defBody (topS 40))) = true := by with_unfolding_all rfl
theorem sc__law_norm : FnScope ["given", "some", "one"] ["given"] (defScope (topS 41)) := C8.fnScope_by (by decide +kernel)
theorem ck__law_norm : chkS B__law_norm ⟨["given", "some", "one"], defScope (topS 41), fun _ => true⟩ (.l (defBody (topS 41))) = true := by with_unfolding_all rfl
theorem sc__law_order : FnScope ["some", "found", "given", "at", "one"] ["some"] (defScope (topS 46)) := C8.fnScope_by (by decide +kernel)
theorem ck__law_order : chkS B__law_order ⟨["some", "found", "given", "at", "one"], defScope (topS 46), fun _ => true⟩ (.l (defBody (topS 46))) = true := by with_unfolding_all rfl
theorem sc_is_row : FnScope ["value", "wide", "one"] ["value", "wide"] (defScope (topS 8)) := C8.fnScope_by (by decide +kernel)
theorem ck_is_row : chkS B_is_row ⟨["value", "wide", "one"], defScope (topS 8), fun _ => true⟩ (.l (defBody (topS 8))) = true := by with_unfolding_all rfl
theorem sc_sum_of : FnScope ["row", "times", "one", "other"] ["row", "times"] (defScope (topS 13)) := C8.fnScope_by (by decide +kernel)
theorem ck_sum_of : chkS B_sum_of ⟨["row", "times", "one", "other"], defScope (topS 13), fun _ => true⟩ (.l (defBody (topS 13))) = true := by with_unfolding_all rfl
theorem sc_norm : FnScope ["row", "top"] ["row"] (defScope (topS 22)) := C8.fnScope_by (by decide +kernel)
theorem ck_norm : chkS B_norm ⟨["row", "top"], defScope (topS 22), fun _ => true⟩ (.l (defBody (topS 22))) = true := by with_unfolding_all rfl
theorem sc_made_of : FnScope ["some", "row", "found", "told", "lag"] ["some", "row"] (defScope (topS 25)) := C8.fnScope_by (by decide +kernel)
theorem ck_made_of : chkS B_made_of ⟨["some", "row", "found", "told", "lag"], defScope (topS 25), fun _ => true⟩ (.l (defBody (topS 25))) = true := by with_unfolding_all rfl
theorem sc__law_task : FnScope ["row", "columns", "pairs", "size", "wide", "some", "turn"] ["row", "columns", "pairs", "size"] (defScope (topS 37)) := C8.fnScope_by (by decide +kernel)
theorem ck__law_task : chkS B__law_task ⟨["row", "columns", "pairs", "size", "wide", "some", "turn"], defScope (topS 37), fun _ => true⟩ (.l (defBody (topS 37))) = true := by with_unfolding_all rfl
theorem sc__law_keeps : FnScope ["pairs", "times", "a", "b"] ["pairs", "times"] (defScope (topS 38)) := C8.fnScope_by (by decide +kernel)
theorem ck__law_keeps : chkS B__law_keeps ⟨["pairs", "times", "a", "b"], defScope (topS 38), fun _ => true⟩ (.l (defBody (topS 38))) = true := by with_unfolding_all rfl
theorem sc__law_made : FnScope ["some", "given", "found", "told", "lag"] ["some", "given"] (defScope (topS 44)) := C8.fnScope_by (by decide +kernel)
theorem ck__law_made : chkS B__law_made ⟨["some", "given", "found", "told", "lag"], defScope (topS 44), fun _ => true⟩ (.l (defBody (topS 44))) = true := by with_unfolding_all rfl
theorem sc_is_pair : FnScope ["value", "wide", "one"] ["value", "wide"] (defScope (topS 20)) := C8.fnScope_by (by decide +kernel)
theorem ck_is_pair : chkS B_is_pair ⟨["value", "wide", "one"], defScope (topS 20), fun _ => true⟩ (.l (defBody (topS 20))) = true := by with_unfolding_all rfl
theorem sc_outmost_of : FnScope ["some", "left", "row", "rest", "told"] ["some"] (defScope (topS 26)) := C8.fnScope_by (by decide +kernel)
theorem ck_outmost_of : chkS B_outmost_of ⟨["some", "left", "row", "rest", "told"], defScope (topS 26), fun _ => true⟩ (.l (defBody (topS 26))) = true := by with_unfolding_all rfl
theorem sc_unit_rows : FnScope ["wide", "at", "one"] ["wide"] (defScope (topS 28)) := C8.fnScope_by (by decide +kernel)
theorem ck_unit_rows : chkS B_unit_rows ⟨["wide", "at", "one"], defScope (topS 28), fun _ => true⟩ (.l (defBody (topS 28))) = true := by with_unfolding_all rfl
theorem sc_need_task : FnScope ["value", "wide", "pairs", "index", "pair"] ["value"] (defScope (topS 19)) := C8.fnScope_by (by decide +kernel)
theorem ck_need_task : chkS B_need_task ⟨["value", "wide", "pairs", "index", "pair"], defScope (topS 19), fun _ => true⟩ (.l (defBody (topS 19))) = true := by with_unfolding_all rfl
theorem sc_with_pair : FnScope ["some", "pair", "a", "b", "kept", "out", "found", "row", "right", "told"] ["some", "pair"] (defScope (topS 27)) := C8.fnScope_by (by decide +kernel)
theorem ck_with_pair : chkS B_with_pair ⟨["some", "pair", "a", "b", "kept", "out", "found", "row", "right", "told"], defScope (topS 27), fun _ => true⟩ (.l (defBody (topS 27))) = true := by with_unfolding_all rfl
theorem sc_outmost_members_of : FnScope ["task", "some", "pair"] ["task"] (defScope (topS 29)) := C8.fnScope_by (by decide +kernel)
theorem ck_outmost_members_of : chkS B_outmost_members_of ⟨["task", "some", "pair"], defScope (topS 29), fun _ => true⟩ (.l (defBody (topS 29))) = true := by with_unfolding_all rfl
theorem sc_outmost_members : FnScope ["task"] ["task"] (defScope (topS 30)) := C8.fnScope_by (by decide +kernel)
theorem ck_outmost_members : chkS B_outmost_members ⟨["task"], defScope (topS 30), fun _ => true⟩ (.l (defBody (topS 30))) = true := by with_unfolding_all rfl
theorem ok_is_int (T : Tops K mg) : CallOk P wd K mg base 1 "is_int" (spD K 1 f_is_int) :=
  callD T.t_is_int sc_is_int rfl T.bn ck_is_int (fun m hm => absurd hm (List.not_mem_nil))
theorem ok_later (T : Tops K mg) : CallOk P wd K mg base 1 "later" (spD K 2 f_later) :=
  callD T.t_later sc_later rfl T.bn ck_later (fun m hm => absurd hm (List.not_mem_nil))
theorem ok_added (T : Tops K mg) : CallOk P wd K mg base 1 "added" (spD K 2 f_added) :=
  callD T.t_added sc_added rfl T.bn ck_added (fun m hm => absurd hm (List.not_mem_nil))
theorem ok_is_by (T : Tops K mg) : CallOk P wd K mg base 1 "is_by" (spD K 2 f_is_by) :=
  callD T.t_is_by sc_is_by rfl T.bn ck_is_by (fun m hm => absurd hm (List.not_mem_nil))
theorem ok_key_of (T : Tops K mg) : CallOk P wd K mg base 1 "key_of" (spD K 1 f_key_of) :=
  callD T.t_key_of sc_key_of rfl T.bn ck_key_of (fun m hm => absurd hm (List.not_mem_nil))
theorem ok_share (T : Tops K mg) : CallOk P wd K mg base 1 "share" (spD K 2 f_share) :=
  callD T.t_share sc_share rfl T.bn ck_share (fun m hm => absurd hm (List.not_mem_nil))
theorem ok__law_taken (T : Tops K mg) : CallOk P wd K mg base 1 "_law_taken" (spR K 1 f__law_taken) :=
  callDR T.t__law_taken sc__law_taken rfl T.bn ck__law_taken (fun m hm => absurd hm (List.not_mem_nil))
theorem ok__law_later (T : Tops K mg) : CallOk P wd K mg base 1 "_law_later" (spD K 2 f__law_later) :=
  callD T.t__law_later sc__law_later rfl T.bn ck__law_later (fun m hm => absurd hm (List.not_mem_nil))
theorem ok__law_by (T : Tops K mg) : CallOk P wd K mg base 1 "_law_by" (spD K 2 f__law_by) :=
  callD T.t__law_by sc__law_by rfl T.bn ck__law_by (fun m hm => absurd hm (List.not_mem_nil))
theorem ok__law_shift (T : Tops K mg) : CallOk P wd K mg base 1 "_law_shift" (spD K 2 f__law_shift) :=
  callD T.t__law_shift sc__law_shift rfl T.bn ck__law_shift (fun m hm => absurd hm (List.not_mem_nil))
theorem ok__law_key (T : Tops K mg) : CallOk P wd K mg base 1 "_law_key" (spD K 1 f__law_key) :=
  callD T.t__law_key sc__law_key rfl T.bn ck__law_key (fun m hm => absurd hm (List.not_mem_nil))
theorem ok__law_share (T : Tops K mg) : CallOk P wd K mg base 1 "_law_share" (spD K 2 f__law_share) :=
  callD T.t__law_share sc__law_share rfl T.bn ck__law_share (fun m hm => absurd hm (List.not_mem_nil))
theorem ok__law_grid (T : Tops K mg) : CallOk P wd K mg base 1 "_law_grid" (spD K 2 f__law_grid) :=
  callD T.t__law_grid sc__law_grid rfl T.bn ck__law_grid (fun m hm => absurd hm (List.not_mem_nil))
theorem ok_is_lag (T : Tops K mg) : CallOk P wd K mg base 2 "is_lag" (spD K 1 f_is_lag) :=
  callD T.t_is_lag sc_is_lag rfl T.bn ck_is_lag (need_by (Γ := [Need.fn "is_int" 1 f_is_int, Need.gl "MOST_LAG" (.int 1000)]) [0, 1, 1] rfl (fun m hm => by
    simp only [List.mem_cons, List.not_mem_nil, or_false] at hm
    rcases hm with rfl | rfl
    · exact (ok_is_int T).mono (by omega)
    · exact T.g_MOST_LAG))
theorem ok_latest_of (T : Tops K mg) : CallOk P wd K mg base 2 "latest_of" (spD K 1 f_latest_of) :=
  callD T.t_latest_of sc_latest_of rfl T.bn ck_latest_of (need_by (Γ := [Need.fn "later" 2 f_later]) [0] rfl (fun m hm => by
    simp only [List.mem_cons, List.not_mem_nil, or_false] at hm
    rcases hm with rfl
    · exact (ok_later T).mono (by omega)))
theorem ok_both_of (T : Tops K mg) : CallOk P wd K mg base 2 "both_of" (spD K 2 f_both_of) :=
  callD T.t_both_of sc_both_of rfl T.bn ck_both_of (need_by (Γ := [Need.fn "later" 2 f_later]) [0] rfl (fun m hm => by
    simp only [List.mem_cons, List.not_mem_nil, or_false] at hm
    rcases hm with rfl
    · exact (ok_later T).mono (by omega)))
theorem ok_shift_of (T : Tops K mg) : CallOk P wd K mg base 2 "shift_of" (spD K 2 f_shift_of) :=
  callD T.t_shift_of sc_shift_of rfl T.bn ck_shift_of (need_by (Γ := [Need.fn "added" 2 f_added]) [0] rfl (fun m hm => by
    simp only [List.mem_cons, List.not_mem_nil, or_false] at hm
    rcases hm with rfl
    · exact (ok_added T).mono (by omega)))
theorem ok_shares_of (T : Tops K mg) : CallOk P wd K mg base 2 "shares_of" (spD K 2 f_shares_of) :=
  callD T.t_shares_of sc_shares_of rfl T.bn ck_shares_of (need_by (Γ := [Need.fn "share" 2 f_share]) [0] rfl (fun m hm => by
    simp only [List.mem_cons, List.not_mem_nil, or_false] at hm
    rcases hm with rfl
    · exact (ok_share T).mono (by omega)))
theorem ok__law_sum (T : Tops K mg) : CallOk P wd K mg base 2 "_law_sum" (spD K 2 f__law_sum) :=
  callD T.t__law_sum sc__law_sum rfl T.bn ck__law_sum (need_by (Γ := [Need.fn "_law_later" 2 f__law_later]) [0] rfl (fun m hm => by
    simp only [List.mem_cons, List.not_mem_nil, or_false] at hm
    rcases hm with rfl
    · exact (ok__law_later T).mono (by omega)))
theorem ok__law_row (T : Tops K mg) : CallOk P wd K mg base 2 "_law_row" (spR K 3 f__law_row) :=
  callDR T.t__law_row sc__law_row rfl T.bn ck__law_row (need_by (Γ := [Need.fnR "_law_taken" 1 f__law_taken]) [0, 0] rfl (fun m hm => by
    simp only [List.mem_cons, List.not_mem_nil, or_false] at hm
    rcases hm with rfl
    · exact (ok__law_taken T).mono (by omega)))
theorem ok__law_both (T : Tops K mg) : CallOk P wd K mg base 2 "_law_both" (spD K 2 f__law_both) :=
  callD T.t__law_both sc__law_both rfl T.bn ck__law_both (need_by (Γ := [Need.fn "_law_later" 2 f__law_later]) [0] rfl (fun m hm => by
    simp only [List.mem_cons, List.not_mem_nil, or_false] at hm
    rcases hm with rfl
    · exact (ok__law_later T).mono (by omega)))
theorem ok__law_norm (T : Tops K mg) : CallOk P wd K mg base 2 "_law_norm" (spD K 1 f__law_norm) :=
  callD T.t__law_norm sc__law_norm rfl T.bn ck__law_norm (need_by (Γ := [Need.fn "_law_shift" 2 f__law_shift]) [0] rfl (fun m hm => by
    simp only [List.mem_cons, List.not_mem_nil, or_false] at hm
    rcases hm with rfl
    · exact (ok__law_shift T).mono (by omega)))
theorem ok__law_order (T : Tops K mg) : CallOk P wd K mg base 2 "_law_order" (spD K 1 f__law_order) :=
  callD T.t__law_order sc__law_order rfl T.bn ck__law_order (need_by (Γ := [Need.fn "_law_key" 1 f__law_key]) [0, 0] rfl (fun m hm => by
    simp only [List.mem_cons, List.not_mem_nil, or_false] at hm
    rcases hm with rfl
    · exact (ok__law_key T).mono (by omega)))
theorem ok_is_row (T : Tops K mg) : CallOk P wd K mg base 3 "is_row" (spD K 2 f_is_row) :=
  callD T.t_is_row sc_is_row rfl T.bn ck_is_row (need_by (Γ := [Need.fn "is_lag" 1 f_is_lag]) [0] rfl (fun m hm => by
    simp only [List.mem_cons, List.not_mem_nil, or_false] at hm
    rcases hm with rfl
    · exact (ok_is_lag T).mono (by omega)))
theorem ok_sum_of (T : Tops K mg) : CallOk P wd K mg base 3 "sum_of" (spD K 2 f_sum_of) :=
  callD T.t_sum_of sc_sum_of rfl T.bn ck_sum_of (need_by (Γ := [Need.fn "latest_of" 1 f_latest_of, Need.fn "added" 2 f_added]) [0, 1] rfl (fun m hm => by
    simp only [List.mem_cons, List.not_mem_nil, or_false] at hm
    rcases hm with rfl | rfl
    · exact (ok_latest_of T).mono (by omega)
    · exact (ok_added T).mono (by omega)))
theorem ok_norm (T : Tops K mg) : CallOk P wd K mg base 3 "norm" (spD K 1 f_norm) :=
  callD T.t_norm sc_norm rfl T.bn ck_norm (need_by (Γ := [Need.fn "latest_of" 1 f_latest_of, Need.fn "shift_of" 2 f_shift_of]) [0, 1] rfl (fun m hm => by
    simp only [List.mem_cons, List.not_mem_nil, or_false] at hm
    rcases hm with rfl | rfl
    · exact (ok_latest_of T).mono (by omega)
    · exact (ok_shift_of T).mono (by omega)))
theorem ok_made_of (T : Tops K mg) : CallOk P wd K mg base 3 "made_of" (spD K 2 f_made_of) :=
  callD T.t_made_of sc_made_of rfl T.bn ck_made_of (need_by (Γ := [Need.fn "shares_of" 2 f_shares_of, Need.fn "both_of" 2 f_both_of, Need.fn "shift_of" 2 f_shift_of]) [0, 1, 2] rfl (fun m hm => by
    simp only [List.mem_cons, List.not_mem_nil, or_false] at hm
    rcases hm with rfl | rfl | rfl
    · exact (ok_shares_of T).mono (by omega)
    · exact (ok_both_of T).mono (by omega)
    · exact (ok_shift_of T).mono (by omega)))
theorem ok__law_task (T : Tops K mg) : CallOk P wd K mg base 3 "_law_task" (spR K 3 f__law_task) :=
  callDR T.t__law_task sc__law_task rfl T.bn ck__law_task (need_by (Γ := [Need.fnR "_law_taken" 1 f__law_taken, Need.fnR "_law_row" 3 f__law_row]) [0, 0, 1, 1] rfl (fun m hm => by
    simp only [List.mem_cons, List.not_mem_nil, or_false] at hm
    rcases hm with rfl | rfl
    · exact (ok__law_taken T).mono (by omega)
    · exact (ok__law_row T).mono (by omega)))
theorem ok__law_keeps (T : Tops K mg) : CallOk P wd K mg base 3 "_law_keeps" (spD K 2 f__law_keeps) :=
  callD T.t__law_keeps sc__law_keeps rfl T.bn ck__law_keeps (need_by (Γ := [Need.fn "_law_by" 2 f__law_by, Need.fn "_law_sum" 2 f__law_sum]) [0, 1, 1] rfl (fun m hm => by
    simp only [List.mem_cons, List.not_mem_nil, or_false] at hm
    rcases hm with rfl | rfl
    · exact (ok__law_by T).mono (by omega)
    · exact (ok__law_sum T).mono (by omega)))
theorem ok__law_made (T : Tops K mg) : CallOk P wd K mg base 3 "_law_made" (spD K 2 f__law_made) :=
  callD T.t__law_made sc__law_made rfl T.bn ck__law_made (need_by (Γ := [Need.fn "_law_share" 2 f__law_share, Need.fn "_law_both" 2 f__law_both, Need.fn "_law_shift" 2 f__law_shift]) [0, 1, 2] rfl (fun m hm => by
    simp only [List.mem_cons, List.not_mem_nil, or_false] at hm
    rcases hm with rfl | rfl | rfl
    · exact (ok__law_share T).mono (by omega)
    · exact (ok__law_both T).mono (by omega)
    · exact (ok__law_shift T).mono (by omega)))
theorem ok_is_pair (T : Tops K mg) : CallOk P wd K mg base 4 "is_pair" (spD K 2 f_is_pair) :=
  callD T.t_is_pair sc_is_pair rfl T.bn ck_is_pair (need_by (Γ := [Need.fn "is_row" 2 f_is_row]) [0] rfl (fun m hm => by
    simp only [List.mem_cons, List.not_mem_nil, or_false] at hm
    rcases hm with rfl
    · exact (ok_is_row T).mono (by omega)))
theorem ok_outmost_of (T : Tops K mg) : CallOk P wd K mg base 4 "outmost_of" (spD K 1 f_outmost_of) :=
  callD T.t_outmost_of sc_outmost_of rfl T.bn ck_outmost_of (need_by (Γ := [Need.fn "norm" 1 f_norm, Need.fn "latest_of" 1 f_latest_of, Need.fnS "key_of" f_key_of, Need.fn "made_of" 2 f_made_of]) [0, 1, 0, 2, 3] rfl (fun m hm => by
    simp only [List.mem_cons, List.not_mem_nil, or_false] at hm
    rcases hm with rfl | rfl | rfl | rfl
    · exact (ok_norm T).mono (by omega)
    · exact (ok_latest_of T).mono (by omega)
    · exact ⟨by omega, (ok_key_of T).mono (by omega)⟩
    · exact (ok_made_of T).mono (by omega)))
theorem ok_unit_rows (T : Tops K mg) : CallOk P wd K mg base 4 "unit_rows" (spD K 1 f_unit_rows) :=
  callD T.t_unit_rows sc_unit_rows rfl T.bn ck_unit_rows (need_by (Γ := [Need.fnS "key_of" f_key_of]) [0] rfl (fun m hm => by
    simp only [List.mem_cons, List.not_mem_nil, or_false] at hm
    rcases hm with rfl
    · exact ⟨by omega, (ok_key_of T).mono (by omega)⟩))
theorem ok_need_task (T : Tops K mg) : CallOk P wd K mg base 5 "need_task" (spD K 1 f_need_task) :=
  callD T.t_need_task sc_need_task rfl T.bn ck_need_task (need_by (Γ := [Need.fn "is_int" 1 f_is_int, Need.gl "MOST_WIDE" (.int 6), Need.gl "MOST_ROWS" (.int 6), Need.fn "is_pair" 2 f_is_pair]) [0, 1, 2, 3] rfl (fun m hm => by
    simp only [List.mem_cons, List.not_mem_nil, or_false] at hm
    rcases hm with rfl | rfl | rfl | rfl
    · exact (ok_is_int T).mono (by omega)
    · exact T.g_MOST_WIDE
    · exact T.g_MOST_ROWS
    · exact (ok_is_pair T).mono (by omega)))
theorem ok_with_pair (T : Tops K mg) : CallOk P wd K mg base 5 "with_pair" (spD K 2 f_with_pair) :=
  callD T.t_with_pair sc_with_pair rfl T.bn ck_with_pair (need_by (Γ := [Need.fn "is_by" 2 f_is_by, Need.fn "sum_of" 2 f_sum_of, Need.fn "both_of" 2 f_both_of, Need.fn "shift_of" 2 f_shift_of, Need.fn "outmost_of" 1 f_outmost_of]) [0, 1, 1, 0, 1, 1, 1, 2, 3, 1, 3, 4] rfl (fun m hm => by
    simp only [List.mem_cons, List.not_mem_nil, or_false] at hm
    rcases hm with rfl | rfl | rfl | rfl | rfl
    · exact (ok_is_by T).mono (by omega)
    · exact (ok_sum_of T).mono (by omega)
    · exact (ok_both_of T).mono (by omega)
    · exact (ok_shift_of T).mono (by omega)
    · exact (ok_outmost_of T).mono (by omega)))
theorem ok_outmost_members_of (T : Tops K mg) : CallOk P wd K mg base 6 "outmost_members_of" (spD K 1 f_outmost_members_of) :=
  callD T.t_outmost_members_of sc_outmost_members_of rfl T.bn ck_outmost_members_of (need_by (Γ := [Need.fn "unit_rows" 1 f_unit_rows, Need.fn "with_pair" 2 f_with_pair]) [0, 1] rfl (fun m hm => by
    simp only [List.mem_cons, List.not_mem_nil, or_false] at hm
    rcases hm with rfl | rfl
    · exact (ok_unit_rows T).mono (by omega)
    · exact (ok_with_pair T).mono (by omega)))
theorem ok_outmost_members (T : Tops K mg) : CallOk P wd K mg base 7 "outmost_members" (spD K 1 f_outmost_members) :=
  callD T.t_outmost_members sc_outmost_members rfl T.bn ck_outmost_members (need_by (Γ := [Need.fn "need_task" 1 f_need_task, Need.fn "outmost_members_of" 1 f_outmost_members_of]) [0, 1] rfl (fun m hm => by
    simp only [List.mem_cons, List.not_mem_nil, or_false] at hm
    rcases hm with rfl | rfl
    · exact (ok_need_task T).mono (by omega)
    · exact (ok_outmost_members_of T).mono (by omega)))
theorem sc_law : FnScope ["script", "row", "wide", "pairs", "told", "at", "given", "few"] ["script"] (defScope (topS 47)) := C8.fnScope_by (by decide +kernel)
def lawRest : List Stmt := (defBody (topS 47)).tail
theorem ck_law : chkS B_law ⟨["script", "row", "wide", "pairs", "told", "at", "given", "few"], defScope (topS 47), fun _ => true⟩ (.l lawRest) = true := by with_unfolding_all rfl
theorem hl_law : nmB ⟨["script", "row", "wide", "pairs", "told", "at", "given", "few"], defScope (topS 47), fun _ => true⟩ 0 "script" = true ∧ stB ⟨["script", "row", "wide", "pairs", "told", "at", "given", "few"], defScope (topS 47), fun _ => true⟩ 1 "row" = true := ⟨by with_unfolding_all rfl, by with_unfolding_all rfl⟩
theorem hd_law : ∃ c, lawHead (defBody (topS 47)) = some (c, lawRest) := ⟨_, by with_unfolding_all rfl⟩
theorem need_law (T : Tops K mg) : ∀ m ∈ needsS B_law, NeedOk P wd K mg base 7 m := need_by (Γ := [Need.fnR "_law_task" 3 f__law_task, Need.fn "outmost_members" 1 f_outmost_members, Need.fn "_law_order" 1 f__law_order, Need.fn "_law_norm" 1 f__law_norm, Need.fn "_law_keeps" 2 f__law_keeps, Need.fn "_law_made" 2 f__law_made, Need.fn "_law_grid" 2 f__law_grid, Need.fnR "_law_row" 3 f__law_row]) [0, 1, 2, 3, 4, 5, 6, 4, 5, 7, 4, 5] rfl (fun m hm => by
    simp only [List.mem_cons, List.not_mem_nil, or_false] at hm
    rcases hm with rfl | rfl | rfl | rfl | rfl | rfl | rfl | rfl
    · exact (ok__law_task T).mono (by omega)
    · exact (ok_outmost_members T).mono (by omega)
    · exact (ok__law_order T).mono (by omega)
    · exact (ok__law_norm T).mono (by omega)
    · exact (ok__law_keeps T).mono (by omega)
    · exact (ok__law_made T).mono (by omega)
    · exact (ok__law_grid T).mono (by omega)
    · exact (ok__law_row T).mono (by omega))
end
end Dn.DL
namespace Dn
open PySem
/-! ### evaluation -/
def Does {α : Type} (m : M α) (P : α → Prop) : Prop := ∀ w : W, 0 ≤ w.i → ∃ a w', m w = .ok a w' ∧ 0 ≤ w'.i ∧ P a
theorem Does.ret {α : Type} {a : α} {P : α → Prop} (h : P a) : Does (ret a) P := fun w hw => ⟨a, w, rfl, hw, h⟩
theorem Does.bnd {α β : Type} {m : M α} {f : α → M β} {Q : α → Prop} {P : β → Prop} (h : Does m Q) (g : ∀ a, Q a → Does (f a) P) : Does (bnd m f) P := fun w hw => by
  obtain ⟨a, w1, e, hw1, q⟩ := h w hw
  obtain ⟨b, w2, e2, hw2, p⟩ := g a q w1 hw1
  exact ⟨b, w2, by rw [bnd_ok e, e2], hw2, p⟩
theorem Does.mono {α : Type} {m : M α} {P Q : α → Prop} (h : Does m P) (g : ∀ a, P a → Q a) : Does m Q := fun w hw => by
  obtain ⟨a, w1, e, hw1, q⟩ := h w hw
  exact ⟨a, w1, e, hw1, g a q⟩
theorem mapD_map {f : D → M (Option D)} {g : D → D} : ∀ {ds : List D}, (∀ d ∈ ds, f d = ret (some (g d))) → mapD f ds = ret (ds.map g)
  | [], _ => rfl
  | d :: ds, h => by
    unfold mapD
    rw [h d (List.mem_cons_self ..), bnd_ret, mapD_map fun x hx => h x (List.mem_cons_of_mem _ hx), bnd_ret]
    rfl
theorem mapD_enc {α : Type} {enc : α → D} {f : D → M (Option D)} {g : α → D} : ∀ {xs : List α}, (∀ x ∈ xs, f (enc x) = ret (some (g x))) → mapD f (xs.map enc) = ret (xs.map g)
  | [], _ => rfl
  | x :: xs, h => by
    rw [List.map_cons]
    unfold mapD
    rw [h x (List.mem_cons_self ..), bnd_ret, mapD_enc fun x hx => h x (List.mem_cons_of_mem _ hx), bnd_ret]
    rfl
theorem mapD_fil {α : Type} {enc : α → D} {f : D → M (Option D)} {g : α → D} {p : α → Bool} : ∀ {xs : List α}, (∀ x ∈ xs, f (enc x) = ret (if p x then some (g x) else none)) → mapD f (xs.map enc) = ret ((xs.filter p).map g)
  | [], _ => rfl
  | x :: xs, h => by
    rw [List.map_cons]
    unfold mapD
    rw [h x (List.mem_cons_self ..), bnd_ret, mapD_fil fun x hx => h x (List.mem_cons_of_mem _ hx), bnd_ret]
    cases e : p x with
    | true => rw [List.filter_cons_of_pos e]; rfl
    | false => rw [List.filter_cons_of_neg (by rw [e]; decide)]; rfl
theorem mapD_does {f : D → M (Option D)} {Q : D → Prop} : ∀ {ds : List D}, (∀ d ∈ ds, Does (f d) fun o => ∃ x, o = some x ∧ Q x) → Does (mapD f ds) fun out => out.length = ds.length ∧ ∀ x ∈ out, Q x
  | [], _ => .ret ⟨rfl, fun x h => by cases h⟩
  | d :: ds, h => by
    unfold mapD
    refine (h d (List.mem_cons_self ..)).bnd fun o ⟨x, e, q⟩ => (mapD_does fun y hy => h y (List.mem_cons_of_mem _ hy)).bnd fun r ⟨e2, q2⟩ => ?_
    subst e
    refine .ret ⟨by rw [List.length_cons, List.length_cons, e2], fun y hy => ?_⟩
    rcases List.mem_cons.mp hy with rfl | hy
    · exact q
    · exact q2 y hy

section
variable {ρ ρ' : Ev} {a b c e e1 e2 es lo hi src elt cond : E} {o o' : BOp} {q q' : COp} {i j n : Nat} {d : D} {x : Str} {f : List D → M D} {A B : S} {tg : Tg}
def seqK (r : S) : O → M O | .nx ρ => denS r ρ | .rt d => ret (.rt d)
def endK : O → M D | .rt d => ret d | .nx _ => ret .none
def branchK (a b : S) (ρ : Ev) (k : Bool) : M O := if k then denS a ρ else denS b ρ
theorem k_nx : seqK A (.nx ρ) = denS A ρ := rfl
theorem k_rt : seqK A (.rt d) = ret (.rt d) := rfl
theorem e_nx : endK (.nx ρ) = ret .none := rfl
theorem e_rt : endK (.rt d) = ret d := rfl
theorem br_t : branchK A B ρ true = denS A ρ := rfl
theorem br_f : branchK A B ρ false = denS B ρ := rfl
theorem fn_eq {ds : List D} : fn n B ds = bnd (denS B (ds.map .val ++ List.replicate (n - ds.length) .no)) endK := by
  unfold fn; congr 1 <;> (funext o; cases o <;> rfl)
theorem fnR_eq {ds : List D} : fnR n B ds = bnd (denS B (.row :: (ds.map .val ++ List.replicate (n - ds.length) .no))) endK := by
  unfold fnR; congr 1 <;> (funext o; cases o <;> rfl)
theorem dS_nil : denS .nil ρ = ret (.nx ρ) := rfl
theorem dS_seq : denS (.seq A B) ρ = bnd (denS A ρ) (seqK B) := by
  show bnd (denS A ρ) _ = _
  congr 1 <;> (funext o; cases o <;> rfl)
theorem dS_asg {t : Tg} : denS (.asg t e) ρ = bnd (den e ρ) fun d => (match bindT t d ρ with | some ρ' => ret (.nx ρ') | none => bad) := rfl
theorem dS_nm : denS (.asg (.nm i) e) ρ = bnd (den e ρ) fun d => ret (.nx (ρ.set i (.val d))) := rfl
def ownK (ρ : Ev) (i : Nat) : D → M O | .list l => ret (.nx (ρ.set i (.own l))) | _ => bad
theorem own_list {l : List D} : ownK ρ i (.list l) = ret (.nx (ρ.set i (.own l))) := rfl
theorem dS_newL : denS (.newL i e) ρ = bnd (den e ρ) (ownK ρ i) := by
  show bnd (den e ρ) _ = _
  congr 1 <;> (funext d; cases d <;> rfl)
theorem dS_par {oi oj : Bool} : denS (.par i j oi oj a b) ρ = bnd (bnd (den a ρ) (slD oi)) fun x => bnd (bnd (den b ρ) (slD oj)) fun y => ret (.nx ((ρ.set i x).set j y)) := rfl
theorem sl_f : (slD false d : M Sl) = ret (.val d) := rfl
theorem sl_t {l : List D} : (slD true (.list l) : M Sl) = ret (.own l) := rfl
theorem dS_ite : denS (.ite e A B) ρ = bnd (bnd (den e ρ) asB) (branchK A B ρ) := rfl
theorem dS_ret : denS (.ret e) ρ = bnd (den e ρ) fun d => ret (.rt d) := rfl
theorem dS_expr : denS (.expr e) ρ = bnd (den e ρ) fun _ => ret (.nx ρ) := rfl
theorem asB_bool {k : Bool} : asB (.bool k) = ret k := rfl
theorem asI_int {k : Int} : asI (.int k) = ret k := rfl
theorem items_l {l : List D} : itemsOf (.list l) = ret l := rfl
theorem items_t {l : List D} : itemsOf (.tuple l) = ret l := rfl
theorem dn_nil : den .nil ρ = ret (.dict []) := rfl
theorem dn_cons : den (.cons a b) ρ = bnd (den a ρ) fun x => bnd (den b ρ) fun xs => ret (.list (x :: listOf xs)) := rfl
theorem dn_star : den (.star a b) ρ = bnd (den a ρ) fun x => bnd (itemsOf x) fun ds => bnd (den b ρ) fun xs => ret (.list (ds ++ listOf xs)) := rfl
theorem lo_l {l : List D} : listOf (.list l) = l := rfl
theorem lo_d : listOf (.dict []) = [] := rfl
def varK : Option Sl → M D | some (.val d) => ret d | _ => bad
theorem vk : varK (some (.val d)) = ret d := rfl
theorem dn_var : den (.var i) ρ = varK ρ[i]? := by
  show (match ρ[i]? with | some (.val d) => (ret d : M D) | _ => bad) = _
  cases ρ[i]? with
  | none => rfl
  | some s => cases s <;> rfl
def ownV : Option Sl → M D | some (.own l) => ret (.list l) | _ => bad
theorem ok_ {l : List D} : ownV (some (.own l)) = ret (.list l) := rfl
theorem dn_own : den (.own i) ρ = ownV ρ[i]? := by
  show (match ρ[i]? with | some (.own l) => (ret (.list l) : M D) | _ => bad) = _
  cases ρ[i]? with
  | none => rfl
  | some s => cases s <;> rfl
theorem dn_lit : den (.lit d) ρ = ret d := rfl
theorem dn_glob : den (.glob x d) ρ = ret d := rfl
theorem dn_bin : den (.bin o a b) ρ = bnd (den a ρ) fun x => bnd (den b ρ) fun y => binD o x y := rfl
theorem dn_neg : den (.neg a) ρ = bnd (den a ρ) negD := rfl
theorem dn_not : den (.not a) ρ = bnd (den a ρ) notD := rfl
theorem dn_cmp : den (.cmp q a b) ρ = bnd (den a ρ) fun x => bnd (den b ρ) fun y => cmpD q x y := rfl
def chainK (q' : COp) (y : D) (c : E) (ρ : Ev) (k : Bool) : M D := if k then bnd (den c ρ) fun z => cmpD q' y z else ret (.bool false)
theorem dn_chain : den (.chain q q' a b c) ρ = bnd (den a ρ) fun x => bnd (den b ρ) fun y => bnd (bnd (cmpD q x y) asB) (chainK q' y c ρ) := rfl
theorem ch_t {y : D} : chainK q' y c ρ true = bnd (den c ρ) fun z => cmpD q' y z := rfl
theorem ch_f {y : D} : chainK q' y c ρ false = ret (.bool false) := rfl
def andK (b : E) (ρ : Ev) (k : Bool) : M D := if k then den b ρ else ret (.bool false)
def orK (b : E) (ρ : Ev) (k : Bool) : M D := if k then ret (.bool true) else den b ρ
def iteK (a b : E) (ρ : Ev) (k : Bool) : M D := if k then den a ρ else den b ρ
theorem dn_and : den (.and a b) ρ = bnd (bnd (den a ρ) asB) (andK b ρ) := rfl
theorem dn_or : den (.or a b) ρ = bnd (bnd (den a ρ) asB) (orK b ρ) := rfl
theorem dn_ite : den (.ite c a b) ρ = bnd (bnd (den c ρ) asB) (iteK a b ρ) := rfl
theorem an_t : andK b ρ true = den b ρ := rfl
theorem an_f : andK b ρ false = ret (.bool false) := rfl
theorem or_t : orK b ρ true = ret (.bool true) := rfl
theorem or_f : orK b ρ false = den b ρ := rfl
theorem it_t : iteK a b ρ true = den a ρ := rfl
theorem it_f : iteK a b ρ false = den b ρ := rfl
def tupK (xs : List D) : M D := if xs.length ≤ sizeLine then ret (.tuple xs) else bad
def lstK (xs : List D) : M D := if xs.length ≤ sizeLine then ret (.list xs) else bad
theorem dn_tup : den (.tup es) ρ = bnd (den es ρ) fun xs => tupK (listOf xs) := rfl
theorem dn_list : den (.list es) ρ = bnd (den es ρ) fun xs => lstK (listOf xs) := rfl
theorem tup_ok {xs : List D} (h : xs.length ≤ sizeLine) : tupK xs = ret (.tuple xs) := if_pos h
theorem lst_ok {xs : List D} (h : xs.length ≤ sizeLine) : lstK xs = ret (.list xs) := if_pos h
theorem tup2 {x y : D} : tupK [x, y] = ret (.tuple [x, y]) := rfl
theorem tup1 {x : D} : tupK [x] = ret (.tuple [x]) := rfl
theorem tup3 {x y z : D} : tupK [x, y, z] = ret (.tuple [x, y, z]) := rfl
theorem tup0 : tupK [] = ret (.tuple []) := rfl
theorem lst0 : lstK [] = ret (.list []) := rfl
theorem lst1 {x : D} : lstK [x] = ret (.list [x]) := rfl
theorem lst2 {x y : D} : lstK [x, y] = ret (.list [x, y]) := rfl
theorem lst3 {x y z : D} : lstK [x, y, z] = ret (.list [x, y, z]) := rfl
theorem dn_ix : den (.ix a b) ρ = bnd (den a ρ) fun x => bnd (den b ρ) fun y => ixD x y := rfl
theorem dn_slice : den (.slice a lo hi) ρ = bnd (den a ρ) fun x => bnd (bnd (den lo ρ) partD) fun l => bnd (bnd (den hi ρ) partD) fun u => sliceD x l u := rfl
def callK (n : Nat) (f : List D → M D) (xs : List D) : M D := if xs.length = n then f xs else bad
theorem dn_call : den (.call x n f es) ρ = bnd (den es ρ) fun xs => callK n f (listOf xs) := rfl
theorem call1 {x : D} : callK 1 f [x] = f [x] := rfl
theorem call2 {x y : D} : callK 2 f [x, y] = f [x, y] := rfl
theorem call3 {x y z : D} : callK 3 f [x, y, z] = f [x, y, z] := rfl
theorem call4 {x y z u : D} : callK 4 f [x, y, z, u] = f [x, y, z, u] := rfl
theorem call5 {x y z u v : D} : callK 5 f [x, y, z, u, v] = f [x, y, z, u, v] := rfl
def rowK {α : Type} (m : M α) : Option Sl → M α | some .row => m | _ => bad
theorem rk {α : Type} {m : M α} : rowK m (some .row) = m := rfl
theorem dn_callR : den (.callR x n f i es) ρ = rowK (bnd (den es ρ) fun xs => callK n f (listOf xs)) ρ[i]? := by
  show (match ρ[i]? with | some .row => bnd (den es ρ) fun xs => if (listOf xs).length = n then f (listOf xs) else bad | _ => bad) = _
  cases ρ[i]? with
  | none => rfl
  | some s => cases s <;> rfl
theorem dn_b1 {bb : B1} : den (.b1 bb a) ρ = bnd (den a ρ) fun x => b1D bb x := rfl
theorem dn_b2 {bb : B2} : den (.b2 bb a c) ρ = bnd (den a ρ) fun x => bnd (den c ρ) fun y => b2D bb x y := rfl
theorem dn_isI {cl : Cl} : den (.isI a cl) ρ = bnd (den a ρ) fun x => ret (.bool (isIn x cl)) := rfl
theorem dn_isTL : den (.isTL a) ρ = bnd (den a ρ) fun x => ret (.bool (isIn x .tup || isIn x .lst)) := rfl
theorem dn_range1 : den (.range1 a) ρ = bnd (bnd (den a ρ) asI) fun j => rangeD 0 j := rfl
theorem dn_range2 : den (.range2 a b) ρ = bnd (bnd (den a ρ) asI) fun i => bnd (bnd (den b ρ) asI) fun j => rangeD i j := rfl
theorem dn_zip : den (.zip a b) ρ = bnd (den a ρ) fun x => bnd (den b ρ) fun y => zip2D x y := rfl
theorem b1_len_l {l : List D} : b1D .len (.list l) = ret (.int l.length) := rfl
theorem b1_len_t {l : List D} : b1D .len (.tuple l) = ret (.int l.length) := rfl
theorem b1_tup_l {l : List D} : b1D .tuple (.list l) = ret (.tuple l) := rfl
theorem b1_tup_t {l : List D} : b1D .tuple (.tuple l) = ret (.tuple l) := rfl
theorem b1_list_l {l : List D} : b1D .list (.list l) = ret (.list l) := rfl
theorem b1_list_t {l : List D} : b1D .list (.tuple l) = ret (.list l) := rfl
theorem b1_int {k : Int} : b1D .int (.int k) = ret (.int k) := rfl
theorem not_b {k : Bool} : notD (.bool k) = ret (.bool (!k)) := rfl
theorem neg_i {k : Int} : negD (.int k) = ret (.int (-k)) := rfl
theorem cmp_lt {u v : Int} : cmpD .lt (.int u) (.int v) = ret (.bool (decide (u < v))) := rfl
theorem cmp_le {u v : Int} : cmpD .le (.int u) (.int v) = ret (.bool (decide (u ≤ v))) := rfl
theorem cmp_gt {u v : Int} : cmpD .gt (.int u) (.int v) = ret (.bool (decide (v < u))) := rfl
theorem cmp_ge {u v : Int} : cmpD .ge (.int u) (.int v) = ret (.bool (decide (v ≤ u))) := rfl
theorem cmp_is : cmpD .is_ d .none = ret (.bool (isNone d)) := by cases d <;> rfl
theorem cmp_isnot : cmpD .isnot d .none = ret (.bool (!isNone d)) := by cases d <;> rfl
theorem cmp_eqi {u v : Int} : cmpD .eq (.int u) (.int v) = ret (.bool (decide (u = v))) := by
  have h : cmpD .eq (.int u) (.int v) = ret (.bool (PyData.eqv (.int u) (.int v))) := rfl
  rw [h]
  congr 2
theorem cmp_nei {u v : Int} : cmpD .ne (.int u) (.int v) = ret (.bool (!decide (u = v))) := by
  have h : cmpD .ne (.int u) (.int v) = ret (.bool (!PyData.eqv (.int u) (.int v))) := rfl
  rw [h]
  congr 2
theorem bin_add {u v : Int} : binD .add (.int u) (.int v) = ret (.int (u + v)) := rfl
theorem bin_sub {u v : Int} : binD .sub (.int u) (.int v) = ret (.int (u - v)) := rfl
theorem bin_mod {u v : Int} (h : 0 < v) : binD .mod (.int u) (.int v) = ret (.int (u % v)) := if_pos h
theorem bin_fdiv {u v : Int} (h : 0 < v ∧ v < 1073741824) : binD .fdiv (.int u) (.int v) = ret (.int (u / v)) := if_pos h
theorem bin_mul {u v : Int} (h : (big u || big v) = true) : binD .mul (.int u) (.int v) = ret (.int (u * v)) := if_pos h
theorem ix_t {l : List D} {k : Nat} {d : D} (h : l[k]? = some d) : ixD (.tuple l) (.int k) = ret d := by
  have hk : k < l.length := (List.getElem?_eq_some_iff.mp h).1
  show (match L2.atI l (k : Int) with | some d => ret d | none => bad) = _
  rw [show L2.atI l (k : Int) = some d from L2.atI_nat h]
theorem ix_l {l : List D} {k : Nat} {d : D} (h : l[k]? = some d) : ixD (.list l) (.int k) = ret d := by
  have hk : k < l.length := (List.getElem?_eq_some_iff.mp h).1
  show (match L2.atI l (k : Int) with | some d => ret d | none => bad) = _
  rw [show L2.atI l (k : Int) = some d from L2.atI_nat h]
theorem range0 {k : Nat} (h : k ≤ 1000) : rangeD 0 (k : Int) = ret (.list ((List.range k).map fun (i : Nat) => PyData.int (i : Int))) := by
  unfold rangeD
  rw [if_pos (by omega)]
  congr 2
  rw [show ((k : Int) - 0).toNat = k by omega]
  simp
theorem zip_t {xs ys : List D} : zip2D (.tuple xs) (.tuple ys) = ret (.list (zipD xs ys)) := rfl
theorem zip_l {xs ys : List D} : zip2D (.list xs) (.list ys) = ret (.list (zipD xs ys)) := rfl
theorem zip_enc {α β : Type} {f : α → D} {g : β → D} (xs : List α) (ys : List β) : zipD (xs.map f) (ys.map g) = (xs.zip ys).map fun p => PyData.tuple [f p.1, g p.2] := by
  unfold zipD
  rw [List.zipWith_map_left, List.zipWith_map_right, List.zip, List.map_zipWith]
theorem zip_back {α β γ δ : Type} (f : α → β → γ) (h : γ → δ) (xs : List α) (ys : List β) : (xs.zip ys).map (fun p => h (f p.1 p.2)) = (List.zipWith f xs ys).map h := by
  rw [List.zip, List.map_zipWith, List.map_zipWith]
def pushK (i : Nat) (ρ : Ev) (l : List D) (d : D) : M O := if l.length < sizeLine then ret (.nx (ρ.set i (.own (l ++ [d])))) else bad
theorem push_ok {l : List D} (h : l.length < sizeLine) : pushK i ρ l d = ret (.nx (ρ.set i (.own (l ++ [d])))) := if_pos h
def appK (i : Nat) (ρ : Ev) (m : M D) : Option Sl → M O | some (.own l) => bnd m (pushK i ρ l) | _ => bad
theorem ap_own {l : List D} {m : M D} : appK i ρ m (some (.own l)) = bnd m (pushK i ρ l) := rfl
theorem dS_app : denS (.app i e) ρ = appK i ρ (den e ρ) ρ[i]? := by
  show (match ρ[i]? with | some (.own l) => (bnd (den e ρ) fun d => if l.length < sizeLine then ret (.nx (ρ.set i (.own (l ++ [d])))) else bad : M O) | _ => bad) = _
  cases ρ[i]? with
  | none => rfl
  | some s => cases s <;> rfl
def augK (i : Nat) (ρ : Ev) (o : BOp) (m : M D) : Option Sl → M O | some (.val x) => bnd m fun y => bnd (augD o x y) fun z => ret (.nx (ρ.set i (.val z))) | _ => bad
theorem au_val {m : M D} : augK i ρ o m (some (.val d)) = bnd m fun y => bnd (augD o d y) fun z => ret (.nx (ρ.set i (.val z))) := rfl
theorem dS_aug : denS (.aug i o e) ρ = augK i ρ o (den e ρ) ρ[i]? := by
  show (match ρ[i]? with | some (.val x) => (bnd (den e ρ) fun y => bnd (augD o x y) fun z => ret (.nx (ρ.set i (.val z))) : M O) | _ => bad) = _
  cases ρ[i]? with
  | none => rfl
  | some s => cases s <;> rfl
def frzK (i : Nat) (ρ : Ev) : Option Sl → M O | some (.own l) => ret (.nx (ρ.set i (.val (.list l)))) | _ => bad
theorem fr_own {l : List D} : frzK i ρ (some (.own l)) = ret (.nx (ρ.set i (.val (.list l)))) := rfl
theorem dS_frz : denS (.frz i) ρ = frzK i ρ ρ[i]? := by
  show (match ρ[i]? with | some (.own l) => (ret (.nx (ρ.set i (.val (.list l)))) : M O) | _ => bad) = _
  cases ρ[i]? with
  | none => rfl
  | some s => cases s <;> rfl
def compK (elt : E) (tg : Tg) (cond : E) (ρ : Ev) (ds : List D) : M D :=
  bnd (mapD (fun d => match bindT tg d (wipeE ρ tg.slots) with
        | none => bad
        | some ρ' => bnd (bnd (den cond ρ') asB) fun k => if k then bnd (den elt ρ') fun x => ret (some x) else ret none) ds) fun out => ret (.list out)
theorem dn_comp : den (.comp elt tg src cond) ρ = bnd (bnd (den src ρ) itemsOf) (compK elt tg cond ρ) := rfl
theorem cmpMap {α : Type} {enc g : α → D} {xs : List α} (h : ∀ x ∈ xs, ∃ ρ', bindT tg (enc x) (wipeE ρ tg.slots) = some ρ' ∧ den cond ρ' = ret (.bool true) ∧ den elt ρ' = ret (g x)) : compK elt tg cond ρ (xs.map enc) = ret (.list (xs.map g)) := by
  unfold compK
  rw [mapD_enc (g := g) fun x hx => by
    obtain ⟨ρ', e1, e2, e3⟩ := h x hx
    simp only [e1, e2, e3, bnd_ret, asB_bool, if_true]]
  rfl
theorem cmpFil {α : Type} {enc g : α → D} {p : α → Bool} {xs : List α} (h : ∀ x ∈ xs, ∃ ρ', bindT tg (enc x) (wipeE ρ tg.slots) = some ρ' ∧ den cond ρ' = ret (.bool (p x)) ∧ (p x = true → den elt ρ' = ret (g x))) : compK elt tg cond ρ (xs.map enc) = ret (.list ((xs.filter p).map g)) := by
  unfold compK
  rw [mapD_fil (g := g) (p := p) fun x hx => by
    obtain ⟨ρ', e1, e2, e3⟩ := h x hx
    simp only [e1, e2, bnd_ret, asB_bool]
    cases e : p x with
    | true => simp only [e3 e, bnd_ret, if_true]
    | false => rfl]
  rfl
theorem cmpDoes {ds : List D} {Q : D → Prop} (h : ∀ d ∈ ds, ∃ ρ', bindT tg d (wipeE ρ tg.slots) = some ρ' ∧ den cond ρ' = ret (.bool true) ∧ Does (den elt ρ') Q) : Does (compK elt tg cond ρ ds) fun out => ∃ l, out = .list l ∧ l.length = ds.length ∧ ∀ x ∈ l, Q x := by
  unfold compK
  refine (mapD_does (Q := Q) fun d hd => ?_).bnd fun l ⟨h1, h2⟩ => .ret ⟨l, rfl, h1, h2⟩
  obtain ⟨ρ', e1, e2, e3⟩ := h d hd
  simp only [e1, e2, bnd_ret, asB_bool, if_true]
  exact e3.bnd fun x hx => .ret ⟨x, rfl, hx⟩
def forK (t : Tg) (body : S) (d : D) (ρ : Ev) : M O := match bindT t d ρ with | some ρ'' => denS body ρ'' | none => bad
def forE (t : Tg) (body : S) (ρ : Ev) (ds : List D) : M O := forO (forK t body) ds ρ
theorem dS_for {t : Tg} : denS (.for_ t src B) ρ = bnd (bnd (den src ρ) itemsOf) (forE t B ρ) := rfl
theorem for_nil {t : Tg} : forE t B ρ [] = ret (.nx ρ) := rfl
def forN (t : Tg) (B : S) (ds : List D) : O → M O | .nx ρ => forE t B ρ ds | .rt d => ret (.rt d)
theorem for_cons {t : Tg} {ds : List D} : forE t B ρ (d :: ds) = bnd (forK t B d ρ) (forN t B ds) := by
  show bnd (forK t B d ρ) _ = _
  congr 1 <;> (funext o; cases o <;> rfl)
/-- a loop that goes on to its end, with no draws -/
theorem for_run {α β : Type} {t : Tg} {enc : α → D} (I : β → Ev → Prop) (step : β → α → β) : ∀ {xs : List α} {s : β} {ρ : Ev}, I s ρ → (∀ s x ρ, x ∈ xs → I s ρ → ∃ ρ', forK t B (enc x) ρ = ret (.nx ρ') ∧ I (step s x) ρ') → ∃ ρ', forE t B ρ (xs.map enc) = ret (.nx ρ') ∧ I (xs.foldl step s) ρ'
  | [], s, ρ, hI, _ => ⟨ρ, rfl, hI⟩
  | x :: xs, s, ρ, hI, h => by
    obtain ⟨ρ1, e1, h1⟩ := h s x ρ (List.mem_cons_self ..) hI
    obtain ⟨ρ2, e2, h2⟩ := for_run I step h1 fun s y ρ hy => h s y ρ (List.mem_cons_of_mem _ hy)
    refine ⟨ρ2, ?_, h2⟩
    rw [List.map_cons, for_cons, e1, bnd_ret]
    exact e2
/-- .. by its turns -/
theorem for_runK {α β : Type} {t : Tg} {enc : α → D} {n : Nat} (I : Nat → β → Ev → Prop) (step : β → α → β) : ∀ {xs : List α} {k : Nat} {s : β} {ρ : Ev}, k + xs.length = n → I k s ρ → (∀ k s x ρ, k < n → x ∈ xs → I k s ρ → ∃ ρ', forK t B (enc x) ρ = ret (.nx ρ') ∧ I (k + 1) (step s x) ρ') → ∃ ρ', forE t B ρ (xs.map enc) = ret (.nx ρ') ∧ I n (xs.foldl step s) ρ'
  | [], k, s, ρ, hk, hI, _ => ⟨ρ, rfl, by
    cases hk
    exact hI⟩
  | x :: xs, k, s, ρ, hk, hI, h => by
    rw [List.length_cons] at hk
    obtain ⟨ρ1, e1, h1⟩ := h k s x ρ (by omega) (List.mem_cons_self ..) hI
    obtain ⟨ρ2, e2, h2⟩ := for_runK I step (by omega) h1 fun k s y ρ hk hy => h k s y ρ hk (List.mem_cons_of_mem _ hy)
    refine ⟨ρ2, ?_, h2⟩
    rw [List.map_cons, for_cons, e1, bnd_ret]
    exact e2
/-- a loop with draws, by its turns -/
theorem for_does {t : Tg} {n : Nat} (I : Nat → Ev → Prop) : ∀ {ds : List D} {k : Nat} {ρ : Ev}, k + ds.length = n → I k ρ → (∀ k d ρ, k < n → d ∈ ds → I k ρ → Does (forK t B d ρ) fun o => ∃ ρ', o = .nx ρ' ∧ I (k + 1) ρ') → Does (forE t B ρ ds) fun o => ∃ ρ', o = .nx ρ' ∧ I n ρ'
  | [], k, ρ, hk, hI, _ => .ret ⟨ρ, rfl, by
    cases hk
    exact hI⟩
  | d :: ds, k, ρ, hk, hI, h => by
    rw [for_cons]
    rw [List.length_cons] at hk
    refine (h k d ρ (by omega) (List.mem_cons_self ..) hI).bnd fun o ⟨ρ', e, h1⟩ => ?_
    subst e
    exact for_does I (by omega) h1 fun k y ρ hk hy => h k y ρ hk (List.mem_cons_of_mem _ hy)
end
end Dn
namespace Dn
open PySem
/-! ### evaluation, further: comprehensions and loops by plain functions -/
def bindE {γ : Type} (t : Tg) (d : D) (ρ : Ev) (k : Ev → M γ) : M γ := match bindT t d ρ with | some ρ' => k ρ' | none => bad
section
variable {γ : Type} {ρ : Ev} {k : Ev → M γ} {i : Nat} {d : D} {ds : List D} {t r : Tg} {e elt : E} {B : S}
theorem be_nm : bindE (.nm i) d ρ k = k (ρ.set i (.val d)) := rfl
theorem be_tup : bindE (.tup t) (.tuple ds) ρ k = bindE t (.list ds) ρ k := rfl
theorem be_nil : bindE .tnil (.list []) ρ k = k ρ := rfl
theorem be_cons : bindE (.tcons t r) (.list (d :: ds)) ρ k = bindE t d ρ fun ρ' => bindE r (.list ds) ρ' k := by
  have e : bindT (.tcons t r) (.list (d :: ds)) ρ = (match bindT t d ρ with | some ρ' => bindT r (.list ds) ρ' | none => none) := rfl
  unfold bindE
  rw [e]
  cases bindT t d ρ <;> rfl
theorem dS_asgT : denS (.asg (.tup t) e) ρ = bnd (den e ρ) fun d => bindE (.tup t) d ρ fun ρ' => ret (.nx ρ') := by
  show bnd (den e ρ) _ = _
  congr 1
theorem dS_kill : denS (.kill i) ρ = ret (.nx (ρ.set i .no)) := rfl
theorem fk_eq : forK t B d ρ = bindE t d ρ (denS B) := rfl
def mapX {α β : Type} (f : α → M β) : List α → M (List β)
  | [] => ret []
  | x :: xs => bnd (f x) fun y => bnd (mapX f xs) fun ys => ret (y :: ys)
def filX {α β : Type} (c : α → M Bool) (f : α → M β) : List α → M (List β)
  | [] => ret []
  | x :: xs => bnd (c x) fun b => if b then bnd (f x) fun y => bnd (filX c f xs) fun ys => ret (y :: ys) else filX c f xs
theorem mapX_ret {α β : Type} {h : α → β} : ∀ {xs : List α}, mapX (fun x => ret (h x)) xs = ret (xs.map h)
  | [] => rfl
  | x :: xs => by unfold mapX; rw [bnd_ret, mapX_ret, bnd_ret]; rfl
theorem mapX_mem {α β : Type} {f : α → M β} (h : α → β) : ∀ {xs : List α}, (∀ x ∈ xs, f x = ret (h x)) → mapX f xs = ret (xs.map h)
  | [], _ => rfl
  | x :: xs, g => by
    unfold mapX
    rw [g x (List.mem_cons_self ..), bnd_ret, mapX_mem h fun y hy => g y (List.mem_cons_of_mem _ hy), bnd_ret]
    rfl
theorem filX_mem {α β : Type} {c : α → M Bool} {f : α → M β} (p : α → Bool) (h : α → β) : ∀ {xs : List α}, (∀ x ∈ xs, c x = ret (p x) ∧ (p x = true → f x = ret (h x))) → filX c f xs = ret ((xs.filter p).map h)
  | [], _ => rfl
  | x :: xs, g => by
    unfold filX
    obtain ⟨g1, g2⟩ := g x (List.mem_cons_self ..)
    have ih := filX_mem p h fun y hy => g y (List.mem_cons_of_mem _ hy)
    rw [g1, bnd_ret]
    cases e : p x with
    | true => rw [if_pos rfl, g2 e, bnd_ret, ih, bnd_ret, List.filter_cons_of_pos e]; rfl
    | false => rw [if_neg Bool.false_ne_true, ih, List.filter_cons_of_neg (by rw [e]; decide)]
theorem filX_ret {α β : Type} {p : α → Bool} {h : α → β} {xs : List α} : filX (fun x => ret (p x)) (fun x => ret (h x)) xs = ret ((xs.filter p).map h) := filX_mem p h fun x _ => ⟨rfl, fun _ => rfl⟩
theorem mapD_X {α : Type} {enc : α → D} {f : D → M (Option D)} {g : α → M D} (h : ∀ x, f (enc x) = bnd (g x) fun y => ret (some y)) : ∀ {xs : List α}, mapD f (xs.map enc) = mapX g xs
  | [] => rfl
  | x :: xs => by
    rw [List.map_cons]
    unfold mapD mapX
    rw [h, bnd_bnd, mapD_X h]
    congr 1
theorem mapD_F {α : Type} {enc : α → D} {f : D → M (Option D)} {c : α → M Bool} {g : α → M D} (h : ∀ x, f (enc x) = bnd (c x) fun b => if b then bnd (g x) fun y => ret (some y) else ret none) : ∀ {xs : List α}, mapD f (xs.map enc) = filX c g xs
  | [] => rfl
  | x :: xs => by
    rw [List.map_cons]
    unfold mapD filX
    rw [h, bnd_bnd, mapD_F h]
    congr 1
    funext b
    cases b with
    | true => rw [if_pos rfl, if_pos rfl, bnd_bnd]; congr 1
    | false =>
      rw [if_neg Bool.false_ne_true, if_neg Bool.false_ne_true, bnd_ret]
      funext w
      unfold bnd
      cases filX c g xs w <;> rfl
theorem cmp_t {α : Type} {enc : α → D} {xs : List α} : compK elt t (.lit (.bool true)) ρ (xs.map enc) = bnd (mapX (fun x => bindE t (enc x) (wipeE ρ t.slots) (den elt)) xs) fun l => ret (.list l) := by
  unfold compK
  rw [mapD_X (g := fun x => bindE t (enc x) (wipeE ρ t.slots) (den elt))]
  intro x
  unfold bindE
  cases bindT t (enc x) (wipeE ρ t.slots) with
  | none => rfl
  | some ρ' =>
    show bnd (bnd (ret (.bool true)) asB) _ = _
    rw [bnd_ret, asB_bool, bnd_ret, if_pos rfl]
theorem cmp_any {α : Type} {enc : α → D} {cond : E} {xs : List α} : compK elt t cond ρ (xs.map enc) = bnd (filX (fun x => bindE t (enc x) (wipeE ρ t.slots) fun ρ' => bnd (den cond ρ') asB) (fun x => bindE t (enc x) (wipeE ρ t.slots) (den elt)) xs) fun l => ret (.list l) := by
  unfold compK
  rw [mapD_F (c := fun x => bindE t (enc x) (wipeE ρ t.slots) fun ρ' => bnd (den cond ρ') asB) (g := fun x => bindE t (enc x) (wipeE ρ t.slots) (den elt))]
  intro x
  unfold bindE
  cases bindT t (enc x) (wipeE ρ t.slots) with
  | none => rfl
  | some ρ' => rfl
theorem cmp_c {α : Type} {enc : α → D} {q : COp} {a b : E} {xs : List α} : compK elt t (.cmp q a b) ρ (xs.map enc) = bnd (filX (fun x => bindE t (enc x) (wipeE ρ t.slots) fun ρ' => bnd (den (.cmp q a b) ρ') asB) (fun x => bindE t (enc x) (wipeE ρ t.slots) (den elt)) xs) fun l => ret (.list l) := cmp_any
theorem cmp_n {α : Type} {enc : α → D} {a : E} {xs : List α} : compK elt t (.not a) ρ (xs.map enc) = bnd (filX (fun x => bindE t (enc x) (wipeE ρ t.slots) fun ρ' => bnd (den (.not a) ρ') asB) (fun x => bindE t (enc x) (wipeE ρ t.slots) (den elt)) xs) fun l => ret (.list l) := cmp_any
theorem cmp_call {α : Type} {enc : α → D} {x : Str} {n : Nat} {f : List D → M D} {es : E} {xs : List α} : compK elt t (.call x n f es) ρ (xs.map enc) = bnd (filX (fun y => bindE t (enc y) (wipeE ρ t.slots) fun ρ' => bnd (den (.call x n f es) ρ') asB) (fun x => bindE t (enc x) (wipeE ρ t.slots) (den elt)) xs) fun l => ret (.list l) := cmp_any
theorem cmp_a {α : Type} {enc : α → D} {a b : E} {xs : List α} : compK elt t (.and a b) ρ (xs.map enc) = bnd (filX (fun x => bindE t (enc x) (wipeE ρ t.slots) fun ρ' => bnd (den (.and a b) ρ') asB) (fun x => bindE t (enc x) (wipeE ρ t.slots) (den elt)) xs) fun l => ret (.list l) := cmp_any
theorem cmp_o {α : Type} {enc : α → D} {a b : E} {xs : List α} : compK elt t (.or a b) ρ (xs.map enc) = bnd (filX (fun x => bindE t (enc x) (wipeE ρ t.slots) fun ρ' => bnd (den (.or a b) ρ') asB) (fun x => bindE t (enc x) (wipeE ρ t.slots) (den elt)) xs) fun l => ret (.list l) := cmp_any
/-- a loop whose slots stand fast -/
theorem for_fold {α σ : Type} {enc : α → D} (E : σ → Ev) (step : σ → α → σ) : ∀ {xs : List α} {s : σ}, (∀ s x, x ∈ xs → forK t B (enc x) (E s) = ret (.nx (E (step s x)))) → forE t B (E s) (xs.map enc) = ret (.nx (E (xs.foldl step s)))
  | [], s, _ => rfl
  | x :: xs, s, h => by
    rw [List.map_cons, for_cons, h s x (List.mem_cons_self ..), bnd_ret]
    exact for_fold E step fun s y hy => h s y (List.mem_cons_of_mem _ hy)
/-- .. with what holds by its turns -/
theorem for_inv {α σ : Type} {enc : α → D} (E : σ → Ev) (step : σ → α → σ) (I : Nat → σ → Prop) : ∀ {xs : List α} {s : σ} {n : Nat}, I n s → (∀ k s x, x ∈ xs → n ≤ k → k < n + xs.length → I k s → forK t B (enc x) (E s) = ret (.nx (E (step s x))) ∧ I (k + 1) (step s x)) → forE t B (E s) (xs.map enc) = ret (.nx (E (xs.foldl step s))) ∧ I (n + xs.length) (xs.foldl step s)
  | [], s, n, hI, _ => ⟨rfl, hI⟩
  | x :: xs, s, n, hI, h => by
    obtain ⟨h1, h2⟩ := h n s x (List.mem_cons_self ..) (Nat.le_refl _) (by rw [List.length_cons]; omega) hI
    obtain ⟨g1, g2⟩ := for_inv E step I h2 fun k s y hy hk hk2 => h k s y (List.mem_cons_of_mem _ hy) (by omega) (by rw [List.length_cons]; omega)
    refine ⟨?_, ?_⟩
    · rw [List.map_cons, for_cons, h1, bnd_ret]
      exact g1
    · rw [List.length_cons, List.foldl_cons, Nat.add_comm xs.length 1, ← Nat.add_assoc]
      exact g2
/-- a loop that lays one thing a turn -/
theorem for_push {α β : Type} {enc : α → D} {enc' : β → D} (E : List β → Ev) (g : α → β) {xs : List α} {s : List β} (hz : s.length + xs.length ≤ sizeLine) (h : ∀ s x, x ∈ xs → s.length < sizeLine → forK t B (enc x) (E s) = ret (.nx (E (s ++ [g x])))) : forE t B (E s) (xs.map enc) = ret (.nx (E (s ++ xs.map g))) := by
  have := (for_inv (t := t) (B := B) (enc := enc) E (fun s x => s ++ [g x]) (fun k l => l.length = k) (xs := xs) (s := s) (n := s.length) rfl fun k l x hx h1 h2 hl => ⟨h l x hx (by omega), by rw [List.length_append, hl]; rfl⟩).1
  rw [this]
  congr 2
  clear this h hz
  congr 1
  induction xs generalizing s with
  | nil => simp
  | cons x xs ih => rw [List.foldl_cons, ih, List.map_cons, List.append_assoc]; rfl
/-- a loop that may be left -/
def untilF {α σ : Type} (step : σ → α → σ ⊕ D) : List α → σ → σ ⊕ D
  | [], s => .inl s
  | x :: xs, s => match step s x with | .inl s' => untilF step xs s' | .inr d => .inr d
def endO {σ : Type} (E : σ → Ev) : σ ⊕ D → O | .inl s => .nx (E s) | .inr d => .rt d
theorem for_until {α σ : Type} {enc : α → D} (E : σ → Ev) (step : σ → α → σ ⊕ D) : ∀ {xs : List α} {s : σ}, (∀ s x, x ∈ xs → forK t B (enc x) (E s) = ret (endO E (step s x))) → forE t B (E s) (xs.map enc) = ret (endO E (untilF step xs s))
  | [], s, _ => rfl
  | x :: xs, s, h => by
    rw [List.map_cons, for_cons, h s x (List.mem_cons_self ..), bnd_ret]
    unfold untilF
    cases e : step s x with
    | inl s' => exact for_until E step fun s y hy => h s y (List.mem_cons_of_mem _ hy)
    | inr d => rfl
/-- a loop that is never left: with draws, by its turns -/
theorem for_dn {ds : List D} {σ : Type} (E : σ → Ev) (I : Nat → σ → Prop) : ∀ {ds : List D} {s : σ} {n : Nat}, I n s → (∀ k s d, d ∈ ds → n ≤ k → k < n + ds.length → I k s → Does (forK t B d (E s)) fun o => ∃ s', o = .nx (E s') ∧ I (k + 1) s') → Does (forE t B (E s) ds) fun o => ∃ s', o = .nx (E s') ∧ I (n + ds.length) s'
  | [], s, n, hI, _ => .ret ⟨s, rfl, hI⟩
  | d :: ds, s, n, hI, h => by
    rw [for_cons]
    refine (h n s d (List.mem_cons_self ..) (Nat.le_refl _) (by rw [List.length_cons]; omega) hI).bnd fun o ⟨s', e, h1⟩ => ?_
    subst e
    have := for_dn (ds := ds) E I h1 fun k s y hy hk hk2 => h k s y (List.mem_cons_of_mem _ hy) (by omega) (by rw [List.length_cons]; omega)
    rw [List.length_cons, Nat.add_comm ds.length 1, ← Nat.add_assoc]
    exact this
end
end Dn
/-! Plain: gaps made small. The values of a row of lags may be drawn together so that no gap is more than D, and what keeps rules of lags at most D apart keeps them still. -/
namespace Tight
def cov (D : Int) (vals : List Int) (t : Int) : Bool := vals.any fun u => decide (u < t ∧ t ≤ u + D)
/-- how many of v + 1 .. v + n are near above a value -/
def cc (D : Int) (vals : List Int) (v : Int) : Nat → Nat
  | 0 => 0
  | n + 1 => cc D vals v n + (if cov D vals (v + 1 + n) then 1 else 0)
variable {D : Int} {vals : List Int}
theorem cc_add (v : Int) (a : Nat) : ∀ b : Nat, cc D vals v (a + b) = cc D vals v a + cc D vals (v + a) b
  | 0 => rfl
  | b + 1 => by
    show cc D vals v (a + b) + (if cov D vals (v + 1 + ((a + b : Nat) : Int)) then 1 else 0) = cc D vals v a + (cc D vals (v + a) b + (if cov D vals (v + a + 1 + (b : Int)) then 1 else 0))
    rw [cc_add v a b, show v + 1 + ((a + b : Nat) : Int) = v + a + 1 + (b : Int) by omega]
    omega
theorem cov_of {u t : Int} (h : u ∈ vals) (h1 : u < t) (h2 : t ≤ u + D) : cov D vals t = true :=
  List.any_eq_true.mpr ⟨u, h, decide_eq_true ⟨h1, h2⟩⟩
/-- all of the first D above a value count -/
theorem cc_full {u : Int} (h : u ∈ vals) : ∀ n : Nat, (n : Int) ≤ D → cc D vals u n = n
  | 0, _ => rfl
  | n + 1, hn => by
    show cc D vals u n + (if cov D vals (u + 1 + (n : Int)) then 1 else 0) = n + 1
    rw [cc_full h n (by omega), cov_of (D := D) h (by omega) (by omega)]
    rfl
theorem cc_many {u : Int} (hD : 0 ≤ D) (h : u ∈ vals) {n : Nat} (hn : D ≤ n) : D ≤ cc D vals u n := by
  have e := cc_full (D := D) h D.toNat (by omega)
  have e2 := cc_add (D := D) (vals := vals) u D.toNat (n - D.toNat)
  rw [show D.toNat + (n - D.toNat) = n by omega] at e2
  omega
theorem cc_le_one {D v u : Int} (hD : 0 ≤ D) : ∀ n : Nat, (cc D [u] v n : Int) ≤ D ∧ (cc D [u] v n : Int) ≤ max 0 (v + n - u)
  | 0 => ⟨by show (0 : Int) ≤ D; exact hD, by show (0 : Int) ≤ _; omega⟩
  | n + 1 => by
    obtain ⟨h1, h2⟩ := cc_le_one (v := v) (u := u) hD n
    have e : cc D [u] v (n + 1) = cc D [u] v n + (if cov D [u] (v + 1 + (n : Int)) then 1 else 0) := rfl
    rw [e]
    by_cases hc : cov D [u] (v + 1 + (n : Int)) = true
    · rw [if_pos hc]
      simp [cov] at hc
      omega
    · rw [if_neg hc]
      omega
theorem cov_cons {u t : Int} : cov D (u :: vals) t = (cov D [u] t || cov D vals t) := by
  simp [cov]
theorem cc_cons (u v : Int) : ∀ n : Nat, cc D (u :: vals) v n ≤ cc D [u] v n + cc D vals v n
  | 0 => Nat.le_refl _
  | n + 1 => by
    have ih := cc_cons u v n
    show cc D (u :: vals) v n + (if cov D (u :: vals) (v + 1 + (n : Int)) then 1 else 0) ≤ (cc D [u] v n + (if cov D [u] (v + 1 + (n : Int)) then 1 else 0)) + (cc D vals v n + (if cov D vals (v + 1 + (n : Int)) then 1 else 0))
    rw [cov_cons]
    cases cov D [u] (v + 1 + (n : Int)) <;> cases cov D vals (v + 1 + (n : Int)) <;> simp <;> omega
theorem cc_le (hD : 0 ≤ D) (v : Int) (n : Nat) : ∀ vals : List Int, (cc D vals v n : Int) ≤ D * vals.length
  | [] => by
    have e : ∀ n, cc D [] v n = 0 := fun n => by
      induction n with
      | zero => rfl
      | succ n ih =>
        show cc D [] v n + 0 = 0
        rw [ih]
    rw [e]
    simp
  | u :: vals => by
    have h1 := cc_cons (D := D) (vals := vals) u v n
    have h2 := (cc_le_one (D := D) (v := v) (u := u) hD n).1
    have h3 := cc_le hD v n vals
    rw [List.length_cons, show ((vals.length + 1 : Nat) : Int) = (vals.length : Int) + 1 by omega, Int.mul_add]
    omega
/-- the values drawn together, all at most m -/
def phi (D M m : Int) (vals : List Int) (v : Int) : Int := m - cc D vals v (M - v).toNat
theorem phi_le {M m v : Int} : phi D M m vals v ≤ m := by unfold phi; omega
theorem phi_ge {M m v : Int} (hD : 0 ≤ D) : m - D * vals.length ≤ phi D M m vals v := by
  have := cc_le hD v (M - v).toNat vals
  unfold phi
  omega
theorem phi_diff {M m u v : Int} (h1 : u ≤ v) (h2 : v ≤ M) : phi D M m vals v - phi D M m vals u = cc D vals u (v - u).toNat := by
  have e := cc_add (D := D) (vals := vals) u (v - u).toNat (M - v).toNat
  rw [show (v - u).toNat + (M - v).toNat = (M - u).toNat by omega, show u + ((v - u).toNat : Int) = v by omega] at e
  unfold phi
  omega
/-- a rule u - v <= c with c at most D apart from 0 is kept -/
theorem phi_rule {M m u v c : Int} (hD : 0 ≤ D) (hu : u ∈ vals) (hv : v ∈ vals) (hM : u ≤ M ∧ v ≤ M) (hc : -D ≤ c ∧ c ≤ D) (h : u - v ≤ c) : phi D M m vals u - phi D M m vals v ≤ c := by
  by_cases huv : v ≤ u
  · have e := phi_diff (D := D) (vals := vals) (m := m) huv hM.1
    have e2 := cc_full (D := D) hv (u - v).toNat (by omega)
    omega
  · have e := phi_diff (D := D) (vals := vals) (m := m) (show u ≤ v by omega) hM.2
    by_cases hd : v - u ≤ D
    · have e2 := cc_full (D := D) hu (v - u).toNat (by omega)
      omega
    · have e2 := cc_many hD hu (n := (v - u).toNat) (by omega)
      omega
end Tight
namespace Dn.DL
open PySem
abbrev La := Option Int
def optD : La → D | none => .none | some i => .int i
def rowD (r : List La) : D := .tuple (r.map optD)
def tabD (t : List (List La)) : D := .tuple (t.map rowD)
def later : La → La → La
  | none, b => b
  | a, none => a
  | some a, some b => some (if b > a then b else a)
def added : La → La → La
  | some a, some b => some (a + b)
  | _, _ => none
def isBy : La → La → Bool
  | none, _ => true
  | some a, some b => decide (a ≤ b)
  | _, _ => false
def latestOf (l : List La) : La := l.foldl later none
def sumOf (r t : List La) : La := latestOf (List.zipWith added r t)
def bothOf (a b : List La) : List La := List.zipWith later a b
def shiftOf (a : List La) (k : Int) : List La := a.map fun x => added x (some k)
theorem bools_map {α : Type} (p : α → Bool) : ∀ xs : List α, boolsOf (xs.map fun x => PyData.bool (p x)) = some (xs.map p)
  | [] => rfl
  | x :: xs => by rw [List.map_cons, boolsOf, bools_map p xs]; rfl
def rowBy (a b : List La) : Bool := (a.zip b).all fun p => isBy p.1 p.2
theorem tup_row {r : List La} : isIn (rowD r) .tup = true := rfl
def lagOk : La → Bool
  | none => true
  | some i => decide (-1000 ≤ i ∧ i ≤ 1000)
def rowOk (r : List La) (wide : Nat) : Prop := r.length = wide ∧ ∀ x ∈ r, lagOk x = true
def tabOk (t : List (List La)) (high wide : Nat) : Prop := t.length = high ∧ 1 ≤ high ∧ high ≤ 6 ∧ 1 ≤ wide ∧ wide ≤ 6 ∧ ∀ r ∈ t, rowOk r wide
theorem tup_tab {t : List (List La)} : isIn (tabD t) .tup = true := rfl
theorem tabOk.head {t : List (List La)} {high wide : Nat} (h : tabOk t high wide) : ∃ r, t[0]? = some r ∧ r.length = wide := by
  obtain ⟨h1, h2, _, _, _, h6⟩ := h
  cases t with
  | nil => simp at h1; omega
  | cons r t => exact ⟨r, rfl, (h6 r (List.mem_cons_self ..)).1⟩
def applyOf (t : List (List La)) (x : List La) : List La := t.map fun r => sumOf r x
def colOf (t : List (List La)) (k : Nat) : List La := t.map fun r => (r[k]?).getD none
def turnedOf (t : List (List La)) (wide : Nat) : List (List La) := (List.range wide).map (colOf t)
theorem getD_ok {r : List La} {k : Nat} (h : k < r.length) : r[k]? = some ((r[k]?).getD none) := by
  rw [List.getElem?_eq_getElem h]; rfl
def productOf (a b : List (List La)) (deep : Nat) : List (List La) := a.map fun r => (turnedOf b deep).map fun c => sumOf r c
def plain : Nat → D → Prop
  | _, .none => True
  | _, .bool _ => True
  | _, .int _ => True
  | _, .str x => PyData.canLay0 (.str x) = true
  | n + 1, .tuple xs => xs.length ≤ 1000 ∧ ∀ x ∈ xs, plain n x
  | n + 1, .list xs => xs.length ≤ 1000 ∧ ∀ x ∈ xs, plain n x
  | _, _ => False
theorem lay_all : ∀ {xs : List D}, (∀ x ∈ xs, PyData.canLay0 x = true) → PyData.canLayAll0 xs = true
  | [], _ => rfl
  | x :: xs, h => by
    simp only [PyData.canLayAll0, Bool.and_eq_true]
    exact ⟨h x (List.mem_cons_self ..), lay_all fun y hy => h y (List.mem_cons_of_mem _ hy)⟩
theorem depth_all {n : Nat} : ∀ {xs : List D}, (∀ x ∈ xs, PyData.depth x ≤ n) → PyData.depthAll xs ≤ n
  | [], _ => Nat.zero_le _
  | x :: xs, h => by
    simp only [PyData.depthAll]
    exact Nat.max_le.mpr ⟨h x (List.mem_cons_self ..), depth_all fun y hy => h y (List.mem_cons_of_mem _ hy)⟩
theorem plain_lay : ∀ (n : Nat) (d : D), plain n d → PyData.canLay0 d = true ∧ PyData.depth d ≤ n
  | n, .none, _ => ⟨rfl, Nat.zero_le _⟩
  | n, .bool _, _ => ⟨rfl, Nat.zero_le _⟩
  | n, .int _, _ => ⟨rfl, Nat.zero_le _⟩
  | n, .str x, h => ⟨by cases n <;> exact h, Nat.zero_le _⟩
  | 0, .tuple xs, h => h.elim
  | 0, .list xs, h => h.elim
  | n + 1, .tuple xs, h => ⟨lay_all fun x hx => (plain_lay n x (h.2 x hx)).1, Nat.succ_le_succ (depth_all fun x hx => (plain_lay n x (h.2 x hx)).2)⟩
  | n + 1, .list xs, h => ⟨lay_all fun x hx => (plain_lay n x (h.2 x hx)).1, Nat.succ_le_succ (depth_all fun x hx => (plain_lay n x (h.2 x hx)).2)⟩
  | 0, .dict _, h => h.elim
  | n + 1, .dict _, h => h.elim
theorem plain_shaped {n : Nat} {d : D} (h : plain n d) (hn : n ≤ 64) : SeqAt.shaped d = true := by
  obtain ⟨h1, h2⟩ := plain_lay n d h
  unfold SeqAt.shaped
  rw [h1, decide_eq_true (Nat.le_trans h2 hn)]
  rfl
theorem get_lt {α : Type} {l : List α} {k : Nat} (h : k < l.length) : ∃ x, l[k]? = some x ∧ x ∈ l := ⟨l[k], List.getElem?_eq_getElem h, List.getElem_mem h⟩
def within (size : Int) : La → Prop
  | none => True
  | some i => -size ≤ i ∧ i ≤ size
def getL (r : List La) (k : Nat) : La := (r[k]?).getD none
theorem zip_range {γ : Type} {f : La → La → γ} : ∀ (a b : List La), a.length = b.length → List.zipWith f a b = (List.range a.length).map fun k => f (getL a k) (getL b k)
  | [], [], _ => rfl
  | x :: a, y :: b, h => by
    rw [List.length_cons, List.range_succ_eq_map, List.map_cons, List.map_map, List.zipWith_cons_cons, zip_range a b (by simpa using h)]
    rfl
  | [], _ :: _, h => by cases h
  | _ :: _, [], h => by cases h
theorem plain_opt (n : Nat) (a : La) : plain n (optD a) := by cases a <;> (cases n <;> trivial)
theorem plain_row {r : List La} (n : Nat) (h : r.length ≤ 1000) : plain (n + 1) (rowD r) := ⟨by rw [List.length_map]; exact h, fun x hx => by
  obtain ⟨a, _, rfl⟩ := List.mem_map.mp hx
  exact plain_opt n a⟩
theorem plain_tab {t : List (List La)} (n : Nat) (h : t.length ≤ 1000) (g : ∀ r ∈ t, r.length ≤ 1000) : plain (n + 2) (tabD t) := ⟨by rw [List.length_map]; exact h, fun x hx => by
  obtain ⟨a, ha, rfl⟩ := List.mem_map.mp hx
  exact plain_row n (g a ha)⟩
theorem within_ok {size : Int} {a : La} (h : within size a) (hs : size ≤ 1000) : lagOk a = true := by
  cases a with
  | none => rfl
  | some i =>
    obtain ⟨h1, h2⟩ := h
    exact decide_eq_true ⟨by omega, by omega⟩
theorem rowOk_of {r : List La} {wide : Nat} {size : Int} (h : r.length = wide) (g : ∀ x ∈ r, within size x) (hs : size ≤ 1000) : rowOk r wide := ⟨h, fun x hx => within_ok (g x hx) hs⟩
theorem rows_of {l : List D} {wide : Nat} {size : Int} (h : ∀ d ∈ l, ∃ r : List La, d = rowD r ∧ r.length = wide ∧ ∀ x ∈ r, within size x) : ∃ t : List (List La), l = t.map rowD ∧ ∀ r ∈ t, r.length = wide ∧ ∀ x ∈ r, within size x := by
  induction l with
  | nil => exact ⟨[], rfl, fun r h => by cases h⟩
  | cons d l ih =>
    obtain ⟨r, e, h1⟩ := h d (List.mem_cons_self ..)
    obtain ⟨t, e2, h2⟩ := ih fun d hd => h d (List.mem_cons_of_mem _ hd)
    refine ⟨r :: t, by rw [e, e2, List.map_cons], fun q hq => ?_⟩
    rcases List.mem_cons.mp hq with rfl | hq
    · exact h1
    · exact h2 q hq
theorem by_all {a b : List La} (h : a.length = b.length) : ((List.range a.length).filter fun k => !isBy (getL a k) (getL b k)).isEmpty = rowBy a b := by
  have e : rowBy a b = (List.zipWith isBy a b).all id := by
    unfold rowBy
    rw [← List.map_id (List.zipWith isBy a b), ← zip_back isBy id, List.all_map]
    rfl
  rw [e, zip_range a b h, List.all_map]
  generalize List.range a.length = l
  induction l with
  | nil => rfl
  | cons k l ih =>
    rw [List.filter_cons, List.all_cons, ← ih]
    show _ = (isBy (getL a k) (getL b k) && _)
    cases isBy (getL a k) (getL b k) <;> rfl
theorem len_both (a b : List La) : (bothOf a b).length = min a.length b.length := List.length_zipWith ..
theorem len_shift (a : List La) (k : Int) : (shiftOf a k).length = a.length := List.length_map ..
theorem len_apply (t : List (List La)) (x : List La) : (applyOf t x).length = t.length := List.length_map ..
theorem fold_tab {t : List (List La)} : PyData.tuple (t.map rowD) = tabD t := rfl
theorem later_comm (a b : La) : later a b = later b a := by
  cases a <;> cases b <;> first | rfl | (simp only [later]; congr 1; split <;> split <;> omega)
theorem later_assoc (a b c : La) : later (later a b) c = later a (later b c) := by
  cases a <;> cases b <;> cases c <;> first | rfl | (simp only [later]; congr 1; (repeat' split) <;> omega)
theorem later_none (a : La) : later a none = a := by cases a <;> rfl
theorem fold_later : ∀ (l : List La) (x : La), l.foldl later x = later x (latestOf l)
  | [], x => (later_none x).symm
  | y :: l, x => by
    have h1 := fold_later l (later x y)
    have h2 := fold_later l y
    show l.foldl later (later x y) = later x (l.foldl later (later none y))
    rw [h1, show later none y = y from rfl, h2, later_assoc]
theorem latest_cons (x : La) (l : List La) : latestOf (x :: l) = later x (latestOf l) := by
  show l.foldl later (later none x) = _
  rw [show later none x = x from rfl, fold_later]
theorem added_later (r a b : La) : added r (later a b) = later (added r a) (added r b) := by
  cases r <;> cases a <;> cases b <;> first | rfl | (simp only [later, added]; congr 1; split <;> split <;> omega)
theorem sum_both : ∀ (r a b : List La), a.length = b.length → sumOf r (bothOf a b) = later (sumOf r a) (sumOf r b)
  | [], a, b, _ => by cases a <;> cases b <;> rfl
  | x :: r, [], [], _ => rfl
  | x :: r, y :: a, z :: b, h => by
    have ih := sum_both r a b (by simpa using h)
    show latestOf (added x (later y z) :: List.zipWith added r (bothOf a b)) = later (latestOf (added x y :: List.zipWith added r a)) (latestOf (added x z :: List.zipWith added r b))
    rw [latest_cons, latest_cons, latest_cons, show latestOf (List.zipWith added r (bothOf a b)) = sumOf r (bothOf a b) from rfl, ih, added_later]
    show later (later (added x y) (added x z)) (later (sumOf r a) (sumOf r b)) = later (later (added x y) (sumOf r a)) (later (added x z) (sumOf r b))
    rw [later_assoc, later_assoc, ← later_assoc (added x z), later_comm (added x z), later_assoc]
  | x :: r, [], _ :: _, h => by cases h
  | x :: r, _ :: _, [], h => by cases h
theorem apply_both {t : List (List La)} {a b : List La} (h : a.length = b.length) : applyOf t (bothOf a b) = bothOf (applyOf t a) (applyOf t b) := by
  induction t with
  | nil => rfl
  | cons r t ih =>
    show sumOf r (bothOf a b) :: applyOf t (bothOf a b) = later (sumOf r a) (sumOf r b) :: bothOf (applyOf t a) (applyOf t b)
    rw [ih, sum_both r a b h]
theorem later_lag {a b : La} (ha : lagOk a = true) (hb : lagOk b = true) : lagOk (later a b) = true := by
  cases a <;> cases b <;> first | exact ha | exact hb | skip
  simp only [later]
  split
  · exact hb
  · exact ha
theorem both_ok {a b : List La} {wide : Nat} (ha : rowOk a wide) (hb : rowOk b wide) : rowOk (bothOf a b) wide := ⟨by rw [len_both, ha.1, hb.1, Nat.min_self], fun x hx => by
  obtain ⟨i, hi, rfl⟩ := List.getElem_of_mem hx
  unfold bothOf at hi ⊢
  rw [List.getElem_zipWith]
  exact later_lag (ha.2 _ (List.getElem_mem _)) (hb.2 _ (List.getElem_mem _))⟩
theorem fold_push {α β : Type} (f : α → β) : ∀ (l : List α) (s : List β), l.foldl (fun s x => s ++ [f x]) s = s ++ l.map f
  | [], s => (List.append_nil s).symm
  | x :: l, s => by rw [List.foldl_cons, fold_push f l, List.append_assoc]; rfl
def gapGo : La → List (La × La) → La
  | s, [] => s
  | s, (none, _) :: r => gapGo s r
  | _, (some _, none) :: _ => none
  | none, (some a, some b) :: r => gapGo (some (b - a)) r
  | some v, (some a, some b) :: r => gapGo (some (if b - a < v then b - a else v)) r
def gapOf (col goal : List La) : La := gapGo none (col.zip goal)
def dividedOf (t : List (List La)) (wide : Nat) (goal : List La) : List La := (turnedOf t wide).map fun c => gapOf c goal
def minOf : La → La → La
  | some a, some b => some (if b < a then b else a)
  | _, _ => none
def loweredBy (t : List (List La)) (wide : Nat) (goal x : List La) : List La := List.zipWith minOf x (dividedOf t wide goal)
theorem none_opt (a : La) : isNone (optD a) = a.isNone := by cases a <;> rfl
theorem ints_map {α : Type} (f : α → Int) : ∀ xs : List α, intsOf (xs.map fun x => PyData.int (f x)) = some (xs.map f)
  | [] => rfl
  | x :: xs => by rw [List.map_cons, intsOf, ints_map f xs]; rfl
def absI (i : Int) : Int := if i < 0 then -i else i
def absRow (r : List La) : List Int := (r.filter Option.isSome).map fun x => absI (x.getD 0)
def farRow (r : List La) : Int := maxI (0 :: absRow r)
def farTab (t : List (List La)) : Int := maxI (0 :: t.map farRow)
theorem max_ge (xs : List Int) (x : Int) : ∀ y ∈ x :: xs, y ≤ maxI (x :: xs) := (maxI_spec xs x).2
theorem small_line {n : Nat} (h : n ≤ 1000) : 1 + n ≤ sizeLine := Nat.le_trans (Nat.add_le_add_left h 1) (by decide)
def lowEl (right lag v : La) : La := match lag, v with
  | some l, some x => (match right with | none => none | some r => some (if r - l < x then r - l else x))
  | _, x => x
def lower (right : La) (a f : List La) : List La := List.zipWith (lowEl right) a f
theorem enum_enc (r : List La) : enumD (r.map optD) = ((List.range r.length).zip r).map fun p => PyData.tuple [.int (p.1 : Int), optD p.2] := by
  unfold enumD
  rw [List.length_map, List.zipWith_map_right, List.zip, List.map_zipWith]
theorem getL_set {l : List La} {k i : Nat} {v : La} (hk : k < l.length) : getL (l.set k v) i = if i = k then v else getL l i := by
  unfold getL
  by_cases e : i = k
  · subst e
    rw [List.getElem?_set_self hk, if_pos rfl]
    rfl
  · rw [List.getElem?_set_ne (fun h => e h.symm), if_neg e]
theorem ext_getL {a b : List La} (h : a.length = b.length) (g : ∀ i, i < a.length → getL a i = getL b i) : a = b := by
  refine List.ext_getElem h fun i h1 h2 => ?_
  have := g i h1
  unfold getL at this
  rw [List.getElem?_eq_getElem h1, List.getElem?_eq_getElem h2] at this
  exact this
theorem getL_zip {f : La → La → La} {a b : List La} {i : Nat} (h1 : i < a.length) (h2 : i < b.length) : getL (List.zipWith f a b) i = f (getL a i) (getL b i) := by
  unfold getL
  rw [List.getElem?_zipWith, List.getElem?_eq_getElem h1, List.getElem?_eq_getElem h2]
  rfl
theorem ixN_in {n j : Nat} (h : j < n) : L2.ixN n (j : Int) = some j := by
  unfold L2.ixN
  rw [if_pos (by omega), if_pos (by omega)]
  rfl
theorem set_opt (f : List La) (k : Nat) (v : La) : (f.map optD).set k (optD v) = (f.set k v).map optD := by rw [List.map_set]
def heldBack (pairs : List (List La × List La)) (x : List La) : List La := pairs.foldl (fun f p => lower (sumOf p.2 x) p.1 f) x
def pairD (p : List La × List La) : D := .tuple [rowD p.1, rowD p.2]
def taskD (wide : Nat) (pairs : List (List La × List La)) : D := .tuple [.int (wide : Int), .tuple (pairs.map pairD)]
theorem lower_len {right : La} {a f : List La} (h : a.length = f.length) : (lower right a f).length = f.length := by
  unfold lower
  rw [List.length_zipWith, h, Nat.min_self]
theorem big_two (n : Int) : (big 2 || big n) = true := by simp [big]
theorem big_small {m n : Int} (h : 0 ≤ n ∧ n ≤ 1000000) : (big m || big n) = true := by
  simp [big]
  right
  omega
def pairFar (p : List La × List La) : List Int := absRow (p.1 ++ p.2)
def farOf (pairs : List (List La × List La)) : Int := pairs.foldl (fun far p => maxI (far :: pairFar p)) 0
def reachOf (wide : Nat) (pairs : List (List La × List La)) : Int := 2 * farOf pairs * ((wide : Int) + 1) + 1
def leL : List La → List La → Prop
  | [], [] => True
  | y :: ys, x :: xs => isBy y x = true ∧ leL ys xs
  | _, _ => False
theorem isBy_refl (a : La) : isBy a a = true := by cases a <;> simp [isBy]
theorem isBy_trans {a b c : La} (h : isBy a b = true) (g : isBy b c = true) : isBy a c = true := by
  cases a <;> cases b <;> cases c <;> simp_all [isBy]
  omega
theorem leL_refl : ∀ x : List La, leL x x
  | [] => trivial
  | x :: xs => ⟨isBy_refl x, leL_refl xs⟩
theorem leL_trans : ∀ {a b c : List La}, leL a b → leL b c → leL a c
  | [], [], [], _, _ => trivial
  | _ :: _, _ :: _, _ :: _, h, g => ⟨isBy_trans h.1 g.1, leL_trans h.2 g.2⟩
  | [], _ :: _, _, h, _ => h.elim
  | _ :: _, [], _, h, _ => h.elim
  | [], [], _ :: _, _, g => g.elim
  | _ :: _, _ :: _, [], _, g => g.elim
theorem leL_len : ∀ {a b : List La}, leL a b → a.length = b.length
  | [], [], _ => rfl
  | _ :: _, _ :: _, h => by rw [List.length_cons, List.length_cons, leL_len h.2]
  | [], _ :: _, h => h.elim
  | _ :: _, [], h => h.elim
theorem lowEl_le (right lag v : La) : isBy (lowEl right lag v) v = true := by
  cases lag <;> cases v <;> cases right <;> simp [lowEl, isBy]
  split <;> omega
theorem lower_le (right : La) : ∀ {a f : List La}, a.length = f.length → leL (lower right a f) f
  | [], [], _ => trivial
  | l :: a, v :: f, h => ⟨lowEl_le right l v, lower_le right (by simpa using h)⟩
  | [], _ :: _, h => by cases h
  | _ :: _, [], h => by cases h
theorem fold_le {x : List La} : ∀ {pairs : List (List La × List La)} {f : List La}, (∀ p ∈ pairs, p.1.length = f.length) → leL (pairs.foldl (fun f p => lower (sumOf p.2 x) p.1 f) f) f
  | [], f, _ => leL_refl f
  | p :: pairs, f, h => by
    rw [List.foldl_cons]
    have h1 := h p (List.mem_cons_self ..)
    exact leL_trans (fold_le fun q hq => by rw [lower_len h1]; exact h q (List.mem_cons_of_mem _ hq)) (lower_le _ h1)
theorem held_le {pairs : List (List La × List La)} {x : List La} (h : ∀ p ∈ pairs, p.1.length = x.length) : leL (heldBack pairs x) x := fold_le h
def cutEl (fl : Int) : La → La
  | some v => if v < fl then none else some v
  | none => none
def cutRow (fl : Int) (r : List La) : List La := r.map (cutEl fl)
theorem cutEl_le (fl : Int) (a : La) : isBy (cutEl fl a) a = true := by
  cases a with
  | none => rfl
  | some v =>
    show isBy (if v < fl then none else some v) (some v) = true
    split <;> simp [isBy]
theorem cut_le (fl : Int) : ∀ r : List La, leL (cutRow fl r) r
  | [] => trivial
  | a :: r => ⟨cutEl_le fl a, cut_le fl r⟩
def okFl (fl : Int) : La → Prop
  | some v => fl ≤ v
  | none => True
theorem cut_ok (fl : Int) (r : List La) : ∀ a ∈ cutRow fl r, okFl fl a := fun a h => by
  obtain ⟨b, _, rfl⟩ := List.mem_map.mp h
  cases b with
  | none => trivial
  | some v =>
    show okFl fl (if v < fl then none else some v)
    split
    · trivial
    · show fl ≤ v
      omega
def emu (fl : Int) : La → Nat
  | some v => (v - fl + 1).toNat
  | none => 0
def mu (fl : Int) : List La → Nat
  | [] => 0
  | a :: r => emu fl a + mu fl r
theorem emu_le {fl : Int} {a b : La} (h : isBy a b = true) : emu fl a ≤ emu fl b := by
  cases a <;> cases b <;> simp_all [isBy, emu]
  omega
theorem emu_lt {fl : Int} {a b : La} (h : isBy a b = true) (hb : okFl fl b) (hn : a ≠ b) : emu fl a < emu fl b := by
  cases a with
  | none =>
    cases b with
    | none => exact absurd rfl hn
    | some w =>
      have hb : fl ≤ w := hb
      show 0 < (w - fl + 1).toNat
      omega
  | some v =>
    cases b with
    | none => simp [isBy] at h
    | some w =>
      have hb : fl ≤ w := hb
      have h1 : v ≤ w := by simpa [isBy] using h
      have h2 : v ≠ w := fun e => hn (by rw [e])
      show (v - fl + 1).toNat < (w - fl + 1).toNat
      omega
theorem mu_le {fl : Int} : ∀ {a b : List La}, leL a b → mu fl a ≤ mu fl b
  | [], [], _ => Nat.le_refl _
  | _ :: _, _ :: _, h => Nat.add_le_add (emu_le h.1) (mu_le h.2)
  | [], _ :: _, h => h.elim
  | _ :: _, [], h => h.elim
theorem mu_lt {fl : Int} : ∀ {a b : List La}, leL a b → (∀ x ∈ b, okFl fl x) → a ≠ b → mu fl a < mu fl b
  | [], [], _, _, hn => absurd rfl hn
  | y :: ys, x :: xs, h, hb, hn => by
    by_cases e : y = x
    · subst e
      have ih := mu_lt h.2 (fun z hz => hb z (List.mem_cons_of_mem _ hz)) fun e => hn (by rw [e])
      show emu fl y + mu fl ys < emu fl y + mu fl xs
      omega
    · have h1 := emu_lt h.1 (hb x (List.mem_cons_self ..)) e
      have h2 := mu_le (fl := fl) h.2
      show emu fl y + mu fl ys < emu fl x + mu fl xs
      omega
  | [], _ :: _, h, _, _ => h.elim
  | _ :: _, [], h, _, _ => h.elim
theorem mu_bound {fl : Int} {top : Nat} : ∀ {x : List La}, (∀ a ∈ x, emu fl a ≤ top) → mu fl x ≤ x.length * top
  | [], _ => Nat.zero_le _
  | a :: r, h => by
    have h1 := h a (List.mem_cons_self ..)
    have h2 := mu_bound (fl := fl) fun b hb => h b (List.mem_cons_of_mem _ hb)
    show emu fl a + mu fl r ≤ (r.length + 1) * top
    rw [Nat.add_mul]
    omega
theorem eqv_opt (a b : La) : PyData.eqv (optD a) (optD b) = decide (a = b) := by
  cases a with
  | none => cases b <;> simp [optD, PyData.eqv]
  | some v =>
    cases b with
    | none => simp [optD, PyData.eqv]
    | some w =>
      show (v == w) = decide (some v = some w)
      by_cases e : v = w
      · subst e
        simp
      · simp [e]
theorem eqv_all : ∀ a b : List La, PyData.eqvAll (a.map optD) (b.map optD) = decide (a = b)
  | [], [] => rfl
  | [], _ :: _ => rfl
  | _ :: _, [] => rfl
  | x :: a, y :: b => by
    show (PyData.eqv (optD x) (optD y) && PyData.eqvAll (a.map optD) (b.map optD)) = _
    rw [eqv_opt, eqv_all a b]
    simp
def valsOf (x : List La) : List Int := (x.filter Option.isSome).map fun a => a.getD 0
theorem some_plain {x : List La} (h : x.length ≤ 1000) : plain 1 (.list ((x.filter Option.isSome).map fun a => PyData.int (a.getD 0))) := ⟨by
  rw [List.length_map]
  exact Nat.le_trans (List.length_filter_le ..) h, fun y hy => by
  obtain ⟨_, _, rfl⟩ := List.mem_map.mp hy
  trivial⟩
theorem min_le (xs : List Int) (x : Int) : ∀ y ∈ x :: xs, minI (x :: xs) ≤ y := (minI_spec xs x).2
def stepB (pairs : List (List La × List La)) (fl : Int) (x : List La) : List La := cutRow fl (heldBack pairs x)
theorem step_le {pairs : List (List La × List La)} {fl : Int} {x : List La} (h : ∀ p ∈ pairs, p.1.length = x.length) : leL (stepB pairs fl x) x := leL_trans (cut_le fl _) (held_le h)
def floorB (wide : Nat) (pairs : List (List La × List La)) (x : List La) : Int := minI (valsOf x) - reachOf wide pairs
def nextT (one other : List (List La)) (wide deep : Nat) (fl : Int) (x : List La) : List La :=
  cutRow fl (loweredBy one wide (applyOf other (dividedOf other deep (applyOf one x))) x)
def goalT (one other : List (List La)) (deep : Nat) (x : List La) : List La := applyOf other (dividedOf other deep (applyOf one x))
theorem minOf_le (a b : La) : isBy (minOf a b) a = true := by
  cases a <;> cases b <;> simp [minOf, isBy]
  split <;> omega
theorem zip_min_le : ∀ {x y : List La}, x.length = y.length → leL (List.zipWith minOf x y) x
  | [], [], _ => trivial
  | a :: x, b :: y, h => ⟨minOf_le a b, zip_min_le (by simpa using h)⟩
  | [], _ :: _, h => by cases h
  | _ :: _, [], h => by cases h
theorem div_len (t : List (List La)) (wide : Nat) (g : List La) : (dividedOf t wide g).length = wide := by
  unfold dividedOf turnedOf
  rw [List.length_map, List.length_map, List.length_range]
theorem next_le {one other : List (List La)} {wide deep : Nat} {fl : Int} {x : List La} (hx : x.length = wide) : leL (nextT one other wide deep fl x) x :=
  leL_trans (cut_le fl _) (zip_min_le (by rw [div_len, hx]))
def farT (one other : List (List La)) : Int := farTab (one ++ other)
def floorT (one other : List (List La)) (wide deep : Nat) (x : List La) : Int := minI (valsOf x) - 2 * ((wide : Int) + (deep : Int)) * farT one other
def chainT (nx : List La → List La) (x0 : List La) (l : List (List La)) : Prop := l[0]? = some x0 ∧ ∀ (k : Nat) a b, l[k]? = some a → l[k + 1]? = some b → b = nx a ∧ b ≠ a
theorem chain_push {nx : List La → List La} {x0 : List La} {pre : List (List La)} {x : List La} (h : chainT nx x0 (pre ++ [x])) (hn : nx x ≠ x) : chainT nx x0 (pre ++ [x] ++ [nx x]) := by
  refine ⟨?_, fun k a b h1 h2 => ?_⟩
  · rw [List.getElem?_append_left (by rw [List.length_append, List.length_singleton]; omega)]
    exact h.1
  · have hl : (pre ++ [x] ++ [nx x]).length = pre.length + 2 := by simp
    have hk : k + 1 < pre.length + 2 := by rw [← hl]; exact (List.getElem?_eq_some_iff.mp h2).1
    by_cases e : k = pre.length
    · subst e
      rw [List.getElem?_append_left (by simp), List.getElem?_append_right (Nat.le_refl _), Nat.sub_self] at h1
      rw [List.getElem?_append_right (by simp)] at h2
      simp at h1 h2
      subst h1 h2
      exact ⟨rfl, hn⟩
    · rw [List.getElem?_append_left (by simp; omega)] at h1 h2
      exact h.2 k a b h1 h2
theorem big_left {m n : Int} (h : 0 ≤ m ∧ m ≤ 1000000) : (big m || big n) = true := by
  simp [big]
  left
  omega
def lagsGo : List (La × La) → List La
  | [] => []
  | (none, _) :: r => lagsGo r
  | (some _, none) :: r => none :: lagsGo r
  | (some a, some b) :: r => some (b - a) :: lagsGo r
theorem gap_none : ∀ {xs : List (La × La)} {s : La}, none ∈ lagsGo xs → gapGo s xs = none
  | (none, _) :: r, s, h => gap_none (xs := r) h
  | (some _, none) :: r, s, h => by cases s <;> rfl
  | (some a, some b) :: r, none, h => gap_none (xs := r) (by
      rcases List.mem_cons.mp h with h | h
      · cases h
      · exact h)
  | (some a, some b) :: r, some v, h => gap_none (xs := r) (by
      rcases List.mem_cons.mp h with h | h
      · cases h
      · exact h)
theorem gap_some : ∀ {xs : List (La × La)} {s : La}, none ∉ lagsGo xs → (∀ v, gapGo s xs = some v → (s = some v ∨ some v ∈ lagsGo xs) ∧ (∀ u, s = some u → v ≤ u) ∧ ∀ u, some u ∈ lagsGo xs → v ≤ u) ∧ (gapGo s xs = none → s = none ∧ lagsGo xs = [])
  | [], s, h => ⟨fun v e => ⟨.inl e, fun u e2 => by
      have e : s = some v := e
      rw [e] at e2; cases e2; exact Int.le_refl _, fun u hu => by cases hu⟩, fun e => ⟨e, rfl⟩⟩
  | (none, _) :: r, s, h => gap_some (xs := r) (s := s) h
  | (some _, none) :: r, s, h => absurd (List.mem_cons_self ..) h
  | (some a, some b) :: r, none, h => by
    have hr : none ∉ lagsGo r := fun h2 => h (List.mem_cons_of_mem _ h2)
    obtain ⟨h1, h2⟩ := gap_some (xs := r) (s := some (b - a)) hr
    refine ⟨fun v e => ?_, fun e => ?_⟩
    · obtain ⟨g1, g2, g3⟩ := h1 v e
      refine ⟨.inr ?_, (fun u e => by cases e), fun u hu => ?_⟩
      · rcases g1 with g1 | g1
        · rw [← g1]; exact List.mem_cons_self ..
        · exact List.mem_cons_of_mem _ g1
      · rcases List.mem_cons.mp hu with hu | hu
        · cases hu; exact g2 _ rfl
        · exact g3 u hu
    · obtain ⟨e1, _⟩ := h2 e
      cases e1
  | (some a, some b) :: r, some w, h => by
    have hr : none ∉ lagsGo r := fun h2 => h (List.mem_cons_of_mem _ h2)
    obtain ⟨h1, h2⟩ := gap_some (xs := r) (s := some (if b - a < w then b - a else w)) hr
    refine ⟨fun v e => ?_, fun e => ?_⟩
    · obtain ⟨g1, g2, g3⟩ := h1 v e
      have hm := g2 _ rfl
      refine ⟨?_, fun u e => ?_, fun u hu => ?_⟩
      · rcases g1 with g1 | g1
        · by_cases c : b - a < w
          · rw [if_pos c] at g1
            rw [← g1]
            exact .inr (List.mem_cons_self ..)
          · rw [if_neg c] at g1
            exact .inl g1
        · exact .inr (List.mem_cons_of_mem _ g1)
      · cases e
        split at hm <;> omega
      · rcases List.mem_cons.mp hu with hu | hu
        · cases hu
          split at hm <;> omega
        · exact g3 u hu
    · obtain ⟨e1, _⟩ := h2 e
      cases e1
theorem lags_append : ∀ (xs ys : List (La × La)), lagsGo (xs ++ ys) = lagsGo xs ++ lagsGo ys
  | [], ys => rfl
  | (none, _) :: r, ys => lags_append r ys
  | (some _, none) :: r, ys => by
    show none :: lagsGo (r ++ ys) = none :: (lagsGo r ++ lagsGo ys)
    rw [lags_append r ys]
  | (some a, some b) :: r, ys => by
    show some (b - a) :: lagsGo (r ++ ys) = some (b - a) :: (lagsGo r ++ lagsGo ys)
    rw [lags_append r ys]
theorem lags_len : ∀ xs : List (La × La), (lagsGo xs).length ≤ xs.length
  | [] => Nat.le_refl _
  | (none, _) :: r => Nat.le_succ_of_le (lags_len r)
  | (some _, none) :: r => Nat.succ_le_succ (lags_len r)
  | (some _, some _) :: r => Nat.succ_le_succ (lags_len r)
theorem lags_ne : ∀ {xs : List (La × La)}, (∃ p ∈ xs, p.1 ≠ none) → lagsGo xs ≠ []
  | (none, _) :: r, ⟨p, hp, hn⟩ => by
    rcases List.mem_cons.mp hp with rfl | hp
    · exact absurd rfl hn
    · exact lags_ne (xs := r) ⟨p, hp, hn⟩
  | (some _, none) :: r, _ => by intro e; cases e
  | (some _, some _) :: r, _ => by intro e; cases e
  | [], ⟨_, hp, _⟩ => by cases hp
theorem gap_min {xs : List (La × La)} (h : none ∉ lagsGo xs) (hn : lagsGo xs ≠ []) : gapGo none xs = some (minI ((lagsGo xs).map fun a => a.getD 0)) := by
  obtain ⟨g1, g2⟩ := gap_some (s := none) h
  cases e : gapGo none xs with
  | none => exact absurd (g2 e).2 hn
  | some v =>
    obtain ⟨m1, _, m3⟩ := g1 v e
    have hv : some v ∈ lagsGo xs := by
      rcases m1 with m1 | m1
      · cases m1
      · exact m1
    cases el : lagsGo xs with
    | nil => exact absurd el hn
    | cons a r =>
      have sp := minI_spec (r.map fun a => a.getD 0) (a.getD 0)
      have i1 : minI ((a :: r).map fun a => a.getD 0) ∈ (a :: r).map fun a => a.getD 0 := sp.1
      have i2 : minI ((a :: r).map fun a => a.getD 0) ≤ v := by
        refine sp.2 v ?_
        rw [el] at hv
        have hm : v ∈ (a :: r).map fun a => a.getD 0 := List.mem_map.mpr ⟨some v, hv, rfl⟩
        exact hm
      obtain ⟨b, hb, eb⟩ := List.mem_map.mp i1
      cases b with
      | none => exact absurd (by rw [el]; exact hb) h
      | some u =>
        have i3 := m3 u (by rw [el]; exact hb)
        have eb : u = minI ((a :: r).map fun a => a.getD 0) := eb
        congr 1
        omega
theorem zip_col {t : List (List La)} {g : List La} {k s : Nat} {r : List La} (hr : t[s]? = some r) (hs : s < g.length) : ((colOf t k).zip g)[s]? = some (getL r k, getL g s) := by
  unfold colOf
  rw [List.zip, List.getElem?_zipWith, List.getElem?_map, hr, List.getElem?_eq_getElem hs]
  unfold getL
  rw [List.getElem?_eq_getElem hs]
  rfl
def fullT (t : List (List La)) (wide : Nat) : Prop := ∀ k, k < wide → ∃ r ∈ t, getL r k ≠ none
def zeroEl (a : La) : La := some (a.getD 0)
def gridGo (size : Nat) : Nat → List (List La)
  | 0 => [[]]
  | n + 1 => (gridGo size n).flatMap fun told => (none :: (List.range (size + 1)).map fun (i : Nat) => some ((i : Int) - size)).map fun one => told ++ [one]
def gridOf (size wide : Nat) : List (List La) := (gridGo size wide).filter fun r => r.any fun a => a == some 0
theorem grid_rows (size : Nat) : ∀ (n : Nat) (r : List La), r ∈ gridGo size n → r.length = n ∧ ∀ a ∈ r, ∀ v, a = some v → -(size : Int) ≤ v ∧ v ≤ 0
  | 0, r, h => by
    cases List.mem_singleton.mp h
    exact ⟨rfl, fun a ha => by cases ha⟩
  | n + 1, r, h => by
    obtain ⟨q, hq, h⟩ := List.mem_flatMap.mp h
    obtain ⟨a, ha, rfl⟩ := List.mem_map.mp h
    obtain ⟨h1, h2⟩ := grid_rows size n q hq
    refine ⟨by rw [List.length_append, h1]; rfl, fun b hb v e => ?_⟩
    rcases List.mem_append.mp hb with hb | hb
    · exact h2 b hb v e
    · cases List.mem_singleton.mp hb
      subst e
      rcases List.mem_cons.mp ha with ha | ha
      · cases ha
      · obtain ⟨i, hi, e⟩ := List.mem_map.mp ha
        have hi := List.mem_range.mp hi
        have e : (i : Int) - size = v := Option.some.inj e
        omega
theorem later_by (a b v : La) : isBy (later a b) v = true ↔ isBy a v = true ∧ isBy b v = true := by
  cases a <;> cases b <;> cases v <;> simp [later, isBy]
  split <;> omega
theorem latest_by (v : La) : ∀ l : List La, isBy (latestOf l) v = true ↔ ∀ a ∈ l, isBy a v = true
  | [] => ⟨(fun _ a h => by cases h), fun _ => rfl⟩
  | x :: l => by
    rw [latest_cons, later_by, latest_by v l]
    exact ⟨fun ⟨h1, h2⟩ a ha => by
      rcases List.mem_cons.mp ha with rfl | ha
      · exact h1
      · exact h2 a ha, fun h => ⟨h x (List.mem_cons_self ..), fun a ha => h a (List.mem_cons_of_mem _ ha)⟩⟩
theorem sum_by {r x : List La} {v : La} (h : r.length = x.length) : isBy (sumOf r x) v = true ↔ ∀ k, k < x.length → isBy (added (getL r k) (getL x k)) v = true := by
  unfold sumOf
  rw [latest_by]
  refine ⟨fun g k hk => ?_, fun g a ha => ?_⟩
  · refine g _ ?_
    rw [List.mem_iff_getElem?]
    refine ⟨k, ?_⟩
    rw [List.getElem?_zipWith, List.getElem?_eq_getElem (show k < r.length by omega), List.getElem?_eq_getElem hk]
    unfold getL
    rw [List.getElem?_eq_getElem (show k < r.length by omega), List.getElem?_eq_getElem hk]
    rfl
  · obtain ⟨k, hk⟩ := List.mem_iff_getElem?.mp ha
    have hk2 : k < x.length := by
      have := (List.getElem?_eq_some_iff.mp hk).1
      rw [List.length_zipWith] at this
      omega
    have e := g k hk2
    rw [List.getElem?_zipWith, List.getElem?_eq_getElem (show k < r.length by omega), List.getElem?_eq_getElem hk2] at hk
    unfold getL at e
    rw [List.getElem?_eq_getElem (show k < r.length by omega), List.getElem?_eq_getElem hk2] at e
    have hk : added (r[k]) (x[k]) = a := Option.some.inj hk
    rw [← hk]
    exact e
theorem leL_get : ∀ {a b : List La}, leL a b ↔ (a.length = b.length ∧ ∀ k, k < a.length → isBy (getL a k) (getL b k) = true)
  | [], [] => ⟨fun _ => ⟨rfl, fun k h => by cases h⟩, fun _ => trivial⟩
  | x :: a, y :: b => by
    show (isBy x y = true ∧ leL a b) ↔ _
    rw [leL_get (a := a) (b := b)]
    refine ⟨fun ⟨h1, h2, h3⟩ => ⟨by rw [List.length_cons, List.length_cons, h2], fun k hk => ?_⟩, fun ⟨h1, h2⟩ => ⟨h2 0 (Nat.succ_pos _), by simpa using h1, fun k hk => h2 (k + 1) (Nat.succ_lt_succ hk)⟩⟩
    cases k with
    | zero => exact h1
    | succ k => exact h3 k (Nat.lt_of_succ_lt_succ hk)
  | [], _ :: _ => ⟨fun h => h.elim, fun h => by have := h.1; cases this⟩
  | _ :: _, [] => ⟨fun h => h.elim, fun h => by have := h.1; cases this⟩
theorem lags_by {u : La} : ∀ (xs : List (La × La)), (∀ p ∈ xs, isBy (added p.1 u) p.2 = true) ↔ ∀ a ∈ lagsGo xs, isBy u a = true
  | [] => ⟨(fun _ a h => by cases h), (fun _ p h => by cases h)⟩
  | (none, q) :: r => by
    rw [show lagsGo ((none, q) :: r) = lagsGo r from rfl, ← lags_by r]
    exact ⟨fun h p hp => h p (List.mem_cons_of_mem _ hp), fun h p hp => by
      rcases List.mem_cons.mp hp with rfl | hp
      · cases u <;> rfl
      · exact h p hp⟩
  | (some a, none) :: r => by
    have e : isBy (added (some a) u) none = isBy u none := by cases u <;> rfl
    rw [show lagsGo ((some a, none) :: r) = none :: lagsGo r from rfl]
    simp only [List.forall_mem_cons, ← lags_by r, e]
  | (some a, some b) :: r => by
    have e : isBy (added (some a) u) (some b) = isBy u (some (b - a)) := by
      cases u with
      | none => rfl
      | some w =>
        show decide (a + w ≤ b) = decide (w ≤ b - a)
        congr 1
        exact propext ⟨fun h => by omega, fun h => by omega⟩
    rw [show lagsGo ((some a, some b) :: r) = some (b - a) :: lagsGo r from rfl]
    simp only [List.forall_mem_cons, ← lags_by r, e]
theorem gap_by {u : La} {xs : List (La × La)} (hn : lagsGo xs ≠ []) : isBy u (gapGo none xs) = true ↔ ∀ p ∈ xs, isBy (added p.1 u) p.2 = true := by
  rw [lags_by]
  by_cases h : none ∈ lagsGo xs
  · rw [gap_none h]
    refine ⟨fun hu a ha => ?_, fun g => g none h⟩
    cases u with
    | none => rfl
    | some w => cases hu
  · obtain ⟨g1, g2⟩ := gap_some (s := none) h
    cases e : gapGo none xs with
    | none => exact absurd (g2 e).2 hn
    | some v =>
      obtain ⟨m1, _, m3⟩ := g1 v e
      have hv : some v ∈ lagsGo xs := by
        rcases m1 with m1 | m1
        · cases m1
        · exact m1
      refine ⟨fun hu a ha => ?_, fun g => g _ hv⟩
      cases a with
      | none => exact absurd ha h
      | some b => exact isBy_trans hu (decide_eq_true (m3 b ha))
theorem getL_apply {t : List (List La)} {x r : List La} {s : Nat} (h : t[s]? = some r) : getL (applyOf t x) s = sumOf r x := by
  unfold getL applyOf
  rw [List.getElem?_map, h]
  rfl
theorem getL_div {t : List (List La)} {wide k : Nat} {g : List La} (h : k < wide) : getL (dividedOf t wide g) k = gapOf (colOf t k) g := by
  unfold getL dividedOf turnedOf
  rw [List.getElem?_map, List.getElem?_map, List.getElem?_range h]
  rfl
theorem col_ne {t : List (List La)} {g : List La} {k : Nat} (hg : g.length = t.length) (hf : ∃ r ∈ t, getL r k ≠ none) : lagsGo ((colOf t k).zip g) ≠ [] := by
  obtain ⟨r, hm, hn⟩ := hf
  obtain ⟨s, hs, es⟩ := List.getElem_of_mem hm
  have er : t[s]? = some r := by rw [List.getElem?_eq_getElem hs, es]
  exact lags_ne ⟨_, List.mem_of_getElem? (zip_col (k := k) er (by omega)), hn⟩
theorem col_by {t : List (List La)} {g : List La} {k : Nat} {u : La} (hg : g.length = t.length) : (∀ p ∈ (colOf t k).zip g, isBy (added p.1 u) p.2 = true) ↔ ∀ (s : Nat) r, t[s]? = some r → isBy (added (getL r k) u) (getL g s) = true := by
  refine ⟨fun h s r hr => ?_, fun h p hp => ?_⟩
  · have hs : s < t.length := (List.getElem?_eq_some_iff.mp hr).1
    exact h _ (List.mem_of_getElem? (zip_col hr (by omega)))
  · obtain ⟨s, hs⟩ := List.mem_iff_getElem?.mp hp
    have hl : s < t.length := by
      have := (List.getElem?_eq_some_iff.mp hs).1
      unfold colOf at this
      rw [List.length_zip, List.length_map] at this
      omega
    have er : t[s]? = some t[s] := List.getElem?_eq_getElem hl
    rw [zip_col er (by omega)] at hs
    have e := Option.some.inj hs
    rw [← e]
    exact h s _ er
theorem div_by {t : List (List La)} {wide : Nat} {x g : List La} (hr : ∀ r ∈ t, r.length = wide) (hx : x.length = wide) (hg : g.length = t.length) (hf : fullT t wide) : leL (applyOf t x) g ↔ leL x (dividedOf t wide g) := by
  rw [leL_get, leL_get, len_apply, div_len]
  refine ⟨fun ⟨_, h⟩ => ⟨hx, fun k hk => ?_⟩, fun ⟨_, h⟩ => ⟨hg.symm, fun s hs => ?_⟩⟩
  · rw [getL_div (by omega)]
    unfold gapOf
    rw [gap_by (col_ne hg (hf k (by omega))), col_by hg]
    intro s r er
    have hs : s < t.length := (List.getElem?_eq_some_iff.mp er).1
    have h2 := h s hs
    rw [getL_apply er] at h2
    exact (sum_by ((hr r (List.mem_of_getElem? er)).trans hx.symm)).mp h2 k hk
  · have er : t[s]? = some t[s] := List.getElem?_eq_getElem hs
    rw [getL_apply er, sum_by ((hr _ (List.getElem_mem hs)).trans hx.symm)]
    intro k hk
    have h2 := h k hk
    rw [getL_div (by omega)] at h2
    unfold gapOf at h2
    rw [gap_by (col_ne hg (hf k (by omega))), col_by hg] at h2
    exact h2 s _ er
theorem leL_anti : ∀ {a b : List La}, leL a b → leL b a → a = b
  | [], [], _, _ => rfl
  | x :: a, y :: b, h, g => by
    rw [leL_anti h.2 g.2]
    congr 1
    have h1 := h.1
    have h2 := g.1
    cases x <;> cases y <;> simp_all [isBy]
    omega
  | [], _ :: _, h, _ => h.elim
  | _ :: _, [], h, _ => h.elim
theorem cut_fix {fl : Int} {a b : La} (h : cutEl fl (minOf a b) = a) : isBy a b = true := by
  cases a with
  | none => rfl
  | some v =>
    cases b with
    | none => cases h
    | some w =>
      have h : (if (if w < v then w else v) < fl then none else some (if w < v then w else v)) = some v := h
      show decide (v ≤ w) = true
      rw [decide_eq_true_iff]
      by_cases c : w < v
      · rw [if_pos c] at h
        by_cases d : w < fl
        · rw [if_pos d] at h
          cases h
        · rw [if_neg d] at h
          have := Option.some.inj h
          omega
      · omega
theorem next_fix {one other : List (List La)} {wide deep : Nat} {fl : Int} : ∀ {x d : List La}, x.length = d.length → cutRow fl (List.zipWith minOf x d) = x → leL x d
  | [], [], _, _ => trivial
  | a :: x, b :: d, h, e => by
    have e : cutEl fl (minOf a b) :: cutRow fl (List.zipWith minOf x d) = a :: x := e
    have e1 := List.cons.inj e
    exact ⟨cut_fix e1.1, next_fix (one := one) (other := other) (wide := wide) (deep := deep) (by simpa using h) e1.2⟩
  | [], _ :: _, h, _ => by cases h
  | _ :: _, [], h, _ => by cases h
theorem rest_agree {one other : List (List La)} {high wide deep : Nat} {fl : Int} {y : List La} (h1 : one.length = high) (h2 : other.length = high) (r1 : ∀ r ∈ one, r.length = wide) (r2 : ∀ r ∈ other, r.length = deep) (f1 : fullT one wide) (f2 : fullT other deep) (hy : y.length = wide)
    (h : nextT one other wide deep fl y = y) : applyOf one y = applyOf other (dividedOf other deep (applyOf one y)) := by
  have hg : (applyOf other (dividedOf other deep (applyOf one y))).length = one.length := by rw [len_apply, h1, h2]
  have hle : leL y (dividedOf one wide (applyOf other (dividedOf other deep (applyOf one y)))) := next_fix (one := one) (other := other) (wide := wide) (deep := deep) (by rw [div_len, hy]) h
  have a1 : leL (applyOf one y) (applyOf other (dividedOf other deep (applyOf one y))) := (div_by r1 hy hg f1).mpr hle
  have a2 : leL (applyOf other (dividedOf other deep (applyOf one y))) (applyOf one y) := (div_by r2 (div_len _ _ _) (by rw [len_apply, h1, h2]) f2).mpr (leL_refl _)
  exact leL_anti a1 a2
theorem added_mono {r a b : La} (h : isBy a b = true) : isBy (added r a) (added r b) = true := by
  cases r <;> cases a <;> cases b <;> simp_all [isBy, added]
theorem added_sum {r x : List La} {k : Nat} (h : r.length = x.length) (hk : k < x.length) : isBy (added (getL r k) (getL x k)) (sumOf r x) = true :=
  (sum_by (v := sumOf r x) h).mp (isBy_refl _) k hk
theorem sum_mono {r s x : List La} (hr : r.length = x.length) (h : leL s x) : isBy (sumOf r s) (sumOf r x) = true := by
  obtain ⟨h1, h2⟩ := leL_get.mp h
  rw [sum_by (hr.trans h1.symm)]
  intro k hk
  exact isBy_trans (added_mono (h2 k hk)) (added_sum hr (by omega))
theorem apply_mono {s x : List La} (h : leL s x) : ∀ {t : List (List La)}, (∀ r ∈ t, r.length = x.length) → leL (applyOf t s) (applyOf t x)
  | [], _ => trivial
  | r :: t, hr => ⟨sum_mono (hr r (List.mem_cons_self ..)) h, apply_mono h fun q hq => hr q (List.mem_cons_of_mem _ hq)⟩
theorem min_by {u a b : La} (h1 : isBy u a = true) (h2 : isBy u b = true) : isBy u (minOf a b) = true := by
  cases u <;> cases a <;> cases b <;> simp_all [isBy, minOf]
  split <;> omega
theorem zip_min_by : ∀ {s x d : List La}, leL s x → leL s d → leL s (List.zipWith minOf x d)
  | [], [], [], _, _ => trivial
  | _ :: _, _ :: _, _ :: _, h, g => ⟨min_by h.1 g.1, zip_min_by h.2 g.2⟩
  | [], _ :: _, _, h, _ => h.elim
  | _ :: _, [], _, h, _ => h.elim
  | [], [], _ :: _, _, g => g.elim
  | _ :: _, _ :: _, [], _, g => g.elim
theorem sol_turn {one other : List (List La)} {high wide deep : Nat} {s x w : List La} (h1 : one.length = high) (h2 : other.length = high) (r1 : ∀ r ∈ one, r.length = wide) (r2 : ∀ r ∈ other, r.length = deep) (f1 : fullT one wide) (f2 : fullT other deep)
    (hx : x.length = wide) (hw : w.length = deep) (hs : leL s x) (he : applyOf one s = applyOf other w) : leL s (loweredBy one wide (goalT one other deep x) x) := by
  have hsl := (leL_len hs).trans hx
  have a1 : leL (applyOf one s) (applyOf one x) := apply_mono hs fun r hr => (r1 r hr).trans hx.symm
  rw [he] at a1
  have a2 : leL w (dividedOf other deep (applyOf one x)) := (div_by r2 hw (by rw [len_apply, h1, h2]) f2).mp a1
  have a3 : leL (applyOf other w) (goalT one other deep x) := apply_mono a2 fun r hr => by rw [div_len]; exact r2 r hr
  rw [← he] at a3
  have a4 : leL s (dividedOf one wide (goalT one other deep x)) := (div_by r1 hsl (by unfold goalT; rw [len_apply, h1, h2]) f1).mp a3
  exact zip_min_by hs a4
theorem latest_mem : ∀ {l : List La} {v : Int}, latestOf l = some v → some v ∈ l
  | [], v, h => by cases h
  | x :: l, v, h => by
    rw [latest_cons] at h
    cases x with
    | none => exact List.mem_cons_of_mem _ (latest_mem (by rw [← h]; rfl))
    | some a =>
      cases e : latestOf l with
      | none =>
        rw [e] at h
        have h : some a = some v := h
        rw [h]
        exact List.mem_cons_self ..
      | some b =>
        rw [e] at h
        have h : some (if b > a then b else a) = some v := h
        by_cases c : b > a
        · rw [if_pos c] at h
          exact List.mem_cons_of_mem _ (latest_mem (by rw [e, h]))
        · rw [if_neg c] at h
          rw [h]
          exact List.mem_cons_self ..
theorem sum_at {r x : List La} {v : Int} (h : r.length = x.length) (e : sumOf r x = some v) : ∃ k, k < x.length ∧ added (getL r k) (getL x k) = some v := by
  have hm := latest_mem e
  obtain ⟨k, hk⟩ := List.mem_iff_getElem?.mp hm
  have hk2 : k < x.length := by
    have := (List.getElem?_eq_some_iff.mp hk).1
    rw [List.length_zipWith] at this
    omega
  refine ⟨k, hk2, ?_⟩
  rw [List.getElem?_zipWith, List.getElem?_eq_getElem (show k < r.length by omega), List.getElem?_eq_getElem hk2] at hk
  unfold getL
  rw [List.getElem?_eq_getElem (show k < r.length by omega), List.getElem?_eq_getElem hk2]
  exact Option.some.inj hk
theorem getL_map {f : La → La} {x : List La} {k : Nat} (h : k < x.length) : getL (x.map f) k = f (getL x k) := by
  unfold getL
  rw [List.getElem?_map, List.getElem?_eq_getElem h]
  rfl
def phiL (D M m : Int) (vals : List Int) : La → La
  | some v => some (Tight.phi D M m vals v)
  | none => none
theorem phi_keep {far M m : Int} {vals : List Int} {a b s w : List La} (hfar : 0 ≤ far) (ha : a.length = s.length) (hb : b.length = w.length) (fa : ∀ k v, getL a k = some v → -far ≤ v ∧ v ≤ far) (fb : ∀ k v, getL b k = some v → -far ≤ v ∧ v ≤ far)
    (vs : ∀ k v, getL s k = some v → v ∈ vals ∧ v ≤ M) (vw : ∀ k v, getL w k = some v → v ∈ vals ∧ v ≤ M) (h : isBy (sumOf a s) (sumOf b w) = true) :
    isBy (sumOf a (s.map (phiL (2 * far) M m vals))) (sumOf b (w.map (phiL (2 * far) M m vals))) = true := by
  rw [sum_by (by rw [List.length_map]; exact ha)]
  intro k hk
  rw [List.length_map] at hk
  rw [getL_map hk]
  cases ea : getL a k with
  | none => cases getL s k <;> rfl
  | some α =>
    cases es : getL s k with
    | none => rfl
    | some u =>
      have h1 := (sum_by ha).mp h k hk
      rw [ea, es] at h1
      cases ew : sumOf b w with
      | none => rw [ew] at h1; cases h1
      | some t =>
        rw [ew] at h1
        obtain ⟨j, hj, ej⟩ := sum_at hb ew
        cases eb : getL b j with
        | none => rw [eb] at ej; cases ej
        | some β =>
          cases ev : getL w j with
          | none => rw [eb, ev] at ej; cases ej
          | some v =>
            rw [eb, ev] at ej
            have ej : β + v = t := Option.some.inj ej
            have h1 : α + u ≤ t := of_decide_eq_true h1
            obtain ⟨a1, a2⟩ := fa k α ea
            obtain ⟨b1, b2⟩ := fb j β eb
            have hr := Tight.phi_rule (D := 2 * far) (M := M) (m := m) (vals := vals) (u := u) (v := v) (c := β - α) (by omega) (vs k u es).1 (vw j v ev).1 ⟨(vs k u es).2, (vw j v ev).2⟩ ⟨by omega, by omega⟩ (by omega)
            have h2 := added_sum (r := b) (x := w.map (phiL (2 * far) M m vals)) (k := j) (by rw [List.length_map]; exact hb) (by rw [List.length_map]; exact hj)
            rw [getL_map hj, eb, ev] at h2
            refine isBy_trans ?_ h2
            show decide (α + Tight.phi (2 * far) M m vals u ≤ β + Tight.phi (2 * far) M m vals v) = true
            rw [decide_eq_true_iff]
            omega
def above (fl : Int) (t : List La) : Prop := ∀ k v, getL t k = some v → fl ≤ v
theorem cut_above {fl : Int} : ∀ {s t x : List La}, leL s x → leL t x → (∀ k v, getL s k = some v → ∃ u, getL t k = some u ∧ fl ≤ u) → leL s (cutRow fl x)
  | [], [], [], _, _, _ => trivial
  | a :: s, b :: t, c :: x, h, g, ha => by
    refine ⟨?_, cut_above h.2 g.2 fun k v e => ha (k + 1) v e⟩
    cases a with
    | none => rfl
    | some v =>
      obtain ⟨u, eu, hu⟩ := ha 0 v rfl
      have eb : b = some u := eu
      subst eb
      cases c with
      | none => exact h.1
      | some w =>
        have h2 : u ≤ w := of_decide_eq_true g.1
        show isBy (some v) (if w < fl then none else some w) = true
        rw [if_neg (by omega)]
        exact h.1
  | [], _ :: _, [], _, g, _ => g.elim
  | _ :: _, [], _ :: _, _, g, _ => g.elim
  | [], _, _ :: _, h, _, _ => h.elim
  | _ :: _, _, [], h, _, _ => h.elim
theorem sol_chain {one other : List (List La)} {high wide deep : Nat} {fl : Int} {s t w z x0 : List La} {L : List (List La)} (h1 : one.length = high) (h2 : other.length = high) (r1 : ∀ r ∈ one, r.length = wide) (r2 : ∀ r ∈ other, r.length = deep) (f1 : fullT one wide) (f2 : fullT other deep)
    (hx : x0.length = wide) (hw : w.length = deep) (hz : z.length = deep) (hs : leL s x0) (ht : leL t x0) (es : applyOf one s = applyOf other w) (et : applyOf one t = applyOf other z)
    (ha : ∀ k v, getL s k = some v → ∃ u, getL t k = some u ∧ fl ≤ u) (hb : ∀ k v, getL t k = some v → fl ≤ v) (hc : chainT (nextT one other wide deep fl) x0 L) : ∀ (k : Nat) y, L[k]? = some y → leL s y ∧ leL t y
  | 0, y, e => by
    rw [hc.1] at e
    cases e
    exact ⟨hs, ht⟩
  | k + 1, y, e => by
    have hk : k + 1 < L.length := (List.getElem?_eq_some_iff.mp e).1
    have ea : L[k]? = some L[k] := List.getElem?_eq_getElem (by omega)
    obtain ⟨g1, g2⟩ := sol_chain h1 h2 r1 r2 f1 f2 hx hw hz hs ht es et ha hb hc k _ ea
    obtain ⟨ey, _⟩ := hc.2 k _ _ ea e
    have hl : (L[k]).length = wide := (leL_len g1).symm.trans ((leL_len hs).trans hx)
    have q1 := sol_turn h1 h2 r1 r2 f1 f2 hl hw g1 es
    have q2 := sol_turn h1 h2 r1 r2 f1 f2 hl hz g2 et
    rw [ey]
    exact ⟨cut_above q1 q2 ha, cut_above q2 q2 fun k v e => ⟨v, e, hb k v e⟩⟩
theorem vals_mem {x : List La} {k : Nat} {v : Int} (h : getL x k = some v) : v ∈ valsOf x := by
  unfold valsOf
  have hk : k < x.length := by
    cases c : x[k]? with
    | none => unfold getL at h; rw [c] at h; cases h
    | some a => exact (List.getElem?_eq_some_iff.mp c).1
  have e : x[k] = some v := by
    unfold getL at h
    rw [List.getElem?_eq_getElem hk] at h
    exact h
  exact List.mem_map.mpr ⟨some v, List.mem_filter.mpr ⟨by rw [← e]; exact List.getElem_mem hk, rfl⟩, rfl⟩
theorem vals_len (x : List La) : (valsOf x).length ≤ x.length := by
  unfold valsOf
  rw [List.length_map]
  exact List.length_filter_le ..
theorem abs_le (i : Int) : -absI i ≤ i ∧ i ≤ absI i := by
  unfold absI
  split <;> omega
theorem far_row {r : List La} {k : Nat} {v : Int} (h : getL r k = some v) : absI v ≤ farRow r := by
  have hm := vals_mem h
  unfold valsOf at hm
  obtain ⟨a, ha, e⟩ := List.mem_map.mp hm
  refine max_ge (absRow r) 0 _ (List.mem_cons_of_mem _ (List.mem_map.mpr ⟨a, ha, ?_⟩))
  show absI (a.getD 0) = absI v
  rw [e]
theorem far_tab {t : List (List La)} {r : List La} (h : r ∈ t) : farRow r ≤ farTab t := max_ge (t.map farRow) 0 _ (List.mem_cons_of_mem _ (List.mem_map.mpr ⟨r, h, rfl⟩))
theorem far_nonneg (t : List (List La)) : 0 ≤ farTab t := max_ge (t.map farRow) 0 0 (List.mem_cons_self ..)
theorem far_lag {t : List (List La)} {r : List La} (h : r ∈ t) : ∀ k v, getL r k = some v → -farTab t ≤ v ∧ v ≤ farTab t := fun k v e => by
  have h1 := far_row e
  have h2 := far_tab h
  have h3 := abs_le v
  omega
theorem apply_eq {one other : List (List La)} {s w : List La} : ∀ {one other : List (List La)}, one.length = other.length → ((∀ (k : Nat) a b, one[k]? = some a → other[k]? = some b → isBy (sumOf a s) (sumOf b w) = true ∧ isBy (sumOf b w) (sumOf a s) = true) ↔ applyOf one s = applyOf other w)
  | [], [], _ => ⟨fun _ => rfl, fun _ k a b h => by cases h⟩
  | a :: one, b :: other, h => by
    have ih := apply_eq (one := one) (other := other) (s := s) (w := w) (by simpa using h)
    have cons : applyOf (a :: one) s = applyOf (b :: other) w ↔ sumOf a s = sumOf b w ∧ applyOf one s = applyOf other w := by
      show sumOf a s :: applyOf one s = sumOf b w :: applyOf other w ↔ _
      exact List.cons_eq_cons
    rw [cons, ← ih]
    refine ⟨fun g => ⟨?_, fun k x y e1 e2 => g (k + 1) x y e1 e2⟩, fun ⟨g1, g2⟩ k x y e1 e2 => ?_⟩
    · obtain ⟨q1, q2⟩ := g 0 a b rfl rfl
      have := leL_anti (a := [sumOf a s]) (b := [sumOf b w]) ⟨q1, trivial⟩ ⟨q2, trivial⟩
      exact (List.cons.inj this).1
    · cases k with
      | zero =>
        cases e1; cases e2
        rw [g1]
        exact ⟨isBy_refl _, isBy_refl _⟩
      | succ k => exact g2 k x y e1 e2
  | [], _ :: _, h => by cases h
  | _ :: _, [], h => by cases h
theorem farT_left {one other : List (List La)} {r : List La} (h : r ∈ one) : ∀ k v, getL r k = some v → -farT one other ≤ v ∧ v ≤ farT one other := far_lag (t := one ++ other) (List.mem_append_left _ h)
theorem farT_right {one other : List (List La)} {r : List La} (h : r ∈ other) : ∀ k v, getL r k = some v → -farT one other ≤ v ∧ v ≤ farT one other := far_lag (t := one ++ other) (List.mem_append_right _ h)
theorem sol_below {one other : List (List La)} {high wide deep : Nat} {s w x0 : List La} {L : List (List La)} (h1 : one.length = high) (h2 : other.length = high) (r1 : ∀ r ∈ one, r.length = wide) (r2 : ∀ r ∈ other, r.length = deep) (f1 : fullT one wide) (f2 : fullT other deep)
    (hx : x0.length = wide) (hw : w.length = deep) (hs : leL s x0) (es : applyOf one s = applyOf other w) (hc : chainT (nextT one other wide deep (floorT one other wide deep x0)) x0 L) : ∀ (k : Nat) y, L[k]? = some y → leL s y := by
  have hsl : s.length = wide := (leL_len hs).trans hx
  have hfar : 0 ≤ farT one other := far_nonneg _
  let vals := valsOf s ++ valsOf w
  let M := maxI (0 :: vals)
  let m := minI (valsOf x0)
  have hM : ∀ v ∈ vals, v ≤ M := fun v hv => max_ge vals 0 v (List.mem_cons_of_mem _ hv)
  have vs : ∀ k v, getL s k = some v → v ∈ vals ∧ v ≤ M := fun k v e => by
    have : v ∈ vals := List.mem_append_left _ (vals_mem e)
    exact ⟨this, hM v this⟩
  have vw : ∀ k v, getL w k = some v → v ∈ vals ∧ v ≤ M := fun k v e => by
    have : v ∈ vals := List.mem_append_right _ (vals_mem e)
    exact ⟨this, hM v this⟩
  let ph := phiL (2 * farT one other) M m vals
  have et : applyOf one (s.map ph) = applyOf other (w.map ph) := by
    have hol : one.length = other.length := h1.trans h2.symm
    rw [← apply_eq (one := []) (other := []) hol]
    intro k a b ea eb
    have ha := List.mem_of_getElem? ea
    have hb := List.mem_of_getElem? eb
    have q := (apply_eq (one := []) (other := []) (s := s) (w := w) hol).mpr es k a b ea eb
    exact ⟨phi_keep hfar ((r1 a ha).trans hsl.symm) ((r2 b hb).trans hw.symm) (farT_left ha) (farT_right hb) vs vw q.1, phi_keep hfar ((r2 b hb).trans hw.symm) ((r1 a ha).trans hsl.symm) (farT_right hb) (farT_left ha) vw vs q.2⟩
  have hlen : (vals.length : Int) ≤ (wide : Int) + deep := by
    have l1 := vals_len s
    have l2 := vals_len w
    have : vals.length = (valsOf s).length + (valsOf w).length := List.length_append ..
    omega
  have hlow : ∀ v, floorT one other wide deep x0 ≤ Tight.phi (2 * farT one other) M m vals v := fun v => by
    have q := Tight.phi_ge (D := 2 * farT one other) (M := M) (m := m) (vals := vals) (v := v) (by omega)
    have q2 : 2 * farT one other * (vals.length : Int) ≤ 2 * farT one other * ((wide : Int) + deep) := Int.mul_le_mul_of_nonneg_left hlen (by omega)
    have q3 : 2 * ((wide : Int) + (deep : Int)) * farT one other = 2 * farT one other * ((wide : Int) + deep) := by
      rw [Int.mul_assoc, Int.mul_assoc, Int.mul_comm ((wide : Int) + deep)]
    show minI (valsOf x0) - 2 * ((wide : Int) + (deep : Int)) * farT one other ≤ _
    rw [q3]
    have q4 : m = minI (valsOf x0) := rfl
    omega
  have ht : leL (s.map ph) x0 := by
    rw [leL_get]
    refine ⟨by rw [List.length_map]; exact leL_len hs, fun k hk => ?_⟩
    rw [List.length_map] at hk
    rw [getL_map hk]
    have hk2 := (leL_get.mp hs).2 k hk
    cases e : getL s k with
    | none => rfl
    | some v =>
      rw [e] at hk2
      cases e2 : getL x0 k with
      | none => rw [e2] at hk2; cases hk2
      | some u =>
        have q1 : Tight.phi (2 * farT one other) M m vals v ≤ m := Tight.phi_le
        have q2 : m ≤ u := by
          have hv := vals_mem e2
          show minI (valsOf x0) ≤ u
          cases ev : valsOf x0 with
          | nil => rw [ev] at hv; cases hv
          | cons a r => rw [ev] at hv; exact min_le r a u hv
        show decide (Tight.phi (2 * farT one other) M m vals v ≤ u) = true
        rw [decide_eq_true_iff]
        omega
  intro k y e
  refine (sol_chain h1 h2 r1 r2 f1 f2 hx hw (by rw [List.length_map]; exact hw) hs ht es et (fun k v e => ?_) (fun k v e => ?_) hc k y e).1
  · have hk : k < s.length := by
      cases c : s[k]? with
      | none => unfold getL at e; rw [c] at e; cases e
      | some a => exact (List.getElem?_eq_some_iff.mp c).1
    exact ⟨_, by rw [getL_map hk, e]; rfl, hlow v⟩
  · have hk : k < s.length := by
      cases c : (s.map ph)[k]? with
      | none => unfold getL at e; rw [c] at e; cases e
      | some a => have := (List.getElem?_eq_some_iff.mp c).1; rwa [List.length_map] at this
    rw [getL_map hk] at e
    cases e3 : getL s k with
    | none => rw [e3] at e; cases e
    | some u =>
      rw [e3] at e
      have e : Tight.phi (2 * farT one other) M m vals u = v := Option.some.inj e
      rw [← e]
      exact hlow u
def keepsP (pairs : List (List La × List La)) (y : List La) : Prop := ∀ p ∈ pairs, isBy (sumOf p.1 y) (sumOf p.2 y) = true
theorem lowEl_fix {right lag v : La} : lowEl right lag v = v ↔ isBy (added lag v) right = true := by
  cases lag with
  | none => cases v <;> simp [lowEl, added, isBy]
  | some l =>
    cases v with
    | none => simp [lowEl, added, isBy]
    | some x =>
      cases right with
      | none => simp [lowEl, added, isBy]
      | some r =>
        simp only [lowEl, added, isBy, decide_eq_true_eq]
        constructor
        · intro h
          have h := Option.some.inj h
          split at h <;> omega
        · intro h
          rw [if_neg (by omega)]
theorem lower_fix {right : La} : ∀ {a y : List La}, a.length = y.length → (lower right a y = y ↔ isBy (sumOf a y) right = true) := by
  intro a y h
  rw [sum_by h]
  constructor
  · intro e k hk
    have e2 : getL (lower right a y) k = getL y k := by rw [e]
    unfold lower at e2
    rw [getL_zip (by omega) hk] at e2
    exact lowEl_fix.mp e2
  · intro g
    refine ext_getL (by rw [lower_len h]) fun k hk => ?_
    rw [lower_len h] at hk
    unfold lower
    rw [getL_zip (by omega) hk]
    exact lowEl_fix.mpr (g k hk)
theorem fold_fix {x : List La} : ∀ {pairs : List (List La × List La)} {f : List La}, (∀ p ∈ pairs, p.1.length = f.length) → pairs.foldl (fun f p => lower (sumOf p.2 x) p.1 f) f = f → ∀ p ∈ pairs, lower (sumOf p.2 x) p.1 f = f
  | [], f, _, _ => fun p hp => by cases hp
  | p :: pairs, f, h, e => by
    rw [List.foldl_cons] at e
    have h1 := h p (List.mem_cons_self ..)
    have h2 : ∀ q ∈ pairs, q.1.length = (lower (sumOf p.2 x) p.1 f).length := fun q hq => by rw [lower_len h1]; exact h q (List.mem_cons_of_mem _ hq)
    have l1 : leL (pairs.foldl (fun f p => lower (sumOf p.2 x) p.1 f) (lower (sumOf p.2 x) p.1 f)) (lower (sumOf p.2 x) p.1 f) := fold_le h2
    have e1 : lower (sumOf p.2 x) p.1 f = f := leL_anti (lower_le _ h1) (by rw [e] at l1; exact l1)
    rw [e1] at e
    intro q hq
    rcases List.mem_cons.mp hq with rfl | hq
    · exact e1
    · exact fold_fix (fun q hq => h q (List.mem_cons_of_mem _ hq)) e q hq
theorem fold_fix2 {x : List La} : ∀ {pairs : List (List La × List La)} {f : List La}, (∀ p ∈ pairs, lower (sumOf p.2 x) p.1 f = f) → pairs.foldl (fun f p => lower (sumOf p.2 x) p.1 f) f = f
  | [], f, _ => rfl
  | p :: pairs, f, h => by
    rw [List.foldl_cons, h p (List.mem_cons_self ..)]
    exact fold_fix2 fun q hq => h q (List.mem_cons_of_mem _ hq)
theorem cut_id {fl : Int} : ∀ {y : List La}, (∀ a ∈ y, okFl fl a) → cutRow fl y = y
  | [], _ => rfl
  | a :: y, h => by
    show cutEl fl a :: cutRow fl y = a :: y
    rw [cut_id fun b hb => h b (List.mem_cons_of_mem _ hb)]
    congr 1
    have h1 := h a (List.mem_cons_self ..)
    cases a with
    | none => rfl
    | some v =>
      have h1 : fl ≤ v := h1
      show (if v < fl then none else some v) = some v
      rw [if_neg (by omega)]
theorem rest_keeps {pairs : List (List La × List La)} {fl : Int} {y : List La} (hp : ∀ p ∈ pairs, p.1.length = y.length) (h : stepB pairs fl y = y) : keepsP pairs y := by
  have h1 : leL (stepB pairs fl y) (heldBack pairs y) := cut_le fl _
  rw [h] at h1
  have e : heldBack pairs y = y := leL_anti (held_le hp) h1
  intro p hq
  exact (lower_fix (hp p hq)).mp (fold_fix hp e p hq)
theorem keeps_rest {pairs : List (List La × List La)} {fl : Int} {y : List La} (hp : ∀ p ∈ pairs, p.1.length = y.length) (hf : ∀ a ∈ y, okFl fl a) (h : keepsP pairs y) : stepB pairs fl y = y := by
  have e : heldBack pairs y = y := fold_fix2 fun p hq => (lower_fix (hp p hq)).mpr (h p hq)
  unfold stepB
  rw [e, cut_id hf]
def leftP (deep : Nat) (a : List La) : List La := a ++ List.replicate deep none
def rightP (wide : Nat) (b : List La) : List La := List.replicate wide none ++ b
def meetPairs (wide deep : Nat) (one other : List (List La)) : List (List La × List La) := (one.zip other).flatMap fun p => [(leftP deep p.1, rightP wide p.2), (rightP wide p.2, leftP deep p.1)]
theorem rep_none (k : Nat) : (List.replicate k [PyData.none]).flatten = (List.replicate k (none : La)).map optD := by
  induction k with
  | zero => rfl
  | succ k ih => rw [List.replicate_succ, List.flatten_cons, ih, List.replicate_succ]; rfl
theorem rep_get {k j : Nat} : getL (List.replicate k (none : La)) j = none := by
  unfold getL
  rw [List.getElem?_replicate]
  split <;> rfl
theorem latest_append (a b : List La) : latestOf (a ++ b) = later (latestOf a) (latestOf b) := by
  have h : ∀ v, isBy (latestOf (a ++ b)) v = true ↔ isBy (later (latestOf a) (latestOf b)) v = true := fun v => by
    rw [later_by, latest_by, latest_by, latest_by]
    exact ⟨fun h => ⟨fun x hx => h x (List.mem_append_left _ hx), fun x hx => h x (List.mem_append_right _ hx)⟩, fun ⟨h1, h2⟩ x hx => (List.mem_append.mp hx).elim (h1 x) (h2 x)⟩
  have := leL_anti (a := [latestOf (a ++ b)]) (b := [later (latestOf a) (latestOf b)]) ⟨(h _).mpr (isBy_refl _), trivial⟩ ⟨(h _).mp (isBy_refl _), trivial⟩
  exact (List.cons.inj this).1
theorem latest_nones {l : List La} (h : ∀ a ∈ l, a = none) : latestOf l = none := by
  have : isBy (latestOf l) none = true := (latest_by none l).mpr fun a ha => by rw [h a ha]; rfl
  cases e : latestOf l with
  | none => rfl
  | some v => rw [e] at this; cases this
theorem sum_left {a y z : List La} {deep : Nat} (ha : a.length = y.length) : sumOf (leftP deep a) (y ++ z) = sumOf a y := by
  unfold sumOf leftP
  rw [List.zipWith_append ha, latest_append]
  rw [latest_nones (l := List.zipWith added (List.replicate deep none) z) fun b hb => by
    obtain ⟨k, hk⟩ := List.mem_iff_getElem?.mp hb
    rw [List.getElem?_zipWith] at hk
    cases e1 : (List.replicate deep (none : La))[k]? with
    | none => rw [e1] at hk; cases hk
    | some u =>
      cases e2 : z[k]? with
      | none => rw [e1, e2] at hk; cases hk
      | some v =>
        rw [e1, e2] at hk
        have hu : u = none := List.eq_of_mem_replicate (List.mem_of_getElem? e1)
        subst hu
        exact (Option.some.inj hk).symm]
  exact later_none _
theorem sum_right {b y z : List La} {wide : Nat} (hy : y.length = wide) : sumOf (rightP wide b) (y ++ z) = sumOf b z := by
  unfold sumOf rightP
  rw [List.zipWith_append (by rw [List.length_replicate, hy]), latest_append]
  rw [latest_nones (l := List.zipWith added (List.replicate wide none) y) fun b hb => by
    obtain ⟨k, hk⟩ := List.mem_iff_getElem?.mp hb
    rw [List.getElem?_zipWith] at hk
    cases e1 : (List.replicate wide (none : La))[k]? with
    | none => rw [e1] at hk; cases hk
    | some u =>
      cases e2 : y[k]? with
      | none => rw [e1, e2] at hk; cases hk
      | some v =>
        rw [e1, e2] at hk
        have hu : u = none := List.eq_of_mem_replicate (List.mem_of_getElem? e1)
        subst hu
        exact (Option.some.inj hk).symm]
  rfl
theorem meet_keeps {one other : List (List La)} {wide deep : Nat} {y z : List La} (hl : one.length = other.length) (r1 : ∀ r ∈ one, r.length = wide) (hy : y.length = wide) : keepsP (meetPairs wide deep one other) (y ++ z) ↔ applyOf one y = applyOf other z := by
  rw [← apply_eq (one := []) (other := []) hl]
  unfold keepsP meetPairs
  constructor
  · intro h k a b ea eb
    have hm : (a, b) ∈ one.zip other := by
      refine List.mem_of_getElem? (i := k) ?_
      rw [List.zip, List.getElem?_zipWith, ea, eb]
    have ha : a.length = y.length := by rw [hy]; exact r1 a (List.mem_of_getElem? ea)
    have h1 := h (leftP deep a, rightP wide b) (List.mem_flatMap.mpr ⟨_, hm, by simp⟩)
    have h2 := h (rightP wide b, leftP deep a) (List.mem_flatMap.mpr ⟨_, hm, by simp⟩)
    rw [sum_left ha, sum_right hy] at h1 h2
    exact ⟨h1, h2⟩
  · intro h p hp
    obtain ⟨⟨a, b⟩, hm, hp⟩ := List.mem_flatMap.mp hp
    obtain ⟨k, hk⟩ := List.mem_iff_getElem?.mp hm
    rw [List.zip, List.getElem?_zipWith] at hk
    cases ea : one[k]? with
    | none => rw [ea] at hk; cases hk
    | some u =>
      cases eb : other[k]? with
      | none => rw [ea, eb] at hk; cases hk
      | some v =>
        rw [ea, eb] at hk
        have hk := Option.some.inj hk
        cases hk
        have ha : a.length = y.length := by rw [hy]; exact r1 a (List.mem_of_getElem? ea)
        obtain ⟨h1, h2⟩ := h k a b ea eb
        simp only [List.mem_cons, List.not_mem_nil, or_false] at hp
        rcases hp with rfl | rfl
        · rw [sum_left ha, sum_right hy]; exact h1
        · rw [sum_left ha, sum_right hy]; exact h2
theorem lowEl_ge {right lag u v : La} (h1 : isBy u v = true) (h2 : isBy (added lag u) right = true) : isBy u (lowEl right lag v) = true := by
  cases lag with
  | none => cases v <;> exact h1
  | some l =>
    cases v with
    | none => exact h1
    | some x =>
      cases u with
      | none => rfl
      | some w =>
        cases right with
        | none => simp [added, isBy] at h2
        | some r =>
          simp only [lowEl, added, isBy, decide_eq_true_eq] at *
          split <;> omega
theorem lower_ge {right : La} {a q f : List La} (ha : a.length = q.length) (h1 : leL q f) (h2 : isBy (sumOf a q) right = true) : leL q (lower right a f) := by
  have hl := leL_len h1
  rw [leL_get, lower_len (ha.trans hl)]
  refine ⟨hl, fun k hk => ?_⟩
  unfold lower
  rw [getL_zip (by omega) (by omega)]
  exact lowEl_ge ((leL_get.mp h1).2 k hk) ((sum_by ha).mp h2 k hk)
theorem held_keeps {pairs : List (List La × List La)} {q z : List La} (hp : ∀ p ∈ pairs, p.1.length = q.length ∧ p.2.length = q.length) (hq : keepsP pairs q) (h : leL q z) : leL q (heldBack pairs z) := by
  have key : ∀ (l : List (List La × List La)) (f : List La), (∀ p ∈ l, p ∈ pairs) → leL q f → leL q (l.foldl (fun f p => lower (sumOf p.2 z) p.1 f) f) := fun l => by
    induction l with
    | nil => exact fun f _ h => h
    | cons p l ih =>
      intro f hm hf
      rw [List.foldl_cons]
      have hp1 := hm p (List.mem_cons_self ..)
      refine ih _ (fun r hr => hm r (List.mem_cons_of_mem _ hr)) (lower_ge (hp p hp1).1 hf ?_)
      exact isBy_trans (hq p hp1) (sum_mono ((hp p hp1).2.trans (leL_len h)) h)
  exact key pairs z (fun p hp => hp) h
theorem far_go {x : Int} : ∀ (pairs : List (List La × List La)) (far : Int), far ≤ pairs.foldl (fun far p => maxI (far :: pairFar p)) far ∧ ∀ p ∈ pairs, ∀ v ∈ pairFar p, v ≤ pairs.foldl (fun far p => maxI (far :: pairFar p)) far
  | [], far => ⟨Int.le_refl _, fun p hp => by cases hp⟩
  | p :: pairs, far => by
    obtain ⟨h1, h2⟩ := far_go (x := x) pairs (maxI (far :: pairFar p))
    rw [List.foldl_cons]
    have h3 := max_ge (pairFar p) far
    refine ⟨Int.le_trans (h3 far (List.mem_cons_self ..)) h1, fun q hq v hv => ?_⟩
    rcases List.mem_cons.mp hq with rfl | hq
    · exact Int.le_trans (h3 v (List.mem_cons_of_mem _ hv)) h1
    · exact h2 q hq v hv
theorem far_pos (pairs : List (List La × List La)) : 0 ≤ farOf pairs := (far_go (x := 0) pairs 0).1
theorem abs_of (v : Int) : v ≤ absI v ∧ -v ≤ absI v := by unfold absI; split <;> omega
theorem far_in_row {r : List La} {k : Nat} {v : Int} (h : getL r k = some v) : absI v ∈ absRow r := by
  obtain ⟨a, ha, e⟩ := List.mem_map.mp (show v ∈ (r.filter Option.isSome).map fun a => a.getD 0 from vals_mem h)
  exact List.mem_map.mpr ⟨a, ha, by rw [e]⟩
theorem absRow_append (a b : List La) : absRow (a ++ b) = absRow a ++ absRow b := by
  unfold absRow
  rw [List.filter_append, List.map_append]
theorem far_pair {pairs : List (List La × List La)} {p : List La × List La} (hp : p ∈ pairs) : (∀ k v, getL p.1 k = some v → -farOf pairs ≤ v ∧ v ≤ farOf pairs) ∧ ∀ k v, getL p.2 k = some v → -farOf pairs ≤ v ∧ v ≤ farOf pairs := by
  have h := (far_go (x := 0) pairs 0).2 p hp
  refine ⟨fun k v e => ?_, fun k v e => ?_⟩
  · have h1 := h (absI v) (by unfold pairFar; rw [absRow_append]; exact List.mem_append_left _ (far_in_row e))
    have h2 := abs_of v
    unfold farOf
    omega
  · have h1 := h (absI v) (by unfold pairFar; rw [absRow_append]; exact List.mem_append_right _ (far_in_row e))
    have h2 := abs_of v
    unfold farOf
    omega
theorem far_le {B : Int} : ∀ {pairs : List (List La × List La)} {far : Int}, far ≤ B → (∀ p ∈ pairs, (∀ v, some v ∈ p.1 → -B ≤ v ∧ v ≤ B) ∧ ∀ v, some v ∈ p.2 → -B ≤ v ∧ v ≤ B) → pairs.foldl (fun far p => maxI (far :: pairFar p)) far ≤ B
  | [], far, h, _ => h
  | p :: pairs, far, h, g => by
    rw [List.foldl_cons]
    refine far_le ?_ fun q hq => g q (List.mem_cons_of_mem _ hq)
    have sp : maxI (far :: pairFar p) ∈ far :: pairFar p := (maxI_spec (pairFar p) far).1
    rcases List.mem_cons.mp sp with e | e
    · rw [e]; exact h
    · obtain ⟨a, ha, e2⟩ := List.mem_map.mp e
      obtain ⟨ha1, ha2⟩ := List.mem_filter.mp ha
      rw [← e2]
      cases a with
      | none => cases ha2
      | some v =>
        have gp := g p (List.mem_cons_self ..)
        have : -B ≤ v ∧ v ≤ B := (List.mem_append.mp ha1).elim (gp.1 v) (gp.2 v)
        show (if v < 0 then -v else v) ≤ B
        split <;> omega
theorem both_leL : ∀ {a b x : List La}, leL a x → leL b x → leL (bothOf a b) x
  | [], [], [], _, _ => trivial
  | _ :: _, _ :: _, _ :: _, h, g => ⟨(later_by _ _ _).mpr ⟨h.1, g.1⟩, both_leL h.2 g.2⟩
  | [], _ :: _, _, h, g => by
    cases ‹List La› with
    | nil => exact g.elim
    | cons _ _ => exact h.elim
  | _ :: _, [], _, h, g => by
    cases ‹List La› with
    | nil => exact h.elim
    | cons _ _ => exact g.elim
  | [], [], _ :: _, h, _ => h.elim
  | _ :: _, _ :: _, [], h, _ => h.elim
theorem both_len2 (a b : List La) : (bothOf a b).length = min a.length b.length := by
  unfold bothOf
  rw [List.length_zipWith]
theorem later_ge (a b : La) : isBy a (later a b) = true ∧ isBy b (later a b) = true := (later_by a b (later a b)).mp (isBy_refl _)
theorem both_ge : ∀ {a b : List La}, a.length = b.length → leL a (bothOf a b) ∧ leL b (bothOf a b)
  | [], [], _ => ⟨trivial, trivial⟩
  | a :: as, b :: bs, h => by
    obtain ⟨h1, h2⟩ := both_ge (a := as) (b := bs) (by simpa using h)
    exact ⟨⟨(later_ge a b).1, h1⟩, ⟨(later_ge a b).2, h2⟩⟩
  | [], _ :: _, h => by cases h
  | _ :: _, [], h => by cases h
theorem later_mono {a b c d : La} (h : isBy a c = true) (g : isBy b d = true) : isBy (later a b) (later c d) = true :=
  (later_by _ _ _).mpr ⟨isBy_trans h (later_ge c d).1, isBy_trans g (later_ge c d).2⟩
theorem keeps_both {pairs : List (List La × List La)} {a b : List La} (hp : ∀ p ∈ pairs, p.1.length = a.length ∧ p.2.length = a.length) (hl : a.length = b.length) (ha : keepsP pairs a) (hb : keepsP pairs b) : keepsP pairs (bothOf a b) := fun p h => by
  rw [sum_both _ _ _ hl, sum_both _ _ _ hl]
  exact later_mono (ha p h) (hb p h)
theorem keeps_phi {pairs : List (List La × List La)} {q : List La} {M m : Int} (hp : ∀ p ∈ pairs, p.1.length = q.length ∧ p.2.length = q.length) (hq : keepsP pairs q) (hM : ∀ v ∈ valsOf q, v ≤ M) : keepsP pairs (q.map (phiL (2 * farOf pairs) M m (valsOf q))) := fun p h => by
  obtain ⟨f1, f2⟩ := far_pair h
  exact phi_keep (far_pos pairs) (hp p h).1 (hp p h).2 f1 f2 (fun k v e => ⟨vals_mem e, hM v (vals_mem e)⟩) (fun k v e => ⟨vals_mem e, hM v (vals_mem e)⟩) (hq p h)
structure Below (pairs : List (List La × List La)) (x y : List La) : Prop where
  le : leL y x
  keep : keepsP pairs y
  most : ∀ q, leL q x → keepsP pairs q → leL q y
theorem Below.uniq {pairs : List (List La × List La)} {x y z : List La} (h : Below pairs x y) (g : Below pairs x z) : y = z := leL_anti (g.most y h.le h.keep) (h.most z g.le g.keep)
theorem get_none {x : List La} (h : valsOf x = []) (k : Nat) : getL x k = none := by
  cases e : getL x k with
  | none => rfl
  | some v =>
    have := vals_mem e
    rw [h] at this
    cases this
theorem sum_nones {r x : List La} (hr : r.length = x.length) (h : valsOf x = []) : sumOf r x = none := by
  have : isBy (sumOf r x) none = true := (sum_by hr).mpr fun k hk => by
    rw [get_none h k]
    cases getL r k <;> rfl
  cases e : sumOf r x with
  | none => rfl
  | some v => rw [e] at this; cases this
theorem get_mem {x : List La} {k : Nat} {v : Int} (h : getL x k = some v) : some v ∈ x := by
  unfold getL at h
  cases e : x[k]? with
  | none => rw [e] at h; cases h
  | some a =>
    rw [e] at h
    have h : a = some v := h
    rw [← h]
    exact List.mem_of_getElem? e
theorem min_mem {x : List La} (h : valsOf x ≠ []) : some (minI (valsOf x)) ∈ x ∧ ∀ v, some v ∈ x → minI (valsOf x) ≤ v := by
  have hm : ∀ v, v ∈ valsOf x ↔ some v ∈ x := fun v => by
    unfold valsOf
    rw [List.mem_map]
    constructor
    · rintro ⟨a, ha, e⟩
      obtain ⟨h1, h2⟩ := List.mem_filter.mp ha
      cases a with
      | none => cases h2
      | some w => rw [← e]; exact h1
    · intro hv
      exact ⟨some v, List.mem_filter.mpr ⟨hv, rfl⟩, rfl⟩
  cases e : valsOf x with
  | nil => exact absurd e h
  | cons a r =>
    have sp := minI_spec r a
    rw [e] at hm
    exact ⟨(hm _).mp sp.1, fun v hv => sp.2 v ((hm v).mpr hv)⟩
theorem cut_take {α : Type} {xs : List α} {k : Nat} (h : k ≤ xs.length) : cutL xs none (some (k : Int)) = xs.take k := by
  unfold cutL
  rw [HT.sIx_none, HT.sIx_nat, List.drop_zero, Nat.sub_zero, Nat.min_eq_left h]
theorem cut_drop {α : Type} {xs : List α} {k : Nat} (h : k ≤ xs.length) : cutL xs (some (k : Int)) none = xs.drop k := by
  unfold cutL
  rw [HT.sIx_none, HT.sIx_nat, Nat.min_eq_left h, List.take_of_length_le (by rw [List.length_drop]; exact Nat.le_refl _)]
theorem meet_lens {one other : List (List La)} {wide deep : Nat} (r1 : ∀ r ∈ one, r.length = wide) (r2 : ∀ r ∈ other, r.length = deep) : ∀ p ∈ meetPairs wide deep one other, p.1.length = wide + deep ∧ p.2.length = wide + deep := fun p hp => by
  obtain ⟨⟨a, b⟩, hm, hp⟩ := List.mem_flatMap.mp hp
  obtain ⟨m1, m2⟩ := List.of_mem_zip hm
  have e1 := r1 a m1
  have e2 := r2 b m2
  simp only [List.mem_cons, List.not_mem_nil, or_false] at hp
  rcases hp with rfl | rfl <;> simp [leftP, rightP, e1, e2]
theorem meet_far {one other : List (List La)} {wide deep : Nat} {B : Int} (h0 : 0 ≤ B) (b1 : ∀ r ∈ one, ∀ v, some v ∈ r → -B ≤ v ∧ v ≤ B) (b2 : ∀ r ∈ other, ∀ v, some v ∈ r → -B ≤ v ∧ v ≤ B) : farOf (meetPairs wide deep one other) ≤ B := by
  refine far_le h0 fun p hp => ?_
  obtain ⟨⟨a, b⟩, hm, hp⟩ := List.mem_flatMap.mp hp
  obtain ⟨m1, m2⟩ := List.of_mem_zip hm
  have k1 : ∀ v, some v ∈ leftP deep a → -B ≤ v ∧ v ≤ B := fun v hv => (List.mem_append.mp hv).elim (b1 a m1 v) fun h => by cases List.eq_of_mem_replicate h
  have k2 : ∀ v, some v ∈ rightP wide b → -B ≤ v ∧ v ≤ B := fun v hv => (List.mem_append.mp hv).elim (fun h => by cases List.eq_of_mem_replicate h) (b2 b m2 v)
  simp only [List.mem_cons, List.not_mem_nil, or_false] at hp
  rcases hp with rfl | rfl
  · exact ⟨k1, k2⟩
  · exact ⟨k2, k1⟩
theorem row_bound {r : List La} {wide : Nat} (h : rowOk r wide) : ∀ v, some v ∈ r → -1000 ≤ v ∧ v ≤ 1000 := fun v hv => of_decide_eq_true (h.2 _ hv)
theorem none_turn {t : List (List La)} {wide : Nat} {g x : List La} {fl : Int} (hx : x.length = wide) (hv : valsOf x = []) : cutRow fl (loweredBy t wide g x) = x := by
  have l1 : (loweredBy t wide g x).length = wide := by
    unfold loweredBy
    rw [List.length_zipWith, hx, div_len, Nat.min_self]
  have hn : ∀ k, getL x k = none := get_none hv
  refine ext_getL (by unfold cutRow; rw [List.length_map, l1, hx]) fun k hk => ?_
  unfold cutRow at hk ⊢
  rw [List.length_map, l1] at hk
  rw [getL_map (by omega), hn k]
  unfold loweredBy
  rw [getL_zip (by omega) (by rw [div_len]; exact hk), hn k]
  cases getL (dividedOf t wide g) k <;> rfl
theorem rowBy_le : ∀ {a b : List La}, a.length = b.length → (rowBy a b = true ↔ leL a b)
  | [], [], _ => ⟨fun _ => trivial, fun _ => rfl⟩
  | x :: a, y :: b, h => by
    have ih := rowBy_le (a := a) (b := b) (by simpa using h)
    have e : rowBy (x :: a) (y :: b) = (isBy x y && rowBy a b) := rfl
    rw [e, Bool.and_eq_true, ih]
    rfl
  | [], _ :: _, h => by cases h
  | _ :: _, [], h => by cases h
def notBy (a b : List La) (wide : Nat) : List D := ((List.range wide).filter fun k => !isBy (getL a k) (getL b k)).map fun _ => PyData.int 1
theorem far_fold : ∀ (rows : List (List La)) (f : Int), 0 ≤ f → rows.foldl (fun far r => maxI (far :: absRow r)) f = maxI (f :: rows.map farRow)
  | [], f, _ => rfl
  | r :: rows, f, h => by
    have s1 := maxI_spec (absRow r) f
    have s2 := maxI_spec (absRow r) 0
    have e1 : maxI (f :: absRow r) = (absRow r).foldl (fun a b => if b > a then b else a) f := rfl
    have e2 : farRow r = (absRow r).foldl (fun a b => if b > a then b else a) 0 := rfl
    have g0 : f ≤ maxI (f :: absRow r) := s1.2 f (List.mem_cons_self ..)
    have key : maxI (f :: absRow r) = if farRow r > f then farRow r else f := by
      have g2 : farRow r ≤ maxI (f :: absRow r) := by
        rcases List.mem_cons.mp s2.1 with e | e
        · rw [e2, e]; omega
        · rw [e2, e1]; exact s1.2 _ (List.mem_cons_of_mem _ e)
      have g3 : maxI (f :: absRow r) ≤ f ∨ maxI (f :: absRow r) ≤ farRow r := by
        rcases List.mem_cons.mp s1.1 with e | e
        · left; rw [e1, e]; omega
        · right; rw [e1, e2]; exact s2.2 _ (List.mem_cons_of_mem _ e)
      split <;> omega
    rw [List.foldl_cons, far_fold rows _ (by omega), key]
    rfl
theorem abs_max (v : Int) : (if 0 - v > v then 0 - v else v) = absI v := by
  unfold absI
  split <;> split <;> omega
theorem min99 {x : List La} (h4 : ∀ v, some v ∈ x → v ≤ 4) (hv : valsOf x ≠ []) : minI (99 :: valsOf x) = minI (valsOf x) := by
  obtain ⟨m1, m2⟩ := min_mem hv
  have sp := minI_spec (valsOf x) 99
  have e : minI (99 :: valsOf x) = (valsOf x).foldl (fun a b => if b < a then b else a) 99 := rfl
  have h1 := h4 _ m1
  have hin : minI (valsOf x) ∈ valsOf x := by
    cases ev : valsOf x with
    | nil => exact absurd ev hv
    | cons a r => exact (minI_spec r a).1
  have g1 : minI (99 :: valsOf x) ≤ minI (valsOf x) := sp.2 _ (List.mem_cons_of_mem _ hin)
  have g2 : minI (valsOf x) ≤ minI (99 :: valsOf x) := by
    rcases List.mem_cons.mp sp.1 with q | q
    · rw [e, q]; omega
    · rw [e]
      cases ev : valsOf x with
      | nil => exact absurd ev hv
      | cons a r => rw [ev] at q; exact min_le r a _ q
  omega
theorem sum_bound {r x : List La} {v A B : Int} (h : r.length = x.length) (e : sumOf r x = some v) (hr : ∀ u, some u ∈ r → -A ≤ u ∧ u ≤ A) (hx : ∀ u, some u ∈ x → -B ≤ u ∧ u ≤ B) : -(A + B) ≤ v ∧ v ≤ A + B := by
  obtain ⟨k, hk, ek⟩ := sum_at h e
  cases e1 : getL r k with
  | none => rw [e1] at ek; cases ek
  | some a =>
    cases e2 : getL x k with
    | none => rw [e1, e2] at ek; cases ek
    | some b =>
      rw [e1, e2] at ek
      have ek : a + b = v := Option.some.inj ek
      have h1 := hr a (get_mem e1)
      have h2 := hx b (get_mem e2)
      omega
theorem lags_mem : ∀ {xs : List (La × La)} {v : Int}, some v ∈ lagsGo xs → ∃ a b, (some a, some b) ∈ xs ∧ v = b - a
  | (none, q) :: r, v, h => by
    obtain ⟨a, b, h1, h2⟩ := lags_mem (xs := r) h
    exact ⟨a, b, List.mem_cons_of_mem _ h1, h2⟩
  | (some _, none) :: r, v, h => by
    rcases List.mem_cons.mp h with h | h
    · cases h
    · obtain ⟨a, b, h1, h2⟩ := lags_mem (xs := r) h
      exact ⟨a, b, List.mem_cons_of_mem _ h1, h2⟩
  | (some c, some d) :: r, v, h => by
    rcases List.mem_cons.mp h with h | h
    · cases h
      exact ⟨c, d, List.mem_cons_self .., rfl⟩
    · obtain ⟨a, b, h1, h2⟩ := lags_mem (xs := r) h
      exact ⟨a, b, List.mem_cons_of_mem _ h1, h2⟩
theorem div_bound {t : List (List La)} {wide : Nat} {g : List La} {v A B : Int} (hv : some v ∈ dividedOf t wide g) (hr : ∀ r ∈ t, ∀ u, some u ∈ r → -A ≤ u ∧ u ≤ A) (hg : ∀ u, some u ∈ g → -B ≤ u ∧ u ≤ B) : -(A + B) ≤ v ∧ v ≤ A + B := by
  obtain ⟨c, hc, e⟩ := List.mem_map.mp hv
  obtain ⟨k, _, rfl⟩ := List.mem_map.mp hc
  unfold gapOf at e
  have hn : none ∉ lagsGo ((colOf t k).zip g) := fun h => by rw [gap_none h] at e; cases e
  have hm := ((gap_some (s := none) hn).1 v e).1
  rcases hm with hm | hm
  · cases hm
  · obtain ⟨a, b, h1, h2⟩ := lags_mem hm
    obtain ⟨q1, q2⟩ := List.of_mem_zip h1
    obtain ⟨r, hr1, e2⟩ := List.mem_map.mp q1
    have e3 := get_mem (show getL r k = some a from e2)
    have b1 := hr r hr1 a e3
    have b2 := hg b q2
    omega
end Dn.DL
namespace Dn.DL
open PySem
/-! ### rows made of rows -/
theorem getL_shift {g : List La} {l : Int} {k : Nat} : getL (shiftOf g l) k = added (getL g k) (some l) := by
  unfold getL shiftOf
  rw [List.getElem?_map]
  cases g[k]? <;> rfl
theorem getL_both {a b : List La} {k : Nat} (h : a.length = b.length) : getL (bothOf a b) k = later (getL a k) (getL b k) := by
  by_cases hk : k < a.length
  · unfold bothOf
    rw [getL_zip hk (by omega)]
  · unfold getL bothOf
    rw [List.getElem?_zipWith, List.getElem?_eq_none (by omega), List.getElem?_eq_none (by omega)]
    rfl
theorem getL_out {a : List La} {k : Nat} (h : a.length ≤ k) : getL a k = none := by
  unfold getL
  rw [List.getElem?_eq_none h]
  rfl
theorem le_get {a b : List La} (h : leL a b) (k : Nat) : isBy (getL a k) (getL b k) = true := by
  obtain ⟨h1, h2⟩ := leL_get.mp h
  by_cases hk : k < a.length
  · exact h2 k hk
  · rw [getL_out (by omega)]; rfl
theorem le_of {a b : List La} (h : a.length = b.length) (g : ∀ k v, getL a k = some v → isBy (some v) (getL b k) = true) : leL a b := leL_get.mpr ⟨h, fun k _ => by
  cases e : getL a k with
  | none => rfl
  | some v => exact g k v e⟩
theorem by_some {v : Int} {b : La} (h : isBy (some v) b = true) : ∃ w, b = some w ∧ v ≤ w := by
  cases b with
  | none => cases h
  | some w => exact ⟨w, rfl, of_decide_eq_true h⟩
theorem by_int {v w : Int} : isBy (some v) (some w) = true ↔ v ≤ w := decide_eq_true_iff
/-- a shift of a row lies below a row -/
abbrev Und (g : List La) (l : Int) (x : List La) : Prop := leL (shiftOf g l) x
theorem und_iff {g x : List La} {l : Int} (h : g.length = x.length) : Und g l x ↔ ∀ k u, getL g k = some u → ∃ v, getL x k = some v ∧ u + l ≤ v := by
  constructor
  · intro hu k u e
    have := le_get hu k
    rw [getL_shift, e] at this
    exact by_some this
  · intro hk
    refine le_of (by rw [shiftOf, List.length_map, h]) fun k v e => ?_
    rw [getL_shift] at e
    cases eg : getL g k with
    | none => rw [eg] at e; cases e
    | some u =>
      rw [eg] at e
      have e : u + l = v := Option.some.inj e
      obtain ⟨w, e2, h2⟩ := hk k u eg
      rw [e2, by_int]
      omega
theorem und_trans {g h x : List La} {l m : Int} (hl : g.length = h.length) (hx : h.length = x.length) (a : Und g l h) (b : Und h m x) : Und g (l + m) x := by
  rw [und_iff hl] at a
  rw [und_iff hx] at b
  rw [und_iff (hl.trans hx)]
  intro k u e
  obtain ⟨v, e1, h1⟩ := a k u e
  obtain ⟨w, e2, h2⟩ := b k v e1
  exact ⟨w, e2, by omega⟩
/-- where a row has a lag, one of the rows has it, shifted, and lies below -/
def Span (G : List (List La)) (x : List La) : Prop := ∀ k v, getL x k = some v → ∃ g ∈ G, ∃ l u, Und g l x ∧ getL g k = some u ∧ u + l = v
def Rows (n : Nat) (G : List (List La)) : Prop := ∀ g ∈ G, g.length = n
theorem Span.mono {G G' : List (List La)} {x : List La} (h : Span G x) (hg : ∀ g ∈ G, g ∈ G') : Span G' x := fun k v e => by
  obtain ⟨g, m, l, u, h1, h2, h3⟩ := h k v e
  exact ⟨g, hg g m, l, u, h1, h2, h3⟩
theorem Span.self {G : List (List La)} {g : List La} (h : g ∈ G) : Span G g := fun k v e => ⟨g, h, 0, v, by
  rw [und_iff rfl]
  exact fun k u e => ⟨u, e, by omega⟩, e, by omega⟩
/-- made of what is made -/
theorem Span.trans {n : Nat} {G G' : List (List La)} {x : List La} (hG : Rows n G) (hG' : Rows n G') (hx : x.length = n) (h : Span G x) (hg : ∀ g ∈ G, Span G' g) : Span G' x := fun k v e => by
  obtain ⟨g, m, l, u, h1, h2, h3⟩ := h k v e
  obtain ⟨g', m', l', u', h1', h2', h3'⟩ := hg g m k u h2
  exact ⟨g', m', l' + l, u', und_trans ((hG' g' m').trans (hG g m).symm) ((hG g m).trans hx.symm) h1' h1, h2', by omega⟩
theorem get_lt_of {x : List La} {k : Nat} {v : Int} (h : getL x k = some v) : k < x.length := by
  cases Nat.lt_or_ge k x.length with
  | inl h => exact h
  | inr h2 => rw [getL_out h2] at h; cases h
/-- a sum of what is made is below by the rows -/
theorem sum_und {a g x : List La} {l : Int} (ha : a.length = g.length) (hg : g.length = x.length) (h : Und g l x) : isBy (added (sumOf a g) (some l)) (sumOf a x) = true := by
  cases e : sumOf a g with
  | none => rfl
  | some v =>
    obtain ⟨k, hk, ek⟩ := sum_at ha e
    cases e1 : getL a k with
    | none => rw [e1] at ek; cases ek
    | some α =>
      cases e2 : getL g k with
      | none => rw [e1, e2] at ek; cases ek
      | some u =>
        rw [e1, e2] at ek
        have ek : α + u = v := Option.some.inj ek
        obtain ⟨w, e3, h3⟩ := (und_iff hg).mp h k u e2
        have h4 := added_sum (r := a) (x := x) (k := k) (ha.trans hg) (by omega)
        rw [e1, e3] at h4
        refine isBy_trans ?_ h4
        show decide (v + l ≤ α + w) = true
        rw [decide_eq_true_iff]
        omega
/-! ### one pair more -/
def keeps1 (p : List La × List La) (x : List La) : Bool := isBy (sumOf p.1 x) (sumOf p.2 x)
/-- the row that two rows make just where a pair is kept -/
def mixOf (p : List La × List La) (r o : List La) : Option (List La) := match sumOf p.2 r, sumOf p.1 o with
  | some right, some left => some (bothOf (shiftOf r left) (shiftOf o right))
  | _, _ => none
theorem shift_len (g : List La) (l : Int) : (shiftOf g l).length = g.length := List.length_map ..
theorem both_len (a b : List La) : (bothOf a b).length = min a.length b.length := List.length_zipWith ..
theorem sum_shift {a g : List La} {l : Int} (h : a.length = g.length) : sumOf a (shiftOf g l) = added (sumOf a g) (some l) := by
  have key : ∀ v, isBy (sumOf a (shiftOf g l)) v = true ↔ isBy (added (sumOf a g) (some l)) v = true := fun v => by
    constructor
    · intro h1
      cases e : sumOf a g with
      | none => rfl
      | some s =>
        obtain ⟨k, hk, ek⟩ := sum_at h e
        have := (sum_by (h.trans (shift_len g l).symm)).mp h1 k (by rw [shift_len]; exact hk)
        rw [getL_shift] at this
        cases e1 : getL a k with
        | none => rw [e1] at ek; cases ek
        | some α =>
          cases e2 : getL g k with
          | none => rw [e1, e2] at ek; cases ek
          | some u =>
            rw [e1, e2] at ek this
            have ek : α + u = s := Option.some.inj ek
            have this : isBy (some (α + (u + l))) v = true := this
            rw [show α + (u + l) = s + l by omega] at this
            exact this
    · intro h1
      rw [sum_by (h.trans (shift_len g l).symm)]
      intro k hk
      rw [shift_len] at hk
      rw [getL_shift]
      have h2 := added_sum (r := a) (x := g) (k := k) h hk
      cases e1 : getL a k with
      | none => rfl
      | some α =>
        cases e2 : getL g k with
        | none => rfl
        | some u =>
          rw [e1, e2] at h2
          obtain ⟨s, e3, h3⟩ := by_some h2
          rw [e3] at h1
          refine isBy_trans ?_ h1
          show decide (α + (u + l) ≤ s + l) = true
          rw [decide_eq_true_iff]
          omega
  have := leL_anti (a := [sumOf a (shiftOf g l)]) (b := [added (sumOf a g) (some l)]) ⟨(key _).mpr (isBy_refl _), trivial⟩ ⟨(key _).mp (isBy_refl _), trivial⟩
  exact (List.cons.inj this).1
theorem keeps1_shift {p : List La × List La} {g : List La} {l : Int} (h1 : p.1.length = g.length) (h2 : p.2.length = g.length) : keeps1 p (shiftOf g l) = keeps1 p g := by
  unfold keeps1
  rw [sum_shift h1, sum_shift h2]
  cases sumOf p.1 g <;> cases sumOf p.2 g <;> simp [added, isBy]
theorem keeps1_both {p : List La × List La} {a b : List La} (hl : a.length = b.length) (ha : keeps1 p a = true) (hb : keeps1 p b = true) : keeps1 p (bothOf a b) = true := by
  unfold keeps1
  rw [sum_both _ _ _ hl, sum_both _ _ _ hl]
  exact later_mono ha hb
/-- a span keeps what its rows keep -/
theorem span_keeps {n : Nat} {p : List La × List La} {G : List (List La)} {x : List La} (h1 : p.1.length = n) (h2 : p.2.length = n) (hG : Rows n G) (hx : x.length = n) (h : Span G x) (hk : ∀ g ∈ G, keeps1 p g = true) : keeps1 p x = true := by
  unfold keeps1
  cases e : sumOf p.1 x with
  | none => rfl
  | some v =>
    obtain ⟨k, hk2, ek⟩ := sum_at (h1.trans hx.symm) e
    cases e1 : getL p.1 k with
    | none => rw [e1] at ek; cases ek
    | some α =>
      cases e2 : getL x k with
      | none => rw [e1, e2] at ek; cases ek
      | some u =>
        rw [e1, e2] at ek
        have ek : α + u = v := Option.some.inj ek
        obtain ⟨g, m, l, w, g1, g2, g3⟩ := h k u e2
        have hgl := hG g m
        have q := hk g m
        unfold keeps1 at q
        have q2 := added_sum (r := p.1) (x := g) (k := k) (h1.trans hgl.symm) (by rw [hgl, ← hx]; exact hk2)
        rw [e1, g2] at q2
        have q3 := isBy_trans q2 q
        have q4 := sum_und (a := p.2) (h2.trans hgl.symm) (hgl.trans hx.symm) g1
        obtain ⟨s, e3, h3⟩ := by_some q3
        rw [e3] at q4
        refine isBy_trans ?_ q4
        show decide (v ≤ s + l) = true
        rw [decide_eq_true_iff]
        have h3 : α + w ≤ s := h3
        omega
/-- the rows that with_pair lays together -/
def mixes (p : List La × List La) (G : List (List La)) : List (List La) :=
  G.filter (keeps1 p) ++ ((G.filter (keeps1 p)).filter fun r => (sumOf p.2 r).isSome).flatMap fun r => (G.filter fun o => !keeps1 p o).map fun o => bothOf (shiftOf r ((sumOf p.1 o).getD 0)) (shiftOf o ((sumOf p.2 r).getD 0))
theorem not_keeps {p : List La × List La} {o : List La} (h : keeps1 p o = false) : ∃ α, sumOf p.1 o = some α ∧ ∀ β, sumOf p.2 o = some β → β < α := by
  unfold keeps1 at h
  cases e : sumOf p.1 o with
  | none => rw [e] at h; cases h
  | some α =>
    refine ⟨α, rfl, fun β e2 => ?_⟩
    rw [e, e2] at h
    have h : ¬ α ≤ β := of_decide_eq_false h
    omega
theorem mixes_rows {n : Nat} {p : List La × List La} {G : List (List La)} (hG : Rows n G) : Rows n (mixes p G) := fun g hg => by
  rcases List.mem_append.mp hg with hg | hg
  · exact hG g (List.mem_filter.mp hg).1
  · obtain ⟨r, hr, hg⟩ := List.mem_flatMap.mp hg
    obtain ⟨o, ho, rfl⟩ := List.mem_map.mp hg
    rw [both_len, shift_len, shift_len, hG r (List.mem_filter.mp (List.mem_filter.mp hr).1).1, hG o (List.mem_filter.mp ho).1, Nat.min_self]
theorem mixes_keep {n : Nat} {p : List La × List La} {G : List (List La)} (h1 : p.1.length = n) (h2 : p.2.length = n) (hG : Rows n G) : ∀ g ∈ mixes p G, keeps1 p g = true := fun g hg => by
  rcases List.mem_append.mp hg with hg | hg
  · exact (List.mem_filter.mp hg).2
  · obtain ⟨r, hr, hg⟩ := List.mem_flatMap.mp hg
    obtain ⟨o, ho, rfl⟩ := List.mem_map.mp hg
    obtain ⟨hr1, hr2⟩ := List.mem_filter.mp hr
    obtain ⟨hr0, hrk⟩ := List.mem_filter.mp hr1
    obtain ⟨ho0, hok⟩ := List.mem_filter.mp ho
    obtain ⟨α, ea, hlt⟩ := not_keeps (by simpa using hok)
    obtain ⟨β, eb⟩ := Option.isSome_iff_exists.mp hr2
    have lr := hG r hr0
    have lo := hG o ho0
    rw [ea, eb]
    show keeps1 p (bothOf (shiftOf r α) (shiftOf o β)) = true
    unfold keeps1 at hrk ⊢
    have hl : (shiftOf r α).length = (shiftOf o β).length := by rw [shift_len, shift_len, lr, lo]
    rw [sum_both _ _ _ hl, sum_both _ _ _ hl, sum_shift (h1.trans lr.symm), sum_shift (h1.trans lo.symm), sum_shift (h2.trans lr.symm), sum_shift (h2.trans lo.symm), ea, eb]
    rw [eb] at hrk
    have goal1 : isBy (added (sumOf p.1 r) (some α)) (some (β + α)) = true := by
      cases e : sumOf p.1 r with
      | none => rfl
      | some s =>
        rw [e] at hrk
        have hrk : s ≤ β := of_decide_eq_true hrk
        show decide (s + α ≤ β + α) = true
        rw [decide_eq_true_iff]; omega
    have goal2 : isBy (added (some α) (some β)) (some (β + α)) = true := by
      show decide (α + β ≤ β + α) = true
      rw [decide_eq_true_iff]; omega
    have r1 := (later_by _ _ _).mpr ⟨goal1, goal2⟩
    exact isBy_trans r1 ((later_by (added (some β) (some α)) _ _).mp (isBy_refl _)).1
/-- what the old rows make and the pair keeps, the new rows make -/
theorem mixes_span {n : Nat} {p : List La × List La} {G : List (List La)} {x : List La} (h1 : p.1.length = n) (h2 : p.2.length = n) (hG : Rows n G) (hx : x.length = n) (h : Span G x) (hk : keeps1 p x = true) : Span (mixes p G) x := fun i v e => by
  obtain ⟨g, m, l, u, g1, g2, g3⟩ := h i v e
  cases ek : keeps1 p g with
  | true => exact ⟨g, List.mem_append_left _ (List.mem_filter.mpr ⟨m, ek⟩), l, u, g1, g2, g3⟩
  | false =>
    obtain ⟨α, ea, hlt⟩ := not_keeps ek
    have lg := hG g m
    have q1 := sum_und (a := p.1) (h1.trans lg.symm) (lg.trans hx.symm) g1
    rw [ea] at q1
    unfold keeps1 at hk
    obtain ⟨t, et, ht⟩ := by_some (isBy_trans q1 hk)
    have ht : α + l ≤ t := ht
    obtain ⟨j, hj, ej⟩ := sum_at (h2.trans hx.symm) et
    cases e1 : getL p.2 j with
    | none => rw [e1] at ej; cases ej
    | some β =>
      cases e2 : getL x j with
      | none => rw [e1, e2] at ej; cases ej
      | some y =>
        rw [e1, e2] at ej
        have ej : β + y = t := Option.some.inj ej
        obtain ⟨r, mr, l', w, r1, r2, r3⟩ := h j y e2
        have lr := hG r mr
        have q2 := added_sum (r := p.2) (x := r) (k := j) (h2.trans lr.symm) (by omega)
        rw [e1, r2] at q2
        obtain ⟨b, eb, hb⟩ := by_some q2
        have hb : β + w ≤ b := hb
        have q3 := sum_und (a := p.2) (h2.trans lr.symm) (lr.trans hx.symm) r1
        rw [eb, et] at q3
        have q3 : b + l' ≤ t := of_decide_eq_true q3
        cases ekr : keeps1 p r with
        | false =>
          exfalso
          obtain ⟨α', ea', hlt'⟩ := not_keeps ekr
          have q4 := sum_und (a := p.1) (h1.trans lr.symm) (lr.trans hx.symm) r1
          rw [ea'] at q4
          have q5 := isBy_trans q4 hk
          rw [et] at q5
          have q5 : α' + l' ≤ t := of_decide_eq_true q5
          have := hlt' b eb
          omega
        | true =>
          refine ⟨bothOf (shiftOf r α) (shiftOf g b), List.mem_append_right _ (List.mem_flatMap.mpr ⟨r, List.mem_filter.mpr ⟨List.mem_filter.mpr ⟨mr, ekr⟩, by rw [eb]; rfl⟩, List.mem_map.mpr ⟨g, List.mem_filter.mpr ⟨m, by rw [ek]; rfl⟩, by rw [ea, eb]; rfl⟩⟩), l - b, u + b, ?_, ?_, by omega⟩
          · have hl : (shiftOf r α).length = (shiftOf g b).length := by rw [shift_len, shift_len, lr, lg]
            rw [und_iff (by rw [both_len, shift_len, shift_len, lr, lg, Nat.min_self, hx])]
            intro k s es
            rw [getL_both hl, getL_shift, getL_shift] at es
            cases er : getL r k with
            | none =>
              cases eg : getL g k with
              | none => rw [er, eg] at es; cases es
              | some z =>
                rw [er, eg] at es
                have es : z + b = s := Option.some.inj es
                obtain ⟨o, eo, ho⟩ := (und_iff (lg.trans hx.symm)).mp g1 k z eg
                exact ⟨o, eo, by omega⟩
            | some y' =>
              obtain ⟨o, eo, ho⟩ := (und_iff (lr.trans hx.symm)).mp r1 k y' er
              refine ⟨o, eo, ?_⟩
              cases eg : getL g k with
              | none =>
                rw [er, eg] at es
                have es : y' + α = s := Option.some.inj es
                omega
              | some z =>
                obtain ⟨o', eo', ho'⟩ := (und_iff (lg.trans hx.symm)).mp g1 k z eg
                rw [eo] at eo'
                cases eo'
                rw [er, eg] at es
                have es : (if z + b > y' + α then z + b else y' + α) = s := Option.some.inj es
                split at es <;> omega
          · have hl : (shiftOf r α).length = (shiftOf g b).length := by rw [shift_len, shift_len, lr, lg]
            rw [getL_both hl, getL_shift, getL_shift, g2]
            cases er : getL r i with
            | none => rfl
            | some y' =>
              obtain ⟨o, eo, ho⟩ := (und_iff (lr.trans hx.symm)).mp r1 i y' er
              rw [e] at eo
              cases eo
              show some (if u + b > y' + α then u + b else y' + α) = some (u + b)
              congr 1
              split <;> omega
end Dn.DL
namespace Dn.DL
open PySem
/-! ### shares, made rows -/
def isRow (g : List La) : Prop := latestOf g ≠ none
theorem isRow_iff {g : List La} : isRow g ↔ ∃ k u, getL g k = some u := by
  constructor
  · intro h
    cases e : latestOf g with
    | none => exact absurd e h
    | some v =>
      have hm := latest_mem e
      obtain ⟨k, hk⟩ := List.mem_iff_getElem?.mp hm
      exact ⟨k, v, by unfold getL; rw [hk]; rfl⟩
  · rintro ⟨k, u, e⟩ h
    have := (latest_by none g).mp (by rw [h]; rfl) _ (get_mem e)
    cases this
theorem gap_none_row {g x : List La} (h : ¬ isRow g) : gapOf g x = none := by
  have hn : ∀ p ∈ g.zip x, p.1 = none := fun p hp => by
    cases e : p.1 with
    | none => rfl
    | some v =>
      exfalso
      have hm := (List.of_mem_zip hp).1
      rw [e] at hm
      obtain ⟨k, hk⟩ := List.mem_iff_getElem?.mp hm
      exact h (isRow_iff.mpr ⟨k, v, by unfold getL; rw [hk]; rfl⟩)
  unfold gapOf
  generalize g.zip x = l at hn
  induction l with
  | nil => rfl
  | cons p l ih =>
    obtain ⟨a, b⟩ := p
    have : a = none := hn (a, b) (List.mem_cons_self ..)
    subst this
    exact ih fun q hq => hn q (List.mem_cons_of_mem _ hq)
theorem gap_und {g x : List La} (hl : g.length = x.length) (hg : isRow g) (l : Int) : isBy (some l) (gapOf g x) = true ↔ Und g l x := by
  have hz : ∀ k, k < g.length → (g.zip x)[k]? = some (getL g k, getL x k) := fun k hk => by
    rw [List.zip, List.getElem?_zipWith, List.getElem?_eq_getElem hk, List.getElem?_eq_getElem (show k < x.length by omega)]
    unfold getL
    rw [List.getElem?_eq_getElem hk, List.getElem?_eq_getElem (show k < x.length by omega)]
    rfl
  have hne : lagsGo (g.zip x) ≠ [] := by
    obtain ⟨k, u, e⟩ := isRow_iff.mp hg
    refine lags_ne ⟨(getL g k, getL x k), List.mem_of_getElem? (hz k (get_lt_of e)), ?_⟩
    show getL g k ≠ none
    rw [e]
    exact fun h => by cases h
  unfold gapOf
  rw [gap_by hne, und_iff hl]
  constructor
  · intro h k u e
    have := h _ (List.mem_of_getElem? (hz k (get_lt_of e)))
    have this : isBy (added (getL g k) (some l)) (getL x k) = true := this
    rw [e] at this
    exact by_some this
  · intro h p hp
    obtain ⟨k, hk⟩ := List.mem_iff_getElem?.mp hp
    have hkl : k < g.length := by
      have := (List.getElem?_eq_some_iff.mp hk).1
      rw [List.length_zip] at this
      omega
    rw [hz k hkl] at hk
    have hk := Option.some.inj hk
    subst hk
    show isBy (added (getL g k) (some l)) (getL x k) = true
    cases e : getL g k with
    | none => rfl
    | some u =>
      obtain ⟨v, e2, h2⟩ := h k u e
      rw [e2]
      show decide (u + l ≤ v) = true
      rw [decide_eq_true_iff]
      exact h2
theorem gap_is {g x : List La} {l : Int} (hl : g.length = x.length) (h : gapOf g x = some l) : Und g l x := by
  by_cases hg : isRow g
  · exact (gap_und hl hg l).mp (by rw [h]; exact isBy_refl _)
  · rw [gap_none_row hg] at h; cases h
def makeStep (x : List La) (f g : List La) : List La := match gapOf g x with | none => f | some l => bothOf f (shiftOf g l)
def madeOf (G : List (List La)) (x : List La) : List La := G.foldl (makeStep x) (List.replicate x.length none)
theorem makeStep_len {x f g : List La} (hf : f.length = x.length) (hg : g.length = x.length) : (makeStep x f g).length = x.length := by
  unfold makeStep
  cases gapOf g x with
  | none => exact hf
  | some l => rw [both_len, shift_len, hf, hg, Nat.min_self]
theorem fold_made_len {x : List La} : ∀ {G : List (List La)} {f : List La}, Rows x.length G → f.length = x.length → (G.foldl (makeStep x) f).length = x.length
  | [], f, _, hf => hf
  | g :: G, f, h, hf => fold_made_len (G := G) (fun q hq => h q (List.mem_cons_of_mem _ hq)) (makeStep_len hf (h g (List.mem_cons_self ..)))
theorem made_len {G : List (List La)} {x : List La} (h : Rows x.length G) : (madeOf G x).length = x.length := fold_made_len h (List.length_replicate ..)
theorem fold_made_by {x : List La} {k : Nat} {v : La} : ∀ {G : List (List La)} {f : List La}, Rows x.length G → f.length = x.length → (isBy (getL (G.foldl (makeStep x) f) k) v = true ↔ isBy (getL f k) v = true ∧ ∀ g ∈ G, ∀ l, gapOf g x = some l → isBy (added (getL g k) (some l)) v = true)
  | [], f, _, _ => ⟨fun h => ⟨h, fun g hg => by cases hg⟩, fun h => h.1⟩
  | g :: G, f, h, hf => by
    have hg := h g (List.mem_cons_self ..)
    rw [List.foldl_cons, fold_made_by (G := G) (fun q hq => h q (List.mem_cons_of_mem _ hq)) (makeStep_len hf hg)]
    have e : isBy (getL (makeStep x f g) k) v = true ↔ isBy (getL f k) v = true ∧ ∀ l, gapOf g x = some l → isBy (added (getL g k) (some l)) v = true := by
      unfold makeStep
      cases eg : gapOf g x with
      | none => exact ⟨fun h => ⟨h, fun l e => by cases e⟩, fun h => h.1⟩
      | some l =>
        dsimp only
        rw [getL_both (by rw [shift_len, hf, hg]), later_by, getL_shift]
        exact ⟨fun h => ⟨h.1, fun l' e => by cases e; exact h.2⟩, fun h => ⟨h.1, h.2 l rfl⟩⟩
    rw [e]
    simp only [List.forall_mem_cons]
    exact ⟨fun h => ⟨h.1.1, h.1.2, h.2⟩, fun h => ⟨⟨h.1, h.2.1⟩, h.2.2⟩⟩
theorem made_by {G : List (List La)} {x : List La} {k : Nat} {v : La} (h : Rows x.length G) : isBy (getL (madeOf G x) k) v = true ↔ ∀ g ∈ G, ∀ l, gapOf g x = some l → isBy (added (getL g k) (some l)) v = true := by
  unfold madeOf
  rw [fold_made_by h (List.length_replicate ..)]
  have : getL (List.replicate x.length (none : La)) k = none := by
    unfold getL
    rw [List.getElem?_replicate]
    split <;> rfl
  rw [this]
  exact ⟨fun h => h.2, fun h => ⟨rfl, h⟩⟩
theorem made_le {G : List (List La)} {x : List La} (h : Rows x.length G) : leL (madeOf G x) x := by
  rw [leL_get]
  refine ⟨made_len h, fun k _ => (made_by h).mpr fun g hg l e => ?_⟩
  have := le_get (gap_is (h g hg) e) k
  rwa [getL_shift] at this
/-- an entry of a made row is one row's -/
theorem made_at {G : List (List La)} {x : List La} {k : Nat} {v : Int} (h : Rows x.length G) (e : getL (madeOf G x) k = some v) : ∃ g ∈ G, ∃ l u, gapOf g x = some l ∧ getL g k = some u ∧ u + l = v := by
  refine Classical.byContradiction fun hc => ?_
  have : isBy (getL (madeOf G x) k) (some (v - 1)) = true := (made_by h).mpr fun g hg l el => by
    cases eu : getL g k with
    | none => rfl
    | some u =>
      have h1 := (made_by (k := k) h).mp (isBy_refl _) g hg l el
      rw [e, eu] at h1
      have h1 : u + l ≤ v := of_decide_eq_true h1
      have h2 : u + l ≠ v := fun h3 => hc ⟨g, hg, l, u, el, eu, h3⟩
      show decide (u + l ≤ v - 1) = true
      rw [decide_eq_true_iff]
      omega
  rw [e] at this
  have this : v ≤ v - 1 := of_decide_eq_true this
  omega
theorem made_above {G : List (List La)} {x g : List La} {l : Int} (h : Rows x.length G) (hg : g ∈ G) (hu : Und g l x) : Und g l (madeOf G x) := by
  have hl := h g hg
  rw [und_iff (hl.trans (made_len h).symm)]
  intro k u e
  have hr : isRow g := isRow_iff.mpr ⟨k, u, e⟩
  obtain ⟨l', e2, h2⟩ := by_some ((gap_und hl hr l).mpr hu)
  have h1 := (made_by (k := k) h).mp (isBy_refl _) g hg l' e2
  rw [e] at h1
  obtain ⟨v, e3, h3⟩ := by_some h1
  exact ⟨v, e3, by have h3 : u + l' ≤ v := h3; omega⟩
theorem made_span {G : List (List La)} {x : List La} (h : Rows x.length G) : Span G (madeOf G x) := fun k v e => by
  obtain ⟨g, hg, l, u, e1, e2, e3⟩ := made_at h e
  exact ⟨g, hg, l, u, made_above h hg (gap_is (h g hg) e1), e2, e3⟩
/-- what is made and lies below, lies below the made row -/
theorem made_most {G : List (List La)} {x y : List La} (h : Rows x.length G) (hy : leL y x) (hs : Span G y) : leL y (madeOf G x) := by
  have hl := leL_len hy
  refine le_of (hl.trans (made_len h).symm) fun k v e => ?_
  obtain ⟨g, hg, l, u, h1, h2, h3⟩ := hs k v e
  have hx : Und g l x := leL_trans h1 hy
  obtain ⟨w, e1, h4⟩ := (und_iff ((h g hg).trans (made_len h).symm)).mp (made_above h hg hx) k u h2
  rw [e1]
  show decide (v ≤ w) = true
  rw [decide_eq_true_iff]
  omega
theorem made_iff {G : List (List La)} {x : List La} (h : Rows x.length G) : madeOf G x = x ↔ Span G x := by
  constructor
  · intro e
    have := made_span h
    rwa [e] at this
  · exact fun hs => leL_anti (made_le h) (made_most h (leL_refl x) hs)
/-! ### rows shifted so that the latest lag is 0 -/
def normOf (x : List La) : List La := match latestOf x with | none => x | some t => shiftOf x (-t)
theorem latest_shift {x : List La} {l : Int} : latestOf (shiftOf x l) = added (latestOf x) (some l) := by
  have key : ∀ v, isBy (latestOf (shiftOf x l)) v = true ↔ isBy (added (latestOf x) (some l)) v = true := fun v => by
    have e : isBy (added (latestOf x) (some l)) v = true ↔ ∀ a ∈ x, isBy (added a (some l)) v = true := by
      have e2 : ∀ a : La, isBy (added a (some l)) v = true ↔ isBy a (added v (some (-l))) = true := fun a => by
        cases a <;> cases v <;> simp [added, isBy]
        omega
      rw [e2, latest_by]
      exact ⟨fun h a ha => (e2 a).mpr (h a ha), fun h a ha => (e2 a).mp (h a ha)⟩
    rw [e, latest_by]
    unfold shiftOf
    simp only [List.mem_map]
    exact ⟨fun h a ha => h _ ⟨a, ha, rfl⟩, fun h b ⟨a, ha, e⟩ => e ▸ h a ha⟩
  have := leL_anti (a := [latestOf (shiftOf x l)]) (b := [added (latestOf x) (some l)]) ⟨(key _).mpr (isBy_refl _), trivial⟩ ⟨(key _).mp (isBy_refl _), trivial⟩
  exact (List.cons.inj this).1
theorem norm_len (x : List La) : (normOf x).length = x.length := by
  unfold normOf
  cases latestOf x with
  | none => rfl
  | some t => exact shift_len ..
theorem norm_top {x : List La} (h : isRow x) : latestOf (normOf x) = some 0 := by
  unfold normOf
  cases e : latestOf x with
  | none => exact absurd e h
  | some t =>
    dsimp only
    rw [latest_shift, e]
    show some (t + -t) = some 0
    congr 1
    omega
theorem shift_zero (x : List La) : shiftOf x 0 = x := by
  unfold shiftOf
  conv => rhs; rw [← List.map_id x]
  refine List.map_congr_left fun a _ => ?_
  cases a with
  | none => rfl
  | some v => show some (v + 0) = some v; rw [Int.add_zero]
theorem shift_shift (x : List La) (a b : Int) : shiftOf (shiftOf x a) b = shiftOf x (a + b) := by
  unfold shiftOf
  rw [List.map_map]
  refine List.map_congr_left fun c _ => ?_
  cases c with
  | none => rfl
  | some v => show some (v + a + b) = some (v + (a + b)); rw [Int.add_assoc]
theorem norm_of_top {x : List La} (h : latestOf x = some 0) : normOf x = x := by
  unfold normOf
  rw [h]
  exact shift_zero x
theorem norm_is {x : List La} (h : isRow x) : ∃ t, x = shiftOf (normOf x) t ∧ normOf x = shiftOf x (-t) := by
  unfold normOf
  cases e : latestOf x with
  | none => exact absurd e h
  | some t =>
    refine ⟨t, ?_, rfl⟩
    dsimp only
    rw [shift_shift, show -t + t = (0 : Int) by omega, shift_zero]
/-- what a row and a shift of it make is the same -/
theorem span_shift {n : Nat} {G G' : List (List La)} {x : List La} (hx : x.length = n) (hG : Rows n G) (h : Span G x) (hs : ∀ g ∈ G, isRow g → ∃ g' ∈ G', ∃ t, g = shiftOf g' t) : Span G' x := fun k v e => by
  obtain ⟨g, hg, l, u, h1, h2, h3⟩ := h k v e
  obtain ⟨g', hg', t, rfl⟩ := hs g hg (isRow_iff.mpr ⟨k, u, h2⟩)
  rw [getL_shift] at h2
  cases e2 : getL g' k with
  | none => rw [e2] at h2; cases h2
  | some w =>
    rw [e2] at h2
    have h2 : w + t = u := Option.some.inj h2
    refine ⟨g', hg', t + l, w, ?_, e2, by omega⟩
    unfold Und at h1 ⊢
    rwa [shift_shift] at h1
/-! ### the outmost rows -/
def addN (left : List (List La)) (row : List La) : List (List La) := if normOf row ∉ left ∧ latestOf row ≠ none then left ++ [normOf row] else left
def nubOf (G : List (List La)) : List (List La) := G.foldl addN []
theorem nub_go : ∀ (G left : List (List La)), left.Nodup → (G.foldl addN left).Nodup ∧ ∀ y, y ∈ G.foldl addN left ↔ y ∈ left ∨ ∃ g ∈ G, isRow g ∧ y = normOf g
  | [], left, h => ⟨h, fun y => ⟨.inl, fun h => h.elim id fun ⟨g, hg, _⟩ => by cases hg⟩⟩
  | g :: G, left, h => by
    rw [List.foldl_cons]
    have hn : (addN left g).Nodup := by
      unfold addN
      split
      · rename_i hc
        rw [List.nodup_append]
        exact ⟨h, by simp, fun a ha b hb => by simp at hb; subst hb; exact fun e => hc.1 (e ▸ ha)⟩
      · exact h
    obtain ⟨h1, h2⟩ := nub_go G (addN left g) hn
    refine ⟨h1, fun y => ?_⟩
    rw [h2 y]
    have hm : y ∈ addN left g ↔ y ∈ left ∨ (isRow g ∧ y = normOf g) := by
      unfold addN
      split
      · rename_i hc
        simp only [List.mem_append, List.mem_singleton]
        exact ⟨fun h => h.imp id fun e => ⟨hc.2, e⟩, fun h => h.imp id fun e => e.2⟩
      · rename_i hc
        refine ⟨.inl, fun h => h.elim id fun ⟨hr, e⟩ => ?_⟩
        by_cases hl : normOf g ∈ left
        · rw [e]; exact hl
        · exact absurd ⟨hl, hr⟩ hc
    rw [hm]
    constructor
    · rintro ((h | ⟨h, e⟩) | ⟨q, hq, h, e⟩)
      · exact .inl h
      · exact .inr ⟨g, List.mem_cons_self .., h, e⟩
      · exact .inr ⟨q, List.mem_cons_of_mem _ hq, h, e⟩
    · rintro (h | ⟨q, hq, h, e⟩)
      · exact .inl (.inl h)
      · rcases List.mem_cons.mp hq with rfl | hq
        · exact .inl (.inr ⟨h, e⟩)
        · exact .inr ⟨q, hq, h, e⟩
theorem nub_nodup (G : List (List La)) : (nubOf G).Nodup := (nub_go G [] List.nodup_nil).1
theorem mem_nub {G : List (List La)} {y : List La} : y ∈ nubOf G ↔ ∃ g ∈ G, isRow g ∧ y = normOf g := by
  unfold nubOf
  rw [(nub_go G [] List.nodup_nil).2]
  exact ⟨fun h => h.elim (fun h => by cases h) id, .inr⟩
def dropMade (left : List (List La)) (row : List La) : List (List La) := if madeOf (left.filter fun t => !decide (t = row)) row = row then left.filter fun t => !decide (t = row) else left
/-- left out one by one: what is left makes all, and no row of it is made of the others -/
theorem drop_go {n : Nat} : ∀ (todo left : List (List La)), Rows n left → Rows n todo →
    (∀ g ∈ todo.foldl dropMade left, g ∈ left) ∧ (∀ x : List La, x.length = n → Span left x → Span (todo.foldl dropMade left) x) ∧ (∀ g ∈ todo, g ∈ todo.foldl dropMade left → ¬ Span ((todo.foldl dropMade left).filter fun t => !decide (t = g)) g) ∧ (left.Nodup → (todo.foldl dropMade left).Nodup) ∧ (todo.foldl dropMade left).Sublist left
  | [], left, hl, _ => ⟨fun g h => h, fun x _ h => h, fun g h => (by cases h), fun h => h, List.Sublist.refl _⟩
  | row :: todo, left, hl, ht => by
    rw [List.foldl_cons]
    have hrow := ht row (List.mem_cons_self ..)
    have hfl : Rows n (left.filter fun t => !decide (t = row)) := fun g hg => hl g (List.mem_filter.mp hg).1
    have hsub : (dropMade left row).Sublist left := by
      unfold dropMade
      split
      · exact List.filter_sublist
      · exact List.Sublist.refl _
    have hd : Rows n (dropMade left row) := fun g hg => hl g (hsub.subset hg)
    obtain ⟨h1, h2, h3, h4, h5⟩ := drop_go todo (dropMade left row) hd fun g hg => ht g (List.mem_cons_of_mem _ hg)
    have hmi := made_iff (G := left.filter fun t => !decide (t = row)) (x := row) (by rw [hrow]; exact hfl)
    refine ⟨fun g hg => hsub.subset (h1 g hg), fun x hx hs => h2 x hx ?_, fun g hg hin hs => ?_, fun hn => h4 (hn.sublist hsub), h5.trans hsub⟩
    · unfold dropMade
      split
      · rename_i hc
        have hsr := hmi.mp hc
        refine Span.trans hl hfl hx hs fun g hg => ?_
        by_cases e : g = row
        · rw [e]; exact hsr
        · exact Span.self (List.mem_filter.mpr ⟨hg, by simp [e]⟩)
      · exact hs
    · rcases List.mem_cons.mp hg with rfl | hg
      · have hin2 := h1 _ hin
        unfold dropMade at hin2
        split at hin2
        · exact absurd (List.mem_filter.mp hin2).2 (by simp)
        · rename_i hc
          refine hc (hmi.mpr (hs.mono fun q hq => ?_))
          obtain ⟨q1, q2⟩ := List.mem_filter.mp hq
          exact List.mem_filter.mpr ⟨hsub.subset (h1 q q1), q2⟩
      · exact h3 g hg hin hs
theorem le_iff_und {n : Nat} {a b : List La} {l m : Int} (hb : b.length = n) (ha : a.length = n) (hm : m = -l) : leL b (shiftOf a m) ↔ Und b l a := by
  constructor
  · intro h
    rw [und_iff (hb.trans ha.symm)]
    intro k u e
    have := le_get h k
    rw [e, getL_shift] at this
    obtain ⟨v, e2, h2⟩ := by_some this
    cases e3 : getL a k with
    | none => rw [e3] at e2; cases e2
    | some w =>
      rw [e3] at e2
      have e2 : w + m = v := Option.some.inj e2
      exact ⟨w, rfl, by omega⟩
  · intro h
    refine le_of (by rw [shift_len, hb, ha]) fun k u e => ?_
    obtain ⟨v, e2, h2⟩ := (und_iff (hb.trans ha.symm)).mp h k u e
    rw [getL_shift, e2]
    show decide (u ≤ v + m) = true
    rw [decide_eq_true_iff]
    omega
/-- rows, each normed, none made of others -/
structure Bare (n : Nat) (G : List (List La)) : Prop where
  rows : Rows n G
  top : ∀ g ∈ G, latestOf g = some 0
  nodup : G.Nodup
  lone : ∀ g ∈ G, ¬ Span (G.filter fun t => !decide (t = g)) g
theorem lone_mem {n : Nat} {A B : List (List La)} (ha : Bare n A) (hb : Bare n B) (hab : ∀ a ∈ A, Span B a) (hba : ∀ b ∈ B, Span A b) {a : List La} (h : a ∈ A) : a ∈ B := by
  refine Classical.byContradiction fun hn => ha.lone a h fun k v e => ?_
  obtain ⟨b, mb, l, u, h1, h2, h3⟩ := hab a h k v e
  obtain ⟨a', ma, m, w, g1, g2, g3⟩ := hba b mb k u h2
  have la := ha.rows a h
  have lb := hb.rows b mb
  have la' := ha.rows a' ma
  by_cases ea : a' = a
  · exfalso
    subst ea
    rw [e] at g2
    cases g2
    have hm : m = -l := by omega
    have e2 : shiftOf a' m = b := by
      refine leL_anti g1 ?_
      have : Und b l a' := h1
      rw [le_iff_und lb la' hm]
      exact this
    have tb := hb.top b mb
    rw [← e2, latest_shift, ha.top a' h] at tb
    have tb : 0 + m = (0 : Int) := Option.some.inj tb
    have : m = 0 := by omega
    rw [this, shift_zero] at e2
    exact hn (e2 ▸ mb)
  · exact ⟨a', List.mem_filter.mpr ⟨ma, by simp [ea]⟩, m + l, w, und_trans (la'.trans lb.symm) (lb.trans la.symm) g1 h1, g2, by omega⟩
end Dn.DL
namespace Dn.DL
open PySem
/-! ### rows in order -/
def laLt : La → La → Bool
  | none, some _ => true
  | some a, some b => decide (a < b)
  | _, _ => false
def rowLt : List La → List La → Bool
  | [], _ :: _ => true
  | _, [] => false
  | x :: a, y :: b => if x = y then rowLt a b else laLt x y
theorem laLt_irrefl (a : La) : laLt a a = false := by cases a <;> simp [laLt]
theorem laLt_trans {a b c : La} (h : laLt a b = true) (g : laLt b c = true) : laLt a c = true := by
  cases a <;> cases b <;> cases c <;> simp_all [laLt]
  omega
theorem laLt_tri {a b : La} (h : a ≠ b) : laLt a b = true ∨ laLt b a = true := by
  cases a <;> cases b <;> simp_all [laLt]
  omega
theorem rowLt_irrefl : ∀ a : List La, rowLt a a = false
  | [] => rfl
  | x :: a => by unfold rowLt; rw [if_pos rfl, rowLt_irrefl a]
theorem rowLt_trans : ∀ {a b c : List La}, rowLt a b = true → rowLt b c = true → rowLt a c = true
  | [], [], _, h, _ => by cases h
  | [], _ :: _, [], _, g => by cases g
  | [], _ :: _, _ :: _, _, _ => rfl
  | _ :: _, [], _, h, _ => by cases h
  | _ :: _, _ :: _, [], _, g => by cases g
  | x :: a, y :: b, z :: c, h, g => by
    unfold rowLt at h g ⊢
    by_cases e1 : x = y
    · subst e1
      rw [if_pos rfl] at h
      by_cases e2 : x = z
      · rw [if_pos e2] at g ⊢
        exact rowLt_trans h g
      · rw [if_neg e2] at g ⊢
        exact g
    · rw [if_neg e1] at h
      by_cases e2 : y = z
      · subst e2
        rw [if_neg e1]
        exact h
      · rw [if_neg e2] at g
        have h3 := laLt_trans h g
        by_cases e3 : x = z
        · subst e3
          rw [laLt_irrefl] at h3
          cases h3
        · rw [if_neg e3]
          exact h3
theorem rowLt_tri : ∀ {a b : List La}, a ≠ b → rowLt a b = true ∨ rowLt b a = true
  | [], [], h => absurd rfl h
  | [], _ :: _, _ => .inl rfl
  | _ :: _, [], _ => .inr rfl
  | x :: a, y :: b, h => by
    unfold rowLt
    by_cases e : x = y
    · subst e
      rw [if_pos rfl, if_pos rfl]
      exact rowLt_tri fun e => h (by rw [e])
    · rw [if_neg e, if_neg (fun z => e z.symm)]
      exact laLt_tri e
theorem rowLt_asymm {a b : List La} (h : rowLt a b = true) : rowLt b a = false := by
  cases e : rowLt b a with
  | false => rfl
  | true =>
    have := rowLt_trans h e
    rw [rowLt_irrefl] at this
    cases this
def rowLe (a b : List La) : Bool := !rowLt b a
def sortRows (l : List (List La)) : List (List La) := l.mergeSort rowLe
theorem sort_perm (l : List (List La)) : (sortRows l).Perm l := List.mergeSort_perm l rowLe
theorem rowLe_trans (a b c : List La) (h : rowLe a b = true) (g : rowLe b c = true) : rowLe a c = true := by
  unfold rowLe at *
  simp only [Bool.not_eq_true'] at *
  cases e : rowLt c a with
  | false => rfl
  | true =>
    by_cases e1 : a = b
    · subst e1; rw [e] at g; cases g
    · rcases rowLt_tri e1 with h1 | h1
      · rw [rowLt_trans e h1] at g; cases g
      · rw [h1] at h; cases h
theorem rowLe_total (a b : List La) : (rowLe a b || rowLe b a) = true := by
  unfold rowLe
  cases e : rowLt b a with
  | false => rfl
  | true => rw [rowLt_asymm e]; rfl
theorem sort_sorted {l : List (List La)} (h : l.Nodup) : (sortRows l).Pairwise fun a b => rowLt a b = true := by
  have h1 : (sortRows l).Pairwise fun a b => rowLe a b = true := List.pairwise_mergeSort rowLe_trans rowLe_total l
  have h2 : (sortRows l).Nodup := (sort_perm l).nodup_iff.mpr h
  refine (List.Pairwise.and h1 h2).imp fun {a b} ⟨q1, q2⟩ => ?_
  unfold rowLe at q1
  simp only [Bool.not_eq_true'] at q1
  rcases rowLt_tri q2 with h | h
  · exact h
  · rw [h] at q1; cases q1
theorem sorted_nodup {l : List (List La)} (h : l.Pairwise fun a b => rowLt a b = true) : l.Nodup := h.imp fun {a b} q e => by
  rw [e, rowLt_irrefl] at q
  cases q
/-- rows in order are told by which they are -/
theorem sorted_ext : ∀ {a b : List (List La)}, (a.Pairwise fun x y => rowLt x y = true) → (b.Pairwise fun x y => rowLt x y = true) → (∀ x, x ∈ a ↔ x ∈ b) → a = b
  | [], [], _, _, _ => rfl
  | [], y :: b, _, _, h => by have := (h y).mpr (List.mem_cons_self ..); cases this
  | x :: a, [], _, _, h => by have := (h x).mp (List.mem_cons_self ..); cases this
  | x :: a, y :: b, ha, hb, h => by
    have na := sorted_nodup ha
    have nb := sorted_nodup hb
    rw [List.pairwise_cons] at ha hb
    have e : x = y := by
      refine Classical.byContradiction fun hne => ?_
      have h1 : x ∈ b := (List.mem_cons.mp ((h x).mp (List.mem_cons_self ..))).resolve_left hne
      have h2 : y ∈ a := (List.mem_cons.mp ((h y).mpr (List.mem_cons_self ..))).resolve_left fun e => hne e.symm
      have q1 := ha.1 y h2
      rw [rowLt_asymm (hb.1 x h1)] at q1
      cases q1
    subst e
    congr 1
    rw [List.nodup_cons] at na nb
    refine sorted_ext ha.2 hb.2 fun z => ⟨fun hz => ?_, fun hz => ?_⟩
    · exact (List.mem_cons.mp ((h z).mp (List.mem_cons_of_mem _ hz))).resolve_left fun e => na.1 (e ▸ hz)
    · exact (List.mem_cons.mp ((h z).mpr (List.mem_cons_of_mem _ hz))).resolve_left fun e => nb.1 (e ▸ hz)
theorem both_geG : ∀ {a b : List La}, a.length = b.length → leL a (bothOf a b) ∧ leL b (bothOf a b)
  | [], [], _ => ⟨trivial, trivial⟩
  | a :: as, b :: bs, h => by
    obtain ⟨h1, h2⟩ := both_geG (a := as) (b := bs) (by simpa using h)
    have q := (later_by a b (later a b)).mp (isBy_refl _)
    exact ⟨⟨q.1, h1⟩, ⟨q.2, h2⟩⟩
  | [], _ :: _, h => by cases h
  | _ :: _, [], h => by cases h
/-! ### the outmost rows, in order -/
def outmostOf (G : List (List La)) : List (List La) := (sortRows (nubOf G)).foldl dropMade (sortRows (nubOf G))
structure Outmost (n : Nat) (G A : List (List La)) : Prop where
  bare : Bare n A
  sorted : A.Pairwise fun a b => rowLt a b = true
  from_ : ∀ a ∈ A, ∃ g ∈ G, isRow g ∧ a = normOf g
  all : ∀ x : List La, x.length = n → (Span A x ↔ Span G x)
theorem outmost_is {n : Nat} {G : List (List La)} (hG : Rows n G) : Outmost n G (outmostOf G) := by
  have hm : ∀ y, y ∈ sortRows (nubOf G) ↔ ∃ g ∈ G, isRow g ∧ y = normOf g := fun y => by rw [(sort_perm _).mem_iff, mem_nub]
  have hr : Rows n (sortRows (nubOf G)) := fun y hy => by
    obtain ⟨g, hg, _, rfl⟩ := (hm y).mp hy
    rw [norm_len, hG g hg]
  obtain ⟨h1, h2, h3, h4, h5⟩ := drop_go (sortRows (nubOf G)) (sortRows (nubOf G)) hr hr
  have hs := sort_sorted (nub_nodup G)
  have ho : Rows n (outmostOf G) := fun y hy => hr y (h1 y hy)
  refine ⟨⟨ho, fun g hg => ?_, h4 (sorted_nodup hs), fun g hg => h3 g (h1 g hg) hg⟩, hs.sublist h5, fun a ha => (hm a).mp (h1 a ha), fun x hx => ⟨fun hsp => ?_, fun hsp => ?_⟩⟩
  · obtain ⟨q, _, hq, rfl⟩ := (hm g).mp (h1 g hg)
    exact norm_top hq
  · refine span_shift hx ho hsp fun a ha _ => ?_
    obtain ⟨g, hg, hg2, rfl⟩ := (hm a).mp (h1 a ha)
    obtain ⟨t, _, e⟩ := norm_is hg2
    exact ⟨g, hg, -t, e⟩
  · refine h2 x hx (span_shift hx hG hsp fun g hg hg2 => ?_)
    obtain ⟨t, e, _⟩ := norm_is hg2
    exact ⟨normOf g, (hm _).mpr ⟨g, hg, hg2, rfl⟩, t, e⟩
/-- the rows of a cone, in order, are one list -/
theorem outmost_uniq {n : Nat} {A B : List (List La)} (ha : Bare n A) (hb : Bare n B) (sa : A.Pairwise fun a b => rowLt a b = true) (sb : B.Pairwise fun a b => rowLt a b = true) (h : ∀ x : List La, x.length = n → (Span A x ↔ Span B x)) : A = B :=
  have hab : ∀ a ∈ A, Span B a := fun a m => (h a (ha.rows a m)).mp (Span.self m)
  have hba : ∀ b ∈ B, Span A b := fun b m => (h b (hb.rows b m)).mpr (Span.self m)
  sorted_ext sa sb fun x => ⟨lone_mem ha hb hab hba, lone_mem hb ha hba hab⟩
/-! ### the members of a task -/
def unitRow (n k : Nat) : List La := (List.range n).map fun i => if i = k then some 0 else none
def unitRows (n : Nat) : List (List La) := sortRows ((List.range n).map (unitRow n))
def withPair (G : List (List La)) (p : List La × List La) : List (List La) := outmostOf (mixes p G)
def membersOf (n : Nat) (pairs : List (List La × List La)) : List (List La) := pairs.foldl withPair (unitRows n)
theorem unit_len (n k : Nat) : (unitRow n k).length = n := by unfold unitRow; rw [List.length_map, List.length_range]
theorem unit_get {n k i : Nat} (h : i < n) : getL (unitRow n k) i = if i = k then some 0 else none := by
  unfold getL unitRow
  rw [List.getElem?_map, List.getElem?_range h]
  rfl
theorem unit_span {n : Nat} {x : List La} (hx : x.length = n) : Span (unitRows n) x := fun k v e => by
  have hk : k < n := by rw [← hx]; exact get_lt_of e
  refine ⟨unitRow n k, (sort_perm _).mem_iff.mpr (List.mem_map.mpr ⟨k, List.mem_range.mpr hk, rfl⟩), v, 0, ?_, by rw [unit_get hk, if_pos rfl], by omega⟩
  rw [und_iff ((unit_len n k).trans hx.symm)]
  intro i u ei
  have hi : i < n := by rw [← unit_len n k]; exact get_lt_of ei
  rw [unit_get hi] at ei
  by_cases h : i = k
  · rw [if_pos h] at ei
    cases ei
    rw [h]
    exact ⟨v, e, by omega⟩
  · rw [if_neg h] at ei
    cases ei
theorem unit_eq {n k i : Nat} (hk : k < n) (h : unitRow n i = unitRow n k) : i = k := by
  have e1 := unit_get (n := n) (k := i) hk
  rw [h, unit_get hk, if_pos rfl] at e1
  by_cases e : k = i
  · exact e.symm
  · rw [if_neg e] at e1; cases e1
theorem unit_bare (n : Nat) : Bare n (unitRows n) ∧ (unitRows n).Pairwise fun a b => rowLt a b = true := by
  have hm : ∀ y, y ∈ unitRows n ↔ ∃ k, k < n ∧ y = unitRow n k := fun y => by
    unfold unitRows
    rw [(sort_perm _).mem_iff, List.mem_map]
    exact ⟨fun ⟨k, h, e⟩ => ⟨k, List.mem_range.mp h, e.symm⟩, fun ⟨k, h, e⟩ => ⟨k, List.mem_range.mpr h, e.symm⟩⟩
  have hn : ((List.range n).map (unitRow n)).Nodup := by
    rw [List.Nodup, List.pairwise_map]
    refine (List.pairwise_lt_range (n := n)).imp_of_mem fun {a b} ha hb hlt e => ?_
    have := unit_eq (List.mem_range.mp hb) e
    omega
  have hs := sort_sorted hn
  refine ⟨⟨fun y hy => ?_, fun y hy => ?_, sorted_nodup hs, fun y hy hsp => ?_⟩, hs⟩
  · obtain ⟨k, _, rfl⟩ := (hm y).mp hy
    exact unit_len n k
  · obtain ⟨k, hk, rfl⟩ := (hm y).mp hy
    have h1 : isBy (latestOf (unitRow n k)) (some 0) = true := (latest_by _ _).mpr fun a ha => by
      obtain ⟨i, _, rfl⟩ := List.mem_map.mp ha
      split
      · exact isBy_refl _
      · rfl
    have h2 : isBy (some 0) (latestOf (unitRow n k)) = true := by
      have := (latest_by (latestOf (unitRow n k)) (unitRow n k)).mp (isBy_refl _) (some 0) (get_mem (by rw [unit_get hk, if_pos rfl]))
      exact this
    have := leL_anti (a := [latestOf (unitRow n k)]) (b := [some 0]) ⟨h1, trivial⟩ ⟨h2, trivial⟩
    exact (List.cons.inj this).1
  · obtain ⟨k, hk, rfl⟩ := (hm y).mp hy
    obtain ⟨g, hg, l, u, g1, g2, g3⟩ := hsp k 0 (by rw [unit_get hk, if_pos rfl])
    obtain ⟨hg1, hg2⟩ := List.mem_filter.mp hg
    obtain ⟨i, hi, rfl⟩ := (hm g).mp hg1
    rw [unit_get hk] at g2
    by_cases e : k = i
    · subst e; simp at hg2
    · rw [if_neg e] at g2; cases g2
/-- rows laid together are made of the old ones -/
theorem span_both {n : Nat} {G : List (List La)} {a b : List La} (ha : a.length = n) (hb : b.length = n) (hG : Rows n G) (h1 : Span G a) (h2 : Span G b) : Span G (bothOf a b) := fun k v e => by
  have hl : a.length = b.length := ha.trans hb.symm
  obtain ⟨g1, g2⟩ := both_geG hl
  have pick : (getL a k = some v) ∨ (getL b k = some v) := by
    rw [getL_both hl] at e
    cases ea : getL a k with
    | none => rw [ea] at e; exact .inr (by cases eb : getL b k <;> rw [eb] at e <;> exact e)
    | some u =>
      cases eb : getL b k with
      | none => rw [ea, eb] at e; exact .inl e
      | some w =>
        rw [ea, eb] at e
        have e : (if w > u then w else u) = v := Option.some.inj e
        split at e
        · exact .inr (by rw [e])
        · exact .inl (by rw [e])
  rcases pick with p | p
  · obtain ⟨g, hg, l, u, q1, q2, q3⟩ := h1 k v p
    exact ⟨g, hg, l, u, leL_trans q1 g1, q2, q3⟩
  · obtain ⟨g, hg, l, u, q1, q2, q3⟩ := h2 k v p
    exact ⟨g, hg, l, u, leL_trans q1 g2, q2, q3⟩
theorem span_of_shift {n : Nat} {G : List (List La)} {g : List La} {t : Int} (hG : Rows n G) (h : g ∈ G) : Span G (shiftOf g t) := fun k v e => by
  rw [getL_shift] at e
  cases eu : getL g k with
  | none => rw [eu] at e; cases e
  | some u =>
    rw [eu] at e
    have e : u + t = v := Option.some.inj e
    exact ⟨g, h, t, u, leL_refl _, eu, e⟩
theorem mixes_from {n : Nat} {p : List La × List La} {G : List (List La)} (hG : Rows n G) : ∀ g ∈ mixes p G, Span G g := fun g hg => by
  rcases List.mem_append.mp hg with hg | hg
  · exact Span.self (List.mem_filter.mp hg).1
  · obtain ⟨r, hr, hg⟩ := List.mem_flatMap.mp hg
    obtain ⟨o, ho, rfl⟩ := List.mem_map.mp hg
    have m1 := (List.mem_filter.mp (List.mem_filter.mp hr).1).1
    have m2 := (List.mem_filter.mp ho).1
    exact span_both (by rw [shift_len, hG r m1]) (by rw [shift_len, hG o m2]) hG (span_of_shift hG m1) (span_of_shift hG m2)
/-- what the rows of a task are: all its members are made of them, they are members, none is made of the others -/
structure Members (n : Nat) (pairs : List (List La × List La)) (A : List (List La)) : Prop where
  bare : Bare n A
  sorted : A.Pairwise fun a b => rowLt a b = true
  all : ∀ x : List La, x.length = n → (Span A x ↔ keepsP pairs x)
theorem members_is {n : Nat} {pairs : List (List La × List La)} (hp : ∀ p ∈ pairs, p.1.length = n ∧ p.2.length = n) : Members n pairs (membersOf n pairs) := by
  have go : ∀ (l done : List (List La × List La)) (A : List (List La)), (∀ p ∈ l, p.1.length = n ∧ p.2.length = n) → Members n done A → Members n (done ++ l) (l.foldl withPair A) := fun l => by
    induction l with
    | nil => intro done A _ h; rw [List.append_nil]; exact h
    | cons p l ih =>
      intro done A hl h
      rw [List.foldl_cons, show done ++ p :: l = (done ++ [p]) ++ l by simp]
      refine ih (done ++ [p]) (withPair A p) (fun q hq => hl q (List.mem_cons_of_mem _ hq)) ?_
      obtain ⟨h1, h2⟩ := hl p (List.mem_cons_self ..)
      have hA := h.bare.rows
      have o := outmost_is (mixes_rows (p := p) hA)
      refine ⟨o.bare, o.sorted, fun x hx => ?_⟩
      show Span (outmostOf (mixes p A)) x ↔ _
      rw [o.all x hx]
      have hk : keepsP (done ++ [p]) x ↔ keepsP done x ∧ keeps1 p x = true := by
        unfold keepsP keeps1
        simp only [List.mem_append, List.mem_singleton]
        exact ⟨fun h => ⟨fun q hq => h q (.inl hq), h p (.inr rfl)⟩, fun ⟨a, b⟩ q hq => hq.elim (a q) fun e => e ▸ b⟩
      rw [hk, ← h.all x hx]
      constructor
      · intro hs
        refine ⟨?_, span_keeps h1 h2 (mixes_rows hA) hx hs (mixes_keep h1 h2 hA)⟩
        refine Span.trans (mixes_rows hA) hA hx hs fun g hg => ?_
        exact mixes_from hA g hg
      · exact fun ⟨a, b⟩ => mixes_span h1 h2 hA hx a b
  have := go pairs [] (unitRows n) hp ⟨(unit_bare n).1, (unit_bare n).2, fun x hx => ⟨(fun _ p hp => by cases hp), fun _ => unit_span hx⟩⟩
  rwa [List.nil_append] at this
end Dn.DL
namespace Dn.DL
open PySem
theorem m_is_int (d : D) : f_is_int [d] = ret (.bool (isIn d .int && !isIn d .bool)) := by
  cases d <;> rfl
theorem m_later (a b : La) : f_later [optD a, optD b] = ret (optD (later a b)) := by
  cases a <;> cases b <;> rfl
theorem m_added (a b : La) : f_added [optD a, optD b] = ret (optD (added a b)) := by
  cases a <;> cases b <;> rfl
theorem m_is_by (a b : La) : f_is_by [optD a, optD b] = ret (.bool (isBy a b)) := by
  cases a <;> cases b <;> rfl
theorem m_latest_of (l : List La) : f_latest_of [.list (l.map optD)] = ret (optD (latestOf l)) := by
  unfold f_latest_of B_latest_of
  simp -implicitDefEqProofs only [wipeE, Tg.slots, k_nx, k_rt, e_nx, e_rt, br_t, br_f, dS_nil, dS_seq, dS_nm, own_list, dS_newL, dS_par, sl_f, sl_t, dS_ite, dS_ret, dS_expr, dS_app, ap_own, dS_aug, au_val, dS_frz, fr_own, asB_bool, asI_int, items_l, items_t, dn_nil, dn_cons, dn_star, lo_l, lo_d, vk, dn_var, ok_, dn_own, dn_lit, dn_glob, dn_bin, dn_neg, dn_not, dn_cmp, dn_chain, ch_t, ch_f, dn_and, dn_or, dn_ite, an_t, an_f, or_t, or_f, it_t, it_f, dn_tup, dn_list, tup0, tup1, tup2, tup3, lst0, lst1, lst2, lst3, dn_ix, dn_slice, dn_call, call1, call2, call3, call4, call5, rk, dn_callR, dn_b1, dn_b2, dn_isI, dn_isTL, dn_range1, dn_range2, dn_zip, b1_len_l, b1_len_t, b1_tup_l, b1_tup_t, b1_list_l, b1_list_t, b1_int, not_b, neg_i, cmp_lt, cmp_le, cmp_gt, cmp_ge, cmp_is, cmp_isnot, cmp_eqi, cmp_nei, bin_add, bin_sub, zip_t, zip_l, dn_comp, dS_for, bnd_ret, bnd_bnd, fn_eq, fnR_eq, List.map_cons, List.map_nil, List.cons_append, List.nil_append, List.append_nil, List.length_cons, List.length_nil, List.replicate_succ, List.replicate_zero, Nat.sub_self, Nat.reduceAdd, Nat.reduceSub, Nat.zero_add, List.set_cons_zero, List.set_cons_succ, List.getElem?_cons_zero, List.getElem?_cons_succ, dS_asgT, dS_kill, be_nm, be_tup, be_nil, be_cons, dn_b2]
  erw [for_fold (enc := optD) (fun s : La => [.val (.list (l.map optD)), .val (optD s), .no]) later (xs := l) (s := none) fun s x _ => by simp -implicitDefEqProofs only [wipeE, Tg.slots, k_nx, k_rt, e_nx, e_rt, br_t, br_f, dS_nil, dS_seq, dS_nm, own_list, dS_newL, dS_par, sl_f, sl_t, dS_ite, dS_ret, dS_expr, dS_app, ap_own, dS_aug, au_val, dS_frz, fr_own, asB_bool, asI_int, items_l, items_t, dn_nil, dn_cons, dn_star, lo_l, lo_d, vk, dn_var, ok_, dn_own, dn_lit, dn_glob, dn_bin, dn_neg, dn_not, dn_cmp, dn_chain, ch_t, ch_f, dn_and, dn_or, dn_ite, an_t, an_f, or_t, or_f, it_t, it_f, dn_tup, dn_list, tup0, tup1, tup2, tup3, lst0, lst1, lst2, lst3, dn_ix, dn_slice, dn_call, call1, call2, call3, call4, call5, rk, dn_callR, dn_b1, dn_b2, dn_isI, dn_isTL, dn_range1, dn_range2, dn_zip, b1_len_l, b1_len_t, b1_tup_l, b1_tup_t, b1_list_l, b1_list_t, b1_int, not_b, neg_i, cmp_lt, cmp_le, cmp_gt, cmp_ge, cmp_is, cmp_isnot, cmp_eqi, cmp_nei, bin_add, bin_sub, zip_t, zip_l, dn_comp, dS_for, bnd_ret, bnd_bnd, fn_eq, fnR_eq, List.map_cons, List.map_nil, List.cons_append, List.nil_append, List.append_nil, List.length_cons, List.length_nil, List.replicate_succ, List.replicate_zero, Nat.sub_self, Nat.reduceAdd, Nat.reduceSub, Nat.zero_add, List.set_cons_zero, List.set_cons_succ, List.getElem?_cons_zero, List.getElem?_cons_succ, dS_asgT, dS_kill, be_nm, be_tup, be_nil, be_cons, dn_b2, fk_eq, cmp_t, cmp_c, cmp_n, cmp_call, cmp_a, cmp_o, mapX_ret, filX_ret, m_later]]
  simp -implicitDefEqProofs only [wipeE, Tg.slots, k_nx, k_rt, e_nx, e_rt, br_t, br_f, dS_nil, dS_seq, dS_nm, own_list, dS_newL, dS_par, sl_f, sl_t, dS_ite, dS_ret, dS_expr, dS_app, ap_own, dS_aug, au_val, dS_frz, fr_own, asB_bool, asI_int, items_l, items_t, dn_nil, dn_cons, dn_star, lo_l, lo_d, vk, dn_var, ok_, dn_own, dn_lit, dn_glob, dn_bin, dn_neg, dn_not, dn_cmp, dn_chain, ch_t, ch_f, dn_and, dn_or, dn_ite, an_t, an_f, or_t, or_f, it_t, it_f, dn_tup, dn_list, tup0, tup1, tup2, tup3, lst0, lst1, lst2, lst3, dn_ix, dn_slice, dn_call, call1, call2, call3, call4, call5, rk, dn_callR, dn_b1, dn_b2, dn_isI, dn_isTL, dn_range1, dn_range2, dn_zip, b1_len_l, b1_len_t, b1_tup_l, b1_tup_t, b1_list_l, b1_list_t, b1_int, not_b, neg_i, cmp_lt, cmp_le, cmp_gt, cmp_ge, cmp_is, cmp_isnot, cmp_eqi, cmp_nei, bin_add, bin_sub, zip_t, zip_l, dn_comp, dS_for, bnd_ret, bnd_bnd, fn_eq, fnR_eq, List.map_cons, List.map_nil, List.cons_append, List.nil_append, List.append_nil, List.length_cons, List.length_nil, List.replicate_succ, List.replicate_zero, Nat.sub_self, Nat.reduceAdd, Nat.reduceSub, Nat.zero_add, List.set_cons_zero, List.set_cons_succ, List.getElem?_cons_zero, List.getElem?_cons_succ, dS_asgT, dS_kill, be_nm, be_tup, be_nil, be_cons, dn_b2]
  rfl
theorem m_latest_ofT (l : List La) : f_latest_of [rowD l] = ret (optD (latestOf l)) := by
  unfold f_latest_of B_latest_of rowD
  simp -implicitDefEqProofs only [wipeE, Tg.slots, k_nx, k_rt, e_nx, e_rt, br_t, br_f, dS_nil, dS_seq, dS_nm, own_list, dS_newL, dS_par, sl_f, sl_t, dS_ite, dS_ret, dS_expr, dS_app, ap_own, dS_aug, au_val, dS_frz, fr_own, asB_bool, asI_int, items_l, items_t, dn_nil, dn_cons, dn_star, lo_l, lo_d, vk, dn_var, ok_, dn_own, dn_lit, dn_glob, dn_bin, dn_neg, dn_not, dn_cmp, dn_chain, ch_t, ch_f, dn_and, dn_or, dn_ite, an_t, an_f, or_t, or_f, it_t, it_f, dn_tup, dn_list, tup0, tup1, tup2, tup3, lst0, lst1, lst2, lst3, dn_ix, dn_slice, dn_call, call1, call2, call3, call4, call5, rk, dn_callR, dn_b1, dn_b2, dn_isI, dn_isTL, dn_range1, dn_range2, dn_zip, b1_len_l, b1_len_t, b1_tup_l, b1_tup_t, b1_list_l, b1_list_t, b1_int, not_b, neg_i, cmp_lt, cmp_le, cmp_gt, cmp_ge, cmp_is, cmp_isnot, cmp_eqi, cmp_nei, bin_add, bin_sub, zip_t, zip_l, dn_comp, dS_for, bnd_ret, bnd_bnd, fn_eq, fnR_eq, List.map_cons, List.map_nil, List.cons_append, List.nil_append, List.append_nil, List.length_cons, List.length_nil, List.replicate_succ, List.replicate_zero, Nat.sub_self, Nat.reduceAdd, Nat.reduceSub, Nat.zero_add, List.set_cons_zero, List.set_cons_succ, List.getElem?_cons_zero, List.getElem?_cons_succ, dS_asgT, dS_kill, be_nm, be_tup, be_nil, be_cons, dn_b2]
  erw [for_fold (enc := optD) (fun s : La => [.val (.tuple (l.map optD)), .val (optD s), .no]) later (xs := l) (s := none) fun s x _ => by simp -implicitDefEqProofs only [wipeE, Tg.slots, k_nx, k_rt, e_nx, e_rt, br_t, br_f, dS_nil, dS_seq, dS_nm, own_list, dS_newL, dS_par, sl_f, sl_t, dS_ite, dS_ret, dS_expr, dS_app, ap_own, dS_aug, au_val, dS_frz, fr_own, asB_bool, asI_int, items_l, items_t, dn_nil, dn_cons, dn_star, lo_l, lo_d, vk, dn_var, ok_, dn_own, dn_lit, dn_glob, dn_bin, dn_neg, dn_not, dn_cmp, dn_chain, ch_t, ch_f, dn_and, dn_or, dn_ite, an_t, an_f, or_t, or_f, it_t, it_f, dn_tup, dn_list, tup0, tup1, tup2, tup3, lst0, lst1, lst2, lst3, dn_ix, dn_slice, dn_call, call1, call2, call3, call4, call5, rk, dn_callR, dn_b1, dn_b2, dn_isI, dn_isTL, dn_range1, dn_range2, dn_zip, b1_len_l, b1_len_t, b1_tup_l, b1_tup_t, b1_list_l, b1_list_t, b1_int, not_b, neg_i, cmp_lt, cmp_le, cmp_gt, cmp_ge, cmp_is, cmp_isnot, cmp_eqi, cmp_nei, bin_add, bin_sub, zip_t, zip_l, dn_comp, dS_for, bnd_ret, bnd_bnd, fn_eq, fnR_eq, List.map_cons, List.map_nil, List.cons_append, List.nil_append, List.append_nil, List.length_cons, List.length_nil, List.replicate_succ, List.replicate_zero, Nat.sub_self, Nat.reduceAdd, Nat.reduceSub, Nat.zero_add, List.set_cons_zero, List.set_cons_succ, List.getElem?_cons_zero, List.getElem?_cons_succ, dS_asgT, dS_kill, be_nm, be_tup, be_nil, be_cons, dn_b2, fk_eq, cmp_t, cmp_c, cmp_n, cmp_call, cmp_a, cmp_o, mapX_ret, filX_ret, m_later]]
  simp -implicitDefEqProofs only [wipeE, Tg.slots, k_nx, k_rt, e_nx, e_rt, br_t, br_f, dS_nil, dS_seq, dS_nm, own_list, dS_newL, dS_par, sl_f, sl_t, dS_ite, dS_ret, dS_expr, dS_app, ap_own, dS_aug, au_val, dS_frz, fr_own, asB_bool, asI_int, items_l, items_t, dn_nil, dn_cons, dn_star, lo_l, lo_d, vk, dn_var, ok_, dn_own, dn_lit, dn_glob, dn_bin, dn_neg, dn_not, dn_cmp, dn_chain, ch_t, ch_f, dn_and, dn_or, dn_ite, an_t, an_f, or_t, or_f, it_t, it_f, dn_tup, dn_list, tup0, tup1, tup2, tup3, lst0, lst1, lst2, lst3, dn_ix, dn_slice, dn_call, call1, call2, call3, call4, call5, rk, dn_callR, dn_b1, dn_b2, dn_isI, dn_isTL, dn_range1, dn_range2, dn_zip, b1_len_l, b1_len_t, b1_tup_l, b1_tup_t, b1_list_l, b1_list_t, b1_int, not_b, neg_i, cmp_lt, cmp_le, cmp_gt, cmp_ge, cmp_is, cmp_isnot, cmp_eqi, cmp_nei, bin_add, bin_sub, zip_t, zip_l, dn_comp, dS_for, bnd_ret, bnd_bnd, fn_eq, fnR_eq, List.map_cons, List.map_nil, List.cons_append, List.nil_append, List.append_nil, List.length_cons, List.length_nil, List.replicate_succ, List.replicate_zero, Nat.sub_self, Nat.reduceAdd, Nat.reduceSub, Nat.zero_add, List.set_cons_zero, List.set_cons_succ, List.getElem?_cons_zero, List.getElem?_cons_succ, dS_asgT, dS_kill, be_nm, be_tup, be_nil, be_cons, dn_b2]
  rfl
theorem m_sum_of (r t : List La) : f_sum_of [rowD r, rowD t] = ret (optD (sumOf r t)) := by
  unfold f_sum_of B_sum_of rowD
  simp -implicitDefEqProofs only [wipeE, Tg.slots, k_nx, k_rt, e_nx, e_rt, br_t, br_f, dS_nil, dS_seq, dS_nm, own_list, dS_newL, dS_par, sl_f, sl_t, dS_ite, dS_ret, dS_expr, dS_app, ap_own, dS_aug, au_val, dS_frz, fr_own, asB_bool, asI_int, items_l, items_t, dn_nil, dn_cons, dn_star, lo_l, lo_d, vk, dn_var, ok_, dn_own, dn_lit, dn_glob, dn_bin, dn_neg, dn_not, dn_cmp, dn_chain, ch_t, ch_f, dn_and, dn_or, dn_ite, an_t, an_f, or_t, or_f, it_t, it_f, dn_tup, dn_list, tup0, tup1, tup2, tup3, lst0, lst1, lst2, lst3, dn_ix, dn_slice, dn_call, call1, call2, call3, call4, call5, rk, dn_callR, dn_b1, dn_b2, dn_isI, dn_isTL, dn_range1, dn_range2, dn_zip, b1_len_l, b1_len_t, b1_tup_l, b1_tup_t, b1_list_l, b1_list_t, b1_int, not_b, neg_i, cmp_lt, cmp_le, cmp_gt, cmp_ge, cmp_is, cmp_isnot, cmp_eqi, cmp_nei, bin_add, bin_sub, zip_t, zip_l, dn_comp, dS_for, bnd_ret, bnd_bnd, fn_eq, fnR_eq, List.map_cons, List.map_nil, List.cons_append, List.nil_append, List.append_nil, List.length_cons, List.length_nil, List.replicate_succ, List.replicate_zero, Nat.sub_self, Nat.reduceAdd, Nat.reduceSub, Nat.zero_add, List.set_cons_zero, List.set_cons_succ, List.getElem?_cons_zero, List.getElem?_cons_succ, dS_asgT, dS_kill, be_nm, be_tup, be_nil, be_cons, dn_b2, zip_enc]
  rw [cmpMap (g := fun p : La × La => optD (added p.1 p.2)) fun p _ => ⟨_, rfl, rfl, by simp -implicitDefEqProofs only [wipeE, Tg.slots, k_nx, k_rt, e_nx, e_rt, br_t, br_f, dS_nil, dS_seq, dS_nm, own_list, dS_newL, dS_par, sl_f, sl_t, dS_ite, dS_ret, dS_expr, dS_app, ap_own, dS_aug, au_val, dS_frz, fr_own, asB_bool, asI_int, items_l, items_t, dn_nil, dn_cons, dn_star, lo_l, lo_d, vk, dn_var, ok_, dn_own, dn_lit, dn_glob, dn_bin, dn_neg, dn_not, dn_cmp, dn_chain, ch_t, ch_f, dn_and, dn_or, dn_ite, an_t, an_f, or_t, or_f, it_t, it_f, dn_tup, dn_list, tup0, tup1, tup2, tup3, lst0, lst1, lst2, lst3, dn_ix, dn_slice, dn_call, call1, call2, call3, call4, call5, rk, dn_callR, dn_b1, dn_b2, dn_isI, dn_isTL, dn_range1, dn_range2, dn_zip, b1_len_l, b1_len_t, b1_tup_l, b1_tup_t, b1_list_l, b1_list_t, b1_int, not_b, neg_i, cmp_lt, cmp_le, cmp_gt, cmp_ge, cmp_is, cmp_isnot, cmp_eqi, cmp_nei, bin_add, bin_sub, zip_t, zip_l, dn_comp, dS_for, bnd_ret, bnd_bnd, fn_eq, fnR_eq, List.map_cons, List.map_nil, List.cons_append, List.nil_append, List.append_nil, List.length_cons, List.length_nil, List.replicate_succ, List.replicate_zero, Nat.sub_self, Nat.reduceAdd, Nat.reduceSub, Nat.zero_add, List.set_cons_zero, List.set_cons_succ, List.getElem?_cons_zero, List.getElem?_cons_succ, dS_asgT, dS_kill, be_nm, be_tup, be_nil, be_cons, dn_b2, m_added]⟩]
  simp -implicitDefEqProofs only [wipeE, Tg.slots, k_nx, k_rt, e_nx, e_rt, br_t, br_f, dS_nil, dS_seq, dS_nm, own_list, dS_newL, dS_par, sl_f, sl_t, dS_ite, dS_ret, dS_expr, dS_app, ap_own, dS_aug, au_val, dS_frz, fr_own, asB_bool, asI_int, items_l, items_t, dn_nil, dn_cons, dn_star, lo_l, lo_d, vk, dn_var, ok_, dn_own, dn_lit, dn_glob, dn_bin, dn_neg, dn_not, dn_cmp, dn_chain, ch_t, ch_f, dn_and, dn_or, dn_ite, an_t, an_f, or_t, or_f, it_t, it_f, dn_tup, dn_list, tup0, tup1, tup2, tup3, lst0, lst1, lst2, lst3, dn_ix, dn_slice, dn_call, call1, call2, call3, call4, call5, rk, dn_callR, dn_b1, dn_b2, dn_isI, dn_isTL, dn_range1, dn_range2, dn_zip, b1_len_l, b1_len_t, b1_tup_l, b1_tup_t, b1_list_l, b1_list_t, b1_int, not_b, neg_i, cmp_lt, cmp_le, cmp_gt, cmp_ge, cmp_is, cmp_isnot, cmp_eqi, cmp_nei, bin_add, bin_sub, zip_t, zip_l, dn_comp, dS_for, bnd_ret, bnd_bnd, fn_eq, fnR_eq, List.map_cons, List.map_nil, List.cons_append, List.nil_append, List.append_nil, List.length_cons, List.length_nil, List.replicate_succ, List.replicate_zero, Nat.sub_self, Nat.reduceAdd, Nat.reduceSub, Nat.zero_add, List.set_cons_zero, List.set_cons_succ, List.getElem?_cons_zero, List.getElem?_cons_succ, dS_asgT, dS_kill, be_nm, be_tup, be_nil, be_cons, dn_b2, zip_back, m_latest_of]
  rfl
theorem m_both_of (a b : List La) : f_both_of [rowD a, rowD b] = ret (rowD (bothOf a b)) := by
  unfold f_both_of B_both_of rowD
  simp -implicitDefEqProofs only [wipeE, Tg.slots, k_nx, k_rt, e_nx, e_rt, br_t, br_f, dS_nil, dS_seq, dS_nm, own_list, dS_newL, dS_par, sl_f, sl_t, dS_ite, dS_ret, dS_expr, dS_app, ap_own, dS_aug, au_val, dS_frz, fr_own, asB_bool, asI_int, items_l, items_t, dn_nil, dn_cons, dn_star, lo_l, lo_d, vk, dn_var, ok_, dn_own, dn_lit, dn_glob, dn_bin, dn_neg, dn_not, dn_cmp, dn_chain, ch_t, ch_f, dn_and, dn_or, dn_ite, an_t, an_f, or_t, or_f, it_t, it_f, dn_tup, dn_list, tup0, tup1, tup2, tup3, lst0, lst1, lst2, lst3, dn_ix, dn_slice, dn_call, call1, call2, call3, call4, call5, rk, dn_callR, dn_b1, dn_b2, dn_isI, dn_isTL, dn_range1, dn_range2, dn_zip, b1_len_l, b1_len_t, b1_tup_l, b1_tup_t, b1_list_l, b1_list_t, b1_int, not_b, neg_i, cmp_lt, cmp_le, cmp_gt, cmp_ge, cmp_is, cmp_isnot, cmp_eqi, cmp_nei, bin_add, bin_sub, zip_t, zip_l, dn_comp, dS_for, bnd_ret, bnd_bnd, fn_eq, fnR_eq, List.map_cons, List.map_nil, List.cons_append, List.nil_append, List.append_nil, List.length_cons, List.length_nil, List.replicate_succ, List.replicate_zero, Nat.sub_self, Nat.reduceAdd, Nat.reduceSub, Nat.zero_add, List.set_cons_zero, List.set_cons_succ, List.getElem?_cons_zero, List.getElem?_cons_succ, dS_asgT, dS_kill, be_nm, be_tup, be_nil, be_cons, dn_b2, zip_enc]
  rw [cmpMap (g := fun p : La × La => optD (later p.1 p.2)) fun p _ => ⟨_, rfl, rfl, by simp -implicitDefEqProofs only [wipeE, Tg.slots, k_nx, k_rt, e_nx, e_rt, br_t, br_f, dS_nil, dS_seq, dS_nm, own_list, dS_newL, dS_par, sl_f, sl_t, dS_ite, dS_ret, dS_expr, dS_app, ap_own, dS_aug, au_val, dS_frz, fr_own, asB_bool, asI_int, items_l, items_t, dn_nil, dn_cons, dn_star, lo_l, lo_d, vk, dn_var, ok_, dn_own, dn_lit, dn_glob, dn_bin, dn_neg, dn_not, dn_cmp, dn_chain, ch_t, ch_f, dn_and, dn_or, dn_ite, an_t, an_f, or_t, or_f, it_t, it_f, dn_tup, dn_list, tup0, tup1, tup2, tup3, lst0, lst1, lst2, lst3, dn_ix, dn_slice, dn_call, call1, call2, call3, call4, call5, rk, dn_callR, dn_b1, dn_b2, dn_isI, dn_isTL, dn_range1, dn_range2, dn_zip, b1_len_l, b1_len_t, b1_tup_l, b1_tup_t, b1_list_l, b1_list_t, b1_int, not_b, neg_i, cmp_lt, cmp_le, cmp_gt, cmp_ge, cmp_is, cmp_isnot, cmp_eqi, cmp_nei, bin_add, bin_sub, zip_t, zip_l, dn_comp, dS_for, bnd_ret, bnd_bnd, fn_eq, fnR_eq, List.map_cons, List.map_nil, List.cons_append, List.nil_append, List.append_nil, List.length_cons, List.length_nil, List.replicate_succ, List.replicate_zero, Nat.sub_self, Nat.reduceAdd, Nat.reduceSub, Nat.zero_add, List.set_cons_zero, List.set_cons_succ, List.getElem?_cons_zero, List.getElem?_cons_succ, dS_asgT, dS_kill, be_nm, be_tup, be_nil, be_cons, dn_b2, m_later]⟩]
  simp -implicitDefEqProofs only [wipeE, Tg.slots, k_nx, k_rt, e_nx, e_rt, br_t, br_f, dS_nil, dS_seq, dS_nm, own_list, dS_newL, dS_par, sl_f, sl_t, dS_ite, dS_ret, dS_expr, dS_app, ap_own, dS_aug, au_val, dS_frz, fr_own, asB_bool, asI_int, items_l, items_t, dn_nil, dn_cons, dn_star, lo_l, lo_d, vk, dn_var, ok_, dn_own, dn_lit, dn_glob, dn_bin, dn_neg, dn_not, dn_cmp, dn_chain, ch_t, ch_f, dn_and, dn_or, dn_ite, an_t, an_f, or_t, or_f, it_t, it_f, dn_tup, dn_list, tup0, tup1, tup2, tup3, lst0, lst1, lst2, lst3, dn_ix, dn_slice, dn_call, call1, call2, call3, call4, call5, rk, dn_callR, dn_b1, dn_b2, dn_isI, dn_isTL, dn_range1, dn_range2, dn_zip, b1_len_l, b1_len_t, b1_tup_l, b1_tup_t, b1_list_l, b1_list_t, b1_int, not_b, neg_i, cmp_lt, cmp_le, cmp_gt, cmp_ge, cmp_is, cmp_isnot, cmp_eqi, cmp_nei, bin_add, bin_sub, zip_t, zip_l, dn_comp, dS_for, bnd_ret, bnd_bnd, fn_eq, fnR_eq, List.map_cons, List.map_nil, List.cons_append, List.nil_append, List.append_nil, List.length_cons, List.length_nil, List.replicate_succ, List.replicate_zero, Nat.sub_self, Nat.reduceAdd, Nat.reduceSub, Nat.zero_add, List.set_cons_zero, List.set_cons_succ, List.getElem?_cons_zero, List.getElem?_cons_succ, dS_asgT, dS_kill, be_nm, be_tup, be_nil, be_cons, dn_b2, zip_back]
  rfl
theorem m_shift_of (a : List La) (k : Int) : f_shift_of [rowD a, .int k] = ret (rowD (shiftOf a k)) := by
  unfold f_shift_of B_shift_of rowD
  simp -implicitDefEqProofs only [wipeE, Tg.slots, k_nx, k_rt, e_nx, e_rt, br_t, br_f, dS_nil, dS_seq, dS_nm, own_list, dS_newL, dS_par, sl_f, sl_t, dS_ite, dS_ret, dS_expr, dS_app, ap_own, dS_aug, au_val, dS_frz, fr_own, asB_bool, asI_int, items_l, items_t, dn_nil, dn_cons, dn_star, lo_l, lo_d, vk, dn_var, ok_, dn_own, dn_lit, dn_glob, dn_bin, dn_neg, dn_not, dn_cmp, dn_chain, ch_t, ch_f, dn_and, dn_or, dn_ite, an_t, an_f, or_t, or_f, it_t, it_f, dn_tup, dn_list, tup0, tup1, tup2, tup3, lst0, lst1, lst2, lst3, dn_ix, dn_slice, dn_call, call1, call2, call3, call4, call5, rk, dn_callR, dn_b1, dn_b2, dn_isI, dn_isTL, dn_range1, dn_range2, dn_zip, b1_len_l, b1_len_t, b1_tup_l, b1_tup_t, b1_list_l, b1_list_t, b1_int, not_b, neg_i, cmp_lt, cmp_le, cmp_gt, cmp_ge, cmp_is, cmp_isnot, cmp_eqi, cmp_nei, bin_add, bin_sub, zip_t, zip_l, dn_comp, dS_for, bnd_ret, bnd_bnd, fn_eq, fnR_eq, List.map_cons, List.map_nil, List.cons_append, List.nil_append, List.append_nil, List.length_cons, List.length_nil, List.replicate_succ, List.replicate_zero, Nat.sub_self, Nat.reduceAdd, Nat.reduceSub, Nat.zero_add, List.set_cons_zero, List.set_cons_succ, List.getElem?_cons_zero, List.getElem?_cons_succ, dS_asgT, dS_kill, be_nm, be_tup, be_nil, be_cons, dn_b2]
  rw [cmpMap (g := fun x => optD (added x (some k))) fun p _ => ⟨_, rfl, rfl, by simp -implicitDefEqProofs only [wipeE, Tg.slots, k_nx, k_rt, e_nx, e_rt, br_t, br_f, dS_nil, dS_seq, dS_nm, own_list, dS_newL, dS_par, sl_f, sl_t, dS_ite, dS_ret, dS_expr, dS_app, ap_own, dS_aug, au_val, dS_frz, fr_own, asB_bool, asI_int, items_l, items_t, dn_nil, dn_cons, dn_star, lo_l, lo_d, vk, dn_var, ok_, dn_own, dn_lit, dn_glob, dn_bin, dn_neg, dn_not, dn_cmp, dn_chain, ch_t, ch_f, dn_and, dn_or, dn_ite, an_t, an_f, or_t, or_f, it_t, it_f, dn_tup, dn_list, tup0, tup1, tup2, tup3, lst0, lst1, lst2, lst3, dn_ix, dn_slice, dn_call, call1, call2, call3, call4, call5, rk, dn_callR, dn_b1, dn_b2, dn_isI, dn_isTL, dn_range1, dn_range2, dn_zip, b1_len_l, b1_len_t, b1_tup_l, b1_tup_t, b1_list_l, b1_list_t, b1_int, not_b, neg_i, cmp_lt, cmp_le, cmp_gt, cmp_ge, cmp_is, cmp_isnot, cmp_eqi, cmp_nei, bin_add, bin_sub, zip_t, zip_l, dn_comp, dS_for, bnd_ret, bnd_bnd, fn_eq, fnR_eq, List.map_cons, List.map_nil, List.cons_append, List.nil_append, List.append_nil, List.length_cons, List.length_nil, List.replicate_succ, List.replicate_zero, Nat.sub_self, Nat.reduceAdd, Nat.reduceSub, Nat.zero_add, List.set_cons_zero, List.set_cons_succ, List.getElem?_cons_zero, List.getElem?_cons_succ, dS_asgT, dS_kill, be_nm, be_tup, be_nil, be_cons, dn_b2, show f_added [optD p, .int k] = ret (optD (added p (some k))) from m_added p (some k)]⟩]
  simp -implicitDefEqProofs only [wipeE, Tg.slots, k_nx, k_rt, e_nx, e_rt, br_t, br_f, dS_nil, dS_seq, dS_nm, own_list, dS_newL, dS_par, sl_f, sl_t, dS_ite, dS_ret, dS_expr, dS_app, ap_own, dS_aug, au_val, dS_frz, fr_own, asB_bool, asI_int, items_l, items_t, dn_nil, dn_cons, dn_star, lo_l, lo_d, vk, dn_var, ok_, dn_own, dn_lit, dn_glob, dn_bin, dn_neg, dn_not, dn_cmp, dn_chain, ch_t, ch_f, dn_and, dn_or, dn_ite, an_t, an_f, or_t, or_f, it_t, it_f, dn_tup, dn_list, tup0, tup1, tup2, tup3, lst0, lst1, lst2, lst3, dn_ix, dn_slice, dn_call, call1, call2, call3, call4, call5, rk, dn_callR, dn_b1, dn_b2, dn_isI, dn_isTL, dn_range1, dn_range2, dn_zip, b1_len_l, b1_len_t, b1_tup_l, b1_tup_t, b1_list_l, b1_list_t, b1_int, not_b, neg_i, cmp_lt, cmp_le, cmp_gt, cmp_ge, cmp_is, cmp_isnot, cmp_eqi, cmp_nei, bin_add, bin_sub, zip_t, zip_l, dn_comp, dS_for, bnd_ret, bnd_bnd, fn_eq, fnR_eq, List.map_cons, List.map_nil, List.cons_append, List.nil_append, List.append_nil, List.length_cons, List.length_nil, List.replicate_succ, List.replicate_zero, Nat.sub_self, Nat.reduceAdd, Nat.reduceSub, Nat.zero_add, List.set_cons_zero, List.set_cons_succ, List.getElem?_cons_zero, List.getElem?_cons_succ, dS_asgT, dS_kill, be_nm, be_tup, be_nil, be_cons, dn_b2]
  unfold shiftOf
  rw [List.map_map]
  rfl
theorem b1_all {α : Type} (p : α → Bool) (xs : List α) : b1D .all (.list (xs.map fun x => PyData.bool (p x))) = ret (.bool (xs.all p)) := by
  show (match boolsOf (xs.map fun x => PyData.bool (p x)) with | some bs => (ret (.bool (bs.all id)) : M D) | none => bad) = _
  rw [bools_map]
  dsimp only
  rw [List.all_map]
  rfl
theorem b1_any {α : Type} (p : α → Bool) (xs : List α) : b1D .any (.list (xs.map fun x => PyData.bool (p x))) = ret (.bool (xs.any p)) := by
  show (match boolsOf (xs.map fun x => PyData.bool (p x)) with | some bs => (ret (.bool (bs.any id)) : M D) | none => bad) = _
  rw [bools_map]
  dsimp only
  rw [List.any_map]
  rfl
theorem len_row {r : List La} : b1D .len (rowD r) = ret (.int r.length) := by
  show (ret (.int ((r.map optD).length : Int)) : M D) = _
  rw [List.length_map]
theorem items_row {r : List La} : itemsOf (rowD r) = ret (r.map optD) := rfl
theorem ix_row {r : List La} {k : Nat} {a : La} (h : r[k]? = some a) : ixD (rowD r) (.int k) = ret (optD a) := ix_t (by rw [List.getElem?_map, h]; rfl)
theorem m_is_lag (a : La) : f_is_lag [optD a] = ret (.bool (lagOk a)) := by
  cases a with
  | none => rfl
  | some i =>
    unfold f_is_lag B_is_lag optD
    simp -implicitDefEqProofs only [wipeE, Tg.slots, k_nx, k_rt, e_nx, e_rt, br_t, br_f, dS_nil, dS_seq, dS_nm, own_list, dS_newL, dS_par, sl_f, sl_t, dS_ite, dS_ret, dS_expr, dS_app, ap_own, dS_aug, au_val, dS_frz, fr_own, asB_bool, asI_int, items_l, items_t, dn_nil, dn_cons, dn_star, lo_l, lo_d, vk, dn_var, ok_, dn_own, dn_lit, dn_glob, dn_bin, dn_neg, dn_not, dn_cmp, dn_chain, ch_t, ch_f, dn_and, dn_or, dn_ite, an_t, an_f, or_t, or_f, it_t, it_f, dn_tup, dn_list, tup0, tup1, tup2, tup3, lst0, lst1, lst2, lst3, dn_ix, dn_slice, dn_call, call1, call2, call3, call4, call5, rk, dn_callR, dn_b1, dn_b2, dn_isI, dn_isTL, dn_range1, dn_range2, dn_zip, b1_len_l, b1_len_t, b1_tup_l, b1_tup_t, b1_list_l, b1_list_t, b1_int, not_b, neg_i, cmp_lt, cmp_le, cmp_gt, cmp_ge, cmp_is, cmp_isnot, cmp_eqi, cmp_nei, bin_add, bin_sub, zip_t, zip_l, dn_comp, dS_for, bnd_ret, bnd_bnd, fn_eq, fnR_eq, List.map_cons, List.map_nil, List.cons_append, List.nil_append, List.append_nil, List.length_cons, List.length_nil, List.replicate_succ, List.replicate_zero, Nat.sub_self, Nat.reduceAdd, Nat.reduceSub, Nat.zero_add, List.set_cons_zero, List.set_cons_succ, List.getElem?_cons_zero, List.getElem?_cons_succ, dS_asgT, dS_kill, be_nm, be_tup, be_nil, be_cons, dn_b2, m_is_int, isNone, isIn]
    simp only [Bool.not_false, Bool.and_self, an_t, Bool.true_and]
    simp -implicitDefEqProofs only [wipeE, Tg.slots, k_nx, k_rt, e_nx, e_rt, br_t, br_f, dS_nil, dS_seq, dS_nm, own_list, dS_newL, dS_par, sl_f, sl_t, dS_ite, dS_ret, dS_expr, dS_app, ap_own, dS_aug, au_val, dS_frz, fr_own, asB_bool, asI_int, items_l, items_t, dn_nil, dn_cons, dn_star, lo_l, lo_d, vk, dn_var, ok_, dn_own, dn_lit, dn_glob, dn_bin, dn_neg, dn_not, dn_cmp, dn_chain, ch_t, ch_f, dn_and, dn_or, dn_ite, an_t, an_f, or_t, or_f, it_t, it_f, dn_tup, dn_list, tup0, tup1, tup2, tup3, lst0, lst1, lst2, lst3, dn_ix, dn_slice, dn_call, call1, call2, call3, call4, call5, rk, dn_callR, dn_b1, dn_b2, dn_isI, dn_isTL, dn_range1, dn_range2, dn_zip, b1_len_l, b1_len_t, b1_tup_l, b1_tup_t, b1_list_l, b1_list_t, b1_int, not_b, neg_i, cmp_lt, cmp_le, cmp_gt, cmp_ge, cmp_is, cmp_isnot, cmp_eqi, cmp_nei, bin_add, bin_sub, zip_t, zip_l, dn_comp, dS_for, bnd_ret, bnd_bnd, fn_eq, fnR_eq, List.map_cons, List.map_nil, List.cons_append, List.nil_append, List.append_nil, List.length_cons, List.length_nil, List.replicate_succ, List.replicate_zero, Nat.sub_self, Nat.reduceAdd, Nat.reduceSub, Nat.zero_add, List.set_cons_zero, List.set_cons_succ, List.getElem?_cons_zero, List.getElem?_cons_succ, dS_asgT, dS_kill, be_nm, be_tup, be_nil, be_cons, dn_b2]
    unfold lagOk
    by_cases h1 : (-1000 : Int) ≤ i
    · simp only [h1, decide_true, ch_t]
      simp -implicitDefEqProofs only [wipeE, Tg.slots, k_nx, k_rt, e_nx, e_rt, br_t, br_f, dS_nil, dS_seq, dS_nm, own_list, dS_newL, dS_par, sl_f, sl_t, dS_ite, dS_ret, dS_expr, dS_app, ap_own, dS_aug, au_val, dS_frz, fr_own, asB_bool, asI_int, items_l, items_t, dn_nil, dn_cons, dn_star, lo_l, lo_d, vk, dn_var, ok_, dn_own, dn_lit, dn_glob, dn_bin, dn_neg, dn_not, dn_cmp, dn_chain, ch_t, ch_f, dn_and, dn_or, dn_ite, an_t, an_f, or_t, or_f, it_t, it_f, dn_tup, dn_list, tup0, tup1, tup2, tup3, lst0, lst1, lst2, lst3, dn_ix, dn_slice, dn_call, call1, call2, call3, call4, call5, rk, dn_callR, dn_b1, dn_b2, dn_isI, dn_isTL, dn_range1, dn_range2, dn_zip, b1_len_l, b1_len_t, b1_tup_l, b1_tup_t, b1_list_l, b1_list_t, b1_int, not_b, neg_i, cmp_lt, cmp_le, cmp_gt, cmp_ge, cmp_is, cmp_isnot, cmp_eqi, cmp_nei, bin_add, bin_sub, zip_t, zip_l, dn_comp, dS_for, bnd_ret, bnd_bnd, fn_eq, fnR_eq, List.map_cons, List.map_nil, List.cons_append, List.nil_append, List.append_nil, List.length_cons, List.length_nil, List.replicate_succ, List.replicate_zero, Nat.sub_self, Nat.reduceAdd, Nat.reduceSub, Nat.zero_add, List.set_cons_zero, List.set_cons_succ, List.getElem?_cons_zero, List.getElem?_cons_succ, dS_asgT, dS_kill, be_nm, be_tup, be_nil, be_cons, dn_b2]
      simp
    · simp only [h1, decide_false, ch_f]
      simp -implicitDefEqProofs only [wipeE, Tg.slots, k_nx, k_rt, e_nx, e_rt, br_t, br_f, dS_nil, dS_seq, dS_nm, own_list, dS_newL, dS_par, sl_f, sl_t, dS_ite, dS_ret, dS_expr, dS_app, ap_own, dS_aug, au_val, dS_frz, fr_own, asB_bool, asI_int, items_l, items_t, dn_nil, dn_cons, dn_star, lo_l, lo_d, vk, dn_var, ok_, dn_own, dn_lit, dn_glob, dn_bin, dn_neg, dn_not, dn_cmp, dn_chain, ch_t, ch_f, dn_and, dn_or, dn_ite, an_t, an_f, or_t, or_f, it_t, it_f, dn_tup, dn_list, tup0, tup1, tup2, tup3, lst0, lst1, lst2, lst3, dn_ix, dn_slice, dn_call, call1, call2, call3, call4, call5, rk, dn_callR, dn_b1, dn_b2, dn_isI, dn_isTL, dn_range1, dn_range2, dn_zip, b1_len_l, b1_len_t, b1_tup_l, b1_tup_t, b1_list_l, b1_list_t, b1_int, not_b, neg_i, cmp_lt, cmp_le, cmp_gt, cmp_ge, cmp_is, cmp_isnot, cmp_eqi, cmp_nei, bin_add, bin_sub, zip_t, zip_l, dn_comp, dS_for, bnd_ret, bnd_bnd, fn_eq, fnR_eq, List.map_cons, List.map_nil, List.cons_append, List.nil_append, List.append_nil, List.length_cons, List.length_nil, List.replicate_succ, List.replicate_zero, Nat.sub_self, Nat.reduceAdd, Nat.reduceSub, Nat.zero_add, List.set_cons_zero, List.set_cons_succ, List.getElem?_cons_zero, List.getElem?_cons_succ, dS_asgT, dS_kill, be_nm, be_tup, be_nil, be_cons, dn_b2]
      simp
theorem m_is_row {r : List La} {wide : Nat} (h : rowOk r wide) : f_is_row [rowD r, .int wide] = ret (.bool true) := by
  unfold f_is_row B_is_row
  simp -implicitDefEqProofs only [wipeE, Tg.slots, k_nx, k_rt, e_nx, e_rt, br_t, br_f, dS_nil, dS_seq, dS_nm, own_list, dS_newL, dS_par, sl_f, sl_t, dS_ite, dS_ret, dS_expr, dS_app, ap_own, dS_aug, au_val, dS_frz, fr_own, asB_bool, asI_int, items_l, items_t, dn_nil, dn_cons, dn_star, lo_l, lo_d, vk, dn_var, ok_, dn_own, dn_lit, dn_glob, dn_bin, dn_neg, dn_not, dn_cmp, dn_chain, ch_t, ch_f, dn_and, dn_or, dn_ite, an_t, an_f, or_t, or_f, it_t, it_f, dn_tup, dn_list, tup0, tup1, tup2, tup3, lst0, lst1, lst2, lst3, dn_ix, dn_slice, dn_call, call1, call2, call3, call4, call5, rk, dn_callR, dn_b1, dn_b2, dn_isI, dn_isTL, dn_range1, dn_range2, dn_zip, b1_len_l, b1_len_t, b1_tup_l, b1_tup_t, b1_list_l, b1_list_t, b1_int, not_b, neg_i, cmp_lt, cmp_le, cmp_gt, cmp_ge, cmp_is, cmp_isnot, cmp_eqi, cmp_nei, bin_add, bin_sub, zip_t, zip_l, dn_comp, dS_for, bnd_ret, bnd_bnd, fn_eq, fnR_eq, List.map_cons, List.map_nil, List.cons_append, List.nil_append, List.append_nil, List.length_cons, List.length_nil, List.replicate_succ, List.replicate_zero, Nat.sub_self, Nat.reduceAdd, Nat.reduceSub, Nat.zero_add, List.set_cons_zero, List.set_cons_succ, List.getElem?_cons_zero, List.getElem?_cons_succ, dS_asgT, dS_kill, be_nm, be_tup, be_nil, be_cons, dn_b2, tup_row, len_row, h.1, decide_true, items_row]
  rw [cmpMap (g := fun x : La => PyData.bool (lagOk x)) fun p _ => ⟨_, rfl, rfl, by simp -implicitDefEqProofs only [wipeE, Tg.slots, k_nx, k_rt, e_nx, e_rt, br_t, br_f, dS_nil, dS_seq, dS_nm, own_list, dS_newL, dS_par, sl_f, sl_t, dS_ite, dS_ret, dS_expr, dS_app, ap_own, dS_aug, au_val, dS_frz, fr_own, asB_bool, asI_int, items_l, items_t, dn_nil, dn_cons, dn_star, lo_l, lo_d, vk, dn_var, ok_, dn_own, dn_lit, dn_glob, dn_bin, dn_neg, dn_not, dn_cmp, dn_chain, ch_t, ch_f, dn_and, dn_or, dn_ite, an_t, an_f, or_t, or_f, it_t, it_f, dn_tup, dn_list, tup0, tup1, tup2, tup3, lst0, lst1, lst2, lst3, dn_ix, dn_slice, dn_call, call1, call2, call3, call4, call5, rk, dn_callR, dn_b1, dn_b2, dn_isI, dn_isTL, dn_range1, dn_range2, dn_zip, b1_len_l, b1_len_t, b1_tup_l, b1_tup_t, b1_list_l, b1_list_t, b1_int, not_b, neg_i, cmp_lt, cmp_le, cmp_gt, cmp_ge, cmp_is, cmp_isnot, cmp_eqi, cmp_nei, bin_add, bin_sub, zip_t, zip_l, dn_comp, dS_for, bnd_ret, bnd_bnd, fn_eq, fnR_eq, List.map_cons, List.map_nil, List.cons_append, List.nil_append, List.append_nil, List.length_cons, List.length_nil, List.replicate_succ, List.replicate_zero, Nat.sub_self, Nat.reduceAdd, Nat.reduceSub, Nat.zero_add, List.set_cons_zero, List.set_cons_succ, List.getElem?_cons_zero, List.getElem?_cons_succ, dS_asgT, dS_kill, be_nm, be_tup, be_nil, be_cons, dn_b2, m_is_lag]⟩]
  simp -implicitDefEqProofs only [wipeE, Tg.slots, k_nx, k_rt, e_nx, e_rt, br_t, br_f, dS_nil, dS_seq, dS_nm, own_list, dS_newL, dS_par, sl_f, sl_t, dS_ite, dS_ret, dS_expr, dS_app, ap_own, dS_aug, au_val, dS_frz, fr_own, asB_bool, asI_int, items_l, items_t, dn_nil, dn_cons, dn_star, lo_l, lo_d, vk, dn_var, ok_, dn_own, dn_lit, dn_glob, dn_bin, dn_neg, dn_not, dn_cmp, dn_chain, ch_t, ch_f, dn_and, dn_or, dn_ite, an_t, an_f, or_t, or_f, it_t, it_f, dn_tup, dn_list, tup0, tup1, tup2, tup3, lst0, lst1, lst2, lst3, dn_ix, dn_slice, dn_call, call1, call2, call3, call4, call5, rk, dn_callR, dn_b1, dn_b2, dn_isI, dn_isTL, dn_range1, dn_range2, dn_zip, b1_len_l, b1_len_t, b1_tup_l, b1_tup_t, b1_list_l, b1_list_t, b1_int, not_b, neg_i, cmp_lt, cmp_le, cmp_gt, cmp_ge, cmp_is, cmp_isnot, cmp_eqi, cmp_nei, bin_add, bin_sub, zip_t, zip_l, dn_comp, dS_for, bnd_ret, bnd_bnd, fn_eq, fnR_eq, List.map_cons, List.map_nil, List.cons_append, List.nil_append, List.append_nil, List.length_cons, List.length_nil, List.replicate_succ, List.replicate_zero, Nat.sub_self, Nat.reduceAdd, Nat.reduceSub, Nat.zero_add, List.set_cons_zero, List.set_cons_succ, List.getElem?_cons_zero, List.getElem?_cons_succ, dS_asgT, dS_kill, be_nm, be_tup, be_nil, be_cons, dn_b2, b1_all]
  rw [List.all_eq_true.mpr h.2]
theorem len_tab {t : List (List La)} : b1D .len (tabD t) = ret (.int t.length) := by
  show (ret (.int ((t.map rowD).length : Int)) : M D) = _
  rw [List.length_map]
theorem items_tab {t : List (List La)} : itemsOf (tabD t) = ret (t.map rowD) := rfl
theorem ix_tab {t : List (List La)} {k : Nat} {a : List La} (h : t[k]? = some a) : ixD (tabD t) (.int k) = ret (rowD a) := ix_t (by rw [List.getElem?_map, h]; rfl)
theorem ix_tab0 {t : List (List La)} {a : List La} (h : t[0]? = some a) : ixD (tabD t) (.int 0) = ret (rowD a) := ix_tab (k := 0) h
theorem col_comp {t : List (List La)} {wide k : Nat} (h : ∀ r ∈ t, rowOk r wide) (hk : k < wide) (x : Sl) : compK (.ix (.var 2) (.var 1)) (.nm 2) (.lit (.bool true)) [.val (tabD t), .val (.int k), x] (t.map rowD) = ret (.list ((colOf t k).map optD)) := by
  rw [cmpMap (g := fun r : List La => optD ((r[k]?).getD none)) fun r hr => ⟨_, rfl, rfl, by
      simp -implicitDefEqProofs only [wipeE, Tg.slots, k_nx, k_rt, e_nx, e_rt, br_t, br_f, dS_nil, dS_seq, dS_nm, own_list, dS_newL, dS_par, sl_f, sl_t, dS_ite, dS_ret, dS_expr, dS_app, ap_own, dS_aug, au_val, dS_frz, fr_own, asB_bool, asI_int, items_l, items_t, dn_nil, dn_cons, dn_star, lo_l, lo_d, vk, dn_var, ok_, dn_own, dn_lit, dn_glob, dn_bin, dn_neg, dn_not, dn_cmp, dn_chain, ch_t, ch_f, dn_and, dn_or, dn_ite, an_t, an_f, or_t, or_f, it_t, it_f, dn_tup, dn_list, tup0, tup1, tup2, tup3, lst0, lst1, lst2, lst3, dn_ix, dn_slice, dn_call, call1, call2, call3, call4, call5, rk, dn_callR, dn_b1, dn_b2, dn_isI, dn_isTL, dn_range1, dn_range2, dn_zip, b1_len_l, b1_len_t, b1_tup_l, b1_tup_t, b1_list_l, b1_list_t, b1_int, not_b, neg_i, cmp_lt, cmp_le, cmp_gt, cmp_ge, cmp_is, cmp_isnot, cmp_eqi, cmp_nei, bin_add, bin_sub, zip_t, zip_l, dn_comp, dS_for, bnd_ret, bnd_bnd, fn_eq, fnR_eq, List.map_cons, List.map_nil, List.cons_append, List.nil_append, List.append_nil, List.length_cons, List.length_nil, List.replicate_succ, List.replicate_zero, Nat.sub_self, Nat.reduceAdd, Nat.reduceSub, Nat.zero_add, List.set_cons_zero, List.set_cons_succ, List.getElem?_cons_zero, List.getElem?_cons_succ, dS_asgT, dS_kill, be_nm, be_tup, be_nil, be_cons, dn_b2, ix_row (getD_ok (show k < r.length by rw [(h r hr).1]; exact hk))]⟩]
  unfold colOf
  rw [List.map_map]
  rfl
theorem eq_self {n : Nat} {d : D} (h : plain n d) (hn : n ≤ 64) : cmpD .eq d d = ret (.bool true) := by
  have hs := plain_shaped h hn
  have e : cmpD .eq d d = (if SeqAt.shaped d && SeqAt.shaped d then ret (.bool (PyData.eqv d d)) else bad) := by cases d <;> rfl
  rw [e, hs, if_pos (by rfl), SeqAt.eqv_refl d (plain_lay n d h).1]
theorem eq_nil : cmpD .eq (.list []) (.list []) = ret (.bool true) := by
  have e : cmpD .eq (.list []) (.list []) = (if SeqAt.shaped (.list []) && SeqAt.shaped (.list []) then ret (.bool (PyData.eqv (.list []) (.list []))) else bad) := rfl
  rw [e, if_pos (by decide)]
  rfl
theorem eq_bb (a b : Bool) : cmpD .eq (.bool a) (.bool b) = ret (.bool (a == b)) := by cases a <;> cases b <;> rfl
theorem ne_bb (a b : Bool) : cmpD .ne (.bool a) (.bool b) = ret (.bool (!(a == b))) := by cases a <;> cases b <;> rfl
theorem seq_comp {self : List D → M D} {xs : List D} {X : D} (hx : ∀ (k : Nat) x, xs[k]? = some x → ixD X (.int (k : Int)) = ret x) (h : ∀ x ∈ xs, self [x, x] = ret (.bool true)) (y : Sl) :
    compK (.var 2) (.nm 2) (.not (.call "_law_alike" 2 self (.cons (.ix (.var 0) (.var 2)) (.cons (.ix (.var 1) (.var 2)) .nil)))) [.val X, .val X, y] ((List.range xs.length).map fun (i : Nat) => PyData.int (i : Int)) = ret (.list []) := by
  rw [cmpFil (xs := List.range xs.length) (enc := fun (i : Nat) => PyData.int (i : Int)) (g := fun i => PyData.int i) (p := fun _ => false) fun k hk => by
    obtain ⟨x, e, hm⟩ := get_lt (List.mem_range.mp hk)
    exact ⟨[.val X, .val X, .val (.int k)], rfl, by simp -implicitDefEqProofs only [wipeE, Tg.slots, k_nx, k_rt, e_nx, e_rt, br_t, br_f, dS_nil, dS_seq, dS_nm, own_list, dS_newL, dS_par, sl_f, sl_t, dS_ite, dS_ret, dS_expr, dS_app, ap_own, dS_aug, au_val, dS_frz, fr_own, asB_bool, asI_int, items_l, items_t, dn_nil, dn_cons, dn_star, lo_l, lo_d, vk, dn_var, ok_, dn_own, dn_lit, dn_glob, dn_bin, dn_neg, dn_not, dn_cmp, dn_chain, ch_t, ch_f, dn_and, dn_or, dn_ite, an_t, an_f, or_t, or_f, it_t, it_f, dn_tup, dn_list, tup0, tup1, tup2, tup3, lst0, lst1, lst2, lst3, dn_ix, dn_slice, dn_call, call1, call2, call3, call4, call5, rk, dn_callR, dn_b1, dn_b2, dn_isI, dn_isTL, dn_range1, dn_range2, dn_zip, b1_len_l, b1_len_t, b1_tup_l, b1_tup_t, b1_list_l, b1_list_t, b1_int, not_b, neg_i, cmp_lt, cmp_le, cmp_gt, cmp_ge, cmp_is, cmp_isnot, cmp_eqi, cmp_nei, bin_add, bin_sub, zip_t, zip_l, dn_comp, dS_for, bnd_ret, bnd_bnd, fn_eq, fnR_eq, List.map_cons, List.map_nil, List.cons_append, List.nil_append, List.append_nil, List.length_cons, List.length_nil, List.replicate_succ, List.replicate_zero, Nat.sub_self, Nat.reduceAdd, Nat.reduceSub, Nat.zero_add, List.set_cons_zero, List.set_cons_succ, List.getElem?_cons_zero, List.getElem?_cons_succ, dS_asgT, dS_kill, be_nm, be_tup, be_nil, be_cons, dn_b2, hx k x e, h x hm, Bool.not_true], fun h => by cases h⟩]
  rw [List.filter_eq_nil_iff.mpr fun _ _ => Bool.false_ne_true]
  rfl
theorem taken_does {many : Int} (h : 0 < many ∧ many < 1073741824) : Does (f__law_taken [.int many]) fun d => ∃ k : Int, d = .int k ∧ 0 ≤ k ∧ k < many := by
  intro w hw
  obtain ⟨h1, h2⟩ := h
  have e1 := Int.emod_nonneg w.q (show many ≠ 0 by omega)
  have e2 := Int.emod_lt_of_pos w.q h1
  by_cases hq : 0 < w.q
  · refine ⟨.int (w.q % many), { w with q := w.q / many }, ?_, hw, _, rfl, e1, e2⟩
    simp [f__law_taken, B__law_taken, fnR, denS, den, bnd, ret, asB, asI, cmpD, binD, b1D, setW, hq, h1, h2, bindT]
  · by_cases hl : (w.ns.length : Int) < w.i + 1
    · refine ⟨.int (((w.s * 48271 + 11) % 2147483647) / 7 % many), { w with i := w.i + 1, s := (w.s * 48271 + 11) % 2147483647 }, ?_, by show 0 ≤ w.i + 1; omega, _, rfl, Int.emod_nonneg _ (by omega), Int.emod_lt_of_pos _ h1⟩
      simp [f__law_taken, B__law_taken, fnR, denS, den, bnd, ret, asB, asI, cmpD, binD, b1D, setW, hq, h1, h2, bindT, hl, big]
    · have hk : w.i.toNat < w.ns.length := by omega
      have ha : L2.atI w.ns w.i = some (w.ns[w.i.toNat]) := by
        have e : ((w.i.toNat : Nat) : Int) = w.i := by omega
        have q := L2.atI_nat (List.getElem?_eq_getElem hk)
        rw [e] at q
        exact q
      generalize w.ns[w.i.toNat] = cell at ha
      by_cases hc : (1000000000000000000 : Int) ≤ cell
      · refine ⟨.int (cell % many), { w with i := w.i + 1, s := (w.s * 48271 + cell + 11) % 2147483647, q := cell / many }, ?_, by show 0 ≤ w.i + 1; omega, _, rfl, Int.emod_nonneg _ (by omega), Int.emod_lt_of_pos _ h1⟩
        simp [f__law_taken, B__law_taken, fnR, denS, den, bnd, ret, asB, asI, cmpD, binD, b1D, setW, hq, h1, h2, bindT, hl, big, ha, hc]
      · refine ⟨.int (cell % many), { w with i := w.i + 1, s := (w.s * 48271 + cell + 11) % 2147483647 }, ?_, by show 0 ≤ w.i + 1; omega, _, rfl, Int.emod_nonneg _ (by omega), Int.emod_lt_of_pos _ h1⟩
        simp [f__law_taken, B__law_taken, fnR, denS, den, bnd, ret, asB, asI, cmpD, binD, b1D, setW, hq, h1, h2, bindT, hl, big, ha, hc]
theorem row_does {wide : Nat} {size never : Int} (hw : wide ≤ 1000) (hs : 0 ≤ size ∧ size ≤ 100000) (hn : 0 < never ∧ never < 1000) : Does (f__law_row [.int wide, .int size, .int never]) fun d => ∃ r : List La, d = rowD r ∧ r.length = wide ∧ ∀ x ∈ r, within size x := by
  unfold f__law_row B__law_row
  simp -implicitDefEqProofs only [wipeE, Tg.slots, k_nx, k_rt, e_nx, e_rt, br_t, br_f, dS_nil, dS_seq, dS_nm, own_list, dS_newL, dS_par, sl_f, sl_t, dS_ite, dS_ret, dS_expr, dS_app, ap_own, dS_aug, au_val, dS_frz, fr_own, asB_bool, asI_int, items_l, items_t, dn_nil, dn_cons, dn_star, lo_l, lo_d, vk, dn_var, ok_, dn_own, dn_lit, dn_glob, dn_bin, dn_neg, dn_not, dn_cmp, dn_chain, ch_t, ch_f, dn_and, dn_or, dn_ite, an_t, an_f, or_t, or_f, it_t, it_f, dn_tup, dn_list, tup0, tup1, tup2, tup3, lst0, lst1, lst2, lst3, dn_ix, dn_slice, dn_call, call1, call2, call3, call4, call5, rk, dn_callR, dn_b1, dn_b2, dn_isI, dn_isTL, dn_range1, dn_range2, dn_zip, b1_len_l, b1_len_t, b1_tup_l, b1_tup_t, b1_list_l, b1_list_t, b1_int, not_b, neg_i, cmp_lt, cmp_le, cmp_gt, cmp_ge, cmp_is, cmp_isnot, cmp_eqi, cmp_nei, bin_add, bin_sub, zip_t, zip_l, dn_comp, dS_for, bnd_ret, bnd_bnd, fn_eq, fnR_eq, List.map_cons, List.map_nil, List.cons_append, List.nil_append, List.append_nil, List.length_cons, List.length_nil, List.replicate_succ, List.replicate_zero, Nat.sub_self, Nat.reduceAdd, Nat.reduceSub, Nat.zero_add, List.set_cons_zero, List.set_cons_succ, List.getElem?_cons_zero, List.getElem?_cons_succ, dS_asgT, dS_kill, be_nm, be_tup, be_nil, be_cons, dn_b2, range0 hw]
  have hb : (big 2 || big size) = true := by simp [big]
  refine (for_dn (ds := (List.range wide).map fun (i : Nat) => PyData.int (i : Int)) (fun l : List La => [.row, .val (.int wide), .val (.int size), .val (.int never), .own (l.map optD), .no]) (fun k l => l.length = k ∧ ∀ a ∈ l, within size a) (n := 0) (s := []) ⟨rfl, fun a h => by cases h⟩ fun k l d hd _ hk ⟨e2, hl⟩ => ?_).bnd ?_
  · rw [List.length_map, List.length_range, Nat.zero_add] at hk
    have hpush : (l.map optD).length < sizeLine := by rw [List.length_map, e2]; exact Nat.lt_of_lt_of_le (Nat.lt_of_lt_of_le hk hw) (by decide)
    have key : ∀ a : La, within size a → Does (bnd (pushK 4 [.row, .val (.int wide), .val (.int size), .val (.int never), .own (l.map optD), .val d] (l.map optD) (optD a)) (seqK (.seq (.kill 5) .nil))) fun o => ∃ l' : List La, o = .nx [.row, .val (.int wide), .val (.int size), .val (.int never), .own (l'.map optD), .no] ∧ l'.length = k + 1 ∧ ∀ a ∈ l', within size a := fun a ha => by
      rw [push_ok hpush]
      simp -implicitDefEqProofs only [wipeE, Tg.slots, k_nx, k_rt, e_nx, e_rt, br_t, br_f, dS_nil, dS_seq, dS_nm, own_list, dS_newL, dS_par, sl_f, sl_t, dS_ite, dS_ret, dS_expr, dS_app, ap_own, dS_aug, au_val, dS_frz, fr_own, asB_bool, asI_int, items_l, items_t, dn_nil, dn_cons, dn_star, lo_l, lo_d, vk, dn_var, ok_, dn_own, dn_lit, dn_glob, dn_bin, dn_neg, dn_not, dn_cmp, dn_chain, ch_t, ch_f, dn_and, dn_or, dn_ite, an_t, an_f, or_t, or_f, it_t, it_f, dn_tup, dn_list, tup0, tup1, tup2, tup3, lst0, lst1, lst2, lst3, dn_ix, dn_slice, dn_call, call1, call2, call3, call4, call5, rk, dn_callR, dn_b1, dn_b2, dn_isI, dn_isTL, dn_range1, dn_range2, dn_zip, b1_len_l, b1_len_t, b1_tup_l, b1_tup_t, b1_list_l, b1_list_t, b1_int, not_b, neg_i, cmp_lt, cmp_le, cmp_gt, cmp_ge, cmp_is, cmp_isnot, cmp_eqi, cmp_nei, bin_add, bin_sub, zip_t, zip_l, dn_comp, dS_for, bnd_ret, bnd_bnd, fn_eq, fnR_eq, List.map_cons, List.map_nil, List.cons_append, List.nil_append, List.append_nil, List.length_cons, List.length_nil, List.replicate_succ, List.replicate_zero, Nat.sub_self, Nat.reduceAdd, Nat.reduceSub, Nat.zero_add, List.set_cons_zero, List.set_cons_succ, List.getElem?_cons_zero, List.getElem?_cons_succ, dS_asgT, dS_kill, be_nm, be_tup, be_nil, be_cons, dn_b2]
      refine .ret ⟨l ++ [a], ?_, by rw [List.length_append, e2]; rfl, fun b hb => ?_⟩
      · rw [List.map_append]; rfl
      · rcases List.mem_append.mp hb with hb | hb
        · exact hl b hb
        · cases List.mem_singleton.mp hb; exact ha
    simp -implicitDefEqProofs only [wipeE, Tg.slots, k_nx, k_rt, e_nx, e_rt, br_t, br_f, dS_nil, dS_seq, dS_nm, own_list, dS_newL, dS_par, sl_f, sl_t, dS_ite, dS_ret, dS_expr, dS_app, ap_own, dS_aug, au_val, dS_frz, fr_own, asB_bool, asI_int, items_l, items_t, dn_nil, dn_cons, dn_star, lo_l, lo_d, vk, dn_var, ok_, dn_own, dn_lit, dn_glob, dn_bin, dn_neg, dn_not, dn_cmp, dn_chain, ch_t, ch_f, dn_and, dn_or, dn_ite, an_t, an_f, or_t, or_f, it_t, it_f, dn_tup, dn_list, tup0, tup1, tup2, tup3, lst0, lst1, lst2, lst3, dn_ix, dn_slice, dn_call, call1, call2, call3, call4, call5, rk, dn_callR, dn_b1, dn_b2, dn_isI, dn_isTL, dn_range1, dn_range2, dn_zip, b1_len_l, b1_len_t, b1_tup_l, b1_tup_t, b1_list_l, b1_list_t, b1_int, not_b, neg_i, cmp_lt, cmp_le, cmp_gt, cmp_ge, cmp_is, cmp_isnot, cmp_eqi, cmp_nei, bin_add, bin_sub, zip_t, zip_l, dn_comp, dS_for, bnd_ret, bnd_bnd, fn_eq, fnR_eq, List.map_cons, List.map_nil, List.cons_append, List.nil_append, List.append_nil, List.length_cons, List.length_nil, List.replicate_succ, List.replicate_zero, Nat.sub_self, Nat.reduceAdd, Nat.reduceSub, Nat.zero_add, List.set_cons_zero, List.set_cons_succ, List.getElem?_cons_zero, List.getElem?_cons_succ, dS_asgT, dS_kill, be_nm, be_tup, be_nil, be_cons, dn_b2, fk_eq, cmp_t, cmp_c, cmp_n, cmp_call, cmp_a, cmp_o, mapX_ret, filX_ret]
    refine (taken_does ⟨hn.1, by omega⟩).bnd fun d1 ⟨k1, e1, _, _⟩ => ?_
    subst e1
    simp -implicitDefEqProofs only [wipeE, Tg.slots, k_nx, k_rt, e_nx, e_rt, br_t, br_f, dS_nil, dS_seq, dS_nm, own_list, dS_newL, dS_par, sl_f, sl_t, dS_ite, dS_ret, dS_expr, dS_app, ap_own, dS_aug, au_val, dS_frz, fr_own, asB_bool, asI_int, items_l, items_t, dn_nil, dn_cons, dn_star, lo_l, lo_d, vk, dn_var, ok_, dn_own, dn_lit, dn_glob, dn_bin, dn_neg, dn_not, dn_cmp, dn_chain, ch_t, ch_f, dn_and, dn_or, dn_ite, an_t, an_f, or_t, or_f, it_t, it_f, dn_tup, dn_list, tup0, tup1, tup2, tup3, lst0, lst1, lst2, lst3, dn_ix, dn_slice, dn_call, call1, call2, call3, call4, call5, rk, dn_callR, dn_b1, dn_b2, dn_isI, dn_isTL, dn_range1, dn_range2, dn_zip, b1_len_l, b1_len_t, b1_tup_l, b1_tup_t, b1_list_l, b1_list_t, b1_int, not_b, neg_i, cmp_lt, cmp_le, cmp_gt, cmp_ge, cmp_is, cmp_isnot, cmp_eqi, cmp_nei, bin_add, bin_sub, zip_t, zip_l, dn_comp, dS_for, bnd_ret, bnd_bnd, fn_eq, fnR_eq, List.map_cons, List.map_nil, List.cons_append, List.nil_append, List.append_nil, List.length_cons, List.length_nil, List.replicate_succ, List.replicate_zero, Nat.sub_self, Nat.reduceAdd, Nat.reduceSub, Nat.zero_add, List.set_cons_zero, List.set_cons_succ, List.getElem?_cons_zero, List.getElem?_cons_succ, dS_asgT, dS_kill, be_nm, be_tup, be_nil, be_cons, dn_b2]
    by_cases h0 : k1 = 0
    · rw [decide_eq_true h0]
      simp -implicitDefEqProofs only [wipeE, Tg.slots, k_nx, k_rt, e_nx, e_rt, br_t, br_f, dS_nil, dS_seq, dS_nm, own_list, dS_newL, dS_par, sl_f, sl_t, dS_ite, dS_ret, dS_expr, dS_app, ap_own, dS_aug, au_val, dS_frz, fr_own, asB_bool, asI_int, items_l, items_t, dn_nil, dn_cons, dn_star, lo_l, lo_d, vk, dn_var, ok_, dn_own, dn_lit, dn_glob, dn_bin, dn_neg, dn_not, dn_cmp, dn_chain, ch_t, ch_f, dn_and, dn_or, dn_ite, an_t, an_f, or_t, or_f, it_t, it_f, dn_tup, dn_list, tup0, tup1, tup2, tup3, lst0, lst1, lst2, lst3, dn_ix, dn_slice, dn_call, call1, call2, call3, call4, call5, rk, dn_callR, dn_b1, dn_b2, dn_isI, dn_isTL, dn_range1, dn_range2, dn_zip, b1_len_l, b1_len_t, b1_tup_l, b1_tup_t, b1_list_l, b1_list_t, b1_int, not_b, neg_i, cmp_lt, cmp_le, cmp_gt, cmp_ge, cmp_is, cmp_isnot, cmp_eqi, cmp_nei, bin_add, bin_sub, zip_t, zip_l, dn_comp, dS_for, bnd_ret, bnd_bnd, fn_eq, fnR_eq, List.map_cons, List.map_nil, List.cons_append, List.nil_append, List.append_nil, List.length_cons, List.length_nil, List.replicate_succ, List.replicate_zero, Nat.sub_self, Nat.reduceAdd, Nat.reduceSub, Nat.zero_add, List.set_cons_zero, List.set_cons_succ, List.getElem?_cons_zero, List.getElem?_cons_succ, dS_asgT, dS_kill, be_nm, be_tup, be_nil, be_cons, dn_b2]
      exact key none trivial
    · rw [decide_eq_false h0]
      simp -implicitDefEqProofs only [wipeE, Tg.slots, k_nx, k_rt, e_nx, e_rt, br_t, br_f, dS_nil, dS_seq, dS_nm, own_list, dS_newL, dS_par, sl_f, sl_t, dS_ite, dS_ret, dS_expr, dS_app, ap_own, dS_aug, au_val, dS_frz, fr_own, asB_bool, asI_int, items_l, items_t, dn_nil, dn_cons, dn_star, lo_l, lo_d, vk, dn_var, ok_, dn_own, dn_lit, dn_glob, dn_bin, dn_neg, dn_not, dn_cmp, dn_chain, ch_t, ch_f, dn_and, dn_or, dn_ite, an_t, an_f, or_t, or_f, it_t, it_f, dn_tup, dn_list, tup0, tup1, tup2, tup3, lst0, lst1, lst2, lst3, dn_ix, dn_slice, dn_call, call1, call2, call3, call4, call5, rk, dn_callR, dn_b1, dn_b2, dn_isI, dn_isTL, dn_range1, dn_range2, dn_zip, b1_len_l, b1_len_t, b1_tup_l, b1_tup_t, b1_list_l, b1_list_t, b1_int, not_b, neg_i, cmp_lt, cmp_le, cmp_gt, cmp_ge, cmp_is, cmp_isnot, cmp_eqi, cmp_nei, bin_add, bin_sub, zip_t, zip_l, dn_comp, dS_for, bnd_ret, bnd_bnd, fn_eq, fnR_eq, List.map_cons, List.map_nil, List.cons_append, List.nil_append, List.append_nil, List.length_cons, List.length_nil, List.replicate_succ, List.replicate_zero, Nat.sub_self, Nat.reduceAdd, Nat.reduceSub, Nat.zero_add, List.set_cons_zero, List.set_cons_succ, List.getElem?_cons_zero, List.getElem?_cons_succ, dS_asgT, dS_kill, be_nm, be_tup, be_nil, be_cons, dn_b2, bin_mul hb]
      refine (taken_does ⟨by omega, by omega⟩).bnd fun d1 ⟨k2, e1, g1, g2⟩ => ?_
      subst e1
      exact key (some (k2 - size)) ⟨by omega, by omega⟩
  · rintro o ⟨l, rfl, e2, hl⟩
    rw [List.length_map, List.length_range, Nat.zero_add] at e2
    simp -implicitDefEqProofs only [wipeE, Tg.slots, k_nx, k_rt, e_nx, e_rt, br_t, br_f, dS_nil, dS_seq, dS_nm, own_list, dS_newL, dS_par, sl_f, sl_t, dS_ite, dS_ret, dS_expr, dS_app, ap_own, dS_aug, au_val, dS_frz, fr_own, asB_bool, asI_int, items_l, items_t, dn_nil, dn_cons, dn_star, lo_l, lo_d, vk, dn_var, ok_, dn_own, dn_lit, dn_glob, dn_bin, dn_neg, dn_not, dn_cmp, dn_chain, ch_t, ch_f, dn_and, dn_or, dn_ite, an_t, an_f, or_t, or_f, it_t, it_f, dn_tup, dn_list, tup0, tup1, tup2, tup3, lst0, lst1, lst2, lst3, dn_ix, dn_slice, dn_call, call1, call2, call3, call4, call5, rk, dn_callR, dn_b1, dn_b2, dn_isI, dn_isTL, dn_range1, dn_range2, dn_zip, b1_len_l, b1_len_t, b1_tup_l, b1_tup_t, b1_list_l, b1_list_t, b1_int, not_b, neg_i, cmp_lt, cmp_le, cmp_gt, cmp_ge, cmp_is, cmp_isnot, cmp_eqi, cmp_nei, bin_add, bin_sub, zip_t, zip_l, dn_comp, dS_for, bnd_ret, bnd_bnd, fn_eq, fnR_eq, List.map_cons, List.map_nil, List.cons_append, List.nil_append, List.append_nil, List.length_cons, List.length_nil, List.replicate_succ, List.replicate_zero, Nat.sub_self, Nat.reduceAdd, Nat.reduceSub, Nat.zero_add, List.set_cons_zero, List.set_cons_succ, List.getElem?_cons_zero, List.getElem?_cons_succ, dS_asgT, dS_kill, be_nm, be_tup, be_nil, be_cons, dn_b2]
    exact .ret ⟨l, rfl, e2, hl⟩
theorem m_llater (a b : La) : f__law_later [optD a, optD b] = ret (optD (later a b)) := by
  cases a <;> cases b <;> rfl
theorem m_lby (a b : La) : f__law_by [optD a, optD b] = ret (.bool (isBy a b)) := by
  cases a <;> cases b <;> rfl
theorem m_lshift (r : List La) (k : Int) : f__law_shift [rowD r, .int k] = ret (rowD (shiftOf r k)) := by
  unfold f__law_shift B__law_shift
  simp -implicitDefEqProofs only [wipeE, Tg.slots, k_nx, k_rt, e_nx, e_rt, br_t, br_f, dS_nil, dS_seq, dS_nm, own_list, dS_newL, dS_par, sl_f, sl_t, dS_ite, dS_ret, dS_expr, dS_app, ap_own, dS_aug, au_val, dS_frz, fr_own, asB_bool, asI_int, items_l, items_t, dn_nil, dn_cons, dn_star, lo_l, lo_d, vk, dn_var, ok_, dn_own, dn_lit, dn_glob, dn_bin, dn_neg, dn_not, dn_cmp, dn_chain, ch_t, ch_f, dn_and, dn_or, dn_ite, an_t, an_f, or_t, or_f, it_t, it_f, dn_tup, dn_list, tup0, tup1, tup2, tup3, lst0, lst1, lst2, lst3, dn_ix, dn_slice, dn_call, call1, call2, call3, call4, call5, rk, dn_callR, dn_b1, dn_b2, dn_isI, dn_isTL, dn_range1, dn_range2, dn_zip, b1_len_l, b1_len_t, b1_tup_l, b1_tup_t, b1_list_l, b1_list_t, b1_int, not_b, neg_i, cmp_lt, cmp_le, cmp_gt, cmp_ge, cmp_is, cmp_isnot, cmp_eqi, cmp_nei, bin_add, bin_sub, zip_t, zip_l, dn_comp, dS_for, bnd_ret, bnd_bnd, fn_eq, fnR_eq, List.map_cons, List.map_nil, List.cons_append, List.nil_append, List.append_nil, List.length_cons, List.length_nil, List.replicate_succ, List.replicate_zero, Nat.sub_self, Nat.reduceAdd, Nat.reduceSub, Nat.zero_add, List.set_cons_zero, List.set_cons_succ, List.getElem?_cons_zero, List.getElem?_cons_succ, dS_asgT, dS_kill, be_nm, be_tup, be_nil, be_cons, dn_b2, items_row]
  rw [cmpMap (g := fun x => optD (added x (some k))) fun p _ => ⟨[.val (rowD r), .val (.int k), .val (optD p)], rfl, rfl, by cases p <;> rfl⟩]
  simp -implicitDefEqProofs only [wipeE, Tg.slots, k_nx, k_rt, e_nx, e_rt, br_t, br_f, dS_nil, dS_seq, dS_nm, own_list, dS_newL, dS_par, sl_f, sl_t, dS_ite, dS_ret, dS_expr, dS_app, ap_own, dS_aug, au_val, dS_frz, fr_own, asB_bool, asI_int, items_l, items_t, dn_nil, dn_cons, dn_star, lo_l, lo_d, vk, dn_var, ok_, dn_own, dn_lit, dn_glob, dn_bin, dn_neg, dn_not, dn_cmp, dn_chain, ch_t, ch_f, dn_and, dn_or, dn_ite, an_t, an_f, or_t, or_f, it_t, it_f, dn_tup, dn_list, tup0, tup1, tup2, tup3, lst0, lst1, lst2, lst3, dn_ix, dn_slice, dn_call, call1, call2, call3, call4, call5, rk, dn_callR, dn_b1, dn_b2, dn_isI, dn_isTL, dn_range1, dn_range2, dn_zip, b1_len_l, b1_len_t, b1_tup_l, b1_tup_t, b1_list_l, b1_list_t, b1_int, not_b, neg_i, cmp_lt, cmp_le, cmp_gt, cmp_ge, cmp_is, cmp_isnot, cmp_eqi, cmp_nei, bin_add, bin_sub, zip_t, zip_l, dn_comp, dS_for, bnd_ret, bnd_bnd, fn_eq, fnR_eq, List.map_cons, List.map_nil, List.cons_append, List.nil_append, List.append_nil, List.length_cons, List.length_nil, List.replicate_succ, List.replicate_zero, Nat.sub_self, Nat.reduceAdd, Nat.reduceSub, Nat.zero_add, List.set_cons_zero, List.set_cons_succ, List.getElem?_cons_zero, List.getElem?_cons_succ, dS_asgT, dS_kill, be_nm, be_tup, be_nil, be_cons, dn_b2]
  unfold shiftOf rowD
  rw [List.map_map]
  rfl
theorem m_lboth {a b : List La} (h : a.length = b.length) (hw : a.length ≤ 1000) : f__law_both [rowD a, rowD b] = ret (rowD (bothOf a b)) := by
  unfold f__law_both B__law_both
  simp -implicitDefEqProofs only [wipeE, Tg.slots, k_nx, k_rt, e_nx, e_rt, br_t, br_f, dS_nil, dS_seq, dS_nm, own_list, dS_newL, dS_par, sl_f, sl_t, dS_ite, dS_ret, dS_expr, dS_app, ap_own, dS_aug, au_val, dS_frz, fr_own, asB_bool, asI_int, items_l, items_t, dn_nil, dn_cons, dn_star, lo_l, lo_d, vk, dn_var, ok_, dn_own, dn_lit, dn_glob, dn_bin, dn_neg, dn_not, dn_cmp, dn_chain, ch_t, ch_f, dn_and, dn_or, dn_ite, an_t, an_f, or_t, or_f, it_t, it_f, dn_tup, dn_list, tup0, tup1, tup2, tup3, lst0, lst1, lst2, lst3, dn_ix, dn_slice, dn_call, call1, call2, call3, call4, call5, rk, dn_callR, dn_b1, dn_b2, dn_isI, dn_isTL, dn_range1, dn_range2, dn_zip, b1_len_l, b1_len_t, b1_tup_l, b1_tup_t, b1_list_l, b1_list_t, b1_int, not_b, neg_i, cmp_lt, cmp_le, cmp_gt, cmp_ge, cmp_is, cmp_isnot, cmp_eqi, cmp_nei, bin_add, bin_sub, zip_t, zip_l, dn_comp, dS_for, bnd_ret, bnd_bnd, fn_eq, fnR_eq, List.map_cons, List.map_nil, List.cons_append, List.nil_append, List.append_nil, List.length_cons, List.length_nil, List.replicate_succ, List.replicate_zero, Nat.sub_self, Nat.reduceAdd, Nat.reduceSub, Nat.zero_add, List.set_cons_zero, List.set_cons_succ, List.getElem?_cons_zero, List.getElem?_cons_succ, dS_asgT, dS_kill, be_nm, be_tup, be_nil, be_cons, dn_b2, len_row, range0 hw]
  rw [cmpMap (xs := List.range a.length) (enc := fun (i : Nat) => PyData.int (i : Int)) (g := fun k => optD (later (getL a k) (getL b k))) fun k hk => ⟨[.val (rowD a), .val (rowD b), .val (.int k)], rfl, rfl, by
    have hk := List.mem_range.mp hk
    simp -implicitDefEqProofs only [wipeE, Tg.slots, k_nx, k_rt, e_nx, e_rt, br_t, br_f, dS_nil, dS_seq, dS_nm, own_list, dS_newL, dS_par, sl_f, sl_t, dS_ite, dS_ret, dS_expr, dS_app, ap_own, dS_aug, au_val, dS_frz, fr_own, asB_bool, asI_int, items_l, items_t, dn_nil, dn_cons, dn_star, lo_l, lo_d, vk, dn_var, ok_, dn_own, dn_lit, dn_glob, dn_bin, dn_neg, dn_not, dn_cmp, dn_chain, ch_t, ch_f, dn_and, dn_or, dn_ite, an_t, an_f, or_t, or_f, it_t, it_f, dn_tup, dn_list, tup0, tup1, tup2, tup3, lst0, lst1, lst2, lst3, dn_ix, dn_slice, dn_call, call1, call2, call3, call4, call5, rk, dn_callR, dn_b1, dn_b2, dn_isI, dn_isTL, dn_range1, dn_range2, dn_zip, b1_len_l, b1_len_t, b1_tup_l, b1_tup_t, b1_list_l, b1_list_t, b1_int, not_b, neg_i, cmp_lt, cmp_le, cmp_gt, cmp_ge, cmp_is, cmp_isnot, cmp_eqi, cmp_nei, bin_add, bin_sub, zip_t, zip_l, dn_comp, dS_for, bnd_ret, bnd_bnd, fn_eq, fnR_eq, List.map_cons, List.map_nil, List.cons_append, List.nil_append, List.append_nil, List.length_cons, List.length_nil, List.replicate_succ, List.replicate_zero, Nat.sub_self, Nat.reduceAdd, Nat.reduceSub, Nat.zero_add, List.set_cons_zero, List.set_cons_succ, List.getElem?_cons_zero, List.getElem?_cons_succ, dS_asgT, dS_kill, be_nm, be_tup, be_nil, be_cons, dn_b2, ix_row (getD_ok hk), ix_row (getD_ok (show k < b.length by omega)), m_llater]
    rfl⟩]
  simp -implicitDefEqProofs only [wipeE, Tg.slots, k_nx, k_rt, e_nx, e_rt, br_t, br_f, dS_nil, dS_seq, dS_nm, own_list, dS_newL, dS_par, sl_f, sl_t, dS_ite, dS_ret, dS_expr, dS_app, ap_own, dS_aug, au_val, dS_frz, fr_own, asB_bool, asI_int, items_l, items_t, dn_nil, dn_cons, dn_star, lo_l, lo_d, vk, dn_var, ok_, dn_own, dn_lit, dn_glob, dn_bin, dn_neg, dn_not, dn_cmp, dn_chain, ch_t, ch_f, dn_and, dn_or, dn_ite, an_t, an_f, or_t, or_f, it_t, it_f, dn_tup, dn_list, tup0, tup1, tup2, tup3, lst0, lst1, lst2, lst3, dn_ix, dn_slice, dn_call, call1, call2, call3, call4, call5, rk, dn_callR, dn_b1, dn_b2, dn_isI, dn_isTL, dn_range1, dn_range2, dn_zip, b1_len_l, b1_len_t, b1_tup_l, b1_tup_t, b1_list_l, b1_list_t, b1_int, not_b, neg_i, cmp_lt, cmp_le, cmp_gt, cmp_ge, cmp_is, cmp_isnot, cmp_eqi, cmp_nei, bin_add, bin_sub, zip_t, zip_l, dn_comp, dS_for, bnd_ret, bnd_bnd, fn_eq, fnR_eq, List.map_cons, List.map_nil, List.cons_append, List.nil_append, List.append_nil, List.length_cons, List.length_nil, List.replicate_succ, List.replicate_zero, Nat.sub_self, Nat.reduceAdd, Nat.reduceSub, Nat.zero_add, List.set_cons_zero, List.set_cons_succ, List.getElem?_cons_zero, List.getElem?_cons_succ, dS_asgT, dS_kill, be_nm, be_tup, be_nil, be_cons, dn_b2]
  unfold bothOf rowD
  rw [zip_range a b h, List.map_map]
  rfl
theorem m_lsumX {a b : List La} {X : D} (hX : ∀ (k : Nat) x, b[k]? = some x → ixD X (.int (k : Int)) = ret (optD x)) (h : a.length = b.length) (hw : a.length ≤ 1000) : f__law_sum [rowD a, X] = ret (optD (sumOf a b)) := by
  unfold f__law_sum B__law_sum
  simp -implicitDefEqProofs only [wipeE, Tg.slots, k_nx, k_rt, e_nx, e_rt, br_t, br_f, dS_nil, dS_seq, dS_nm, own_list, dS_newL, dS_par, sl_f, sl_t, dS_ite, dS_ret, dS_expr, dS_app, ap_own, dS_aug, au_val, dS_frz, fr_own, asB_bool, asI_int, items_l, items_t, dn_nil, dn_cons, dn_star, lo_l, lo_d, vk, dn_var, ok_, dn_own, dn_lit, dn_glob, dn_bin, dn_neg, dn_not, dn_cmp, dn_chain, ch_t, ch_f, dn_and, dn_or, dn_ite, an_t, an_f, or_t, or_f, it_t, it_f, dn_tup, dn_list, tup0, tup1, tup2, tup3, lst0, lst1, lst2, lst3, dn_ix, dn_slice, dn_call, call1, call2, call3, call4, call5, rk, dn_callR, dn_b1, dn_b2, dn_isI, dn_isTL, dn_range1, dn_range2, dn_zip, b1_len_l, b1_len_t, b1_tup_l, b1_tup_t, b1_list_l, b1_list_t, b1_int, not_b, neg_i, cmp_lt, cmp_le, cmp_gt, cmp_ge, cmp_is, cmp_isnot, cmp_eqi, cmp_nei, bin_add, bin_sub, zip_t, zip_l, dn_comp, dS_for, bnd_ret, bnd_bnd, fn_eq, fnR_eq, List.map_cons, List.map_nil, List.cons_append, List.nil_append, List.append_nil, List.length_cons, List.length_nil, List.replicate_succ, List.replicate_zero, Nat.sub_self, Nat.reduceAdd, Nat.reduceSub, Nat.zero_add, List.set_cons_zero, List.set_cons_succ, List.getElem?_cons_zero, List.getElem?_cons_succ, dS_asgT, dS_kill, be_nm, be_tup, be_nil, be_cons, dn_b2, len_row, range0 hw]
  erw [for_fold (enc := fun (i : Nat) => PyData.int (i : Int)) (fun s : La => [.val (rowD a), .val X, .val (optD s), .no]) (fun s k => later s (added (getL a k) (getL b k))) (xs := List.range a.length) (s := none) fun s k hk => by
    have hk := List.mem_range.mp hk
    have ea := getD_ok hk
    have eb := getD_ok (show k < b.length by omega)
    unfold getL
    generalize (a[k]?).getD none = u at ea
    generalize (b[k]?).getD none = v at eb
    cases u with
    | none =>
      simp -implicitDefEqProofs only [wipeE, Tg.slots, k_nx, k_rt, e_nx, e_rt, br_t, br_f, dS_nil, dS_seq, dS_nm, own_list, dS_newL, dS_par, sl_f, sl_t, dS_ite, dS_ret, dS_expr, dS_app, ap_own, dS_aug, au_val, dS_frz, fr_own, asB_bool, asI_int, items_l, items_t, dn_nil, dn_cons, dn_star, lo_l, lo_d, vk, dn_var, ok_, dn_own, dn_lit, dn_glob, dn_bin, dn_neg, dn_not, dn_cmp, dn_chain, ch_t, ch_f, dn_and, dn_or, dn_ite, an_t, an_f, or_t, or_f, it_t, it_f, dn_tup, dn_list, tup0, tup1, tup2, tup3, lst0, lst1, lst2, lst3, dn_ix, dn_slice, dn_call, call1, call2, call3, call4, call5, rk, dn_callR, dn_b1, dn_b2, dn_isI, dn_isTL, dn_range1, dn_range2, dn_zip, b1_len_l, b1_len_t, b1_tup_l, b1_tup_t, b1_list_l, b1_list_t, b1_int, not_b, neg_i, cmp_lt, cmp_le, cmp_gt, cmp_ge, cmp_is, cmp_isnot, cmp_eqi, cmp_nei, bin_add, bin_sub, zip_t, zip_l, dn_comp, dS_for, bnd_ret, bnd_bnd, fn_eq, fnR_eq, List.map_cons, List.map_nil, List.cons_append, List.nil_append, List.append_nil, List.length_cons, List.length_nil, List.replicate_succ, List.replicate_zero, Nat.sub_self, Nat.reduceAdd, Nat.reduceSub, Nat.zero_add, List.set_cons_zero, List.set_cons_succ, List.getElem?_cons_zero, List.getElem?_cons_succ, dS_asgT, dS_kill, be_nm, be_tup, be_nil, be_cons, dn_b2, fk_eq, cmp_t, cmp_c, cmp_n, cmp_call, cmp_a, cmp_o, mapX_ret, filX_ret, ix_row ea, hX k _ eb, optD, isNone, Bool.not_true]
      cases s <;> rfl
    | some u =>
      cases v with
      | none =>
        simp -implicitDefEqProofs only [wipeE, Tg.slots, k_nx, k_rt, e_nx, e_rt, br_t, br_f, dS_nil, dS_seq, dS_nm, own_list, dS_newL, dS_par, sl_f, sl_t, dS_ite, dS_ret, dS_expr, dS_app, ap_own, dS_aug, au_val, dS_frz, fr_own, asB_bool, asI_int, items_l, items_t, dn_nil, dn_cons, dn_star, lo_l, lo_d, vk, dn_var, ok_, dn_own, dn_lit, dn_glob, dn_bin, dn_neg, dn_not, dn_cmp, dn_chain, ch_t, ch_f, dn_and, dn_or, dn_ite, an_t, an_f, or_t, or_f, it_t, it_f, dn_tup, dn_list, tup0, tup1, tup2, tup3, lst0, lst1, lst2, lst3, dn_ix, dn_slice, dn_call, call1, call2, call3, call4, call5, rk, dn_callR, dn_b1, dn_b2, dn_isI, dn_isTL, dn_range1, dn_range2, dn_zip, b1_len_l, b1_len_t, b1_tup_l, b1_tup_t, b1_list_l, b1_list_t, b1_int, not_b, neg_i, cmp_lt, cmp_le, cmp_gt, cmp_ge, cmp_is, cmp_isnot, cmp_eqi, cmp_nei, bin_add, bin_sub, zip_t, zip_l, dn_comp, dS_for, bnd_ret, bnd_bnd, fn_eq, fnR_eq, List.map_cons, List.map_nil, List.cons_append, List.nil_append, List.append_nil, List.length_cons, List.length_nil, List.replicate_succ, List.replicate_zero, Nat.sub_self, Nat.reduceAdd, Nat.reduceSub, Nat.zero_add, List.set_cons_zero, List.set_cons_succ, List.getElem?_cons_zero, List.getElem?_cons_succ, dS_asgT, dS_kill, be_nm, be_tup, be_nil, be_cons, dn_b2, fk_eq, cmp_t, cmp_c, cmp_n, cmp_call, cmp_a, cmp_o, mapX_ret, filX_ret, ix_row ea, hX k _ eb, optD, isNone, Bool.not_true, Bool.not_false]
        cases s <;> rfl
      | some v =>
        have hl : f__law_later [optD s, .int (u + v)] = ret (optD (later s (some (u + v)))) := m_llater s (some (u + v))
        simp -implicitDefEqProofs only [wipeE, Tg.slots, k_nx, k_rt, e_nx, e_rt, br_t, br_f, dS_nil, dS_seq, dS_nm, own_list, dS_newL, dS_par, sl_f, sl_t, dS_ite, dS_ret, dS_expr, dS_app, ap_own, dS_aug, au_val, dS_frz, fr_own, asB_bool, asI_int, items_l, items_t, dn_nil, dn_cons, dn_star, lo_l, lo_d, vk, dn_var, ok_, dn_own, dn_lit, dn_glob, dn_bin, dn_neg, dn_not, dn_cmp, dn_chain, ch_t, ch_f, dn_and, dn_or, dn_ite, an_t, an_f, or_t, or_f, it_t, it_f, dn_tup, dn_list, tup0, tup1, tup2, tup3, lst0, lst1, lst2, lst3, dn_ix, dn_slice, dn_call, call1, call2, call3, call4, call5, rk, dn_callR, dn_b1, dn_b2, dn_isI, dn_isTL, dn_range1, dn_range2, dn_zip, b1_len_l, b1_len_t, b1_tup_l, b1_tup_t, b1_list_l, b1_list_t, b1_int, not_b, neg_i, cmp_lt, cmp_le, cmp_gt, cmp_ge, cmp_is, cmp_isnot, cmp_eqi, cmp_nei, bin_add, bin_sub, zip_t, zip_l, dn_comp, dS_for, bnd_ret, bnd_bnd, fn_eq, fnR_eq, List.map_cons, List.map_nil, List.cons_append, List.nil_append, List.append_nil, List.length_cons, List.length_nil, List.replicate_succ, List.replicate_zero, Nat.sub_self, Nat.reduceAdd, Nat.reduceSub, Nat.zero_add, List.set_cons_zero, List.set_cons_succ, List.getElem?_cons_zero, List.getElem?_cons_succ, dS_asgT, dS_kill, be_nm, be_tup, be_nil, be_cons, dn_b2, fk_eq, cmp_t, cmp_c, cmp_n, cmp_call, cmp_a, cmp_o, mapX_ret, filX_ret, ix_row ea, hX k _ eb, show optD (some u) = .int u from rfl, show optD (some v) = .int v from rfl, isNone, Bool.not_false, hl]
        rfl]
  simp -implicitDefEqProofs only [wipeE, Tg.slots, k_nx, k_rt, e_nx, e_rt, br_t, br_f, dS_nil, dS_seq, dS_nm, own_list, dS_newL, dS_par, sl_f, sl_t, dS_ite, dS_ret, dS_expr, dS_app, ap_own, dS_aug, au_val, dS_frz, fr_own, asB_bool, asI_int, items_l, items_t, dn_nil, dn_cons, dn_star, lo_l, lo_d, vk, dn_var, ok_, dn_own, dn_lit, dn_glob, dn_bin, dn_neg, dn_not, dn_cmp, dn_chain, ch_t, ch_f, dn_and, dn_or, dn_ite, an_t, an_f, or_t, or_f, it_t, it_f, dn_tup, dn_list, tup0, tup1, tup2, tup3, lst0, lst1, lst2, lst3, dn_ix, dn_slice, dn_call, call1, call2, call3, call4, call5, rk, dn_callR, dn_b1, dn_b2, dn_isI, dn_isTL, dn_range1, dn_range2, dn_zip, b1_len_l, b1_len_t, b1_tup_l, b1_tup_t, b1_list_l, b1_list_t, b1_int, not_b, neg_i, cmp_lt, cmp_le, cmp_gt, cmp_ge, cmp_is, cmp_isnot, cmp_eqi, cmp_nei, bin_add, bin_sub, zip_t, zip_l, dn_comp, dS_for, bnd_ret, bnd_bnd, fn_eq, fnR_eq, List.map_cons, List.map_nil, List.cons_append, List.nil_append, List.append_nil, List.length_cons, List.length_nil, List.replicate_succ, List.replicate_zero, Nat.sub_self, Nat.reduceAdd, Nat.reduceSub, Nat.zero_add, List.set_cons_zero, List.set_cons_succ, List.getElem?_cons_zero, List.getElem?_cons_succ, dS_asgT, dS_kill, be_nm, be_tup, be_nil, be_cons, dn_b2]
  unfold sumOf latestOf
  rw [zip_range a b h, List.foldl_map]
theorem m_lsum {a b : List La} (h : a.length = b.length) (hw : a.length ≤ 1000) : f__law_sum [rowD a, rowD b] = ret (optD (sumOf a b)) := m_lsumX (fun k x e => ix_row e) h hw
theorem m_lsumL {a b : List La} (h : a.length = b.length) (hw : a.length ≤ 1000) : f__law_sum [rowD a, .list (b.map optD)] = ret (optD (sumOf a b)) := m_lsumX (fun k x e => ix_l (by rw [List.getElem?_map, e]; rfl)) h hw
theorem eq_empty {l : List D} {n : Nat} (h : plain n (.list l)) (hn : n ≤ 64) : cmpD .eq (.list l) (.list []) = ret (.bool l.isEmpty) := by
  have e : cmpD .eq (.list l) (.list []) = (if SeqAt.shaped (.list l) && SeqAt.shaped (.list []) then ret (.bool (PyData.eqv (.list l) (.list []))) else bad) := rfl
  rw [e, plain_shaped h hn, if_pos (by decide)]
  cases l <;> rfl
theorem gap_loop {c g : Sl} : ∀ (xs : List (La × La)) (s : La) (x3 x4 : Sl),
    (bnd (forE (.tup (.tcons (.nm 3) (.tcons (.nm 4) .tnil))) (.seq (.ite (.cmp .isnot (.var 3) (.lit .none)) (.seq (.ite (.cmp .is_ (.var 4) (.lit .none)) (.seq (.ret (.lit .none)) .nil) .nil) (.seq (.ite (.or (.cmp .is_ (.var 2) (.lit .none)) (.cmp .lt (.bin .sub (.var 4) (.var 3)) (.var 2))) (.seq (.asg (.nm 2) (.bin .sub (.var 4) (.var 3))) .nil) .nil) .nil)) .nil) .nil)
      [c, g, .val (optD s), x3, x4] (xs.map fun p => PyData.tuple [optD p.1, optD p.2])) fun a => bnd (seqK (.seq (.ret (.var 2)) .nil) a) endK) = ret (optD (gapGo s xs))
  | [], s, x3, x4 => by
    rw [List.map_nil, for_nil]
    simp -implicitDefEqProofs only [wipeE, Tg.slots, k_nx, k_rt, e_nx, e_rt, br_t, br_f, dS_nil, dS_seq, dS_nm, own_list, dS_newL, dS_par, sl_f, sl_t, dS_ite, dS_ret, dS_expr, dS_app, ap_own, dS_aug, au_val, dS_frz, fr_own, asB_bool, asI_int, items_l, items_t, dn_nil, dn_cons, dn_star, lo_l, lo_d, vk, dn_var, ok_, dn_own, dn_lit, dn_glob, dn_bin, dn_neg, dn_not, dn_cmp, dn_chain, ch_t, ch_f, dn_and, dn_or, dn_ite, an_t, an_f, or_t, or_f, it_t, it_f, dn_tup, dn_list, tup0, tup1, tup2, tup3, lst0, lst1, lst2, lst3, dn_ix, dn_slice, dn_call, call1, call2, call3, call4, call5, rk, dn_callR, dn_b1, dn_b2, dn_isI, dn_isTL, dn_range1, dn_range2, dn_zip, b1_len_l, b1_len_t, b1_tup_l, b1_tup_t, b1_list_l, b1_list_t, b1_int, not_b, neg_i, cmp_lt, cmp_le, cmp_gt, cmp_ge, cmp_is, cmp_isnot, cmp_eqi, cmp_nei, bin_add, bin_sub, zip_t, zip_l, dn_comp, dS_for, bnd_ret, bnd_bnd, fn_eq, fnR_eq, List.map_cons, List.map_nil, List.cons_append, List.nil_append, List.append_nil, List.length_cons, List.length_nil, List.replicate_succ, List.replicate_zero, Nat.sub_self, Nat.reduceAdd, Nat.reduceSub, Nat.zero_add, List.set_cons_zero, List.set_cons_succ, List.getElem?_cons_zero, List.getElem?_cons_succ, dS_asgT, dS_kill, be_nm, be_tup, be_nil, be_cons, dn_b2]
    rfl
  | (none, q) :: r, s, x3, x4 => by
    rw [List.map_cons, for_cons]
    have e : forK (.tup (.tcons (.nm 3) (.tcons (.nm 4) .tnil))) (.seq (.ite (.cmp .isnot (.var 3) (.lit .none)) (.seq (.ite (.cmp .is_ (.var 4) (.lit .none)) (.seq (.ret (.lit .none)) .nil) .nil) (.seq (.ite (.or (.cmp .is_ (.var 2) (.lit .none)) (.cmp .lt (.bin .sub (.var 4) (.var 3)) (.var 2))) (.seq (.asg (.nm 2) (.bin .sub (.var 4) (.var 3))) .nil) .nil) .nil)) .nil) .nil) (PyData.tuple [optD none, optD q]) [c, g, .val (optD s), x3, x4] = ret (.nx [c, g, .val (optD s), .val .none, .val (optD q)]) := rfl
    rw [e, bnd_ret]
    exact gap_loop r s _ _
  | (some a, none) :: r, s, x3, x4 => by
    rw [List.map_cons, for_cons]
    have e : forK (.tup (.tcons (.nm 3) (.tcons (.nm 4) .tnil))) (.seq (.ite (.cmp .isnot (.var 3) (.lit .none)) (.seq (.ite (.cmp .is_ (.var 4) (.lit .none)) (.seq (.ret (.lit .none)) .nil) .nil) (.seq (.ite (.or (.cmp .is_ (.var 2) (.lit .none)) (.cmp .lt (.bin .sub (.var 4) (.var 3)) (.var 2))) (.seq (.asg (.nm 2) (.bin .sub (.var 4) (.var 3))) .nil) .nil) .nil)) .nil) .nil) (PyData.tuple [optD (some a), optD none]) [c, g, .val (optD s), x3, x4] = ret (.rt .none) := rfl
    rw [e, bnd_ret]
    cases s <;> rfl
  | (some a, some b) :: r, none, x3, x4 => by
    rw [List.map_cons, for_cons]
    have e : forK (.tup (.tcons (.nm 3) (.tcons (.nm 4) .tnil))) (.seq (.ite (.cmp .isnot (.var 3) (.lit .none)) (.seq (.ite (.cmp .is_ (.var 4) (.lit .none)) (.seq (.ret (.lit .none)) .nil) .nil) (.seq (.ite (.or (.cmp .is_ (.var 2) (.lit .none)) (.cmp .lt (.bin .sub (.var 4) (.var 3)) (.var 2))) (.seq (.asg (.nm 2) (.bin .sub (.var 4) (.var 3))) .nil) .nil) .nil)) .nil) .nil) (PyData.tuple [optD (some a), optD (some b)]) [c, g, .val (optD none), x3, x4] = ret (.nx [c, g, .val (.int (b - a)), .val (.int a), .val (.int b)]) := rfl
    rw [e, bnd_ret]
    exact gap_loop r (some (b - a)) _ _
  | (some a, some b) :: r, some v, x3, x4 => by
    rw [List.map_cons, for_cons]
    unfold forK
    show (bnd (bnd (denS _ [c, g, .val (.int v), .val (.int a), .val (.int b)]) _) _ : M D) = _
    simp -implicitDefEqProofs only [wipeE, Tg.slots, k_nx, k_rt, e_nx, e_rt, br_t, br_f, dS_nil, dS_seq, dS_nm, own_list, dS_newL, dS_par, sl_f, sl_t, dS_ite, dS_ret, dS_expr, dS_app, ap_own, dS_aug, au_val, dS_frz, fr_own, asB_bool, asI_int, items_l, items_t, dn_nil, dn_cons, dn_star, lo_l, lo_d, vk, dn_var, ok_, dn_own, dn_lit, dn_glob, dn_bin, dn_neg, dn_not, dn_cmp, dn_chain, ch_t, ch_f, dn_and, dn_or, dn_ite, an_t, an_f, or_t, or_f, it_t, it_f, dn_tup, dn_list, tup0, tup1, tup2, tup3, lst0, lst1, lst2, lst3, dn_ix, dn_slice, dn_call, call1, call2, call3, call4, call5, rk, dn_callR, dn_b1, dn_b2, dn_isI, dn_isTL, dn_range1, dn_range2, dn_zip, b1_len_l, b1_len_t, b1_tup_l, b1_tup_t, b1_list_l, b1_list_t, b1_int, not_b, neg_i, cmp_lt, cmp_le, cmp_gt, cmp_ge, cmp_is, cmp_isnot, cmp_eqi, cmp_nei, bin_add, bin_sub, zip_t, zip_l, dn_comp, dS_for, bnd_ret, bnd_bnd, fn_eq, fnR_eq, List.map_cons, List.map_nil, List.cons_append, List.nil_append, List.append_nil, List.length_cons, List.length_nil, List.replicate_succ, List.replicate_zero, Nat.sub_self, Nat.reduceAdd, Nat.reduceSub, Nat.zero_add, List.set_cons_zero, List.set_cons_succ, List.getElem?_cons_zero, List.getElem?_cons_succ, dS_asgT, dS_kill, be_nm, be_tup, be_nil, be_cons, dn_b2, isNone, Bool.not_false]
    by_cases h : b - a < v
    · simp -implicitDefEqProofs only [wipeE, Tg.slots, k_nx, k_rt, e_nx, e_rt, br_t, br_f, dS_nil, dS_seq, dS_nm, own_list, dS_newL, dS_par, sl_f, sl_t, dS_ite, dS_ret, dS_expr, dS_app, ap_own, dS_aug, au_val, dS_frz, fr_own, asB_bool, asI_int, items_l, items_t, dn_nil, dn_cons, dn_star, lo_l, lo_d, vk, dn_var, ok_, dn_own, dn_lit, dn_glob, dn_bin, dn_neg, dn_not, dn_cmp, dn_chain, ch_t, ch_f, dn_and, dn_or, dn_ite, an_t, an_f, or_t, or_f, it_t, it_f, dn_tup, dn_list, tup0, tup1, tup2, tup3, lst0, lst1, lst2, lst3, dn_ix, dn_slice, dn_call, call1, call2, call3, call4, call5, rk, dn_callR, dn_b1, dn_b2, dn_isI, dn_isTL, dn_range1, dn_range2, dn_zip, b1_len_l, b1_len_t, b1_tup_l, b1_tup_t, b1_list_l, b1_list_t, b1_int, not_b, neg_i, cmp_lt, cmp_le, cmp_gt, cmp_ge, cmp_is, cmp_isnot, cmp_eqi, cmp_nei, bin_add, bin_sub, zip_t, zip_l, dn_comp, dS_for, bnd_ret, bnd_bnd, fn_eq, fnR_eq, List.map_cons, List.map_nil, List.cons_append, List.nil_append, List.append_nil, List.length_cons, List.length_nil, List.replicate_succ, List.replicate_zero, Nat.sub_self, Nat.reduceAdd, Nat.reduceSub, Nat.zero_add, List.set_cons_zero, List.set_cons_succ, List.getElem?_cons_zero, List.getElem?_cons_succ, dS_asgT, dS_kill, be_nm, be_tup, be_nil, be_cons, dn_b2, decide_eq_true h]
      have ih := gap_loop (c := c) (g := g) r (some (b - a)) (.val (.int a)) (.val (.int b))
      show _ = ret (optD (gapGo (some (if b - a < v then b - a else v)) r))
      rw [if_pos h, ← ih]
      rfl
    · simp -implicitDefEqProofs only [wipeE, Tg.slots, k_nx, k_rt, e_nx, e_rt, br_t, br_f, dS_nil, dS_seq, dS_nm, own_list, dS_newL, dS_par, sl_f, sl_t, dS_ite, dS_ret, dS_expr, dS_app, ap_own, dS_aug, au_val, dS_frz, fr_own, asB_bool, asI_int, items_l, items_t, dn_nil, dn_cons, dn_star, lo_l, lo_d, vk, dn_var, ok_, dn_own, dn_lit, dn_glob, dn_bin, dn_neg, dn_not, dn_cmp, dn_chain, ch_t, ch_f, dn_and, dn_or, dn_ite, an_t, an_f, or_t, or_f, it_t, it_f, dn_tup, dn_list, tup0, tup1, tup2, tup3, lst0, lst1, lst2, lst3, dn_ix, dn_slice, dn_call, call1, call2, call3, call4, call5, rk, dn_callR, dn_b1, dn_b2, dn_isI, dn_isTL, dn_range1, dn_range2, dn_zip, b1_len_l, b1_len_t, b1_tup_l, b1_tup_t, b1_list_l, b1_list_t, b1_int, not_b, neg_i, cmp_lt, cmp_le, cmp_gt, cmp_ge, cmp_is, cmp_isnot, cmp_eqi, cmp_nei, bin_add, bin_sub, zip_t, zip_l, dn_comp, dS_for, bnd_ret, bnd_bnd, fn_eq, fnR_eq, List.map_cons, List.map_nil, List.cons_append, List.nil_append, List.append_nil, List.length_cons, List.length_nil, List.replicate_succ, List.replicate_zero, Nat.sub_self, Nat.reduceAdd, Nat.reduceSub, Nat.zero_add, List.set_cons_zero, List.set_cons_succ, List.getElem?_cons_zero, List.getElem?_cons_succ, dS_asgT, dS_kill, be_nm, be_tup, be_nil, be_cons, dn_b2, decide_eq_false h]
      have ih := gap_loop (c := c) (g := g) r (some v) (.val (.int a)) (.val (.int b))
      show _ = ret (optD (gapGo (some (if b - a < v then b - a else v)) r))
      rw [if_neg h, ← ih]
      rfl
theorem zip_row {a b : List La} : zip2D (rowD a) (rowD b) = ret (.list ((a.zip b).map fun p => PyData.tuple [optD p.1, optD p.2])) := by
  unfold rowD
  rw [zip_t, zip_enc]
theorem full_in {t : List (List La)} {wide k : Nat} (h : ∀ r ∈ t, rowOk r wide) (hk : k < wide) (x : Sl) : compK (.cmp .is_ (.ix (.var 2) (.var 1)) (.lit .none)) (.nm 2) (.lit (.bool true)) [.val (tabD t), .val (.int k), x] (t.map rowD) = ret (.list (t.map fun r => PyData.bool (getL r k).isNone)) := by
  rw [cmpMap (g := fun r : List La => PyData.bool (getL r k).isNone) fun r hr => ⟨[.val (tabD t), .val (.int k), .val (rowD r)], rfl, rfl, by
    simp -implicitDefEqProofs only [wipeE, Tg.slots, k_nx, k_rt, e_nx, e_rt, br_t, br_f, dS_nil, dS_seq, dS_nm, own_list, dS_newL, dS_par, sl_f, sl_t, dS_ite, dS_ret, dS_expr, dS_app, ap_own, dS_aug, au_val, dS_frz, fr_own, asB_bool, asI_int, items_l, items_t, dn_nil, dn_cons, dn_star, lo_l, lo_d, vk, dn_var, ok_, dn_own, dn_lit, dn_glob, dn_bin, dn_neg, dn_not, dn_cmp, dn_chain, ch_t, ch_f, dn_and, dn_or, dn_ite, an_t, an_f, or_t, or_f, it_t, it_f, dn_tup, dn_list, tup0, tup1, tup2, tup3, lst0, lst1, lst2, lst3, dn_ix, dn_slice, dn_call, call1, call2, call3, call4, call5, rk, dn_callR, dn_b1, dn_b2, dn_isI, dn_isTL, dn_range1, dn_range2, dn_zip, b1_len_l, b1_len_t, b1_tup_l, b1_tup_t, b1_list_l, b1_list_t, b1_int, not_b, neg_i, cmp_lt, cmp_le, cmp_gt, cmp_ge, cmp_is, cmp_isnot, cmp_eqi, cmp_nei, bin_add, bin_sub, zip_t, zip_l, dn_comp, dS_for, bnd_ret, bnd_bnd, fn_eq, fnR_eq, List.map_cons, List.map_nil, List.cons_append, List.nil_append, List.append_nil, List.length_cons, List.length_nil, List.replicate_succ, List.replicate_zero, Nat.sub_self, Nat.reduceAdd, Nat.reduceSub, Nat.zero_add, List.set_cons_zero, List.set_cons_succ, List.getElem?_cons_zero, List.getElem?_cons_succ, dS_asgT, dS_kill, be_nm, be_tup, be_nil, be_cons, dn_b2, ix_row (getD_ok (show k < r.length by rw [(h r hr).1]; exact hk)), none_opt]
    rfl⟩]
theorem b1_max0 {α : Type} (f : α → Int) (xs : List α) : b1D .max (.list (PyData.int 0 :: xs.map fun x => PyData.int (f x))) = ret (.int (maxI (0 :: xs.map f))) := by
  show (match intsOf (PyData.int 0 :: xs.map fun x => PyData.int (f x)) with | some (n :: ns) => (ret (.int (maxI (n :: ns))) : M D) | _ => bad) = _
  rw [show intsOf (PyData.int 0 :: xs.map fun x => PyData.int (f x)) = some (0 :: xs.map f) by rw [intsOf, ints_map]; rfl]
theorem add_ll {xs ys : List D} (h : xs.length + ys.length ≤ sizeLine) : binD .add (.list xs) (.list ys) = ret (.list (xs ++ ys)) := if_pos h
theorem far_in {t : List (List La)} {r : List La} (x : Sl) : compK (.b1 .abs (.var 2)) (.nm 2) (.cmp .isnot (.var 2) (.lit .none)) [.val (tabD t), .val (rowD r), x] (r.map optD) = ret (.list ((r.filter Option.isSome).map fun x => PyData.int (absI (x.getD 0)))) :=
  cmpFil (enc := optD) (g := fun x : La => PyData.int (absI (x.getD 0))) (p := Option.isSome) fun a _ => ⟨[.val (tabD t), .val (rowD r), .val (optD a)], rfl, by
    simp -implicitDefEqProofs only [wipeE, Tg.slots, k_nx, k_rt, e_nx, e_rt, br_t, br_f, dS_nil, dS_seq, dS_nm, own_list, dS_newL, dS_par, sl_f, sl_t, dS_ite, dS_ret, dS_expr, dS_app, ap_own, dS_aug, au_val, dS_frz, fr_own, asB_bool, asI_int, items_l, items_t, dn_nil, dn_cons, dn_star, lo_l, lo_d, vk, dn_var, ok_, dn_own, dn_lit, dn_glob, dn_bin, dn_neg, dn_not, dn_cmp, dn_chain, ch_t, ch_f, dn_and, dn_or, dn_ite, an_t, an_f, or_t, or_f, it_t, it_f, dn_tup, dn_list, tup0, tup1, tup2, tup3, lst0, lst1, lst2, lst3, dn_ix, dn_slice, dn_call, call1, call2, call3, call4, call5, rk, dn_callR, dn_b1, dn_b2, dn_isI, dn_isTL, dn_range1, dn_range2, dn_zip, b1_len_l, b1_len_t, b1_tup_l, b1_tup_t, b1_list_l, b1_list_t, b1_int, not_b, neg_i, cmp_lt, cmp_le, cmp_gt, cmp_ge, cmp_is, cmp_isnot, cmp_eqi, cmp_nei, bin_add, bin_sub, zip_t, zip_l, dn_comp, dS_for, bnd_ret, bnd_bnd, fn_eq, fnR_eq, List.map_cons, List.map_nil, List.cons_append, List.nil_append, List.append_nil, List.length_cons, List.length_nil, List.replicate_succ, List.replicate_zero, Nat.sub_self, Nat.reduceAdd, Nat.reduceSub, Nat.zero_add, List.set_cons_zero, List.set_cons_succ, List.getElem?_cons_zero, List.getElem?_cons_succ, dS_asgT, dS_kill, be_nm, be_tup, be_nil, be_cons, dn_b2, none_opt]
    cases a <;> rfl, fun h => by
    cases a with
    | none => cases h
    | some i => rfl⟩
theorem dS_while {n : Ev → Nat} {e : E} {B : S} {ρ : Ev} : denS (.while_ n e B) ρ = whileO (fun ρ' => bnd (den e ρ') asB) (denS B) (n ρ) ρ := rfl
theorem wh_nx {c : Ev → M Bool} {f : Ev → M O} {n : Nat} {ρ ρ' : Ev} (h : c ρ = ret true) (g : f ρ = ret (.nx ρ')) : whileO c f (n + 1) ρ = whileO c f n ρ' := by
  show bnd (c ρ) _ = _
  rw [h, bnd_ret, if_pos rfl, g]
  rfl
theorem wh_rt {c : Ev → M Bool} {f : Ev → M O} {n : Nat} {ρ : Ev} {d : D} (h : c ρ = ret true) (g : f ρ = ret (.rt d)) : whileO c f (n + 1) ρ = ret (.rt d) := by
  show bnd (c ρ) _ = _
  rw [h, bnd_ret, if_pos rfl, g]
  rfl
theorem while_fix {α : Type} {c : Ev → M Bool} {f : Ev → M O} (R : α → Ev → Prop) (I : α → Prop) (step : α → α) (μ : α → Nat) (out : α → D) (hc : ∀ ρ, c ρ = ret true)
    (h1 : ∀ s ρ, I s → R s ρ → step s = s → f ρ = ret (.rt (out s))) (h2 : ∀ s ρ, I s → R s ρ → step s ≠ s → ∃ ρ', f ρ = ret (.nx ρ') ∧ R (step s) ρ') (h3 : ∀ s, I s → step s ≠ s → I (step s) ∧ μ (step s) < μ s) :
    ∀ (n : Nat) (s : α) (ρ : Ev), I s → R s ρ → μ s < n → ∃ s', whileO c f n ρ = ret (.rt (out s')) ∧ step s' = s' ∧ I s'
  | 0, s, ρ, _, _, hn => absurd hn (Nat.not_lt_zero _)
  | n + 1, s, ρ, hI, hR, hn => by
    by_cases e : step s = s
    · exact ⟨s, wh_rt (hc ρ) (h1 s ρ hI hR e), e, hI⟩
    · obtain ⟨ρ', g, r⟩ := h2 s ρ hI hR e
      obtain ⟨i2, m⟩ := h3 s hI e
      obtain ⟨s', g2, e2, i3⟩ := while_fix R I step μ out hc h1 h2 h3 n (step s) ρ' i2 r (by omega)
      exact ⟨s', by rw [wh_nx (hc ρ) g, g2], e2, i3⟩
theorem for_at {α : Type} {t : Tg} {B : S} {enc : α → D} {L : List α} (I : Nat → Ev → Prop) (h : ∀ k x ρ, L[k]? = some x → I k ρ → ∃ ρ', forK t B (enc x) ρ = ret (.nx ρ') ∧ I (k + 1) ρ') : ∀ (n k : Nat) (ρ : Ev), k + n = L.length → I k ρ → ∃ ρ', forE t B ρ ((L.drop k).map enc) = ret (.nx ρ') ∧ I L.length ρ'
  | 0, k, ρ, e, hI => by
    rw [List.drop_eq_nil_of_le (by omega), List.map_nil, for_nil]
    have e : k = L.length := by omega
    exact ⟨ρ, rfl, e ▸ hI⟩
  | n + 1, k, ρ, e, hI => by
    have hk : k < L.length := by omega
    obtain ⟨ρ1, e1, h1⟩ := h k L[k] ρ (List.getElem?_eq_getElem hk) hI
    obtain ⟨ρ2, e2, h2⟩ := for_at I h n (k + 1) ρ1 (by omega) h1
    refine ⟨ρ2, ?_, h2⟩
    rw [List.drop_eq_getElem_cons hk, List.map_cons, for_cons, e1, bnd_ret]
    exact e2
theorem dn_enum {a : E} {ρ : Ev} : den (.enum a) ρ = bnd (bnd (den a ρ) itemsOf) fun xs => ret (.list (enumD xs)) := rfl
theorem setIx_ok {ρ : Ev} {i k : Nat} {ke e : E} {l : List D} {d : D} (he : den e ρ = ret d) (hi : ρ[i]? = some (.own l)) (hk : den ke ρ = ret (.int (k : Int))) (h : k < l.length) : denS (.setIx i ke e) ρ = ret (.nx (ρ.set i (.own (l.set k d)))) := by
  show bnd (den e ρ) _ = _
  rw [he, bnd_ret, hi]
  show bnd (bnd (den ke ρ) asI) _ = _
  rw [hk, bnd_ret]
  show bnd (ret (k : Int)) _ = _
  rw [bnd_ret, ixN_in h]
abbrev heldB : S := .seq (.ite (.and (.cmp .isnot (.var 7) (.lit .none)) (.cmp .isnot (.ix (.own 2) (.var 6)) (.lit .none))) (.seq (.ite (.cmp .is_ (.var 5) (.lit .none)) (.seq (.setIx 2 (.var 6) (.lit .none)) .nil) (.seq (.ite (.cmp .lt (.bin .sub (.var 5) (.var 7)) (.ix (.own 2) (.var 6))) (.seq (.setIx 2 (.var 6) (.bin .sub (.var 5) (.var 7))) .nil) .nil) .nil)) .nil) .nil) .nil
theorem ix_own {f : List La} {k : Nat} (h : k < f.length) : ixD (.list (f.map optD)) (.int (k : Int)) = ret (optD (getL f k)) := ix_l (by
  rw [List.getElem?_map, List.getElem?_eq_getElem h]
  unfold getL
  rw [List.getElem?_eq_getElem h]
  rfl)
theorem held_one {f : List La} {k : Nat} {right lag : La} (hk : k < f.length) {x0 x1 x3 x4 x6 x7 : Sl} :
    forK (.tup (.tcons (.nm 6) (.tcons (.nm 7) .tnil))) heldB (.tuple [.int (k : Int), optD lag]) [x0, x1, .own (f.map optD), x3, x4, .val (optD right), x6, x7] =
      ret (.nx [x0, x1, .own ((f.set k (lowEl right lag (getL f k))).map optD), x3, x4, .val (optD right), .val (.int (k : Int)), .val (optD lag)]) := by
  unfold forK
  show denS heldB [x0, x1, .own (f.map optD), x3, x4, .val (optD right), .val (.int (k : Int)), .val (optD lag)] = _
  have hkl : k < (f.map optD).length := by rw [List.length_map]; exact hk
  have hset : f.set k (getL f k) = f := by
    refine List.ext_getElem (List.length_set ..) fun i h1 h2 => ?_
    by_cases e : i = k
    · subst e
      rw [List.getElem_set_self]
      unfold getL
      rw [List.getElem?_eq_getElem h2]
      rfl
    · rw [List.getElem_set_ne (fun h => e h.symm)]
  unfold heldB
  cases lag with
  | none =>
    simp -implicitDefEqProofs only [wipeE, Tg.slots, k_nx, k_rt, e_nx, e_rt, br_t, br_f, dS_nil, dS_seq, dS_nm, own_list, dS_newL, dS_par, sl_f, sl_t, dS_ite, dS_ret, dS_expr, dS_app, ap_own, dS_aug, au_val, dS_frz, fr_own, asB_bool, asI_int, items_l, items_t, dn_nil, dn_cons, dn_star, lo_l, lo_d, vk, dn_var, ok_, dn_own, dn_lit, dn_glob, dn_bin, dn_neg, dn_not, dn_cmp, dn_chain, ch_t, ch_f, dn_and, dn_or, dn_ite, an_t, an_f, or_t, or_f, it_t, it_f, dn_tup, dn_list, tup0, tup1, tup2, tup3, lst0, lst1, lst2, lst3, dn_ix, dn_slice, dn_call, call1, call2, call3, call4, call5, rk, dn_callR, dn_b1, dn_b2, dn_isI, dn_isTL, dn_range1, dn_range2, dn_zip, b1_len_l, b1_len_t, b1_tup_l, b1_tup_t, b1_list_l, b1_list_t, b1_int, not_b, neg_i, cmp_lt, cmp_le, cmp_gt, cmp_ge, cmp_is, cmp_isnot, cmp_eqi, cmp_nei, bin_add, bin_sub, zip_t, zip_l, dn_comp, dS_for, bnd_ret, bnd_bnd, fn_eq, fnR_eq, List.map_cons, List.map_nil, List.cons_append, List.nil_append, List.append_nil, List.length_cons, List.length_nil, List.replicate_succ, List.replicate_zero, Nat.sub_self, Nat.reduceAdd, Nat.reduceSub, Nat.zero_add, List.set_cons_zero, List.set_cons_succ, List.getElem?_cons_zero, List.getElem?_cons_succ, dS_asgT, dS_kill, be_nm, be_tup, be_nil, be_cons, dn_b2, none_opt, Option.isNone_none, Bool.not_true]
    show _ = ret (O.nx [x0, x1, .own ((f.set k (getL f k)).map optD), x3, x4, .val (optD right), .val (.int (k : Int)), .val (optD none)])
    rw [hset]
  | some l =>
    cases hv : getL f k with
    | none =>
      simp -implicitDefEqProofs only [wipeE, Tg.slots, k_nx, k_rt, e_nx, e_rt, br_t, br_f, dS_nil, dS_seq, dS_nm, own_list, dS_newL, dS_par, sl_f, sl_t, dS_ite, dS_ret, dS_expr, dS_app, ap_own, dS_aug, au_val, dS_frz, fr_own, asB_bool, asI_int, items_l, items_t, dn_nil, dn_cons, dn_star, lo_l, lo_d, vk, dn_var, ok_, dn_own, dn_lit, dn_glob, dn_bin, dn_neg, dn_not, dn_cmp, dn_chain, ch_t, ch_f, dn_and, dn_or, dn_ite, an_t, an_f, or_t, or_f, it_t, it_f, dn_tup, dn_list, tup0, tup1, tup2, tup3, lst0, lst1, lst2, lst3, dn_ix, dn_slice, dn_call, call1, call2, call3, call4, call5, rk, dn_callR, dn_b1, dn_b2, dn_isI, dn_isTL, dn_range1, dn_range2, dn_zip, b1_len_l, b1_len_t, b1_tup_l, b1_tup_t, b1_list_l, b1_list_t, b1_int, not_b, neg_i, cmp_lt, cmp_le, cmp_gt, cmp_ge, cmp_is, cmp_isnot, cmp_eqi, cmp_nei, bin_add, bin_sub, zip_t, zip_l, dn_comp, dS_for, bnd_ret, bnd_bnd, fn_eq, fnR_eq, List.map_cons, List.map_nil, List.cons_append, List.nil_append, List.append_nil, List.length_cons, List.length_nil, List.replicate_succ, List.replicate_zero, Nat.sub_self, Nat.reduceAdd, Nat.reduceSub, Nat.zero_add, List.set_cons_zero, List.set_cons_succ, List.getElem?_cons_zero, List.getElem?_cons_succ, dS_asgT, dS_kill, be_nm, be_tup, be_nil, be_cons, dn_b2, none_opt, Option.isNone_some, Bool.not_false, ix_own hk, hv, Option.isNone_none, Bool.not_true]
      show _ = ret (O.nx [x0, x1, .own ((f.set k none).map optD), x3, x4, .val (optD right), .val (.int (k : Int)), .val (optD (some l))])
      rw [← hv, hset]
    | some v =>
      cases right with
      | none =>
        simp -implicitDefEqProofs only [wipeE, Tg.slots, k_nx, k_rt, e_nx, e_rt, br_t, br_f, dS_nil, dS_seq, dS_nm, own_list, dS_newL, dS_par, sl_f, sl_t, dS_ite, dS_ret, dS_expr, dS_app, ap_own, dS_aug, au_val, dS_frz, fr_own, asB_bool, asI_int, items_l, items_t, dn_nil, dn_cons, dn_star, lo_l, lo_d, vk, dn_var, ok_, dn_own, dn_lit, dn_glob, dn_bin, dn_neg, dn_not, dn_cmp, dn_chain, ch_t, ch_f, dn_and, dn_or, dn_ite, an_t, an_f, or_t, or_f, it_t, it_f, dn_tup, dn_list, tup0, tup1, tup2, tup3, lst0, lst1, lst2, lst3, dn_ix, dn_slice, dn_call, call1, call2, call3, call4, call5, rk, dn_callR, dn_b1, dn_b2, dn_isI, dn_isTL, dn_range1, dn_range2, dn_zip, b1_len_l, b1_len_t, b1_tup_l, b1_tup_t, b1_list_l, b1_list_t, b1_int, not_b, neg_i, cmp_lt, cmp_le, cmp_gt, cmp_ge, cmp_is, cmp_isnot, cmp_eqi, cmp_nei, bin_add, bin_sub, zip_t, zip_l, dn_comp, dS_for, bnd_ret, bnd_bnd, fn_eq, fnR_eq, List.map_cons, List.map_nil, List.cons_append, List.nil_append, List.append_nil, List.length_cons, List.length_nil, List.replicate_succ, List.replicate_zero, Nat.sub_self, Nat.reduceAdd, Nat.reduceSub, Nat.zero_add, List.set_cons_zero, List.set_cons_succ, List.getElem?_cons_zero, List.getElem?_cons_succ, dS_asgT, dS_kill, be_nm, be_tup, be_nil, be_cons, dn_b2, none_opt, Option.isNone_some, Bool.not_false, ix_own hk, hv, Option.isNone_none]
        rw [setIx_ok (k := k) (d := .none) rfl rfl rfl hkl]
        simp -implicitDefEqProofs only [wipeE, Tg.slots, k_nx, k_rt, e_nx, e_rt, br_t, br_f, dS_nil, dS_seq, dS_nm, own_list, dS_newL, dS_par, sl_f, sl_t, dS_ite, dS_ret, dS_expr, dS_app, ap_own, dS_aug, au_val, dS_frz, fr_own, asB_bool, asI_int, items_l, items_t, dn_nil, dn_cons, dn_star, lo_l, lo_d, vk, dn_var, ok_, dn_own, dn_lit, dn_glob, dn_bin, dn_neg, dn_not, dn_cmp, dn_chain, ch_t, ch_f, dn_and, dn_or, dn_ite, an_t, an_f, or_t, or_f, it_t, it_f, dn_tup, dn_list, tup0, tup1, tup2, tup3, lst0, lst1, lst2, lst3, dn_ix, dn_slice, dn_call, call1, call2, call3, call4, call5, rk, dn_callR, dn_b1, dn_b2, dn_isI, dn_isTL, dn_range1, dn_range2, dn_zip, b1_len_l, b1_len_t, b1_tup_l, b1_tup_t, b1_list_l, b1_list_t, b1_int, not_b, neg_i, cmp_lt, cmp_le, cmp_gt, cmp_ge, cmp_is, cmp_isnot, cmp_eqi, cmp_nei, bin_add, bin_sub, zip_t, zip_l, dn_comp, dS_for, bnd_ret, bnd_bnd, fn_eq, fnR_eq, List.map_cons, List.map_nil, List.cons_append, List.nil_append, List.append_nil, List.length_cons, List.length_nil, List.replicate_succ, List.replicate_zero, Nat.sub_self, Nat.reduceAdd, Nat.reduceSub, Nat.zero_add, List.set_cons_zero, List.set_cons_succ, List.getElem?_cons_zero, List.getElem?_cons_succ, dS_asgT, dS_kill, be_nm, be_tup, be_nil, be_cons, dn_b2]
        rw [show (PyData.none) = optD none from rfl, set_opt]
        rfl
      | some r =>
        simp -implicitDefEqProofs only [wipeE, Tg.slots, k_nx, k_rt, e_nx, e_rt, br_t, br_f, dS_nil, dS_seq, dS_nm, own_list, dS_newL, dS_par, sl_f, sl_t, dS_ite, dS_ret, dS_expr, dS_app, ap_own, dS_aug, au_val, dS_frz, fr_own, asB_bool, asI_int, items_l, items_t, dn_nil, dn_cons, dn_star, lo_l, lo_d, vk, dn_var, ok_, dn_own, dn_lit, dn_glob, dn_bin, dn_neg, dn_not, dn_cmp, dn_chain, ch_t, ch_f, dn_and, dn_or, dn_ite, an_t, an_f, or_t, or_f, it_t, it_f, dn_tup, dn_list, tup0, tup1, tup2, tup3, lst0, lst1, lst2, lst3, dn_ix, dn_slice, dn_call, call1, call2, call3, call4, call5, rk, dn_callR, dn_b1, dn_b2, dn_isI, dn_isTL, dn_range1, dn_range2, dn_zip, b1_len_l, b1_len_t, b1_tup_l, b1_tup_t, b1_list_l, b1_list_t, b1_int, not_b, neg_i, cmp_lt, cmp_le, cmp_gt, cmp_ge, cmp_is, cmp_isnot, cmp_eqi, cmp_nei, bin_add, bin_sub, zip_t, zip_l, dn_comp, dS_for, bnd_ret, bnd_bnd, fn_eq, fnR_eq, List.map_cons, List.map_nil, List.cons_append, List.nil_append, List.append_nil, List.length_cons, List.length_nil, List.replicate_succ, List.replicate_zero, Nat.sub_self, Nat.reduceAdd, Nat.reduceSub, Nat.zero_add, List.set_cons_zero, List.set_cons_succ, List.getElem?_cons_zero, List.getElem?_cons_succ, dS_asgT, dS_kill, be_nm, be_tup, be_nil, be_cons, dn_b2, isNone, Bool.not_false, ix_own hk, hv, show optD (some r) = .int r from rfl, show optD (some l) = .int l from rfl, show optD (some v) = .int v from rfl]
        by_cases h : r - l < v
        · simp -implicitDefEqProofs only [wipeE, Tg.slots, k_nx, k_rt, e_nx, e_rt, br_t, br_f, dS_nil, dS_seq, dS_nm, own_list, dS_newL, dS_par, sl_f, sl_t, dS_ite, dS_ret, dS_expr, dS_app, ap_own, dS_aug, au_val, dS_frz, fr_own, asB_bool, asI_int, items_l, items_t, dn_nil, dn_cons, dn_star, lo_l, lo_d, vk, dn_var, ok_, dn_own, dn_lit, dn_glob, dn_bin, dn_neg, dn_not, dn_cmp, dn_chain, ch_t, ch_f, dn_and, dn_or, dn_ite, an_t, an_f, or_t, or_f, it_t, it_f, dn_tup, dn_list, tup0, tup1, tup2, tup3, lst0, lst1, lst2, lst3, dn_ix, dn_slice, dn_call, call1, call2, call3, call4, call5, rk, dn_callR, dn_b1, dn_b2, dn_isI, dn_isTL, dn_range1, dn_range2, dn_zip, b1_len_l, b1_len_t, b1_tup_l, b1_tup_t, b1_list_l, b1_list_t, b1_int, not_b, neg_i, cmp_lt, cmp_le, cmp_gt, cmp_ge, cmp_is, cmp_isnot, cmp_eqi, cmp_nei, bin_add, bin_sub, zip_t, zip_l, dn_comp, dS_for, bnd_ret, bnd_bnd, fn_eq, fnR_eq, List.map_cons, List.map_nil, List.cons_append, List.nil_append, List.append_nil, List.length_cons, List.length_nil, List.replicate_succ, List.replicate_zero, Nat.sub_self, Nat.reduceAdd, Nat.reduceSub, Nat.zero_add, List.set_cons_zero, List.set_cons_succ, List.getElem?_cons_zero, List.getElem?_cons_succ, dS_asgT, dS_kill, be_nm, be_tup, be_nil, be_cons, dn_b2, decide_eq_true h]
          rw [setIx_ok (k := k) (d := .int (r - l)) rfl rfl rfl hkl]
          simp -implicitDefEqProofs only [wipeE, Tg.slots, k_nx, k_rt, e_nx, e_rt, br_t, br_f, dS_nil, dS_seq, dS_nm, own_list, dS_newL, dS_par, sl_f, sl_t, dS_ite, dS_ret, dS_expr, dS_app, ap_own, dS_aug, au_val, dS_frz, fr_own, asB_bool, asI_int, items_l, items_t, dn_nil, dn_cons, dn_star, lo_l, lo_d, vk, dn_var, ok_, dn_own, dn_lit, dn_glob, dn_bin, dn_neg, dn_not, dn_cmp, dn_chain, ch_t, ch_f, dn_and, dn_or, dn_ite, an_t, an_f, or_t, or_f, it_t, it_f, dn_tup, dn_list, tup0, tup1, tup2, tup3, lst0, lst1, lst2, lst3, dn_ix, dn_slice, dn_call, call1, call2, call3, call4, call5, rk, dn_callR, dn_b1, dn_b2, dn_isI, dn_isTL, dn_range1, dn_range2, dn_zip, b1_len_l, b1_len_t, b1_tup_l, b1_tup_t, b1_list_l, b1_list_t, b1_int, not_b, neg_i, cmp_lt, cmp_le, cmp_gt, cmp_ge, cmp_is, cmp_isnot, cmp_eqi, cmp_nei, bin_add, bin_sub, zip_t, zip_l, dn_comp, dS_for, bnd_ret, bnd_bnd, fn_eq, fnR_eq, List.map_cons, List.map_nil, List.cons_append, List.nil_append, List.append_nil, List.length_cons, List.length_nil, List.replicate_succ, List.replicate_zero, Nat.sub_self, Nat.reduceAdd, Nat.reduceSub, Nat.zero_add, List.set_cons_zero, List.set_cons_succ, List.getElem?_cons_zero, List.getElem?_cons_succ, dS_asgT, dS_kill, be_nm, be_tup, be_nil, be_cons, dn_b2]
          rw [show PyData.int (r - l) = optD (some (r - l)) from rfl, set_opt]
          show _ = ret (O.nx [x0, x1, .own ((f.set k (some (if r - l < v then r - l else v))).map optD), x3, x4, .val (.int r), .val (.int (k : Int)), .val (.int l)])
          rw [if_pos h]
        · simp -implicitDefEqProofs only [wipeE, Tg.slots, k_nx, k_rt, e_nx, e_rt, br_t, br_f, dS_nil, dS_seq, dS_nm, own_list, dS_newL, dS_par, sl_f, sl_t, dS_ite, dS_ret, dS_expr, dS_app, ap_own, dS_aug, au_val, dS_frz, fr_own, asB_bool, asI_int, items_l, items_t, dn_nil, dn_cons, dn_star, lo_l, lo_d, vk, dn_var, ok_, dn_own, dn_lit, dn_glob, dn_bin, dn_neg, dn_not, dn_cmp, dn_chain, ch_t, ch_f, dn_and, dn_or, dn_ite, an_t, an_f, or_t, or_f, it_t, it_f, dn_tup, dn_list, tup0, tup1, tup2, tup3, lst0, lst1, lst2, lst3, dn_ix, dn_slice, dn_call, call1, call2, call3, call4, call5, rk, dn_callR, dn_b1, dn_b2, dn_isI, dn_isTL, dn_range1, dn_range2, dn_zip, b1_len_l, b1_len_t, b1_tup_l, b1_tup_t, b1_list_l, b1_list_t, b1_int, not_b, neg_i, cmp_lt, cmp_le, cmp_gt, cmp_ge, cmp_is, cmp_isnot, cmp_eqi, cmp_nei, bin_add, bin_sub, zip_t, zip_l, dn_comp, dS_for, bnd_ret, bnd_bnd, fn_eq, fnR_eq, List.map_cons, List.map_nil, List.cons_append, List.nil_append, List.append_nil, List.length_cons, List.length_nil, List.replicate_succ, List.replicate_zero, Nat.sub_self, Nat.reduceAdd, Nat.reduceSub, Nat.zero_add, List.set_cons_zero, List.set_cons_succ, List.getElem?_cons_zero, List.getElem?_cons_succ, dS_asgT, dS_kill, be_nm, be_tup, be_nil, be_cons, dn_b2, decide_eq_false h]
          show _ = ret (O.nx [x0, x1, .own ((f.set k (some (if r - l < v then r - l else v))).map optD), x3, x4, .val (.int r), .val (.int (k : Int)), .val (.int l)])
          rw [if_neg h, ← hv, hset]
theorem held_row {f0 a : List La} {right : La} (ha : a.length = f0.length) {x0 x1 x3 x4 : Sl} (x6 x7 : Sl) :
    ∃ y6 y7, forE (.tup (.tcons (.nm 6) (.tcons (.nm 7) .tnil))) heldB [x0, x1, .own (f0.map optD), x3, x4, .val (optD right), x6, x7] (enumD (a.map optD)) =
      ret (.nx [x0, x1, .own ((lower right a f0).map optD), x3, x4, .val (optD right), y6, y7]) := by
  rw [enum_enc]
  have hlen : ((List.range a.length).zip a).length = a.length := by rw [List.length_zip, List.length_range, Nat.min_self]
  obtain ⟨ρ', e, f, y6, y7, e2, hl, hg⟩ := for_at (t := .tup (.tcons (.nm 6) (.tcons (.nm 7) .tnil))) (B := heldB) (enc := fun p : Nat × La => PyData.tuple [.int (p.1 : Int), optD p.2]) (L := (List.range a.length).zip a)
    (fun k ρ => ∃ (f : List La) (y6 y7 : Sl), ρ = [x0, x1, .own (f.map optD), x3, x4, .val (optD right), y6, y7] ∧ f.length = f0.length ∧ ∀ i, i < f0.length → getL f i = if i < k then lowEl right (getL a i) (getL f0 i) else getL f0 i)
    (fun k x ρ hx ⟨f, y6, y7, e, hl, hg⟩ => by
      subst e
      have hk : k < a.length := by rw [← hlen]; exact (List.getElem?_eq_some_iff.mp hx).1
      have hx' : x = (k, getL a k) := by
        rw [List.zip, List.getElem?_zipWith, List.getElem?_range hk, List.getElem?_eq_getElem hk] at hx
        have q := (Option.some.inj hx).symm
        rw [q]
        unfold getL
        rw [List.getElem?_eq_getElem hk]
        rfl
      subst hx'
      refine ⟨_, held_one (by omega), _, _, _, rfl, by rw [List.length_set, hl], fun i hi => ?_⟩
      rw [getL_set (by omega)]
      by_cases e : i = k
      · subst e
        rw [if_pos rfl, if_pos (by omega), hg i hi, if_neg (by omega)]
      · rw [if_neg e, hg i hi]
        by_cases h : i < k
        · rw [if_pos h, if_pos (by omega)]
        · rw [if_neg h, if_neg (by omega)])
    a.length 0 [x0, x1, .own (f0.map optD), x3, x4, .val (optD right), x6, x7] (by rw [hlen, Nat.zero_add]) ⟨f0, x6, x7, rfl, rfl, fun i _ => by rw [if_neg (Nat.not_lt_zero _)]⟩
  subst e2
  refine ⟨y6, y7, ?_⟩
  rw [List.drop_zero] at e
  rw [e]
  have ef : f = lower right a f0 := by
    refine ext_getL (by unfold lower; rw [List.length_zipWith, ha, Nat.min_self, hl]) fun i hi => ?_
    rw [hl] at hi
    rw [hg i hi, if_pos (by rw [hlen]; omega)]
    unfold lower
    rw [getL_zip (by omega) hi]
  rw [ef]
theorem held_pair {p : List La × List La} {x f : List La} (hp : p.1.length = f.length) {x0 y3 y4 y5 y6 y7 : Sl} :
    ∃ z3 z4 z5 z6 z7, forK (.tup (.tcons (.nm 3) (.tcons (.nm 4) .tnil))) (.seq (.asg (.nm 5) (.call "sum_of" 2 f_sum_of (.cons (.var 4) (.cons (.var 1) .nil)))) (.seq (.for_ (.tup (.tcons (.nm 6) (.tcons (.nm 7) .tnil))) (.enum (.var 3)) heldB) .nil)) (pairD p) [x0, .val (rowD x), .own (f.map optD), y3, y4, y5, y6, y7] =
      ret (.nx [x0, .val (rowD x), .own ((lower (sumOf p.2 x) p.1 f).map optD), z3, z4, z5, z6, z7]) := by
  obtain ⟨w6, w7, e⟩ := held_row (right := sumOf p.2 x) hp (x0 := x0) (x1 := .val (rowD x)) (x3 := .val (rowD p.1)) (x4 := .val (rowD p.2)) y6 y7
  refine ⟨.val (rowD p.1), .val (rowD p.2), .val (optD (sumOf p.2 x)), w6, w7, ?_⟩
  unfold forK
  show denS _ [x0, .val (rowD x), .own (f.map optD), .val (rowD p.1), .val (rowD p.2), y5, y6, y7] = _
  simp -implicitDefEqProofs only [wipeE, Tg.slots, k_nx, k_rt, e_nx, e_rt, br_t, br_f, dS_nil, dS_seq, dS_nm, own_list, dS_newL, dS_par, sl_f, sl_t, dS_ite, dS_ret, dS_expr, dS_app, ap_own, dS_aug, au_val, dS_frz, fr_own, asB_bool, asI_int, items_l, items_t, dn_nil, dn_cons, dn_star, lo_l, lo_d, vk, dn_var, ok_, dn_own, dn_lit, dn_glob, dn_bin, dn_neg, dn_not, dn_cmp, dn_chain, ch_t, ch_f, dn_and, dn_or, dn_ite, an_t, an_f, or_t, or_f, it_t, it_f, dn_tup, dn_list, tup0, tup1, tup2, tup3, lst0, lst1, lst2, lst3, dn_ix, dn_slice, dn_call, call1, call2, call3, call4, call5, rk, dn_callR, dn_b1, dn_b2, dn_isI, dn_isTL, dn_range1, dn_range2, dn_zip, b1_len_l, b1_len_t, b1_tup_l, b1_tup_t, b1_list_l, b1_list_t, b1_int, not_b, neg_i, cmp_lt, cmp_le, cmp_gt, cmp_ge, cmp_is, cmp_isnot, cmp_eqi, cmp_nei, bin_add, bin_sub, zip_t, zip_l, dn_comp, dS_for, bnd_ret, bnd_bnd, fn_eq, fnR_eq, List.map_cons, List.map_nil, List.cons_append, List.nil_append, List.append_nil, List.length_cons, List.length_nil, List.replicate_succ, List.replicate_zero, Nat.sub_self, Nat.reduceAdd, Nat.reduceSub, Nat.zero_add, List.set_cons_zero, List.set_cons_succ, List.getElem?_cons_zero, List.getElem?_cons_succ, dS_asgT, dS_kill, be_nm, be_tup, be_nil, be_cons, dn_b2, m_sum_of, dn_enum, items_row]
  rw [e]
  simp -implicitDefEqProofs only [wipeE, Tg.slots, k_nx, k_rt, e_nx, e_rt, br_t, br_f, dS_nil, dS_seq, dS_nm, own_list, dS_newL, dS_par, sl_f, sl_t, dS_ite, dS_ret, dS_expr, dS_app, ap_own, dS_aug, au_val, dS_frz, fr_own, asB_bool, asI_int, items_l, items_t, dn_nil, dn_cons, dn_star, lo_l, lo_d, vk, dn_var, ok_, dn_own, dn_lit, dn_glob, dn_bin, dn_neg, dn_not, dn_cmp, dn_chain, ch_t, ch_f, dn_and, dn_or, dn_ite, an_t, an_f, or_t, or_f, it_t, it_f, dn_tup, dn_list, tup0, tup1, tup2, tup3, lst0, lst1, lst2, lst3, dn_ix, dn_slice, dn_call, call1, call2, call3, call4, call5, rk, dn_callR, dn_b1, dn_b2, dn_isI, dn_isTL, dn_range1, dn_range2, dn_zip, b1_len_l, b1_len_t, b1_tup_l, b1_tup_t, b1_list_l, b1_list_t, b1_int, not_b, neg_i, cmp_lt, cmp_le, cmp_gt, cmp_ge, cmp_is, cmp_isnot, cmp_eqi, cmp_nei, bin_add, bin_sub, zip_t, zip_l, dn_comp, dS_for, bnd_ret, bnd_bnd, fn_eq, fnR_eq, List.map_cons, List.map_nil, List.cons_append, List.nil_append, List.append_nil, List.length_cons, List.length_nil, List.replicate_succ, List.replicate_zero, Nat.sub_self, Nat.reduceAdd, Nat.reduceSub, Nat.zero_add, List.set_cons_zero, List.set_cons_succ, List.getElem?_cons_zero, List.getElem?_cons_succ, dS_asgT, dS_kill, be_nm, be_tup, be_nil, be_cons, dn_b2]
theorem b1_maxc {α : Type} (c : Int) (f : α → Int) (xs : List α) : b1D .max (.list (PyData.int c :: xs.map fun x => PyData.int (f x))) = ret (.int (maxI (c :: xs.map f))) := by
  show (match intsOf (PyData.int c :: xs.map fun x => PyData.int (f x)) with | some (n :: ns) => (ret (.int (maxI (n :: ns))) : M D) | _ => bad) = _
  rw [show intsOf (PyData.int c :: xs.map fun x => PyData.int (f x)) = some (c :: xs.map f) by rw [intsOf, ints_map]; rfl]
abbrev reachB : S := .seq (.asg (.nm 4) (.comp (.b1 .abs (.var 5)) (.nm 5) (.tup (.star (.var 2) (.star (.var 3) .nil))) (.cmp .isnot (.var 5) (.lit .none)))) (.seq (.asg (.nm 1) (.b1 .max (.list (.cons (.var 1) (.star (.var 4) .nil))))) .nil)
theorem abs_comp {r : List La} {x0 x1 x2 x3 x4 x5 : Sl} : compK (.b1 .abs (.var 5)) (.nm 5) (.cmp .isnot (.var 5) (.lit .none)) [x0, x1, x2, x3, x4, x5] (r.map optD) = ret (.list ((r.filter Option.isSome).map fun x => PyData.int (absI (x.getD 0)))) :=
  cmpFil (enc := optD) (g := fun x : La => PyData.int (absI (x.getD 0))) (p := Option.isSome) fun a _ => ⟨[x0, x1, x2, x3, x4, .val (optD a)], rfl, by
    simp -implicitDefEqProofs only [wipeE, Tg.slots, k_nx, k_rt, e_nx, e_rt, br_t, br_f, dS_nil, dS_seq, dS_nm, own_list, dS_newL, dS_par, sl_f, sl_t, dS_ite, dS_ret, dS_expr, dS_app, ap_own, dS_aug, au_val, dS_frz, fr_own, asB_bool, asI_int, items_l, items_t, dn_nil, dn_cons, dn_star, lo_l, lo_d, vk, dn_var, ok_, dn_own, dn_lit, dn_glob, dn_bin, dn_neg, dn_not, dn_cmp, dn_chain, ch_t, ch_f, dn_and, dn_or, dn_ite, an_t, an_f, or_t, or_f, it_t, it_f, dn_tup, dn_list, tup0, tup1, tup2, tup3, lst0, lst1, lst2, lst3, dn_ix, dn_slice, dn_call, call1, call2, call3, call4, call5, rk, dn_callR, dn_b1, dn_b2, dn_isI, dn_isTL, dn_range1, dn_range2, dn_zip, b1_len_l, b1_len_t, b1_tup_l, b1_tup_t, b1_list_l, b1_list_t, b1_int, not_b, neg_i, cmp_lt, cmp_le, cmp_gt, cmp_ge, cmp_is, cmp_isnot, cmp_eqi, cmp_nei, bin_add, bin_sub, zip_t, zip_l, dn_comp, dS_for, bnd_ret, bnd_bnd, fn_eq, fnR_eq, List.map_cons, List.map_nil, List.cons_append, List.nil_append, List.append_nil, List.length_cons, List.length_nil, List.replicate_succ, List.replicate_zero, Nat.sub_self, Nat.reduceAdd, Nat.reduceSub, Nat.zero_add, List.set_cons_zero, List.set_cons_succ, List.getElem?_cons_zero, List.getElem?_cons_succ, dS_asgT, dS_kill, be_nm, be_tup, be_nil, be_cons, dn_b2, none_opt]
    cases a <;> rfl, fun h => by
    cases a with
    | none => cases h
    | some i => rfl⟩
theorem reach_one {p : List La × List La} {far : Int} (h1 : p.1.length ≤ 1000) (h2 : p.2.length ≤ 1000) {x0 y2 y3 y4 y5 : Sl} :
    ∃ z2 z3 z4, forK (.tup (.tcons (.nm 2) (.tcons (.nm 3) .tnil))) reachB (pairD p) [x0, .val (.int far), y2, y3, y4, y5] = ret (.nx [x0, .val (.int (maxI (far :: pairFar p))), z2, z3, z4, y5]) := by
  refine ⟨.val (rowD p.1), .val (rowD p.2), .val (.list (((p.1 ++ p.2).filter Option.isSome).map fun x => PyData.int (absI (x.getD 0)))), ?_⟩
  unfold forK
  show denS reachB [x0, .val (.int far), .val (rowD p.1), .val (rowD p.2), y4, y5] = _
  have l1 : ((p.1 ++ p.2).map optD).length ≤ sizeLine := by
    rw [List.length_map, List.length_append]
    exact Nat.le_trans (Nat.add_le_add h1 h2) (by decide)
  have l2 : (PyData.int far :: ((p.1 ++ p.2).filter Option.isSome).map fun x => PyData.int (absI (x.getD 0))).length ≤ sizeLine := by
    rw [List.length_cons, List.length_map]
    refine Nat.le_trans (Nat.succ_le_succ (Nat.le_trans (List.length_filter_le ..) (by rw [List.length_append]; exact Nat.add_le_add h1 h2))) (by decide)
  unfold reachB
  simp -implicitDefEqProofs only [wipeE, Tg.slots, k_nx, k_rt, e_nx, e_rt, br_t, br_f, dS_nil, dS_seq, dS_nm, own_list, dS_newL, dS_par, sl_f, sl_t, dS_ite, dS_ret, dS_expr, dS_app, ap_own, dS_aug, au_val, dS_frz, fr_own, asB_bool, asI_int, items_l, items_t, dn_nil, dn_cons, dn_star, lo_l, lo_d, vk, dn_var, ok_, dn_own, dn_lit, dn_glob, dn_bin, dn_neg, dn_not, dn_cmp, dn_chain, ch_t, ch_f, dn_and, dn_or, dn_ite, an_t, an_f, or_t, or_f, it_t, it_f, dn_tup, dn_list, tup0, tup1, tup2, tup3, lst0, lst1, lst2, lst3, dn_ix, dn_slice, dn_call, call1, call2, call3, call4, call5, rk, dn_callR, dn_b1, dn_b2, dn_isI, dn_isTL, dn_range1, dn_range2, dn_zip, b1_len_l, b1_len_t, b1_tup_l, b1_tup_t, b1_list_l, b1_list_t, b1_int, not_b, neg_i, cmp_lt, cmp_le, cmp_gt, cmp_ge, cmp_is, cmp_isnot, cmp_eqi, cmp_nei, bin_add, bin_sub, zip_t, zip_l, dn_comp, dS_for, bnd_ret, bnd_bnd, fn_eq, fnR_eq, List.map_cons, List.map_nil, List.cons_append, List.nil_append, List.append_nil, List.length_cons, List.length_nil, List.replicate_succ, List.replicate_zero, Nat.sub_self, Nat.reduceAdd, Nat.reduceSub, Nat.zero_add, List.set_cons_zero, List.set_cons_succ, List.getElem?_cons_zero, List.getElem?_cons_succ, dS_asgT, dS_kill, be_nm, be_tup, be_nil, be_cons, dn_b2, items_row, tup_ok l1, ← List.map_append, abs_comp, lst_ok l2, b1_maxc]
  rfl
theorem eq_row {a b : List La} (ha : a.length ≤ 1000) (hb : b.length ≤ 1000) : cmpD .eq (rowD a) (rowD b) = ret (.bool (decide (a = b))) := by
  have e : cmpD .eq (rowD a) (rowD b) = (if SeqAt.shaped (rowD a) && SeqAt.shaped (rowD b) then ret (.bool (PyData.eqv (rowD a) (rowD b))) else bad) := rfl
  rw [e, plain_shaped (plain_row 0 ha) (by decide), plain_shaped (plain_row 0 hb) (by decide), if_pos (by rfl)]
  have e2 : PyData.eqv (rowD a) (rowD b) = PyData.eqvAll (a.map optD) (b.map optD) := rfl
  rw [e2, eqv_all]
theorem ne_row {a b : List La} (ha : a.length ≤ 1000) (hb : b.length ≤ 1000) : cmpD .ne (rowD a) (rowD b) = ret (.bool (!decide (a = b))) := by
  have e : cmpD .ne (rowD a) (rowD b) = (if SeqAt.shaped (rowD a) && SeqAt.shaped (rowD b) then ret (.bool (!PyData.eqv (rowD a) (rowD b))) else bad) := rfl
  rw [e, plain_shaped (plain_row 0 ha) (by decide), plain_shaped (plain_row 0 hb) (by decide), if_pos (by rfl)]
  have e2 : PyData.eqv (rowD a) (rowD b) = PyData.eqvAll (a.map optD) (b.map optD) := rfl
  rw [e2, eqv_all]
theorem some_comp {r : List La} {ρ : Ev} {i : Nat} (h : i < ρ.length) : compK (.var i) (.nm i) (.cmp .isnot (.var i) (.lit .none)) ρ (r.map optD) = ret (.list ((r.filter Option.isSome).map fun a => PyData.int (a.getD 0))) := by
  refine cmpFil (enc := optD) (g := fun a : La => PyData.int (a.getD 0)) (p := Option.isSome) fun a _ => ⟨(wipeE ρ [i]).set i (.val (optD a)), rfl, ?_, fun hp => ?_⟩
  · have e : ((wipeE ρ [i]).set i (.val (optD a)))[i]? = some (.val (optD a)) := by
      rw [List.getElem?_set_self]
      unfold wipeE
      rw [List.length_set]
      exact h
    generalize (wipeE ρ [i]).set i (.val (optD a)) = ρ' at e
    simp -implicitDefEqProofs only [wipeE, Tg.slots, k_nx, k_rt, e_nx, e_rt, br_t, br_f, dS_nil, dS_seq, dS_nm, own_list, dS_newL, dS_par, sl_f, sl_t, dS_ite, dS_ret, dS_expr, dS_app, ap_own, dS_aug, au_val, dS_frz, fr_own, asB_bool, asI_int, items_l, items_t, dn_nil, dn_cons, dn_star, lo_l, lo_d, vk, dn_var, ok_, dn_own, dn_lit, dn_glob, dn_bin, dn_neg, dn_not, dn_cmp, dn_chain, ch_t, ch_f, dn_and, dn_or, dn_ite, an_t, an_f, or_t, or_f, it_t, it_f, dn_tup, dn_list, tup0, tup1, tup2, tup3, lst0, lst1, lst2, lst3, dn_ix, dn_slice, dn_call, call1, call2, call3, call4, call5, rk, dn_callR, dn_b1, dn_b2, dn_isI, dn_isTL, dn_range1, dn_range2, dn_zip, b1_len_l, b1_len_t, b1_tup_l, b1_tup_t, b1_list_l, b1_list_t, b1_int, not_b, neg_i, cmp_lt, cmp_le, cmp_gt, cmp_ge, cmp_is, cmp_isnot, cmp_eqi, cmp_nei, bin_add, bin_sub, zip_t, zip_l, dn_comp, dS_for, bnd_ret, bnd_bnd, fn_eq, fnR_eq, List.map_cons, List.map_nil, List.cons_append, List.nil_append, List.append_nil, List.length_cons, List.length_nil, List.replicate_succ, List.replicate_zero, Nat.sub_self, Nat.reduceAdd, Nat.reduceSub, Nat.zero_add, List.set_cons_zero, List.set_cons_succ, List.getElem?_cons_zero, List.getElem?_cons_succ, dS_asgT, dS_kill, be_nm, be_tup, be_nil, be_cons, dn_b2, e, none_opt]
    cases a <;> rfl
  · have e : ((wipeE ρ [i]).set i (.val (optD a)))[i]? = some (.val (optD a)) := by
      rw [List.getElem?_set_self]
      unfold wipeE
      rw [List.length_set]
      exact h
    generalize (wipeE ρ [i]).set i (.val (optD a)) = ρ' at e
    simp -implicitDefEqProofs only [wipeE, Tg.slots, k_nx, k_rt, e_nx, e_rt, br_t, br_f, dS_nil, dS_seq, dS_nm, own_list, dS_newL, dS_par, sl_f, sl_t, dS_ite, dS_ret, dS_expr, dS_app, ap_own, dS_aug, au_val, dS_frz, fr_own, asB_bool, asI_int, items_l, items_t, dn_nil, dn_cons, dn_star, lo_l, lo_d, vk, dn_var, ok_, dn_own, dn_lit, dn_glob, dn_bin, dn_neg, dn_not, dn_cmp, dn_chain, ch_t, ch_f, dn_and, dn_or, dn_ite, an_t, an_f, or_t, or_f, it_t, it_f, dn_tup, dn_list, tup0, tup1, tup2, tup3, lst0, lst1, lst2, lst3, dn_ix, dn_slice, dn_call, call1, call2, call3, call4, call5, rk, dn_callR, dn_b1, dn_b2, dn_isI, dn_isTL, dn_range1, dn_range2, dn_zip, b1_len_l, b1_len_t, b1_tup_l, b1_tup_t, b1_list_l, b1_list_t, b1_int, not_b, neg_i, cmp_lt, cmp_le, cmp_gt, cmp_ge, cmp_is, cmp_isnot, cmp_eqi, cmp_nei, bin_add, bin_sub, zip_t, zip_l, dn_comp, dS_for, bnd_ret, bnd_bnd, fn_eq, fnR_eq, List.map_cons, List.map_nil, List.cons_append, List.nil_append, List.append_nil, List.length_cons, List.length_nil, List.replicate_succ, List.replicate_zero, Nat.sub_self, Nat.reduceAdd, Nat.reduceSub, Nat.zero_add, List.set_cons_zero, List.set_cons_succ, List.getElem?_cons_zero, List.getElem?_cons_succ, dS_asgT, dS_kill, be_nm, be_tup, be_nil, be_cons, dn_b2, e]
    cases a with
    | none => cases hp
    | some v => rfl
theorem b1_minc {α : Type} (f : α → Int) (xs : List α) (h : xs ≠ []) : b1D .min (.list (xs.map fun x => PyData.int (f x))) = ret (.int (minI (xs.map f))) := by
  cases xs with
  | nil => exact absurd rfl h
  | cons x xs =>
    show (match intsOf ((x :: xs).map fun x => PyData.int (f x)) with | some (n :: ns) => (ret (.int (minI (n :: ns))) : M D) | _ => bad) = _
    rw [ints_map]
    rfl
theorem cut_comp {r : List La} {fl : Int} {ρ : Ev} {i j : Nat} (hi : i < ρ.length) (hij : i ≠ j) (hj : ρ[j]? = some (.val (.int fl))) : compK (.ite (.and (.cmp .isnot (.var i) (.lit .none)) (.cmp .lt (.var i) (.var j))) (.lit .none) (.var i)) (.nm i) (.lit (.bool true)) ρ (r.map optD) = ret (.list (r.map fun a => optD (cutEl fl a))) := by
  refine cmpMap (g := fun a => optD (cutEl fl a)) fun a _ => ⟨(wipeE ρ [i]).set i (.val (optD a)), rfl, rfl, ?_⟩
  have e : ((wipeE ρ [i]).set i (.val (optD a)))[i]? = some (.val (optD a)) := by
    rw [List.getElem?_set_self]
    unfold wipeE
    rw [List.length_set]
    exact hi
  have e2 : ((wipeE ρ [i]).set i (.val (optD a)))[j]? = some (.val (.int fl)) := by
    unfold wipeE
    rw [List.getElem?_set_ne hij]
    show ((wipeE ρ []).set i .no)[j]? = _
    rw [List.getElem?_set_ne hij]
    exact hj
  generalize (wipeE ρ [i]).set i (.val (optD a)) = ρ' at e e2
  simp -implicitDefEqProofs only [wipeE, Tg.slots, k_nx, k_rt, e_nx, e_rt, br_t, br_f, dS_nil, dS_seq, dS_nm, own_list, dS_newL, dS_par, sl_f, sl_t, dS_ite, dS_ret, dS_expr, dS_app, ap_own, dS_aug, au_val, dS_frz, fr_own, asB_bool, asI_int, items_l, items_t, dn_nil, dn_cons, dn_star, lo_l, lo_d, vk, dn_var, ok_, dn_own, dn_lit, dn_glob, dn_bin, dn_neg, dn_not, dn_cmp, dn_chain, ch_t, ch_f, dn_and, dn_or, dn_ite, an_t, an_f, or_t, or_f, it_t, it_f, dn_tup, dn_list, tup0, tup1, tup2, tup3, lst0, lst1, lst2, lst3, dn_ix, dn_slice, dn_call, call1, call2, call3, call4, call5, rk, dn_callR, dn_b1, dn_b2, dn_isI, dn_isTL, dn_range1, dn_range2, dn_zip, b1_len_l, b1_len_t, b1_tup_l, b1_tup_t, b1_list_l, b1_list_t, b1_int, not_b, neg_i, cmp_lt, cmp_le, cmp_gt, cmp_ge, cmp_is, cmp_isnot, cmp_eqi, cmp_nei, bin_add, bin_sub, zip_t, zip_l, dn_comp, dS_for, bnd_ret, bnd_bnd, fn_eq, fnR_eq, List.map_cons, List.map_nil, List.cons_append, List.nil_append, List.append_nil, List.length_cons, List.length_nil, List.replicate_succ, List.replicate_zero, Nat.sub_self, Nat.reduceAdd, Nat.reduceSub, Nat.zero_add, List.set_cons_zero, List.set_cons_succ, List.getElem?_cons_zero, List.getElem?_cons_succ, dS_asgT, dS_kill, be_nm, be_tup, be_nil, be_cons, dn_b2, e, e2, none_opt]
  cases a with
  | none =>
    simp -implicitDefEqProofs only [wipeE, Tg.slots, k_nx, k_rt, e_nx, e_rt, br_t, br_f, dS_nil, dS_seq, dS_nm, own_list, dS_newL, dS_par, sl_f, sl_t, dS_ite, dS_ret, dS_expr, dS_app, ap_own, dS_aug, au_val, dS_frz, fr_own, asB_bool, asI_int, items_l, items_t, dn_nil, dn_cons, dn_star, lo_l, lo_d, vk, dn_var, ok_, dn_own, dn_lit, dn_glob, dn_bin, dn_neg, dn_not, dn_cmp, dn_chain, ch_t, ch_f, dn_and, dn_or, dn_ite, an_t, an_f, or_t, or_f, it_t, it_f, dn_tup, dn_list, tup0, tup1, tup2, tup3, lst0, lst1, lst2, lst3, dn_ix, dn_slice, dn_call, call1, call2, call3, call4, call5, rk, dn_callR, dn_b1, dn_b2, dn_isI, dn_isTL, dn_range1, dn_range2, dn_zip, b1_len_l, b1_len_t, b1_tup_l, b1_tup_t, b1_list_l, b1_list_t, b1_int, not_b, neg_i, cmp_lt, cmp_le, cmp_gt, cmp_ge, cmp_is, cmp_isnot, cmp_eqi, cmp_nei, bin_add, bin_sub, zip_t, zip_l, dn_comp, dS_for, bnd_ret, bnd_bnd, fn_eq, fnR_eq, List.map_cons, List.map_nil, List.cons_append, List.nil_append, List.append_nil, List.length_cons, List.length_nil, List.replicate_succ, List.replicate_zero, Nat.sub_self, Nat.reduceAdd, Nat.reduceSub, Nat.zero_add, List.set_cons_zero, List.set_cons_succ, List.getElem?_cons_zero, List.getElem?_cons_succ, dS_asgT, dS_kill, be_nm, be_tup, be_nil, be_cons, dn_b2, Option.isNone_none, Bool.not_true, e]
    rfl
  | some v =>
    have e : ρ'[i]? = some (.val (.int v)) := e
    simp -implicitDefEqProofs only [wipeE, Tg.slots, k_nx, k_rt, e_nx, e_rt, br_t, br_f, dS_nil, dS_seq, dS_nm, own_list, dS_newL, dS_par, sl_f, sl_t, dS_ite, dS_ret, dS_expr, dS_app, ap_own, dS_aug, au_val, dS_frz, fr_own, asB_bool, asI_int, items_l, items_t, dn_nil, dn_cons, dn_star, lo_l, lo_d, vk, dn_var, ok_, dn_own, dn_lit, dn_glob, dn_bin, dn_neg, dn_not, dn_cmp, dn_chain, ch_t, ch_f, dn_and, dn_or, dn_ite, an_t, an_f, or_t, or_f, it_t, it_f, dn_tup, dn_list, tup0, tup1, tup2, tup3, lst0, lst1, lst2, lst3, dn_ix, dn_slice, dn_call, call1, call2, call3, call4, call5, rk, dn_callR, dn_b1, dn_b2, dn_isI, dn_isTL, dn_range1, dn_range2, dn_zip, b1_len_l, b1_len_t, b1_tup_l, b1_tup_t, b1_list_l, b1_list_t, b1_int, not_b, neg_i, cmp_lt, cmp_le, cmp_gt, cmp_ge, cmp_is, cmp_isnot, cmp_eqi, cmp_nei, bin_add, bin_sub, zip_t, zip_l, dn_comp, dS_for, bnd_ret, bnd_bnd, fn_eq, fnR_eq, List.map_cons, List.map_nil, List.cons_append, List.nil_append, List.append_nil, List.length_cons, List.length_nil, List.replicate_succ, List.replicate_zero, Nat.sub_self, Nat.reduceAdd, Nat.reduceSub, Nat.zero_add, List.set_cons_zero, List.set_cons_succ, List.getElem?_cons_zero, List.getElem?_cons_succ, dS_asgT, dS_kill, be_nm, be_tup, be_nil, be_cons, dn_b2, Option.isNone_some, Bool.not_false, e, e2]
    show _ = ret (optD (if v < fl then none else some v))
    by_cases h : v < fl
    · simp -implicitDefEqProofs only [wipeE, Tg.slots, k_nx, k_rt, e_nx, e_rt, br_t, br_f, dS_nil, dS_seq, dS_nm, own_list, dS_newL, dS_par, sl_f, sl_t, dS_ite, dS_ret, dS_expr, dS_app, ap_own, dS_aug, au_val, dS_frz, fr_own, asB_bool, asI_int, items_l, items_t, dn_nil, dn_cons, dn_star, lo_l, lo_d, vk, dn_var, ok_, dn_own, dn_lit, dn_glob, dn_bin, dn_neg, dn_not, dn_cmp, dn_chain, ch_t, ch_f, dn_and, dn_or, dn_ite, an_t, an_f, or_t, or_f, it_t, it_f, dn_tup, dn_list, tup0, tup1, tup2, tup3, lst0, lst1, lst2, lst3, dn_ix, dn_slice, dn_call, call1, call2, call3, call4, call5, rk, dn_callR, dn_b1, dn_b2, dn_isI, dn_isTL, dn_range1, dn_range2, dn_zip, b1_len_l, b1_len_t, b1_tup_l, b1_tup_t, b1_list_l, b1_list_t, b1_int, not_b, neg_i, cmp_lt, cmp_le, cmp_gt, cmp_ge, cmp_is, cmp_isnot, cmp_eqi, cmp_nei, bin_add, bin_sub, zip_t, zip_l, dn_comp, dS_for, bnd_ret, bnd_bnd, fn_eq, fnR_eq, List.map_cons, List.map_nil, List.cons_append, List.nil_append, List.append_nil, List.length_cons, List.length_nil, List.replicate_succ, List.replicate_zero, Nat.sub_self, Nat.reduceAdd, Nat.reduceSub, Nat.zero_add, List.set_cons_zero, List.set_cons_succ, List.getElem?_cons_zero, List.getElem?_cons_succ, dS_asgT, dS_kill, be_nm, be_tup, be_nil, be_cons, dn_b2, decide_eq_true h]
      rw [if_pos h]
      rfl
    · simp -implicitDefEqProofs only [wipeE, Tg.slots, k_nx, k_rt, e_nx, e_rt, br_t, br_f, dS_nil, dS_seq, dS_nm, own_list, dS_newL, dS_par, sl_f, sl_t, dS_ite, dS_ret, dS_expr, dS_app, ap_own, dS_aug, au_val, dS_frz, fr_own, asB_bool, asI_int, items_l, items_t, dn_nil, dn_cons, dn_star, lo_l, lo_d, vk, dn_var, ok_, dn_own, dn_lit, dn_glob, dn_bin, dn_neg, dn_not, dn_cmp, dn_chain, ch_t, ch_f, dn_and, dn_or, dn_ite, an_t, an_f, or_t, or_f, it_t, it_f, dn_tup, dn_list, tup0, tup1, tup2, tup3, lst0, lst1, lst2, lst3, dn_ix, dn_slice, dn_call, call1, call2, call3, call4, call5, rk, dn_callR, dn_b1, dn_b2, dn_isI, dn_isTL, dn_range1, dn_range2, dn_zip, b1_len_l, b1_len_t, b1_tup_l, b1_tup_t, b1_list_l, b1_list_t, b1_int, not_b, neg_i, cmp_lt, cmp_le, cmp_gt, cmp_ge, cmp_is, cmp_isnot, cmp_eqi, cmp_nei, bin_add, bin_sub, zip_t, zip_l, dn_comp, dS_for, bnd_ret, bnd_bnd, fn_eq, fnR_eq, List.map_cons, List.map_nil, List.cons_append, List.nil_append, List.append_nil, List.length_cons, List.length_nil, List.replicate_succ, List.replicate_zero, Nat.sub_self, Nat.reduceAdd, Nat.reduceSub, Nat.zero_add, List.set_cons_zero, List.set_cons_succ, List.getElem?_cons_zero, List.getElem?_cons_succ, dS_asgT, dS_kill, be_nm, be_tup, be_nil, be_cons, dn_b2, decide_eq_false h, e]
      rw [if_neg h]
      rfl
theorem ix_last {l : List (List La)} {x : List La} : ixD (.list ((l ++ [x]).map rowD)) (.int (-1)) = ret (rowD x) := by
  show (match L2.atI ((l ++ [x]).map rowD) (-1) with | some d => (ret d : M D) | none => bad) = _
  rw [List.map_append, List.map_singleton, L2.atI_last]
theorem in_none {l : List La} (h : l.length ≤ 1000) : cmpD .in_ .none (.list (l.map optD)) = ret (.bool (l.any Option.isNone)) := by
  have hp : plain 1 (.list (l.map optD)) := ⟨by rw [List.length_map]; exact h, fun x hx => by
    obtain ⟨a, _, rfl⟩ := List.mem_map.mp hx
    exact plain_opt 0 a⟩
  have e : cmpD .in_ .none (.list (l.map optD)) = (if SeqAt.shaped .none && SeqAt.shaped (.list (l.map optD)) then ret (.bool ((l.map optD).any fun z => PyData.eqv z .none)) else bad) := rfl
  rw [e, plain_shaped hp (by decide), if_pos (by decide), List.any_map]
  have ef : ((fun z => PyData.eqv z .none) ∘ optD) = Option.isNone := by
    funext a
    cases a <;> rfl
  rw [ef]
theorem min_lags {l : List La} (h : none ∉ l) (hn : l ≠ []) : b1D .min (.list (l.map optD)) = ret (.int (minI (l.map fun a => a.getD 0))) := by
  have e : l.map optD = l.map fun a => PyData.int (a.getD 0) := List.map_congr_left fun a ha => by
    cases a with
    | none => exact absurd ha h
    | some v => rfl
  rw [e]
  exact b1_minc _ _ hn
abbrev lagB : S := .seq (.ite (.cmp .isnot (.ix (.ix (.var 0) (.var 5)) (.var 3)) (.lit .none)) (.seq (.app 4 (.ite (.cmp .is_ (.ix (.var 1) (.var 5)) (.lit .none)) (.lit .none) (.bin .sub (.ix (.var 1) (.var 5)) (.ix (.ix (.var 0) (.var 5)) (.var 3))))) .nil) .nil) .nil
theorem lag_one {t : List (List La)} {g l r : List La} {k s : Nat} {x2 x5 : Sl} (hr : t[s]? = some r) (hk : k < r.length) (hs : s < g.length) (hl : l.length < 1000) :
    forK (.nm 5) lagB (.int (s : Int)) [.val (tabD t), .val (rowD g), x2, .val (.int (k : Int)), .own (l.map optD), x5] =
      ret (.nx [.val (tabD t), .val (rowD g), x2, .val (.int (k : Int)), .own ((l ++ lagsGo [(getL r k, getL g s)]).map optD), .val (.int (s : Int))]) := by
  unfold forK
  show denS lagB [.val (tabD t), .val (rowD g), x2, .val (.int (k : Int)), .own (l.map optD), .val (.int (s : Int))] = _
  have e1 := getD_ok hk
  have e2 := getD_ok hs
  have hp : (l.map optD).length < sizeLine := by rw [List.length_map]; exact Nat.lt_of_lt_of_le hl (by decide)
  unfold lagB getL
  generalize (r[k]?).getD none = c at e1
  generalize (g[s]?).getD none = d at e2
  cases c with
  | none =>
    simp -implicitDefEqProofs only [wipeE, Tg.slots, k_nx, k_rt, e_nx, e_rt, br_t, br_f, dS_nil, dS_seq, dS_nm, own_list, dS_newL, dS_par, sl_f, sl_t, dS_ite, dS_ret, dS_expr, dS_app, ap_own, dS_aug, au_val, dS_frz, fr_own, asB_bool, asI_int, items_l, items_t, dn_nil, dn_cons, dn_star, lo_l, lo_d, vk, dn_var, ok_, dn_own, dn_lit, dn_glob, dn_bin, dn_neg, dn_not, dn_cmp, dn_chain, ch_t, ch_f, dn_and, dn_or, dn_ite, an_t, an_f, or_t, or_f, it_t, it_f, dn_tup, dn_list, tup0, tup1, tup2, tup3, lst0, lst1, lst2, lst3, dn_ix, dn_slice, dn_call, call1, call2, call3, call4, call5, rk, dn_callR, dn_b1, dn_b2, dn_isI, dn_isTL, dn_range1, dn_range2, dn_zip, b1_len_l, b1_len_t, b1_tup_l, b1_tup_t, b1_list_l, b1_list_t, b1_int, not_b, neg_i, cmp_lt, cmp_le, cmp_gt, cmp_ge, cmp_is, cmp_isnot, cmp_eqi, cmp_nei, bin_add, bin_sub, zip_t, zip_l, dn_comp, dS_for, bnd_ret, bnd_bnd, fn_eq, fnR_eq, List.map_cons, List.map_nil, List.cons_append, List.nil_append, List.append_nil, List.length_cons, List.length_nil, List.replicate_succ, List.replicate_zero, Nat.sub_self, Nat.reduceAdd, Nat.reduceSub, Nat.zero_add, List.set_cons_zero, List.set_cons_succ, List.getElem?_cons_zero, List.getElem?_cons_succ, dS_asgT, dS_kill, be_nm, be_tup, be_nil, be_cons, dn_b2, ix_tab hr, ix_row e1, none_opt, Option.isNone_none, Bool.not_true, lagsGo]
  | some a =>
    cases d with
    | none =>
      simp -implicitDefEqProofs only [wipeE, Tg.slots, k_nx, k_rt, e_nx, e_rt, br_t, br_f, dS_nil, dS_seq, dS_nm, own_list, dS_newL, dS_par, sl_f, sl_t, dS_ite, dS_ret, dS_expr, dS_app, ap_own, dS_aug, au_val, dS_frz, fr_own, asB_bool, asI_int, items_l, items_t, dn_nil, dn_cons, dn_star, lo_l, lo_d, vk, dn_var, ok_, dn_own, dn_lit, dn_glob, dn_bin, dn_neg, dn_not, dn_cmp, dn_chain, ch_t, ch_f, dn_and, dn_or, dn_ite, an_t, an_f, or_t, or_f, it_t, it_f, dn_tup, dn_list, tup0, tup1, tup2, tup3, lst0, lst1, lst2, lst3, dn_ix, dn_slice, dn_call, call1, call2, call3, call4, call5, rk, dn_callR, dn_b1, dn_b2, dn_isI, dn_isTL, dn_range1, dn_range2, dn_zip, b1_len_l, b1_len_t, b1_tup_l, b1_tup_t, b1_list_l, b1_list_t, b1_int, not_b, neg_i, cmp_lt, cmp_le, cmp_gt, cmp_ge, cmp_is, cmp_isnot, cmp_eqi, cmp_nei, bin_add, bin_sub, zip_t, zip_l, dn_comp, dS_for, bnd_ret, bnd_bnd, fn_eq, fnR_eq, List.map_cons, List.map_nil, List.cons_append, List.nil_append, List.append_nil, List.length_cons, List.length_nil, List.replicate_succ, List.replicate_zero, Nat.sub_self, Nat.reduceAdd, Nat.reduceSub, Nat.zero_add, List.set_cons_zero, List.set_cons_succ, List.getElem?_cons_zero, List.getElem?_cons_succ, dS_asgT, dS_kill, be_nm, be_tup, be_nil, be_cons, dn_b2, ix_tab hr, ix_row e1, ix_row e2, none_opt, Option.isNone_some, Option.isNone_none, Bool.not_false, push_ok hp, lagsGo, List.map_append]
      rfl
    | some b =>
      simp -implicitDefEqProofs only [wipeE, Tg.slots, k_nx, k_rt, e_nx, e_rt, br_t, br_f, dS_nil, dS_seq, dS_nm, own_list, dS_newL, dS_par, sl_f, sl_t, dS_ite, dS_ret, dS_expr, dS_app, ap_own, dS_aug, au_val, dS_frz, fr_own, asB_bool, asI_int, items_l, items_t, dn_nil, dn_cons, dn_star, lo_l, lo_d, vk, dn_var, ok_, dn_own, dn_lit, dn_glob, dn_bin, dn_neg, dn_not, dn_cmp, dn_chain, ch_t, ch_f, dn_and, dn_or, dn_ite, an_t, an_f, or_t, or_f, it_t, it_f, dn_tup, dn_list, tup0, tup1, tup2, tup3, lst0, lst1, lst2, lst3, dn_ix, dn_slice, dn_call, call1, call2, call3, call4, call5, rk, dn_callR, dn_b1, dn_b2, dn_isI, dn_isTL, dn_range1, dn_range2, dn_zip, b1_len_l, b1_len_t, b1_tup_l, b1_tup_t, b1_list_l, b1_list_t, b1_int, not_b, neg_i, cmp_lt, cmp_le, cmp_gt, cmp_ge, cmp_is, cmp_isnot, cmp_eqi, cmp_nei, bin_add, bin_sub, zip_t, zip_l, dn_comp, dS_for, bnd_ret, bnd_bnd, fn_eq, fnR_eq, List.map_cons, List.map_nil, List.cons_append, List.nil_append, List.append_nil, List.length_cons, List.length_nil, List.replicate_succ, List.replicate_zero, Nat.sub_self, Nat.reduceAdd, Nat.reduceSub, Nat.zero_add, List.set_cons_zero, List.set_cons_succ, List.getElem?_cons_zero, List.getElem?_cons_succ, dS_asgT, dS_kill, be_nm, be_tup, be_nil, be_cons, dn_b2, ix_tab hr, ix_row e1, ix_row e2, none_opt, Option.isNone_some, Bool.not_false, lagsGo, List.map_append]
      have e3 : binD .sub (optD (some b)) (optD (some a)) = ret (optD (some (b - a))) := rfl
      rw [e3]
      simp -implicitDefEqProofs only [wipeE, Tg.slots, k_nx, k_rt, e_nx, e_rt, br_t, br_f, dS_nil, dS_seq, dS_nm, own_list, dS_newL, dS_par, sl_f, sl_t, dS_ite, dS_ret, dS_expr, dS_app, ap_own, dS_aug, au_val, dS_frz, fr_own, asB_bool, asI_int, items_l, items_t, dn_nil, dn_cons, dn_star, lo_l, lo_d, vk, dn_var, ok_, dn_own, dn_lit, dn_glob, dn_bin, dn_neg, dn_not, dn_cmp, dn_chain, ch_t, ch_f, dn_and, dn_or, dn_ite, an_t, an_f, or_t, or_f, it_t, it_f, dn_tup, dn_list, tup0, tup1, tup2, tup3, lst0, lst1, lst2, lst3, dn_ix, dn_slice, dn_call, call1, call2, call3, call4, call5, rk, dn_callR, dn_b1, dn_b2, dn_isI, dn_isTL, dn_range1, dn_range2, dn_zip, b1_len_l, b1_len_t, b1_tup_l, b1_tup_t, b1_list_l, b1_list_t, b1_int, not_b, neg_i, cmp_lt, cmp_le, cmp_gt, cmp_ge, cmp_is, cmp_isnot, cmp_eqi, cmp_nei, bin_add, bin_sub, zip_t, zip_l, dn_comp, dS_for, bnd_ret, bnd_bnd, fn_eq, fnR_eq, List.map_cons, List.map_nil, List.cons_append, List.nil_append, List.append_nil, List.length_cons, List.length_nil, List.replicate_succ, List.replicate_zero, Nat.sub_self, Nat.reduceAdd, Nat.reduceSub, Nat.zero_add, List.set_cons_zero, List.set_cons_succ, List.getElem?_cons_zero, List.getElem?_cons_succ, dS_asgT, dS_kill, be_nm, be_tup, be_nil, be_cons, dn_b2, push_ok hp]
theorem lag_col {t : List (List La)} {g : List La} {high wide k : Nat} (ht : t.length = high) (hr : ∀ r ∈ t, r.length = wide) (hg : g.length = high) (hk : k < wide) (hh : high ≤ 900) {x2 : Sl} (x5 : Sl) :
    ∃ y5, forE (.nm 5) lagB [.val (tabD t), .val (rowD g), x2, .val (.int (k : Int)), .own [], x5] ((List.range high).map fun (i : Nat) => PyData.int (i : Int)) =
      ret (.nx [.val (tabD t), .val (rowD g), x2, .val (.int (k : Int)), .own ((lagsGo ((colOf t k).zip g)).map optD), y5]) := by
  have hz : ((colOf t k).zip g).length = high := by
    unfold colOf
    rw [List.length_zip, List.length_map, ht, hg, Nat.min_self]
  obtain ⟨ρ', e, y5, e2⟩ := for_at (t := .nm 5) (B := lagB) (enc := fun (i : Nat) => PyData.int (i : Int)) (L := List.range high)
    (fun s ρ => ∃ y5, ρ = [.val (tabD t), .val (rowD g), x2, .val (.int (k : Int)), .own ((lagsGo (((colOf t k).zip g).take s)).map optD), y5])
    (fun s x ρ hx ⟨y5, e⟩ => by
      subst e
      have hs : s < high := by
        have := (List.getElem?_eq_some_iff.mp hx).1
        rwa [List.length_range] at this
      have ex : x = s := by
        rw [List.getElem?_range hs] at hx
        exact (Option.some.inj hx).symm
      subst ex
      obtain ⟨r, er, hm⟩ := get_lt (l := t) (k := x) (by omega)
      have hlen : (lagsGo (((colOf t k).zip g).take x)).length < 1000 := by
        have h1 := lags_len (((colOf t k).zip g).take x)
        rw [List.length_take] at h1
        omega
      refine ⟨_, lag_one er (by rw [hr r hm]; exact hk) (by omega) hlen, .val (.int (x : Int)), ?_⟩
      rw [List.take_add_one, zip_col er (by omega), lags_append]
      rfl)
    high 0 [.val (tabD t), .val (rowD g), x2, .val (.int (k : Int)), .own [], x5] (by rw [List.length_range, Nat.zero_add]) ⟨x5, by rw [List.take_zero]; rfl⟩
  subst e2
  refine ⟨y5, ?_⟩
  rw [List.drop_zero] at e
  rw [e, List.length_range, List.take_of_length_le (by rw [hz]; exact Nat.le_refl _)]
abbrev backB : S := .seq (.newL 4 (.list .nil)) (.seq (.for_ (.nm 5) (.range1 (.b1 .len (.var 0))) lagB) (.seq (.app 2 (.ite (.cmp .in_ (.lit .none) (.own 4)) (.lit .none) (.b1 .min (.own 4)))) .nil))
theorem back_one {t : List (List La)} {g l : List La} {high wide k : Nat} (ht : t.length = high) (hr : ∀ r ∈ t, r.length = wide) (hg : g.length = high) (hk : k < wide) (hh : high ≤ 900) (hf : ∃ r ∈ t, getL r k ≠ none) (hl : l.length < 1000) {x3 x4 x5 : Sl} :
    ∃ y4 y5, forK (.nm 3) backB (.int (k : Int)) [.val (tabD t), .val (rowD g), .own (l.map optD), x3, x4, x5] =
      ret (.nx [.val (tabD t), .val (rowD g), .own ((l ++ [gapOf (colOf t k) g]).map optD), .val (.int (k : Int)), y4, y5]) := by
  obtain ⟨y5, e⟩ := lag_col ht hr hg hk hh (x2 := .own (l.map optD)) x5
  refine ⟨.own ((lagsGo ((colOf t k).zip g)).map optD), y5, ?_⟩
  have hz : ((colOf t k).zip g).length = high := by
    unfold colOf
    rw [List.length_zip, List.length_map, ht, hg, Nat.min_self]
  have hll : (lagsGo ((colOf t k).zip g)).length ≤ 1000 := by
    have := lags_len ((colOf t k).zip g)
    omega
  have hp : (l.map optD).length < sizeLine := by rw [List.length_map]; exact Nat.lt_of_lt_of_le hl (by decide)
  have hne : lagsGo ((colOf t k).zip g) ≠ [] := by
    obtain ⟨r, hm, hn⟩ := hf
    obtain ⟨s, hs, es⟩ := List.getElem_of_mem hm
    have er : t[s]? = some r := by rw [List.getElem?_eq_getElem hs, es]
    exact lags_ne ⟨_, List.mem_of_getElem? (zip_col (k := k) er (by omega)), hn⟩
  unfold forK
  show denS backB [.val (tabD t), .val (rowD g), .own (l.map optD), .val (.int (k : Int)), x4, x5] = _
  unfold backB
  simp -implicitDefEqProofs only [wipeE, Tg.slots, k_nx, k_rt, e_nx, e_rt, br_t, br_f, dS_nil, dS_seq, dS_nm, own_list, dS_newL, dS_par, sl_f, sl_t, dS_ite, dS_ret, dS_expr, dS_app, ap_own, dS_aug, au_val, dS_frz, fr_own, asB_bool, asI_int, items_l, items_t, dn_nil, dn_cons, dn_star, lo_l, lo_d, vk, dn_var, ok_, dn_own, dn_lit, dn_glob, dn_bin, dn_neg, dn_not, dn_cmp, dn_chain, ch_t, ch_f, dn_and, dn_or, dn_ite, an_t, an_f, or_t, or_f, it_t, it_f, dn_tup, dn_list, tup0, tup1, tup2, tup3, lst0, lst1, lst2, lst3, dn_ix, dn_slice, dn_call, call1, call2, call3, call4, call5, rk, dn_callR, dn_b1, dn_b2, dn_isI, dn_isTL, dn_range1, dn_range2, dn_zip, b1_len_l, b1_len_t, b1_tup_l, b1_tup_t, b1_list_l, b1_list_t, b1_int, not_b, neg_i, cmp_lt, cmp_le, cmp_gt, cmp_ge, cmp_is, cmp_isnot, cmp_eqi, cmp_nei, bin_add, bin_sub, zip_t, zip_l, dn_comp, dS_for, bnd_ret, bnd_bnd, fn_eq, fnR_eq, List.map_cons, List.map_nil, List.cons_append, List.nil_append, List.append_nil, List.length_cons, List.length_nil, List.replicate_succ, List.replicate_zero, Nat.sub_self, Nat.reduceAdd, Nat.reduceSub, Nat.zero_add, List.set_cons_zero, List.set_cons_succ, List.getElem?_cons_zero, List.getElem?_cons_succ, dS_asgT, dS_kill, be_nm, be_tup, be_nil, be_cons, dn_b2, len_tab, ht, range0 (Nat.le_trans hh (show 900 ≤ 1000 by decide)), e, in_none hll]
  cases hany : (lagsGo ((colOf t k).zip g)).any Option.isNone with
  | true =>
    obtain ⟨a, ha, hb⟩ := List.any_eq_true.mp hany
    have hn : none ∈ lagsGo ((colOf t k).zip g) := by
      cases a with
      | none => exact ha
      | some v => cases hb
    simp -implicitDefEqProofs only [wipeE, Tg.slots, k_nx, k_rt, e_nx, e_rt, br_t, br_f, dS_nil, dS_seq, dS_nm, own_list, dS_newL, dS_par, sl_f, sl_t, dS_ite, dS_ret, dS_expr, dS_app, ap_own, dS_aug, au_val, dS_frz, fr_own, asB_bool, asI_int, items_l, items_t, dn_nil, dn_cons, dn_star, lo_l, lo_d, vk, dn_var, ok_, dn_own, dn_lit, dn_glob, dn_bin, dn_neg, dn_not, dn_cmp, dn_chain, ch_t, ch_f, dn_and, dn_or, dn_ite, an_t, an_f, or_t, or_f, it_t, it_f, dn_tup, dn_list, tup0, tup1, tup2, tup3, lst0, lst1, lst2, lst3, dn_ix, dn_slice, dn_call, call1, call2, call3, call4, call5, rk, dn_callR, dn_b1, dn_b2, dn_isI, dn_isTL, dn_range1, dn_range2, dn_zip, b1_len_l, b1_len_t, b1_tup_l, b1_tup_t, b1_list_l, b1_list_t, b1_int, not_b, neg_i, cmp_lt, cmp_le, cmp_gt, cmp_ge, cmp_is, cmp_isnot, cmp_eqi, cmp_nei, bin_add, bin_sub, zip_t, zip_l, dn_comp, dS_for, bnd_ret, bnd_bnd, fn_eq, fnR_eq, List.map_cons, List.map_nil, List.cons_append, List.nil_append, List.append_nil, List.length_cons, List.length_nil, List.replicate_succ, List.replicate_zero, Nat.sub_self, Nat.reduceAdd, Nat.reduceSub, Nat.zero_add, List.set_cons_zero, List.set_cons_succ, List.getElem?_cons_zero, List.getElem?_cons_succ, dS_asgT, dS_kill, be_nm, be_tup, be_nil, be_cons, dn_b2, push_ok hp]
    unfold gapOf
    rw [gap_none hn, List.map_append]
    rfl
  | false =>
    have hn : none ∉ lagsGo ((colOf t k).zip g) := fun h => by
      have := List.any_eq_false.mp hany none h
      exact this rfl
    simp -implicitDefEqProofs only [wipeE, Tg.slots, k_nx, k_rt, e_nx, e_rt, br_t, br_f, dS_nil, dS_seq, dS_nm, own_list, dS_newL, dS_par, sl_f, sl_t, dS_ite, dS_ret, dS_expr, dS_app, ap_own, dS_aug, au_val, dS_frz, fr_own, asB_bool, asI_int, items_l, items_t, dn_nil, dn_cons, dn_star, lo_l, lo_d, vk, dn_var, ok_, dn_own, dn_lit, dn_glob, dn_bin, dn_neg, dn_not, dn_cmp, dn_chain, ch_t, ch_f, dn_and, dn_or, dn_ite, an_t, an_f, or_t, or_f, it_t, it_f, dn_tup, dn_list, tup0, tup1, tup2, tup3, lst0, lst1, lst2, lst3, dn_ix, dn_slice, dn_call, call1, call2, call3, call4, call5, rk, dn_callR, dn_b1, dn_b2, dn_isI, dn_isTL, dn_range1, dn_range2, dn_zip, b1_len_l, b1_len_t, b1_tup_l, b1_tup_t, b1_list_l, b1_list_t, b1_int, not_b, neg_i, cmp_lt, cmp_le, cmp_gt, cmp_ge, cmp_is, cmp_isnot, cmp_eqi, cmp_nei, bin_add, bin_sub, zip_t, zip_l, dn_comp, dS_for, bnd_ret, bnd_bnd, fn_eq, fnR_eq, List.map_cons, List.map_nil, List.cons_append, List.nil_append, List.append_nil, List.length_cons, List.length_nil, List.replicate_succ, List.replicate_zero, Nat.sub_self, Nat.reduceAdd, Nat.reduceSub, Nat.zero_add, List.set_cons_zero, List.set_cons_succ, List.getElem?_cons_zero, List.getElem?_cons_succ, dS_asgT, dS_kill, be_nm, be_tup, be_nil, be_cons, dn_b2, min_lags hn hne, push_ok hp]
    unfold gapOf
    rw [gap_min hn hne, List.map_append]
    rfl
theorem grid1 : f__law_grid [.int 1, .int 4] = ret (.list ((gridOf 4 1).map rowD)) := by
  funext w
  with_unfolding_all rfl
theorem grid2 : f__law_grid [.int 2, .int 4] = ret (.list ((gridOf 4 2).map rowD)) := by
  funext w
  with_unfolding_all rfl
theorem grid3 : f__law_grid [.int 3, .int 3] = ret (.list ((gridOf 3 3).map rowD)) := by
  funext w
  with_unfolding_all rfl
theorem mul_none {k : Nat} (h : k ≤ 1000) : binD .mul (.tuple [PyData.none]) (.int (k : Int)) = ret (.tuple ((List.replicate k (none : La)).map optD)) := by
  have e : binD .mul (.tuple [PyData.none]) (.int (k : Int)) = (if 0 ≤ (k : Int) ∧ (k : Int) ≤ 1000 ∧ [PyData.none].length = 1 then ret (.tuple (List.replicate (k : Int).toNat [PyData.none]).flatten) else bad) := rfl
  rw [e, if_pos ⟨by omega, by omega, rfl⟩, show ((k : Int)).toNat = k by omega, rep_none]
abbrev meetB : S := .seq (.par 5 6 false false (.tup (.star (.var 3) (.star (.bin .mul (.tup (.cons (.lit .none) .nil)) (.b1 .len (.var 4))) .nil))) (.tup (.star (.bin .mul (.tup (.cons (.lit .none) .nil)) (.b1 .len (.var 3))) (.star (.var 4) .nil))))
  (.seq (.ext 2 (.list (.cons (.tup (.cons (.var 5) (.cons (.var 6) .nil))) (.cons (.tup (.cons (.var 6) (.cons (.var 5) .nil))) .nil))))
  .nil)
theorem meet_one {a b : List La} {wide deep : Nat} {s : List (List La × List La)} (ha : a.length = wide) (hb : b.length = deep) (hw : wide ≤ 6) (hd : deep ≤ 6) (hs : s.length ≤ 900) {x0 x1 x3 x4 x5 x6 : Sl} :
    ∃ y5 y6, forK (.tup (.tcons (.nm 3) (.tcons (.nm 4) .tnil))) meetB (PyData.tuple [rowD a, rowD b]) [x0, x1, .own (s.map pairD), x3, x4, x5, x6] = ret (.nx [x0, x1, .own ((s ++ [(leftP deep a, rightP wide b), (rightP wide b, leftP deep a)]).map pairD), .val (rowD a), .val (rowD b), y5, y6]) := by
  refine ⟨.val (rowD (leftP deep a)), .val (rowD (rightP wide b)), ?_⟩
  unfold forK
  show denS meetB [x0, x1, .own (s.map pairD), .val (rowD a), .val (rowD b), x5, x6] = _
  have l1 : (a ++ List.replicate deep none).length ≤ 12 := by rw [List.length_append, List.length_replicate]; omega
  have l2 : (List.replicate wide none ++ b).length ≤ 12 := by rw [List.length_append, List.length_replicate]; omega
  have k1 : ((a ++ List.replicate deep none).map optD).length ≤ sizeLine := by rw [List.length_map]; exact Nat.le_trans l1 (by decide)
  have k2 : ((List.replicate wide none ++ b).map optD).length ≤ sizeLine := by rw [List.length_map]; exact Nat.le_trans l2 (by decide)
  have e1 : PyData.tuple ((a ++ List.replicate deep none).map optD) = rowD (leftP deep a) := rfl
  have e2 : PyData.tuple ((List.replicate wide none ++ b).map optD) = rowD (rightP wide b) := rfl
  unfold meetB
  simp -implicitDefEqProofs only [wipeE, Tg.slots, k_nx, k_rt, e_nx, e_rt, br_t, br_f, dS_nil, dS_seq, dS_nm, own_list, dS_newL, dS_par, sl_f, sl_t, dS_ite, dS_ret, dS_expr, dS_app, ap_own, dS_aug, au_val, dS_frz, fr_own, asB_bool, asI_int, items_l, items_t, dn_nil, dn_cons, dn_star, lo_l, lo_d, vk, dn_var, ok_, dn_own, dn_lit, dn_glob, dn_bin, dn_neg, dn_not, dn_cmp, dn_chain, ch_t, ch_f, dn_and, dn_or, dn_ite, an_t, an_f, or_t, or_f, it_t, it_f, dn_tup, dn_list, tup0, tup1, tup2, tup3, lst0, lst1, lst2, lst3, dn_ix, dn_slice, dn_call, call1, call2, call3, call4, call5, rk, dn_callR, dn_b1, dn_b2, dn_isI, dn_isTL, dn_range1, dn_range2, dn_zip, b1_len_l, b1_len_t, b1_tup_l, b1_tup_t, b1_list_l, b1_list_t, b1_int, not_b, neg_i, cmp_lt, cmp_le, cmp_gt, cmp_ge, cmp_is, cmp_isnot, cmp_eqi, cmp_nei, bin_add, bin_sub, zip_t, zip_l, dn_comp, dS_for, bnd_ret, bnd_bnd, fn_eq, fnR_eq, List.map_cons, List.map_nil, List.cons_append, List.nil_append, List.append_nil, List.length_cons, List.length_nil, List.replicate_succ, List.replicate_zero, Nat.sub_self, Nat.reduceAdd, Nat.reduceSub, Nat.zero_add, List.set_cons_zero, List.set_cons_succ, List.getElem?_cons_zero, List.getElem?_cons_succ, dS_asgT, dS_kill, be_nm, be_tup, be_nil, be_cons, dn_b2, len_row, ha, hb, mul_none (Nat.le_trans hw (show 6 ≤ 1000 by decide)), mul_none (Nat.le_trans hd (show 6 ≤ 1000 by decide)), items_row, ← List.map_append, tup_ok k1, tup_ok k2, e1, e2]
  have hl : (s.map pairD).length + 2 ≤ sizeLine := by rw [List.length_map]; exact Nat.le_trans (Nat.add_le_add_right hs 2) (by decide)
  have ext : ∀ (ρ : Ev) (e : E) (l m : List D), ρ[2]? = some (.own l) → den e ρ = ret (.list m) → l.length + m.length ≤ sizeLine → denS (.ext 2 e) ρ = (ret (O.nx (ρ.set 2 (.own (l ++ m)))) : M O) := fun ρ e l m h1 h2 h3 => by
    show (match ρ[2]? with
      | some (.own l) => bnd (den e ρ) fun d => match d with | .list m => if l.length + m.length ≤ sizeLine then (ret (O.nx (ρ.set 2 (.own (l ++ m)))) : M O) else bad | _ => bad
      | _ => bad) = _
    rw [h1]
    show bnd (den e ρ) _ = _
    rw [h2, bnd_ret]
    show (if l.length + m.length ≤ sizeLine then (ret (O.nx (ρ.set 2 (.own (l ++ m)))) : M O) else bad) = _
    rw [if_pos h3]
  rw [ext _ _ (s.map pairD) [pairD (leftP deep a, rightP wide b), pairD (rightP wide b, leftP deep a)] rfl (by simp -implicitDefEqProofs only [wipeE, Tg.slots, k_nx, k_rt, e_nx, e_rt, br_t, br_f, dS_nil, dS_seq, dS_nm, own_list, dS_newL, dS_par, sl_f, sl_t, dS_ite, dS_ret, dS_expr, dS_app, ap_own, dS_aug, au_val, dS_frz, fr_own, asB_bool, asI_int, items_l, items_t, dn_nil, dn_cons, dn_star, lo_l, lo_d, vk, dn_var, ok_, dn_own, dn_lit, dn_glob, dn_bin, dn_neg, dn_not, dn_cmp, dn_chain, ch_t, ch_f, dn_and, dn_or, dn_ite, an_t, an_f, or_t, or_f, it_t, it_f, dn_tup, dn_list, tup0, tup1, tup2, tup3, lst0, lst1, lst2, lst3, dn_ix, dn_slice, dn_call, call1, call2, call3, call4, call5, rk, dn_callR, dn_b1, dn_b2, dn_isI, dn_isTL, dn_range1, dn_range2, dn_zip, b1_len_l, b1_len_t, b1_tup_l, b1_tup_t, b1_list_l, b1_list_t, b1_int, not_b, neg_i, cmp_lt, cmp_le, cmp_gt, cmp_ge, cmp_is, cmp_isnot, cmp_eqi, cmp_nei, bin_add, bin_sub, zip_t, zip_l, dn_comp, dS_for, bnd_ret, bnd_bnd, fn_eq, fnR_eq, List.map_cons, List.map_nil, List.cons_append, List.nil_append, List.append_nil, List.length_cons, List.length_nil, List.replicate_succ, List.replicate_zero, Nat.sub_self, Nat.reduceAdd, Nat.reduceSub, Nat.zero_add, List.set_cons_zero, List.set_cons_succ, List.getElem?_cons_zero, List.getElem?_cons_succ, dS_asgT, dS_kill, be_nm, be_tup, be_nil, be_cons, dn_b2]; rfl) hl]
  simp -implicitDefEqProofs only [wipeE, Tg.slots, k_nx, k_rt, e_nx, e_rt, br_t, br_f, dS_nil, dS_seq, dS_nm, own_list, dS_newL, dS_par, sl_f, sl_t, dS_ite, dS_ret, dS_expr, dS_app, ap_own, dS_aug, au_val, dS_frz, fr_own, asB_bool, asI_int, items_l, items_t, dn_nil, dn_cons, dn_star, lo_l, lo_d, vk, dn_var, ok_, dn_own, dn_lit, dn_glob, dn_bin, dn_neg, dn_not, dn_cmp, dn_chain, ch_t, ch_f, dn_and, dn_or, dn_ite, an_t, an_f, or_t, or_f, it_t, it_f, dn_tup, dn_list, tup0, tup1, tup2, tup3, lst0, lst1, lst2, lst3, dn_ix, dn_slice, dn_call, call1, call2, call3, call4, call5, rk, dn_callR, dn_b1, dn_b2, dn_isI, dn_isTL, dn_range1, dn_range2, dn_zip, b1_len_l, b1_len_t, b1_tup_l, b1_tup_t, b1_list_l, b1_list_t, b1_int, not_b, neg_i, cmp_lt, cmp_le, cmp_gt, cmp_ge, cmp_is, cmp_isnot, cmp_eqi, cmp_nei, bin_add, bin_sub, zip_t, zip_l, dn_comp, dS_for, bnd_ret, bnd_bnd, fn_eq, fnR_eq, List.map_cons, List.map_nil, List.cons_append, List.nil_append, List.append_nil, List.length_cons, List.length_nil, List.replicate_succ, List.replicate_zero, Nat.sub_self, Nat.reduceAdd, Nat.reduceSub, Nat.zero_add, List.set_cons_zero, List.set_cons_succ, List.getElem?_cons_zero, List.getElem?_cons_succ, dS_asgT, dS_kill, be_nm, be_tup, be_nil, be_cons, dn_b2, List.map_append]
theorem part_d : (partD (.dict []) : M (Option Int)) = ret none := rfl
theorem part_i {k : Int} : (partD (.int k) : M (Option Int)) = ret (some k) := rfl
theorem slice_take {r : List La} {k : Nat} (h : k ≤ r.length) : sliceD (rowD r) none (some (k : Int)) = ret (rowD (r.take k)) := by
  show ret (PyData.tuple (cutL (r.map optD) none (some (k : Int)))) = _
  rw [cut_take (by rw [List.length_map]; exact h), ← List.map_take]
  rfl
theorem slice_drop {r : List La} {k : Nat} (h : k ≤ r.length) : sliceD (rowD r) (some (k : Int)) none = ret (rowD (r.drop k)) := by
  show ret (PyData.tuple (cutL (r.map optD) (some (k : Int)) none)) = _
  rw [cut_drop (by rw [List.length_map]; exact h), ← List.map_drop]
  rfl
theorem rangeN {k : Nat} (h : k ≤ 1000000) : rangeD 0 (k : Int) = ret (.list ((List.range k).map fun (i : Nat) => PyData.int (i : Int))) := by
  unfold rangeD
  rw [if_pos (by omega)]
  congr 2
  rw [show ((k : Int) - 0).toNat = k by omega]
  simp
theorem ne_empty {l : List D} {n : Nat} (h : plain n (.list l)) (hn : n ≤ 64) : cmpD .ne (.list l) (.list []) = ret (.bool (!l.isEmpty)) := by
  have e : cmpD .ne (.list l) (.list []) = (if SeqAt.shaped (.list l) && SeqAt.shaped (.list []) then ret (.bool (!PyData.eqv (.list l) (.list []))) else bad) := rfl
  rw [e, plain_shaped h hn, if_pos (by decide)]
  cases l <;> rfl
theorem wipe_get1 {ρ : Ev} {i j : Nat} {v : Sl} (hij : i ≠ j) : ((wipeE ρ [i]).set i v)[j]? = ρ[j]? := by
  unfold wipeE
  rw [List.getElem?_set_ne hij]
  show ((wipeE ρ []).set i .no)[j]? = _
  rw [List.getElem?_set_ne hij]
  rfl
theorem wipe_same {ρ : Ev} {i : Nat} {v : Sl} (hi : i < ρ.length) : ((wipeE ρ [i]).set i v)[i]? = some v := by
  rw [List.getElem?_set_self]
  unfold wipeE
  rw [List.length_set]
  exact hi
theorem by_comp {A B : List La} {wide : Nat} {ρ : Ev} {a b i : Nat} (hi : i < ρ.length) (ha : i ≠ a) (hb : i ≠ b) (ea : ρ[a]? = some (.val (rowD A))) (eb : ρ[b]? = some (.val (rowD B))) (hA : A.length = wide) (hB : B.length = wide) :
    compK (.lit (.int 1)) (.nm i) (.not (.call "_law_by" 2 f__law_by (.cons (.ix (.var a) (.var i)) (.cons (.ix (.var b) (.var i)) .nil)))) ρ ((List.range wide).map fun (i : Nat) => PyData.int (i : Int)) = ret (.list (notBy A B wide)) :=
  cmpFil (xs := List.range wide) (enc := fun (i : Nat) => PyData.int (i : Int)) (g := fun _ => PyData.int 1) (p := fun k => !isBy (getL A k) (getL B k)) fun k hk =>
    ⟨(wipeE ρ [i]).set i (.val (.int k)), rfl, by
      have hk := List.mem_range.mp hk
      have e1 : ((wipeE ρ [i]).set i (.val (.int (k : Int))))[i]? = some (.val (.int k)) := wipe_same hi
      have e2 : ((wipeE ρ [i]).set i (.val (.int (k : Int))))[a]? = some (.val (rowD A)) := by rw [wipe_get1 ha, ea]
      have e3 : ((wipeE ρ [i]).set i (.val (.int (k : Int))))[b]? = some (.val (rowD B)) := by rw [wipe_get1 hb, eb]
      generalize (wipeE ρ [i]).set i (.val (.int (k : Int))) = ρ' at e1 e2 e3
      simp -implicitDefEqProofs only [wipeE, Tg.slots, k_nx, k_rt, e_nx, e_rt, br_t, br_f, dS_nil, dS_seq, dS_nm, own_list, dS_newL, dS_par, sl_f, sl_t, dS_ite, dS_ret, dS_expr, dS_app, ap_own, dS_aug, au_val, dS_frz, fr_own, asB_bool, asI_int, items_l, items_t, dn_nil, dn_cons, dn_star, lo_l, lo_d, vk, dn_var, ok_, dn_own, dn_lit, dn_glob, dn_bin, dn_neg, dn_not, dn_cmp, dn_chain, ch_t, ch_f, dn_and, dn_or, dn_ite, an_t, an_f, or_t, or_f, it_t, it_f, dn_tup, dn_list, tup0, tup1, tup2, tup3, lst0, lst1, lst2, lst3, dn_ix, dn_slice, dn_call, call1, call2, call3, call4, call5, rk, dn_callR, dn_b1, dn_b2, dn_isI, dn_isTL, dn_range1, dn_range2, dn_zip, b1_len_l, b1_len_t, b1_tup_l, b1_tup_t, b1_list_l, b1_list_t, b1_int, not_b, neg_i, cmp_lt, cmp_le, cmp_gt, cmp_ge, cmp_is, cmp_isnot, cmp_eqi, cmp_nei, bin_add, bin_sub, zip_t, zip_l, dn_comp, dS_for, bnd_ret, bnd_bnd, fn_eq, fnR_eq, List.map_cons, List.map_nil, List.cons_append, List.nil_append, List.append_nil, List.length_cons, List.length_nil, List.replicate_succ, List.replicate_zero, Nat.sub_self, Nat.reduceAdd, Nat.reduceSub, Nat.zero_add, List.set_cons_zero, List.set_cons_succ, List.getElem?_cons_zero, List.getElem?_cons_succ, dS_asgT, dS_kill, be_nm, be_tup, be_nil, be_cons, dn_b2, e1, e2, e3, ix_row (getD_ok (show k < A.length by omega)), ix_row (getD_ok (show k < B.length by omega)), m_lby]
      rfl, fun _ => rfl⟩
theorem not_ne {A B : List La} {wide : Nat} (hA : A.length = wide) (hB : B.length = wide) (h1 : wide ≤ 1000) : cmpD .ne (.list (notBy A B wide)) (.list []) = ret (.bool (!rowBy A B)) ∧ cmpD .eq (.list (notBy A B wide)) (.list []) = ret (.bool (rowBy A B)) := by
  have hp : plain 1 (.list (notBy A B wide)) := ⟨by
    unfold notBy
    rw [List.length_map]
    exact Nat.le_trans (List.length_filter_le ..) (by rw [List.length_range]; exact h1), fun x hx => by
    obtain ⟨_, _, rfl⟩ := List.mem_map.mp hx
    trivial⟩
  have e : (notBy A B wide).isEmpty = rowBy A B := by
    unfold notBy
    rw [List.isEmpty_map, ← hA, by_all (hA.trans hB.symm)]
  exact ⟨by rw [ne_empty hp (by decide), e], by rw [eq_empty hp (by decide), e]⟩
theorem add_tt {xs ys : List D} (h : xs.length + ys.length ≤ sizeLine) : binD .add (.tuple xs) (.tuple ys) = ret (.tuple (xs ++ ys)) := if_pos h
abbrev farB : S := .seq (.asg (.nm 9) (.b1 .max (.bin .add (.list (.cons (.var 9) .nil)) (.comp (.b2 .max2 (.var 23) (.bin .sub (.lit (.int 0)) (.var 23))) (.nm 23) (.var 10) (.cmp .isnot (.var 23) (.lit .none)))))) .nil
theorem labs_comp {r : List La} {ρ : Ev} (hi : 23 < ρ.length) : compK (.b2 .max2 (.var 23) (.bin .sub (.lit (.int 0)) (.var 23))) (.nm 23) (.cmp .isnot (.var 23) (.lit .none)) ρ (r.map optD) = ret (.list ((r.filter Option.isSome).map fun x => PyData.int (absI (x.getD 0)))) := by
  refine cmpFil (enc := optD) (g := fun x : La => PyData.int (absI (x.getD 0))) (p := Option.isSome) fun a _ => ⟨(wipeE ρ [23]).set 23 (.val (optD a)), rfl, ?_, fun hp => ?_⟩
  · have e : ((wipeE ρ [23]).set 23 (.val (optD a)))[23]? = some (.val (optD a)) := wipe_same hi
    generalize (wipeE ρ [23]).set 23 (.val (optD a)) = ρ' at e
    simp -implicitDefEqProofs only [wipeE, Tg.slots, k_nx, k_rt, e_nx, e_rt, br_t, br_f, dS_nil, dS_seq, dS_nm, own_list, dS_newL, dS_par, sl_f, sl_t, dS_ite, dS_ret, dS_expr, dS_app, ap_own, dS_aug, au_val, dS_frz, fr_own, asB_bool, asI_int, items_l, items_t, dn_nil, dn_cons, dn_star, lo_l, lo_d, vk, dn_var, ok_, dn_own, dn_lit, dn_glob, dn_bin, dn_neg, dn_not, dn_cmp, dn_chain, ch_t, ch_f, dn_and, dn_or, dn_ite, an_t, an_f, or_t, or_f, it_t, it_f, dn_tup, dn_list, tup0, tup1, tup2, tup3, lst0, lst1, lst2, lst3, dn_ix, dn_slice, dn_call, call1, call2, call3, call4, call5, rk, dn_callR, dn_b1, dn_b2, dn_isI, dn_isTL, dn_range1, dn_range2, dn_zip, b1_len_l, b1_len_t, b1_tup_l, b1_tup_t, b1_list_l, b1_list_t, b1_int, not_b, neg_i, cmp_lt, cmp_le, cmp_gt, cmp_ge, cmp_is, cmp_isnot, cmp_eqi, cmp_nei, bin_add, bin_sub, zip_t, zip_l, dn_comp, dS_for, bnd_ret, bnd_bnd, fn_eq, fnR_eq, List.map_cons, List.map_nil, List.cons_append, List.nil_append, List.append_nil, List.length_cons, List.length_nil, List.replicate_succ, List.replicate_zero, Nat.sub_self, Nat.reduceAdd, Nat.reduceSub, Nat.zero_add, List.set_cons_zero, List.set_cons_succ, List.getElem?_cons_zero, List.getElem?_cons_succ, dS_asgT, dS_kill, be_nm, be_tup, be_nil, be_cons, dn_b2, e, none_opt]
    cases a <;> rfl
  · have e : ((wipeE ρ [23]).set 23 (.val (optD a)))[23]? = some (.val (optD a)) := wipe_same hi
    generalize (wipeE ρ [23]).set 23 (.val (optD a)) = ρ' at e
    cases a with
    | none => cases hp
    | some v =>
      have e : ρ'[23]? = some (.val (.int v)) := e
      simp -implicitDefEqProofs only [wipeE, Tg.slots, k_nx, k_rt, e_nx, e_rt, br_t, br_f, dS_nil, dS_seq, dS_nm, own_list, dS_newL, dS_par, sl_f, sl_t, dS_ite, dS_ret, dS_expr, dS_app, ap_own, dS_aug, au_val, dS_frz, fr_own, asB_bool, asI_int, items_l, items_t, dn_nil, dn_cons, dn_star, lo_l, lo_d, vk, dn_var, ok_, dn_own, dn_lit, dn_glob, dn_bin, dn_neg, dn_not, dn_cmp, dn_chain, ch_t, ch_f, dn_and, dn_or, dn_ite, an_t, an_f, or_t, or_f, it_t, it_f, dn_tup, dn_list, tup0, tup1, tup2, tup3, lst0, lst1, lst2, lst3, dn_ix, dn_slice, dn_call, call1, call2, call3, call4, call5, rk, dn_callR, dn_b1, dn_b2, dn_isI, dn_isTL, dn_range1, dn_range2, dn_zip, b1_len_l, b1_len_t, b1_tup_l, b1_tup_t, b1_list_l, b1_list_t, b1_int, not_b, neg_i, cmp_lt, cmp_le, cmp_gt, cmp_ge, cmp_is, cmp_isnot, cmp_eqi, cmp_nei, bin_add, bin_sub, zip_t, zip_l, dn_comp, dS_for, bnd_ret, bnd_bnd, fn_eq, fnR_eq, List.map_cons, List.map_nil, List.cons_append, List.nil_append, List.append_nil, List.length_cons, List.length_nil, List.replicate_succ, List.replicate_zero, Nat.sub_self, Nat.reduceAdd, Nat.reduceSub, Nat.zero_add, List.set_cons_zero, List.set_cons_succ, List.getElem?_cons_zero, List.getElem?_cons_succ, dS_asgT, dS_kill, be_nm, be_tup, be_nil, be_cons, dn_b2, e, dn_b2]
      show ret (PyData.int (if 0 - v > v then 0 - v else v)) = _
      rw [abs_max]
      rfl
theorem far_one {r : List La} {far : Int} {ρ : Ev} (h9 : ρ[9]? = some (.val (.int far))) (hl : 23 < ρ.length) (hr : r.length ≤ 1000) :
    forK (.nm 10) farB (rowD r) ρ = ret (.nx ((ρ.set 10 (.val (rowD r))).set 9 (.val (.int (maxI (far :: absRow r)))))) := by
  unfold forK
  show denS farB (ρ.set 10 (.val (rowD r))) = _
  have e1 : (ρ.set 10 (.val (rowD r)))[9]? = some (.val (.int far)) := by rw [List.getElem?_set_ne (by decide)]; exact h9
  have e2 : (ρ.set 10 (.val (rowD r)))[10]? = some (.val (rowD r)) := List.getElem?_set_self (by omega)
  have hl2 : 23 < (ρ.set 10 (.val (rowD r))).length := by rw [List.length_set]; exact hl
  generalize ρ.set 10 (.val (rowD r)) = ρ' at e1 e2 hl2
  have hl3 : 1 + ((r.filter Option.isSome).map fun x => PyData.int (absI (x.getD 0))).length ≤ sizeLine := by
    rw [List.length_map]
    exact small_line (Nat.le_trans (List.length_filter_le ..) hr)
  unfold farB
  simp -implicitDefEqProofs only [wipeE, Tg.slots, k_nx, k_rt, e_nx, e_rt, br_t, br_f, dS_nil, dS_seq, dS_nm, own_list, dS_newL, dS_par, sl_f, sl_t, dS_ite, dS_ret, dS_expr, dS_app, ap_own, dS_aug, au_val, dS_frz, fr_own, asB_bool, asI_int, items_l, items_t, dn_nil, dn_cons, dn_star, lo_l, lo_d, vk, dn_var, ok_, dn_own, dn_lit, dn_glob, dn_bin, dn_neg, dn_not, dn_cmp, dn_chain, ch_t, ch_f, dn_and, dn_or, dn_ite, an_t, an_f, or_t, or_f, it_t, it_f, dn_tup, dn_list, tup0, tup1, tup2, tup3, lst0, lst1, lst2, lst3, dn_ix, dn_slice, dn_call, call1, call2, call3, call4, call5, rk, dn_callR, dn_b1, dn_b2, dn_isI, dn_isTL, dn_range1, dn_range2, dn_zip, b1_len_l, b1_len_t, b1_tup_l, b1_tup_t, b1_list_l, b1_list_t, b1_int, not_b, neg_i, cmp_lt, cmp_le, cmp_gt, cmp_ge, cmp_is, cmp_isnot, cmp_eqi, cmp_nei, bin_add, bin_sub, zip_t, zip_l, dn_comp, dS_for, bnd_ret, bnd_bnd, fn_eq, fnR_eq, List.map_cons, List.map_nil, List.cons_append, List.nil_append, List.append_nil, List.length_cons, List.length_nil, List.replicate_succ, List.replicate_zero, Nat.sub_self, Nat.reduceAdd, Nat.reduceSub, Nat.zero_add, List.set_cons_zero, List.set_cons_succ, List.getElem?_cons_zero, List.getElem?_cons_succ, dS_asgT, dS_kill, be_nm, be_tup, be_nil, be_cons, dn_b2, e1, e2, items_row, labs_comp hl2, add_ll (xs := [PyData.int far]) hl3]
  rw [b1_maxc]
  rfl
theorem lcut_comp {r : List La} {fl : Int} {ρ : Ev} {i j : Nat} (hi : i < ρ.length) (hij : i ≠ j) (hj : ρ[j]? = some (.val (.int fl))) : compK (.ite (.and (.cmp .isnot (.var i) (.lit .none)) (.cmp .ge (.var i) (.var j))) (.var i) (.lit .none)) (.nm i) (.lit (.bool true)) ρ (r.map optD) = ret (.list (r.map fun a => optD (cutEl fl a))) := by
  refine cmpMap (g := fun a => optD (cutEl fl a)) fun a _ => ⟨(wipeE ρ [i]).set i (.val (optD a)), rfl, rfl, ?_⟩
  have e : ((wipeE ρ [i]).set i (.val (optD a)))[i]? = some (.val (optD a)) := wipe_same hi
  have e2 : ((wipeE ρ [i]).set i (.val (optD a)))[j]? = some (.val (.int fl)) := by rw [wipe_get1 hij]; exact hj
  generalize (wipeE ρ [i]).set i (.val (optD a)) = ρ' at e e2
  simp -implicitDefEqProofs only [wipeE, Tg.slots, k_nx, k_rt, e_nx, e_rt, br_t, br_f, dS_nil, dS_seq, dS_nm, own_list, dS_newL, dS_par, sl_f, sl_t, dS_ite, dS_ret, dS_expr, dS_app, ap_own, dS_aug, au_val, dS_frz, fr_own, asB_bool, asI_int, items_l, items_t, dn_nil, dn_cons, dn_star, lo_l, lo_d, vk, dn_var, ok_, dn_own, dn_lit, dn_glob, dn_bin, dn_neg, dn_not, dn_cmp, dn_chain, ch_t, ch_f, dn_and, dn_or, dn_ite, an_t, an_f, or_t, or_f, it_t, it_f, dn_tup, dn_list, tup0, tup1, tup2, tup3, lst0, lst1, lst2, lst3, dn_ix, dn_slice, dn_call, call1, call2, call3, call4, call5, rk, dn_callR, dn_b1, dn_b2, dn_isI, dn_isTL, dn_range1, dn_range2, dn_zip, b1_len_l, b1_len_t, b1_tup_l, b1_tup_t, b1_list_l, b1_list_t, b1_int, not_b, neg_i, cmp_lt, cmp_le, cmp_gt, cmp_ge, cmp_is, cmp_isnot, cmp_eqi, cmp_nei, bin_add, bin_sub, zip_t, zip_l, dn_comp, dS_for, bnd_ret, bnd_bnd, fn_eq, fnR_eq, List.map_cons, List.map_nil, List.cons_append, List.nil_append, List.append_nil, List.length_cons, List.length_nil, List.replicate_succ, List.replicate_zero, Nat.sub_self, Nat.reduceAdd, Nat.reduceSub, Nat.zero_add, List.set_cons_zero, List.set_cons_succ, List.getElem?_cons_zero, List.getElem?_cons_succ, dS_asgT, dS_kill, be_nm, be_tup, be_nil, be_cons, dn_b2, e, e2, none_opt]
  cases a with
  | none =>
    simp -implicitDefEqProofs only [wipeE, Tg.slots, k_nx, k_rt, e_nx, e_rt, br_t, br_f, dS_nil, dS_seq, dS_nm, own_list, dS_newL, dS_par, sl_f, sl_t, dS_ite, dS_ret, dS_expr, dS_app, ap_own, dS_aug, au_val, dS_frz, fr_own, asB_bool, asI_int, items_l, items_t, dn_nil, dn_cons, dn_star, lo_l, lo_d, vk, dn_var, ok_, dn_own, dn_lit, dn_glob, dn_bin, dn_neg, dn_not, dn_cmp, dn_chain, ch_t, ch_f, dn_and, dn_or, dn_ite, an_t, an_f, or_t, or_f, it_t, it_f, dn_tup, dn_list, tup0, tup1, tup2, tup3, lst0, lst1, lst2, lst3, dn_ix, dn_slice, dn_call, call1, call2, call3, call4, call5, rk, dn_callR, dn_b1, dn_b2, dn_isI, dn_isTL, dn_range1, dn_range2, dn_zip, b1_len_l, b1_len_t, b1_tup_l, b1_tup_t, b1_list_l, b1_list_t, b1_int, not_b, neg_i, cmp_lt, cmp_le, cmp_gt, cmp_ge, cmp_is, cmp_isnot, cmp_eqi, cmp_nei, bin_add, bin_sub, zip_t, zip_l, dn_comp, dS_for, bnd_ret, bnd_bnd, fn_eq, fnR_eq, List.map_cons, List.map_nil, List.cons_append, List.nil_append, List.append_nil, List.length_cons, List.length_nil, List.replicate_succ, List.replicate_zero, Nat.sub_self, Nat.reduceAdd, Nat.reduceSub, Nat.zero_add, List.set_cons_zero, List.set_cons_succ, List.getElem?_cons_zero, List.getElem?_cons_succ, dS_asgT, dS_kill, be_nm, be_tup, be_nil, be_cons, dn_b2, Option.isNone_none, Bool.not_true]
    rfl
  | some v =>
    have e : ρ'[i]? = some (.val (.int v)) := e
    simp -implicitDefEqProofs only [wipeE, Tg.slots, k_nx, k_rt, e_nx, e_rt, br_t, br_f, dS_nil, dS_seq, dS_nm, own_list, dS_newL, dS_par, sl_f, sl_t, dS_ite, dS_ret, dS_expr, dS_app, ap_own, dS_aug, au_val, dS_frz, fr_own, asB_bool, asI_int, items_l, items_t, dn_nil, dn_cons, dn_star, lo_l, lo_d, vk, dn_var, ok_, dn_own, dn_lit, dn_glob, dn_bin, dn_neg, dn_not, dn_cmp, dn_chain, ch_t, ch_f, dn_and, dn_or, dn_ite, an_t, an_f, or_t, or_f, it_t, it_f, dn_tup, dn_list, tup0, tup1, tup2, tup3, lst0, lst1, lst2, lst3, dn_ix, dn_slice, dn_call, call1, call2, call3, call4, call5, rk, dn_callR, dn_b1, dn_b2, dn_isI, dn_isTL, dn_range1, dn_range2, dn_zip, b1_len_l, b1_len_t, b1_tup_l, b1_tup_t, b1_list_l, b1_list_t, b1_int, not_b, neg_i, cmp_lt, cmp_le, cmp_gt, cmp_ge, cmp_is, cmp_isnot, cmp_eqi, cmp_nei, bin_add, bin_sub, zip_t, zip_l, dn_comp, dS_for, bnd_ret, bnd_bnd, fn_eq, fnR_eq, List.map_cons, List.map_nil, List.cons_append, List.nil_append, List.append_nil, List.length_cons, List.length_nil, List.replicate_succ, List.replicate_zero, Nat.sub_self, Nat.reduceAdd, Nat.reduceSub, Nat.zero_add, List.set_cons_zero, List.set_cons_succ, List.getElem?_cons_zero, List.getElem?_cons_succ, dS_asgT, dS_kill, be_nm, be_tup, be_nil, be_cons, dn_b2, Option.isNone_some, Bool.not_false, e, e2]
    show _ = ret (optD (if v < fl then none else some v))
    by_cases h : fl ≤ v
    · simp -implicitDefEqProofs only [wipeE, Tg.slots, k_nx, k_rt, e_nx, e_rt, br_t, br_f, dS_nil, dS_seq, dS_nm, own_list, dS_newL, dS_par, sl_f, sl_t, dS_ite, dS_ret, dS_expr, dS_app, ap_own, dS_aug, au_val, dS_frz, fr_own, asB_bool, asI_int, items_l, items_t, dn_nil, dn_cons, dn_star, lo_l, lo_d, vk, dn_var, ok_, dn_own, dn_lit, dn_glob, dn_bin, dn_neg, dn_not, dn_cmp, dn_chain, ch_t, ch_f, dn_and, dn_or, dn_ite, an_t, an_f, or_t, or_f, it_t, it_f, dn_tup, dn_list, tup0, tup1, tup2, tup3, lst0, lst1, lst2, lst3, dn_ix, dn_slice, dn_call, call1, call2, call3, call4, call5, rk, dn_callR, dn_b1, dn_b2, dn_isI, dn_isTL, dn_range1, dn_range2, dn_zip, b1_len_l, b1_len_t, b1_tup_l, b1_tup_t, b1_list_l, b1_list_t, b1_int, not_b, neg_i, cmp_lt, cmp_le, cmp_gt, cmp_ge, cmp_is, cmp_isnot, cmp_eqi, cmp_nei, bin_add, bin_sub, zip_t, zip_l, dn_comp, dS_for, bnd_ret, bnd_bnd, fn_eq, fnR_eq, List.map_cons, List.map_nil, List.cons_append, List.nil_append, List.append_nil, List.length_cons, List.length_nil, List.replicate_succ, List.replicate_zero, Nat.sub_self, Nat.reduceAdd, Nat.reduceSub, Nat.zero_add, List.set_cons_zero, List.set_cons_succ, List.getElem?_cons_zero, List.getElem?_cons_succ, dS_asgT, dS_kill, be_nm, be_tup, be_nil, be_cons, dn_b2, decide_eq_true h, e]
      rw [if_neg (by omega)]
      rfl
    · simp -implicitDefEqProofs only [wipeE, Tg.slots, k_nx, k_rt, e_nx, e_rt, br_t, br_f, dS_nil, dS_seq, dS_nm, own_list, dS_newL, dS_par, sl_f, sl_t, dS_ite, dS_ret, dS_expr, dS_app, ap_own, dS_aug, au_val, dS_frz, fr_own, asB_bool, asI_int, items_l, items_t, dn_nil, dn_cons, dn_star, lo_l, lo_d, vk, dn_var, ok_, dn_own, dn_lit, dn_glob, dn_bin, dn_neg, dn_not, dn_cmp, dn_chain, ch_t, ch_f, dn_and, dn_or, dn_ite, an_t, an_f, or_t, or_f, it_t, it_f, dn_tup, dn_list, tup0, tup1, tup2, tup3, lst0, lst1, lst2, lst3, dn_ix, dn_slice, dn_call, call1, call2, call3, call4, call5, rk, dn_callR, dn_b1, dn_b2, dn_isI, dn_isTL, dn_range1, dn_range2, dn_zip, b1_len_l, b1_len_t, b1_tup_l, b1_tup_t, b1_list_l, b1_list_t, b1_int, not_b, neg_i, cmp_lt, cmp_le, cmp_gt, cmp_ge, cmp_is, cmp_isnot, cmp_eqi, cmp_nei, bin_add, bin_sub, zip_t, zip_l, dn_comp, dS_for, bnd_ret, bnd_bnd, fn_eq, fnR_eq, List.map_cons, List.map_nil, List.cons_append, List.nil_append, List.append_nil, List.length_cons, List.length_nil, List.replicate_succ, List.replicate_zero, Nat.sub_self, Nat.reduceAdd, Nat.reduceSub, Nat.zero_add, List.set_cons_zero, List.set_cons_succ, List.getElem?_cons_zero, List.getElem?_cons_succ, dS_asgT, dS_kill, be_nm, be_tup, be_nil, be_cons, dn_b2, decide_eq_false h]
      rw [if_pos (by omega)]
      rfl
/-! ### the walk: shares, made rows, outmost rows -/
def listD {α : Type} (e : α → D) (l : List α) : D := .list (l.map e)
theorem lay_opt (a : La) : PyData.canLay0 (optD a) = true := by cases a <;> rfl
theorem lay_row (r : List La) : PyData.canLay0 (rowD r) = true ∧ PyData.depth (rowD r) ≤ 1 := by
  refine ⟨lay_all fun x hx => ?_, Nat.succ_le_succ (depth_all fun x hx => ?_)⟩
  · obtain ⟨a, _, rfl⟩ := List.mem_map.mp hx
    exact lay_opt a
  · obtain ⟨a, _, rfl⟩ := List.mem_map.mp hx
    cases a <;> exact Nat.le_refl 0
theorem shp_row (r : List La) : SeqAt.shaped (rowD r) = true := by
  unfold SeqAt.shaped
  rw [(lay_row r).1, decide_eq_true (Nat.le_trans (lay_row r).2 (by decide))]
  rfl
theorem shp_rows (l : List (List La)) : SeqAt.shaped (.list (l.map rowD)) = true := by
  have h1 : PyData.canLay0 (.list (l.map rowD)) = true := lay_all fun x hx => by
    obtain ⟨a, _, rfl⟩ := List.mem_map.mp hx
    exact (lay_row a).1
  have h2 : PyData.depth (.list (l.map rowD)) ≤ 2 := Nat.succ_le_succ (depth_all fun x hx => by
    obtain ⟨a, _, rfl⟩ := List.mem_map.mp hx
    exact (lay_row a).2)
  unfold SeqAt.shaped
  rw [h1, decide_eq_true (Nat.le_trans h2 (by decide))]
  rfl
theorem eqv_row (a b : List La) : PyData.eqv (rowD a) (rowD b) = decide (a = b) := eqv_all a b
theorem eq_rowS (a b : List La) : cmpD .eq (rowD a) (rowD b) = ret (.bool (decide (a = b))) := by
  have e : cmpD .eq (rowD a) (rowD b) = (if SeqAt.shaped (rowD a) && SeqAt.shaped (rowD b) then ret (.bool (PyData.eqv (rowD a) (rowD b))) else bad) := rfl
  rw [e, shp_row, shp_row, if_pos (by rfl), eqv_row]
theorem ne_rowS (a b : List La) : cmpD .ne (rowD a) (rowD b) = ret (.bool (!decide (a = b))) := by
  have e : cmpD .ne (rowD a) (rowD b) = (if SeqAt.shaped (rowD a) && SeqAt.shaped (rowD b) then ret (.bool (!PyData.eqv (rowD a) (rowD b))) else bad) := rfl
  rw [e, shp_row, shp_row, if_pos (by rfl), eqv_row]
theorem any_row (l : List (List La)) (r : List La) : ((l.map rowD).any fun z => PyData.eqv z (rowD r)) = decide (r ∈ l) := by
  rw [List.any_map]
  induction l with
  | nil => rfl
  | cons a l ih =>
    rw [List.any_cons, ih]
    show (PyData.eqv (rowD a) (rowD r) || decide (r ∈ l)) = _
    rw [eqv_row]
    by_cases h : a = r
    · subst h; simp
    · have h2 : ¬ r = a := fun z => h z.symm
      simp [h, h2]
theorem in_rows (l : List (List La)) (r : List La) : cmpD .in_ (rowD r) (.list (l.map rowD)) = ret (.bool (decide (r ∈ l))) := by
  have e : cmpD .in_ (rowD r) (.list (l.map rowD)) = (if SeqAt.shaped (rowD r) && SeqAt.shaped (.list (l.map rowD)) then ret (.bool ((l.map rowD).any fun z => PyData.eqv z (rowD r))) else bad) := rfl
  rw [e, shp_row, shp_rows, if_pos (by rfl), any_row]
theorem notin_rows (l : List (List La)) (r : List La) : cmpD .notin (rowD r) (.list (l.map rowD)) = ret (.bool (!decide (r ∈ l))) := by
  have e : cmpD .notin (rowD r) (.list (l.map rowD)) = (if SeqAt.shaped (rowD r) && SeqAt.shaped (.list (l.map rowD)) then ret (.bool (!(l.map rowD).any fun z => PyData.eqv z (rowD r))) else bad) := rfl
  rw [e, shp_row, shp_rows, if_pos (by rfl), any_row]
def shareStep (s : La) (p : La × La) : La ⊕ D := match p.1 with
  | none => .inl s
  | some l => match p.2 with
    | none => .inr .none
    | some v => match s with
      | none => .inl (some (v - l))
      | some w => .inl (some (if v - l < w then v - l else w))
def outD : La ⊕ D → D | .inl s => optD s | .inr d => d
theorem share_go : ∀ (xs : List (La × La)) (s : La), outD (untilF shareStep xs s) = optD (gapGo s xs)
  | [], s => rfl
  | (none, q) :: r, s => by
    unfold untilF
    exact share_go r s
  | (some a, none) :: r, s => by cases s <;> rfl
  | (some a, some b) :: r, none => share_go r _
  | (some a, some b) :: r, some v => share_go r _
theorem zip_rowS (a b : List La) : zip2D (rowD a) (rowD b) = ret (.list ((a.zip b).map fun p => PyData.tuple [optD p.1, optD p.2])) := by
  unfold rowD
  rw [zip_t, zip_enc]
theorem m_share (x g : List La) : f_share [rowD x, rowD g] = ret (optD (gapOf g x)) := by
  unfold f_share B_share
  simp -implicitDefEqProofs only [wipeE, Tg.slots, k_nx, k_rt, e_nx, e_rt, br_t, br_f, dS_nil, dS_seq, dS_nm, own_list, dS_newL, dS_par, sl_f, sl_t, dS_ite, dS_ret, dS_expr, dS_app, ap_own, dS_aug, au_val, dS_frz, fr_own, asB_bool, asI_int, items_l, items_t, dn_nil, dn_cons, dn_star, lo_l, lo_d, vk, dn_var, ok_, dn_own, dn_lit, dn_glob, dn_bin, dn_neg, dn_not, dn_cmp, dn_chain, ch_t, ch_f, dn_and, dn_or, dn_ite, an_t, an_f, or_t, or_f, it_t, it_f, dn_tup, dn_list, tup0, tup1, tup2, tup3, lst0, lst1, lst2, lst3, dn_ix, dn_slice, dn_call, call1, call2, call3, call4, call5, rk, dn_callR, dn_b1, dn_b2, dn_isI, dn_isTL, dn_range1, dn_range2, dn_zip, b1_len_l, b1_len_t, b1_tup_l, b1_tup_t, b1_list_l, b1_list_t, b1_int, not_b, neg_i, cmp_lt, cmp_le, cmp_gt, cmp_ge, cmp_is, cmp_isnot, cmp_eqi, cmp_nei, bin_add, bin_sub, zip_t, zip_l, dn_comp, dS_for, bnd_ret, bnd_bnd, fn_eq, fnR_eq, List.map_cons, List.map_nil, List.cons_append, List.nil_append, List.append_nil, List.length_cons, List.length_nil, List.replicate_succ, List.replicate_zero, Nat.sub_self, Nat.reduceAdd, Nat.reduceSub, Nat.zero_add, List.set_cons_zero, List.set_cons_succ, List.getElem?_cons_zero, List.getElem?_cons_succ, dS_asgT, dS_kill, be_nm, be_tup, be_nil, be_cons, dn_b2, zip_rowS]
  erw [for_until (enc := fun p : La × La => PyData.tuple [optD p.1, optD p.2]) (fun s : La => [.val (rowD x), .val (rowD g), .val (optD s), .no, .no]) shareStep (xs := g.zip x) (s := none) fun s p _ => by
    obtain ⟨a, b⟩ := p
    cases a with
    | none => simp -implicitDefEqProofs only [wipeE, Tg.slots, k_nx, k_rt, e_nx, e_rt, br_t, br_f, dS_nil, dS_seq, dS_nm, own_list, dS_newL, dS_par, sl_f, sl_t, dS_ite, dS_ret, dS_expr, dS_app, ap_own, dS_aug, au_val, dS_frz, fr_own, asB_bool, asI_int, items_l, items_t, dn_nil, dn_cons, dn_star, lo_l, lo_d, vk, dn_var, ok_, dn_own, dn_lit, dn_glob, dn_bin, dn_neg, dn_not, dn_cmp, dn_chain, ch_t, ch_f, dn_and, dn_or, dn_ite, an_t, an_f, or_t, or_f, it_t, it_f, dn_tup, dn_list, tup0, tup1, tup2, tup3, lst0, lst1, lst2, lst3, dn_ix, dn_slice, dn_call, call1, call2, call3, call4, call5, rk, dn_callR, dn_b1, dn_b2, dn_isI, dn_isTL, dn_range1, dn_range2, dn_zip, b1_len_l, b1_len_t, b1_tup_l, b1_tup_t, b1_list_l, b1_list_t, b1_int, not_b, neg_i, cmp_lt, cmp_le, cmp_gt, cmp_ge, cmp_is, cmp_isnot, cmp_eqi, cmp_nei, bin_add, bin_sub, zip_t, zip_l, dn_comp, dS_for, bnd_ret, bnd_bnd, fn_eq, fnR_eq, List.map_cons, List.map_nil, List.cons_append, List.nil_append, List.append_nil, List.length_cons, List.length_nil, List.replicate_succ, List.replicate_zero, Nat.sub_self, Nat.reduceAdd, Nat.reduceSub, Nat.zero_add, List.set_cons_zero, List.set_cons_succ, List.getElem?_cons_zero, List.getElem?_cons_succ, dS_asgT, dS_kill, be_nm, be_tup, be_nil, be_cons, dn_b2, fk_eq, cmp_t, cmp_c, cmp_n, cmp_call, cmp_a, cmp_o, mapX_ret, filX_ret, none_opt, Option.isNone_none, Bool.not_true]; rfl
    | some l =>
      cases b with
      | none => simp -implicitDefEqProofs only [wipeE, Tg.slots, k_nx, k_rt, e_nx, e_rt, br_t, br_f, dS_nil, dS_seq, dS_nm, own_list, dS_newL, dS_par, sl_f, sl_t, dS_ite, dS_ret, dS_expr, dS_app, ap_own, dS_aug, au_val, dS_frz, fr_own, asB_bool, asI_int, items_l, items_t, dn_nil, dn_cons, dn_star, lo_l, lo_d, vk, dn_var, ok_, dn_own, dn_lit, dn_glob, dn_bin, dn_neg, dn_not, dn_cmp, dn_chain, ch_t, ch_f, dn_and, dn_or, dn_ite, an_t, an_f, or_t, or_f, it_t, it_f, dn_tup, dn_list, tup0, tup1, tup2, tup3, lst0, lst1, lst2, lst3, dn_ix, dn_slice, dn_call, call1, call2, call3, call4, call5, rk, dn_callR, dn_b1, dn_b2, dn_isI, dn_isTL, dn_range1, dn_range2, dn_zip, b1_len_l, b1_len_t, b1_tup_l, b1_tup_t, b1_list_l, b1_list_t, b1_int, not_b, neg_i, cmp_lt, cmp_le, cmp_gt, cmp_ge, cmp_is, cmp_isnot, cmp_eqi, cmp_nei, bin_add, bin_sub, zip_t, zip_l, dn_comp, dS_for, bnd_ret, bnd_bnd, fn_eq, fnR_eq, List.map_cons, List.map_nil, List.cons_append, List.nil_append, List.append_nil, List.length_cons, List.length_nil, List.replicate_succ, List.replicate_zero, Nat.sub_self, Nat.reduceAdd, Nat.reduceSub, Nat.zero_add, List.set_cons_zero, List.set_cons_succ, List.getElem?_cons_zero, List.getElem?_cons_succ, dS_asgT, dS_kill, be_nm, be_tup, be_nil, be_cons, dn_b2, fk_eq, cmp_t, cmp_c, cmp_n, cmp_call, cmp_a, cmp_o, mapX_ret, filX_ret, none_opt, Option.isNone_none, Option.isNone_some, Bool.not_false]; rfl
      | some v =>
        cases s with
        | none =>
          simp -implicitDefEqProofs only [wipeE, Tg.slots, k_nx, k_rt, e_nx, e_rt, br_t, br_f, dS_nil, dS_seq, dS_nm, own_list, dS_newL, dS_par, sl_f, sl_t, dS_ite, dS_ret, dS_expr, dS_app, ap_own, dS_aug, au_val, dS_frz, fr_own, asB_bool, asI_int, items_l, items_t, dn_nil, dn_cons, dn_star, lo_l, lo_d, vk, dn_var, ok_, dn_own, dn_lit, dn_glob, dn_bin, dn_neg, dn_not, dn_cmp, dn_chain, ch_t, ch_f, dn_and, dn_or, dn_ite, an_t, an_f, or_t, or_f, it_t, it_f, dn_tup, dn_list, tup0, tup1, tup2, tup3, lst0, lst1, lst2, lst3, dn_ix, dn_slice, dn_call, call1, call2, call3, call4, call5, rk, dn_callR, dn_b1, dn_b2, dn_isI, dn_isTL, dn_range1, dn_range2, dn_zip, b1_len_l, b1_len_t, b1_tup_l, b1_tup_t, b1_list_l, b1_list_t, b1_int, not_b, neg_i, cmp_lt, cmp_le, cmp_gt, cmp_ge, cmp_is, cmp_isnot, cmp_eqi, cmp_nei, bin_add, bin_sub, zip_t, zip_l, dn_comp, dS_for, bnd_ret, bnd_bnd, fn_eq, fnR_eq, List.map_cons, List.map_nil, List.cons_append, List.nil_append, List.append_nil, List.length_cons, List.length_nil, List.replicate_succ, List.replicate_zero, Nat.sub_self, Nat.reduceAdd, Nat.reduceSub, Nat.zero_add, List.set_cons_zero, List.set_cons_succ, List.getElem?_cons_zero, List.getElem?_cons_succ, dS_asgT, dS_kill, be_nm, be_tup, be_nil, be_cons, dn_b2, fk_eq, cmp_t, cmp_c, cmp_n, cmp_call, cmp_a, cmp_o, mapX_ret, filX_ret, none_opt, Option.isNone_none, Option.isNone_some, Bool.not_false]
          rfl
        | some w =>
          simp -implicitDefEqProofs only [wipeE, Tg.slots, k_nx, k_rt, e_nx, e_rt, br_t, br_f, dS_nil, dS_seq, dS_nm, own_list, dS_newL, dS_par, sl_f, sl_t, dS_ite, dS_ret, dS_expr, dS_app, ap_own, dS_aug, au_val, dS_frz, fr_own, asB_bool, asI_int, items_l, items_t, dn_nil, dn_cons, dn_star, lo_l, lo_d, vk, dn_var, ok_, dn_own, dn_lit, dn_glob, dn_bin, dn_neg, dn_not, dn_cmp, dn_chain, ch_t, ch_f, dn_and, dn_or, dn_ite, an_t, an_f, or_t, or_f, it_t, it_f, dn_tup, dn_list, tup0, tup1, tup2, tup3, lst0, lst1, lst2, lst3, dn_ix, dn_slice, dn_call, call1, call2, call3, call4, call5, rk, dn_callR, dn_b1, dn_b2, dn_isI, dn_isTL, dn_range1, dn_range2, dn_zip, b1_len_l, b1_len_t, b1_tup_l, b1_tup_t, b1_list_l, b1_list_t, b1_int, not_b, neg_i, cmp_lt, cmp_le, cmp_gt, cmp_ge, cmp_is, cmp_isnot, cmp_eqi, cmp_nei, bin_add, bin_sub, zip_t, zip_l, dn_comp, dS_for, bnd_ret, bnd_bnd, fn_eq, fnR_eq, List.map_cons, List.map_nil, List.cons_append, List.nil_append, List.append_nil, List.length_cons, List.length_nil, List.replicate_succ, List.replicate_zero, Nat.sub_self, Nat.reduceAdd, Nat.reduceSub, Nat.zero_add, List.set_cons_zero, List.set_cons_succ, List.getElem?_cons_zero, List.getElem?_cons_succ, dS_asgT, dS_kill, be_nm, be_tup, be_nil, be_cons, dn_b2, fk_eq, cmp_t, cmp_c, cmp_n, cmp_call, cmp_a, cmp_o, mapX_ret, filX_ret, none_opt, Option.isNone_some, Bool.not_false, show optD (some l) = .int l from rfl, show optD (some v) = .int v from rfl, show optD (some w) = .int w from rfl]
          by_cases h : v - l < w
          · simp -implicitDefEqProofs only [wipeE, Tg.slots, k_nx, k_rt, e_nx, e_rt, br_t, br_f, dS_nil, dS_seq, dS_nm, own_list, dS_newL, dS_par, sl_f, sl_t, dS_ite, dS_ret, dS_expr, dS_app, ap_own, dS_aug, au_val, dS_frz, fr_own, asB_bool, asI_int, items_l, items_t, dn_nil, dn_cons, dn_star, lo_l, lo_d, vk, dn_var, ok_, dn_own, dn_lit, dn_glob, dn_bin, dn_neg, dn_not, dn_cmp, dn_chain, ch_t, ch_f, dn_and, dn_or, dn_ite, an_t, an_f, or_t, or_f, it_t, it_f, dn_tup, dn_list, tup0, tup1, tup2, tup3, lst0, lst1, lst2, lst3, dn_ix, dn_slice, dn_call, call1, call2, call3, call4, call5, rk, dn_callR, dn_b1, dn_b2, dn_isI, dn_isTL, dn_range1, dn_range2, dn_zip, b1_len_l, b1_len_t, b1_tup_l, b1_tup_t, b1_list_l, b1_list_t, b1_int, not_b, neg_i, cmp_lt, cmp_le, cmp_gt, cmp_ge, cmp_is, cmp_isnot, cmp_eqi, cmp_nei, bin_add, bin_sub, zip_t, zip_l, dn_comp, dS_for, bnd_ret, bnd_bnd, fn_eq, fnR_eq, List.map_cons, List.map_nil, List.cons_append, List.nil_append, List.append_nil, List.length_cons, List.length_nil, List.replicate_succ, List.replicate_zero, Nat.sub_self, Nat.reduceAdd, Nat.reduceSub, Nat.zero_add, List.set_cons_zero, List.set_cons_succ, List.getElem?_cons_zero, List.getElem?_cons_succ, dS_asgT, dS_kill, be_nm, be_tup, be_nil, be_cons, dn_b2, fk_eq, cmp_t, cmp_c, cmp_n, cmp_call, cmp_a, cmp_o, mapX_ret, filX_ret, decide_eq_true h, isNone, Bool.not_false]
            show _ = ret (O.nx [.val (rowD x), .val (rowD g), .val (optD (some (if v - l < w then v - l else w))), .no, .no])
            rw [if_pos h]
            rfl
          · simp -implicitDefEqProofs only [wipeE, Tg.slots, k_nx, k_rt, e_nx, e_rt, br_t, br_f, dS_nil, dS_seq, dS_nm, own_list, dS_newL, dS_par, sl_f, sl_t, dS_ite, dS_ret, dS_expr, dS_app, ap_own, dS_aug, au_val, dS_frz, fr_own, asB_bool, asI_int, items_l, items_t, dn_nil, dn_cons, dn_star, lo_l, lo_d, vk, dn_var, ok_, dn_own, dn_lit, dn_glob, dn_bin, dn_neg, dn_not, dn_cmp, dn_chain, ch_t, ch_f, dn_and, dn_or, dn_ite, an_t, an_f, or_t, or_f, it_t, it_f, dn_tup, dn_list, tup0, tup1, tup2, tup3, lst0, lst1, lst2, lst3, dn_ix, dn_slice, dn_call, call1, call2, call3, call4, call5, rk, dn_callR, dn_b1, dn_b2, dn_isI, dn_isTL, dn_range1, dn_range2, dn_zip, b1_len_l, b1_len_t, b1_tup_l, b1_tup_t, b1_list_l, b1_list_t, b1_int, not_b, neg_i, cmp_lt, cmp_le, cmp_gt, cmp_ge, cmp_is, cmp_isnot, cmp_eqi, cmp_nei, bin_add, bin_sub, zip_t, zip_l, dn_comp, dS_for, bnd_ret, bnd_bnd, fn_eq, fnR_eq, List.map_cons, List.map_nil, List.cons_append, List.nil_append, List.append_nil, List.length_cons, List.length_nil, List.replicate_succ, List.replicate_zero, Nat.sub_self, Nat.reduceAdd, Nat.reduceSub, Nat.zero_add, List.set_cons_zero, List.set_cons_succ, List.getElem?_cons_zero, List.getElem?_cons_succ, dS_asgT, dS_kill, be_nm, be_tup, be_nil, be_cons, dn_b2, fk_eq, cmp_t, cmp_c, cmp_n, cmp_call, cmp_a, cmp_o, mapX_ret, filX_ret, decide_eq_false h, isNone, Bool.not_false]
            show _ = ret (O.nx [.val (rowD x), .val (rowD g), .val (optD (some (if v - l < w then v - l else w))), .no, .no])
            rw [if_neg h]
            rfl]
  have := share_go (g.zip x) none
  unfold gapOf
  rw [← this]
  cases untilF shareStep (g.zip x) none with
  | inl s =>
    show bnd (ret (O.nx [.val (rowD x), .val (rowD g), .val (optD s), .no, .no])) _ = _
    simp -implicitDefEqProofs only [wipeE, Tg.slots, k_nx, k_rt, e_nx, e_rt, br_t, br_f, dS_nil, dS_seq, dS_nm, own_list, dS_newL, dS_par, sl_f, sl_t, dS_ite, dS_ret, dS_expr, dS_app, ap_own, dS_aug, au_val, dS_frz, fr_own, asB_bool, asI_int, items_l, items_t, dn_nil, dn_cons, dn_star, lo_l, lo_d, vk, dn_var, ok_, dn_own, dn_lit, dn_glob, dn_bin, dn_neg, dn_not, dn_cmp, dn_chain, ch_t, ch_f, dn_and, dn_or, dn_ite, an_t, an_f, or_t, or_f, it_t, it_f, dn_tup, dn_list, tup0, tup1, tup2, tup3, lst0, lst1, lst2, lst3, dn_ix, dn_slice, dn_call, call1, call2, call3, call4, call5, rk, dn_callR, dn_b1, dn_b2, dn_isI, dn_isTL, dn_range1, dn_range2, dn_zip, b1_len_l, b1_len_t, b1_tup_l, b1_tup_t, b1_list_l, b1_list_t, b1_int, not_b, neg_i, cmp_lt, cmp_le, cmp_gt, cmp_ge, cmp_is, cmp_isnot, cmp_eqi, cmp_nei, bin_add, bin_sub, zip_t, zip_l, dn_comp, dS_for, bnd_ret, bnd_bnd, fn_eq, fnR_eq, List.map_cons, List.map_nil, List.cons_append, List.nil_append, List.append_nil, List.length_cons, List.length_nil, List.replicate_succ, List.replicate_zero, Nat.sub_self, Nat.reduceAdd, Nat.reduceSub, Nat.zero_add, List.set_cons_zero, List.set_cons_succ, List.getElem?_cons_zero, List.getElem?_cons_succ, dS_asgT, dS_kill, be_nm, be_tup, be_nil, be_cons, dn_b2]
    rfl
  | inr d =>
    show bnd (ret (O.rt d)) _ = _
    simp -implicitDefEqProofs only [wipeE, Tg.slots, k_nx, k_rt, e_nx, e_rt, br_t, br_f, dS_nil, dS_seq, dS_nm, own_list, dS_newL, dS_par, sl_f, sl_t, dS_ite, dS_ret, dS_expr, dS_app, ap_own, dS_aug, au_val, dS_frz, fr_own, asB_bool, asI_int, items_l, items_t, dn_nil, dn_cons, dn_star, lo_l, lo_d, vk, dn_var, ok_, dn_own, dn_lit, dn_glob, dn_bin, dn_neg, dn_not, dn_cmp, dn_chain, ch_t, ch_f, dn_and, dn_or, dn_ite, an_t, an_f, or_t, or_f, it_t, it_f, dn_tup, dn_list, tup0, tup1, tup2, tup3, lst0, lst1, lst2, lst3, dn_ix, dn_slice, dn_call, call1, call2, call3, call4, call5, rk, dn_callR, dn_b1, dn_b2, dn_isI, dn_isTL, dn_range1, dn_range2, dn_zip, b1_len_l, b1_len_t, b1_tup_l, b1_tup_t, b1_list_l, b1_list_t, b1_int, not_b, neg_i, cmp_lt, cmp_le, cmp_gt, cmp_ge, cmp_is, cmp_isnot, cmp_eqi, cmp_nei, bin_add, bin_sub, zip_t, zip_l, dn_comp, dS_for, bnd_ret, bnd_bnd, fn_eq, fnR_eq, List.map_cons, List.map_nil, List.cons_append, List.nil_append, List.append_nil, List.length_cons, List.length_nil, List.replicate_succ, List.replicate_zero, Nat.sub_self, Nat.reduceAdd, Nat.reduceSub, Nat.zero_add, List.set_cons_zero, List.set_cons_succ, List.getElem?_cons_zero, List.getElem?_cons_succ, dS_asgT, dS_kill, be_nm, be_tup, be_nil, be_cons, dn_b2]
    rfl
theorem m_shares_of (G : List (List La)) (x : List La) : f_shares_of [.list (G.map rowD), rowD x] = ret (.list (G.map fun g => optD (gapOf g x))) := by
  unfold f_shares_of B_shares_of
  simp -implicitDefEqProofs only [wipeE, Tg.slots, k_nx, k_rt, e_nx, e_rt, br_t, br_f, dS_nil, dS_seq, dS_nm, own_list, dS_newL, dS_par, sl_f, sl_t, dS_ite, dS_ret, dS_expr, dS_app, ap_own, dS_aug, au_val, dS_frz, fr_own, asB_bool, asI_int, items_l, items_t, dn_nil, dn_cons, dn_star, lo_l, lo_d, vk, dn_var, ok_, dn_own, dn_lit, dn_glob, dn_bin, dn_neg, dn_not, dn_cmp, dn_chain, ch_t, ch_f, dn_and, dn_or, dn_ite, an_t, an_f, or_t, or_f, it_t, it_f, dn_tup, dn_list, tup0, tup1, tup2, tup3, lst0, lst1, lst2, lst3, dn_ix, dn_slice, dn_call, call1, call2, call3, call4, call5, rk, dn_callR, dn_b1, dn_b2, dn_isI, dn_isTL, dn_range1, dn_range2, dn_zip, b1_len_l, b1_len_t, b1_tup_l, b1_tup_t, b1_list_l, b1_list_t, b1_int, not_b, neg_i, cmp_lt, cmp_le, cmp_gt, cmp_ge, cmp_is, cmp_isnot, cmp_eqi, cmp_nei, bin_add, bin_sub, zip_t, zip_l, dn_comp, dS_for, bnd_ret, bnd_bnd, fn_eq, fnR_eq, List.map_cons, List.map_nil, List.cons_append, List.nil_append, List.append_nil, List.length_cons, List.length_nil, List.replicate_succ, List.replicate_zero, Nat.sub_self, Nat.reduceAdd, Nat.reduceSub, Nat.zero_add, List.set_cons_zero, List.set_cons_succ, List.getElem?_cons_zero, List.getElem?_cons_succ, dS_asgT, dS_kill, be_nm, be_tup, be_nil, be_cons, dn_b2, fk_eq, cmp_t, cmp_c, cmp_n, cmp_call, cmp_a, cmp_o, mapX_ret, filX_ret, m_share]
theorem zip_self_map {α β : Type} (f : α → β) : ∀ l : List α, l.zip (l.map f) = l.map fun a => (a, f a)
  | [] => rfl
  | a :: l => by rw [List.map_cons, List.zip_cons_cons, zip_self_map f l]; rfl
theorem rep_noneL (k : Nat) : (List.replicate k (none : La)).map optD = List.replicate k PyData.none := by rw [List.map_replicate]; rfl
theorem mul_noneS {k : Nat} (h : k ≤ 1000) : binD .mul (.tuple [PyData.none]) (.int (k : Int)) = ret (rowD (List.replicate k (none : La))) := by
  have e : binD .mul (.tuple [PyData.none]) (.int (k : Int)) = (if 0 ≤ (k : Int) ∧ (k : Int) ≤ 1000 ∧ [PyData.none].length = 1 then ret (.tuple (List.replicate (k : Int).toNat [PyData.none]).flatten) else bad) := rfl
  rw [e, if_pos ⟨by omega, by omega, rfl⟩, show ((k : Int)).toNat = k by omega, rep_none]
  rfl
theorem m_made_of {G : List (List La)} {x : List La} (h : x.length ≤ 1000) : f_made_of [.list (G.map rowD), rowD x] = ret (rowD (madeOf G x)) := by
  unfold f_made_of B_made_of
  have ez : zip2D (.list (G.map rowD)) (.list (G.map fun g => optD (gapOf g x))) = ret (.list (G.map fun g => PyData.tuple [rowD g, optD (gapOf g x)])) := by
    rw [zip_l, show (G.map fun g => optD (gapOf g x)) = (G.map fun g => gapOf g x).map optD by rw [List.map_map]; rfl, zip_enc, zip_self_map, List.map_map]
    rfl
  simp -implicitDefEqProofs only [wipeE, Tg.slots, k_nx, k_rt, e_nx, e_rt, br_t, br_f, dS_nil, dS_seq, dS_nm, own_list, dS_newL, dS_par, sl_f, sl_t, dS_ite, dS_ret, dS_expr, dS_app, ap_own, dS_aug, au_val, dS_frz, fr_own, asB_bool, asI_int, items_l, items_t, dn_nil, dn_cons, dn_star, lo_l, lo_d, vk, dn_var, ok_, dn_own, dn_lit, dn_glob, dn_bin, dn_neg, dn_not, dn_cmp, dn_chain, ch_t, ch_f, dn_and, dn_or, dn_ite, an_t, an_f, or_t, or_f, it_t, it_f, dn_tup, dn_list, tup0, tup1, tup2, tup3, lst0, lst1, lst2, lst3, dn_ix, dn_slice, dn_call, call1, call2, call3, call4, call5, rk, dn_callR, dn_b1, dn_b2, dn_isI, dn_isTL, dn_range1, dn_range2, dn_zip, b1_len_l, b1_len_t, b1_tup_l, b1_tup_t, b1_list_l, b1_list_t, b1_int, not_b, neg_i, cmp_lt, cmp_le, cmp_gt, cmp_ge, cmp_is, cmp_isnot, cmp_eqi, cmp_nei, bin_add, bin_sub, zip_t, zip_l, dn_comp, dS_for, bnd_ret, bnd_bnd, fn_eq, fnR_eq, List.map_cons, List.map_nil, List.cons_append, List.nil_append, List.append_nil, List.length_cons, List.length_nil, List.replicate_succ, List.replicate_zero, Nat.sub_self, Nat.reduceAdd, Nat.reduceSub, Nat.zero_add, List.set_cons_zero, List.set_cons_succ, List.getElem?_cons_zero, List.getElem?_cons_succ, dS_asgT, dS_kill, be_nm, be_tup, be_nil, be_cons, dn_b2, len_row, mul_noneS h, m_shares_of, ez]
  erw [for_fold (enc := fun g : List La => PyData.tuple [rowD g, optD (gapOf g x)]) (fun f : List La => [.val (.list (G.map rowD)), .val (rowD x), .val (rowD f), .no, .no]) (makeStep x) (xs := G) fun f g _ => by
    unfold makeStep
    cases gapOf g x with
    | none => simp -implicitDefEqProofs only [wipeE, Tg.slots, k_nx, k_rt, e_nx, e_rt, br_t, br_f, dS_nil, dS_seq, dS_nm, own_list, dS_newL, dS_par, sl_f, sl_t, dS_ite, dS_ret, dS_expr, dS_app, ap_own, dS_aug, au_val, dS_frz, fr_own, asB_bool, asI_int, items_l, items_t, dn_nil, dn_cons, dn_star, lo_l, lo_d, vk, dn_var, ok_, dn_own, dn_lit, dn_glob, dn_bin, dn_neg, dn_not, dn_cmp, dn_chain, ch_t, ch_f, dn_and, dn_or, dn_ite, an_t, an_f, or_t, or_f, it_t, it_f, dn_tup, dn_list, tup0, tup1, tup2, tup3, lst0, lst1, lst2, lst3, dn_ix, dn_slice, dn_call, call1, call2, call3, call4, call5, rk, dn_callR, dn_b1, dn_b2, dn_isI, dn_isTL, dn_range1, dn_range2, dn_zip, b1_len_l, b1_len_t, b1_tup_l, b1_tup_t, b1_list_l, b1_list_t, b1_int, not_b, neg_i, cmp_lt, cmp_le, cmp_gt, cmp_ge, cmp_is, cmp_isnot, cmp_eqi, cmp_nei, bin_add, bin_sub, zip_t, zip_l, dn_comp, dS_for, bnd_ret, bnd_bnd, fn_eq, fnR_eq, List.map_cons, List.map_nil, List.cons_append, List.nil_append, List.append_nil, List.length_cons, List.length_nil, List.replicate_succ, List.replicate_zero, Nat.sub_self, Nat.reduceAdd, Nat.reduceSub, Nat.zero_add, List.set_cons_zero, List.set_cons_succ, List.getElem?_cons_zero, List.getElem?_cons_succ, dS_asgT, dS_kill, be_nm, be_tup, be_nil, be_cons, dn_b2, fk_eq, cmp_t, cmp_c, cmp_n, cmp_call, cmp_a, cmp_o, mapX_ret, filX_ret, none_opt, Option.isNone_none, Bool.not_true]
    | some l => simp -implicitDefEqProofs only [wipeE, Tg.slots, k_nx, k_rt, e_nx, e_rt, br_t, br_f, dS_nil, dS_seq, dS_nm, own_list, dS_newL, dS_par, sl_f, sl_t, dS_ite, dS_ret, dS_expr, dS_app, ap_own, dS_aug, au_val, dS_frz, fr_own, asB_bool, asI_int, items_l, items_t, dn_nil, dn_cons, dn_star, lo_l, lo_d, vk, dn_var, ok_, dn_own, dn_lit, dn_glob, dn_bin, dn_neg, dn_not, dn_cmp, dn_chain, ch_t, ch_f, dn_and, dn_or, dn_ite, an_t, an_f, or_t, or_f, it_t, it_f, dn_tup, dn_list, tup0, tup1, tup2, tup3, lst0, lst1, lst2, lst3, dn_ix, dn_slice, dn_call, call1, call2, call3, call4, call5, rk, dn_callR, dn_b1, dn_b2, dn_isI, dn_isTL, dn_range1, dn_range2, dn_zip, b1_len_l, b1_len_t, b1_tup_l, b1_tup_t, b1_list_l, b1_list_t, b1_int, not_b, neg_i, cmp_lt, cmp_le, cmp_gt, cmp_ge, cmp_is, cmp_isnot, cmp_eqi, cmp_nei, bin_add, bin_sub, zip_t, zip_l, dn_comp, dS_for, bnd_ret, bnd_bnd, fn_eq, fnR_eq, List.map_cons, List.map_nil, List.cons_append, List.nil_append, List.append_nil, List.length_cons, List.length_nil, List.replicate_succ, List.replicate_zero, Nat.sub_self, Nat.reduceAdd, Nat.reduceSub, Nat.zero_add, List.set_cons_zero, List.set_cons_succ, List.getElem?_cons_zero, List.getElem?_cons_succ, dS_asgT, dS_kill, be_nm, be_tup, be_nil, be_cons, dn_b2, fk_eq, cmp_t, cmp_c, cmp_n, cmp_call, cmp_a, cmp_o, mapX_ret, filX_ret, isNone, none_opt, Option.isNone_some, Bool.not_false, show optD (some l) = .int l from rfl, m_shift_of, m_both_of]]
  simp -implicitDefEqProofs only [wipeE, Tg.slots, k_nx, k_rt, e_nx, e_rt, br_t, br_f, dS_nil, dS_seq, dS_nm, own_list, dS_newL, dS_par, sl_f, sl_t, dS_ite, dS_ret, dS_expr, dS_app, ap_own, dS_aug, au_val, dS_frz, fr_own, asB_bool, asI_int, items_l, items_t, dn_nil, dn_cons, dn_star, lo_l, lo_d, vk, dn_var, ok_, dn_own, dn_lit, dn_glob, dn_bin, dn_neg, dn_not, dn_cmp, dn_chain, ch_t, ch_f, dn_and, dn_or, dn_ite, an_t, an_f, or_t, or_f, it_t, it_f, dn_tup, dn_list, tup0, tup1, tup2, tup3, lst0, lst1, lst2, lst3, dn_ix, dn_slice, dn_call, call1, call2, call3, call4, call5, rk, dn_callR, dn_b1, dn_b2, dn_isI, dn_isTL, dn_range1, dn_range2, dn_zip, b1_len_l, b1_len_t, b1_tup_l, b1_tup_t, b1_list_l, b1_list_t, b1_int, not_b, neg_i, cmp_lt, cmp_le, cmp_gt, cmp_ge, cmp_is, cmp_isnot, cmp_eqi, cmp_nei, bin_add, bin_sub, zip_t, zip_l, dn_comp, dS_for, bnd_ret, bnd_bnd, fn_eq, fnR_eq, List.map_cons, List.map_nil, List.cons_append, List.nil_append, List.append_nil, List.length_cons, List.length_nil, List.replicate_succ, List.replicate_zero, Nat.sub_self, Nat.reduceAdd, Nat.reduceSub, Nat.zero_add, List.set_cons_zero, List.set_cons_succ, List.getElem?_cons_zero, List.getElem?_cons_succ, dS_asgT, dS_kill, be_nm, be_tup, be_nil, be_cons, dn_b2]
  rfl
theorem m_norm (x : List La) : f_norm [rowD x] = ret (rowD (normOf x)) := by
  unfold f_norm B_norm normOf
  cases e : latestOf x with
  | none => simp -implicitDefEqProofs only [wipeE, Tg.slots, k_nx, k_rt, e_nx, e_rt, br_t, br_f, dS_nil, dS_seq, dS_nm, own_list, dS_newL, dS_par, sl_f, sl_t, dS_ite, dS_ret, dS_expr, dS_app, ap_own, dS_aug, au_val, dS_frz, fr_own, asB_bool, asI_int, items_l, items_t, dn_nil, dn_cons, dn_star, lo_l, lo_d, vk, dn_var, ok_, dn_own, dn_lit, dn_glob, dn_bin, dn_neg, dn_not, dn_cmp, dn_chain, ch_t, ch_f, dn_and, dn_or, dn_ite, an_t, an_f, or_t, or_f, it_t, it_f, dn_tup, dn_list, tup0, tup1, tup2, tup3, lst0, lst1, lst2, lst3, dn_ix, dn_slice, dn_call, call1, call2, call3, call4, call5, rk, dn_callR, dn_b1, dn_b2, dn_isI, dn_isTL, dn_range1, dn_range2, dn_zip, b1_len_l, b1_len_t, b1_tup_l, b1_tup_t, b1_list_l, b1_list_t, b1_int, not_b, neg_i, cmp_lt, cmp_le, cmp_gt, cmp_ge, cmp_is, cmp_isnot, cmp_eqi, cmp_nei, bin_add, bin_sub, zip_t, zip_l, dn_comp, dS_for, bnd_ret, bnd_bnd, fn_eq, fnR_eq, List.map_cons, List.map_nil, List.cons_append, List.nil_append, List.append_nil, List.length_cons, List.length_nil, List.replicate_succ, List.replicate_zero, Nat.sub_self, Nat.reduceAdd, Nat.reduceSub, Nat.zero_add, List.set_cons_zero, List.set_cons_succ, List.getElem?_cons_zero, List.getElem?_cons_succ, dS_asgT, dS_kill, be_nm, be_tup, be_nil, be_cons, dn_b2, m_latest_ofT, e, none_opt, Option.isNone_none]
  | some t => simp -implicitDefEqProofs only [wipeE, Tg.slots, k_nx, k_rt, e_nx, e_rt, br_t, br_f, dS_nil, dS_seq, dS_nm, own_list, dS_newL, dS_par, sl_f, sl_t, dS_ite, dS_ret, dS_expr, dS_app, ap_own, dS_aug, au_val, dS_frz, fr_own, asB_bool, asI_int, items_l, items_t, dn_nil, dn_cons, dn_star, lo_l, lo_d, vk, dn_var, ok_, dn_own, dn_lit, dn_glob, dn_bin, dn_neg, dn_not, dn_cmp, dn_chain, ch_t, ch_f, dn_and, dn_or, dn_ite, an_t, an_f, or_t, or_f, it_t, it_f, dn_tup, dn_list, tup0, tup1, tup2, tup3, lst0, lst1, lst2, lst3, dn_ix, dn_slice, dn_call, call1, call2, call3, call4, call5, rk, dn_callR, dn_b1, dn_b2, dn_isI, dn_isTL, dn_range1, dn_range2, dn_zip, b1_len_l, b1_len_t, b1_tup_l, b1_tup_t, b1_list_l, b1_list_t, b1_int, not_b, neg_i, cmp_lt, cmp_le, cmp_gt, cmp_ge, cmp_is, cmp_isnot, cmp_eqi, cmp_nei, bin_add, bin_sub, zip_t, zip_l, dn_comp, dS_for, bnd_ret, bnd_bnd, fn_eq, fnR_eq, List.map_cons, List.map_nil, List.cons_append, List.nil_append, List.append_nil, List.length_cons, List.length_nil, List.replicate_succ, List.replicate_zero, Nat.sub_self, Nat.reduceAdd, Nat.reduceSub, Nat.zero_add, List.set_cons_zero, List.set_cons_succ, List.getElem?_cons_zero, List.getElem?_cons_succ, dS_asgT, dS_kill, be_nm, be_tup, be_nil, be_cons, dn_b2, m_latest_ofT, e, isNone, none_opt, Option.isNone_some, show optD (some t) = .int t from rfl, m_shift_of]
/-! sorting rows -/
def keyC : La → D | none => .tuple [.int 0, .int 0] | some v => .tuple [.int 1, .int v]
def keyR (r : List La) : D := .list (r.map keyC)
theorem m_key_of (r : List La) : f_key_of [rowD r] = ret (keyR r) := by
  unfold f_key_of B_key_of
  simp -implicitDefEqProofs only [wipeE, Tg.slots, k_nx, k_rt, e_nx, e_rt, br_t, br_f, dS_nil, dS_seq, dS_nm, own_list, dS_newL, dS_par, sl_f, sl_t, dS_ite, dS_ret, dS_expr, dS_app, ap_own, dS_aug, au_val, dS_frz, fr_own, asB_bool, asI_int, items_l, items_t, dn_nil, dn_cons, dn_star, lo_l, lo_d, vk, dn_var, ok_, dn_own, dn_lit, dn_glob, dn_bin, dn_neg, dn_not, dn_cmp, dn_chain, ch_t, ch_f, dn_and, dn_or, dn_ite, an_t, an_f, or_t, or_f, it_t, it_f, dn_tup, dn_list, tup0, tup1, tup2, tup3, lst0, lst1, lst2, lst3, dn_ix, dn_slice, dn_call, call1, call2, call3, call4, call5, rk, dn_callR, dn_b1, dn_b2, dn_isI, dn_isTL, dn_range1, dn_range2, dn_zip, b1_len_l, b1_len_t, b1_tup_l, b1_tup_t, b1_list_l, b1_list_t, b1_int, not_b, neg_i, cmp_lt, cmp_le, cmp_gt, cmp_ge, cmp_is, cmp_isnot, cmp_eqi, cmp_nei, bin_add, bin_sub, zip_t, zip_l, dn_comp, dS_for, bnd_ret, bnd_bnd, fn_eq, fnR_eq, List.map_cons, List.map_nil, List.cons_append, List.nil_append, List.append_nil, List.length_cons, List.length_nil, List.replicate_succ, List.replicate_zero, Nat.sub_self, Nat.reduceAdd, Nat.reduceSub, Nat.zero_add, List.set_cons_zero, List.set_cons_succ, List.getElem?_cons_zero, List.getElem?_cons_succ, dS_asgT, dS_kill, be_nm, be_tup, be_nil, be_cons, dn_b2, fk_eq, cmp_t, cmp_c, cmp_n, cmp_call, cmp_a, cmp_o, mapX_ret, filX_ret, items_row]
  rw [mapX_mem keyC fun a _ => by
    cases a with
    | none => simp -implicitDefEqProofs only [wipeE, Tg.slots, k_nx, k_rt, e_nx, e_rt, br_t, br_f, dS_nil, dS_seq, dS_nm, own_list, dS_newL, dS_par, sl_f, sl_t, dS_ite, dS_ret, dS_expr, dS_app, ap_own, dS_aug, au_val, dS_frz, fr_own, asB_bool, asI_int, items_l, items_t, dn_nil, dn_cons, dn_star, lo_l, lo_d, vk, dn_var, ok_, dn_own, dn_lit, dn_glob, dn_bin, dn_neg, dn_not, dn_cmp, dn_chain, ch_t, ch_f, dn_and, dn_or, dn_ite, an_t, an_f, or_t, or_f, it_t, it_f, dn_tup, dn_list, tup0, tup1, tup2, tup3, lst0, lst1, lst2, lst3, dn_ix, dn_slice, dn_call, call1, call2, call3, call4, call5, rk, dn_callR, dn_b1, dn_b2, dn_isI, dn_isTL, dn_range1, dn_range2, dn_zip, b1_len_l, b1_len_t, b1_tup_l, b1_tup_t, b1_list_l, b1_list_t, b1_int, not_b, neg_i, cmp_lt, cmp_le, cmp_gt, cmp_ge, cmp_is, cmp_isnot, cmp_eqi, cmp_nei, bin_add, bin_sub, zip_t, zip_l, dn_comp, dS_for, bnd_ret, bnd_bnd, fn_eq, fnR_eq, List.map_cons, List.map_nil, List.cons_append, List.nil_append, List.append_nil, List.length_cons, List.length_nil, List.replicate_succ, List.replicate_zero, Nat.sub_self, Nat.reduceAdd, Nat.reduceSub, Nat.zero_add, List.set_cons_zero, List.set_cons_succ, List.getElem?_cons_zero, List.getElem?_cons_succ, dS_asgT, dS_kill, be_nm, be_tup, be_nil, be_cons, dn_b2, fk_eq, cmp_t, cmp_c, cmp_n, cmp_call, cmp_a, cmp_o, mapX_ret, filX_ret, none_opt, Option.isNone_none]; rfl
    | some v => simp -implicitDefEqProofs only [wipeE, Tg.slots, k_nx, k_rt, e_nx, e_rt, br_t, br_f, dS_nil, dS_seq, dS_nm, own_list, dS_newL, dS_par, sl_f, sl_t, dS_ite, dS_ret, dS_expr, dS_app, ap_own, dS_aug, au_val, dS_frz, fr_own, asB_bool, asI_int, items_l, items_t, dn_nil, dn_cons, dn_star, lo_l, lo_d, vk, dn_var, ok_, dn_own, dn_lit, dn_glob, dn_bin, dn_neg, dn_not, dn_cmp, dn_chain, ch_t, ch_f, dn_and, dn_or, dn_ite, an_t, an_f, or_t, or_f, it_t, it_f, dn_tup, dn_list, tup0, tup1, tup2, tup3, lst0, lst1, lst2, lst3, dn_ix, dn_slice, dn_call, call1, call2, call3, call4, call5, rk, dn_callR, dn_b1, dn_b2, dn_isI, dn_isTL, dn_range1, dn_range2, dn_zip, b1_len_l, b1_len_t, b1_tup_l, b1_tup_t, b1_list_l, b1_list_t, b1_int, not_b, neg_i, cmp_lt, cmp_le, cmp_gt, cmp_ge, cmp_is, cmp_isnot, cmp_eqi, cmp_nei, bin_add, bin_sub, zip_t, zip_l, dn_comp, dS_for, bnd_ret, bnd_bnd, fn_eq, fnR_eq, List.map_cons, List.map_nil, List.cons_append, List.nil_append, List.append_nil, List.length_cons, List.length_nil, List.replicate_succ, List.replicate_zero, Nat.sub_self, Nat.reduceAdd, Nat.reduceSub, Nat.zero_add, List.set_cons_zero, List.set_cons_succ, List.getElem?_cons_zero, List.getElem?_cons_succ, dS_asgT, dS_kill, be_nm, be_tup, be_nil, be_cons, dn_b2, fk_eq, cmp_t, cmp_c, cmp_n, cmp_call, cmp_a, cmp_o, mapX_ret, filX_ret, none_opt, Option.isNone_some]; rfl]
  simp -implicitDefEqProofs only [wipeE, Tg.slots, k_nx, k_rt, e_nx, e_rt, br_t, br_f, dS_nil, dS_seq, dS_nm, own_list, dS_newL, dS_par, sl_f, sl_t, dS_ite, dS_ret, dS_expr, dS_app, ap_own, dS_aug, au_val, dS_frz, fr_own, asB_bool, asI_int, items_l, items_t, dn_nil, dn_cons, dn_star, lo_l, lo_d, vk, dn_var, ok_, dn_own, dn_lit, dn_glob, dn_bin, dn_neg, dn_not, dn_cmp, dn_chain, ch_t, ch_f, dn_and, dn_or, dn_ite, an_t, an_f, or_t, or_f, it_t, it_f, dn_tup, dn_list, tup0, tup1, tup2, tup3, lst0, lst1, lst2, lst3, dn_ix, dn_slice, dn_call, call1, call2, call3, call4, call5, rk, dn_callR, dn_b1, dn_b2, dn_isI, dn_isTL, dn_range1, dn_range2, dn_zip, b1_len_l, b1_len_t, b1_tup_l, b1_tup_t, b1_list_l, b1_list_t, b1_int, not_b, neg_i, cmp_lt, cmp_le, cmp_gt, cmp_ge, cmp_is, cmp_isnot, cmp_eqi, cmp_nei, bin_add, bin_sub, zip_t, zip_l, dn_comp, dS_for, bnd_ret, bnd_bnd, fn_eq, fnR_eq, List.map_cons, List.map_nil, List.cons_append, List.nil_append, List.append_nil, List.length_cons, List.length_nil, List.replicate_succ, List.replicate_zero, Nat.sub_self, Nat.reduceAdd, Nat.reduceSub, Nat.zero_add, List.set_cons_zero, List.set_cons_succ, List.getElem?_cons_zero, List.getElem?_cons_succ, dS_asgT, dS_kill, be_nm, be_tup, be_nil, be_cons, dn_b2, fk_eq, cmp_t, cmp_c, cmp_n, cmp_call, cmp_a, cmp_o, mapX_ret, filX_ret]
  rfl
theorem alike_C (a b : La) : W.alike (keyC a) (keyC b) = true := by cases a <;> cases b <;> simp [keyC, W.alike, W.alikeAll]
theorem alike_R : ∀ a b : List La, W.alikeAll (a.map keyC) (b.map keyC) = true
  | [], _ => by simp [W.alikeAll]
  | _ :: _, [] => by simp [W.alikeAll]
  | x :: a, y :: b => by
    rw [List.map_cons, List.map_cons, W.alikeAll, alike_C, alike_R a b]
    rfl
theorem alike_keyR (a b : List La) : W.alike (keyR a) (keyR b) = true := by
  unfold keyR
  rw [W.alike]
  exact alike_R a b
theorem eqv_C (a b : La) : PyData.eqv (keyC a) (keyC b) = decide (a = b) := by
  cases a <;> cases b <;> simp [keyC, PyData.eqv, PyData.eqvAll]
  rename_i v w
  by_cases h : v = w
  · subst h; simp
  · simp [h]
theorem lt_C {a b : La} (h : a ≠ b) : W.dataLt (keyC a) (keyC b) = laLt a b := by
  cases a <;> cases b <;> simp only [keyC, W.dataLt_ii, laLt]
  · exact absurd rfl h
  · simp
  · simp
  · simp
theorem lt_keyR : ∀ a b : List La, W.dataLt (keyR a) (keyR b) = rowLt a b
  | [], [] => by
    unfold keyR
    rw [W.dataLt_list]
    simp only [List.map_nil, W.keyToksAll]
    rfl
  | [], y :: b => by
    unfold keyR
    rw [W.dataLt_list]
    simp only [List.map_nil, List.map_cons, W.keyToksAll]
    rfl
  | x :: a, [] => by
    unfold keyR
    rw [W.dataLt_list]
    simp only [List.map_nil, List.map_cons, W.keyToksAll]
    rfl
  | x :: a, y :: b => by
    have ih := lt_keyR a b
    unfold keyR at ih ⊢
    rw [W.dataLt_list] at ih ⊢
    rw [List.map_cons, List.map_cons, W.dataLt_cons (alike_C x y), eqv_C, ih]
    show _ = if x = y then rowLt a b else laLt x y
    by_cases h : x = y
    · rw [if_pos (by simp [h]), if_pos h]
    · rw [if_neg (by simp [h]), if_neg h, lt_C h]
theorem depth_C (a : La) : PyData.depth (keyC a) ≤ 1 := by cases a <;> simp [keyC, PyData.depth, PyData.depthAll]
theorem depth_R (r : List La) : PyData.depth (keyR r) ≤ 2 := Nat.succ_le_succ (depth_all fun x hx => by
  obtain ⟨a, _, rfl⟩ := List.mem_map.mp hx
  exact depth_C a)
theorem keysAt_rows (w : W) : ∀ G : List (List La), keysAt f_key_of w (G.map rowD) = some (G.map keyR)
  | [] => rfl
  | g :: G => by
    have e : keyAt f_key_of w (rowD g) = some (keyR g) := by
      unfold keyAt
      rw [m_key_of]
      show (if w = w then some (keyR g) else none) = _
      rw [if_pos rfl]
    rw [List.map_cons, keysAt, e, keysAt_rows w G]
    rfl
theorem sortOk_rows (G : List (List La)) : sortOk (G.map keyR) = true := by
  unfold sortOk
  simp only [List.all_map, Bool.and_eq_true, Bool.or_eq_true, List.all_eq_true]
  refine ⟨fun a _ => ?_, .inr fun a _ => rfl, fun a _ => decide_eq_true (Nat.le_trans (depth_R a) (by decide))⟩
  show (G.all fun b => W.alike (keyR a) (keyR b)) = true
  rw [List.all_eq_true]
  exact fun b _ => alike_keyR a b
theorem sortBy_rows (G : List (List La)) : sortBy (G.map keyR) (G.map rowD) = (sortRows G).map rowD := by
  unfold sortBy sortRows
  have e : (G.map keyR).zip (G.map rowD) = G.map fun g => (keyR g, rowD g) := by
    rw [List.zip_map']
  rw [e, ← List.map_mergeSort (r := rowLe) (s := W.dataLe false fun p : D × D => p.1) (f := fun g => (keyR g, rowD g)) (l := G) fun a _ b _ => by
    show rowLe a b = !W.dataLt (keyR b) (keyR a)
    rw [lt_keyR]
    rfl, List.map_map]
  rfl
theorem sortK_rows {G : List (List La)} (h : G.length ≤ sizeLine) : sortKD f_key_of (.list (G.map rowD)) = ret (.list ((sortRows G).map rowD)) := by
  funext w
  unfold sortKD
  dsimp only
  rw [keysAt_rows]
  dsimp only
  rw [sortOk_rows, decide_eq_true (by rw [List.length_map]; exact h), Bool.and_self, if_pos rfl, sortBy_rows]
  rfl
theorem dn_sortK {x : Str} {g : List D → M D} {a : E} {ρ : Ev} : den (.sortK x g a) ρ = bnd (den a ρ) (sortKD g) := rfl
theorem m_outmost_of {G : List (List La)} {n : Nat} (hG : Rows n G) (hn : n ≤ 1000) (hz : G.length ≤ sizeLine) : f_outmost_of [.list (G.map rowD)] = ret (.list ((outmostOf G).map rowD)) := by
  unfold f_outmost_of B_outmost_of
  simp -implicitDefEqProofs only [wipeE, Tg.slots, k_nx, k_rt, e_nx, e_rt, br_t, br_f, dS_nil, dS_seq, dS_nm, own_list, dS_newL, dS_par, sl_f, sl_t, dS_ite, dS_ret, dS_expr, dS_app, ap_own, dS_aug, au_val, dS_frz, fr_own, asB_bool, asI_int, items_l, items_t, dn_nil, dn_cons, dn_star, lo_l, lo_d, vk, dn_var, ok_, dn_own, dn_lit, dn_glob, dn_bin, dn_neg, dn_not, dn_cmp, dn_chain, ch_t, ch_f, dn_and, dn_or, dn_ite, an_t, an_f, or_t, or_f, it_t, it_f, dn_tup, dn_list, tup0, tup1, tup2, tup3, lst0, lst1, lst2, lst3, dn_ix, dn_slice, dn_call, call1, call2, call3, call4, call5, rk, dn_callR, dn_b1, dn_b2, dn_isI, dn_isTL, dn_range1, dn_range2, dn_zip, b1_len_l, b1_len_t, b1_tup_l, b1_tup_t, b1_list_l, b1_list_t, b1_int, not_b, neg_i, cmp_lt, cmp_le, cmp_gt, cmp_ge, cmp_is, cmp_isnot, cmp_eqi, cmp_nei, bin_add, bin_sub, zip_t, zip_l, dn_comp, dS_for, bnd_ret, bnd_bnd, fn_eq, fnR_eq, List.map_cons, List.map_nil, List.cons_append, List.nil_append, List.append_nil, List.length_cons, List.length_nil, List.replicate_succ, List.replicate_zero, Nat.sub_self, Nat.reduceAdd, Nat.reduceSub, Nat.zero_add, List.set_cons_zero, List.set_cons_succ, List.getElem?_cons_zero, List.getElem?_cons_succ, dS_asgT, dS_kill, be_nm, be_tup, be_nil, be_cons, dn_b2]
  have h1 := for_inv (t := .nm 2) (B := (.seq (.ite (.and (.cmp .notin (.call "norm" 1 f_norm (.cons (.var 2) .nil)) (.own 1)) (.cmp .isnot (.call "latest_of" 1 f_latest_of (.cons (.var 2) .nil)) (.lit .none))) (.seq (.app 1 (.call "norm" 1 f_norm (.cons (.var 2) .nil))) .nil) .nil) (.seq (.kill 2) .nil)))
    (enc := rowD) (fun left : List (List La) => [.val (.list (G.map rowD)), .own (left.map rowD), .no, .no, .no]) addN (fun k left => left.length ≤ k) (xs := G) (s := []) (n := 0) (Nat.le_refl 0) fun k left g hg _ hk hl => by
    rw [Nat.zero_add] at hk
    have hp : (left.map rowD).length < sizeLine := by rw [List.length_map]; omega
    unfold addN
    by_cases c1 : normOf g ∈ left
    · rw [if_neg fun h => h.1 c1]
      exact ⟨by simp -implicitDefEqProofs only [wipeE, Tg.slots, k_nx, k_rt, e_nx, e_rt, br_t, br_f, dS_nil, dS_seq, dS_nm, own_list, dS_newL, dS_par, sl_f, sl_t, dS_ite, dS_ret, dS_expr, dS_app, ap_own, dS_aug, au_val, dS_frz, fr_own, asB_bool, asI_int, items_l, items_t, dn_nil, dn_cons, dn_star, lo_l, lo_d, vk, dn_var, ok_, dn_own, dn_lit, dn_glob, dn_bin, dn_neg, dn_not, dn_cmp, dn_chain, ch_t, ch_f, dn_and, dn_or, dn_ite, an_t, an_f, or_t, or_f, it_t, it_f, dn_tup, dn_list, tup0, tup1, tup2, tup3, lst0, lst1, lst2, lst3, dn_ix, dn_slice, dn_call, call1, call2, call3, call4, call5, rk, dn_callR, dn_b1, dn_b2, dn_isI, dn_isTL, dn_range1, dn_range2, dn_zip, b1_len_l, b1_len_t, b1_tup_l, b1_tup_t, b1_list_l, b1_list_t, b1_int, not_b, neg_i, cmp_lt, cmp_le, cmp_gt, cmp_ge, cmp_is, cmp_isnot, cmp_eqi, cmp_nei, bin_add, bin_sub, zip_t, zip_l, dn_comp, dS_for, bnd_ret, bnd_bnd, fn_eq, fnR_eq, List.map_cons, List.map_nil, List.cons_append, List.nil_append, List.append_nil, List.length_cons, List.length_nil, List.replicate_succ, List.replicate_zero, Nat.sub_self, Nat.reduceAdd, Nat.reduceSub, Nat.zero_add, List.set_cons_zero, List.set_cons_succ, List.getElem?_cons_zero, List.getElem?_cons_succ, dS_asgT, dS_kill, be_nm, be_tup, be_nil, be_cons, dn_b2, fk_eq, cmp_t, cmp_c, cmp_n, cmp_call, cmp_a, cmp_o, mapX_ret, filX_ret, m_norm, notin_rows, decide_eq_true c1, Bool.not_true], by omega⟩
    · cases e : latestOf g with
      | none =>
        rw [if_neg fun h => h.2 rfl]
        exact ⟨by simp -implicitDefEqProofs only [wipeE, Tg.slots, k_nx, k_rt, e_nx, e_rt, br_t, br_f, dS_nil, dS_seq, dS_nm, own_list, dS_newL, dS_par, sl_f, sl_t, dS_ite, dS_ret, dS_expr, dS_app, ap_own, dS_aug, au_val, dS_frz, fr_own, asB_bool, asI_int, items_l, items_t, dn_nil, dn_cons, dn_star, lo_l, lo_d, vk, dn_var, ok_, dn_own, dn_lit, dn_glob, dn_bin, dn_neg, dn_not, dn_cmp, dn_chain, ch_t, ch_f, dn_and, dn_or, dn_ite, an_t, an_f, or_t, or_f, it_t, it_f, dn_tup, dn_list, tup0, tup1, tup2, tup3, lst0, lst1, lst2, lst3, dn_ix, dn_slice, dn_call, call1, call2, call3, call4, call5, rk, dn_callR, dn_b1, dn_b2, dn_isI, dn_isTL, dn_range1, dn_range2, dn_zip, b1_len_l, b1_len_t, b1_tup_l, b1_tup_t, b1_list_l, b1_list_t, b1_int, not_b, neg_i, cmp_lt, cmp_le, cmp_gt, cmp_ge, cmp_is, cmp_isnot, cmp_eqi, cmp_nei, bin_add, bin_sub, zip_t, zip_l, dn_comp, dS_for, bnd_ret, bnd_bnd, fn_eq, fnR_eq, List.map_cons, List.map_nil, List.cons_append, List.nil_append, List.append_nil, List.length_cons, List.length_nil, List.replicate_succ, List.replicate_zero, Nat.sub_self, Nat.reduceAdd, Nat.reduceSub, Nat.zero_add, List.set_cons_zero, List.set_cons_succ, List.getElem?_cons_zero, List.getElem?_cons_succ, dS_asgT, dS_kill, be_nm, be_tup, be_nil, be_cons, dn_b2, fk_eq, cmp_t, cmp_c, cmp_n, cmp_call, cmp_a, cmp_o, mapX_ret, filX_ret, m_norm, notin_rows, decide_eq_false c1, Bool.not_false, m_latest_ofT, e, none_opt, Option.isNone_none, Bool.not_true], by omega⟩
      | some t =>
        rw [if_pos ⟨c1, fun h => by cases h⟩]
        refine ⟨?_, by rw [List.length_append, List.length_singleton]; omega⟩
        simp -implicitDefEqProofs only [wipeE, Tg.slots, k_nx, k_rt, e_nx, e_rt, br_t, br_f, dS_nil, dS_seq, dS_nm, own_list, dS_newL, dS_par, sl_f, sl_t, dS_ite, dS_ret, dS_expr, dS_app, ap_own, dS_aug, au_val, dS_frz, fr_own, asB_bool, asI_int, items_l, items_t, dn_nil, dn_cons, dn_star, lo_l, lo_d, vk, dn_var, ok_, dn_own, dn_lit, dn_glob, dn_bin, dn_neg, dn_not, dn_cmp, dn_chain, ch_t, ch_f, dn_and, dn_or, dn_ite, an_t, an_f, or_t, or_f, it_t, it_f, dn_tup, dn_list, tup0, tup1, tup2, tup3, lst0, lst1, lst2, lst3, dn_ix, dn_slice, dn_call, call1, call2, call3, call4, call5, rk, dn_callR, dn_b1, dn_b2, dn_isI, dn_isTL, dn_range1, dn_range2, dn_zip, b1_len_l, b1_len_t, b1_tup_l, b1_tup_t, b1_list_l, b1_list_t, b1_int, not_b, neg_i, cmp_lt, cmp_le, cmp_gt, cmp_ge, cmp_is, cmp_isnot, cmp_eqi, cmp_nei, bin_add, bin_sub, zip_t, zip_l, dn_comp, dS_for, bnd_ret, bnd_bnd, fn_eq, fnR_eq, List.map_cons, List.map_nil, List.cons_append, List.nil_append, List.append_nil, List.length_cons, List.length_nil, List.replicate_succ, List.replicate_zero, Nat.sub_self, Nat.reduceAdd, Nat.reduceSub, Nat.zero_add, List.set_cons_zero, List.set_cons_succ, List.getElem?_cons_zero, List.getElem?_cons_succ, dS_asgT, dS_kill, be_nm, be_tup, be_nil, be_cons, dn_b2, fk_eq, cmp_t, cmp_c, cmp_n, cmp_call, cmp_a, cmp_o, mapX_ret, filX_ret, m_norm, notin_rows, decide_eq_false c1, Bool.not_false, m_latest_ofT, e, none_opt, Option.isNone_some, push_ok hp, List.map_append]
  erw [h1.1]
  have hl1 : (nubOf G).length ≤ sizeLine := by
    have := h1.2
    rw [Nat.zero_add] at this
    exact Nat.le_trans this hz
  have hL : ∀ g ∈ sortRows (nubOf G), g.length = n := fun y hy => by
    obtain ⟨g, hg, _, rfl⟩ := mem_nub.mp ((sort_perm _).mem_iff.mp hy)
    rw [norm_len, hG g hg]
  have e0 : G.foldl addN [] = nubOf G := rfl
  simp -implicitDefEqProofs only [wipeE, Tg.slots, k_nx, k_rt, e_nx, e_rt, br_t, br_f, dS_nil, dS_seq, dS_nm, own_list, dS_newL, dS_par, sl_f, sl_t, dS_ite, dS_ret, dS_expr, dS_app, ap_own, dS_aug, au_val, dS_frz, fr_own, asB_bool, asI_int, items_l, items_t, dn_nil, dn_cons, dn_star, lo_l, lo_d, vk, dn_var, ok_, dn_own, dn_lit, dn_glob, dn_bin, dn_neg, dn_not, dn_cmp, dn_chain, ch_t, ch_f, dn_and, dn_or, dn_ite, an_t, an_f, or_t, or_f, it_t, it_f, dn_tup, dn_list, tup0, tup1, tup2, tup3, lst0, lst1, lst2, lst3, dn_ix, dn_slice, dn_call, call1, call2, call3, call4, call5, rk, dn_callR, dn_b1, dn_b2, dn_isI, dn_isTL, dn_range1, dn_range2, dn_zip, b1_len_l, b1_len_t, b1_tup_l, b1_tup_t, b1_list_l, b1_list_t, b1_int, not_b, neg_i, cmp_lt, cmp_le, cmp_gt, cmp_ge, cmp_is, cmp_isnot, cmp_eqi, cmp_nei, bin_add, bin_sub, zip_t, zip_l, dn_comp, dS_for, bnd_ret, bnd_bnd, fn_eq, fnR_eq, List.map_cons, List.map_nil, List.cons_append, List.nil_append, List.append_nil, List.length_cons, List.length_nil, List.replicate_succ, List.replicate_zero, Nat.sub_self, Nat.reduceAdd, Nat.reduceSub, Nat.zero_add, List.set_cons_zero, List.set_cons_succ, List.getElem?_cons_zero, List.getElem?_cons_succ, dS_asgT, dS_kill, be_nm, be_tup, be_nil, be_cons, dn_b2, e0, dn_sortK, sortK_rows hl1]
  generalize hS : sortRows (nubOf G) = L at hL
  have h2 := for_inv (t := .nm 2) (B := (.seq (.asg (.nm 3) (.comp (.var 4) (.nm 4) (.var 1) (.cmp .ne (.var 4) (.var 2)))) (.seq (.ite (.cmp .eq (.call "made_of" 2 f_made_of (.cons (.var 3) (.cons (.var 2) .nil))) (.var 2)) (.seq (.asg (.nm 1) (.var 3)) .nil) .nil) (.seq (.kill 2) (.seq (.kill 3) .nil)))))
    (enc := rowD) (fun left : List (List La) => [.val (.list (G.map rowD)), .val (.list (left.map rowD)), .no, .no, .no]) dropMade (fun k left => True) (xs := L) (s := L) (n := 0) trivial fun k left g hg _ hk _ => by
    refine ⟨?_, trivial⟩
    have hg2 : g.length ≤ 1000 := by rw [hL g hg]; exact hn
    simp -implicitDefEqProofs only [wipeE, Tg.slots, k_nx, k_rt, e_nx, e_rt, br_t, br_f, dS_nil, dS_seq, dS_nm, own_list, dS_newL, dS_par, sl_f, sl_t, dS_ite, dS_ret, dS_expr, dS_app, ap_own, dS_aug, au_val, dS_frz, fr_own, asB_bool, asI_int, items_l, items_t, dn_nil, dn_cons, dn_star, lo_l, lo_d, vk, dn_var, ok_, dn_own, dn_lit, dn_glob, dn_bin, dn_neg, dn_not, dn_cmp, dn_chain, ch_t, ch_f, dn_and, dn_or, dn_ite, an_t, an_f, or_t, or_f, it_t, it_f, dn_tup, dn_list, tup0, tup1, tup2, tup3, lst0, lst1, lst2, lst3, dn_ix, dn_slice, dn_call, call1, call2, call3, call4, call5, rk, dn_callR, dn_b1, dn_b2, dn_isI, dn_isTL, dn_range1, dn_range2, dn_zip, b1_len_l, b1_len_t, b1_tup_l, b1_tup_t, b1_list_l, b1_list_t, b1_int, not_b, neg_i, cmp_lt, cmp_le, cmp_gt, cmp_ge, cmp_is, cmp_isnot, cmp_eqi, cmp_nei, bin_add, bin_sub, zip_t, zip_l, dn_comp, dS_for, bnd_ret, bnd_bnd, fn_eq, fnR_eq, List.map_cons, List.map_nil, List.cons_append, List.nil_append, List.append_nil, List.length_cons, List.length_nil, List.replicate_succ, List.replicate_zero, Nat.sub_self, Nat.reduceAdd, Nat.reduceSub, Nat.zero_add, List.set_cons_zero, List.set_cons_succ, List.getElem?_cons_zero, List.getElem?_cons_succ, dS_asgT, dS_kill, be_nm, be_tup, be_nil, be_cons, dn_b2, fk_eq, cmp_t, cmp_c, cmp_n, cmp_call, cmp_a, cmp_o, mapX_ret, filX_ret, ne_rowS]
    unfold dropMade
    by_cases c : madeOf (left.filter fun t => !decide (t = g)) g = g
    · rw [if_pos c]
      simp -implicitDefEqProofs only [wipeE, Tg.slots, k_nx, k_rt, e_nx, e_rt, br_t, br_f, dS_nil, dS_seq, dS_nm, own_list, dS_newL, dS_par, sl_f, sl_t, dS_ite, dS_ret, dS_expr, dS_app, ap_own, dS_aug, au_val, dS_frz, fr_own, asB_bool, asI_int, items_l, items_t, dn_nil, dn_cons, dn_star, lo_l, lo_d, vk, dn_var, ok_, dn_own, dn_lit, dn_glob, dn_bin, dn_neg, dn_not, dn_cmp, dn_chain, ch_t, ch_f, dn_and, dn_or, dn_ite, an_t, an_f, or_t, or_f, it_t, it_f, dn_tup, dn_list, tup0, tup1, tup2, tup3, lst0, lst1, lst2, lst3, dn_ix, dn_slice, dn_call, call1, call2, call3, call4, call5, rk, dn_callR, dn_b1, dn_b2, dn_isI, dn_isTL, dn_range1, dn_range2, dn_zip, b1_len_l, b1_len_t, b1_tup_l, b1_tup_t, b1_list_l, b1_list_t, b1_int, not_b, neg_i, cmp_lt, cmp_le, cmp_gt, cmp_ge, cmp_is, cmp_isnot, cmp_eqi, cmp_nei, bin_add, bin_sub, zip_t, zip_l, dn_comp, dS_for, bnd_ret, bnd_bnd, fn_eq, fnR_eq, List.map_cons, List.map_nil, List.cons_append, List.nil_append, List.append_nil, List.length_cons, List.length_nil, List.replicate_succ, List.replicate_zero, Nat.sub_self, Nat.reduceAdd, Nat.reduceSub, Nat.zero_add, List.set_cons_zero, List.set_cons_succ, List.getElem?_cons_zero, List.getElem?_cons_succ, dS_asgT, dS_kill, be_nm, be_tup, be_nil, be_cons, dn_b2, fk_eq, cmp_t, cmp_c, cmp_n, cmp_call, cmp_a, cmp_o, mapX_ret, filX_ret, m_made_of hg2, eq_rowS, decide_eq_true c]
    · rw [if_neg c]
      simp -implicitDefEqProofs only [wipeE, Tg.slots, k_nx, k_rt, e_nx, e_rt, br_t, br_f, dS_nil, dS_seq, dS_nm, own_list, dS_newL, dS_par, sl_f, sl_t, dS_ite, dS_ret, dS_expr, dS_app, ap_own, dS_aug, au_val, dS_frz, fr_own, asB_bool, asI_int, items_l, items_t, dn_nil, dn_cons, dn_star, lo_l, lo_d, vk, dn_var, ok_, dn_own, dn_lit, dn_glob, dn_bin, dn_neg, dn_not, dn_cmp, dn_chain, ch_t, ch_f, dn_and, dn_or, dn_ite, an_t, an_f, or_t, or_f, it_t, it_f, dn_tup, dn_list, tup0, tup1, tup2, tup3, lst0, lst1, lst2, lst3, dn_ix, dn_slice, dn_call, call1, call2, call3, call4, call5, rk, dn_callR, dn_b1, dn_b2, dn_isI, dn_isTL, dn_range1, dn_range2, dn_zip, b1_len_l, b1_len_t, b1_tup_l, b1_tup_t, b1_list_l, b1_list_t, b1_int, not_b, neg_i, cmp_lt, cmp_le, cmp_gt, cmp_ge, cmp_is, cmp_isnot, cmp_eqi, cmp_nei, bin_add, bin_sub, zip_t, zip_l, dn_comp, dS_for, bnd_ret, bnd_bnd, fn_eq, fnR_eq, List.map_cons, List.map_nil, List.cons_append, List.nil_append, List.append_nil, List.length_cons, List.length_nil, List.replicate_succ, List.replicate_zero, Nat.sub_self, Nat.reduceAdd, Nat.reduceSub, Nat.zero_add, List.set_cons_zero, List.set_cons_succ, List.getElem?_cons_zero, List.getElem?_cons_succ, dS_asgT, dS_kill, be_nm, be_tup, be_nil, be_cons, dn_b2, fk_eq, cmp_t, cmp_c, cmp_n, cmp_call, cmp_a, cmp_o, mapX_ret, filX_ret, m_made_of hg2, eq_rowS, decide_eq_false c]
  erw [h2.1]
  simp -implicitDefEqProofs only [wipeE, Tg.slots, k_nx, k_rt, e_nx, e_rt, br_t, br_f, dS_nil, dS_seq, dS_nm, own_list, dS_newL, dS_par, sl_f, sl_t, dS_ite, dS_ret, dS_expr, dS_app, ap_own, dS_aug, au_val, dS_frz, fr_own, asB_bool, asI_int, items_l, items_t, dn_nil, dn_cons, dn_star, lo_l, lo_d, vk, dn_var, ok_, dn_own, dn_lit, dn_glob, dn_bin, dn_neg, dn_not, dn_cmp, dn_chain, ch_t, ch_f, dn_and, dn_or, dn_ite, an_t, an_f, or_t, or_f, it_t, it_f, dn_tup, dn_list, tup0, tup1, tup2, tup3, lst0, lst1, lst2, lst3, dn_ix, dn_slice, dn_call, call1, call2, call3, call4, call5, rk, dn_callR, dn_b1, dn_b2, dn_isI, dn_isTL, dn_range1, dn_range2, dn_zip, b1_len_l, b1_len_t, b1_tup_l, b1_tup_t, b1_list_l, b1_list_t, b1_int, not_b, neg_i, cmp_lt, cmp_le, cmp_gt, cmp_ge, cmp_is, cmp_isnot, cmp_eqi, cmp_nei, bin_add, bin_sub, zip_t, zip_l, dn_comp, dS_for, bnd_ret, bnd_bnd, fn_eq, fnR_eq, List.map_cons, List.map_nil, List.cons_append, List.nil_append, List.append_nil, List.length_cons, List.length_nil, List.replicate_succ, List.replicate_zero, Nat.sub_self, Nat.reduceAdd, Nat.reduceSub, Nat.zero_add, List.set_cons_zero, List.set_cons_succ, List.getElem?_cons_zero, List.getElem?_cons_succ, dS_asgT, dS_kill, be_nm, be_tup, be_nil, be_cons, dn_b2]
  unfold outmostOf
  rw [hS]
/-! ### the walk: the rows of a task -/
theorem fold_mix {p : List La × List La} {out : List (List La)} : ∀ (kept found : List (List La)), kept.foldl (fun found r => match sumOf p.2 r with | none => found | some right => found ++ out.map fun o => bothOf (shiftOf r ((sumOf p.1 o).getD 0)) (shiftOf o right)) found =
    found ++ (kept.filter fun r => (sumOf p.2 r).isSome).flatMap fun r => out.map fun o => bothOf (shiftOf r ((sumOf p.1 o).getD 0)) (shiftOf o ((sumOf p.2 r).getD 0))
  | [], found => by simp
  | r :: kept, found => by
    rw [List.foldl_cons, fold_mix kept]
    cases e : sumOf p.2 r with
    | none => rw [List.filter_cons_of_neg (by rw [e]; decide)]
    | some right => rw [List.filter_cons_of_pos (by rw [e]; rfl), List.flatMap_cons, e, List.append_assoc]; rfl
theorem flat_len {α β : Type} {m : Nat} {f : α → List β} : ∀ (l : List α), (∀ a ∈ l, (f a).length ≤ m) → (l.flatMap f).length ≤ l.length * m
  | [], _ => Nat.zero_le _
  | a :: l, h => by
    rw [List.flatMap_cons, List.length_append, List.length_cons, Nat.add_mul, Nat.one_mul, Nat.add_comm]
    exact Nat.add_le_add (flat_len l fun b hb => h b (List.mem_cons_of_mem _ hb)) (h a (List.mem_cons_self ..))
theorem ext_ok {i : Nat} {ρ : Ev} {e : E} {l m : List D} (h1 : ρ[i]? = some (.own l)) (h2 : den e ρ = ret (.list m)) (h3 : l.length + m.length ≤ sizeLine) : denS (.ext i e) ρ = ret (O.nx (ρ.set i (.own (l ++ m)))) := by
  show (match ρ[i]? with
    | some (.own l) => bnd (den e ρ) fun d => match d with | .list m => if l.length + m.length ≤ sizeLine then (ret (O.nx (ρ.set i (.own (l ++ m)))) : M O) else bad | _ => bad
    | _ => bad) = _
  rw [h1]
  show bnd (den e ρ) _ = _
  rw [h2, bnd_ret]
  show (if l.length + m.length ≤ sizeLine then (ret (O.nx (ρ.set i (.own (l ++ m)))) : M O) else bad) = _
  rw [if_pos h3]
theorem filter_two {α : Type} (p : α → Bool) : ∀ l : List α, (l.filter p).length + (l.filter fun x => !p x).length = l.length
  | [] => rfl
  | a :: l => by
    have ih := filter_two p l
    cases e : p a with
    | true => rw [List.filter_cons_of_pos e, List.filter_cons_of_neg (by rw [e]; decide), List.length_cons, List.length_cons]; omega
    | false => rw [List.filter_cons_of_neg (by rw [e]; decide), List.filter_cons_of_pos (by rw [e]; decide), List.length_cons, List.length_cons]; omega
theorem square_le {k o m : Nat} (h : k + o = m) : 4 * (k + k * o) ≤ 4 * m + m * m := by
  subst h
  rcases Nat.le_total k o with h | h
  · obtain ⟨d, rfl⟩ := Nat.exists_eq_add_of_le h
    have h0 := Nat.zero_le (d * d)
    have e := Nat.mul_comm d k
    simp only [Nat.add_mul, Nat.mul_add]
    omega
  · obtain ⟨d, rfl⟩ := Nat.exists_eq_add_of_le h
    have h0 := Nat.zero_le (d * d)
    have e := Nat.mul_comm d o
    simp only [Nat.add_mul, Nat.mul_add]
    omega
theorem mixes_len (p : List La × List La) (G : List (List La)) : 4 * (mixes p G).length ≤ 4 * G.length + G.length * G.length := by
  have h1 := filter_two (keeps1 p) G
  have h2 : (mixes p G).length ≤ (G.filter (keeps1 p)).length + (G.filter (keeps1 p)).length * (G.filter fun o => !keeps1 p o).length := by
    unfold mixes
    rw [List.length_append]
    refine Nat.add_le_add_left (Nat.le_trans (flat_len (m := (G.filter fun o => !keeps1 p o).length) _ fun a _ => by rw [List.length_map]; exact Nat.le_refl _) (Nat.mul_le_mul_right _ (List.length_filter_le ..))) _
  have h3 := square_le h1
  omega
theorem drop_len : ∀ (todo left : List (List La)), (todo.foldl dropMade left).length ≤ left.length
  | [], left => Nat.le_refl _
  | row :: todo, left => by
    rw [List.foldl_cons]
    refine Nat.le_trans (drop_len todo _) ?_
    unfold dropMade
    split
    · exact List.length_filter_le ..
    · exact Nat.le_refl _
theorem nub_len : ∀ (G left : List (List La)), (G.foldl addN left).length ≤ left.length + G.length
  | [], left => Nat.le_refl _
  | g :: G, left => by
    rw [List.foldl_cons]
    refine Nat.le_trans (nub_len G _) ?_
    unfold addN
    rw [List.length_cons]
    split
    · rw [List.length_append, List.length_singleton]; omega
    · omega
theorem outmost_len (G : List (List La)) : (outmostOf G).length ≤ G.length := by
  refine Nat.le_trans (drop_len _ _) ?_
  rw [(sort_perm _).length_eq]
  have := nub_len G []
  simpa [nubOf] using this
theorem with_len (p : List La × List La) (G : List (List La)) : 4 * (withPair G p).length ≤ 4 * G.length + G.length * G.length := by
  have h1 := outmost_len (mixes p G)
  have h2 := mixes_len p G
  unfold withPair
  omega
theorem m_with_pair {G : List (List La)} {p : List La × List La} {n : Nat} (hG : Rows n G) (hn : n ≤ 1000) (hz : G.length ≤ 4000) (h1 : p.1.length = n) (h2 : p.2.length = n) : f_with_pair [.list (G.map rowD), pairD p] = ret (.list ((withPair G p).map rowD)) := by
  obtain ⟨a, b⟩ := p
  unfold f_with_pair B_with_pair pairD
  have hk2 := filter_two (keeps1 (a, b)) G
  simp -implicitDefEqProofs only [wipeE, Tg.slots, k_nx, k_rt, e_nx, e_rt, br_t, br_f, dS_nil, dS_seq, dS_nm, own_list, dS_newL, dS_par, sl_f, sl_t, dS_ite, dS_ret, dS_expr, dS_app, ap_own, dS_aug, au_val, dS_frz, fr_own, asB_bool, asI_int, items_l, items_t, dn_nil, dn_cons, dn_star, lo_l, lo_d, vk, dn_var, ok_, dn_own, dn_lit, dn_glob, dn_bin, dn_neg, dn_not, dn_cmp, dn_chain, ch_t, ch_f, dn_and, dn_or, dn_ite, an_t, an_f, or_t, or_f, it_t, it_f, dn_tup, dn_list, tup0, tup1, tup2, tup3, lst0, lst1, lst2, lst3, dn_ix, dn_slice, dn_call, call1, call2, call3, call4, call5, rk, dn_callR, dn_b1, dn_b2, dn_isI, dn_isTL, dn_range1, dn_range2, dn_zip, b1_len_l, b1_len_t, b1_tup_l, b1_tup_t, b1_list_l, b1_list_t, b1_int, not_b, neg_i, cmp_lt, cmp_le, cmp_gt, cmp_ge, cmp_is, cmp_isnot, cmp_eqi, cmp_nei, bin_add, bin_sub, zip_t, zip_l, dn_comp, dS_for, bnd_ret, bnd_bnd, fn_eq, fnR_eq, List.map_cons, List.map_nil, List.cons_append, List.nil_append, List.append_nil, List.length_cons, List.length_nil, List.replicate_succ, List.replicate_zero, Nat.sub_self, Nat.reduceAdd, Nat.reduceSub, Nat.zero_add, List.set_cons_zero, List.set_cons_succ, List.getElem?_cons_zero, List.getElem?_cons_succ, dS_asgT, dS_kill, be_nm, be_tup, be_nil, be_cons, dn_b2, fk_eq, cmp_t, cmp_c, cmp_n, cmp_call, cmp_a, cmp_o, mapX_ret, filX_ret, m_sum_of, m_is_by, not_b]
  have e1 : (G.filter fun x => isBy (sumOf a x) (sumOf b x)) = G.filter (keeps1 (a, b)) := rfl
  have e2 : (G.filter fun x => !isBy (sumOf a x) (sumOf b x)) = G.filter fun o => !keeps1 (a, b) o := rfl
  simp -implicitDefEqProofs only [wipeE, Tg.slots, k_nx, k_rt, e_nx, e_rt, br_t, br_f, dS_nil, dS_seq, dS_nm, own_list, dS_newL, dS_par, sl_f, sl_t, dS_ite, dS_ret, dS_expr, dS_app, ap_own, dS_aug, au_val, dS_frz, fr_own, asB_bool, asI_int, items_l, items_t, dn_nil, dn_cons, dn_star, lo_l, lo_d, vk, dn_var, ok_, dn_own, dn_lit, dn_glob, dn_bin, dn_neg, dn_not, dn_cmp, dn_chain, ch_t, ch_f, dn_and, dn_or, dn_ite, an_t, an_f, or_t, or_f, it_t, it_f, dn_tup, dn_list, tup0, tup1, tup2, tup3, lst0, lst1, lst2, lst3, dn_ix, dn_slice, dn_call, call1, call2, call3, call4, call5, rk, dn_callR, dn_b1, dn_b2, dn_isI, dn_isTL, dn_range1, dn_range2, dn_zip, b1_len_l, b1_len_t, b1_tup_l, b1_tup_t, b1_list_l, b1_list_t, b1_int, not_b, neg_i, cmp_lt, cmp_le, cmp_gt, cmp_ge, cmp_is, cmp_isnot, cmp_eqi, cmp_nei, bin_add, bin_sub, zip_t, zip_l, dn_comp, dS_for, bnd_ret, bnd_bnd, fn_eq, fnR_eq, List.map_cons, List.map_nil, List.cons_append, List.nil_append, List.append_nil, List.length_cons, List.length_nil, List.replicate_succ, List.replicate_zero, Nat.sub_self, Nat.reduceAdd, Nat.reduceSub, Nat.zero_add, List.set_cons_zero, List.set_cons_succ, List.getElem?_cons_zero, List.getElem?_cons_succ, dS_asgT, dS_kill, be_nm, be_tup, be_nil, be_cons, dn_b2, fk_eq, cmp_t, cmp_c, cmp_n, cmp_call, cmp_a, cmp_o, mapX_ret, filX_ret, e1, e2]
  generalize hK : G.filter (keeps1 (a, b)) = K at *
  generalize hO : (G.filter fun o => !keeps1 (a, b) o) = O' at *
  have hOk : ∀ o ∈ O', ∃ α, sumOf a o = some α := fun o ho => by
    rw [← hO] at ho
    obtain ⟨α, e, _⟩ := not_keeps (p := (a, b)) (by simpa using (List.mem_filter.mp ho).2)
    exact ⟨α, e⟩
  have hline : (4000 : Nat) + 4000 * 4000 ≤ sizeLine := by decide
  have hbound : K.length * (O'.length + 1) ≤ 4000 * 4001 := Nat.mul_le_mul (by omega) (by omega)
  have hI := for_inv (t := .nm 7) (B := (.seq (.asg (.nm 8) (.call "sum_of" 2 f_sum_of (.cons (.var 3) (.cons (.var 7) .nil)))) (.seq (.ite (.cmp .isnot (.var 8) (.lit .none)) (.seq (.ext 6 (.comp (.call "both_of" 2 f_both_of (.cons (.call "shift_of" 2 f_shift_of (.cons (.var 7) (.cons (.call "sum_of" 2 f_sum_of (.cons (.var 2) (.cons (.var 9) .nil))) .nil))) (.cons (.call "shift_of" 2 f_shift_of (.cons (.var 9) (.cons (.var 8) .nil))) .nil))) (.nm 9) (.var 5) (.lit (.bool true)))) .nil) .nil) (.seq (.kill 7) (.seq (.kill 8) .nil)))))
    (enc := rowD) (fun found : List (List La) => [.val (.list (G.map rowD)), .val (.tuple [rowD a, rowD b]), .val (rowD a), .val (rowD b), .val (.list (K.map rowD)), .val (.list (O'.map rowD)), .own (found.map rowD), .no, .no, .no])
    (fun found r => match sumOf b r with | none => found | some right => found ++ O'.map fun o => bothOf (shiftOf r ((sumOf a o).getD 0)) (shiftOf o right))
    (fun k found => found.length ≤ K.length + k * O'.length) (xs := K) (s := K) (n := 0) (by omega) fun k found r hr _ hk hl => by
    rw [Nat.zero_add] at hk
    cases e : sumOf b r with
    | none => exact ⟨by simp -implicitDefEqProofs only [wipeE, Tg.slots, k_nx, k_rt, e_nx, e_rt, br_t, br_f, dS_nil, dS_seq, dS_nm, own_list, dS_newL, dS_par, sl_f, sl_t, dS_ite, dS_ret, dS_expr, dS_app, ap_own, dS_aug, au_val, dS_frz, fr_own, asB_bool, asI_int, items_l, items_t, dn_nil, dn_cons, dn_star, lo_l, lo_d, vk, dn_var, ok_, dn_own, dn_lit, dn_glob, dn_bin, dn_neg, dn_not, dn_cmp, dn_chain, ch_t, ch_f, dn_and, dn_or, dn_ite, an_t, an_f, or_t, or_f, it_t, it_f, dn_tup, dn_list, tup0, tup1, tup2, tup3, lst0, lst1, lst2, lst3, dn_ix, dn_slice, dn_call, call1, call2, call3, call4, call5, rk, dn_callR, dn_b1, dn_b2, dn_isI, dn_isTL, dn_range1, dn_range2, dn_zip, b1_len_l, b1_len_t, b1_tup_l, b1_tup_t, b1_list_l, b1_list_t, b1_int, not_b, neg_i, cmp_lt, cmp_le, cmp_gt, cmp_ge, cmp_is, cmp_isnot, cmp_eqi, cmp_nei, bin_add, bin_sub, zip_t, zip_l, dn_comp, dS_for, bnd_ret, bnd_bnd, fn_eq, fnR_eq, List.map_cons, List.map_nil, List.cons_append, List.nil_append, List.append_nil, List.length_cons, List.length_nil, List.replicate_succ, List.replicate_zero, Nat.sub_self, Nat.reduceAdd, Nat.reduceSub, Nat.zero_add, List.set_cons_zero, List.set_cons_succ, List.getElem?_cons_zero, List.getElem?_cons_succ, dS_asgT, dS_kill, be_nm, be_tup, be_nil, be_cons, dn_b2, fk_eq, cmp_t, cmp_c, cmp_n, cmp_call, cmp_a, cmp_o, mapX_ret, filX_ret, m_sum_of, e, none_opt, Option.isNone_none, Bool.not_true], by dsimp only; rw [Nat.add_mul]; omega⟩
    | some right =>
      dsimp only
      refine ⟨?_, by rw [List.length_append, List.length_map, Nat.add_mul]; omega⟩
      simp -implicitDefEqProofs only [wipeE, Tg.slots, k_nx, k_rt, e_nx, e_rt, br_t, br_f, dS_nil, dS_seq, dS_nm, own_list, dS_newL, dS_par, sl_f, sl_t, dS_ite, dS_ret, dS_expr, dS_app, ap_own, dS_aug, au_val, dS_frz, fr_own, asB_bool, asI_int, items_l, items_t, dn_nil, dn_cons, dn_star, lo_l, lo_d, vk, dn_var, ok_, dn_own, dn_lit, dn_glob, dn_bin, dn_neg, dn_not, dn_cmp, dn_chain, ch_t, ch_f, dn_and, dn_or, dn_ite, an_t, an_f, or_t, or_f, it_t, it_f, dn_tup, dn_list, tup0, tup1, tup2, tup3, lst0, lst1, lst2, lst3, dn_ix, dn_slice, dn_call, call1, call2, call3, call4, call5, rk, dn_callR, dn_b1, dn_b2, dn_isI, dn_isTL, dn_range1, dn_range2, dn_zip, b1_len_l, b1_len_t, b1_tup_l, b1_tup_t, b1_list_l, b1_list_t, b1_int, not_b, neg_i, cmp_lt, cmp_le, cmp_gt, cmp_ge, cmp_is, cmp_isnot, cmp_eqi, cmp_nei, bin_add, bin_sub, zip_t, zip_l, dn_comp, dS_for, bnd_ret, bnd_bnd, fn_eq, fnR_eq, List.map_cons, List.map_nil, List.cons_append, List.nil_append, List.append_nil, List.length_cons, List.length_nil, List.replicate_succ, List.replicate_zero, Nat.sub_self, Nat.reduceAdd, Nat.reduceSub, Nat.zero_add, List.set_cons_zero, List.set_cons_succ, List.getElem?_cons_zero, List.getElem?_cons_succ, dS_asgT, dS_kill, be_nm, be_tup, be_nil, be_cons, dn_b2, fk_eq, cmp_t, cmp_c, cmp_n, cmp_call, cmp_a, cmp_o, mapX_ret, filX_ret, m_sum_of, e, none_opt, Option.isNone_some, Bool.not_false]
      rw [ext_ok (l := found.map rowD) (m := (O'.map fun o => bothOf (shiftOf r ((sumOf a o).getD 0)) (shiftOf o right)).map rowD) rfl (by
        simp -implicitDefEqProofs only [wipeE, Tg.slots, k_nx, k_rt, e_nx, e_rt, br_t, br_f, dS_nil, dS_seq, dS_nm, own_list, dS_newL, dS_par, sl_f, sl_t, dS_ite, dS_ret, dS_expr, dS_app, ap_own, dS_aug, au_val, dS_frz, fr_own, asB_bool, asI_int, items_l, items_t, dn_nil, dn_cons, dn_star, lo_l, lo_d, vk, dn_var, ok_, dn_own, dn_lit, dn_glob, dn_bin, dn_neg, dn_not, dn_cmp, dn_chain, ch_t, ch_f, dn_and, dn_or, dn_ite, an_t, an_f, or_t, or_f, it_t, it_f, dn_tup, dn_list, tup0, tup1, tup2, tup3, lst0, lst1, lst2, lst3, dn_ix, dn_slice, dn_call, call1, call2, call3, call4, call5, rk, dn_callR, dn_b1, dn_b2, dn_isI, dn_isTL, dn_range1, dn_range2, dn_zip, b1_len_l, b1_len_t, b1_tup_l, b1_tup_t, b1_list_l, b1_list_t, b1_int, not_b, neg_i, cmp_lt, cmp_le, cmp_gt, cmp_ge, cmp_is, cmp_isnot, cmp_eqi, cmp_nei, bin_add, bin_sub, zip_t, zip_l, dn_comp, dS_for, bnd_ret, bnd_bnd, fn_eq, fnR_eq, List.map_cons, List.map_nil, List.cons_append, List.nil_append, List.append_nil, List.length_cons, List.length_nil, List.replicate_succ, List.replicate_zero, Nat.sub_self, Nat.reduceAdd, Nat.reduceSub, Nat.zero_add, List.set_cons_zero, List.set_cons_succ, List.getElem?_cons_zero, List.getElem?_cons_succ, dS_asgT, dS_kill, be_nm, be_tup, be_nil, be_cons, dn_b2, fk_eq, cmp_t, cmp_c, cmp_n, cmp_call, cmp_a, cmp_o, mapX_ret, filX_ret]
        rw [mapX_mem (fun o => rowD (bothOf (shiftOf r ((sumOf a o).getD 0)) (shiftOf o right))) fun o ho => by
          obtain ⟨α, ea⟩ := hOk o ho
          simp -implicitDefEqProofs only [wipeE, Tg.slots, k_nx, k_rt, e_nx, e_rt, br_t, br_f, dS_nil, dS_seq, dS_nm, own_list, dS_newL, dS_par, sl_f, sl_t, dS_ite, dS_ret, dS_expr, dS_app, ap_own, dS_aug, au_val, dS_frz, fr_own, asB_bool, asI_int, items_l, items_t, dn_nil, dn_cons, dn_star, lo_l, lo_d, vk, dn_var, ok_, dn_own, dn_lit, dn_glob, dn_bin, dn_neg, dn_not, dn_cmp, dn_chain, ch_t, ch_f, dn_and, dn_or, dn_ite, an_t, an_f, or_t, or_f, it_t, it_f, dn_tup, dn_list, tup0, tup1, tup2, tup3, lst0, lst1, lst2, lst3, dn_ix, dn_slice, dn_call, call1, call2, call3, call4, call5, rk, dn_callR, dn_b1, dn_b2, dn_isI, dn_isTL, dn_range1, dn_range2, dn_zip, b1_len_l, b1_len_t, b1_tup_l, b1_tup_t, b1_list_l, b1_list_t, b1_int, not_b, neg_i, cmp_lt, cmp_le, cmp_gt, cmp_ge, cmp_is, cmp_isnot, cmp_eqi, cmp_nei, bin_add, bin_sub, zip_t, zip_l, dn_comp, dS_for, bnd_ret, bnd_bnd, fn_eq, fnR_eq, List.map_cons, List.map_nil, List.cons_append, List.nil_append, List.append_nil, List.length_cons, List.length_nil, List.replicate_succ, List.replicate_zero, Nat.sub_self, Nat.reduceAdd, Nat.reduceSub, Nat.zero_add, List.set_cons_zero, List.set_cons_succ, List.getElem?_cons_zero, List.getElem?_cons_succ, dS_asgT, dS_kill, be_nm, be_tup, be_nil, be_cons, dn_b2, fk_eq, cmp_t, cmp_c, cmp_n, cmp_call, cmp_a, cmp_o, mapX_ret, filX_ret, m_sum_of, ea, show optD (some α) = .int α from rfl, show optD (some right) = .int right from rfl, m_shift_of, m_both_of]
          rfl]
        simp -implicitDefEqProofs only [wipeE, Tg.slots, k_nx, k_rt, e_nx, e_rt, br_t, br_f, dS_nil, dS_seq, dS_nm, own_list, dS_newL, dS_par, sl_f, sl_t, dS_ite, dS_ret, dS_expr, dS_app, ap_own, dS_aug, au_val, dS_frz, fr_own, asB_bool, asI_int, items_l, items_t, dn_nil, dn_cons, dn_star, lo_l, lo_d, vk, dn_var, ok_, dn_own, dn_lit, dn_glob, dn_bin, dn_neg, dn_not, dn_cmp, dn_chain, ch_t, ch_f, dn_and, dn_or, dn_ite, an_t, an_f, or_t, or_f, it_t, it_f, dn_tup, dn_list, tup0, tup1, tup2, tup3, lst0, lst1, lst2, lst3, dn_ix, dn_slice, dn_call, call1, call2, call3, call4, call5, rk, dn_callR, dn_b1, dn_b2, dn_isI, dn_isTL, dn_range1, dn_range2, dn_zip, b1_len_l, b1_len_t, b1_tup_l, b1_tup_t, b1_list_l, b1_list_t, b1_int, not_b, neg_i, cmp_lt, cmp_le, cmp_gt, cmp_ge, cmp_is, cmp_isnot, cmp_eqi, cmp_nei, bin_add, bin_sub, zip_t, zip_l, dn_comp, dS_for, bnd_ret, bnd_bnd, fn_eq, fnR_eq, List.map_cons, List.map_nil, List.cons_append, List.nil_append, List.append_nil, List.length_cons, List.length_nil, List.replicate_succ, List.replicate_zero, Nat.sub_self, Nat.reduceAdd, Nat.reduceSub, Nat.zero_add, List.set_cons_zero, List.set_cons_succ, List.getElem?_cons_zero, List.getElem?_cons_succ, dS_asgT, dS_kill, be_nm, be_tup, be_nil, be_cons, dn_b2, fk_eq, cmp_t, cmp_c, cmp_n, cmp_call, cmp_a, cmp_o, mapX_ret, filX_ret, List.map_map]
        rfl) (by
        rw [List.length_map, List.length_map, List.length_map]
        have h3 : k * O'.length + O'.length ≤ K.length * O'.length := by
          have := Nat.mul_le_mul_right O'.length (show k + 1 ≤ K.length by omega)
          rw [Nat.add_mul] at this
          omega
        rw [Nat.mul_add] at hbound
        omega)]
      simp -implicitDefEqProofs only [wipeE, Tg.slots, k_nx, k_rt, e_nx, e_rt, br_t, br_f, dS_nil, dS_seq, dS_nm, own_list, dS_newL, dS_par, sl_f, sl_t, dS_ite, dS_ret, dS_expr, dS_app, ap_own, dS_aug, au_val, dS_frz, fr_own, asB_bool, asI_int, items_l, items_t, dn_nil, dn_cons, dn_star, lo_l, lo_d, vk, dn_var, ok_, dn_own, dn_lit, dn_glob, dn_bin, dn_neg, dn_not, dn_cmp, dn_chain, ch_t, ch_f, dn_and, dn_or, dn_ite, an_t, an_f, or_t, or_f, it_t, it_f, dn_tup, dn_list, tup0, tup1, tup2, tup3, lst0, lst1, lst2, lst3, dn_ix, dn_slice, dn_call, call1, call2, call3, call4, call5, rk, dn_callR, dn_b1, dn_b2, dn_isI, dn_isTL, dn_range1, dn_range2, dn_zip, b1_len_l, b1_len_t, b1_tup_l, b1_tup_t, b1_list_l, b1_list_t, b1_int, not_b, neg_i, cmp_lt, cmp_le, cmp_gt, cmp_ge, cmp_is, cmp_isnot, cmp_eqi, cmp_nei, bin_add, bin_sub, zip_t, zip_l, dn_comp, dS_for, bnd_ret, bnd_bnd, fn_eq, fnR_eq, List.map_cons, List.map_nil, List.cons_append, List.nil_append, List.append_nil, List.length_cons, List.length_nil, List.replicate_succ, List.replicate_zero, Nat.sub_self, Nat.reduceAdd, Nat.reduceSub, Nat.zero_add, List.set_cons_zero, List.set_cons_succ, List.getElem?_cons_zero, List.getElem?_cons_succ, dS_asgT, dS_kill, be_nm, be_tup, be_nil, be_cons, dn_b2, fk_eq, cmp_t, cmp_c, cmp_n, cmp_call, cmp_a, cmp_o, mapX_ret, filX_ret, ← List.map_append]
  erw [hI.1]
  have hlen := hI.2
  have hm := fold_mix (p := (a, b)) (out := O') K K
  dsimp only at hm
  rw [hm] at hlen ⊢
  have hmx : K ++ (K.filter fun r => (sumOf b r).isSome).flatMap (fun r => O'.map fun o => bothOf (shiftOf r ((sumOf a o).getD 0)) (shiftOf o ((sumOf b r).getD 0))) = mixes (a, b) G := by
    unfold mixes
    rw [hK, hO]
  rw [hmx] at hlen ⊢
  have hml : (mixes (a, b) G).length ≤ sizeLine := by
    have h4 : K.length * O'.length + K.length ≤ 4000 * 4001 := by rw [Nat.mul_add] at hbound; omega
    rw [Nat.zero_add] at hlen
    omega
  simp -implicitDefEqProofs only [wipeE, Tg.slots, k_nx, k_rt, e_nx, e_rt, br_t, br_f, dS_nil, dS_seq, dS_nm, own_list, dS_newL, dS_par, sl_f, sl_t, dS_ite, dS_ret, dS_expr, dS_app, ap_own, dS_aug, au_val, dS_frz, fr_own, asB_bool, asI_int, items_l, items_t, dn_nil, dn_cons, dn_star, lo_l, lo_d, vk, dn_var, ok_, dn_own, dn_lit, dn_glob, dn_bin, dn_neg, dn_not, dn_cmp, dn_chain, ch_t, ch_f, dn_and, dn_or, dn_ite, an_t, an_f, or_t, or_f, it_t, it_f, dn_tup, dn_list, tup0, tup1, tup2, tup3, lst0, lst1, lst2, lst3, dn_ix, dn_slice, dn_call, call1, call2, call3, call4, call5, rk, dn_callR, dn_b1, dn_b2, dn_isI, dn_isTL, dn_range1, dn_range2, dn_zip, b1_len_l, b1_len_t, b1_tup_l, b1_tup_t, b1_list_l, b1_list_t, b1_int, not_b, neg_i, cmp_lt, cmp_le, cmp_gt, cmp_ge, cmp_is, cmp_isnot, cmp_eqi, cmp_nei, bin_add, bin_sub, zip_t, zip_l, dn_comp, dS_for, bnd_ret, bnd_bnd, fn_eq, fnR_eq, List.map_cons, List.map_nil, List.cons_append, List.nil_append, List.append_nil, List.length_cons, List.length_nil, List.replicate_succ, List.replicate_zero, Nat.sub_self, Nat.reduceAdd, Nat.reduceSub, Nat.zero_add, List.set_cons_zero, List.set_cons_succ, List.getElem?_cons_zero, List.getElem?_cons_succ, dS_asgT, dS_kill, be_nm, be_tup, be_nil, be_cons, dn_b2, m_outmost_of (mixes_rows hG) hn hml]
  rfl
theorem natD_eq (i j : Nat) : cmpD .eq (.int (i : Int)) (.int (j : Int)) = ret (.bool (decide (i = j))) := by
  rw [cmp_eqi]
  have e : decide ((i : Int) = (j : Int)) = decide (i = j) := decide_eq_decide.mpr ⟨fun h => by omega, fun h => by omega⟩
  rw [e]
theorem m_unit_rows {n : Nat} (hn : n ≤ 1000) : f_unit_rows [.int (n : Int)] = ret (.list ((unitRows n).map rowD)) := by
  unfold f_unit_rows B_unit_rows
  simp -implicitDefEqProofs only [wipeE, Tg.slots, k_nx, k_rt, e_nx, e_rt, br_t, br_f, dS_nil, dS_seq, dS_nm, own_list, dS_newL, dS_par, sl_f, sl_t, dS_ite, dS_ret, dS_expr, dS_app, ap_own, dS_aug, au_val, dS_frz, fr_own, asB_bool, asI_int, items_l, items_t, dn_nil, dn_cons, dn_star, lo_l, lo_d, vk, dn_var, ok_, dn_own, dn_lit, dn_glob, dn_bin, dn_neg, dn_not, dn_cmp, dn_chain, ch_t, ch_f, dn_and, dn_or, dn_ite, an_t, an_f, or_t, or_f, it_t, it_f, dn_tup, dn_list, tup0, tup1, tup2, tup3, lst0, lst1, lst2, lst3, dn_ix, dn_slice, dn_call, call1, call2, call3, call4, call5, rk, dn_callR, dn_b1, dn_b2, dn_isI, dn_isTL, dn_range1, dn_range2, dn_zip, b1_len_l, b1_len_t, b1_tup_l, b1_tup_t, b1_list_l, b1_list_t, b1_int, not_b, neg_i, cmp_lt, cmp_le, cmp_gt, cmp_ge, cmp_is, cmp_isnot, cmp_eqi, cmp_nei, bin_add, bin_sub, zip_t, zip_l, dn_comp, dS_for, bnd_ret, bnd_bnd, fn_eq, fnR_eq, List.map_cons, List.map_nil, List.cons_append, List.nil_append, List.append_nil, List.length_cons, List.length_nil, List.replicate_succ, List.replicate_zero, Nat.sub_self, Nat.reduceAdd, Nat.reduceSub, Nat.zero_add, List.set_cons_zero, List.set_cons_succ, List.getElem?_cons_zero, List.getElem?_cons_succ, dS_asgT, dS_kill, be_nm, be_tup, be_nil, be_cons, dn_b2, fk_eq, cmp_t, cmp_c, cmp_n, cmp_call, cmp_a, cmp_o, mapX_ret, filX_ret, dn_sortK, range0 hn]
  rw [mapX_mem (fun k : Nat => rowD (unitRow n k)) fun k _ => by
    rw [mapX_mem (fun i : Nat => optD (if i = k then some 0 else none)) fun i _ => by
      by_cases h : i = k
      · rw [decide_eq_true (show (i : Int) = (k : Int) by omega), if_pos h]; rfl
      · rw [decide_eq_false (show ¬ (i : Int) = (k : Int) by omega), if_neg h]; rfl]
    simp -implicitDefEqProofs only [wipeE, Tg.slots, k_nx, k_rt, e_nx, e_rt, br_t, br_f, dS_nil, dS_seq, dS_nm, own_list, dS_newL, dS_par, sl_f, sl_t, dS_ite, dS_ret, dS_expr, dS_app, ap_own, dS_aug, au_val, dS_frz, fr_own, asB_bool, asI_int, items_l, items_t, dn_nil, dn_cons, dn_star, lo_l, lo_d, vk, dn_var, ok_, dn_own, dn_lit, dn_glob, dn_bin, dn_neg, dn_not, dn_cmp, dn_chain, ch_t, ch_f, dn_and, dn_or, dn_ite, an_t, an_f, or_t, or_f, it_t, it_f, dn_tup, dn_list, tup0, tup1, tup2, tup3, lst0, lst1, lst2, lst3, dn_ix, dn_slice, dn_call, call1, call2, call3, call4, call5, rk, dn_callR, dn_b1, dn_b2, dn_isI, dn_isTL, dn_range1, dn_range2, dn_zip, b1_len_l, b1_len_t, b1_tup_l, b1_tup_t, b1_list_l, b1_list_t, b1_int, not_b, neg_i, cmp_lt, cmp_le, cmp_gt, cmp_ge, cmp_is, cmp_isnot, cmp_eqi, cmp_nei, bin_add, bin_sub, zip_t, zip_l, dn_comp, dS_for, bnd_ret, bnd_bnd, fn_eq, fnR_eq, List.map_cons, List.map_nil, List.cons_append, List.nil_append, List.append_nil, List.length_cons, List.length_nil, List.replicate_succ, List.replicate_zero, Nat.sub_self, Nat.reduceAdd, Nat.reduceSub, Nat.zero_add, List.set_cons_zero, List.set_cons_succ, List.getElem?_cons_zero, List.getElem?_cons_succ, dS_asgT, dS_kill, be_nm, be_tup, be_nil, be_cons, dn_b2, fk_eq, cmp_t, cmp_c, cmp_n, cmp_call, cmp_a, cmp_o, mapX_ret, filX_ret]
    unfold rowD unitRow
    rw [List.map_map]
    rfl]
  have e : ((List.range n).map fun k => rowD (unitRow n k)) = ((List.range n).map (unitRow n)).map rowD := by rw [List.map_map]; rfl
  simp -implicitDefEqProofs only [wipeE, Tg.slots, k_nx, k_rt, e_nx, e_rt, br_t, br_f, dS_nil, dS_seq, dS_nm, own_list, dS_newL, dS_par, sl_f, sl_t, dS_ite, dS_ret, dS_expr, dS_app, ap_own, dS_aug, au_val, dS_frz, fr_own, asB_bool, asI_int, items_l, items_t, dn_nil, dn_cons, dn_star, lo_l, lo_d, vk, dn_var, ok_, dn_own, dn_lit, dn_glob, dn_bin, dn_neg, dn_not, dn_cmp, dn_chain, ch_t, ch_f, dn_and, dn_or, dn_ite, an_t, an_f, or_t, or_f, it_t, it_f, dn_tup, dn_list, tup0, tup1, tup2, tup3, lst0, lst1, lst2, lst3, dn_ix, dn_slice, dn_call, call1, call2, call3, call4, call5, rk, dn_callR, dn_b1, dn_b2, dn_isI, dn_isTL, dn_range1, dn_range2, dn_zip, b1_len_l, b1_len_t, b1_tup_l, b1_tup_t, b1_list_l, b1_list_t, b1_int, not_b, neg_i, cmp_lt, cmp_le, cmp_gt, cmp_ge, cmp_is, cmp_isnot, cmp_eqi, cmp_nei, bin_add, bin_sub, zip_t, zip_l, dn_comp, dS_for, bnd_ret, bnd_bnd, fn_eq, fnR_eq, List.map_cons, List.map_nil, List.cons_append, List.nil_append, List.append_nil, List.length_cons, List.length_nil, List.replicate_succ, List.replicate_zero, Nat.sub_self, Nat.reduceAdd, Nat.reduceSub, Nat.zero_add, List.set_cons_zero, List.set_cons_succ, List.getElem?_cons_zero, List.getElem?_cons_succ, dS_asgT, dS_kill, be_nm, be_tup, be_nil, be_cons, dn_b2, fk_eq, cmp_t, cmp_c, cmp_n, cmp_call, cmp_a, cmp_o, mapX_ret, filX_ret, e, sortK_rows (G := (List.range n).map (unitRow n)) (by rw [List.length_map, List.length_range]; exact Nat.le_trans hn (by decide))]
  rfl
theorem members_rows {n : Nat} {pairs : List (List La × List La)} (hp : ∀ p ∈ pairs, p.1.length = n ∧ p.2.length = n) : Rows n (membersOf n pairs) := (members_is hp).bare.rows
/-- how many rows there may be -/
def most : Nat → Nat → Nat
  | m, 0 => m
  | m, k + 1 => most (m + m * m / 4) k
theorem most_mono : ∀ (k : Nat) {a b : Nat}, a ≤ b → most a k ≤ most b k
  | 0, a, b, h => h
  | k + 1, a, b, h => most_mono k (Nat.add_le_add h (Nat.div_le_div_right (Nat.mul_le_mul h h)))
theorem most_le : ∀ (k : Nat) (m : Nat), m ≤ most m k
  | 0, m => Nat.le_refl _
  | k + 1, m => Nat.le_trans (Nat.le_add_right ..) (most_le k _)
theorem withs_len : ∀ (l : List (List La × List La)) (A : List (List La)) (m : Nat), A.length ≤ m → (l.foldl withPair A).length ≤ most m l.length
  | [], A, m, h => h
  | p :: l, A, m, h => by
    rw [List.foldl_cons, List.length_cons]
    refine withs_len l _ _ ?_
    have h1 := with_len p A
    have h2 := Nat.mul_le_mul h h
    omega
theorem most_succ : ∀ (k : Nat) (m : Nat), most m (k + 1) = most m k + most m k * most m k / 4
  | 0, m => rfl
  | k + 1, m => most_succ k (m + m * m / 4)
theorem unit_num (n : Nat) : (unitRows n).length = n := by
  unfold unitRows
  rw [(sort_perm _).length_eq, List.length_map, List.length_range]
theorem members_len (n : Nat) (pairs : List (List La × List La)) : (membersOf n pairs).length ≤ most n pairs.length := withs_len pairs _ n (Nat.le_of_eq (unit_num n))
theorem with_rows {n : Nat} {p : List La × List La} {G : List (List La)} (hG : Rows n G) (h1 : p.1.length = n) (h2 : p.2.length = n) : Rows n (withPair G p) := by
  exact (outmost_is (mixes_rows hG)).bare.rows
theorem m_outmost_members_of {n : Nat} {pairs : List (List La × List La)} (hn : n ≤ 1000) (hp : ∀ p ∈ pairs, p.1.length = n ∧ p.2.length = n) (hz : ∀ k, k < pairs.length → most n k ≤ 4000) : f_outmost_members_of [taskD n pairs] = ret (.list ((membersOf n pairs).map rowD)) := by
  unfold f_outmost_members_of B_outmost_members_of
  have e0 : ixD (taskD n pairs) (.int 0) = ret (.int (n : Int)) := rfl
  have e1 : ixD (taskD n pairs) (.int 1) = ret (.tuple (pairs.map pairD)) := rfl
  simp -implicitDefEqProofs only [wipeE, Tg.slots, k_nx, k_rt, e_nx, e_rt, br_t, br_f, dS_nil, dS_seq, dS_nm, own_list, dS_newL, dS_par, sl_f, sl_t, dS_ite, dS_ret, dS_expr, dS_app, ap_own, dS_aug, au_val, dS_frz, fr_own, asB_bool, asI_int, items_l, items_t, dn_nil, dn_cons, dn_star, lo_l, lo_d, vk, dn_var, ok_, dn_own, dn_lit, dn_glob, dn_bin, dn_neg, dn_not, dn_cmp, dn_chain, ch_t, ch_f, dn_and, dn_or, dn_ite, an_t, an_f, or_t, or_f, it_t, it_f, dn_tup, dn_list, tup0, tup1, tup2, tup3, lst0, lst1, lst2, lst3, dn_ix, dn_slice, dn_call, call1, call2, call3, call4, call5, rk, dn_callR, dn_b1, dn_b2, dn_isI, dn_isTL, dn_range1, dn_range2, dn_zip, b1_len_l, b1_len_t, b1_tup_l, b1_tup_t, b1_list_l, b1_list_t, b1_int, not_b, neg_i, cmp_lt, cmp_le, cmp_gt, cmp_ge, cmp_is, cmp_isnot, cmp_eqi, cmp_nei, bin_add, bin_sub, zip_t, zip_l, dn_comp, dS_for, bnd_ret, bnd_bnd, fn_eq, fnR_eq, List.map_cons, List.map_nil, List.cons_append, List.nil_append, List.append_nil, List.length_cons, List.length_nil, List.replicate_succ, List.replicate_zero, Nat.sub_self, Nat.reduceAdd, Nat.reduceSub, Nat.zero_add, List.set_cons_zero, List.set_cons_succ, List.getElem?_cons_zero, List.getElem?_cons_succ, dS_asgT, dS_kill, be_nm, be_tup, be_nil, be_cons, dn_b2, e0, e1, m_unit_rows hn]
  have h := for_inv (t := .nm 2) (B := (.seq (.asg (.nm 1) (.call "with_pair" 2 f_with_pair (.cons (.var 1) (.cons (.var 2) .nil)))) (.seq (.kill 2) .nil)))
    (enc := pairD) (fun A : List (List La) => [.val (taskD n pairs), .val (.list (A.map rowD)), .no]) withPair (fun k A => Rows n A ∧ A.length ≤ most n k) (xs := pairs) (s := unitRows n) (n := 0) ⟨(unit_bare n).1.rows, Nat.le_of_eq (unit_num n)⟩ fun k A p hpm _ hk hA => by
    rw [Nat.zero_add] at hk
    have hl := hz k hk
    refine ⟨?_, with_rows hA.1 (hp p hpm).1 (hp p hpm).2, ?_⟩
    · simp -implicitDefEqProofs only [wipeE, Tg.slots, k_nx, k_rt, e_nx, e_rt, br_t, br_f, dS_nil, dS_seq, dS_nm, own_list, dS_newL, dS_par, sl_f, sl_t, dS_ite, dS_ret, dS_expr, dS_app, ap_own, dS_aug, au_val, dS_frz, fr_own, asB_bool, asI_int, items_l, items_t, dn_nil, dn_cons, dn_star, lo_l, lo_d, vk, dn_var, ok_, dn_own, dn_lit, dn_glob, dn_bin, dn_neg, dn_not, dn_cmp, dn_chain, ch_t, ch_f, dn_and, dn_or, dn_ite, an_t, an_f, or_t, or_f, it_t, it_f, dn_tup, dn_list, tup0, tup1, tup2, tup3, lst0, lst1, lst2, lst3, dn_ix, dn_slice, dn_call, call1, call2, call3, call4, call5, rk, dn_callR, dn_b1, dn_b2, dn_isI, dn_isTL, dn_range1, dn_range2, dn_zip, b1_len_l, b1_len_t, b1_tup_l, b1_tup_t, b1_list_l, b1_list_t, b1_int, not_b, neg_i, cmp_lt, cmp_le, cmp_gt, cmp_ge, cmp_is, cmp_isnot, cmp_eqi, cmp_nei, bin_add, bin_sub, zip_t, zip_l, dn_comp, dS_for, bnd_ret, bnd_bnd, fn_eq, fnR_eq, List.map_cons, List.map_nil, List.cons_append, List.nil_append, List.append_nil, List.length_cons, List.length_nil, List.replicate_succ, List.replicate_zero, Nat.sub_self, Nat.reduceAdd, Nat.reduceSub, Nat.zero_add, List.set_cons_zero, List.set_cons_succ, List.getElem?_cons_zero, List.getElem?_cons_succ, dS_asgT, dS_kill, be_nm, be_tup, be_nil, be_cons, dn_b2, fk_eq, cmp_t, cmp_c, cmp_n, cmp_call, cmp_a, cmp_o, mapX_ret, filX_ret, m_with_pair hA.1 hn (Nat.le_trans hA.2 hl) (hp p hpm).1 (hp p hpm).2]
    · rw [most_succ]; exact withs_len [p] A (most n k) hA.2
  erw [h.1]
  simp -implicitDefEqProofs only [wipeE, Tg.slots, k_nx, k_rt, e_nx, e_rt, br_t, br_f, dS_nil, dS_seq, dS_nm, own_list, dS_newL, dS_par, sl_f, sl_t, dS_ite, dS_ret, dS_expr, dS_app, ap_own, dS_aug, au_val, dS_frz, fr_own, asB_bool, asI_int, items_l, items_t, dn_nil, dn_cons, dn_star, lo_l, lo_d, vk, dn_var, ok_, dn_own, dn_lit, dn_glob, dn_bin, dn_neg, dn_not, dn_cmp, dn_chain, ch_t, ch_f, dn_and, dn_or, dn_ite, an_t, an_f, or_t, or_f, it_t, it_f, dn_tup, dn_list, tup0, tup1, tup2, tup3, lst0, lst1, lst2, lst3, dn_ix, dn_slice, dn_call, call1, call2, call3, call4, call5, rk, dn_callR, dn_b1, dn_b2, dn_isI, dn_isTL, dn_range1, dn_range2, dn_zip, b1_len_l, b1_len_t, b1_tup_l, b1_tup_t, b1_list_l, b1_list_t, b1_int, not_b, neg_i, cmp_lt, cmp_le, cmp_gt, cmp_ge, cmp_is, cmp_isnot, cmp_eqi, cmp_nei, bin_add, bin_sub, zip_t, zip_l, dn_comp, dS_for, bnd_ret, bnd_bnd, fn_eq, fnR_eq, List.map_cons, List.map_nil, List.cons_append, List.nil_append, List.append_nil, List.length_cons, List.length_nil, List.replicate_succ, List.replicate_zero, Nat.sub_self, Nat.reduceAdd, Nat.reduceSub, Nat.zero_add, List.set_cons_zero, List.set_cons_succ, List.getElem?_cons_zero, List.getElem?_cons_succ, dS_asgT, dS_kill, be_nm, be_tup, be_nil, be_cons, dn_b2]
  rfl
/-! ### the walk: tasks -/
theorem two_two : ((2 : Nat) : Int) = 2 := rfl
structure TaskOk (n : Nat) (pairs : List (List La × List La)) : Prop where
  n1 : 1 ≤ n
  n6 : n ≤ 6
  few : pairs.length ≤ 6
  rows : ∀ p ∈ pairs, rowOk p.1 n ∧ rowOk p.2 n
theorem TaskOk.lens {n : Nat} {pairs : List (List La × List La)} (h : TaskOk n pairs) : ∀ p ∈ pairs, p.1.length = n ∧ p.2.length = n := fun p hp => ⟨(h.rows p hp).1.1, (h.rows p hp).2.1⟩
theorem m_is_pair {p : List La × List La} {n : Nat} (h1 : rowOk p.1 n) (h2 : rowOk p.2 n) : f_is_pair [pairD p, .int (n : Int)] = ret (.bool true) := by
  have e : pairD p = .tuple ([p.1, p.2].map rowD) := rfl
  have hl : ∀ r ∈ [p.1, p.2], rowOk r n := fun r hr => by
    rcases List.mem_cons.mp hr with rfl | hr
    · exact h1
    · cases List.mem_singleton.mp hr; exact h2
  have h3 : ([p.1, p.2] : List (List La)).length = 2 := rfl
  rw [e]
  generalize [p.1, p.2] = l at *
  unfold f_is_pair B_is_pair
  simp -implicitDefEqProofs only [wipeE, Tg.slots, k_nx, k_rt, e_nx, e_rt, br_t, br_f, dS_nil, dS_seq, dS_nm, own_list, dS_newL, dS_par, sl_f, sl_t, dS_ite, dS_ret, dS_expr, dS_app, ap_own, dS_aug, au_val, dS_frz, fr_own, asB_bool, asI_int, items_l, items_t, dn_nil, dn_cons, dn_star, lo_l, lo_d, vk, dn_var, ok_, dn_own, dn_lit, dn_glob, dn_bin, dn_neg, dn_not, dn_cmp, dn_chain, ch_t, ch_f, dn_and, dn_or, dn_ite, an_t, an_f, or_t, or_f, it_t, it_f, dn_tup, dn_list, tup0, tup1, tup2, tup3, lst0, lst1, lst2, lst3, dn_ix, dn_slice, dn_call, call1, call2, call3, call4, call5, rk, dn_callR, dn_b1, dn_b2, dn_isI, dn_isTL, dn_range1, dn_range2, dn_zip, b1_len_l, b1_len_t, b1_tup_l, b1_tup_t, b1_list_l, b1_list_t, b1_int, not_b, neg_i, cmp_lt, cmp_le, cmp_gt, cmp_ge, cmp_is, cmp_isnot, cmp_eqi, cmp_nei, bin_add, bin_sub, zip_t, zip_l, dn_comp, dS_for, bnd_ret, bnd_bnd, fn_eq, fnR_eq, List.map_cons, List.map_nil, List.cons_append, List.nil_append, List.append_nil, List.length_cons, List.length_nil, List.replicate_succ, List.replicate_zero, Nat.sub_self, Nat.reduceAdd, Nat.reduceSub, Nat.zero_add, List.set_cons_zero, List.set_cons_succ, List.getElem?_cons_zero, List.getElem?_cons_succ, dS_asgT, dS_kill, be_nm, be_tup, be_nil, be_cons, dn_b2, fk_eq, cmp_t, cmp_c, cmp_n, cmp_call, cmp_a, cmp_o, mapX_ret, filX_ret, show isIn (.tuple (l.map rowD)) .tup = true from rfl, b1_len_t, List.length_map, h3, show ((2 : Nat) : Int) = 2 from rfl, decide_true]
  rw [mapX_mem (fun _ => .bool true) fun r hr => by simp -implicitDefEqProofs only [wipeE, Tg.slots, k_nx, k_rt, e_nx, e_rt, br_t, br_f, dS_nil, dS_seq, dS_nm, own_list, dS_newL, dS_par, sl_f, sl_t, dS_ite, dS_ret, dS_expr, dS_app, ap_own, dS_aug, au_val, dS_frz, fr_own, asB_bool, asI_int, items_l, items_t, dn_nil, dn_cons, dn_star, lo_l, lo_d, vk, dn_var, ok_, dn_own, dn_lit, dn_glob, dn_bin, dn_neg, dn_not, dn_cmp, dn_chain, ch_t, ch_f, dn_and, dn_or, dn_ite, an_t, an_f, or_t, or_f, it_t, it_f, dn_tup, dn_list, tup0, tup1, tup2, tup3, lst0, lst1, lst2, lst3, dn_ix, dn_slice, dn_call, call1, call2, call3, call4, call5, rk, dn_callR, dn_b1, dn_b2, dn_isI, dn_isTL, dn_range1, dn_range2, dn_zip, b1_len_l, b1_len_t, b1_tup_l, b1_tup_t, b1_list_l, b1_list_t, b1_int, not_b, neg_i, cmp_lt, cmp_le, cmp_gt, cmp_ge, cmp_is, cmp_isnot, cmp_eqi, cmp_nei, bin_add, bin_sub, zip_t, zip_l, dn_comp, dS_for, bnd_ret, bnd_bnd, fn_eq, fnR_eq, List.map_cons, List.map_nil, List.cons_append, List.nil_append, List.append_nil, List.length_cons, List.length_nil, List.replicate_succ, List.replicate_zero, Nat.sub_self, Nat.reduceAdd, Nat.reduceSub, Nat.zero_add, List.set_cons_zero, List.set_cons_succ, List.getElem?_cons_zero, List.getElem?_cons_succ, dS_asgT, dS_kill, be_nm, be_tup, be_nil, be_cons, dn_b2, fk_eq, cmp_t, cmp_c, cmp_n, cmp_call, cmp_a, cmp_o, mapX_ret, filX_ret, m_is_row (hl r hr)]]
  simp -implicitDefEqProofs only [wipeE, Tg.slots, k_nx, k_rt, e_nx, e_rt, br_t, br_f, dS_nil, dS_seq, dS_nm, own_list, dS_newL, dS_par, sl_f, sl_t, dS_ite, dS_ret, dS_expr, dS_app, ap_own, dS_aug, au_val, dS_frz, fr_own, asB_bool, asI_int, items_l, items_t, dn_nil, dn_cons, dn_star, lo_l, lo_d, vk, dn_var, ok_, dn_own, dn_lit, dn_glob, dn_bin, dn_neg, dn_not, dn_cmp, dn_chain, ch_t, ch_f, dn_and, dn_or, dn_ite, an_t, an_f, or_t, or_f, it_t, it_f, dn_tup, dn_list, tup0, tup1, tup2, tup3, lst0, lst1, lst2, lst3, dn_ix, dn_slice, dn_call, call1, call2, call3, call4, call5, rk, dn_callR, dn_b1, dn_b2, dn_isI, dn_isTL, dn_range1, dn_range2, dn_zip, b1_len_l, b1_len_t, b1_tup_l, b1_tup_t, b1_list_l, b1_list_t, b1_int, not_b, neg_i, cmp_lt, cmp_le, cmp_gt, cmp_ge, cmp_is, cmp_isnot, cmp_eqi, cmp_nei, bin_add, bin_sub, zip_t, zip_l, dn_comp, dS_for, bnd_ret, bnd_bnd, fn_eq, fnR_eq, List.map_cons, List.map_nil, List.cons_append, List.nil_append, List.append_nil, List.length_cons, List.length_nil, List.replicate_succ, List.replicate_zero, Nat.sub_self, Nat.reduceAdd, Nat.reduceSub, Nat.zero_add, List.set_cons_zero, List.set_cons_succ, List.getElem?_cons_zero, List.getElem?_cons_succ, dS_asgT, dS_kill, be_nm, be_tup, be_nil, be_cons, dn_b2, fk_eq, cmp_t, cmp_c, cmp_n, cmp_call, cmp_a, cmp_o, mapX_ret, filX_ret, b1_all (fun _ : List La => true)]
  rw [show (l.all fun _ => true) = true from by induction l with | nil => rfl | cons a l ih => simp]
theorem enum_map {α : Type} {enc : α → D} (xs : List α) : enumD (xs.map enc) = (List.zip (List.range xs.length) xs).map fun q => .tuple [.int (q.1 : Int), enc q.2] := by
  unfold enumD
  rw [List.length_map, List.zipWith_map_right, List.zip, List.map_zipWith]
theorem m_need_task {n : Nat} {pairs : List (List La × List La)} (h : TaskOk n pairs) : f_need_task [taskD n pairs] = ret .none := by
  have h1 := h.n1
  have h6 := h.n6
  have hf := h.few
  unfold f_need_task B_need_task taskD
  simp -implicitDefEqProofs only [wipeE, Tg.slots, k_nx, k_rt, e_nx, e_rt, br_t, br_f, dS_nil, dS_seq, dS_nm, own_list, dS_newL, dS_par, sl_f, sl_t, dS_ite, dS_ret, dS_expr, dS_app, ap_own, dS_aug, au_val, dS_frz, fr_own, asB_bool, asI_int, items_l, items_t, dn_nil, dn_cons, dn_star, lo_l, lo_d, vk, dn_var, ok_, dn_own, dn_lit, dn_glob, dn_bin, dn_neg, dn_not, dn_cmp, dn_chain, ch_t, ch_f, dn_and, dn_or, dn_ite, an_t, an_f, or_t, or_f, it_t, it_f, dn_tup, dn_list, tup0, tup1, tup2, tup3, lst0, lst1, lst2, lst3, dn_ix, dn_slice, dn_call, call1, call2, call3, call4, call5, rk, dn_callR, dn_b1, dn_b2, dn_isI, dn_isTL, dn_range1, dn_range2, dn_zip, b1_len_l, b1_len_t, b1_tup_l, b1_tup_t, b1_list_l, b1_list_t, b1_int, not_b, neg_i, cmp_lt, cmp_le, cmp_gt, cmp_ge, cmp_is, cmp_isnot, cmp_eqi, cmp_nei, bin_add, bin_sub, zip_t, zip_l, dn_comp, dS_for, bnd_ret, bnd_bnd, fn_eq, fnR_eq, List.map_cons, List.map_nil, List.cons_append, List.nil_append, List.append_nil, List.length_cons, List.length_nil, List.replicate_succ, List.replicate_zero, Nat.sub_self, Nat.reduceAdd, Nat.reduceSub, Nat.zero_add, List.set_cons_zero, List.set_cons_succ, List.getElem?_cons_zero, List.getElem?_cons_succ, dS_asgT, dS_kill, be_nm, be_tup, be_nil, be_cons, dn_b2, fk_eq, cmp_t, cmp_c, cmp_n, cmp_call, cmp_a, cmp_o, mapX_ret, filX_ret, show isIn (.tuple [PyData.int (n : Int), .tuple (pairs.map pairD)]) .tup = true from rfl, b1_len_t, List.length_map, show ixD (.tuple [PyData.int (n : Int), .tuple (pairs.map pairD)]) (.int 0) = ret (.int (n : Int)) from rfl, m_is_int, show (isIn (.int (n : Int)) .int && !isIn (.int (n : Int)) .bool) = true from rfl, decide_eq_true (show (1 : Int) ≤ (n : Int) by omega), decide_eq_true (show (n : Int) ≤ 6 by omega), Bool.not_true, Bool.not_false, decide_true, two_two, show isIn (.tuple (pairs.map pairD)) .tup = true from rfl, decide_eq_false (show ¬ (6 : Int) < (pairs.length : Int) by omega), dn_enum, enum_map]
  erw [for_fold (enc := fun q : Nat × (List La × List La) => .tuple [.int (q.1 : Int), pairD q.2]) (fun _ : Unit => [.val (.tuple [PyData.int (n : Int), .tuple (pairs.map pairD)]), .val (.int (n : Int)), .val (.tuple (pairs.map pairD)), .no, .no]) (fun s _ => s) (s := ()) fun s q hq => by
    have hm := h.rows q.2 (List.of_mem_zip hq).2
    simp -implicitDefEqProofs only [wipeE, Tg.slots, k_nx, k_rt, e_nx, e_rt, br_t, br_f, dS_nil, dS_seq, dS_nm, own_list, dS_newL, dS_par, sl_f, sl_t, dS_ite, dS_ret, dS_expr, dS_app, ap_own, dS_aug, au_val, dS_frz, fr_own, asB_bool, asI_int, items_l, items_t, dn_nil, dn_cons, dn_star, lo_l, lo_d, vk, dn_var, ok_, dn_own, dn_lit, dn_glob, dn_bin, dn_neg, dn_not, dn_cmp, dn_chain, ch_t, ch_f, dn_and, dn_or, dn_ite, an_t, an_f, or_t, or_f, it_t, it_f, dn_tup, dn_list, tup0, tup1, tup2, tup3, lst0, lst1, lst2, lst3, dn_ix, dn_slice, dn_call, call1, call2, call3, call4, call5, rk, dn_callR, dn_b1, dn_b2, dn_isI, dn_isTL, dn_range1, dn_range2, dn_zip, b1_len_l, b1_len_t, b1_tup_l, b1_tup_t, b1_list_l, b1_list_t, b1_int, not_b, neg_i, cmp_lt, cmp_le, cmp_gt, cmp_ge, cmp_is, cmp_isnot, cmp_eqi, cmp_nei, bin_add, bin_sub, zip_t, zip_l, dn_comp, dS_for, bnd_ret, bnd_bnd, fn_eq, fnR_eq, List.map_cons, List.map_nil, List.cons_append, List.nil_append, List.append_nil, List.length_cons, List.length_nil, List.replicate_succ, List.replicate_zero, Nat.sub_self, Nat.reduceAdd, Nat.reduceSub, Nat.zero_add, List.set_cons_zero, List.set_cons_succ, List.getElem?_cons_zero, List.getElem?_cons_succ, dS_asgT, dS_kill, be_nm, be_tup, be_nil, be_cons, dn_b2, fk_eq, cmp_t, cmp_c, cmp_n, cmp_call, cmp_a, cmp_o, mapX_ret, filX_ret, m_is_pair hm.1 hm.2, Bool.not_true]]
  rfl
theorem pair_0 {p : List La × List La} : ixD (pairD p) (.int 0) = ret (rowD p.1) := rfl
theorem pair_1 {p : List La × List La} : ixD (pairD p) (.int 1) = ret (rowD p.2) := rfl
theorem task_0 {n : Nat} {pairs : List (List La × List La)} : ixD (taskD n pairs) (.int 0) = ret (.int (n : Int)) := rfl
theorem task_1 {n : Nat} {pairs : List (List La × List La)} : ixD (taskD n pairs) (.int 1) = ret (.tuple (pairs.map pairD)) := rfl
theorem most_33 {n k : Nat} (hn : n ≤ 3) (hk : k < 4) : most n k ≤ 4000 := by
  have h1 := most_mono k hn
  have : ∀ k, k < 4 → most 3 k ≤ 4000 := by decide
  have := this k hk
  omega
theorem m_outmost_members {n : Nat} {pairs : List (List La × List La)} (h : TaskOk n pairs) (hz : ∀ k, k < pairs.length → most n k ≤ 4000) : f_outmost_members [taskD n pairs] = ret (.list ((membersOf n pairs).map rowD)) := by
  unfold f_outmost_members B_outmost_members
  simp -implicitDefEqProofs only [wipeE, Tg.slots, k_nx, k_rt, e_nx, e_rt, br_t, br_f, dS_nil, dS_seq, dS_nm, own_list, dS_newL, dS_par, sl_f, sl_t, dS_ite, dS_ret, dS_expr, dS_app, ap_own, dS_aug, au_val, dS_frz, fr_own, asB_bool, asI_int, items_l, items_t, dn_nil, dn_cons, dn_star, lo_l, lo_d, vk, dn_var, ok_, dn_own, dn_lit, dn_glob, dn_bin, dn_neg, dn_not, dn_cmp, dn_chain, ch_t, ch_f, dn_and, dn_or, dn_ite, an_t, an_f, or_t, or_f, it_t, it_f, dn_tup, dn_list, tup0, tup1, tup2, tup3, lst0, lst1, lst2, lst3, dn_ix, dn_slice, dn_call, call1, call2, call3, call4, call5, rk, dn_callR, dn_b1, dn_b2, dn_isI, dn_isTL, dn_range1, dn_range2, dn_zip, b1_len_l, b1_len_t, b1_tup_l, b1_tup_t, b1_list_l, b1_list_t, b1_int, not_b, neg_i, cmp_lt, cmp_le, cmp_gt, cmp_ge, cmp_is, cmp_isnot, cmp_eqi, cmp_nei, bin_add, bin_sub, zip_t, zip_l, dn_comp, dS_for, bnd_ret, bnd_bnd, fn_eq, fnR_eq, List.map_cons, List.map_nil, List.cons_append, List.nil_append, List.append_nil, List.length_cons, List.length_nil, List.replicate_succ, List.replicate_zero, Nat.sub_self, Nat.reduceAdd, Nat.reduceSub, Nat.zero_add, List.set_cons_zero, List.set_cons_succ, List.getElem?_cons_zero, List.getElem?_cons_succ, dS_asgT, dS_kill, be_nm, be_tup, be_nil, be_cons, dn_b2, fk_eq, cmp_t, cmp_c, cmp_n, cmp_call, cmp_a, cmp_o, mapX_ret, filX_ret, m_need_task h, m_outmost_members_of (Nat.le_trans h.n6 (by decide)) h.lens hz]
theorem tslice_take {α : Type} {enc : α → D} {r : List α} {k : Nat} (h : k ≤ r.length) : sliceD (.tuple (r.map enc)) none (some (k : Int)) = ret (.tuple ((r.take k).map enc)) := by
  show ret (PyData.tuple (cutL (r.map enc) none (some (k : Int)))) = _
  rw [cut_take (by rw [List.length_map]; exact h), ← List.map_take]
theorem tslice_drop {α : Type} {enc : α → D} {r : List α} {k : Nat} (h : k ≤ r.length) : sliceD (.tuple (r.map enc)) (some (k : Int)) none = ret (.tuple ((r.drop k).map enc)) := by
  show ret (PyData.tuple (cutL (r.map enc) (some (k : Int)) none)) = _
  rw [cut_drop (by rw [List.length_map]; exact h), ← List.map_drop]
/-- all but one -/
def butOne {α : Type} (l : List α) (k : Nat) : List α := l.take k ++ l.drop (k + 1)
theorem butOne_mem {α : Type} {l : List α} {k : Nat} {a : α} (h : a ∈ butOne l k) : a ∈ l := (List.mem_append.mp h).elim List.mem_of_mem_take List.mem_of_mem_drop
theorem butOne_len {α : Type} (l : List α) (k : Nat) : (butOne l k).length ≤ l.length := by
  unfold butOne
  rw [List.length_append, List.length_take, List.length_drop]
  omega
def needlessOf (n : Nat) (pairs : List (List La × List La)) : List Nat := ((List.zip (List.range pairs.length) pairs).filter fun q => (membersOf n (butOne pairs q.1)).all fun x => keeps1 q.2 x).map Prod.fst
theorem zip_range_get {α : Type} {l : List α} {q : Nat × α} (h : q ∈ List.zip (List.range l.length) l) : l[q.1]? = some q.2 := by
  obtain ⟨i, hi⟩ := List.mem_iff_getElem?.mp h
  rw [List.getElem?_zip_eq_some] at hi
  obtain ⟨h1, h2⟩ := hi
  have hi : i < l.length := (List.getElem?_eq_some_iff.mp h2).1
  rw [List.getElem?_range hi] at h1
  cases h1
  exact h2
/-! ### the walk: what laws draw and try -/
theorem rows_nil {α : Type} {enc : α → D} {l : List α} {n : Nat} {p : α → Bool} (h : ∀ x ∈ l, plain n (enc x)) (hl : l.length ≤ 1000) (hn : n ≤ 63) : cmpD .eq (.list ((l.filter p).map enc)) (.list []) = ret (.bool (l.all fun x => !p x)) := by
  rw [eq_empty (n := n + 1) ⟨by rw [List.length_map]; exact Nat.le_trans (List.length_filter_le ..) hl, fun x hx => by
    obtain ⟨a, ha, rfl⟩ := List.mem_map.mp hx
    exact h a (List.mem_filter.mp ha).1⟩ (by omega)]
  congr 2
  induction l with
  | nil => rfl
  | cons a l ih =>
    have ih := ih (fun x hx => h x (List.mem_cons_of_mem _ hx)) (by rw [List.length_cons] at hl; omega)
    rw [List.all_cons]
    cases e : p a with
    | true => rw [List.filter_cons_of_pos e]; rfl
    | false => rw [List.filter_cons_of_neg (by rw [e]; decide), ih]; rfl
theorem rowl_nil {l : List (List La)} {p : List La → Bool} : cmpD .eq (.list ((l.filter p).map rowD)) (.list []) = ret (.bool (l.all fun x => !p x)) := by
  have e : ∀ l : List (List La), cmpD .eq (.list (l.map rowD)) (.list []) = ret (.bool l.isEmpty) := fun l => by
    have e : cmpD .eq (.list (l.map rowD)) (.list []) = (if SeqAt.shaped (.list (l.map rowD)) && SeqAt.shaped (.list []) then ret (.bool (PyData.eqv (.list (l.map rowD)) (.list []))) else bad) := rfl
    rw [e, shp_rows, if_pos (by decide)]
    cases l <;> rfl
  rw [e]
  congr 2
  induction l with
  | nil => rfl
  | cons a l ih =>
    rw [List.all_cons]
    cases e : p a with
    | true => rw [List.filter_cons_of_pos e]; rfl
    | false => rw [List.filter_cons_of_neg (by rw [e]; decide), ih]; rfl
theorem rowl_nen {l : List (List La)} {p : List La → Bool} : cmpD .ne (.list ((l.filter p).map rowD)) (.list []) = ret (.bool (!l.all fun x => !p x)) := by
  have h := @rowl_nil l p
  have e : cmpD .ne (.list ((l.filter p).map rowD)) (.list []) = (if SeqAt.shaped (.list ((l.filter p).map rowD)) && SeqAt.shaped (.list []) then ret (.bool (!PyData.eqv (.list ((l.filter p).map rowD)) (.list []))) else bad) := rfl
  have e2 : cmpD .eq (.list ((l.filter p).map rowD)) (.list []) = (if SeqAt.shaped (.list ((l.filter p).map rowD)) && SeqAt.shaped (.list []) then ret (.bool (PyData.eqv (.list ((l.filter p).map rowD)) (.list []))) else bad) := rfl
  rw [shp_rows, if_pos (by decide)] at e e2
  rw [e]
  rw [e2] at h
  have h3 : PyData.eqv (.list ((l.filter p).map rowD)) (.list []) = l.all fun x => !p x := by
    have := congrFun h ⟨[], 0, 0, 0⟩
    unfold ret at this
    injection this with h4
    injection h4
  rw [h3]
theorem m_lkeeps {pairs : List (List La × List La)} {x : List La} {X : D} (hX : itemsOf X = ret (pairs.map pairD)) (hp : ∀ p ∈ pairs, p.1.length = x.length ∧ p.2.length = x.length) (hx : x.length ≤ 1000) (hl : pairs.length ≤ 1000) : f__law_keeps [X, rowD x] = ret (.bool (pairs.all fun p => keeps1 p x)) := by
  unfold f__law_keeps B__law_keeps
  simp -implicitDefEqProofs only [wipeE, Tg.slots, k_nx, k_rt, e_nx, e_rt, br_t, br_f, dS_nil, dS_seq, dS_nm, own_list, dS_newL, dS_par, sl_f, sl_t, dS_ite, dS_ret, dS_expr, dS_app, ap_own, dS_aug, au_val, dS_frz, fr_own, asB_bool, asI_int, items_l, items_t, dn_nil, dn_cons, dn_star, lo_l, lo_d, vk, dn_var, ok_, dn_own, dn_lit, dn_glob, dn_bin, dn_neg, dn_not, dn_cmp, dn_chain, ch_t, ch_f, dn_and, dn_or, dn_ite, an_t, an_f, or_t, or_f, it_t, it_f, dn_tup, dn_list, tup0, tup1, tup2, tup3, lst0, lst1, lst2, lst3, dn_ix, dn_slice, dn_call, call1, call2, call3, call4, call5, rk, dn_callR, dn_b1, dn_b2, dn_isI, dn_isTL, dn_range1, dn_range2, dn_zip, b1_len_l, b1_len_t, b1_tup_l, b1_tup_t, b1_list_l, b1_list_t, b1_int, not_b, neg_i, cmp_lt, cmp_le, cmp_gt, cmp_ge, cmp_is, cmp_isnot, cmp_eqi, cmp_nei, bin_add, bin_sub, zip_t, zip_l, dn_comp, dS_for, bnd_ret, bnd_bnd, fn_eq, fnR_eq, List.map_cons, List.map_nil, List.cons_append, List.nil_append, List.append_nil, List.length_cons, List.length_nil, List.replicate_succ, List.replicate_zero, Nat.sub_self, Nat.reduceAdd, Nat.reduceSub, Nat.zero_add, List.set_cons_zero, List.set_cons_succ, List.getElem?_cons_zero, List.getElem?_cons_succ, dS_asgT, dS_kill, be_nm, be_tup, be_nil, be_cons, dn_b2, fk_eq, cmp_t, cmp_c, cmp_n, cmp_call, cmp_a, cmp_o, mapX_ret, filX_ret, hX]
  rw [filX_mem (fun p : List La × List La => !keeps1 p x) (fun _ => .int 1) fun p hpm => ⟨by
    obtain ⟨h1, h2⟩ := hp p hpm
    simp -implicitDefEqProofs only [wipeE, Tg.slots, k_nx, k_rt, e_nx, e_rt, br_t, br_f, dS_nil, dS_seq, dS_nm, own_list, dS_newL, dS_par, sl_f, sl_t, dS_ite, dS_ret, dS_expr, dS_app, ap_own, dS_aug, au_val, dS_frz, fr_own, asB_bool, asI_int, items_l, items_t, dn_nil, dn_cons, dn_star, lo_l, lo_d, vk, dn_var, ok_, dn_own, dn_lit, dn_glob, dn_bin, dn_neg, dn_not, dn_cmp, dn_chain, ch_t, ch_f, dn_and, dn_or, dn_ite, an_t, an_f, or_t, or_f, it_t, it_f, dn_tup, dn_list, tup0, tup1, tup2, tup3, lst0, lst1, lst2, lst3, dn_ix, dn_slice, dn_call, call1, call2, call3, call4, call5, rk, dn_callR, dn_b1, dn_b2, dn_isI, dn_isTL, dn_range1, dn_range2, dn_zip, b1_len_l, b1_len_t, b1_tup_l, b1_tup_t, b1_list_l, b1_list_t, b1_int, not_b, neg_i, cmp_lt, cmp_le, cmp_gt, cmp_ge, cmp_is, cmp_isnot, cmp_eqi, cmp_nei, bin_add, bin_sub, zip_t, zip_l, dn_comp, dS_for, bnd_ret, bnd_bnd, fn_eq, fnR_eq, List.map_cons, List.map_nil, List.cons_append, List.nil_append, List.append_nil, List.length_cons, List.length_nil, List.replicate_succ, List.replicate_zero, Nat.sub_self, Nat.reduceAdd, Nat.reduceSub, Nat.zero_add, List.set_cons_zero, List.set_cons_succ, List.getElem?_cons_zero, List.getElem?_cons_succ, dS_asgT, dS_kill, be_nm, be_tup, be_nil, be_cons, dn_b2, fk_eq, cmp_t, cmp_c, cmp_n, cmp_call, cmp_a, cmp_o, mapX_ret, filX_ret, pairD, m_lsum h1 (h1 ▸ hx), m_lsum h2 (h2 ▸ hx), m_lby, not_b]
    rfl, fun _ => by simp -implicitDefEqProofs only [wipeE, Tg.slots, k_nx, k_rt, e_nx, e_rt, br_t, br_f, dS_nil, dS_seq, dS_nm, own_list, dS_newL, dS_par, sl_f, sl_t, dS_ite, dS_ret, dS_expr, dS_app, ap_own, dS_aug, au_val, dS_frz, fr_own, asB_bool, asI_int, items_l, items_t, dn_nil, dn_cons, dn_star, lo_l, lo_d, vk, dn_var, ok_, dn_own, dn_lit, dn_glob, dn_bin, dn_neg, dn_not, dn_cmp, dn_chain, ch_t, ch_f, dn_and, dn_or, dn_ite, an_t, an_f, or_t, or_f, it_t, it_f, dn_tup, dn_list, tup0, tup1, tup2, tup3, lst0, lst1, lst2, lst3, dn_ix, dn_slice, dn_call, call1, call2, call3, call4, call5, rk, dn_callR, dn_b1, dn_b2, dn_isI, dn_isTL, dn_range1, dn_range2, dn_zip, b1_len_l, b1_len_t, b1_tup_l, b1_tup_t, b1_list_l, b1_list_t, b1_int, not_b, neg_i, cmp_lt, cmp_le, cmp_gt, cmp_ge, cmp_is, cmp_isnot, cmp_eqi, cmp_nei, bin_add, bin_sub, zip_t, zip_l, dn_comp, dS_for, bnd_ret, bnd_bnd, fn_eq, fnR_eq, List.map_cons, List.map_nil, List.cons_append, List.nil_append, List.append_nil, List.length_cons, List.length_nil, List.replicate_succ, List.replicate_zero, Nat.sub_self, Nat.reduceAdd, Nat.reduceSub, Nat.zero_add, List.set_cons_zero, List.set_cons_succ, List.getElem?_cons_zero, List.getElem?_cons_succ, dS_asgT, dS_kill, be_nm, be_tup, be_nil, be_cons, dn_b2, fk_eq, cmp_t, cmp_c, cmp_n, cmp_call, cmp_a, cmp_o, mapX_ret, filX_ret, pairD]⟩]
  simp -implicitDefEqProofs only [wipeE, Tg.slots, k_nx, k_rt, e_nx, e_rt, br_t, br_f, dS_nil, dS_seq, dS_nm, own_list, dS_newL, dS_par, sl_f, sl_t, dS_ite, dS_ret, dS_expr, dS_app, ap_own, dS_aug, au_val, dS_frz, fr_own, asB_bool, asI_int, items_l, items_t, dn_nil, dn_cons, dn_star, lo_l, lo_d, vk, dn_var, ok_, dn_own, dn_lit, dn_glob, dn_bin, dn_neg, dn_not, dn_cmp, dn_chain, ch_t, ch_f, dn_and, dn_or, dn_ite, an_t, an_f, or_t, or_f, it_t, it_f, dn_tup, dn_list, tup0, tup1, tup2, tup3, lst0, lst1, lst2, lst3, dn_ix, dn_slice, dn_call, call1, call2, call3, call4, call5, rk, dn_callR, dn_b1, dn_b2, dn_isI, dn_isTL, dn_range1, dn_range2, dn_zip, b1_len_l, b1_len_t, b1_tup_l, b1_tup_t, b1_list_l, b1_list_t, b1_int, not_b, neg_i, cmp_lt, cmp_le, cmp_gt, cmp_ge, cmp_is, cmp_isnot, cmp_eqi, cmp_nei, bin_add, bin_sub, zip_t, zip_l, dn_comp, dS_for, bnd_ret, bnd_bnd, fn_eq, fnR_eq, List.map_cons, List.map_nil, List.cons_append, List.nil_append, List.append_nil, List.length_cons, List.length_nil, List.replicate_succ, List.replicate_zero, Nat.sub_self, Nat.reduceAdd, Nat.reduceSub, Nat.zero_add, List.set_cons_zero, List.set_cons_succ, List.getElem?_cons_zero, List.getElem?_cons_succ, dS_asgT, dS_kill, be_nm, be_tup, be_nil, be_cons, dn_b2, fk_eq, cmp_t, cmp_c, cmp_n, cmp_call, cmp_a, cmp_o, mapX_ret, filX_ret, rows_nil (n := 0) (enc := fun _ : List La × List La => .int 1) (l := pairs) (p := fun p => !keeps1 p x) (fun _ _ => trivial) hl (by decide), Bool.not_not]
theorem grid_in (r : List La) : cmpD .in_ (.int 0) (rowD r) = ret (.bool (r.any fun a => a == some 0)) := by
  have e : cmpD .in_ (.int 0) (rowD r) = (if SeqAt.shaped (.int 0) && SeqAt.shaped (rowD r) then ret (.bool ((r.map optD).any fun z => PyData.eqv z (.int 0))) else bad) := rfl
  rw [e, shp_row, if_pos (by decide), List.any_map]
  congr 3
  funext a
  cases a with
  | none => rfl
  | some v =>
    show PyData.eqv (.int v) (.int 0) = (some v == some 0)
    by_cases h : v = 0
    · subst h; rfl
    · have h2 : (some v == some (0 : Int)) = false := by simpa using h
      rw [h2]
      have e1 : cmpD .eq (.int v) (.int 0) = ret (.bool (PyData.eqv (.int v) (.int 0))) := rfl
      have e2 := @cmp_eqi v 0
      rw [e1] at e2
      have e3 := congrFun e2 ⟨[], 0, 0, 0⟩
      unfold ret at e3
      injection e3 with h4
def gridOnes (size : Nat) : List La := none :: (List.range (size + 1)).map fun (i : Nat) => some ((i : Int) - size)
theorem range_down {size : Nat} (h : size ≤ 1000) : rangeD (0 - (size : Int)) 1 = ret (.list ((List.range (size + 1)).map fun (i : Nat) => PyData.int ((i : Int) - size))) := by
  unfold rangeD
  rw [if_pos (by omega)]
  congr 2
  rw [show ((1 : Int) - (0 - (size : Int))).toNat = size + 1 by omega]
  apply List.map_congr_left
  intro i _
  congr 1
  omega
theorem gridGo_len (size : Nat) : ∀ n, (gridGo size n).length = (size + 2) ^ n
  | 0 => rfl
  | n + 1 => by
    show ((gridGo size n).flatMap fun told => (gridOnes size).map fun one => told ++ [one]).length = _
    rw [List.length_flatMap]
    have e : ((gridGo size n).map fun told => ((gridOnes size).map fun one => told ++ [one]).length) = List.replicate ((size + 2) ^ n) (size + 2) := by
      rw [← gridGo_len size n, List.eq_replicate_iff]
      refine ⟨by rw [List.length_map], fun b hb => ?_⟩
      obtain ⟨a, _, rfl⟩ := List.mem_map.mp hb
      unfold gridOnes
      rw [List.length_map, List.length_cons, List.length_map, List.length_range]
    rw [e, List.sum_replicate_nat, Nat.pow_succ]
theorem grid_line {size wide k : Nat} (hs : size ≤ 8) (hw : wide ≤ 3) (hk : k ≤ wide) : (size + 2) ^ k ≤ 1000 := by
  refine Nat.le_trans (Nat.pow_le_pow_left (show size + 2 ≤ 10 by omega) k) (Nat.le_trans (Nat.pow_le_pow_right (by decide) (show k ≤ 3 by omega)) (by decide))
theorem m_lgridW {size wide : Nat} (hs : size ≤ 900) (hw : wide ≤ 900) (hb : ∀ k, k ≤ wide → (size + 2) ^ k ≤ 1000) : f__law_grid [.int (wide : Int), .int (size : Int)] = ret (.list ((gridOf size wide).map rowD)) := by
  unfold f__law_grid B__law_grid
  simp -implicitDefEqProofs only [wipeE, Tg.slots, k_nx, k_rt, e_nx, e_rt, br_t, br_f, dS_nil, dS_seq, dS_nm, own_list, dS_newL, dS_par, sl_f, sl_t, dS_ite, dS_ret, dS_expr, dS_app, ap_own, dS_aug, au_val, dS_frz, fr_own, asB_bool, asI_int, items_l, items_t, dn_nil, dn_cons, dn_star, lo_l, lo_d, vk, dn_var, ok_, dn_own, dn_lit, dn_glob, dn_bin, dn_neg, dn_not, dn_cmp, dn_chain, ch_t, ch_f, dn_and, dn_or, dn_ite, an_t, an_f, or_t, or_f, it_t, it_f, dn_tup, dn_list, tup0, tup1, tup2, tup3, lst0, lst1, lst2, lst3, dn_ix, dn_slice, dn_call, call1, call2, call3, call4, call5, rk, dn_callR, dn_b1, dn_b2, dn_isI, dn_isTL, dn_range1, dn_range2, dn_zip, b1_len_l, b1_len_t, b1_tup_l, b1_tup_t, b1_list_l, b1_list_t, b1_int, not_b, neg_i, cmp_lt, cmp_le, cmp_gt, cmp_ge, cmp_is, cmp_isnot, cmp_eqi, cmp_nei, bin_add, bin_sub, zip_t, zip_l, dn_comp, dS_for, bnd_ret, bnd_bnd, fn_eq, fnR_eq, List.map_cons, List.map_nil, List.cons_append, List.nil_append, List.append_nil, List.length_cons, List.length_nil, List.replicate_succ, List.replicate_zero, Nat.sub_self, Nat.reduceAdd, Nat.reduceSub, Nat.zero_add, List.set_cons_zero, List.set_cons_succ, List.getElem?_cons_zero, List.getElem?_cons_succ, dS_asgT, dS_kill, be_nm, be_tup, be_nil, be_cons, dn_b2, fk_eq, cmp_t, cmp_c, cmp_n, cmp_call, cmp_a, cmp_o, mapX_ret, filX_ret, range0 (show wide ≤ 1000 by omega)]
  have hI := for_inv (t := .nm 3) (B := (.seq (.asg (.nm 4) (.list .nil)) (.seq (.for_ (.nm 5) (.var 2) (.seq (.asg (.nm 4) (.bin .add (.var 4) (.comp (.bin .add (.var 5) (.tup (.cons (.var 6) .nil))) (.nm 6) (.bin .add (.list (.cons (.lit .none) .nil)) (.listR2 (.bin .sub (.lit (.int 0)) (.var 1)) (.lit (.int 1)))) (.lit (.bool true))))) (.seq (.kill 5) .nil))) (.seq (.asg (.nm 2) (.var 4)) (.seq (.kill 3) (.seq (.kill 4) (.seq (.kill 5) .nil)))))))
    (enc := fun (i : Nat) => PyData.int (i : Int)) (fun found : List (List La) => [.val (.int (wide : Int)), .val (.int (size : Int)), .val (.list (found.map rowD)), .no, .no, .no, .no])
    (fun found _ => found.flatMap fun told => (gridOnes size).map fun one => told ++ [one]) (fun k found => found = gridGo size k) (xs := List.range wide) (s := [[]]) (n := 0) rfl fun k found i _ _ hk hf => by
    rw [List.length_range, Nat.zero_add] at hk
    refine ⟨?_, by rw [hf]; rfl⟩
    have hr : ∀ r ∈ found, r.length ≤ 1000 := fun r hr => by rw [(grid_rows size k r (hf ▸ hr)).1]; omega
    have hlen : found.length * (size + 2) ≤ 1000 := by
      rw [hf, gridGo_len, ← Nat.pow_succ]
      exact hb (k + 1) hk
    clear hf
    simp -implicitDefEqProofs only [wipeE, Tg.slots, k_nx, k_rt, e_nx, e_rt, br_t, br_f, dS_nil, dS_seq, dS_nm, own_list, dS_newL, dS_par, sl_f, sl_t, dS_ite, dS_ret, dS_expr, dS_app, ap_own, dS_aug, au_val, dS_frz, fr_own, asB_bool, asI_int, items_l, items_t, dn_nil, dn_cons, dn_star, lo_l, lo_d, vk, dn_var, ok_, dn_own, dn_lit, dn_glob, dn_bin, dn_neg, dn_not, dn_cmp, dn_chain, ch_t, ch_f, dn_and, dn_or, dn_ite, an_t, an_f, or_t, or_f, it_t, it_f, dn_tup, dn_list, tup0, tup1, tup2, tup3, lst0, lst1, lst2, lst3, dn_ix, dn_slice, dn_call, call1, call2, call3, call4, call5, rk, dn_callR, dn_b1, dn_b2, dn_isI, dn_isTL, dn_range1, dn_range2, dn_zip, b1_len_l, b1_len_t, b1_tup_l, b1_tup_t, b1_list_l, b1_list_t, b1_int, not_b, neg_i, cmp_lt, cmp_le, cmp_gt, cmp_ge, cmp_is, cmp_isnot, cmp_eqi, cmp_nei, bin_add, bin_sub, zip_t, zip_l, dn_comp, dS_for, bnd_ret, bnd_bnd, fn_eq, fnR_eq, List.map_cons, List.map_nil, List.cons_append, List.nil_append, List.append_nil, List.length_cons, List.length_nil, List.replicate_succ, List.replicate_zero, Nat.sub_self, Nat.reduceAdd, Nat.reduceSub, Nat.zero_add, List.set_cons_zero, List.set_cons_succ, List.getElem?_cons_zero, List.getElem?_cons_succ, dS_asgT, dS_kill, be_nm, be_tup, be_nil, be_cons, dn_b2, fk_eq, cmp_t, cmp_c, cmp_n, cmp_call, cmp_a, cmp_o, mapX_ret, filX_ret]
    have hJ := for_inv (t := .nm 5) (B := (.seq (.asg (.nm 4) (.bin .add (.var 4) (.comp (.bin .add (.var 5) (.tup (.cons (.var 6) .nil))) (.nm 6) (.bin .add (.list (.cons (.lit .none) .nil)) (.listR2 (.bin .sub (.lit (.int 0)) (.var 1)) (.lit (.int 1)))) (.lit (.bool true))))) (.seq (.kill 5) .nil)))
      (enc := rowD) (fun later : List (List La) => [.val (.int (wide : Int)), .val (.int (size : Int)), .val (.list (found.map rowD)), .val (.int (i : Int)), .val (.list (later.map rowD)), .no, .no])
      (fun later told => later ++ (gridOnes size).map fun one => told ++ [one]) (fun j later => later.length = j * (size + 2)) (xs := found) (s := []) (n := 0) (by simp) fun j later told ht _ hj hl => by
      rw [Nat.zero_add] at hj
      have hgl : (gridOnes size).length = size + 2 := by unfold gridOnes; rw [List.length_cons, List.length_map, List.length_range]
      refine ⟨?_, by rw [List.length_append, List.length_map, hl, hgl, Nat.add_mul, Nat.one_mul]⟩
      have hones : (PyData.none :: (List.range (size + 1)).map fun (i : Nat) => PyData.int ((i : Int) - size)) = (gridOnes size).map optD := by
        unfold gridOnes
        rw [List.map_cons, List.map_map]
        rfl
      have h1 : ([PyData.none] : List D).length + ((List.range (size + 1)).map fun (i : Nat) => PyData.int ((i : Int) - size)).length ≤ sizeLine := by
        rw [List.length_map, List.length_range]
        exact Nat.le_trans (show _ ≤ 1000 by simp; omega) (by decide)
      have hsub : (E.listR2 (.bin .sub (.lit (.int 0)) (.var 1)) (.lit (.int 1))) = E.listR2 (.bin .sub (.lit (.int 0)) (.var 1)) (.lit (.int 1)) := rfl
      have hR2 : ∀ (a b : E) (ρ : Ev), den (.listR2 a b) ρ = bnd (bnd (den a ρ) asI) fun i => bnd (bnd (den b ρ) asI) fun j => rangeD i j := fun _ _ _ => rfl
      simp -implicitDefEqProofs only [wipeE, Tg.slots, k_nx, k_rt, e_nx, e_rt, br_t, br_f, dS_nil, dS_seq, dS_nm, own_list, dS_newL, dS_par, sl_f, sl_t, dS_ite, dS_ret, dS_expr, dS_app, ap_own, dS_aug, au_val, dS_frz, fr_own, asB_bool, asI_int, items_l, items_t, dn_nil, dn_cons, dn_star, lo_l, lo_d, vk, dn_var, ok_, dn_own, dn_lit, dn_glob, dn_bin, dn_neg, dn_not, dn_cmp, dn_chain, ch_t, ch_f, dn_and, dn_or, dn_ite, an_t, an_f, or_t, or_f, it_t, it_f, dn_tup, dn_list, tup0, tup1, tup2, tup3, lst0, lst1, lst2, lst3, dn_ix, dn_slice, dn_call, call1, call2, call3, call4, call5, rk, dn_callR, dn_b1, dn_b2, dn_isI, dn_isTL, dn_range1, dn_range2, dn_zip, b1_len_l, b1_len_t, b1_tup_l, b1_tup_t, b1_list_l, b1_list_t, b1_int, not_b, neg_i, cmp_lt, cmp_le, cmp_gt, cmp_ge, cmp_is, cmp_isnot, cmp_eqi, cmp_nei, bin_add, bin_sub, zip_t, zip_l, dn_comp, dS_for, bnd_ret, bnd_bnd, fn_eq, fnR_eq, List.map_cons, List.map_nil, List.cons_append, List.nil_append, List.append_nil, List.length_cons, List.length_nil, List.replicate_succ, List.replicate_zero, Nat.sub_self, Nat.reduceAdd, Nat.reduceSub, Nat.zero_add, List.set_cons_zero, List.set_cons_succ, List.getElem?_cons_zero, List.getElem?_cons_succ, dS_asgT, dS_kill, be_nm, be_tup, be_nil, be_cons, dn_b2, fk_eq, cmp_t, cmp_c, cmp_n, cmp_call, cmp_a, cmp_o, mapX_ret, filX_ret, hR2, range_down (show size ≤ 1000 by omega), add_ll h1, hones]
      rw [mapX_mem (fun one => rowD (told ++ [one])) fun one _ => by
        have : binD .add (rowD told) (.tuple [optD one]) = ret (.tuple (told.map optD ++ [optD one])) := add_tt (by rw [List.length_map]; exact Nat.le_trans (show _ ≤ 1001 by have := hr told ht; simp; omega) (by decide))
        rw [this]
        unfold rowD
        rw [List.map_append]
        rfl]
      have h2 : (later.map rowD).length + ((gridOnes size).map fun one => rowD (told ++ [one])).length ≤ sizeLine := by
        rw [List.length_map, List.length_map, hl, hgl]
        have h3 : j * (size + 2) + (size + 2) ≤ found.length * (size + 2) := by
          have := Nat.mul_le_mul_right (size + 2) (show j + 1 ≤ found.length by omega)
          rw [Nat.add_mul] at this
          omega
        exact Nat.le_trans h3 (Nat.le_trans hlen (by decide))
      simp -implicitDefEqProofs only [wipeE, Tg.slots, k_nx, k_rt, e_nx, e_rt, br_t, br_f, dS_nil, dS_seq, dS_nm, own_list, dS_newL, dS_par, sl_f, sl_t, dS_ite, dS_ret, dS_expr, dS_app, ap_own, dS_aug, au_val, dS_frz, fr_own, asB_bool, asI_int, items_l, items_t, dn_nil, dn_cons, dn_star, lo_l, lo_d, vk, dn_var, ok_, dn_own, dn_lit, dn_glob, dn_bin, dn_neg, dn_not, dn_cmp, dn_chain, ch_t, ch_f, dn_and, dn_or, dn_ite, an_t, an_f, or_t, or_f, it_t, it_f, dn_tup, dn_list, tup0, tup1, tup2, tup3, lst0, lst1, lst2, lst3, dn_ix, dn_slice, dn_call, call1, call2, call3, call4, call5, rk, dn_callR, dn_b1, dn_b2, dn_isI, dn_isTL, dn_range1, dn_range2, dn_zip, b1_len_l, b1_len_t, b1_tup_l, b1_tup_t, b1_list_l, b1_list_t, b1_int, not_b, neg_i, cmp_lt, cmp_le, cmp_gt, cmp_ge, cmp_is, cmp_isnot, cmp_eqi, cmp_nei, bin_add, bin_sub, zip_t, zip_l, dn_comp, dS_for, bnd_ret, bnd_bnd, fn_eq, fnR_eq, List.map_cons, List.map_nil, List.cons_append, List.nil_append, List.append_nil, List.length_cons, List.length_nil, List.replicate_succ, List.replicate_zero, Nat.sub_self, Nat.reduceAdd, Nat.reduceSub, Nat.zero_add, List.set_cons_zero, List.set_cons_succ, List.getElem?_cons_zero, List.getElem?_cons_succ, dS_asgT, dS_kill, be_nm, be_tup, be_nil, be_cons, dn_b2, fk_eq, cmp_t, cmp_c, cmp_n, cmp_call, cmp_a, cmp_o, mapX_ret, filX_ret, add_ll h2]
      rw [List.map_append, List.map_map]
      rfl
    erw [hJ.1]
    simp -implicitDefEqProofs only [wipeE, Tg.slots, k_nx, k_rt, e_nx, e_rt, br_t, br_f, dS_nil, dS_seq, dS_nm, own_list, dS_newL, dS_par, sl_f, sl_t, dS_ite, dS_ret, dS_expr, dS_app, ap_own, dS_aug, au_val, dS_frz, fr_own, asB_bool, asI_int, items_l, items_t, dn_nil, dn_cons, dn_star, lo_l, lo_d, vk, dn_var, ok_, dn_own, dn_lit, dn_glob, dn_bin, dn_neg, dn_not, dn_cmp, dn_chain, ch_t, ch_f, dn_and, dn_or, dn_ite, an_t, an_f, or_t, or_f, it_t, it_f, dn_tup, dn_list, tup0, tup1, tup2, tup3, lst0, lst1, lst2, lst3, dn_ix, dn_slice, dn_call, call1, call2, call3, call4, call5, rk, dn_callR, dn_b1, dn_b2, dn_isI, dn_isTL, dn_range1, dn_range2, dn_zip, b1_len_l, b1_len_t, b1_tup_l, b1_tup_t, b1_list_l, b1_list_t, b1_int, not_b, neg_i, cmp_lt, cmp_le, cmp_gt, cmp_ge, cmp_is, cmp_isnot, cmp_eqi, cmp_nei, bin_add, bin_sub, zip_t, zip_l, dn_comp, dS_for, bnd_ret, bnd_bnd, fn_eq, fnR_eq, List.map_cons, List.map_nil, List.cons_append, List.nil_append, List.append_nil, List.length_cons, List.length_nil, List.replicate_succ, List.replicate_zero, Nat.sub_self, Nat.reduceAdd, Nat.reduceSub, Nat.zero_add, List.set_cons_zero, List.set_cons_succ, List.getElem?_cons_zero, List.getElem?_cons_succ, dS_asgT, dS_kill, be_nm, be_tup, be_nil, be_cons, dn_b2, fk_eq, cmp_t, cmp_c, cmp_n, cmp_call, cmp_a, cmp_o, mapX_ret, filX_ret]
    have e : ∀ (l acc : List (List La)), l.foldl (fun later told => later ++ (gridOnes size).map fun one => told ++ [one]) acc = acc ++ l.flatMap fun told => (gridOnes size).map fun one => told ++ [one] := fun l => by
      induction l with
      | nil => intro acc; simp
      | cons a l ih => intro acc; rw [List.foldl_cons, ih, List.flatMap_cons, List.append_assoc]
    rw [e]
    rfl
  erw [hI.1]
  have h2 := hI.2
  rw [Nat.zero_add, List.length_range] at h2
  simp -implicitDefEqProofs only [wipeE, Tg.slots, k_nx, k_rt, e_nx, e_rt, br_t, br_f, dS_nil, dS_seq, dS_nm, own_list, dS_newL, dS_par, sl_f, sl_t, dS_ite, dS_ret, dS_expr, dS_app, ap_own, dS_aug, au_val, dS_frz, fr_own, asB_bool, asI_int, items_l, items_t, dn_nil, dn_cons, dn_star, lo_l, lo_d, vk, dn_var, ok_, dn_own, dn_lit, dn_glob, dn_bin, dn_neg, dn_not, dn_cmp, dn_chain, ch_t, ch_f, dn_and, dn_or, dn_ite, an_t, an_f, or_t, or_f, it_t, it_f, dn_tup, dn_list, tup0, tup1, tup2, tup3, lst0, lst1, lst2, lst3, dn_ix, dn_slice, dn_call, call1, call2, call3, call4, call5, rk, dn_callR, dn_b1, dn_b2, dn_isI, dn_isTL, dn_range1, dn_range2, dn_zip, b1_len_l, b1_len_t, b1_tup_l, b1_tup_t, b1_list_l, b1_list_t, b1_int, not_b, neg_i, cmp_lt, cmp_le, cmp_gt, cmp_ge, cmp_is, cmp_isnot, cmp_eqi, cmp_nei, bin_add, bin_sub, zip_t, zip_l, dn_comp, dS_for, bnd_ret, bnd_bnd, fn_eq, fnR_eq, List.map_cons, List.map_nil, List.cons_append, List.nil_append, List.append_nil, List.length_cons, List.length_nil, List.replicate_succ, List.replicate_zero, Nat.sub_self, Nat.reduceAdd, Nat.reduceSub, Nat.zero_add, List.set_cons_zero, List.set_cons_succ, List.getElem?_cons_zero, List.getElem?_cons_succ, dS_asgT, dS_kill, be_nm, be_tup, be_nil, be_cons, dn_b2, fk_eq, cmp_t, cmp_c, cmp_n, cmp_call, cmp_a, cmp_o, mapX_ret, filX_ret, h2, grid_in]
  rfl
theorem m_lgrid {size wide : Nat} (hs : size ≤ 8) (hw : wide ≤ 3) : f__law_grid [.int (wide : Int), .int (size : Int)] = ret (.list ((gridOf size wide).map rowD)) := m_lgridW (by omega) (by omega) fun k hk => grid_line hs hw hk
/-- a row of so many lags, of so great ones -/
def rowIn (n : Nat) (size : Int) (r : List La) : Prop := r.length = n ∧ ∀ x ∈ r, within size x
theorem rowIn_ok {n : Nat} {size : Int} {r : List La} (h : rowIn n size r) (hs : size ≤ 1000) : rowOk r n := rowOk_of h.1 h.2 hs
theorem task_does {cols prs size : Int} (hc : 0 < cols ∧ cols ≤ 6) (hp : 0 ≤ prs ∧ prs ≤ 6) (hs : 0 ≤ size ∧ size ≤ 1000) : Does (f__law_task [.int cols, .int prs, .int size]) fun d => ∃ (n : Nat) (pairs : List (List La × List La)), d = taskD n pairs ∧ 1 ≤ n ∧ (n : Int) ≤ cols ∧ (pairs.length : Int) ≤ prs ∧ ∀ p ∈ pairs, rowIn n size p.1 ∧ rowIn n size p.2 := by
  unfold f__law_task B__law_task
  simp -implicitDefEqProofs only [wipeE, Tg.slots, k_nx, k_rt, e_nx, e_rt, br_t, br_f, dS_nil, dS_seq, dS_nm, own_list, dS_newL, dS_par, sl_f, sl_t, dS_ite, dS_ret, dS_expr, dS_app, ap_own, dS_aug, au_val, dS_frz, fr_own, asB_bool, asI_int, items_l, items_t, dn_nil, dn_cons, dn_star, lo_l, lo_d, vk, dn_var, ok_, dn_own, dn_lit, dn_glob, dn_bin, dn_neg, dn_not, dn_cmp, dn_chain, ch_t, ch_f, dn_and, dn_or, dn_ite, an_t, an_f, or_t, or_f, it_t, it_f, dn_tup, dn_list, tup0, tup1, tup2, tup3, lst0, lst1, lst2, lst3, dn_ix, dn_slice, dn_call, call1, call2, call3, call4, call5, rk, dn_callR, dn_b1, dn_b2, dn_isI, dn_isTL, dn_range1, dn_range2, dn_zip, b1_len_l, b1_len_t, b1_tup_l, b1_tup_t, b1_list_l, b1_list_t, b1_int, not_b, neg_i, cmp_lt, cmp_le, cmp_gt, cmp_ge, cmp_is, cmp_isnot, cmp_eqi, cmp_nei, bin_add, bin_sub, zip_t, zip_l, dn_comp, dS_for, bnd_ret, bnd_bnd, fn_eq, fnR_eq, List.map_cons, List.map_nil, List.cons_append, List.nil_append, List.append_nil, List.length_cons, List.length_nil, List.replicate_succ, List.replicate_zero, Nat.sub_self, Nat.reduceAdd, Nat.reduceSub, Nat.zero_add, List.set_cons_zero, List.set_cons_succ, List.getElem?_cons_zero, List.getElem?_cons_succ, dS_asgT, dS_kill, be_nm, be_tup, be_nil, be_cons, dn_b2, fk_eq, cmp_t, cmp_c, cmp_n, cmp_call, cmp_a, cmp_o, mapX_ret, filX_ret]
  refine (taken_does ⟨hc.1, by omega⟩).bnd fun d ⟨k, e, g1, g2⟩ => ?_
  subst e
  obtain ⟨n, hn⟩ : ∃ n : Nat, 1 + k = (n : Int) := ⟨(1 + k).toNat, by omega⟩
  simp -implicitDefEqProofs only [wipeE, Tg.slots, k_nx, k_rt, e_nx, e_rt, br_t, br_f, dS_nil, dS_seq, dS_nm, own_list, dS_newL, dS_par, sl_f, sl_t, dS_ite, dS_ret, dS_expr, dS_app, ap_own, dS_aug, au_val, dS_frz, fr_own, asB_bool, asI_int, items_l, items_t, dn_nil, dn_cons, dn_star, lo_l, lo_d, vk, dn_var, ok_, dn_own, dn_lit, dn_glob, dn_bin, dn_neg, dn_not, dn_cmp, dn_chain, ch_t, ch_f, dn_and, dn_or, dn_ite, an_t, an_f, or_t, or_f, it_t, it_f, dn_tup, dn_list, tup0, tup1, tup2, tup3, lst0, lst1, lst2, lst3, dn_ix, dn_slice, dn_call, call1, call2, call3, call4, call5, rk, dn_callR, dn_b1, dn_b2, dn_isI, dn_isTL, dn_range1, dn_range2, dn_zip, b1_len_l, b1_len_t, b1_tup_l, b1_tup_t, b1_list_l, b1_list_t, b1_int, not_b, neg_i, cmp_lt, cmp_le, cmp_gt, cmp_ge, cmp_is, cmp_isnot, cmp_eqi, cmp_nei, bin_add, bin_sub, zip_t, zip_l, dn_comp, dS_for, bnd_ret, bnd_bnd, fn_eq, fnR_eq, List.map_cons, List.map_nil, List.cons_append, List.nil_append, List.append_nil, List.length_cons, List.length_nil, List.replicate_succ, List.replicate_zero, Nat.sub_self, Nat.reduceAdd, Nat.reduceSub, Nat.zero_add, List.set_cons_zero, List.set_cons_succ, List.getElem?_cons_zero, List.getElem?_cons_succ, dS_asgT, dS_kill, be_nm, be_tup, be_nil, be_cons, dn_b2, fk_eq, cmp_t, cmp_c, cmp_n, cmp_call, cmp_a, cmp_o, mapX_ret, filX_ret, hn]
  refine (taken_does ⟨by omega, by omega⟩).bnd fun d ⟨t, e, t1, t2⟩ => ?_
  subst e
  obtain ⟨m, rfl⟩ : ∃ m : Nat, t = (m : Int) := ⟨t.toNat, by omega⟩
  simp -implicitDefEqProofs only [wipeE, Tg.slots, k_nx, k_rt, e_nx, e_rt, br_t, br_f, dS_nil, dS_seq, dS_nm, own_list, dS_newL, dS_par, sl_f, sl_t, dS_ite, dS_ret, dS_expr, dS_app, ap_own, dS_aug, au_val, dS_frz, fr_own, asB_bool, asI_int, items_l, items_t, dn_nil, dn_cons, dn_star, lo_l, lo_d, vk, dn_var, ok_, dn_own, dn_lit, dn_glob, dn_bin, dn_neg, dn_not, dn_cmp, dn_chain, ch_t, ch_f, dn_and, dn_or, dn_ite, an_t, an_f, or_t, or_f, it_t, it_f, dn_tup, dn_list, tup0, tup1, tup2, tup3, lst0, lst1, lst2, lst3, dn_ix, dn_slice, dn_call, call1, call2, call3, call4, call5, rk, dn_callR, dn_b1, dn_b2, dn_isI, dn_isTL, dn_range1, dn_range2, dn_zip, b1_len_l, b1_len_t, b1_tup_l, b1_tup_t, b1_list_l, b1_list_t, b1_int, not_b, neg_i, cmp_lt, cmp_le, cmp_gt, cmp_ge, cmp_is, cmp_isnot, cmp_eqi, cmp_nei, bin_add, bin_sub, zip_t, zip_l, dn_comp, dS_for, bnd_ret, bnd_bnd, fn_eq, fnR_eq, List.map_cons, List.map_nil, List.cons_append, List.nil_append, List.append_nil, List.length_cons, List.length_nil, List.replicate_succ, List.replicate_zero, Nat.sub_self, Nat.reduceAdd, Nat.reduceSub, Nat.zero_add, List.set_cons_zero, List.set_cons_succ, List.getElem?_cons_zero, List.getElem?_cons_succ, dS_asgT, dS_kill, be_nm, be_tup, be_nil, be_cons, dn_b2, fk_eq, cmp_t, cmp_c, cmp_n, cmp_call, cmp_a, cmp_o, mapX_ret, filX_ret, range0 (show m ≤ 1000 by omega)]
  refine (for_dn (ds := (List.range m).map fun (i : Nat) => PyData.int (i : Int)) (fun l : List (List La × List La) => [.row, .val (.int cols), .val (.int prs), .val (.int size), .val (.int (n : Int)), .own (l.map pairD), .no]) (fun k l => l.length = k ∧ ∀ p ∈ l, rowIn n size p.1 ∧ rowIn n size p.2) (n := 0) (s := []) ⟨rfl, fun a h => by cases h⟩ fun k l d hd _ hk ⟨e2, hl⟩ => ?_).bnd ?_
  · rw [List.length_map, List.length_range, Nat.zero_add] at hk
    have hpush : (l.map pairD).length < sizeLine := by rw [List.length_map, e2]; exact Nat.lt_of_lt_of_le (show k < 7 by omega) (by decide)
    simp -implicitDefEqProofs only [wipeE, Tg.slots, k_nx, k_rt, e_nx, e_rt, br_t, br_f, dS_nil, dS_seq, dS_nm, own_list, dS_newL, dS_par, sl_f, sl_t, dS_ite, dS_ret, dS_expr, dS_app, ap_own, dS_aug, au_val, dS_frz, fr_own, asB_bool, asI_int, items_l, items_t, dn_nil, dn_cons, dn_star, lo_l, lo_d, vk, dn_var, ok_, dn_own, dn_lit, dn_glob, dn_bin, dn_neg, dn_not, dn_cmp, dn_chain, ch_t, ch_f, dn_and, dn_or, dn_ite, an_t, an_f, or_t, or_f, it_t, it_f, dn_tup, dn_list, tup0, tup1, tup2, tup3, lst0, lst1, lst2, lst3, dn_ix, dn_slice, dn_call, call1, call2, call3, call4, call5, rk, dn_callR, dn_b1, dn_b2, dn_isI, dn_isTL, dn_range1, dn_range2, dn_zip, b1_len_l, b1_len_t, b1_tup_l, b1_tup_t, b1_list_l, b1_list_t, b1_int, not_b, neg_i, cmp_lt, cmp_le, cmp_gt, cmp_ge, cmp_is, cmp_isnot, cmp_eqi, cmp_nei, bin_add, bin_sub, zip_t, zip_l, dn_comp, dS_for, bnd_ret, bnd_bnd, fn_eq, fnR_eq, List.map_cons, List.map_nil, List.cons_append, List.nil_append, List.append_nil, List.length_cons, List.length_nil, List.replicate_succ, List.replicate_zero, Nat.sub_self, Nat.reduceAdd, Nat.reduceSub, Nat.zero_add, List.set_cons_zero, List.set_cons_succ, List.getElem?_cons_zero, List.getElem?_cons_succ, dS_asgT, dS_kill, be_nm, be_tup, be_nil, be_cons, dn_b2, fk_eq, cmp_t, cmp_c, cmp_n, cmp_call, cmp_a, cmp_o, mapX_ret, filX_ret]
    refine (row_does (by omega) (by omega) (by decide)).bnd fun d1 ⟨a, e1, a1, a2⟩ => ?_
    subst e1
    refine (row_does (by omega) (by omega) (by decide)).bnd fun d1 ⟨b, e1, b1, b2⟩ => ?_
    subst e1
    simp -implicitDefEqProofs only [wipeE, Tg.slots, k_nx, k_rt, e_nx, e_rt, br_t, br_f, dS_nil, dS_seq, dS_nm, own_list, dS_newL, dS_par, sl_f, sl_t, dS_ite, dS_ret, dS_expr, dS_app, ap_own, dS_aug, au_val, dS_frz, fr_own, asB_bool, asI_int, items_l, items_t, dn_nil, dn_cons, dn_star, lo_l, lo_d, vk, dn_var, ok_, dn_own, dn_lit, dn_glob, dn_bin, dn_neg, dn_not, dn_cmp, dn_chain, ch_t, ch_f, dn_and, dn_or, dn_ite, an_t, an_f, or_t, or_f, it_t, it_f, dn_tup, dn_list, tup0, tup1, tup2, tup3, lst0, lst1, lst2, lst3, dn_ix, dn_slice, dn_call, call1, call2, call3, call4, call5, rk, dn_callR, dn_b1, dn_b2, dn_isI, dn_isTL, dn_range1, dn_range2, dn_zip, b1_len_l, b1_len_t, b1_tup_l, b1_tup_t, b1_list_l, b1_list_t, b1_int, not_b, neg_i, cmp_lt, cmp_le, cmp_gt, cmp_ge, cmp_is, cmp_isnot, cmp_eqi, cmp_nei, bin_add, bin_sub, zip_t, zip_l, dn_comp, dS_for, bnd_ret, bnd_bnd, fn_eq, fnR_eq, List.map_cons, List.map_nil, List.cons_append, List.nil_append, List.append_nil, List.length_cons, List.length_nil, List.replicate_succ, List.replicate_zero, Nat.sub_self, Nat.reduceAdd, Nat.reduceSub, Nat.zero_add, List.set_cons_zero, List.set_cons_succ, List.getElem?_cons_zero, List.getElem?_cons_succ, dS_asgT, dS_kill, be_nm, be_tup, be_nil, be_cons, dn_b2, fk_eq, cmp_t, cmp_c, cmp_n, cmp_call, cmp_a, cmp_o, mapX_ret, filX_ret, push_ok hpush]
    refine .ret ⟨l ++ [(a, b)], ?_, by rw [List.length_append, e2]; rfl, fun p hb => ?_⟩
    · rw [List.map_append]; rfl
    · rcases List.mem_append.mp hb with hb | hb
      · exact hl p hb
      · cases List.mem_singleton.mp hb; exact ⟨⟨a1, a2⟩, b1, b2⟩
  · rintro o ⟨l, rfl, e2, hl⟩
    rw [List.length_map, List.length_range, Nat.zero_add] at e2
    simp -implicitDefEqProofs only [wipeE, Tg.slots, k_nx, k_rt, e_nx, e_rt, br_t, br_f, dS_nil, dS_seq, dS_nm, own_list, dS_newL, dS_par, sl_f, sl_t, dS_ite, dS_ret, dS_expr, dS_app, ap_own, dS_aug, au_val, dS_frz, fr_own, asB_bool, asI_int, items_l, items_t, dn_nil, dn_cons, dn_star, lo_l, lo_d, vk, dn_var, ok_, dn_own, dn_lit, dn_glob, dn_bin, dn_neg, dn_not, dn_cmp, dn_chain, ch_t, ch_f, dn_and, dn_or, dn_ite, an_t, an_f, or_t, or_f, it_t, it_f, dn_tup, dn_list, tup0, tup1, tup2, tup3, lst0, lst1, lst2, lst3, dn_ix, dn_slice, dn_call, call1, call2, call3, call4, call5, rk, dn_callR, dn_b1, dn_b2, dn_isI, dn_isTL, dn_range1, dn_range2, dn_zip, b1_len_l, b1_len_t, b1_tup_l, b1_tup_t, b1_list_l, b1_list_t, b1_int, not_b, neg_i, cmp_lt, cmp_le, cmp_gt, cmp_ge, cmp_is, cmp_isnot, cmp_eqi, cmp_nei, bin_add, bin_sub, zip_t, zip_l, dn_comp, dS_for, bnd_ret, bnd_bnd, fn_eq, fnR_eq, List.map_cons, List.map_nil, List.cons_append, List.nil_append, List.append_nil, List.length_cons, List.length_nil, List.replicate_succ, List.replicate_zero, Nat.sub_self, Nat.reduceAdd, Nat.reduceSub, Nat.zero_add, List.set_cons_zero, List.set_cons_succ, List.getElem?_cons_zero, List.getElem?_cons_succ, dS_asgT, dS_kill, be_nm, be_tup, be_nil, be_cons, dn_b2, fk_eq, cmp_t, cmp_c, cmp_n, cmp_call, cmp_a, cmp_o, mapX_ret, filX_ret, b1_tup_l]
    exact .ret ⟨n, l, rfl, by omega, by omega, by omega, hl⟩
/-! ### the walk: rows in the laws' own words -/
theorem m_lkey (r : List La) : f__law_key [rowD r] = ret (keyR r) := by
  unfold f__law_key B__law_key
  simp -implicitDefEqProofs only [wipeE, Tg.slots, k_nx, k_rt, e_nx, e_rt, br_t, br_f, dS_nil, dS_seq, dS_nm, own_list, dS_newL, dS_par, sl_f, sl_t, dS_ite, dS_ret, dS_expr, dS_app, ap_own, dS_aug, au_val, dS_frz, fr_own, asB_bool, asI_int, items_l, items_t, dn_nil, dn_cons, dn_star, lo_l, lo_d, vk, dn_var, ok_, dn_own, dn_lit, dn_glob, dn_bin, dn_neg, dn_not, dn_cmp, dn_chain, ch_t, ch_f, dn_and, dn_or, dn_ite, an_t, an_f, or_t, or_f, it_t, it_f, dn_tup, dn_list, tup0, tup1, tup2, tup3, lst0, lst1, lst2, lst3, dn_ix, dn_slice, dn_call, call1, call2, call3, call4, call5, rk, dn_callR, dn_b1, dn_b2, dn_isI, dn_isTL, dn_range1, dn_range2, dn_zip, b1_len_l, b1_len_t, b1_tup_l, b1_tup_t, b1_list_l, b1_list_t, b1_int, not_b, neg_i, cmp_lt, cmp_le, cmp_gt, cmp_ge, cmp_is, cmp_isnot, cmp_eqi, cmp_nei, bin_add, bin_sub, zip_t, zip_l, dn_comp, dS_for, bnd_ret, bnd_bnd, fn_eq, fnR_eq, List.map_cons, List.map_nil, List.cons_append, List.nil_append, List.append_nil, List.length_cons, List.length_nil, List.replicate_succ, List.replicate_zero, Nat.sub_self, Nat.reduceAdd, Nat.reduceSub, Nat.zero_add, List.set_cons_zero, List.set_cons_succ, List.getElem?_cons_zero, List.getElem?_cons_succ, dS_asgT, dS_kill, be_nm, be_tup, be_nil, be_cons, dn_b2, fk_eq, cmp_t, cmp_c, cmp_n, cmp_call, cmp_a, cmp_o, mapX_ret, filX_ret, items_row]
  rw [mapX_mem keyC fun a _ => by
    cases a with
    | none => simp -implicitDefEqProofs only [wipeE, Tg.slots, k_nx, k_rt, e_nx, e_rt, br_t, br_f, dS_nil, dS_seq, dS_nm, own_list, dS_newL, dS_par, sl_f, sl_t, dS_ite, dS_ret, dS_expr, dS_app, ap_own, dS_aug, au_val, dS_frz, fr_own, asB_bool, asI_int, items_l, items_t, dn_nil, dn_cons, dn_star, lo_l, lo_d, vk, dn_var, ok_, dn_own, dn_lit, dn_glob, dn_bin, dn_neg, dn_not, dn_cmp, dn_chain, ch_t, ch_f, dn_and, dn_or, dn_ite, an_t, an_f, or_t, or_f, it_t, it_f, dn_tup, dn_list, tup0, tup1, tup2, tup3, lst0, lst1, lst2, lst3, dn_ix, dn_slice, dn_call, call1, call2, call3, call4, call5, rk, dn_callR, dn_b1, dn_b2, dn_isI, dn_isTL, dn_range1, dn_range2, dn_zip, b1_len_l, b1_len_t, b1_tup_l, b1_tup_t, b1_list_l, b1_list_t, b1_int, not_b, neg_i, cmp_lt, cmp_le, cmp_gt, cmp_ge, cmp_is, cmp_isnot, cmp_eqi, cmp_nei, bin_add, bin_sub, zip_t, zip_l, dn_comp, dS_for, bnd_ret, bnd_bnd, fn_eq, fnR_eq, List.map_cons, List.map_nil, List.cons_append, List.nil_append, List.append_nil, List.length_cons, List.length_nil, List.replicate_succ, List.replicate_zero, Nat.sub_self, Nat.reduceAdd, Nat.reduceSub, Nat.zero_add, List.set_cons_zero, List.set_cons_succ, List.getElem?_cons_zero, List.getElem?_cons_succ, dS_asgT, dS_kill, be_nm, be_tup, be_nil, be_cons, dn_b2, fk_eq, cmp_t, cmp_c, cmp_n, cmp_call, cmp_a, cmp_o, mapX_ret, filX_ret, none_opt, Option.isNone_none]; rfl
    | some v => simp -implicitDefEqProofs only [wipeE, Tg.slots, k_nx, k_rt, e_nx, e_rt, br_t, br_f, dS_nil, dS_seq, dS_nm, own_list, dS_newL, dS_par, sl_f, sl_t, dS_ite, dS_ret, dS_expr, dS_app, ap_own, dS_aug, au_val, dS_frz, fr_own, asB_bool, asI_int, items_l, items_t, dn_nil, dn_cons, dn_star, lo_l, lo_d, vk, dn_var, ok_, dn_own, dn_lit, dn_glob, dn_bin, dn_neg, dn_not, dn_cmp, dn_chain, ch_t, ch_f, dn_and, dn_or, dn_ite, an_t, an_f, or_t, or_f, it_t, it_f, dn_tup, dn_list, tup0, tup1, tup2, tup3, lst0, lst1, lst2, lst3, dn_ix, dn_slice, dn_call, call1, call2, call3, call4, call5, rk, dn_callR, dn_b1, dn_b2, dn_isI, dn_isTL, dn_range1, dn_range2, dn_zip, b1_len_l, b1_len_t, b1_tup_l, b1_tup_t, b1_list_l, b1_list_t, b1_int, not_b, neg_i, cmp_lt, cmp_le, cmp_gt, cmp_ge, cmp_is, cmp_isnot, cmp_eqi, cmp_nei, bin_add, bin_sub, zip_t, zip_l, dn_comp, dS_for, bnd_ret, bnd_bnd, fn_eq, fnR_eq, List.map_cons, List.map_nil, List.cons_append, List.nil_append, List.append_nil, List.length_cons, List.length_nil, List.replicate_succ, List.replicate_zero, Nat.sub_self, Nat.reduceAdd, Nat.reduceSub, Nat.zero_add, List.set_cons_zero, List.set_cons_succ, List.getElem?_cons_zero, List.getElem?_cons_succ, dS_asgT, dS_kill, be_nm, be_tup, be_nil, be_cons, dn_b2, fk_eq, cmp_t, cmp_c, cmp_n, cmp_call, cmp_a, cmp_o, mapX_ret, filX_ret, none_opt, Option.isNone_some]; rfl]
  simp -implicitDefEqProofs only [wipeE, Tg.slots, k_nx, k_rt, e_nx, e_rt, br_t, br_f, dS_nil, dS_seq, dS_nm, own_list, dS_newL, dS_par, sl_f, sl_t, dS_ite, dS_ret, dS_expr, dS_app, ap_own, dS_aug, au_val, dS_frz, fr_own, asB_bool, asI_int, items_l, items_t, dn_nil, dn_cons, dn_star, lo_l, lo_d, vk, dn_var, ok_, dn_own, dn_lit, dn_glob, dn_bin, dn_neg, dn_not, dn_cmp, dn_chain, ch_t, ch_f, dn_and, dn_or, dn_ite, an_t, an_f, or_t, or_f, it_t, it_f, dn_tup, dn_list, tup0, tup1, tup2, tup3, lst0, lst1, lst2, lst3, dn_ix, dn_slice, dn_call, call1, call2, call3, call4, call5, rk, dn_callR, dn_b1, dn_b2, dn_isI, dn_isTL, dn_range1, dn_range2, dn_zip, b1_len_l, b1_len_t, b1_tup_l, b1_tup_t, b1_list_l, b1_list_t, b1_int, not_b, neg_i, cmp_lt, cmp_le, cmp_gt, cmp_ge, cmp_is, cmp_isnot, cmp_eqi, cmp_nei, bin_add, bin_sub, zip_t, zip_l, dn_comp, dS_for, bnd_ret, bnd_bnd, fn_eq, fnR_eq, List.map_cons, List.map_nil, List.cons_append, List.nil_append, List.append_nil, List.length_cons, List.length_nil, List.replicate_succ, List.replicate_zero, Nat.sub_self, Nat.reduceAdd, Nat.reduceSub, Nat.zero_add, List.set_cons_zero, List.set_cons_succ, List.getElem?_cons_zero, List.getElem?_cons_succ, dS_asgT, dS_kill, be_nm, be_tup, be_nil, be_cons, dn_b2, fk_eq, cmp_t, cmp_c, cmp_n, cmp_call, cmp_a, cmp_o, mapX_ret, filX_ret]
  rfl
theorem lt_keys (a b : List La) : cmpD .lt (keyR a) (keyR b) = ret (.bool (rowLt a b)) := by
  have e : cmpD .lt (keyR a) (keyR b) = (if ltOk (keyR a) (keyR b) then ret (.bool (W.dataLt (keyR a) (keyR b))) else bad) := rfl
  have h : ltOk (keyR a) (keyR b) = true := by
    unfold ltOk
    rw [alike_keyR, decide_eq_true (Nat.le_trans (depth_R a) (by decide))]
    rfl
  rw [e, h, if_pos rfl, lt_keyR]
theorem until_map {α β σ : Type} (f : α → β) (step : σ → β → σ ⊕ D) : ∀ (xs : List α) (s : σ), untilF step (xs.map f) s = untilF (fun s a => step s (f a)) xs s
  | [], s => rfl
  | a :: xs, s => by
    rw [List.map_cons]
    unfold untilF
    cases step s (f a) with
    | inl s' => exact until_map f step xs s'
    | inr d => rfl
theorem min_less (u v : Int) : (if u < v then u else v) = if v > u then u else v := rfl
theorem m_lshare {g x : List La} (h : g.length = x.length) (hx : x.length ≤ 1000) : f__law_share [rowD g, rowD x] = ret (optD (gapOf g x)) := by
  unfold f__law_share B__law_share
  simp -implicitDefEqProofs only [wipeE, Tg.slots, k_nx, k_rt, e_nx, e_rt, br_t, br_f, dS_nil, dS_seq, dS_nm, own_list, dS_newL, dS_par, sl_f, sl_t, dS_ite, dS_ret, dS_expr, dS_app, ap_own, dS_aug, au_val, dS_frz, fr_own, asB_bool, asI_int, items_l, items_t, dn_nil, dn_cons, dn_star, lo_l, lo_d, vk, dn_var, ok_, dn_own, dn_lit, dn_glob, dn_bin, dn_neg, dn_not, dn_cmp, dn_chain, ch_t, ch_f, dn_and, dn_or, dn_ite, an_t, an_f, or_t, or_f, it_t, it_f, dn_tup, dn_list, tup0, tup1, tup2, tup3, lst0, lst1, lst2, lst3, dn_ix, dn_slice, dn_call, call1, call2, call3, call4, call5, rk, dn_callR, dn_b1, dn_b2, dn_isI, dn_isTL, dn_range1, dn_range2, dn_zip, b1_len_l, b1_len_t, b1_tup_l, b1_tup_t, b1_list_l, b1_list_t, b1_int, not_b, neg_i, cmp_lt, cmp_le, cmp_gt, cmp_ge, cmp_is, cmp_isnot, cmp_eqi, cmp_nei, bin_add, bin_sub, zip_t, zip_l, dn_comp, dS_for, bnd_ret, bnd_bnd, fn_eq, fnR_eq, List.map_cons, List.map_nil, List.cons_append, List.nil_append, List.append_nil, List.length_cons, List.length_nil, List.replicate_succ, List.replicate_zero, Nat.sub_self, Nat.reduceAdd, Nat.reduceSub, Nat.zero_add, List.set_cons_zero, List.set_cons_succ, List.getElem?_cons_zero, List.getElem?_cons_succ, dS_asgT, dS_kill, be_nm, be_tup, be_nil, be_cons, dn_b2, fk_eq, cmp_t, cmp_c, cmp_n, cmp_call, cmp_a, cmp_o, mapX_ret, filX_ret, len_row, range0 hx]
  erw [for_until (enc := fun (i : Nat) => PyData.int (i : Int)) (fun s : La => [.val (rowD g), .val (rowD x), .val (optD s), .no]) (fun s k => shareStep s (getL g k, getL x k)) (xs := List.range x.length) (s := none) fun s k hk => by
    have hk := List.mem_range.mp hk
    have ea := getD_ok (show k < g.length by omega)
    have eb := getD_ok hk
    unfold getL
    generalize (g[k]?).getD none = u at ea
    generalize (x[k]?).getD none = v at eb
    cases u with
    | none => simp -implicitDefEqProofs only [wipeE, Tg.slots, k_nx, k_rt, e_nx, e_rt, br_t, br_f, dS_nil, dS_seq, dS_nm, own_list, dS_newL, dS_par, sl_f, sl_t, dS_ite, dS_ret, dS_expr, dS_app, ap_own, dS_aug, au_val, dS_frz, fr_own, asB_bool, asI_int, items_l, items_t, dn_nil, dn_cons, dn_star, lo_l, lo_d, vk, dn_var, ok_, dn_own, dn_lit, dn_glob, dn_bin, dn_neg, dn_not, dn_cmp, dn_chain, ch_t, ch_f, dn_and, dn_or, dn_ite, an_t, an_f, or_t, or_f, it_t, it_f, dn_tup, dn_list, tup0, tup1, tup2, tup3, lst0, lst1, lst2, lst3, dn_ix, dn_slice, dn_call, call1, call2, call3, call4, call5, rk, dn_callR, dn_b1, dn_b2, dn_isI, dn_isTL, dn_range1, dn_range2, dn_zip, b1_len_l, b1_len_t, b1_tup_l, b1_tup_t, b1_list_l, b1_list_t, b1_int, not_b, neg_i, cmp_lt, cmp_le, cmp_gt, cmp_ge, cmp_is, cmp_isnot, cmp_eqi, cmp_nei, bin_add, bin_sub, zip_t, zip_l, dn_comp, dS_for, bnd_ret, bnd_bnd, fn_eq, fnR_eq, List.map_cons, List.map_nil, List.cons_append, List.nil_append, List.append_nil, List.length_cons, List.length_nil, List.replicate_succ, List.replicate_zero, Nat.sub_self, Nat.reduceAdd, Nat.reduceSub, Nat.zero_add, List.set_cons_zero, List.set_cons_succ, List.getElem?_cons_zero, List.getElem?_cons_succ, dS_asgT, dS_kill, be_nm, be_tup, be_nil, be_cons, dn_b2, fk_eq, cmp_t, cmp_c, cmp_n, cmp_call, cmp_a, cmp_o, mapX_ret, filX_ret, ix_row ea, none_opt, Option.isNone_none, Bool.not_true]; rfl
    | some u =>
      cases v with
      | none => simp -implicitDefEqProofs only [wipeE, Tg.slots, k_nx, k_rt, e_nx, e_rt, br_t, br_f, dS_nil, dS_seq, dS_nm, own_list, dS_newL, dS_par, sl_f, sl_t, dS_ite, dS_ret, dS_expr, dS_app, ap_own, dS_aug, au_val, dS_frz, fr_own, asB_bool, asI_int, items_l, items_t, dn_nil, dn_cons, dn_star, lo_l, lo_d, vk, dn_var, ok_, dn_own, dn_lit, dn_glob, dn_bin, dn_neg, dn_not, dn_cmp, dn_chain, ch_t, ch_f, dn_and, dn_or, dn_ite, an_t, an_f, or_t, or_f, it_t, it_f, dn_tup, dn_list, tup0, tup1, tup2, tup3, lst0, lst1, lst2, lst3, dn_ix, dn_slice, dn_call, call1, call2, call3, call4, call5, rk, dn_callR, dn_b1, dn_b2, dn_isI, dn_isTL, dn_range1, dn_range2, dn_zip, b1_len_l, b1_len_t, b1_tup_l, b1_tup_t, b1_list_l, b1_list_t, b1_int, not_b, neg_i, cmp_lt, cmp_le, cmp_gt, cmp_ge, cmp_is, cmp_isnot, cmp_eqi, cmp_nei, bin_add, bin_sub, zip_t, zip_l, dn_comp, dS_for, bnd_ret, bnd_bnd, fn_eq, fnR_eq, List.map_cons, List.map_nil, List.cons_append, List.nil_append, List.append_nil, List.length_cons, List.length_nil, List.replicate_succ, List.replicate_zero, Nat.sub_self, Nat.reduceAdd, Nat.reduceSub, Nat.zero_add, List.set_cons_zero, List.set_cons_succ, List.getElem?_cons_zero, List.getElem?_cons_succ, dS_asgT, dS_kill, be_nm, be_tup, be_nil, be_cons, dn_b2, fk_eq, cmp_t, cmp_c, cmp_n, cmp_call, cmp_a, cmp_o, mapX_ret, filX_ret, ix_row ea, ix_row eb, none_opt, Option.isNone_some, Option.isNone_none, Bool.not_false]; rfl
      | some v =>
        cases s with
        | none => simp -implicitDefEqProofs only [wipeE, Tg.slots, k_nx, k_rt, e_nx, e_rt, br_t, br_f, dS_nil, dS_seq, dS_nm, own_list, dS_newL, dS_par, sl_f, sl_t, dS_ite, dS_ret, dS_expr, dS_app, ap_own, dS_aug, au_val, dS_frz, fr_own, asB_bool, asI_int, items_l, items_t, dn_nil, dn_cons, dn_star, lo_l, lo_d, vk, dn_var, ok_, dn_own, dn_lit, dn_glob, dn_bin, dn_neg, dn_not, dn_cmp, dn_chain, ch_t, ch_f, dn_and, dn_or, dn_ite, an_t, an_f, or_t, or_f, it_t, it_f, dn_tup, dn_list, tup0, tup1, tup2, tup3, lst0, lst1, lst2, lst3, dn_ix, dn_slice, dn_call, call1, call2, call3, call4, call5, rk, dn_callR, dn_b1, dn_b2, dn_isI, dn_isTL, dn_range1, dn_range2, dn_zip, b1_len_l, b1_len_t, b1_tup_l, b1_tup_t, b1_list_l, b1_list_t, b1_int, not_b, neg_i, cmp_lt, cmp_le, cmp_gt, cmp_ge, cmp_is, cmp_isnot, cmp_eqi, cmp_nei, bin_add, bin_sub, zip_t, zip_l, dn_comp, dS_for, bnd_ret, bnd_bnd, fn_eq, fnR_eq, List.map_cons, List.map_nil, List.cons_append, List.nil_append, List.append_nil, List.length_cons, List.length_nil, List.replicate_succ, List.replicate_zero, Nat.sub_self, Nat.reduceAdd, Nat.reduceSub, Nat.zero_add, List.set_cons_zero, List.set_cons_succ, List.getElem?_cons_zero, List.getElem?_cons_succ, dS_asgT, dS_kill, be_nm, be_tup, be_nil, be_cons, dn_b2, fk_eq, cmp_t, cmp_c, cmp_n, cmp_call, cmp_a, cmp_o, mapX_ret, filX_ret, ix_row ea, ix_row eb, show optD none = PyData.none from rfl, isNone, none_opt, Option.isNone_some, Option.isNone_none, Bool.not_false, show optD (some u) = .int u from rfl, show optD (some v) = .int v from rfl]; rfl
        | some t =>
          simp -implicitDefEqProofs only [wipeE, Tg.slots, k_nx, k_rt, e_nx, e_rt, br_t, br_f, dS_nil, dS_seq, dS_nm, own_list, dS_newL, dS_par, sl_f, sl_t, dS_ite, dS_ret, dS_expr, dS_app, ap_own, dS_aug, au_val, dS_frz, fr_own, asB_bool, asI_int, items_l, items_t, dn_nil, dn_cons, dn_star, lo_l, lo_d, vk, dn_var, ok_, dn_own, dn_lit, dn_glob, dn_bin, dn_neg, dn_not, dn_cmp, dn_chain, ch_t, ch_f, dn_and, dn_or, dn_ite, an_t, an_f, or_t, or_f, it_t, it_f, dn_tup, dn_list, tup0, tup1, tup2, tup3, lst0, lst1, lst2, lst3, dn_ix, dn_slice, dn_call, call1, call2, call3, call4, call5, rk, dn_callR, dn_b1, dn_b2, dn_isI, dn_isTL, dn_range1, dn_range2, dn_zip, b1_len_l, b1_len_t, b1_tup_l, b1_tup_t, b1_list_l, b1_list_t, b1_int, not_b, neg_i, cmp_lt, cmp_le, cmp_gt, cmp_ge, cmp_is, cmp_isnot, cmp_eqi, cmp_nei, bin_add, bin_sub, zip_t, zip_l, dn_comp, dS_for, bnd_ret, bnd_bnd, fn_eq, fnR_eq, List.map_cons, List.map_nil, List.cons_append, List.nil_append, List.append_nil, List.length_cons, List.length_nil, List.replicate_succ, List.replicate_zero, Nat.sub_self, Nat.reduceAdd, Nat.reduceSub, Nat.zero_add, List.set_cons_zero, List.set_cons_succ, List.getElem?_cons_zero, List.getElem?_cons_succ, dS_asgT, dS_kill, be_nm, be_tup, be_nil, be_cons, dn_b2, fk_eq, cmp_t, cmp_c, cmp_n, cmp_call, cmp_a, cmp_o, mapX_ret, filX_ret, ix_row ea, ix_row eb, isNone, none_opt, Option.isNone_some, Bool.not_false, show optD (some u) = .int u from rfl, show optD (some v) = .int v from rfl, show optD (some t) = .int t from rfl]
          rfl]
  have := share_go (g.zip x) none
  have ez : g.zip x = (List.range x.length).map fun k => (getL g k, getL x k) := by
    rw [List.zip, zip_range g x h, h]
  rw [ez, until_map] at this
  unfold gapOf
  rw [ez, ← this]
  cases untilF (fun s k => shareStep s (getL g k, getL x k)) (List.range x.length) none with
  | inl s =>
    show bnd (ret (O.nx [.val (rowD g), .val (rowD x), .val (optD s), .no])) _ = _
    simp -implicitDefEqProofs only [wipeE, Tg.slots, k_nx, k_rt, e_nx, e_rt, br_t, br_f, dS_nil, dS_seq, dS_nm, own_list, dS_newL, dS_par, sl_f, sl_t, dS_ite, dS_ret, dS_expr, dS_app, ap_own, dS_aug, au_val, dS_frz, fr_own, asB_bool, asI_int, items_l, items_t, dn_nil, dn_cons, dn_star, lo_l, lo_d, vk, dn_var, ok_, dn_own, dn_lit, dn_glob, dn_bin, dn_neg, dn_not, dn_cmp, dn_chain, ch_t, ch_f, dn_and, dn_or, dn_ite, an_t, an_f, or_t, or_f, it_t, it_f, dn_tup, dn_list, tup0, tup1, tup2, tup3, lst0, lst1, lst2, lst3, dn_ix, dn_slice, dn_call, call1, call2, call3, call4, call5, rk, dn_callR, dn_b1, dn_b2, dn_isI, dn_isTL, dn_range1, dn_range2, dn_zip, b1_len_l, b1_len_t, b1_tup_l, b1_tup_t, b1_list_l, b1_list_t, b1_int, not_b, neg_i, cmp_lt, cmp_le, cmp_gt, cmp_ge, cmp_is, cmp_isnot, cmp_eqi, cmp_nei, bin_add, bin_sub, zip_t, zip_l, dn_comp, dS_for, bnd_ret, bnd_bnd, fn_eq, fnR_eq, List.map_cons, List.map_nil, List.cons_append, List.nil_append, List.append_nil, List.length_cons, List.length_nil, List.replicate_succ, List.replicate_zero, Nat.sub_self, Nat.reduceAdd, Nat.reduceSub, Nat.zero_add, List.set_cons_zero, List.set_cons_succ, List.getElem?_cons_zero, List.getElem?_cons_succ, dS_asgT, dS_kill, be_nm, be_tup, be_nil, be_cons, dn_b2]
    rfl
  | inr d =>
    show bnd (ret (O.rt d)) _ = _
    simp -implicitDefEqProofs only [wipeE, Tg.slots, k_nx, k_rt, e_nx, e_rt, br_t, br_f, dS_nil, dS_seq, dS_nm, own_list, dS_newL, dS_par, sl_f, sl_t, dS_ite, dS_ret, dS_expr, dS_app, ap_own, dS_aug, au_val, dS_frz, fr_own, asB_bool, asI_int, items_l, items_t, dn_nil, dn_cons, dn_star, lo_l, lo_d, vk, dn_var, ok_, dn_own, dn_lit, dn_glob, dn_bin, dn_neg, dn_not, dn_cmp, dn_chain, ch_t, ch_f, dn_and, dn_or, dn_ite, an_t, an_f, or_t, or_f, it_t, it_f, dn_tup, dn_list, tup0, tup1, tup2, tup3, lst0, lst1, lst2, lst3, dn_ix, dn_slice, dn_call, call1, call2, call3, call4, call5, rk, dn_callR, dn_b1, dn_b2, dn_isI, dn_isTL, dn_range1, dn_range2, dn_zip, b1_len_l, b1_len_t, b1_tup_l, b1_tup_t, b1_list_l, b1_list_t, b1_int, not_b, neg_i, cmp_lt, cmp_le, cmp_gt, cmp_ge, cmp_is, cmp_isnot, cmp_eqi, cmp_nei, bin_add, bin_sub, zip_t, zip_l, dn_comp, dS_for, bnd_ret, bnd_bnd, fn_eq, fnR_eq, List.map_cons, List.map_nil, List.cons_append, List.nil_append, List.append_nil, List.length_cons, List.length_nil, List.replicate_succ, List.replicate_zero, Nat.sub_self, Nat.reduceAdd, Nat.reduceSub, Nat.zero_add, List.set_cons_zero, List.set_cons_succ, List.getElem?_cons_zero, List.getElem?_cons_succ, dS_asgT, dS_kill, be_nm, be_tup, be_nil, be_cons, dn_b2]
    rfl
theorem m_lmade {G : List (List La)} {x : List La} (hG : Rows x.length G) (h : x.length ≤ 1000) {X : D} (hX : itemsOf X = ret (G.map rowD)) : f__law_made [X, rowD x] = ret (rowD (madeOf G x)) := by
  unfold f__law_made B__law_made
  simp -implicitDefEqProofs only [wipeE, Tg.slots, k_nx, k_rt, e_nx, e_rt, br_t, br_f, dS_nil, dS_seq, dS_nm, own_list, dS_newL, dS_par, sl_f, sl_t, dS_ite, dS_ret, dS_expr, dS_app, ap_own, dS_aug, au_val, dS_frz, fr_own, asB_bool, asI_int, items_l, items_t, dn_nil, dn_cons, dn_star, lo_l, lo_d, vk, dn_var, ok_, dn_own, dn_lit, dn_glob, dn_bin, dn_neg, dn_not, dn_cmp, dn_chain, ch_t, ch_f, dn_and, dn_or, dn_ite, an_t, an_f, or_t, or_f, it_t, it_f, dn_tup, dn_list, tup0, tup1, tup2, tup3, lst0, lst1, lst2, lst3, dn_ix, dn_slice, dn_call, call1, call2, call3, call4, call5, rk, dn_callR, dn_b1, dn_b2, dn_isI, dn_isTL, dn_range1, dn_range2, dn_zip, b1_len_l, b1_len_t, b1_tup_l, b1_tup_t, b1_list_l, b1_list_t, b1_int, not_b, neg_i, cmp_lt, cmp_le, cmp_gt, cmp_ge, cmp_is, cmp_isnot, cmp_eqi, cmp_nei, bin_add, bin_sub, zip_t, zip_l, dn_comp, dS_for, bnd_ret, bnd_bnd, fn_eq, fnR_eq, List.map_cons, List.map_nil, List.cons_append, List.nil_append, List.append_nil, List.length_cons, List.length_nil, List.replicate_succ, List.replicate_zero, Nat.sub_self, Nat.reduceAdd, Nat.reduceSub, Nat.zero_add, List.set_cons_zero, List.set_cons_succ, List.getElem?_cons_zero, List.getElem?_cons_succ, dS_asgT, dS_kill, be_nm, be_tup, be_nil, be_cons, dn_b2, fk_eq, cmp_t, cmp_c, cmp_n, cmp_call, cmp_a, cmp_o, mapX_ret, filX_ret, len_row, mul_noneS h, hX]
  have hI := for_inv (t := .nm 3) (B := (.seq (.asg (.nm 4) (.call "_law_share" 2 f__law_share (.cons (.var 3) (.cons (.var 1) .nil)))) (.seq (.ite (.cmp .isnot (.var 4) (.lit .none)) (.seq (.asg (.nm 2) (.call "_law_both" 2 f__law_both (.cons (.var 2) (.cons (.call "_law_shift" 2 f__law_shift (.cons (.var 3) (.cons (.var 4) .nil))) .nil)))) .nil) .nil) (.seq (.kill 3) (.seq (.kill 4) .nil)))))
    (enc := rowD) (fun f : List La => [.val X, .val (rowD x), .val (rowD f), .no, .no]) (makeStep x) (fun _ f => f.length = x.length) (xs := G) (s := List.replicate x.length none) (n := 0) (List.length_replicate ..) fun k f g hg _ _ hf => by
    have hgl := hG g hg
    refine ⟨?_, makeStep_len hf hgl⟩
    unfold makeStep
    cases e : gapOf g x with
    | none => simp -implicitDefEqProofs only [wipeE, Tg.slots, k_nx, k_rt, e_nx, e_rt, br_t, br_f, dS_nil, dS_seq, dS_nm, own_list, dS_newL, dS_par, sl_f, sl_t, dS_ite, dS_ret, dS_expr, dS_app, ap_own, dS_aug, au_val, dS_frz, fr_own, asB_bool, asI_int, items_l, items_t, dn_nil, dn_cons, dn_star, lo_l, lo_d, vk, dn_var, ok_, dn_own, dn_lit, dn_glob, dn_bin, dn_neg, dn_not, dn_cmp, dn_chain, ch_t, ch_f, dn_and, dn_or, dn_ite, an_t, an_f, or_t, or_f, it_t, it_f, dn_tup, dn_list, tup0, tup1, tup2, tup3, lst0, lst1, lst2, lst3, dn_ix, dn_slice, dn_call, call1, call2, call3, call4, call5, rk, dn_callR, dn_b1, dn_b2, dn_isI, dn_isTL, dn_range1, dn_range2, dn_zip, b1_len_l, b1_len_t, b1_tup_l, b1_tup_t, b1_list_l, b1_list_t, b1_int, not_b, neg_i, cmp_lt, cmp_le, cmp_gt, cmp_ge, cmp_is, cmp_isnot, cmp_eqi, cmp_nei, bin_add, bin_sub, zip_t, zip_l, dn_comp, dS_for, bnd_ret, bnd_bnd, fn_eq, fnR_eq, List.map_cons, List.map_nil, List.cons_append, List.nil_append, List.append_nil, List.length_cons, List.length_nil, List.replicate_succ, List.replicate_zero, Nat.sub_self, Nat.reduceAdd, Nat.reduceSub, Nat.zero_add, List.set_cons_zero, List.set_cons_succ, List.getElem?_cons_zero, List.getElem?_cons_succ, dS_asgT, dS_kill, be_nm, be_tup, be_nil, be_cons, dn_b2, fk_eq, cmp_t, cmp_c, cmp_n, cmp_call, cmp_a, cmp_o, mapX_ret, filX_ret, m_lshare hgl h, e, none_opt, Option.isNone_none, Bool.not_true]
    | some l => simp -implicitDefEqProofs only [wipeE, Tg.slots, k_nx, k_rt, e_nx, e_rt, br_t, br_f, dS_nil, dS_seq, dS_nm, own_list, dS_newL, dS_par, sl_f, sl_t, dS_ite, dS_ret, dS_expr, dS_app, ap_own, dS_aug, au_val, dS_frz, fr_own, asB_bool, asI_int, items_l, items_t, dn_nil, dn_cons, dn_star, lo_l, lo_d, vk, dn_var, ok_, dn_own, dn_lit, dn_glob, dn_bin, dn_neg, dn_not, dn_cmp, dn_chain, ch_t, ch_f, dn_and, dn_or, dn_ite, an_t, an_f, or_t, or_f, it_t, it_f, dn_tup, dn_list, tup0, tup1, tup2, tup3, lst0, lst1, lst2, lst3, dn_ix, dn_slice, dn_call, call1, call2, call3, call4, call5, rk, dn_callR, dn_b1, dn_b2, dn_isI, dn_isTL, dn_range1, dn_range2, dn_zip, b1_len_l, b1_len_t, b1_tup_l, b1_tup_t, b1_list_l, b1_list_t, b1_int, not_b, neg_i, cmp_lt, cmp_le, cmp_gt, cmp_ge, cmp_is, cmp_isnot, cmp_eqi, cmp_nei, bin_add, bin_sub, zip_t, zip_l, dn_comp, dS_for, bnd_ret, bnd_bnd, fn_eq, fnR_eq, List.map_cons, List.map_nil, List.cons_append, List.nil_append, List.append_nil, List.length_cons, List.length_nil, List.replicate_succ, List.replicate_zero, Nat.sub_self, Nat.reduceAdd, Nat.reduceSub, Nat.zero_add, List.set_cons_zero, List.set_cons_succ, List.getElem?_cons_zero, List.getElem?_cons_succ, dS_asgT, dS_kill, be_nm, be_tup, be_nil, be_cons, dn_b2, fk_eq, cmp_t, cmp_c, cmp_n, cmp_call, cmp_a, cmp_o, mapX_ret, filX_ret, m_lshare hgl h, e, isNone, none_opt, Option.isNone_some, Bool.not_false, show optD (some l) = .int l from rfl, m_lshift, m_lboth (show f.length = (shiftOf g l).length by rw [shift_len, hf, hgl]) (hf ▸ h)]
  erw [hI.1]
  simp -implicitDefEqProofs only [wipeE, Tg.slots, k_nx, k_rt, e_nx, e_rt, br_t, br_f, dS_nil, dS_seq, dS_nm, own_list, dS_newL, dS_par, sl_f, sl_t, dS_ite, dS_ret, dS_expr, dS_app, ap_own, dS_aug, au_val, dS_frz, fr_own, asB_bool, asI_int, items_l, items_t, dn_nil, dn_cons, dn_star, lo_l, lo_d, vk, dn_var, ok_, dn_own, dn_lit, dn_glob, dn_bin, dn_neg, dn_not, dn_cmp, dn_chain, ch_t, ch_f, dn_and, dn_or, dn_ite, an_t, an_f, or_t, or_f, it_t, it_f, dn_tup, dn_list, tup0, tup1, tup2, tup3, lst0, lst1, lst2, lst3, dn_ix, dn_slice, dn_call, call1, call2, call3, call4, call5, rk, dn_callR, dn_b1, dn_b2, dn_isI, dn_isTL, dn_range1, dn_range2, dn_zip, b1_len_l, b1_len_t, b1_tup_l, b1_tup_t, b1_list_l, b1_list_t, b1_int, not_b, neg_i, cmp_lt, cmp_le, cmp_gt, cmp_ge, cmp_is, cmp_isnot, cmp_eqi, cmp_nei, bin_add, bin_sub, zip_t, zip_l, dn_comp, dS_for, bnd_ret, bnd_bnd, fn_eq, fnR_eq, List.map_cons, List.map_nil, List.cons_append, List.nil_append, List.append_nil, List.length_cons, List.length_nil, List.replicate_succ, List.replicate_zero, Nat.sub_self, Nat.reduceAdd, Nat.reduceSub, Nat.zero_add, List.set_cons_zero, List.set_cons_succ, List.getElem?_cons_zero, List.getElem?_cons_succ, dS_asgT, dS_kill, be_nm, be_tup, be_nil, be_cons, dn_b2]
  rfl
theorem latest_vals {x : List La} {v : Int} {vs : List Int} (h : ((x.filter Option.isSome).map fun a => a.getD 0) = v :: vs) : latestOf x = some (maxI (v :: vs)) := by
  have sp := maxI_spec vs v
  have hmem : ∀ y, y ∈ v :: vs ↔ some y ∈ x := fun y => by
    rw [← h]
    constructor
    · intro hy
      obtain ⟨a, ha, e⟩ := List.mem_map.mp hy
      obtain ⟨h1, h2⟩ := List.mem_filter.mp ha
      cases a with
      | none => cases h2
      | some w =>
        have e : w = y := e
        exact e ▸ h1
    · intro hy
      exact List.mem_map.mpr ⟨some y, List.mem_filter.mpr ⟨hy, rfl⟩, rfl⟩
  have h1 : isBy (latestOf x) (some (maxI (v :: vs))) = true := (latest_by _ _).mpr fun a ha => by
    cases a with
    | none => rfl
    | some w =>
      have := sp.2 w ((hmem w).mpr ha)
      exact decide_eq_true this
  have h2 : isBy (some (maxI (v :: vs))) (latestOf x) = true := (latest_by _ _).mp (isBy_refl _) _ ((hmem _).mp sp.1)
  cases e : latestOf x with
  | none => rw [e] at h2; cases h2
  | some m =>
    rw [e] at h1 h2
    have h1 : decide (m ≤ maxI (v :: vs)) = true := h1
    have h2 : decide (maxI (v :: vs) ≤ m) = true := h2
    have := of_decide_eq_true h1
    have := of_decide_eq_true h2
    congr 1
    omega
theorem some_map : ∀ x : List La, (x.filter fun a => !isNone (optD a)).map optD = (x.filter Option.isSome).map fun a => PyData.int (a.getD 0)
  | [] => rfl
  | none :: x => some_map x
  | some v :: x => by
    rw [List.filter_cons_of_pos (by rfl), List.filter_cons_of_pos (by rfl), List.map_cons, List.map_cons, some_map x]
    rfl
theorem m_lnorm {x : List La} (hx : x.length ≤ 1000) : f__law_norm [rowD x] = ret (rowD (normOf x)) := by
  unfold f__law_norm B__law_norm normOf
  simp -implicitDefEqProofs only [wipeE, Tg.slots, k_nx, k_rt, e_nx, e_rt, br_t, br_f, dS_nil, dS_seq, dS_nm, own_list, dS_newL, dS_par, sl_f, sl_t, dS_ite, dS_ret, dS_expr, dS_app, ap_own, dS_aug, au_val, dS_frz, fr_own, asB_bool, asI_int, items_l, items_t, dn_nil, dn_cons, dn_star, lo_l, lo_d, vk, dn_var, ok_, dn_own, dn_lit, dn_glob, dn_bin, dn_neg, dn_not, dn_cmp, dn_chain, ch_t, ch_f, dn_and, dn_or, dn_ite, an_t, an_f, or_t, or_f, it_t, it_f, dn_tup, dn_list, tup0, tup1, tup2, tup3, lst0, lst1, lst2, lst3, dn_ix, dn_slice, dn_call, call1, call2, call3, call4, call5, rk, dn_callR, dn_b1, dn_b2, dn_isI, dn_isTL, dn_range1, dn_range2, dn_zip, b1_len_l, b1_len_t, b1_tup_l, b1_tup_t, b1_list_l, b1_list_t, b1_int, not_b, neg_i, cmp_lt, cmp_le, cmp_gt, cmp_ge, cmp_is, cmp_isnot, cmp_eqi, cmp_nei, bin_add, bin_sub, zip_t, zip_l, dn_comp, dS_for, bnd_ret, bnd_bnd, fn_eq, fnR_eq, List.map_cons, List.map_nil, List.cons_append, List.nil_append, List.append_nil, List.length_cons, List.length_nil, List.replicate_succ, List.replicate_zero, Nat.sub_self, Nat.reduceAdd, Nat.reduceSub, Nat.zero_add, List.set_cons_zero, List.set_cons_succ, List.getElem?_cons_zero, List.getElem?_cons_succ, dS_asgT, dS_kill, be_nm, be_tup, be_nil, be_cons, dn_b2, fk_eq, cmp_t, cmp_c, cmp_n, cmp_call, cmp_a, cmp_o, mapX_ret, filX_ret, items_row]
  rw [some_map x]
  simp -implicitDefEqProofs only [wipeE, Tg.slots, k_nx, k_rt, e_nx, e_rt, br_t, br_f, dS_nil, dS_seq, dS_nm, own_list, dS_newL, dS_par, sl_f, sl_t, dS_ite, dS_ret, dS_expr, dS_app, ap_own, dS_aug, au_val, dS_frz, fr_own, asB_bool, asI_int, items_l, items_t, dn_nil, dn_cons, dn_star, lo_l, lo_d, vk, dn_var, ok_, dn_own, dn_lit, dn_glob, dn_bin, dn_neg, dn_not, dn_cmp, dn_chain, ch_t, ch_f, dn_and, dn_or, dn_ite, an_t, an_f, or_t, or_f, it_t, it_f, dn_tup, dn_list, tup0, tup1, tup2, tup3, lst0, lst1, lst2, lst3, dn_ix, dn_slice, dn_call, call1, call2, call3, call4, call5, rk, dn_callR, dn_b1, dn_b2, dn_isI, dn_isTL, dn_range1, dn_range2, dn_zip, b1_len_l, b1_len_t, b1_tup_l, b1_tup_t, b1_list_l, b1_list_t, b1_int, not_b, neg_i, cmp_lt, cmp_le, cmp_gt, cmp_ge, cmp_is, cmp_isnot, cmp_eqi, cmp_nei, bin_add, bin_sub, zip_t, zip_l, dn_comp, dS_for, bnd_ret, bnd_bnd, fn_eq, fnR_eq, List.map_cons, List.map_nil, List.cons_append, List.nil_append, List.append_nil, List.length_cons, List.length_nil, List.replicate_succ, List.replicate_zero, Nat.sub_self, Nat.reduceAdd, Nat.reduceSub, Nat.zero_add, List.set_cons_zero, List.set_cons_succ, List.getElem?_cons_zero, List.getElem?_cons_succ, dS_asgT, dS_kill, be_nm, be_tup, be_nil, be_cons, dn_b2, fk_eq, cmp_t, cmp_c, cmp_n, cmp_call, cmp_a, cmp_o, mapX_ret, filX_ret, ne_empty (some_plain hx) (show 1 ≤ 64 by decide)]
  cases e : ((x.filter Option.isSome).map fun a => a.getD 0) with
  | nil =>
    have e0 : x.filter Option.isSome = [] := List.map_eq_nil_iff.mp e
    have en : latestOf x = none := latest_nones fun a ha => by
      cases a with
      | none => rfl
      | some v =>
        have : some v ∈ x.filter Option.isSome := List.mem_filter.mpr ⟨ha, rfl⟩
        rw [e0] at this
        cases this
    rw [e0, en]
    simp -implicitDefEqProofs only [wipeE, Tg.slots, k_nx, k_rt, e_nx, e_rt, br_t, br_f, dS_nil, dS_seq, dS_nm, own_list, dS_newL, dS_par, sl_f, sl_t, dS_ite, dS_ret, dS_expr, dS_app, ap_own, dS_aug, au_val, dS_frz, fr_own, asB_bool, asI_int, items_l, items_t, dn_nil, dn_cons, dn_star, lo_l, lo_d, vk, dn_var, ok_, dn_own, dn_lit, dn_glob, dn_bin, dn_neg, dn_not, dn_cmp, dn_chain, ch_t, ch_f, dn_and, dn_or, dn_ite, an_t, an_f, or_t, or_f, it_t, it_f, dn_tup, dn_list, tup0, tup1, tup2, tup3, lst0, lst1, lst2, lst3, dn_ix, dn_slice, dn_call, call1, call2, call3, call4, call5, rk, dn_callR, dn_b1, dn_b2, dn_isI, dn_isTL, dn_range1, dn_range2, dn_zip, b1_len_l, b1_len_t, b1_tup_l, b1_tup_t, b1_list_l, b1_list_t, b1_int, not_b, neg_i, cmp_lt, cmp_le, cmp_gt, cmp_ge, cmp_is, cmp_isnot, cmp_eqi, cmp_nei, bin_add, bin_sub, zip_t, zip_l, dn_comp, dS_for, bnd_ret, bnd_bnd, fn_eq, fnR_eq, List.map_cons, List.map_nil, List.cons_append, List.nil_append, List.append_nil, List.length_cons, List.length_nil, List.replicate_succ, List.replicate_zero, Nat.sub_self, Nat.reduceAdd, Nat.reduceSub, Nat.zero_add, List.set_cons_zero, List.set_cons_succ, List.getElem?_cons_zero, List.getElem?_cons_succ, dS_asgT, dS_kill, be_nm, be_tup, be_nil, be_cons, dn_b2, fk_eq, cmp_t, cmp_c, cmp_n, cmp_call, cmp_a, cmp_o, mapX_ret, filX_ret, List.isEmpty_nil, Bool.not_true]
  | cons v vs =>
    have eM : b1D .max (.list ((x.filter Option.isSome).map fun a => PyData.int (a.getD 0))) = ret (.int (maxI (v :: vs))) := by
      show (match intsOf ((x.filter Option.isSome).map fun a => PyData.int (a.getD 0)) with | some (n :: ns) => (ret (.int (maxI (n :: ns))) : M D) | _ => bad) = _
      rw [ints_map, e]
    have ene : ((x.filter Option.isSome).map fun a => PyData.int (a.getD 0)).isEmpty = false := by
      cases e0 : x.filter Option.isSome with
      | nil => rw [e0] at e; cases e
      | cons a l => rfl
    rw [latest_vals e, ene]
    simp -implicitDefEqProofs only [wipeE, Tg.slots, k_nx, k_rt, e_nx, e_rt, br_t, br_f, dS_nil, dS_seq, dS_nm, own_list, dS_newL, dS_par, sl_f, sl_t, dS_ite, dS_ret, dS_expr, dS_app, ap_own, dS_aug, au_val, dS_frz, fr_own, asB_bool, asI_int, items_l, items_t, dn_nil, dn_cons, dn_star, lo_l, lo_d, vk, dn_var, ok_, dn_own, dn_lit, dn_glob, dn_bin, dn_neg, dn_not, dn_cmp, dn_chain, ch_t, ch_f, dn_and, dn_or, dn_ite, an_t, an_f, or_t, or_f, it_t, it_f, dn_tup, dn_list, tup0, tup1, tup2, tup3, lst0, lst1, lst2, lst3, dn_ix, dn_slice, dn_call, call1, call2, call3, call4, call5, rk, dn_callR, dn_b1, dn_b2, dn_isI, dn_isTL, dn_range1, dn_range2, dn_zip, b1_len_l, b1_len_t, b1_tup_l, b1_tup_t, b1_list_l, b1_list_t, b1_int, not_b, neg_i, cmp_lt, cmp_le, cmp_gt, cmp_ge, cmp_is, cmp_isnot, cmp_eqi, cmp_nei, bin_add, bin_sub, zip_t, zip_l, dn_comp, dS_for, bnd_ret, bnd_bnd, fn_eq, fnR_eq, List.map_cons, List.map_nil, List.cons_append, List.nil_append, List.append_nil, List.length_cons, List.length_nil, List.replicate_succ, List.replicate_zero, Nat.sub_self, Nat.reduceAdd, Nat.reduceSub, Nat.zero_add, List.set_cons_zero, List.set_cons_succ, List.getElem?_cons_zero, List.getElem?_cons_succ, dS_asgT, dS_kill, be_nm, be_tup, be_nil, be_cons, dn_b2, fk_eq, cmp_t, cmp_c, cmp_n, cmp_call, cmp_a, cmp_o, mapX_ret, filX_ret, Bool.not_false, eM, Int.zero_sub, m_lshift]
def orderStep (found : List (List La)) (g : List La) : List (List La) := found.take (found.filter fun x => rowLt x g).length ++ [g] ++ found.drop (found.filter fun x => rowLt x g).length
theorem orderStep_len (found : List (List La)) (g : List La) : (orderStep found g).length = found.length + 1 := by
  unfold orderStep
  rw [List.length_append, List.length_append, List.length_take, List.length_drop, List.length_singleton]
  have := List.length_filter_le (fun x => rowLt x g) found
  omega
theorem order_sorted : ∀ (G pre : List (List La)), (pre ++ G).Pairwise (fun a b => rowLt a b = true) → G.foldl orderStep pre = pre ++ G
  | [], pre, _ => by simp
  | g :: G, pre, h => by
    have e : orderStep pre g = pre ++ [g] := by
      have : pre.filter (fun x => rowLt x g) = pre := List.filter_eq_self.mpr fun x hx => (List.pairwise_append.mp h).2.2 x hx g (List.mem_cons_self ..)
      unfold orderStep
      rw [this, List.take_length, List.drop_length, List.append_nil]
    rw [List.foldl_cons, e, order_sorted G (pre ++ [g]) (by rw [List.append_assoc]; exact h), List.append_assoc]
    rfl
theorem lslice_take {α : Type} {enc : α → D} {r : List α} {k : Nat} (h : k ≤ r.length) : sliceD (.list (r.map enc)) none (some (k : Int)) = ret (.list ((r.take k).map enc)) := by
  show ret (PyData.list (cutL (r.map enc) none (some (k : Int)))) = _
  rw [cut_take (by rw [List.length_map]; exact h), ← List.map_take]
theorem lslice_drop {α : Type} {enc : α → D} {r : List α} {k : Nat} (h : k ≤ r.length) : sliceD (.list (r.map enc)) (some (k : Int)) none = ret (.list ((r.drop k).map enc)) := by
  show ret (PyData.list (cutL (r.map enc) (some (k : Int)) none)) = _
  rw [cut_drop (by rw [List.length_map]; exact h), ← List.map_drop]
theorem m_lorder {G : List (List La)} {X : D} (hX : itemsOf X = ret (G.map rowD)) (hz : G.length ≤ 100000) : f__law_order [X] = ret (.list ((G.foldl orderStep []).map rowD)) := by
  unfold f__law_order B__law_order
  simp -implicitDefEqProofs only [wipeE, Tg.slots, k_nx, k_rt, e_nx, e_rt, br_t, br_f, dS_nil, dS_seq, dS_nm, own_list, dS_newL, dS_par, sl_f, sl_t, dS_ite, dS_ret, dS_expr, dS_app, ap_own, dS_aug, au_val, dS_frz, fr_own, asB_bool, asI_int, items_l, items_t, dn_nil, dn_cons, dn_star, lo_l, lo_d, vk, dn_var, ok_, dn_own, dn_lit, dn_glob, dn_bin, dn_neg, dn_not, dn_cmp, dn_chain, ch_t, ch_f, dn_and, dn_or, dn_ite, an_t, an_f, or_t, or_f, it_t, it_f, dn_tup, dn_list, tup0, tup1, tup2, tup3, lst0, lst1, lst2, lst3, dn_ix, dn_slice, dn_call, call1, call2, call3, call4, call5, rk, dn_callR, dn_b1, dn_b2, dn_isI, dn_isTL, dn_range1, dn_range2, dn_zip, b1_len_l, b1_len_t, b1_tup_l, b1_tup_t, b1_list_l, b1_list_t, b1_int, not_b, neg_i, cmp_lt, cmp_le, cmp_gt, cmp_ge, cmp_is, cmp_isnot, cmp_eqi, cmp_nei, bin_add, bin_sub, zip_t, zip_l, dn_comp, dS_for, bnd_ret, bnd_bnd, fn_eq, fnR_eq, List.map_cons, List.map_nil, List.cons_append, List.nil_append, List.append_nil, List.length_cons, List.length_nil, List.replicate_succ, List.replicate_zero, Nat.sub_self, Nat.reduceAdd, Nat.reduceSub, Nat.zero_add, List.set_cons_zero, List.set_cons_succ, List.getElem?_cons_zero, List.getElem?_cons_succ, dS_asgT, dS_kill, be_nm, be_tup, be_nil, be_cons, dn_b2, fk_eq, cmp_t, cmp_c, cmp_n, cmp_call, cmp_a, cmp_o, mapX_ret, filX_ret, hX]
  have hI := for_inv (t := .nm 2) (B := (.seq (.asg (.nm 3) (.b1 .len (.comp (.lit (.int 1)) (.nm 4) (.var 1) (.cmp .lt (.call "_law_key" 1 f__law_key (.cons (.var 4) .nil)) (.call "_law_key" 1 f__law_key (.cons (.var 2) .nil)))))) (.seq (.asg (.nm 1) (.bin .add (.bin .add (.slice (.var 1) .nil (.var 3)) (.list (.cons (.var 2) .nil))) (.slice (.var 1) (.var 3) .nil))) (.seq (.kill 2) (.seq (.kill 3) .nil)))))
    (enc := rowD) (fun found : List (List La) => [.val X, .val (.list (found.map rowD)), .no, .no, .no]) orderStep (fun k found => found.length = k) (xs := G) (s := []) (n := 0) rfl fun k found g hg _ hk hf => by
    rw [Nat.zero_add] at hk
    refine ⟨?_, by rw [orderStep_len, hf]⟩
    have hfl := List.length_filter_le (fun x => rowLt x g) found
    simp -implicitDefEqProofs only [wipeE, Tg.slots, k_nx, k_rt, e_nx, e_rt, br_t, br_f, dS_nil, dS_seq, dS_nm, own_list, dS_newL, dS_par, sl_f, sl_t, dS_ite, dS_ret, dS_expr, dS_app, ap_own, dS_aug, au_val, dS_frz, fr_own, asB_bool, asI_int, items_l, items_t, dn_nil, dn_cons, dn_star, lo_l, lo_d, vk, dn_var, ok_, dn_own, dn_lit, dn_glob, dn_bin, dn_neg, dn_not, dn_cmp, dn_chain, ch_t, ch_f, dn_and, dn_or, dn_ite, an_t, an_f, or_t, or_f, it_t, it_f, dn_tup, dn_list, tup0, tup1, tup2, tup3, lst0, lst1, lst2, lst3, dn_ix, dn_slice, dn_call, call1, call2, call3, call4, call5, rk, dn_callR, dn_b1, dn_b2, dn_isI, dn_isTL, dn_range1, dn_range2, dn_zip, b1_len_l, b1_len_t, b1_tup_l, b1_tup_t, b1_list_l, b1_list_t, b1_int, not_b, neg_i, cmp_lt, cmp_le, cmp_gt, cmp_ge, cmp_is, cmp_isnot, cmp_eqi, cmp_nei, bin_add, bin_sub, zip_t, zip_l, dn_comp, dS_for, bnd_ret, bnd_bnd, fn_eq, fnR_eq, List.map_cons, List.map_nil, List.cons_append, List.nil_append, List.append_nil, List.length_cons, List.length_nil, List.replicate_succ, List.replicate_zero, Nat.sub_self, Nat.reduceAdd, Nat.reduceSub, Nat.zero_add, List.set_cons_zero, List.set_cons_succ, List.getElem?_cons_zero, List.getElem?_cons_succ, dS_asgT, dS_kill, be_nm, be_tup, be_nil, be_cons, dn_b2, fk_eq, cmp_t, cmp_c, cmp_n, cmp_call, cmp_a, cmp_o, mapX_ret, filX_ret]
    rw [filX_mem (fun x => rowLt x g) (fun _ => .int 1) fun x _ => ⟨by simp -implicitDefEqProofs only [wipeE, Tg.slots, k_nx, k_rt, e_nx, e_rt, br_t, br_f, dS_nil, dS_seq, dS_nm, own_list, dS_newL, dS_par, sl_f, sl_t, dS_ite, dS_ret, dS_expr, dS_app, ap_own, dS_aug, au_val, dS_frz, fr_own, asB_bool, asI_int, items_l, items_t, dn_nil, dn_cons, dn_star, lo_l, lo_d, vk, dn_var, ok_, dn_own, dn_lit, dn_glob, dn_bin, dn_neg, dn_not, dn_cmp, dn_chain, ch_t, ch_f, dn_and, dn_or, dn_ite, an_t, an_f, or_t, or_f, it_t, it_f, dn_tup, dn_list, tup0, tup1, tup2, tup3, lst0, lst1, lst2, lst3, dn_ix, dn_slice, dn_call, call1, call2, call3, call4, call5, rk, dn_callR, dn_b1, dn_b2, dn_isI, dn_isTL, dn_range1, dn_range2, dn_zip, b1_len_l, b1_len_t, b1_tup_l, b1_tup_t, b1_list_l, b1_list_t, b1_int, not_b, neg_i, cmp_lt, cmp_le, cmp_gt, cmp_ge, cmp_is, cmp_isnot, cmp_eqi, cmp_nei, bin_add, bin_sub, zip_t, zip_l, dn_comp, dS_for, bnd_ret, bnd_bnd, fn_eq, fnR_eq, List.map_cons, List.map_nil, List.cons_append, List.nil_append, List.append_nil, List.length_cons, List.length_nil, List.replicate_succ, List.replicate_zero, Nat.sub_self, Nat.reduceAdd, Nat.reduceSub, Nat.zero_add, List.set_cons_zero, List.set_cons_succ, List.getElem?_cons_zero, List.getElem?_cons_succ, dS_asgT, dS_kill, be_nm, be_tup, be_nil, be_cons, dn_b2, fk_eq, cmp_t, cmp_c, cmp_n, cmp_call, cmp_a, cmp_o, mapX_ret, filX_ret, m_lkey, lt_keys], fun _ => by simp -implicitDefEqProofs only [wipeE, Tg.slots, k_nx, k_rt, e_nx, e_rt, br_t, br_f, dS_nil, dS_seq, dS_nm, own_list, dS_newL, dS_par, sl_f, sl_t, dS_ite, dS_ret, dS_expr, dS_app, ap_own, dS_aug, au_val, dS_frz, fr_own, asB_bool, asI_int, items_l, items_t, dn_nil, dn_cons, dn_star, lo_l, lo_d, vk, dn_var, ok_, dn_own, dn_lit, dn_glob, dn_bin, dn_neg, dn_not, dn_cmp, dn_chain, ch_t, ch_f, dn_and, dn_or, dn_ite, an_t, an_f, or_t, or_f, it_t, it_f, dn_tup, dn_list, tup0, tup1, tup2, tup3, lst0, lst1, lst2, lst3, dn_ix, dn_slice, dn_call, call1, call2, call3, call4, call5, rk, dn_callR, dn_b1, dn_b2, dn_isI, dn_isTL, dn_range1, dn_range2, dn_zip, b1_len_l, b1_len_t, b1_tup_l, b1_tup_t, b1_list_l, b1_list_t, b1_int, not_b, neg_i, cmp_lt, cmp_le, cmp_gt, cmp_ge, cmp_is, cmp_isnot, cmp_eqi, cmp_nei, bin_add, bin_sub, zip_t, zip_l, dn_comp, dS_for, bnd_ret, bnd_bnd, fn_eq, fnR_eq, List.map_cons, List.map_nil, List.cons_append, List.nil_append, List.append_nil, List.length_cons, List.length_nil, List.replicate_succ, List.replicate_zero, Nat.sub_self, Nat.reduceAdd, Nat.reduceSub, Nat.zero_add, List.set_cons_zero, List.set_cons_succ, List.getElem?_cons_zero, List.getElem?_cons_succ, dS_asgT, dS_kill, be_nm, be_tup, be_nil, be_cons, dn_b2, fk_eq, cmp_t, cmp_c, cmp_n, cmp_call, cmp_a, cmp_o, mapX_ret, filX_ret]⟩]
    simp -implicitDefEqProofs only [wipeE, Tg.slots, k_nx, k_rt, e_nx, e_rt, br_t, br_f, dS_nil, dS_seq, dS_nm, own_list, dS_newL, dS_par, sl_f, sl_t, dS_ite, dS_ret, dS_expr, dS_app, ap_own, dS_aug, au_val, dS_frz, fr_own, asB_bool, asI_int, items_l, items_t, dn_nil, dn_cons, dn_star, lo_l, lo_d, vk, dn_var, ok_, dn_own, dn_lit, dn_glob, dn_bin, dn_neg, dn_not, dn_cmp, dn_chain, ch_t, ch_f, dn_and, dn_or, dn_ite, an_t, an_f, or_t, or_f, it_t, it_f, dn_tup, dn_list, tup0, tup1, tup2, tup3, lst0, lst1, lst2, lst3, dn_ix, dn_slice, dn_call, call1, call2, call3, call4, call5, rk, dn_callR, dn_b1, dn_b2, dn_isI, dn_isTL, dn_range1, dn_range2, dn_zip, b1_len_l, b1_len_t, b1_tup_l, b1_tup_t, b1_list_l, b1_list_t, b1_int, not_b, neg_i, cmp_lt, cmp_le, cmp_gt, cmp_ge, cmp_is, cmp_isnot, cmp_eqi, cmp_nei, bin_add, bin_sub, zip_t, zip_l, dn_comp, dS_for, bnd_ret, bnd_bnd, fn_eq, fnR_eq, List.map_cons, List.map_nil, List.cons_append, List.nil_append, List.append_nil, List.length_cons, List.length_nil, List.replicate_succ, List.replicate_zero, Nat.sub_self, Nat.reduceAdd, Nat.reduceSub, Nat.zero_add, List.set_cons_zero, List.set_cons_succ, List.getElem?_cons_zero, List.getElem?_cons_succ, dS_asgT, dS_kill, be_nm, be_tup, be_nil, be_cons, dn_b2, fk_eq, cmp_t, cmp_c, cmp_n, cmp_call, cmp_a, cmp_o, mapX_ret, filX_ret, b1_len_l, List.length_map, partD, lslice_take hfl, lslice_drop hfl]
    rw [add_ll (by rw [List.length_map, List.length_take, List.length_singleton]; exact Nat.le_trans (show _ ≤ 100001 by omega) (by decide))]
    simp -implicitDefEqProofs only [wipeE, Tg.slots, k_nx, k_rt, e_nx, e_rt, br_t, br_f, dS_nil, dS_seq, dS_nm, own_list, dS_newL, dS_par, sl_f, sl_t, dS_ite, dS_ret, dS_expr, dS_app, ap_own, dS_aug, au_val, dS_frz, fr_own, asB_bool, asI_int, items_l, items_t, dn_nil, dn_cons, dn_star, lo_l, lo_d, vk, dn_var, ok_, dn_own, dn_lit, dn_glob, dn_bin, dn_neg, dn_not, dn_cmp, dn_chain, ch_t, ch_f, dn_and, dn_or, dn_ite, an_t, an_f, or_t, or_f, it_t, it_f, dn_tup, dn_list, tup0, tup1, tup2, tup3, lst0, lst1, lst2, lst3, dn_ix, dn_slice, dn_call, call1, call2, call3, call4, call5, rk, dn_callR, dn_b1, dn_b2, dn_isI, dn_isTL, dn_range1, dn_range2, dn_zip, b1_len_l, b1_len_t, b1_tup_l, b1_tup_t, b1_list_l, b1_list_t, b1_int, not_b, neg_i, cmp_lt, cmp_le, cmp_gt, cmp_ge, cmp_is, cmp_isnot, cmp_eqi, cmp_nei, bin_add, bin_sub, zip_t, zip_l, dn_comp, dS_for, bnd_ret, bnd_bnd, fn_eq, fnR_eq, List.map_cons, List.map_nil, List.cons_append, List.nil_append, List.append_nil, List.length_cons, List.length_nil, List.replicate_succ, List.replicate_zero, Nat.sub_self, Nat.reduceAdd, Nat.reduceSub, Nat.zero_add, List.set_cons_zero, List.set_cons_succ, List.getElem?_cons_zero, List.getElem?_cons_succ, dS_asgT, dS_kill, be_nm, be_tup, be_nil, be_cons, dn_b2, fk_eq, cmp_t, cmp_c, cmp_n, cmp_call, cmp_a, cmp_o, mapX_ret, filX_ret]
    rw [add_ll (by rw [List.length_append, List.length_map, List.length_map, List.length_take, List.length_drop, List.length_singleton]; exact Nat.le_trans (show _ ≤ 300001 by omega) (by decide))]
    simp -implicitDefEqProofs only [wipeE, Tg.slots, k_nx, k_rt, e_nx, e_rt, br_t, br_f, dS_nil, dS_seq, dS_nm, own_list, dS_newL, dS_par, sl_f, sl_t, dS_ite, dS_ret, dS_expr, dS_app, ap_own, dS_aug, au_val, dS_frz, fr_own, asB_bool, asI_int, items_l, items_t, dn_nil, dn_cons, dn_star, lo_l, lo_d, vk, dn_var, ok_, dn_own, dn_lit, dn_glob, dn_bin, dn_neg, dn_not, dn_cmp, dn_chain, ch_t, ch_f, dn_and, dn_or, dn_ite, an_t, an_f, or_t, or_f, it_t, it_f, dn_tup, dn_list, tup0, tup1, tup2, tup3, lst0, lst1, lst2, lst3, dn_ix, dn_slice, dn_call, call1, call2, call3, call4, call5, rk, dn_callR, dn_b1, dn_b2, dn_isI, dn_isTL, dn_range1, dn_range2, dn_zip, b1_len_l, b1_len_t, b1_tup_l, b1_tup_t, b1_list_l, b1_list_t, b1_int, not_b, neg_i, cmp_lt, cmp_le, cmp_gt, cmp_ge, cmp_is, cmp_isnot, cmp_eqi, cmp_nei, bin_add, bin_sub, zip_t, zip_l, dn_comp, dS_for, bnd_ret, bnd_bnd, fn_eq, fnR_eq, List.map_cons, List.map_nil, List.cons_append, List.nil_append, List.append_nil, List.length_cons, List.length_nil, List.replicate_succ, List.replicate_zero, Nat.sub_self, Nat.reduceAdd, Nat.reduceSub, Nat.zero_add, List.set_cons_zero, List.set_cons_succ, List.getElem?_cons_zero, List.getElem?_cons_succ, dS_asgT, dS_kill, be_nm, be_tup, be_nil, be_cons, dn_b2, fk_eq, cmp_t, cmp_c, cmp_n, cmp_call, cmp_a, cmp_o, mapX_ret, filX_ret]
    unfold orderStep
    rw [List.map_append, List.map_append]
    rfl
  erw [hI.1]
  simp -implicitDefEqProofs only [wipeE, Tg.slots, k_nx, k_rt, e_nx, e_rt, br_t, br_f, dS_nil, dS_seq, dS_nm, own_list, dS_newL, dS_par, sl_f, sl_t, dS_ite, dS_ret, dS_expr, dS_app, ap_own, dS_aug, au_val, dS_frz, fr_own, asB_bool, asI_int, items_l, items_t, dn_nil, dn_cons, dn_star, lo_l, lo_d, vk, dn_var, ok_, dn_own, dn_lit, dn_glob, dn_bin, dn_neg, dn_not, dn_cmp, dn_chain, ch_t, ch_f, dn_and, dn_or, dn_ite, an_t, an_f, or_t, or_f, it_t, it_f, dn_tup, dn_list, tup0, tup1, tup2, tup3, lst0, lst1, lst2, lst3, dn_ix, dn_slice, dn_call, call1, call2, call3, call4, call5, rk, dn_callR, dn_b1, dn_b2, dn_isI, dn_isTL, dn_range1, dn_range2, dn_zip, b1_len_l, b1_len_t, b1_tup_l, b1_tup_t, b1_list_l, b1_list_t, b1_int, not_b, neg_i, cmp_lt, cmp_le, cmp_gt, cmp_ge, cmp_is, cmp_isnot, cmp_eqi, cmp_nei, bin_add, bin_sub, zip_t, zip_l, dn_comp, dS_for, bnd_ret, bnd_bnd, fn_eq, fnR_eq, List.map_cons, List.map_nil, List.cons_append, List.nil_append, List.append_nil, List.length_cons, List.length_nil, List.replicate_succ, List.replicate_zero, Nat.sub_self, Nat.reduceAdd, Nat.reduceSub, Nat.zero_add, List.set_cons_zero, List.set_cons_succ, List.getElem?_cons_zero, List.getElem?_cons_succ, dS_asgT, dS_kill, be_nm, be_tup, be_nil, be_cons, dn_b2]
end Dn.DL
namespace Dn.DL
open PySem
abbrev LB0 : S := (.seq (.ite (.or (.cmp .ne (.ix (.var 4) (.var 5)) (.call "_law_norm" 1 f__law_norm (.cons (.ix (.var 4) (.var 5)) .nil))) (.or (.not (.call "_law_keeps" 2 f__law_keeps (.cons (.var 3) (.cons (.ix (.var 4) (.var 5)) .nil)))) (.bare false (.ix (.var 4) (.var 5))))) (.seq (.ret (.lit (.bool false))) .nil) .nil) (.seq (.ite (.cmp .eq (.call "_law_made" 2 f__law_made (.cons (.bin .add (.slice (.var 4) .nil (.var 5)) (.slice (.var 4) (.bin .add (.var 5) (.lit (.int 1))) .nil)) (.cons (.ix (.var 4) (.var 5)) .nil))) (.ix (.var 4) (.var 5))) (.seq (.ret (.lit (.bool false))) .nil) .nil) (.seq (.kill 5) .nil)))
abbrev LB1 : S := (.seq (.ite (.cmp .ne (.call "_law_keeps" 2 f__law_keeps (.cons (.var 3) (.cons (.var 6) .nil))) (.cmp .eq (.call "_law_made" 2 f__law_made (.cons (.var 4) (.cons (.var 6) .nil))) (.var 6))) (.seq (.ret (.lit (.bool false))) .nil) .nil) (.seq (.kill 6) .nil))
abbrev LS7 : S := .nil
abbrev LS6 : S := .seq (.ret (.cmp .eq (.call "_law_keeps" 2 f__law_keeps (.cons (.var 3) (.cons (.var 7) .nil))) (.cmp .eq (.call "_law_made" 2 f__law_made (.cons (.var 4) (.cons (.var 7) .nil))) (.var 7)))) LS7
abbrev LS5 : S := .seq (.asg (.nm 7) (.callR "_law_row" 3 f__law_row 1 (.cons (.var 2) (.cons (.lit (.int 30)) (.cons (.lit (.int 4)) .nil))))) LS6
abbrev LS4 : S := .seq (.for_ (.nm 6) (.call "_law_grid" 2 f__law_grid (.cons (.var 2) (.cons (.ite (.cmp .lt (.var 2) (.lit (.int 3))) (.lit (.int 9)) (.lit (.int 5))) .nil))) (.seq (.ite (.cmp .ne (.call "_law_keeps" 2 f__law_keeps (.cons (.var 3) (.cons (.var 6) .nil))) (.cmp .eq (.call "_law_made" 2 f__law_made (.cons (.var 4) (.cons (.var 6) .nil))) (.var 6))) (.seq (.ret (.lit (.bool false))) .nil) .nil) (.seq (.kill 6) .nil))) LS5
abbrev LS3 : S := .seq (.for_ (.nm 5) (.range1 (.b1 .len (.var 4))) (.seq (.ite (.or (.cmp .ne (.ix (.var 4) (.var 5)) (.call "_law_norm" 1 f__law_norm (.cons (.ix (.var 4) (.var 5)) .nil))) (.or (.not (.call "_law_keeps" 2 f__law_keeps (.cons (.var 3) (.cons (.ix (.var 4) (.var 5)) .nil)))) (.bare false (.ix (.var 4) (.var 5))))) (.seq (.ret (.lit (.bool false))) .nil) .nil) (.seq (.ite (.cmp .eq (.call "_law_made" 2 f__law_made (.cons (.bin .add (.slice (.var 4) .nil (.var 5)) (.slice (.var 4) (.bin .add (.var 5) (.lit (.int 1))) .nil)) (.cons (.ix (.var 4) (.var 5)) .nil))) (.ix (.var 4) (.var 5))) (.seq (.ret (.lit (.bool false))) .nil) .nil) (.seq (.kill 5) .nil)))) LS4
abbrev LS2 : S := .seq (.ite (.or (.cmp .ne (.var 4) (.call "_law_order" 1 f__law_order (.cons (.var 4) .nil))) (.not (.isI (.var 4) .lst))) (.seq (.ret (.lit (.bool false))) .nil) .nil) LS3
abbrev LS1 : S := .seq (.asg (.nm 4) (.call "outmost_members" 1 f_outmost_members (.cons (.tup (.cons (.var 2) (.cons (.var 3) .nil))) .nil))) LS2
abbrev LS0 : S := .seq (.asg (.tup (.tcons (.nm 2) (.tcons (.nm 3) .tnil))) (.callR "_law_task" 3 f__law_task 1 (.cons (.lit (.int 3)) (.cons (.lit (.int 3)) (.cons (.lit (.int 2)) .nil))))) LS1
theorem dn_bare {n : Bool} {a : E} {ρ : Ev} : den (.bare n a) ρ = bnd (den a ρ) (bareD n) := rfl
theorem ne_self {n : Nat} {d : D} (h : plain n d) (hn : n ≤ 64) : cmpD .ne d d = ret (.bool false) := by
  have e1 : cmpD .eq d d = (if SeqAt.shaped d && SeqAt.shaped d then ret (.bool (PyData.eqv d d)) else bad) := rfl
  have e2 : cmpD .ne d d = (if SeqAt.shaped d && SeqAt.shaped d then ret (.bool (!PyData.eqv d d)) else bad) := rfl
  have e3 := eq_self h hn
  rw [e1, plain_shaped h hn, if_pos (by decide)] at e3
  rw [e2, plain_shaped h hn, if_pos (by decide)]
  have e4 : PyData.eqv d d = true := by
    have := congrFun e3 ⟨[], 0, 0, 0⟩
    unfold ret at this
    injection this with h4
    injection h4
  rw [e4]
  rfl
theorem bare_row {r : List La} (h : r.length ≤ 1000) : bareD false (rowD r) = ret (.bool (!r.isEmpty && r.all Option.isNone)) := by
  have e : bareD false (rowD r) = (if (r.map optD).all leafD && decide ((r.map optD).length ≤ 1000) then ret (.bool (false != (!(r.map optD).isEmpty && (r.map optD).all isNone))) else bad) := rfl
  have h1 : (r.map optD).all leafD = true := by
    rw [List.all_map, List.all_eq_true]
    intro a _
    cases a <;> rfl
  have h2 : (r.map optD).all isNone = r.all Option.isNone := by
    rw [List.all_map]
    congr 1
    funext a
    cases a <;> rfl
  rw [e, h1, h2, if_pos (by rw [List.length_map, decide_eq_true h]; rfl)]
  congr 2
  cases r <;> simp
theorem butOne_ne {α : Type} {l : List α} (hn : l.Nodup) {i : Nat} {a b : α} (hi : l[i]? = some a) (hb : b ∈ butOne l i) : b ≠ a := fun e => by
  subst e
  obtain ⟨j, hj⟩ := List.mem_iff_getElem?.mp hb
  have hil : i < l.length := (List.getElem?_eq_some_iff.mp hi).1
  have inj := fun (p q : Nat) (hp : p < l.length) (h : l[p]? = l[q]?) => (List.getElem?_inj hp hn).mp h
  unfold butOne at hj
  by_cases hlt : j < i
  · rw [List.getElem?_append_left (by rw [List.length_take]; omega), List.getElem?_take_of_lt hlt] at hj
    have := inj i j hil (hi.trans hj.symm)
    omega
  · rw [List.getElem?_append_right (by rw [List.length_take]; omega), List.getElem?_drop, List.length_take] at hj
    have := inj i (i + 1 + (j - min i l.length)) hil (hi.trans hj.symm)
    omega
theorem members_eq {n : Nat} {pairs : List (List La × List La)} {A : List (List La)} (h : Members n pairs A) {x : List La} (hx : x.length = n) : (pairs.all fun p => keeps1 p x) = decide (madeOf A x = x) := by
  rw [Bool.eq_iff_iff, decide_eq_true_eq, made_iff (hx ▸ h.bare.rows), h.all x hx]
  exact List.all_eq_true
theorem law_does : Does (denS B_law (lawEv 6)) fun o => o = .rt (.bool true) := by
  show Does (denS LS0 (lawEv 6)) _
  unfold lawEv
  simp -implicitDefEqProofs only [wipeE, Tg.slots, k_nx, k_rt, e_nx, e_rt, br_t, br_f, dS_nil, dS_seq, dS_nm, own_list, dS_newL, dS_par, sl_f, sl_t, dS_ite, dS_ret, dS_expr, dS_app, ap_own, dS_aug, au_val, dS_frz, fr_own, asB_bool, asI_int, items_l, items_t, dn_nil, dn_cons, dn_star, lo_l, lo_d, vk, dn_var, ok_, dn_own, dn_lit, dn_glob, dn_bin, dn_neg, dn_not, dn_cmp, dn_chain, ch_t, ch_f, dn_and, dn_or, dn_ite, an_t, an_f, or_t, or_f, it_t, it_f, dn_tup, dn_list, tup0, tup1, tup2, tup3, lst0, lst1, lst2, lst3, dn_ix, dn_slice, dn_call, call1, call2, call3, call4, call5, rk, dn_callR, dn_b1, dn_b2, dn_isI, dn_isTL, dn_range1, dn_range2, dn_zip, b1_len_l, b1_len_t, b1_tup_l, b1_tup_t, b1_list_l, b1_list_t, b1_int, not_b, neg_i, cmp_lt, cmp_le, cmp_gt, cmp_ge, cmp_is, cmp_isnot, cmp_eqi, cmp_nei, bin_add, bin_sub, zip_t, zip_l, dn_comp, dS_for, bnd_ret, bnd_bnd, fn_eq, fnR_eq, List.map_cons, List.map_nil, List.cons_append, List.nil_append, List.append_nil, List.length_cons, List.length_nil, List.replicate_succ, List.replicate_zero, Nat.sub_self, Nat.reduceAdd, Nat.reduceSub, Nat.zero_add, List.set_cons_zero, List.set_cons_succ, List.getElem?_cons_zero, List.getElem?_cons_succ, dS_asgT, dS_kill, be_nm, be_tup, be_nil, be_cons, dn_b2, fk_eq, cmp_t, cmp_c, cmp_n, cmp_call, cmp_a, cmp_o, mapX_ret, filX_ret, dS_asgT]
  refine (task_does (by decide) (by decide) (by decide)).bnd fun d ⟨n, pairs, e, n1, n3, hl, hp⟩ => ?_
  subst e
  have hn : n ≤ 3 := by omega
  have hl : pairs.length ≤ 3 := by omega
  have hT : TaskOk n pairs := ⟨n1, by omega, by omega, fun p hpm => ⟨rowIn_ok (hp p hpm).1 (by decide), rowIn_ok (hp p hpm).2 (by decide)⟩⟩
  have hz : ∀ k, k < pairs.length → most n k ≤ 4000 := fun k hk => most_33 hn (by omega)
  have hA := members_is hT.lens
  have hal : (membersOf n pairs).length ≤ 1000 := by
    have h1 := members_len n pairs
    have h2 := most_mono pairs.length hn
    have h3 : ∀ k, k ≤ 3 → most 3 k ≤ 41 := by decide
    have := h3 _ hl
    omega
  have eT : (.tuple [PyData.int (n : Int), .tuple (pairs.map pairD)] : D) = taskD n pairs := rfl
  unfold taskD
  simp -implicitDefEqProofs only [wipeE, Tg.slots, k_nx, k_rt, e_nx, e_rt, br_t, br_f, dS_nil, dS_seq, dS_nm, own_list, dS_newL, dS_par, sl_f, sl_t, dS_ite, dS_ret, dS_expr, dS_app, ap_own, dS_aug, au_val, dS_frz, fr_own, asB_bool, asI_int, items_l, items_t, dn_nil, dn_cons, dn_star, lo_l, lo_d, vk, dn_var, ok_, dn_own, dn_lit, dn_glob, dn_bin, dn_neg, dn_not, dn_cmp, dn_chain, ch_t, ch_f, dn_and, dn_or, dn_ite, an_t, an_f, or_t, or_f, it_t, it_f, dn_tup, dn_list, tup0, tup1, tup2, tup3, lst0, lst1, lst2, lst3, dn_ix, dn_slice, dn_call, call1, call2, call3, call4, call5, rk, dn_callR, dn_b1, dn_b2, dn_isI, dn_isTL, dn_range1, dn_range2, dn_zip, b1_len_l, b1_len_t, b1_tup_l, b1_tup_t, b1_list_l, b1_list_t, b1_int, not_b, neg_i, cmp_lt, cmp_le, cmp_gt, cmp_ge, cmp_is, cmp_isnot, cmp_eqi, cmp_nei, bin_add, bin_sub, zip_t, zip_l, dn_comp, dS_for, bnd_ret, bnd_bnd, fn_eq, fnR_eq, List.map_cons, List.map_nil, List.cons_append, List.nil_append, List.append_nil, List.length_cons, List.length_nil, List.replicate_succ, List.replicate_zero, Nat.sub_self, Nat.reduceAdd, Nat.reduceSub, Nat.zero_add, List.set_cons_zero, List.set_cons_succ, List.getElem?_cons_zero, List.getElem?_cons_succ, dS_asgT, dS_kill, be_nm, be_tup, be_nil, be_cons, dn_b2, fk_eq, cmp_t, cmp_c, cmp_n, cmp_call, cmp_a, cmp_o, mapX_ret, filX_ret]
  simp -implicitDefEqProofs only [wipeE, Tg.slots, k_nx, k_rt, e_nx, e_rt, br_t, br_f, dS_nil, dS_seq, dS_nm, own_list, dS_newL, dS_par, sl_f, sl_t, dS_ite, dS_ret, dS_expr, dS_app, ap_own, dS_aug, au_val, dS_frz, fr_own, asB_bool, asI_int, items_l, items_t, dn_nil, dn_cons, dn_star, lo_l, lo_d, vk, dn_var, ok_, dn_own, dn_lit, dn_glob, dn_bin, dn_neg, dn_not, dn_cmp, dn_chain, ch_t, ch_f, dn_and, dn_or, dn_ite, an_t, an_f, or_t, or_f, it_t, it_f, dn_tup, dn_list, tup0, tup1, tup2, tup3, lst0, lst1, lst2, lst3, dn_ix, dn_slice, dn_call, call1, call2, call3, call4, call5, rk, dn_callR, dn_b1, dn_b2, dn_isI, dn_isTL, dn_range1, dn_range2, dn_zip, b1_len_l, b1_len_t, b1_tup_l, b1_tup_t, b1_list_l, b1_list_t, b1_int, not_b, neg_i, cmp_lt, cmp_le, cmp_gt, cmp_ge, cmp_is, cmp_isnot, cmp_eqi, cmp_nei, bin_add, bin_sub, zip_t, zip_l, dn_comp, dS_for, bnd_ret, bnd_bnd, fn_eq, fnR_eq, List.map_cons, List.map_nil, List.cons_append, List.nil_append, List.append_nil, List.length_cons, List.length_nil, List.replicate_succ, List.replicate_zero, Nat.sub_self, Nat.reduceAdd, Nat.reduceSub, Nat.zero_add, List.set_cons_zero, List.set_cons_succ, List.getElem?_cons_zero, List.getElem?_cons_succ, dS_asgT, dS_kill, be_nm, be_tup, be_nil, be_cons, dn_b2, fk_eq, cmp_t, cmp_c, cmp_n, cmp_call, cmp_a, cmp_o, mapX_ret, filX_ret, eT, m_outmost_members hT hz]
  generalize membersOf n pairs = A at *
  have hrl := hA.bare.rows
  have hpA : plain 2 (.list (A.map rowD)) := ⟨by rw [List.length_map]; exact hal, fun x hx => by
    obtain ⟨r, hr, rfl⟩ := List.mem_map.mp hx
    exact plain_row 0 (by have := hrl r hr; omega)⟩
  have hkeep : ∀ x : List La, x.length = n → f__law_keeps [.tuple (pairs.map pairD), rowD x] = ret (.bool (pairs.all fun p => keeps1 p x)) := fun x hx =>
    m_lkeeps (X := .tuple (pairs.map pairD)) rfl (fun p hpm => ⟨(hT.lens p hpm).1.trans hx.symm, (hT.lens p hpm).2.trans hx.symm⟩) (by omega) (by omega)
  have hmade : ∀ x : List La, x.length = n → f__law_made [.list (A.map rowD), rowD x] = ret (rowD (madeOf A x)) := fun x hx => m_lmade (hx ▸ hrl) (by omega) rfl
  simp -implicitDefEqProofs only [wipeE, Tg.slots, k_nx, k_rt, e_nx, e_rt, br_t, br_f, dS_nil, dS_seq, dS_nm, own_list, dS_newL, dS_par, sl_f, sl_t, dS_ite, dS_ret, dS_expr, dS_app, ap_own, dS_aug, au_val, dS_frz, fr_own, asB_bool, asI_int, items_l, items_t, dn_nil, dn_cons, dn_star, lo_l, lo_d, vk, dn_var, ok_, dn_own, dn_lit, dn_glob, dn_bin, dn_neg, dn_not, dn_cmp, dn_chain, ch_t, ch_f, dn_and, dn_or, dn_ite, an_t, an_f, or_t, or_f, it_t, it_f, dn_tup, dn_list, tup0, tup1, tup2, tup3, lst0, lst1, lst2, lst3, dn_ix, dn_slice, dn_call, call1, call2, call3, call4, call5, rk, dn_callR, dn_b1, dn_b2, dn_isI, dn_isTL, dn_range1, dn_range2, dn_zip, b1_len_l, b1_len_t, b1_tup_l, b1_tup_t, b1_list_l, b1_list_t, b1_int, not_b, neg_i, cmp_lt, cmp_le, cmp_gt, cmp_ge, cmp_is, cmp_isnot, cmp_eqi, cmp_nei, bin_add, bin_sub, zip_t, zip_l, dn_comp, dS_for, bnd_ret, bnd_bnd, fn_eq, fnR_eq, List.map_cons, List.map_nil, List.cons_append, List.nil_append, List.append_nil, List.length_cons, List.length_nil, List.replicate_succ, List.replicate_zero, Nat.sub_self, Nat.reduceAdd, Nat.reduceSub, Nat.zero_add, List.set_cons_zero, List.set_cons_succ, List.getElem?_cons_zero, List.getElem?_cons_succ, dS_asgT, dS_kill, be_nm, be_tup, be_nil, be_cons, dn_b2, fk_eq, cmp_t, cmp_c, cmp_n, cmp_call, cmp_a, cmp_o, mapX_ret, filX_ret, m_lorder (G := A) (X := .list (A.map rowD)) rfl (by omega), order_sorted A [] hA.sorted, ne_self hpA (by decide), show isIn (.list (A.map rowD)) .lst = true from rfl, Bool.not_true, b1_len_l, List.length_map, range0 hal]
  erw [for_fold (t := .nm 5) (B := LB0) (enc := fun (i : Nat) => PyData.int (i : Int)) (fun _ : Unit => [.no, .row, .val (.int (n : Int)), .val (.tuple (pairs.map pairD)), .val (.list (A.map rowD)), .no, .no, .no]) (fun s _ => s) (xs := List.range A.length) (s := ()) fun s i hi => by
    have hi := List.mem_range.mp hi
    have hg : A[i]? = some A[i] := List.getElem?_eq_getElem hi
    have hm : A[i] ∈ A := List.getElem_mem hi
    generalize A[i] = r at hg hm
    have hr := hrl r hm
    have eix : ixD (.list (A.map rowD)) (.int (i : Int)) = ret (rowD r) := ix_l (by rw [List.getElem?_map, hg]; rfl)
    have htop := hA.bare.top r hm
    have hk : (pairs.all fun p => keeps1 p r) = true := List.all_eq_true.mpr ((hA.all r hr).mp (Span.self hm))
    have hb : (!r.isEmpty && r.all Option.isNone) = false := by
      have := latest_mem htop
      rw [Bool.and_eq_false_iff]
      refine .inr (List.all_eq_false.mpr ⟨some 0, this, by decide⟩)
    have e1 : (i : Int) + 1 = ((i + 1 : Nat) : Int) := by omega
    have e2 : binD .add (.list ((A.take i).map rowD)) (.list ((A.drop i.succ).map rowD)) = ret (.list ((butOne A i).map rowD)) := by
      unfold butOne
      rw [add_ll, ← List.map_append]
      rw [List.length_map, List.length_map, List.length_take, List.length_drop]
      exact Nat.le_trans (show _ ≤ 2000 by omega) (by decide)
    have hlone : decide (madeOf (butOne A i) r = r) = false := decide_eq_false fun e => by
      rw [made_iff (hr ▸ fun g hg => hrl g (butOne_mem hg))] at e
      refine hA.bare.lone r hm (Span.mono e fun g hgm => List.mem_filter.mpr ⟨butOne_mem hgm, ?_⟩)
      have := butOne_ne hA.bare.nodup hg hgm
      simpa using this
    simp -implicitDefEqProofs only [wipeE, Tg.slots, k_nx, k_rt, e_nx, e_rt, br_t, br_f, dS_nil, dS_seq, dS_nm, own_list, dS_newL, dS_par, sl_f, sl_t, dS_ite, dS_ret, dS_expr, dS_app, ap_own, dS_aug, au_val, dS_frz, fr_own, asB_bool, asI_int, items_l, items_t, dn_nil, dn_cons, dn_star, lo_l, lo_d, vk, dn_var, ok_, dn_own, dn_lit, dn_glob, dn_bin, dn_neg, dn_not, dn_cmp, dn_chain, ch_t, ch_f, dn_and, dn_or, dn_ite, an_t, an_f, or_t, or_f, it_t, it_f, dn_tup, dn_list, tup0, tup1, tup2, tup3, lst0, lst1, lst2, lst3, dn_ix, dn_slice, dn_call, call1, call2, call3, call4, call5, rk, dn_callR, dn_b1, dn_b2, dn_isI, dn_isTL, dn_range1, dn_range2, dn_zip, b1_len_l, b1_len_t, b1_tup_l, b1_tup_t, b1_list_l, b1_list_t, b1_int, not_b, neg_i, cmp_lt, cmp_le, cmp_gt, cmp_ge, cmp_is, cmp_isnot, cmp_eqi, cmp_nei, bin_add, bin_sub, zip_t, zip_l, dn_comp, dS_for, bnd_ret, bnd_bnd, fn_eq, fnR_eq, List.map_cons, List.map_nil, List.cons_append, List.nil_append, List.append_nil, List.length_cons, List.length_nil, List.replicate_succ, List.replicate_zero, Nat.sub_self, Nat.reduceAdd, Nat.reduceSub, Nat.zero_add, List.set_cons_zero, List.set_cons_succ, List.getElem?_cons_zero, List.getElem?_cons_succ, dS_asgT, dS_kill, be_nm, be_tup, be_nil, be_cons, dn_b2, fk_eq, cmp_t, cmp_c, cmp_n, cmp_call, cmp_a, cmp_o, mapX_ret, filX_ret, eix, m_lnorm (show r.length ≤ 1000 by omega), norm_of_top htop, ne_rowS, decide_true, Bool.not_true, hkeep r hr, hk, dn_bare, bare_row (show r.length ≤ 1000 by omega), hb, partD, lslice_take (Nat.le_of_lt hi), e1, lslice_drop (Nat.succ_le_of_lt hi), e2,
      m_lmade (X := .list ((butOne A i).map rowD)) (hr ▸ fun g hg => hrl g (butOne_mem hg)) (show r.length ≤ 1000 by omega) rfl, eq_rowS, hlone]]
  have hgrid : ∃ G : List (List La), (bnd (iteK (.lit (.int 9)) (.lit (.int 5)) [.no, .row, .val (.int (n : Int)), .val (.tuple (pairs.map pairD)), .val (.list (A.map rowD)), .no, .no, .no] (decide ((n : Int) < 3))) fun x => f__law_grid [.int (n : Int), x]) = ret (.list (G.map rowD)) ∧ ∀ g ∈ G, g.length = n := by
    by_cases h : (n : Int) < 3
    · rw [decide_eq_true h]
      refine ⟨gridOf 9 n, ?_, fun g hg => (grid_rows 9 n g (List.mem_filter.mp hg).1).1⟩
      simp -implicitDefEqProofs only [wipeE, Tg.slots, k_nx, k_rt, e_nx, e_rt, br_t, br_f, dS_nil, dS_seq, dS_nm, own_list, dS_newL, dS_par, sl_f, sl_t, dS_ite, dS_ret, dS_expr, dS_app, ap_own, dS_aug, au_val, dS_frz, fr_own, asB_bool, asI_int, items_l, items_t, dn_nil, dn_cons, dn_star, lo_l, lo_d, vk, dn_var, ok_, dn_own, dn_lit, dn_glob, dn_bin, dn_neg, dn_not, dn_cmp, dn_chain, ch_t, ch_f, dn_and, dn_or, dn_ite, an_t, an_f, or_t, or_f, it_t, it_f, dn_tup, dn_list, tup0, tup1, tup2, tup3, lst0, lst1, lst2, lst3, dn_ix, dn_slice, dn_call, call1, call2, call3, call4, call5, rk, dn_callR, dn_b1, dn_b2, dn_isI, dn_isTL, dn_range1, dn_range2, dn_zip, b1_len_l, b1_len_t, b1_tup_l, b1_tup_t, b1_list_l, b1_list_t, b1_int, not_b, neg_i, cmp_lt, cmp_le, cmp_gt, cmp_ge, cmp_is, cmp_isnot, cmp_eqi, cmp_nei, bin_add, bin_sub, zip_t, zip_l, dn_comp, dS_for, bnd_ret, bnd_bnd, fn_eq, fnR_eq, List.map_cons, List.map_nil, List.cons_append, List.nil_append, List.append_nil, List.length_cons, List.length_nil, List.replicate_succ, List.replicate_zero, Nat.sub_self, Nat.reduceAdd, Nat.reduceSub, Nat.zero_add, List.set_cons_zero, List.set_cons_succ, List.getElem?_cons_zero, List.getElem?_cons_succ, dS_asgT, dS_kill, be_nm, be_tup, be_nil, be_cons, dn_b2, fk_eq, cmp_t, cmp_c, cmp_n, cmp_call, cmp_a, cmp_o, mapX_ret, filX_ret]
      exact m_lgridW (size := 9) (by decide) (by omega) fun k hk => Nat.le_trans (Nat.pow_le_pow_right (by decide) (show k ≤ 2 by omega)) (by decide)
    · rw [decide_eq_false h]
      refine ⟨gridOf 5 n, ?_, fun g hg => (grid_rows 5 n g (List.mem_filter.mp hg).1).1⟩
      simp -implicitDefEqProofs only [wipeE, Tg.slots, k_nx, k_rt, e_nx, e_rt, br_t, br_f, dS_nil, dS_seq, dS_nm, own_list, dS_newL, dS_par, sl_f, sl_t, dS_ite, dS_ret, dS_expr, dS_app, ap_own, dS_aug, au_val, dS_frz, fr_own, asB_bool, asI_int, items_l, items_t, dn_nil, dn_cons, dn_star, lo_l, lo_d, vk, dn_var, ok_, dn_own, dn_lit, dn_glob, dn_bin, dn_neg, dn_not, dn_cmp, dn_chain, ch_t, ch_f, dn_and, dn_or, dn_ite, an_t, an_f, or_t, or_f, it_t, it_f, dn_tup, dn_list, tup0, tup1, tup2, tup3, lst0, lst1, lst2, lst3, dn_ix, dn_slice, dn_call, call1, call2, call3, call4, call5, rk, dn_callR, dn_b1, dn_b2, dn_isI, dn_isTL, dn_range1, dn_range2, dn_zip, b1_len_l, b1_len_t, b1_tup_l, b1_tup_t, b1_list_l, b1_list_t, b1_int, not_b, neg_i, cmp_lt, cmp_le, cmp_gt, cmp_ge, cmp_is, cmp_isnot, cmp_eqi, cmp_nei, bin_add, bin_sub, zip_t, zip_l, dn_comp, dS_for, bnd_ret, bnd_bnd, fn_eq, fnR_eq, List.map_cons, List.map_nil, List.cons_append, List.nil_append, List.append_nil, List.length_cons, List.length_nil, List.replicate_succ, List.replicate_zero, Nat.sub_self, Nat.reduceAdd, Nat.reduceSub, Nat.zero_add, List.set_cons_zero, List.set_cons_succ, List.getElem?_cons_zero, List.getElem?_cons_succ, dS_asgT, dS_kill, be_nm, be_tup, be_nil, be_cons, dn_b2, fk_eq, cmp_t, cmp_c, cmp_n, cmp_call, cmp_a, cmp_o, mapX_ret, filX_ret]
      exact m_lgridW (size := 5) (by decide) (by omega) fun k hk => Nat.le_trans (Nat.pow_le_pow_right (by decide) (show k ≤ 3 by omega)) (by decide)
  obtain ⟨G, eG, hG⟩ := hgrid
  have hboth : ∀ x : List La, x.length = n → (pairs.all fun p => keeps1 p x) = decide (madeOf A x = x) := fun x hx => members_eq hA hx
  simp -implicitDefEqProofs only [wipeE, Tg.slots, k_nx, k_rt, e_nx, e_rt, br_t, br_f, dS_nil, dS_seq, dS_nm, own_list, dS_newL, dS_par, sl_f, sl_t, dS_ite, dS_ret, dS_expr, dS_app, ap_own, dS_aug, au_val, dS_frz, fr_own, asB_bool, asI_int, items_l, items_t, dn_nil, dn_cons, dn_star, lo_l, lo_d, vk, dn_var, ok_, dn_own, dn_lit, dn_glob, dn_bin, dn_neg, dn_not, dn_cmp, dn_chain, ch_t, ch_f, dn_and, dn_or, dn_ite, an_t, an_f, or_t, or_f, it_t, it_f, dn_tup, dn_list, tup0, tup1, tup2, tup3, lst0, lst1, lst2, lst3, dn_ix, dn_slice, dn_call, call1, call2, call3, call4, call5, rk, dn_callR, dn_b1, dn_b2, dn_isI, dn_isTL, dn_range1, dn_range2, dn_zip, b1_len_l, b1_len_t, b1_tup_l, b1_tup_t, b1_list_l, b1_list_t, b1_int, not_b, neg_i, cmp_lt, cmp_le, cmp_gt, cmp_ge, cmp_is, cmp_isnot, cmp_eqi, cmp_nei, bin_add, bin_sub, zip_t, zip_l, dn_comp, dS_for, bnd_ret, bnd_bnd, fn_eq, fnR_eq, List.map_cons, List.map_nil, List.cons_append, List.nil_append, List.append_nil, List.length_cons, List.length_nil, List.replicate_succ, List.replicate_zero, Nat.sub_self, Nat.reduceAdd, Nat.reduceSub, Nat.zero_add, List.set_cons_zero, List.set_cons_succ, List.getElem?_cons_zero, List.getElem?_cons_succ, dS_asgT, dS_kill, be_nm, be_tup, be_nil, be_cons, dn_b2, fk_eq, cmp_t, cmp_c, cmp_n, cmp_call, cmp_a, cmp_o, mapX_ret, filX_ret]
  rw [← bnd_bnd, eG]
  simp -implicitDefEqProofs only [wipeE, Tg.slots, k_nx, k_rt, e_nx, e_rt, br_t, br_f, dS_nil, dS_seq, dS_nm, own_list, dS_newL, dS_par, sl_f, sl_t, dS_ite, dS_ret, dS_expr, dS_app, ap_own, dS_aug, au_val, dS_frz, fr_own, asB_bool, asI_int, items_l, items_t, dn_nil, dn_cons, dn_star, lo_l, lo_d, vk, dn_var, ok_, dn_own, dn_lit, dn_glob, dn_bin, dn_neg, dn_not, dn_cmp, dn_chain, ch_t, ch_f, dn_and, dn_or, dn_ite, an_t, an_f, or_t, or_f, it_t, it_f, dn_tup, dn_list, tup0, tup1, tup2, tup3, lst0, lst1, lst2, lst3, dn_ix, dn_slice, dn_call, call1, call2, call3, call4, call5, rk, dn_callR, dn_b1, dn_b2, dn_isI, dn_isTL, dn_range1, dn_range2, dn_zip, b1_len_l, b1_len_t, b1_tup_l, b1_tup_t, b1_list_l, b1_list_t, b1_int, not_b, neg_i, cmp_lt, cmp_le, cmp_gt, cmp_ge, cmp_is, cmp_isnot, cmp_eqi, cmp_nei, bin_add, bin_sub, zip_t, zip_l, dn_comp, dS_for, bnd_ret, bnd_bnd, fn_eq, fnR_eq, List.map_cons, List.map_nil, List.cons_append, List.nil_append, List.append_nil, List.length_cons, List.length_nil, List.replicate_succ, List.replicate_zero, Nat.sub_self, Nat.reduceAdd, Nat.reduceSub, Nat.zero_add, List.set_cons_zero, List.set_cons_succ, List.getElem?_cons_zero, List.getElem?_cons_succ, dS_asgT, dS_kill, be_nm, be_tup, be_nil, be_cons, dn_b2, fk_eq, cmp_t, cmp_c, cmp_n, cmp_call, cmp_a, cmp_o, mapX_ret, filX_ret]
  erw [for_fold (t := .nm 6) (B := LB1) (enc := rowD) (fun _ : Unit => [.no, .row, .val (.int (n : Int)), .val (.tuple (pairs.map pairD)), .val (.list (A.map rowD)), .no, .no, .no]) (fun s _ => s) (xs := G) (s := ()) fun s x hx => by
    have hxl := hG x hx
    simp -implicitDefEqProofs only [wipeE, Tg.slots, k_nx, k_rt, e_nx, e_rt, br_t, br_f, dS_nil, dS_seq, dS_nm, own_list, dS_newL, dS_par, sl_f, sl_t, dS_ite, dS_ret, dS_expr, dS_app, ap_own, dS_aug, au_val, dS_frz, fr_own, asB_bool, asI_int, items_l, items_t, dn_nil, dn_cons, dn_star, lo_l, lo_d, vk, dn_var, ok_, dn_own, dn_lit, dn_glob, dn_bin, dn_neg, dn_not, dn_cmp, dn_chain, ch_t, ch_f, dn_and, dn_or, dn_ite, an_t, an_f, or_t, or_f, it_t, it_f, dn_tup, dn_list, tup0, tup1, tup2, tup3, lst0, lst1, lst2, lst3, dn_ix, dn_slice, dn_call, call1, call2, call3, call4, call5, rk, dn_callR, dn_b1, dn_b2, dn_isI, dn_isTL, dn_range1, dn_range2, dn_zip, b1_len_l, b1_len_t, b1_tup_l, b1_tup_t, b1_list_l, b1_list_t, b1_int, not_b, neg_i, cmp_lt, cmp_le, cmp_gt, cmp_ge, cmp_is, cmp_isnot, cmp_eqi, cmp_nei, bin_add, bin_sub, zip_t, zip_l, dn_comp, dS_for, bnd_ret, bnd_bnd, fn_eq, fnR_eq, List.map_cons, List.map_nil, List.cons_append, List.nil_append, List.append_nil, List.length_cons, List.length_nil, List.replicate_succ, List.replicate_zero, Nat.sub_self, Nat.reduceAdd, Nat.reduceSub, Nat.zero_add, List.set_cons_zero, List.set_cons_succ, List.getElem?_cons_zero, List.getElem?_cons_succ, dS_asgT, dS_kill, be_nm, be_tup, be_nil, be_cons, dn_b2, fk_eq, cmp_t, cmp_c, cmp_n, cmp_call, cmp_a, cmp_o, mapX_ret, filX_ret, hkeep x hxl, hmade x hxl, eq_rowS, hboth x hxl, ne_bb, beq_self_eq_true, Bool.not_true]]
  simp -implicitDefEqProofs only [wipeE, Tg.slots, k_nx, k_rt, e_nx, e_rt, br_t, br_f, dS_nil, dS_seq, dS_nm, own_list, dS_newL, dS_par, sl_f, sl_t, dS_ite, dS_ret, dS_expr, dS_app, ap_own, dS_aug, au_val, dS_frz, fr_own, asB_bool, asI_int, items_l, items_t, dn_nil, dn_cons, dn_star, lo_l, lo_d, vk, dn_var, ok_, dn_own, dn_lit, dn_glob, dn_bin, dn_neg, dn_not, dn_cmp, dn_chain, ch_t, ch_f, dn_and, dn_or, dn_ite, an_t, an_f, or_t, or_f, it_t, it_f, dn_tup, dn_list, tup0, tup1, tup2, tup3, lst0, lst1, lst2, lst3, dn_ix, dn_slice, dn_call, call1, call2, call3, call4, call5, rk, dn_callR, dn_b1, dn_b2, dn_isI, dn_isTL, dn_range1, dn_range2, dn_zip, b1_len_l, b1_len_t, b1_tup_l, b1_tup_t, b1_list_l, b1_list_t, b1_int, not_b, neg_i, cmp_lt, cmp_le, cmp_gt, cmp_ge, cmp_is, cmp_isnot, cmp_eqi, cmp_nei, bin_add, bin_sub, zip_t, zip_l, dn_comp, dS_for, bnd_ret, bnd_bnd, fn_eq, fnR_eq, List.map_cons, List.map_nil, List.cons_append, List.nil_append, List.append_nil, List.length_cons, List.length_nil, List.replicate_succ, List.replicate_zero, Nat.sub_self, Nat.reduceAdd, Nat.reduceSub, Nat.zero_add, List.set_cons_zero, List.set_cons_succ, List.getElem?_cons_zero, List.getElem?_cons_succ, dS_asgT, dS_kill, be_nm, be_tup, be_nil, be_cons, dn_b2, fk_eq, cmp_t, cmp_c, cmp_n, cmp_call, cmp_a, cmp_o, mapX_ret, filX_ret]
  refine (row_does (by omega) (by decide) (by decide)).bnd fun d ⟨few, e, f1, f2⟩ => ?_
  subst e
  simp -implicitDefEqProofs only [wipeE, Tg.slots, k_nx, k_rt, e_nx, e_rt, br_t, br_f, dS_nil, dS_seq, dS_nm, own_list, dS_newL, dS_par, sl_f, sl_t, dS_ite, dS_ret, dS_expr, dS_app, ap_own, dS_aug, au_val, dS_frz, fr_own, asB_bool, asI_int, items_l, items_t, dn_nil, dn_cons, dn_star, lo_l, lo_d, vk, dn_var, ok_, dn_own, dn_lit, dn_glob, dn_bin, dn_neg, dn_not, dn_cmp, dn_chain, ch_t, ch_f, dn_and, dn_or, dn_ite, an_t, an_f, or_t, or_f, it_t, it_f, dn_tup, dn_list, tup0, tup1, tup2, tup3, lst0, lst1, lst2, lst3, dn_ix, dn_slice, dn_call, call1, call2, call3, call4, call5, rk, dn_callR, dn_b1, dn_b2, dn_isI, dn_isTL, dn_range1, dn_range2, dn_zip, b1_len_l, b1_len_t, b1_tup_l, b1_tup_t, b1_list_l, b1_list_t, b1_int, not_b, neg_i, cmp_lt, cmp_le, cmp_gt, cmp_ge, cmp_is, cmp_isnot, cmp_eqi, cmp_nei, bin_add, bin_sub, zip_t, zip_l, dn_comp, dS_for, bnd_ret, bnd_bnd, fn_eq, fnR_eq, List.map_cons, List.map_nil, List.cons_append, List.nil_append, List.append_nil, List.length_cons, List.length_nil, List.replicate_succ, List.replicate_zero, Nat.sub_self, Nat.reduceAdd, Nat.reduceSub, Nat.zero_add, List.set_cons_zero, List.set_cons_succ, List.getElem?_cons_zero, List.getElem?_cons_succ, dS_asgT, dS_kill, be_nm, be_tup, be_nil, be_cons, dn_b2, fk_eq, cmp_t, cmp_c, cmp_n, cmp_call, cmp_a, cmp_o, mapX_ret, filX_ret, hkeep few f1, hmade few f1, eq_rowS, hboth few f1, eq_bb, beq_self_eq_true]
  exact .ret rfl
theorem pure_law (c : Int) : ∀ ns : List Int, ns.length ≤ 63 → ∃ w', denS B_law (lawEv 6) (lawW ns c) = .ok (.rt (.bool true)) w' := fun ns _ => by
  obtain ⟨a, w', e, _, rfl⟩ := law_does (lawW ns c) (Int.le_refl 0)
  exact ⟨w', e⟩
end Dn.DL
namespace Dn.DL
open PySem PySem.Spec PyProof.Rows L2
theorem fin {P : Program} {wd : World} {K : PySem.W.Frag} {mg : Str → Option Value} {fa : Addr} {h : Heap} (X : K.In h) (G : h.Ns mainGlobals mg) (T : Tops K mg) (L : TopFn K mg "law" (topS 47) ["script"]) (hfa : mg "law" = some (.ref fa)) :
    ∃ fd : FuncData, (∀ (s : Shared) (v : Value), BindsTo s fd ⟨[v], []⟩ [("script", v)]) ∧ ∀ base : Heap, K.In base → base.Ns mainGlobals mg → FnOk P wd K mg base CX0 8 fa fd ["script"] (spLaw K 63) := by
  obtain ⟨c, hc⟩ := hd_law
  exact law_fin L hfa sc_law T.bn hc hl_law ck_law (fun base => need_law T) (pure_law c)
end Dn.DL
open PySem PySem.W PyProof.Rows
set_option maxHeartbeats 0 in
theorem PySem.Challenge.cw_lagcones_k04_whole_outmost_members_holds : PySem.Challenge.rw_lagcones_k04_whole_outmost_members.Holds := by
  w_on; o_law; k_head; (case hw => w_witness2)
  k_fill
  refine L2.walk_of (l := PySem.Challenge.rw_lagcones_k04_whole_outmost_members) (n := 63) (k := 8) (x := "script") (CX := fun _ => L2.CX0) (sp := fun w => Dn.spLaw _ 63) rfl (by decide) rfl ⟨rfl, by decide, by decide⟩ (fun w h Y => PySem.W.kIn_of Y) ?F (fun _ _ a ns hl _ hS => ⟨a, ns, rfl, hS, hl, fun _ => rfl⟩) (fun _ _ _ _ _ h => h)
  case F =>
    intro w mg fa h KX G hmg
    refine' Dn.DL.fin KX G ⟨?bn, ?g_MOST_LAG, ?g_MOST_ROWS, ?g_MOST_WIDE, ?t_is_int, ?t_later, ?t_added, ?t_is_by, ?t_key_of, ?t_share, ?t__law_taken, ?t__law_later, ?t__law_by, ?t__law_shift, ?t__law_key, ?t__law_share, ?t__law_grid, ?t_is_lag, ?t_latest_of, ?t_both_of, ?t_shift_of, ?t_shares_of, ?t__law_sum, ?t__law_row, ?t__law_both, ?t__law_norm, ?t__law_order, ?t_is_row, ?t_sum_of, ?t_norm, ?t_made_of, ?t__law_task, ?t__law_keeps, ?t__law_made, ?t_is_pair, ?t_outmost_of, ?t_unit_rows, ?t_need_task, ?t_with_pair, ?t_outmost_members_of, ?t_outmost_members⟩ ?tl hmg <;> clear hmg
    case bn => refine' Dn.bn_of KX G ?z1 ?z2 ?z3 ?z4 ?z5 ?z6 ?z7 ?z8 ?z9 ?z10 ?z11 ?z12 ?z13 ?z14 ?z15 ?z16 ?z17 ?z18 ?z19 ?z20 <;> k_is
    case g_MOST_LAG =>
      refine' Dn.gl_of KX G ?a rfl ?r
      (case a => k_is); (case r => exact ⟨_, rfl⟩)
    case g_MOST_ROWS =>
      refine' Dn.gl_of KX G ?a rfl ?r
      (case a => k_is); (case r => exact ⟨_, rfl⟩)
    case g_MOST_WIDE =>
      refine' Dn.gl_of KX G ?a rfl ?r
      (case a => k_is); (case r => exact ⟨_, rfl⟩)
    case t_is_int =>
      refine' Dn.top_of KX G ?a ?l ?c ?k (fun _ _ _ _ _ _ us hl => match us, hl with | [_], _ => rfl)
      (case a => k_is); (case l => k_is); (case c => k_is); (case k => k_is)
    case t_later =>
      refine' Dn.top_of KX G ?a ?l ?c ?k (fun _ _ _ _ _ _ us hl => match us, hl with | [_, _], _ => rfl)
      (case a => k_is); (case l => k_is); (case c => k_is); (case k => k_is)
    case t_added =>
      refine' Dn.top_of KX G ?a ?l ?c ?k (fun _ _ _ _ _ _ us hl => match us, hl with | [_, _], _ => rfl)
      (case a => k_is); (case l => k_is); (case c => k_is); (case k => k_is)
    case t_is_by =>
      refine' Dn.top_of KX G ?a ?l ?c ?k (fun _ _ _ _ _ _ us hl => match us, hl with | [_, _], _ => rfl)
      (case a => k_is); (case l => k_is); (case c => k_is); (case k => k_is)
    case t_key_of =>
      refine' Dn.top_of KX G ?a ?l ?c ?k (fun _ _ _ _ _ _ us hl => match us, hl with | [_], _ => rfl)
      (case a => k_is); (case l => k_is); (case c => k_is); (case k => k_is)
    case t_share =>
      refine' Dn.top_of KX G ?a ?l ?c ?k (fun _ _ _ _ _ _ us hl => match us, hl with | [_, _], _ => rfl)
      (case a => k_is); (case l => k_is); (case c => k_is); (case k => k_is)
    case t__law_taken =>
      refine' Dn.top_of KX G ?a ?l ?c ?k (fun _ _ _ _ _ _ us hl => match us, hl with | [_, _], _ => rfl)
      (case a => k_is); (case l => k_is); (case c => k_is); (case k => k_is)
    case t__law_later =>
      refine' Dn.top_of KX G ?a ?l ?c ?k (fun _ _ _ _ _ _ us hl => match us, hl with | [_, _], _ => rfl)
      (case a => k_is); (case l => k_is); (case c => k_is); (case k => k_is)
    case t__law_by =>
      refine' Dn.top_of KX G ?a ?l ?c ?k (fun _ _ _ _ _ _ us hl => match us, hl with | [_, _], _ => rfl)
      (case a => k_is); (case l => k_is); (case c => k_is); (case k => k_is)
    case t__law_shift =>
      refine' Dn.top_of KX G ?a ?l ?c ?k (fun _ _ _ _ _ _ us hl => match us, hl with | [_, _], _ => rfl)
      (case a => k_is); (case l => k_is); (case c => k_is); (case k => k_is)
    case t__law_key =>
      refine' Dn.top_of KX G ?a ?l ?c ?k (fun _ _ _ _ _ _ us hl => match us, hl with | [_], _ => rfl)
      (case a => k_is); (case l => k_is); (case c => k_is); (case k => k_is)
    case t__law_share =>
      refine' Dn.top_of KX G ?a ?l ?c ?k (fun _ _ _ _ _ _ us hl => match us, hl with | [_, _], _ => rfl)
      (case a => k_is); (case l => k_is); (case c => k_is); (case k => k_is)
    case t__law_grid =>
      refine' Dn.top_of KX G ?a ?l ?c ?k (fun _ _ _ _ _ _ us hl => match us, hl with | [_, _], _ => rfl)
      (case a => k_is); (case l => k_is); (case c => k_is); (case k => k_is)
    case t_is_lag =>
      refine' Dn.top_of KX G ?a ?l ?c ?k (fun _ _ _ _ _ _ us hl => match us, hl with | [_], _ => rfl)
      (case a => k_is); (case l => k_is); (case c => k_is); (case k => k_is)
    case t_latest_of =>
      refine' Dn.top_of KX G ?a ?l ?c ?k (fun _ _ _ _ _ _ us hl => match us, hl with | [_], _ => rfl)
      (case a => k_is); (case l => k_is); (case c => k_is); (case k => k_is)
    case t_both_of =>
      refine' Dn.top_of KX G ?a ?l ?c ?k (fun _ _ _ _ _ _ us hl => match us, hl with | [_, _], _ => rfl)
      (case a => k_is); (case l => k_is); (case c => k_is); (case k => k_is)
    case t_shift_of =>
      refine' Dn.top_of KX G ?a ?l ?c ?k (fun _ _ _ _ _ _ us hl => match us, hl with | [_, _], _ => rfl)
      (case a => k_is); (case l => k_is); (case c => k_is); (case k => k_is)
    case t_shares_of =>
      refine' Dn.top_of KX G ?a ?l ?c ?k (fun _ _ _ _ _ _ us hl => match us, hl with | [_, _], _ => rfl)
      (case a => k_is); (case l => k_is); (case c => k_is); (case k => k_is)
    case t__law_sum =>
      refine' Dn.top_of KX G ?a ?l ?c ?k (fun _ _ _ _ _ _ us hl => match us, hl with | [_, _], _ => rfl)
      (case a => k_is); (case l => k_is); (case c => k_is); (case k => k_is)
    case t__law_row =>
      refine' Dn.top_of KX G ?a ?l ?c ?k (fun _ _ _ _ _ _ us hl => match us, hl with | [_, _, _, _], _ => rfl)
      (case a => k_is); (case l => k_is); (case c => k_is); (case k => k_is)
    case t__law_both =>
      refine' Dn.top_of KX G ?a ?l ?c ?k (fun _ _ _ _ _ _ us hl => match us, hl with | [_, _], _ => rfl)
      (case a => k_is); (case l => k_is); (case c => k_is); (case k => k_is)
    case t__law_norm =>
      refine' Dn.top_of KX G ?a ?l ?c ?k (fun _ _ _ _ _ _ us hl => match us, hl with | [_], _ => rfl)
      (case a => k_is); (case l => k_is); (case c => k_is); (case k => k_is)
    case t__law_order =>
      refine' Dn.top_of KX G ?a ?l ?c ?k (fun _ _ _ _ _ _ us hl => match us, hl with | [_], _ => rfl)
      (case a => k_is); (case l => k_is); (case c => k_is); (case k => k_is)
    case t_is_row =>
      refine' Dn.top_of KX G ?a ?l ?c ?k (fun _ _ _ _ _ _ us hl => match us, hl with | [_, _], _ => rfl)
      (case a => k_is); (case l => k_is); (case c => k_is); (case k => k_is)
    case t_sum_of =>
      refine' Dn.top_of KX G ?a ?l ?c ?k (fun _ _ _ _ _ _ us hl => match us, hl with | [_, _], _ => rfl)
      (case a => k_is); (case l => k_is); (case c => k_is); (case k => k_is)
    case t_norm =>
      refine' Dn.top_of KX G ?a ?l ?c ?k (fun _ _ _ _ _ _ us hl => match us, hl with | [_], _ => rfl)
      (case a => k_is); (case l => k_is); (case c => k_is); (case k => k_is)
    case t_made_of =>
      refine' Dn.top_of KX G ?a ?l ?c ?k (fun _ _ _ _ _ _ us hl => match us, hl with | [_, _], _ => rfl)
      (case a => k_is); (case l => k_is); (case c => k_is); (case k => k_is)
    case t__law_task =>
      refine' Dn.top_of KX G ?a ?l ?c ?k (fun _ _ _ _ _ _ us hl => match us, hl with | [_, _, _, _], _ => rfl)
      (case a => k_is); (case l => k_is); (case c => k_is); (case k => k_is)
    case t__law_keeps =>
      refine' Dn.top_of KX G ?a ?l ?c ?k (fun _ _ _ _ _ _ us hl => match us, hl with | [_, _], _ => rfl)
      (case a => k_is); (case l => k_is); (case c => k_is); (case k => k_is)
    case t__law_made =>
      refine' Dn.top_of KX G ?a ?l ?c ?k (fun _ _ _ _ _ _ us hl => match us, hl with | [_, _], _ => rfl)
      (case a => k_is); (case l => k_is); (case c => k_is); (case k => k_is)
    case t_is_pair =>
      refine' Dn.top_of KX G ?a ?l ?c ?k (fun _ _ _ _ _ _ us hl => match us, hl with | [_, _], _ => rfl)
      (case a => k_is); (case l => k_is); (case c => k_is); (case k => k_is)
    case t_outmost_of =>
      refine' Dn.top_of KX G ?a ?l ?c ?k (fun _ _ _ _ _ _ us hl => match us, hl with | [_], _ => rfl)
      (case a => k_is); (case l => k_is); (case c => k_is); (case k => k_is)
    case t_unit_rows =>
      refine' Dn.top_of KX G ?a ?l ?c ?k (fun _ _ _ _ _ _ us hl => match us, hl with | [_], _ => rfl)
      (case a => k_is); (case l => k_is); (case c => k_is); (case k => k_is)
    case t_need_task =>
      refine' Dn.top_of KX G ?a ?l ?c ?k (fun _ _ _ _ _ _ us hl => match us, hl with | [_], _ => rfl)
      (case a => k_is); (case l => k_is); (case c => k_is); (case k => k_is)
    case t_with_pair =>
      refine' Dn.top_of KX G ?a ?l ?c ?k (fun _ _ _ _ _ _ us hl => match us, hl with | [_, _], _ => rfl)
      (case a => k_is); (case l => k_is); (case c => k_is); (case k => k_is)
    case t_outmost_members_of =>
      refine' Dn.top_of KX G ?a ?l ?c ?k (fun _ _ _ _ _ _ us hl => match us, hl with | [_], _ => rfl)
      (case a => k_is); (case l => k_is); (case c => k_is); (case k => k_is)
    case t_outmost_members =>
      refine' Dn.top_of KX G ?a ?l ?c ?k (fun _ _ _ _ _ _ us hl => match us, hl with | [_], _ => rfl)
      (case a => k_is); (case l => k_is); (case c => k_is); (case k => k_is)
    case tl =>
      refine' Dn.top_of KX G ?a ?l ?c ?k (fun _ _ _ _ _ _ us hl => match us, hl with | [_], _ => rfl)
      (case a => k_is); (case l => k_is); (case c => k_is); (case k => k_is)
