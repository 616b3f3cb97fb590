import PyProof.Rows.All
import HandS.ForMost
import HandS.Star
import HandS.TupMul
import HandS.TupAny
import HandS.Zip
import HandS.Rev
import HandS.IsInst
import HandS.Deep
import HandS.Conv
import KE.GoesMore
import HandS.Style
import HandS.Codes
import PySem.Challenge.RW_lagcones_k09_whole_meeting
set_option Elab.async false
set_option linter.all false
set_option maxRecDepth 100000
set_option maxHeartbeats 4000000
/-! Dn0: a pure reading of a part of Python's syntax, over plain data. -/
namespace Dn
open PySem
abbrev D := PyData
/-- what the draws' row holds: the script, and three ints -/
structure W where
  ns : List Int
  i : Int
  s : Int
  q : Int
inductive R (α : Type) where
  | ok (a : α) (w : W)
  | exc (c : Str) (args : List D) (w : W)
  | bad
abbrev M (α : Type) := W → R α
def ret {α : Type} (a : α) : M α := fun w => .ok a w
def bad {α : Type} : M α := fun _ => .bad
def raise {α : Type} (c : Str) (args : List D) : M α := fun w => .exc c args w
def bnd {α β : Type} (m : M α) (f : α → M β) : M β := fun w => match m w with
  | .ok a w' => f a w'
  | .exc c xs w' => .exc c xs w'
  | .bad => .bad
theorem bnd_ret {α β : Type} (a : α) (f : α → M β) : bnd (ret a) f = f a := rfl
theorem bnd_bad {α β : Type} (f : α → M β) : bnd bad f = bad := rfl
theorem bnd_ok {α β : Type} {m : M α} {f : α → M β} {w : W} {a : α} {w' : W} (h : m w = .ok a w') : bnd m f w = f a w' := by unfold bnd; rw [h]
theorem bnd_bnd {α β γ : Type} (m : M α) (f : α → M β) (g : β → M γ) : bnd (bnd m f) g = bnd m fun a => bnd (f a) g := by
  funext w; unfold bnd; cases m w <;> rfl
def mapD (f : D → M (Option D)) : List D → M (List D)
  | [] => ret []
  | d :: ds => bnd (f d) fun o => bnd (mapD f ds) fun r => ret (match o with | some x => x :: r | none => r)
def asB : D → M Bool
  | .bool b => ret b
  | _ => bad
def itemsOf : D → M (List D)
  | .list ds => ret ds
  | .tuple ds => ret ds
  | _ => bad
inductive BOp | add | sub | mul | fdiv | mod | pow
inductive COp | eq | ne | lt | le | gt | ge | is_ | isnot | in_ | notin
inductive B1 | len | tuple | list | sum | max | min | abs | any | all | int | str
inductive B2 | max2 | min2
def line : Nat := sizeLine
def big (i : Int) : Bool := decide (-(2 ^ 64) < i ∧ i < 2 ^ 64)
def binD : BOp → D → D → M D
  | .add, .int i, .int j => ret (.int (i + j))
  | .add, .str x, .str y => if x.length + y.length ≤ sizeLine then ret (.str (x ++ y)) else bad
  | .add, .tuple xs, .tuple ys => if xs.length + ys.length ≤ sizeLine then ret (.tuple (xs ++ ys)) else bad
  | .add, .list xs, .list ys => if xs.length + ys.length ≤ sizeLine then ret (.list (xs ++ ys)) else bad
  | .sub, .int i, .int j => ret (.int (i - j))
  | .mul, .int i, .int j => if big i || big j then ret (.int (i * j)) else bad
  | .mul, .tuple xs, .int k => if 0 ≤ k ∧ k ≤ 1000 ∧ xs.length = 1 then ret (.tuple (List.replicate k.toNat xs).flatten) else bad
  | .mul, .list xs, .int k => if 0 ≤ k ∧ k ≤ 1000 ∧ xs.length = 1 then ret (.list (List.replicate k.toNat xs).flatten) else bad
  | .fdiv, .int i, .int j => if 0 < j ∧ j < 1073741824 then ret (.int (i / j)) else bad
  | .mod, .int i, .int j => if 0 < j then ret (.int (i % j)) else bad
  | .pow, .int i, .int j => if 0 ≤ j ∧ j ≤ 1000000 ∧ i.natAbs < 2 ^ 64 then ret (.int (i ^ j.toNat)) else bad
  | _, _, _ => bad
def negD : D → M D
  | .int i => ret (.int (-i))
  | _ => bad
def notD : D → M D
  | .bool b => ret (.bool (!b))
  | _ => bad
def isNone : D → Bool
  | .none => true
  | _ => false
def flatD : D → Bool
  | .none => true
  | .bool _ => true
  | .int _ => true
  | .str _ => true
  | _ => false
def cmpD : COp → D → D → M D
  | .eq, a, b => if SeqAt.shaped a && SeqAt.shaped b then ret (.bool (PyData.eqv a b)) else bad
  | .ne, a, b => if SeqAt.shaped a && SeqAt.shaped b then ret (.bool (!PyData.eqv a b)) else bad
  | .lt, .int i, .int j => ret (.bool (decide (i < j)))
  | .le, .int i, .int j => ret (.bool (decide (i ≤ j)))
  | .gt, .int i, .int j => ret (.bool (decide (j < i)))
  | .ge, .int i, .int j => ret (.bool (decide (j ≤ i)))
  | .is_, a, .none => ret (.bool (isNone a))
  | .isnot, a, .none => ret (.bool (!isNone a))
  | .in_, a, .list ds => if SeqAt.shaped a && SeqAt.shaped (.list ds) then ret (.bool (ds.any fun z => PyData.eqv z a)) else bad
  | .notin, a, .list ds => if SeqAt.shaped a && SeqAt.shaped (.list ds) then ret (.bool (!ds.any fun z => PyData.eqv z a)) else bad
  | .in_, a, .tuple ds => if SeqAt.shaped a && SeqAt.shaped (.tuple ds) then ret (.bool (ds.any fun z => PyData.eqv z a)) else bad
  | .notin, a, .tuple ds => if SeqAt.shaped a && SeqAt.shaped (.tuple ds) then ret (.bool (!ds.any fun z => PyData.eqv z a)) else bad
  | _, _, _ => bad
def ixD : D → D → M D
  | .list ds, .int i => match L2.atI ds i with | some d => ret d | none => bad
  | .tuple ds, .int i => match L2.atI ds i with | some d => ret d | none => bad
  | .str z, .int i => if z.length ≤ sizeLine then match L2.atI z.cps.toList i with | some c => ret (.str ⟨#[c]⟩) | none => bad else bad
  | _, _ => bad
def partD : D → M (Option Int)
  | .int i => ret (some i)
  | .dict [] => ret none
  | _ => bad
def cutL {α : Type} (xs : List α) (lo hi : Option Int) : List α := (xs.drop (HT.sIx xs.length 0 lo)).take (HT.sIx xs.length xs.length hi - HT.sIx xs.length 0 lo)
def sliceD : D → Option Int → Option Int → M D
  | .list ds, lo, hi => ret (.list (cutL ds lo hi))
  | .tuple ds, lo, hi => ret (.tuple (cutL ds lo hi))
  | _, _, _ => bad
def intsOf : List D → Option (List Int)
  | [] => some []
  | .int i :: r => (intsOf r).map (i :: ·)
  | _ :: _ => none
def boolsOf : List D → Option (List Bool)
  | [] => some []
  | .bool b :: r => (boolsOf r).map (b :: ·)
  | _ :: _ => none
def maxI : List Int → Int
  | [] => 0
  | x :: r => r.foldl (fun a b => if b > a then b else a) x
def minI : List Int → Int
  | [] => 0
  | x :: r => r.foldl (fun a b => if b < a then b else a) x
def b1D : B1 → D → M D
  | .len, .list ds => ret (.int ds.length)
  | .len, .tuple ds => ret (.int ds.length)
  | .len, .str z => if z.length ≤ sizeLine then ret (.int z.length) else bad
  | .tuple, .list ds => ret (.tuple ds)
  | .tuple, .tuple ds => ret (.tuple ds)
  | .list, .list ds => ret (.list ds)
  | .list, .tuple ds => ret (.list ds)
  | .sum, .list ds => match intsOf ds with | some ns => ret (.int ns.sum) | none => bad
  | .max, .list ds => match intsOf ds with | some (n :: ns) => ret (.int (maxI (n :: ns))) | _ => bad
  | .min, .list ds => match intsOf ds with | some (n :: ns) => ret (.int (minI (n :: ns))) | _ => bad
  | .abs, .int i => ret (.int (if i < 0 then -i else i))
  | .any, .list ds => match boolsOf ds with | some bs => ret (.bool (bs.any id)) | none => bad
  | .all, .list ds => match boolsOf ds with | some bs => ret (.bool (bs.all id)) | none => bad
  | .int, .int i => ret (.int i)
  | .str, .int i => if i.natAbs.log2 < 1920 then ret (.str (toString i)) else bad
  | _, _ => bad
def b2D : B2 → D → D → M D
  | .max2, .int i, .int j => ret (.int (if j > i then j else i))
  | .min2, .int i, .int j => ret (.int (if j < i then j else i))
  | _, _, _ => bad
inductive Cl | int | bool | str | tup | lst
  deriving DecidableEq
def Cl.name : Cl → String
  | .int => "int"
  | .bool => "bool"
  | .str => "str"
  | .tup => "tuple"
  | .lst => "list"
/-- isinstance: a bool is an int too -/
def isIn : D → Cl → Bool
  | .bool _, .bool => true
  | .bool _, .int => true
  | .int _, .int => true
  | .str _, .str => true
  | .tuple _, .tup => true
  | .list _, .lst => true
  | _, _ => false
def rangeD (lo hi : Int) : M D := if -(2 ^ 62) ≤ lo ∧ lo < 2 ^ 62 ∧ -(2 ^ 62) ≤ hi ∧ hi < 2 ^ 62 ∧ hi - lo ≤ 1000000 then ret (.list ((List.range (hi - lo).toNat).map fun (k : Nat) => PyData.int (lo + (k : Int)))) else bad
def range3D (lo hi : Int) : M D := if -(2 ^ 62) ≤ lo ∧ lo < 2 ^ 62 ∧ -(2 ^ 62) ≤ hi ∧ hi < 2 ^ 62 ∧ lo - hi ≤ 1000000 then ret (.list ((List.range (lo - hi).toNat).map fun (k : Nat) => PyData.int (lo + (k : Int) * (-1)))) else bad
def asI : D → M Int
  | .int i => ret i
  | _ => bad
def zipD (xs ys : List D) : List D := List.zipWith (fun a b => .tuple [a, b]) xs ys
def zip2D : D → D → M D
  | .list xs, .list ys => ret (.list (zipD xs ys))
  | .tuple xs, .tuple ys => ret (.list (zipD xs ys))
  | _, _ => bad
def enumD (xs : List D) : List D := List.zipWith (fun (k : Nat) a => .tuple [.int (k : Int), a]) (List.range xs.length) xs

inductive Sl | no | val (d : D) | own (l : List D) | row
abbrev Ev := List Sl
inductive Tg | nm (i : Nat) | tup (ts : Tg) | tnil | tcons (t r : Tg)
def bindT : Tg → D → Ev → Option Ev
  | .nm i, d, ρ => some (ρ.set i (.val d))
  | .tup ts, .tuple ds, ρ => bindT ts (.list ds) ρ
  | .tnil, .list [], ρ => some ρ
  | .tcons t r, .list (d :: ds), ρ => match bindT t d ρ with | some ρ' => bindT r (.list ds) ρ' | none => none
  | _, _, _ => none
def Tg.slots : Tg → List Nat
  | .nm i => [i]
  | .tup ts => ts.slots
  | .tnil => []
  | .tcons t r => t.slots ++ r.slots
def wipeE (ρ : Ev) : List Nat → Ev
  | [] => ρ
  | v :: vs => (wipeE ρ vs).set v .no

inductive E
  | nil | cons (a r : E) | star (a r : E)
  | var (i : Nat) | own (i : Nat)
  | lit (d : D) | glob (x : Str) (d : D)
  | bin (o : BOp) (a b : E) | neg (a : E) | not (a : E)
  | cmp (o : COp) (a b : E) | chain (o o' : COp) (a b c : E)
  | and (a b : E) | or (a b : E) | ite (c a b : E)
  | tup (es : E) | list (es : E)
  | ix (a b : E) | slice (a lo hi : E)
  | call (x : Str) (n : Nat) (f : List D → M D) (es : E)
  | callR (x : Str) (n : Nat) (f : List D → M D) (i : Nat) (es : E)
  | b1 (b : B1) (a : E) | b2 (b : B2) (a c : E)
  | isI (a : E) (c : Cl) | isTL (a : E)
  | comp (elt : E) (tg : Tg) (src cond : E)
  | range1 (a : E) | range2 (a b : E) | range3 (a b : E) | zip (a b : E) | enum (a : E) | rev (a : E)
  | rowAt (i j : Nat) | scrLen (i : Nat) | scrAt (i : Nat) (e : E)
  | stuck
  | listR1 (a : E) | listR2 (a b : E) | tupR1 (a : E)

def toT : D → M D
  | .list l => ret (.tuple l)
  | _ => bad
def listOf : D → List D
  | .list ds => ds
  | _ => []
def den : E → Ev → M D
  | .nil, _ => ret (.dict [])
  | .cons a r, ρ => bnd (den a ρ) fun x => bnd (den r ρ) fun xs => ret (.list (x :: listOf xs))
  | .star a r, ρ => bnd (den a ρ) fun x => bnd (itemsOf x) fun ds => bnd (den r ρ) fun xs => ret (.list (ds ++ listOf xs))
  | .var i, ρ => match ρ[i]? with | some (.val d) => ret d | _ => bad
  | .own i, ρ => match ρ[i]? with | some (.own l) => ret (.list l) | _ => bad
  | .lit d, _ => ret d
  | .glob _ d, _ => ret d
  | .bin o a b, ρ => bnd (den a ρ) fun x => bnd (den b ρ) fun y => binD o x y
  | .neg a, ρ => bnd (den a ρ) negD
  | .not a, ρ => bnd (den a ρ) notD
  | .cmp o a b, ρ => bnd (den a ρ) fun x => bnd (den b ρ) fun y => cmpD o x y
  | .chain o o' a b c, ρ => bnd (den a ρ) fun x => bnd (den b ρ) fun y => bnd (bnd (cmpD o x y) asB) fun k =>
      if k then bnd (den c ρ) fun z => cmpD o' y z else ret (.bool false)
  | .and a b, ρ => bnd (bnd (den a ρ) asB) fun k => if k then den b ρ else ret (.bool false)
  | .or a b, ρ => bnd (bnd (den a ρ) asB) fun k => if k then ret (.bool true) else den b ρ
  | .ite c a b, ρ => bnd (bnd (den c ρ) asB) fun k => if k then den a ρ else den b ρ
  | .tup es, ρ => bnd (den es ρ) fun xs => if (listOf xs).length ≤ sizeLine then ret (.tuple (listOf xs)) else bad
  | .list es, ρ => bnd (den es ρ) fun xs => if (listOf xs).length ≤ sizeLine then ret (.list (listOf xs)) else bad
  | .ix a b, ρ => bnd (den a ρ) fun x => bnd (den b ρ) fun y => ixD x y
  | .slice a lo hi, ρ => bnd (den a ρ) fun x => bnd (bnd (den lo ρ) partD) fun l => bnd (bnd (den hi ρ) partD) fun u => sliceD x l u
  | .call _ n f es, ρ => bnd (den es ρ) fun xs => if (listOf xs).length = n then f (listOf xs) else bad
  | .callR _ n f i es, ρ => match ρ[i]? with | some .row => bnd (den es ρ) fun xs => if (listOf xs).length = n then f (listOf xs) else bad | _ => bad
  | .b1 b a, ρ => bnd (den a ρ) fun x => b1D b x
  | .b2 b a c, ρ => bnd (den a ρ) fun x => bnd (den c ρ) fun y => b2D b x y
  | .isI a c, ρ => bnd (den a ρ) fun x => ret (.bool (isIn x c))
  | .isTL a, ρ => bnd (den a ρ) fun x => ret (.bool (isIn x .tup || isIn x .lst))
  | .comp elt tg src cond, ρ => bnd (bnd (den src ρ) itemsOf) fun ds =>
      bnd (mapD (fun d => match bindT tg d (wipeE ρ tg.slots) with
        | none => bad
        | some ρ' => bnd (bnd (den cond ρ') asB) fun k => if k then bnd (den elt ρ') fun x => ret (some x) else ret none) ds) fun out => ret (.list out)
  | .range1 a, ρ => bnd (bnd (den a ρ) asI) fun j => rangeD 0 j
  | .range2 a b, ρ => bnd (bnd (den a ρ) asI) fun i => bnd (bnd (den b ρ) asI) fun j => rangeD i j
  | .range3 a b, ρ => bnd (bnd (den a ρ) asI) fun i => bnd (bnd (den b ρ) asI) fun j => range3D i j
  | .zip a b, ρ => bnd (den a ρ) fun x => bnd (den b ρ) fun y => zip2D x y
  | .enum a, ρ => bnd (bnd (den a ρ) itemsOf) fun xs => ret (.list (enumD xs))
  | .rev a, ρ => bnd (bnd (den a ρ) itemsOf) fun xs => ret (.list xs.reverse)
  | .rowAt i j, ρ => match ρ[i]? with
      | some .row => fun w => match j with | 1 => .ok (.int w.i) w | 2 => .ok (.int w.s) w | 3 => .ok (.int w.q) w | _ => .bad
      | _ => bad
  | .scrLen i, ρ => match ρ[i]? with | some .row => fun w => .ok (.int w.ns.length) w | _ => bad
  | .scrAt i e, ρ => match ρ[i]? with
      | some .row => bnd (bnd (den e ρ) asI) fun k => fun w => match L2.atI w.ns k with | some n => .ok (.int n) w | none => .bad
      | _ => bad
  | .stuck, _ => bad
  | .listR1 a, ρ => bnd (bnd (den a ρ) asI) fun j => rangeD 0 j
  | .listR2 a b, ρ => bnd (bnd (den a ρ) asI) fun i => bnd (bnd (den b ρ) asI) fun j => rangeD i j
  | .tupR1 a, ρ => bnd (bnd (bnd (den a ρ) asI) fun j => rangeD 0 j) toT

inductive S
  | nil | seq (a r : S)
  | asg (t : Tg) (e : E)
  | newL (i : Nat) (e : E)
  | par (i j : Nat) (oi oj : Bool) (a b : E)
  | frz (i : Nat)
  | app (i : Nat) (e : E) | ext (i : Nat) (e : E) | setIx (i : Nat) (k e : E)
  | appPop (i j : Nat) (e : E)
  | ite (c : E) (a b : S)
  | for_ (t : Tg) (src : E) (body : S)
  | while_ (n : Ev → Nat) (c : E) (body : S)
  | ret (e : E)
  | expr (e : E)
  | raise (c : Str) (es : E)
  | rowSet (i j : Nat) (e : E)
  | aug (i : Nat) (o : BOp) (e : E)
  | stuck
inductive O | nx (ρ : Ev) | rt (d : D)
def slD (own : Bool) (d : D) : M Sl := if own then (match d with | .list l => ret (.own l) | _ => bad) else ret (.val d)
def forO (f : D → Ev → M O) : List D → Ev → M O
  | [], ρ => ret (.nx ρ)
  | d :: ds, ρ => bnd (f d ρ) fun o => match o with | .nx ρ' => forO f ds ρ' | .rt d => ret (.rt d)
def whileO (c : Ev → M Bool) (f : Ev → M O) : Nat → Ev → M O
  | 0, _ => bad
  | n + 1, ρ => bnd (c ρ) fun k => if k then bnd (f ρ) fun o => match o with | .nx ρ' => whileO c f n ρ' | .rt d => ret (.rt d) else ret (.nx ρ)
def setW (w : W) (j : Nat) (v : Int) : Option W := match j with | 1 => some { w with i := v } | 2 => some { w with s := v } | 3 => some { w with q := v } | _ => none
def augD (o : BOp) : D → D → M D
  | .int i, .int j => binD o (.int i) (.int j)
  | _, _ => bad
def denS : S → Ev → M O
  | .nil, ρ => ret (.nx ρ)
  | .seq a r, ρ => bnd (denS a ρ) fun o => match o with | .nx ρ' => denS r ρ' | .rt d => ret (.rt d)
  | .asg t e, ρ => bnd (den e ρ) fun d => match bindT t d ρ with | some ρ' => ret (.nx ρ') | none => bad
  | .newL i e, ρ => bnd (den e ρ) fun d => match d with | .list l => ret (.nx (ρ.set i (.own l))) | _ => bad
  | .par i j oi oj a b, ρ => bnd (bnd (den a ρ) (slD oi)) fun x => bnd (bnd (den b ρ) (slD oj)) fun y => ret (.nx ((ρ.set i x).set j y))
  | .frz i, ρ => match ρ[i]? with | some (.own l) => ret (.nx (ρ.set i (.val (.list l)))) | _ => bad
  | .app i e, ρ => match ρ[i]? with
      | some (.own l) => bnd (den e ρ) fun d => if l.length < sizeLine then ret (.nx (ρ.set i (.own (l ++ [d])))) else bad
      | _ => bad
  | .ext i e, ρ => match ρ[i]? with
      | some (.own l) => bnd (den e ρ) fun d => match d with | .list m => if l.length + m.length ≤ sizeLine then ret (.nx (ρ.set i (.own (l ++ m)))) else bad | _ => bad
      | _ => bad
  | .setIx i k e, ρ => bnd (den e ρ) fun d => match ρ[i]? with
      | some (.own l) => bnd (bnd (den k ρ) asI) fun n => match L2.ixN l.length n with | some j => ret (.nx (ρ.set i (.own (l.set j d)))) | none => bad
      | _ => bad
  | .appPop i j e, ρ => match ρ[i]?, ρ[j]? with
      | some (.own l), some (.own m) => bnd (bnd (den e ρ) asI) fun k => match L2.ixN m.length k with
          | some n => (match m[n]? with | some d => if l.length < sizeLine ∧ i ≠ j then ret (.nx ((ρ.set j (.own (m.eraseIdx n))).set i (.own (l ++ [d])))) else bad | none => bad)
          | none => bad
      | _, _ => bad
  | .ite c a b, ρ => bnd (bnd (den c ρ) asB) fun k => if k then denS a ρ else denS b ρ
  | .for_ t src body, ρ => bnd (bnd (den src ρ) itemsOf) fun ds => forO (fun d ρ' => match bindT t d ρ' with | some ρ'' => denS body ρ'' | none => bad) ds ρ
  | .while_ n c body, ρ => whileO (fun ρ' => bnd (den c ρ') asB) (denS body) (n ρ) ρ
  | .ret e, ρ => bnd (den e ρ) fun d => ret (.rt d)
  | .expr e, ρ => bnd (den e ρ) fun _ => ret (.nx ρ)
  | .raise c es, ρ => bnd (den es ρ) fun xs => raise c (listOf xs)
  | .rowSet i j e, ρ => match ρ[i]? with
      | some .row => bnd (bnd (den e ρ) asI) fun v => fun w => match setW w j v with | some w' => .ok (.nx ρ) w' | none => .bad
      | _ => bad
  | .aug i o e, ρ => match ρ[i]? with
      | some (.val x) => bnd (den e ρ) fun y => bnd (augD o x y) fun z => ret (.nx (ρ.set i (.val z)))
      | _ => bad
  | .stuck, _ => bad
/-- a def: its arguments, then empty slots -/
def fn (n : Nat) (b : S) (ds : List D) : M D := bnd (denS b (ds.map .val ++ List.replicate (n - ds.length) .no)) fun o => match o with | .rt d => ret d | .nx _ => ret .none
/-- a def whose first parameter is the draws' row -/
def fnR (n : Nat) (b : S) (ds : List D) : M D := bnd (denS b (.row :: (ds.map .val ++ List.replicate (n - ds.length) .no))) fun o => match o with | .rt d => ret d | .nx _ => ret .none
end Dn
namespace Dn
open PySem PySem.Spec PyProof.Rows L2
set_option autoImplicit true
/-! ### data at values -/
mutual
def Rp (H : Hp) : D → V → Prop
  | .none, v => v = .non
  | .bool b, v => v = .bl b
  | .int i, v => v = .int i
  | .str s, v => v = .str s
  | .list ds, v => ds.length ≤ sizeLine ∧ ∃ a vs, v = .ref a ∧ H a = some (.lst vs) ∧ RpL H ds vs
  | .tuple ds, v => ds.length ≤ sizeLine ∧ ∃ a vs, v = .ref a ∧ H a = some (.tup vs) ∧ RpL H ds vs
  | .dict _, _ => False
def RpL (H : Hp) : List D → List V → Prop
  | [], vs => vs = []
  | d :: ds, vs => ∃ v r, vs = v :: r ∧ Rp H d v ∧ RpL H ds r
end
def Sub (F H : Hp) : Prop := ∀ a o, F a = some o → H a = some o
theorem Sub.refl (F : Hp) : Sub F F := fun _ _ h => h
theorem Sub.trans {F G H : Hp} (a : Sub F G) (b : Sub G H) : Sub F H := fun c o h => b c o (a c o h)
mutual
theorem Rp.mono {F H : Hp} (s : Sub F H) : ∀ (d : D) (v : V), Rp F d v → Rp H d v
  | .none, _, h => h
  | .bool _, _, h => h
  | .int _, _, h => h
  | .str _, _, h => h
  | .list ds, _, ⟨z, a, vs, e, q, l⟩ => ⟨z, a, vs, e, s _ _ q, RpL.mono s ds vs l⟩
  | .tuple ds, _, ⟨z, a, vs, e, q, l⟩ => ⟨z, a, vs, e, s _ _ q, RpL.mono s ds vs l⟩
  | .dict _, _, h => h
theorem RpL.mono {F H : Hp} (s : Sub F H) : ∀ (ds : List D) (vs : List V), RpL F ds vs → RpL H ds vs
  | [], _, h => h
  | d :: ds, _, ⟨v, r, e, q, l⟩ => ⟨v, r, e, Rp.mono s d v q, RpL.mono s ds r l⟩
end
theorem RpL.nil {H : Hp} : RpL H [] [] := rfl
theorem RpL.cons {H : Hp} {d : D} {ds : List D} {v : V} {vs : List V} (a : Rp H d v) (b : RpL H ds vs) : RpL H (d :: ds) (v :: vs) := ⟨v, vs, rfl, a, b⟩
theorem RpL.length {H : Hp} : ∀ {ds : List D} {vs : List V}, RpL H ds vs → ds.length = vs.length
  | [], _, h => by rw [show _ = [] from h]; rfl
  | d :: ds, _, ⟨v, r, e, _, l⟩ => by rw [e, List.length_cons, List.length_cons, RpL.length l]
theorem RpL.get {H : Hp} : ∀ {ds : List D} {vs : List V} {i : Nat} {d : D}, RpL H ds vs → ds[i]? = some d → ∃ v, vs[i]? = some v ∧ Rp H d v
  | [], _, _, _, _, e => by simp at e
  | x :: ds, _, 0, d, ⟨v, r, e, q, l⟩, h => by
    have : x = d := by simpa using h
    subst this; subst e
    exact ⟨v, rfl, q⟩
  | x :: ds, _, i + 1, d, ⟨v, r, e, q, l⟩, h => by
    obtain ⟨u, h1, h2⟩ := RpL.get (i := i) l (by simpa using h)
    subst e
    exact ⟨u, by simpa using h1, h2⟩
theorem RpL.append {H : Hp} : ∀ {ds es : List D} {vs us : List V}, RpL H ds vs → RpL H es us → RpL H (ds ++ es) (vs ++ us)
  | [], _, _, _, h, k => by rw [show _ = [] from h]; exact k
  | _ :: ds, _, _, _, ⟨v, r, e, q, l⟩, k => by subst e; exact ⟨v, _, rfl, q, RpL.append l k⟩
theorem RpL.take {H : Hp} : ∀ {ds : List D} {vs : List V} (n : Nat), RpL H ds vs → RpL H (ds.take n) (vs.take n)
  | [], _, n, h => by rw [show _ = [] from h]; simp; exact rfl
  | _ :: _, _, 0, ⟨_, _, _, _, _⟩ => rfl
  | _ :: ds, _, n + 1, ⟨v, r, e, q, l⟩ => by subst e; exact ⟨v, _, rfl, q, RpL.take n l⟩
theorem RpL.drop {H : Hp} : ∀ {ds : List D} {vs : List V} (n : Nat), RpL H ds vs → RpL H (ds.drop n) (vs.drop n)
  | [], _, n, h => by rw [show _ = [] from h]; simp; exact rfl
  | _ :: _, _, 0, h => h
  | _ :: ds, _, n + 1, ⟨v, r, e, q, l⟩ => by subst e; exact RpL.drop n l
theorem RpL.set {H : Hp} {d : D} {v : V} (q : Rp H d v) : ∀ {ds : List D} {vs : List V} (n : Nat), RpL H ds vs → RpL H (ds.set n d) (vs.set n v)
  | [], _, n, h => by rw [show _ = [] from h]; exact rfl
  | _ :: _, _, 0, ⟨_, _, e, _, l⟩ => by subst e; exact ⟨_, _, rfl, q, l⟩
  | _ :: ds, _, n + 1, ⟨u, r, e, p, l⟩ => by subst e; exact ⟨u, _, rfl, p, RpL.set q n l⟩
theorem RpL.eraseIdx {H : Hp} : ∀ {ds : List D} {vs : List V} (n : Nat), RpL H ds vs → RpL H (ds.eraseIdx n) (vs.eraseIdx n)
  | [], _, n, h => by rw [show _ = [] from h]; exact rfl
  | _ :: _, _, 0, ⟨_, _, e, _, l⟩ => by subst e; exact l
  | _ :: ds, _, n + 1, ⟨u, r, e, p, l⟩ => by subst e; exact ⟨u, _, rfl, p, RpL.eraseIdx n l⟩
theorem RpL.reverse {H : Hp} : ∀ {ds : List D} {vs : List V}, RpL H ds vs → RpL H ds.reverse vs.reverse
  | [], _, h => by rw [show _ = [] from h]; exact rfl
  | d :: ds, _, ⟨v, r, e, q, l⟩ => by
    subst e
    rw [List.reverse_cons, List.reverse_cons]
    exact RpL.append (RpL.reverse l) (RpL.cons q RpL.nil)
theorem RpL.cut {H : Hp} {ds : List D} {vs : List V} (lo hi : Option Int) (h : RpL H ds vs) : RpL H (cutL ds lo hi) (cutV vs lo hi) := by
  unfold cutL cutV
  rw [h.length]
  exact (h.drop _).take _
theorem RpL.rep {H : Hp} {ds : List D} {vs : List V} (h : RpL H ds vs) : ∀ n : Nat, RpL H (List.replicate n ds).flatten (List.replicate n vs).flatten
  | 0 => rfl
  | n + 1 => by
    rw [List.replicate_succ, List.replicate_succ, List.flatten_cons, List.flatten_cons]
    exact h.append (RpL.rep h n)
theorem RpL.mem {H : Hp} {ds : List D} {vs : List V} (h : RpL H ds vs) {v : V} (hv : v ∈ vs) : ∃ d, Rp H d v := by
  obtain ⟨i, hi, e⟩ := List.getElem_of_mem hv
  have hl := h.length
  obtain ⟨u, h1, h2⟩ := h.get (List.getElem?_eq_getElem (show i < ds.length by omega))
  rw [List.getElem?_eq_getElem hi, e] at h1
  cases h1
  exact ⟨_, h2⟩
theorem intsOf_eq {H : Hp} : ∀ {ds : List D} {vs : List V} {ns : List Int}, RpL H ds vs → intsOf ds = some ns → vs = ns.map V.int ∧ ns.length = ds.length
  | [], _, ns, h, e => by
    cases (show some [] = some ns from e)
    rw [show _ = [] from h]; exact ⟨rfl, rfl⟩
  | .int i :: ds, _, ns, ⟨v, r, e1, q, l⟩, e => by
    cases k : intsOf ds with
    | none => rw [show intsOf (.int i :: ds) = (intsOf ds).map (i :: ·) from rfl, k] at e; cases e
    | some ms =>
      rw [show intsOf (.int i :: ds) = (intsOf ds).map (i :: ·) from rfl, k] at e
      cases e
      obtain ⟨h1, h2⟩ := intsOf_eq l k
      subst e1
      rw [show v = V.int i from q, h1]
      exact ⟨rfl, by simp [h2]⟩
  | .none :: _, _, _, _, e => by cases e
  | .bool _ :: _, _, _, _, e => by cases e
  | .str _ :: _, _, _, _, e => by cases e
  | .list _ :: _, _, _, _, e => by cases e
  | .tuple _ :: _, _, _, _, e => by cases e
  | .dict _ :: _, _, _, _, e => by cases e
theorem boolsOf_eq {H : Hp} : ∀ {ds : List D} {vs : List V} {ns : List Bool}, RpL H ds vs → boolsOf ds = some ns → vs = ns.map V.bl
  | [], _, ns, h, e => by
    cases (show some [] = some ns from e)
    rw [show _ = [] from h]; rfl
  | .bool i :: ds, _, ns, ⟨v, r, e1, q, l⟩, e => by
    cases k : boolsOf ds with
    | none => rw [show boolsOf (.bool i :: ds) = (boolsOf ds).map (i :: ·) from rfl, k] at e; cases e
    | some ms =>
      rw [show boolsOf (.bool i :: ds) = (boolsOf ds).map (i :: ·) from rfl, k] at e
      cases e
      have h1 := boolsOf_eq l k
      subst e1
      rw [show v = V.bl i from q, h1]
      rfl
  | .none :: _, _, _, _, e => by cases e
  | .int _ :: _, _, _, _, e => by cases e
  | .str _ :: _, _, _, _, e => by cases e
  | .list _ :: _, _, _, _, e => by cases e
  | .tuple _ :: _, _, _, _, e => by cases e
  | .dict _ :: _, _, _, _, e => by cases e
mutual
theorem Rp.dp {K : PySem.W.Frag} {H : Hp} : ∀ {d : D} {v : V}, Rp H d v → L2.Dp K H v d
  | .none, _, h => by rw [show _ = V.non from h]; exact .non
  | .bool _, _, h => by rw [show _ = V.bl _ from h]; exact .bl _
  | .int _, _, h => by rw [show _ = V.int _ from h]; exact .int _
  | .str _, _, h => by rw [show _ = V.str _ from h]; exact .str _
  | .list ds, _, ⟨z, a, vs, e, q, l⟩ => by subst e; exact .lst (SqL.of q) (RpL.dp l)
  | .tuple ds, _, ⟨z, a, vs, e, q, l⟩ => by subst e; exact .tup (SqT.of q) (RpL.dp l)
  | .dict _, _, h => h.elim
theorem RpL.dp {K : PySem.W.Frag} {H : Hp} : ∀ {ds : List D} {vs : List V}, RpL H ds vs → L2.DpAll K H vs ds
  | [], _, h => by rw [show _ = [] from h]; exact .nil
  | d :: ds, _, ⟨v, r, e, q, l⟩ => by subst e; exact .cons (Rp.dp q) (RpL.dp l)
end

/-! ### the step of a heap -/
/-- the draws' row and its script, by their places -/
abbrev Rw := Option (Addr × Addr × List Int)
def Rw.a (r : Rw) : Option Addr := r.map (·.1)
def RowOk (K : PySem.W.Frag) (r : Rw) (F H : Hp) (w : W) : Prop := match r with
  | none => True
  | some (a, t, ns) => F a = none ∧ (t ≠ a ∨ ∀ H', SqL K H' t (ns.map V.int)) ∧ w.ns = ns ∧ H a = some (.lst [.ref t, .int w.i, .int w.s, .int w.q]) ∧ SqL K H t (ns.map V.int)
structure Nx (K : PySem.W.Frag) (r : Rw) (F H F' H' : Hp) (w : W) : Prop where
  sub : Sub F F'
  inn : Sub F' H'
  keep : ∀ a o, r.a ≠ some a → H a = some o → H' a = some o
  new : ∀ a o, F' a = some o → F a = some o ∨ H a = none
  row : RowOk K r F' H' w
section
variable {K : PySem.W.Frag} {r : Rw} {F H F1 H1 F2 H2 : Hp} {w w1 w2 : W}
theorem RowOk.there (h : RowOk K r F H w) {a : Addr} (e : r.a = some a) : ∃ o, H a = some o := by
  cases r with
  | none => cases e
  | some p =>
    obtain ⟨b, t⟩ := p
    cases (show some b = some a from e)
    obtain ⟨_, _, _, q, _⟩ := h
    exact ⟨_, q⟩
theorem Nx.non (n : Nx K r F H F1 H1 w) {a : Addr} (e : H1 a = none) : H a = none := by
  cases q : H a with
  | none => rfl
  | some o =>
    by_cases hr : r.a = some a
    · obtain ⟨o', q'⟩ := n.row.there hr
      rw [e] at q'; cases q'
    · rw [n.keep a o hr q] at e; cases e
theorem Nx.refl (s : Sub F H) (h : RowOk K r F H w) : Nx K r F H F H w := ⟨Sub.refl _, s, fun _ _ _ q => q, fun _ _ q => .inl q, h⟩
theorem Nx.trans (a : Nx K r F H F1 H1 w1) (b : Nx K r F1 H1 F2 H2 w2) : Nx K r F H F2 H2 w2 where
  sub := a.sub.trans b.sub
  inn := b.inn
  keep := fun c o h q => b.keep c o h (a.keep c o h q)
  new := fun c o q => by
    rcases b.new c o q with z | z
    · exact a.new c o z
    · exact .inr (a.non z)
  row := b.row
/-- a new object, told as data of ours or not -/
theorem Nx.alloc (s : Sub F H) (h : RowOk K r F H w) {p : Addr} {o : HO} (hp : H p = none) : Nx K r F H (upd F p o) (upd H p o) w := by
  have fp : F p = none := by
    cases q : F p with
    | none => rfl
    | some o => rw [s p o q] at hp; cases hp
  refine ⟨fun a o' q => ?_, fun a o' q => ?_, fun a o' _ q => ?_, fun a o' q => ?_, ?_⟩
  · rw [upd_ne (ne_of_none q fp)]; exact q
  · by_cases e : a = p
    · subst e; rw [upd_same] at q ⊢; exact q
    · rw [upd_ne e] at q ⊢; exact s a o' q
  · rw [upd_ne (ne_of_none q hp)]; exact q
  · by_cases e : a = p
    · subst e; exact .inr hp
    · rw [upd_ne e] at q; exact .inl q
  · cases r with
    | none => trivial
    | some z =>
      obtain ⟨a, t, ns⟩ := z
      obtain ⟨f, ne, ew, q, l⟩ := h
      have ap : a ≠ p := ne_of_none q hp
      refine ⟨by rw [upd_ne ap]; exact f, ne, ew, by rw [upd_ne ap]; exact q, ?_⟩
      rcases l with (l | ⟨o', l⟩) | l
      · exact .inl (.inl (by rw [upd_ne (ne_of_none l hp)]; exact l))
      · exact .inl (.inr ⟨o', by rw [upd_ne (ne_of_none l hp)]; exact l⟩)
      · exact .inr l
theorem Nx.fresh (s : Sub F H) (h : RowOk K r F H w) {p : Addr} {o : HO} (hp : H p = none) : Nx K r F H F (upd H p o) w := by
  have n := Nx.alloc (K := K) (r := r) (w := w) s h (o := o) hp
  refine ⟨Sub.refl _, fun a o' q => ?_, n.keep, fun a o' q => .inl q, ?_⟩
  · rw [upd_ne (ne_of_none (s _ _ q) hp)]; exact s _ _ q
  · have q := n.row
    cases r with
    | none => trivial
    | some a => exact ⟨h.1, q.2⟩
end

/-- a place that is not the row, nor its script -/
def RwOff (K : PySem.W.Frag) (r : Rw) (p : Addr) : Prop := match r with
  | none => True
  | some (a, t, ns) => p ≠ a ∧ (p ≠ t ∨ ∀ H, SqL K H t (ns.map V.int))
theorem RowOk.off {K : PySem.W.Frag} {r : Rw} {F H : Hp} {w : W} (k : RowOk K r F H w) {p : Addr} (h : H p = none) : RwOff K r p := by
  cases r with
  | none => trivial
  | some z =>
    obtain ⟨a, t, ns⟩ := z
    obtain ⟨h1, h2, h3, h4, h5⟩ := k
    refine ⟨fun e => (by rw [e, h4] at h; cases h), ?_⟩
    rcases h5 with (h5 | ⟨o, h5⟩) | h5
    · exact .inl fun e => by rw [e, h5] at h; cases h
    · exact .inl fun e => by rw [e, h5] at h; cases h
    · exact .inr fun H => .inr h5
theorem RwOff.ne {K : PySem.W.Frag} {r : Rw} {p : Addr} (k : RwOff K r p) : r.a ≠ some p := by
  cases r with
  | none => intro e; cases e
  | some z =>
    obtain ⟨a, t, ns⟩ := z
    intro e
    exact k.1 (Option.some.inj (show some a = some p from e)).symm
/-! ### the state of a body -/
structure Sx (K : PySem.W.Frag) (r : Rw) (F H : Hp) (ρ : Ev) (σ : L2.St) (w : W) : Prop where
  sub : Sub F H
  row : RowOk K r F H w
  len : ρ.length = σ.length
  val : ∀ (i : Nat) d, ρ[i]? = some (.val d) → ∃ v, σ[i]? = some (some v) ∧ Rp F d v
  own : ∀ (i : Nat) l, ρ[i]? = some (.own l) → ∃ p vs, σ[i]? = some (some (.ref p)) ∧ H p = some (.lst vs) ∧ RpL F l vs ∧ F p = none ∧ RwOff K r p ∧ l.length ≤ sizeLine
  rw : ∀ (i : Nat), ρ[i]? = some .row → ∃ a, r.a = some a ∧ σ[i]? = some (some (.ref a))
  inj : ∀ (i j : Nat) l m p, ρ[i]? = some (.own l) → ρ[j]? = some (.own m) → σ[i]? = some (some (V.ref p)) → σ[j]? = some (some (V.ref p)) → i = j
theorem Sx.nx {K : PySem.W.Frag} {r : Rw} {F H F1 H1 : Hp} {ρ : Ev} {σ : L2.St} {w w1 : W} (s : Sx K r F H ρ σ w) (n : Nx K r F H F1 H1 w1) : Sx K r F1 H1 ρ σ w1 where
  sub := n.inn
  row := n.row
  len := s.len
  val := fun i d e => by
    obtain ⟨v, h1, h2⟩ := s.val i d e
    exact ⟨v, h1, Rp.mono n.sub _ _ h2⟩
  own := fun i l e => by
    obtain ⟨p, vs, h1, h2, h3, h4, h5, h6⟩ := s.own i l e
    refine ⟨p, vs, h1, n.keep _ _ h5.ne h2, RpL.mono n.sub _ _ h3, ?_, h5, h6⟩
    cases q : F1 p with
    | none => rfl
    | some o =>
      rcases n.new p o q with z | z
      · rw [h4] at z; cases z
      · rw [h2] at z; cases z
  rw := s.rw
  inj := s.inj

/-- what a reading delivers -/
abbrev Kind (α β : Type) := Rw → Hp → Hp → Hp → α → β → Prop
def Out {α β : Type} (P : Kind α β) (K : PySem.W.Frag) (r : Rw) (F H : Hp) (m : R α) (Q : β → Hp → Prop) : Prop := match m with
  | .ok a w => ∀ b F' H', Nx K r F H F' H' w → P r H F' H' a b → Q b H'
  | _ => False
def PV : Kind D V := fun _ _ F _ d v => Rp F d v
def PB : Kind Bool Bool := fun _ _ _ _ a b => a = b
def PL : Kind D (List V) := fun _ _ F _ d vs => RpL F (listOf d) vs
/-- a list or tuple read, a list of one's own too -/
def PSr : Kind D V := fun r _ F H d v => Rp F d v ∨ ∃ p vs l, v = .ref p ∧ d = .list l ∧ H p = some (.lst vs) ∧ RpL F l vs ∧ r.a ≠ some p ∧ l.length ≤ sizeLine
/-- a new list, not yet frozen -/
def PF : Kind D V := fun r H0 F H d v => ∃ p vs l, v = .ref p ∧ d = .list l ∧ H p = some (.lst vs) ∧ RpL F l vs ∧ F p = none ∧ H0 p = none ∧ r.a ≠ some p ∧ l.length ≤ sizeLine
def tOut {α β : Type} (P : Kind α β) (K : PySem.W.Frag) (f : Ev → M α) : L2.St → Hp → (β → Hp → Prop) → Prop := fun σ H Q => ∃ r F ρ w, Sx K r F H ρ σ w ∧ Out P K r F H (f ρ w) Q
section
variable {K : PySem.W.Frag} {r : Rw} {F H F1 H1 : Hp} {w w1 : W} {α β γ δ : Type} {P : Kind α β} {P' : Kind γ δ}
theorem Out.mono {m : R α} {Q Q' : β → Hp → Prop} (h : Out P K r F H m Q) (q : ∀ b H', Q b H' → Q' b H') : Out P K r F H m Q' := by
  cases m with
  | ok a w => exact fun b F' H' n p => q _ _ (h b F' H' n p)
  | exc c xs w => exact h
  | bad => exact h
class Mono (P : Kind α β) : Prop where
  back : ∀ {K r F H F1 H1 F' H' w a b}, Nx K r F H F1 H1 w → P r H1 F' H' a b → P r H F' H' a b
instance : Mono PV := ⟨fun _ h => h⟩
instance : Mono PB := ⟨fun _ h => h⟩
instance : Mono PL := ⟨fun _ h => h⟩
instance : Mono PSr := ⟨fun _ h => h⟩
instance : Mono PF := ⟨fun n ⟨p, vs, l, h1, h2, h3, h4, h5, h6, h7⟩ => ⟨p, vs, l, h1, h2, h3, h4, h5, n.non h6, h7⟩⟩
theorem Out.step [Mono P] {m : R α} {Q : β → Hp → Prop} (h : Out P K r F H m Q) (n : Nx K r F H F1 H1 w1) : Out P K r F1 H1 m Q := by
  cases m with
  | ok a w => exact fun b F' H' n' p => h b F' H' (n.trans n') (Mono.back n p)
  | exc c xs w => exact h
  | bad => exact h
theorem Out.bind [Mono P'] {m : M α} {k : α → M γ} {Q : δ → Hp → Prop} (h : Out P' K r F H (bnd m k w) Q) :
    Out P K r F H (m w) fun b H1 => ∃ F1 a w1, Nx K r F H F1 H1 w1 ∧ P r H F1 H1 a b ∧ Out P' K r F1 H1 (k a w1) Q := by
  unfold bnd at h
  cases e : m w with
  | ok a w1 =>
    rw [e] at h
    exact fun b F' H' n p => ⟨F', a, w1, n, p, h.step n⟩
  | exc c xs w1 => rw [e] at h; exact h
  | bad => rw [e] at h; exact h
theorem Out.ret {a : α} {Q : β → Hp → Prop} (h : Out P K r F H (Dn.ret a w) Q) {b : β} (n : Nx K r F H F1 H1 w) (p : P r H F1 H1 a b) : Q b H1 := h b F1 H1 n p
theorem Out.not {Q : β → Hp → Prop} (h : Out P K r F H (bad w) Q) {C : Prop} : C := h.elim
/-- a reading that gives more than is asked -/
theorem Out.weak {P2 : Kind α β} {m : R α} {Q : β → Hp → Prop} (h : Out P2 K r F H m Q) (k : ∀ {F' H' w a b}, Nx K r F H F' H' w → P r H F' H' a b → P2 r H F' H' a b) : Out P K r F H m Q := by
  cases m with
  | ok a w => exact fun b F' H' n p => h b F' H' n (k n p)
  | exc c xs w => exact h
  | bad => exact h
end
end Dn
namespace Dn
open PySem PySem.Spec PyProof.Rows L2
set_option autoImplicit true
theorem PE_imp {X : Cx} {e : Expr} {t t' : TE} (h : PE X e t) (i : ∀ σ H Q, t' σ H Q → t σ H Q) : PE X e t' := ⟨fun pins s σ H Q I q => h.run pins s σ H Q I (i σ H Q q)⟩
theorem PT_imp {X : Cx} {e : Expr} {t t' : TT} (h : PT X e t) (i : ∀ σ H Q, t' σ H Q → t σ H Q) : PT X e t' := ⟨fun pins s σ H Q I q => h.run pins s σ H Q I (i σ H Q q)⟩
theorem PA_imp {X : Cx} {e : List Expr} {t t' : TA} (h : PA X e t) (i : ∀ σ H Q, t' σ H Q → t σ H Q) : PA X e t' := ⟨fun pos pins s σ H Q I q => h.run pos pins s σ H Q I (i σ H Q q)⟩
abbrev DE (X : Cx) (e : Expr) (f : Ev → M D) : Prop := PE X e (tOut PV X.K f)
abbrev DS (X : Cx) (e : Expr) (f : Ev → M D) : Prop := PE X e (tOut PSr X.K f)
abbrev DF (X : Cx) (e : Expr) (f : Ev → M D) : Prop := PE X e (tOut PF X.K f)
abbrev DT (X : Cx) (e : Expr) (f : Ev → M Bool) : Prop := PT X e (tOut PB X.K f)
abbrev DA (X : Cx) (es : List Expr) (f : Ev → M D) : Prop := PA X es (tOut PL X.K f)
section
variable {X : Cx} {e a b c : Expr} {es : List Expr} {f fa fb fc fs : Ev → M D} {pos : Pos}
theorem DE.ds (h : DE X e f) : DS X e f := PE_imp h fun σ H Q ⟨r, F, ρ, w, s, o⟩ => ⟨r, F, ρ, w, s, o.weak fun _ p => .inl p⟩
theorem Nx.freeze {K : PySem.W.Frag} {r : Rw} {F H F' H' : Hp} {w : W} {p : Addr} {o : HO} (n : Nx K r F H F' H' w) (h1 : H' p = some o) (h2 : F' p = none) (h3 : H p = none) (h4 : r.a ≠ some p) : Nx K r F H (upd F' p o) H' w := by
  refine ⟨fun a u q => ?_, fun a u q => ?_, n.keep, fun a u q => ?_, ?_⟩
  · have q' := n.sub a u q
    rw [upd_ne (ne_of_none q' h2)]; exact q'
  · by_cases e : a = p
    · subst e; rw [upd_same] at q; cases q; exact h1
    · rw [upd_ne e] at q; exact n.inn a u q
  · by_cases e : a = p
    · subst e; exact .inr h3
    · rw [upd_ne e] at q; exact n.new a u q
  · have q := n.row
    cases r with
    | none => trivial
    | some z => exact ⟨by rw [upd_ne (fun e => h4 (by rw [← e]; rfl))]; exact q.1, q.2⟩
theorem sub_upd {F : Hp} {p : Addr} {o : HO} (h : F p = none) : Sub F (upd F p o) := fun a u q => by rw [upd_ne (ne_of_none q h)]; exact q
theorem DF.de (h : DF X e f) : DE X e f := PE_imp h fun σ H Q ⟨r, F, ρ, w, s, o⟩ => ⟨r, F, ρ, w, s, by
  revert o
  cases f ρ w with
  | ok d w' =>
    intro o v F' H' n p
    obtain ⟨p, vs, l, rfl, rfl, h1, h2, h3, h4, h5, h6⟩ := p
    exact o _ _ _ (n.freeze h1 h3 h4 h5) ⟨h6, p, vs, rfl, upd_same, RpL.mono (sub_upd h3) _ _ h2⟩
  | exc _ _ _ => exact fun o => o
  | bad => exact fun o => o⟩
/-! ### names, constants -/
theorem s_var {i : Nat} {x : Str} (hN : X.N[i]? = some x) (hv : Vis X.env.scope x) (hd : (x == ("__debug__" : Str)) = false) (hcd : (x == ("__classdict__" : Str)) = false) : DE X (.Name x pos) (den (.var i)) :=
  PE_imp (pe_var hN hv hd hcd) fun σ H Q ⟨r, F, ρ, w, s, o⟩ => by
    simp only [den] at o
    cases e : ρ[i]? with
    | none => rw [e] at o; exact o.elim
    | some z =>
      rw [e] at o
      cases z with
      | val d =>
        obtain ⟨v, h1, h2⟩ := s.val i d e
        exact ⟨v, h1, o v F H (Nx.refl s.sub s.row) h2⟩
      | _ => exact o.elim
theorem s_own {i : Nat} {x : Str} (hN : X.N[i]? = some x) (hv : Vis X.env.scope x) (hd : (x == ("__debug__" : Str)) = false) (hcd : (x == ("__classdict__" : Str)) = false) : DS X (.Name x pos) (den (.own i)) :=
  PE_imp (pe_var hN hv hd hcd) fun σ H Q ⟨r, F, ρ, w, s, o⟩ => by
    simp only [den] at o
    cases e : ρ[i]? with
    | none => rw [e] at o; exact o.elim
    | some z =>
      rw [e] at o
      cases z with
      | own l =>
        obtain ⟨p, vs, h1, h2, h3, h4, h5, h6⟩ := s.own i l e
        exact ⟨.ref p, h1, o _ F H (Nx.refl s.sub s.row) (.inr ⟨p, vs, l, rfl, rfl, h2, h3, h5.ne, h6⟩)⟩
      | _ => exact o.elim
/-- a constant by its value -/
theorem s_const {d : D} {v : V} (h : PE X e (tC v)) (hr : ∀ F, Rp F d v) : DE X e (fun _ => ret d) :=
  PE_imp h fun σ H Q ⟨r, F, ρ, w, s, o⟩ => o v F H (Nx.refl s.sub s.row) (hr F)
/-! ### operators by values -/
def VR2 (K : PySem.W.Frag) (r : R2) (g : D → D → M D) : Prop := ∀ {rr : Rw} {F H : Hp} {w : W} {x y : V} {a b : D} {Q : VK}, Sub F H → RowOk K rr F H w → Rp F a x → Rp F b y → Out PV K rr F H (g a b w) Q → r x y H Q
def VR2s (K : PySem.W.Frag) (r : R2) (g : D → D → M D) : Prop := ∀ {rr : Rw} {F H H0 : Hp} {w : W} {x y : V} {a b : D} {Q : VK}, Sub F H → RowOk K rr F H w → Rp F a x → PSr rr H0 F H b y → Out PV K rr F H (g a b w) Q → r x y H Q
theorem PSr.step {K : PySem.W.Frag} {r : Rw} {H0 F H F1 H1 : Hp} {w : W} {d : D} {v : V} (p : PSr r H0 F H d v) (n : Nx K r F H F1 H1 w) : PSr r H0 F1 H1 d v := by
  rcases p with p | ⟨p, vs, l, h1, h2, h3, h4, h5, h6⟩
  · exact .inl (Rp.mono n.sub _ _ p)
  · exact .inr ⟨p, vs, l, h1, h2, n.keep _ _ h5 h3, RpL.mono n.sub _ _ h4, h5, h6⟩
theorem two {g : D → D → M D} {r : R2} (v : VR2s X.K r g) : ∀ σ H Q, tOut PV X.K (fun ρ => bnd (fa ρ) fun x => bnd (fb ρ) fun y => g x y) σ H Q → tOp r (tOut PV X.K fa) (tOut PSr X.K fb) σ H Q := fun σ H Q ⟨rr, F, ρ, w, s, o⟩ =>
  ⟨rr, F, ρ, w, s, (Out.bind (P := PV) o).mono fun x H1 ⟨F1, a, w1, n1, p1, o1⟩ => ⟨rr, F1, ρ, w1, s.nx n1, (Out.bind (P := PSr) o1).mono fun y H2 ⟨F2, b, w2, n2, p2, o2⟩ => v n2.inn n2.row (Rp.mono n2.sub _ _ p1) p2 o2⟩⟩
theorem twoV {g : D → D → M D} {r : R2} (v : VR2 X.K r g) : ∀ σ H Q, tOut PV X.K (fun ρ => bnd (fa ρ) fun x => bnd (fb ρ) fun y => g x y) σ H Q → tOp r (tOut PV X.K fa) (tOut PV X.K fb) σ H Q := fun σ H Q ⟨rr, F, ρ, w, s, o⟩ =>
  ⟨rr, F, ρ, w, s, (Out.bind (P := PV) o).mono fun x H1 ⟨F1, a, w1, n1, p1, o1⟩ => ⟨rr, F1, ρ, w1, s.nx n1, (Out.bind (P := PV) o1).mono fun y H2 ⟨F2, b, w2, n2, p2, o2⟩ => v n2.inn n2.row (Rp.mono n2.sub _ _ p1) p2 o2⟩⟩
theorem s_bin {op : Operator} {r : R2} {g : D → D → M D} (ho : OpR X (binaryOp op) r) (v : VR2 X.K r g) (ha : DE X a fa) (hb : DE X b fb) : DE X (.BinOp a op b pos) (fun ρ => bnd (fa ρ) fun x => bnd (fb ρ) fun y => g x y) :=
  PE_imp (pe_op ho ha hb) (twoV v)
theorem s_cmp {op : CmpOp} {r : R2} {g : D → D → M D} (ho : OpR X (compareOp op) r) (v : VR2 X.K r g) (hm : behindInMarks op b = false) (ha : DE X a fa) (hb : DE X b fb) : DE X (.Compare a [op] [b] pos) (fun ρ => bnd (fa ρ) fun x => bnd (fb ρ) fun y => g x y) :=
  PE_imp (pe_cmpR ho ha hb hm) (twoV v)
theorem s_cmpS {op : CmpOp} {r : R2} {g : D → D → M D} (ho : OpR X (compareOp op) r) (v : VR2s X.K r g) (hm : behindInMarks op b = false) (ha : DE X a fa) (hb : DS X b fb) : DE X (.Compare a [op] [b] pos) (fun ρ => bnd (fa ρ) fun x => bnd (fb ρ) fun y => g x y) :=
  PE_imp (pe_cmpR ho ha hb hm) (two v)
theorem tt_of {t : TE} {f : Ev → M D} (h : ∀ σ H Q, tOut PV X.K f σ H Q → t σ H Q) : ∀ σ H Q, tOut PB X.K (fun ρ => bnd (f ρ) asB) σ H Q → tTest t σ H Q := fun σ H Q ⟨rr, F, ρ, w, s, o⟩ =>
  h σ H _ ⟨rr, F, ρ, w, s, (Out.bind (P := PV) o).mono fun x H1 ⟨F1, d, w1, n1, p1, o1⟩ => by
    cases d with
    | bool k => exact ⟨k, p1, o1 k F1 H1 (Nx.refl n1.inn n1.row) rfl⟩
    | _ => exact o1.elim⟩
theorem t_cmp {op : CmpOp} {r : R2} {g : D → D → M D} (ho : OpR X (compareOp op) r) (v : VR2 X.K r g) (hm : behindInMarks op b = false) (ha : DE X a fa) (hb : DE X b fb) : DT X (.Compare a [op] [b] pos) (fun ρ => bnd (bnd (fa ρ) fun x => bnd (fb ρ) fun y => g x y) asB) :=
  PT_imp (pt_cmpR ho ha hb hm) (tt_of (twoV v))
theorem t_cmpS {op : CmpOp} {r : R2} {g : D → D → M D} (ho : OpR X (compareOp op) r) (v : VR2s X.K r g) (hm : behindInMarks op b = false) (ha : DE X a fa) (hb : DS X b fb) : DT X (.Compare a [op] [b] pos) (fun ρ => bnd (bnd (fa ρ) fun x => bnd (fb ρ) fun y => g x y) asB) :=
  PT_imp (pt_cmpR ho ha hb hm) (tt_of (two v))
/-- an expression as a test, where a test is its value's truth -/
theorem t_val (h : DE X e f) (he : ∀ whole, isTrue e X.env whole = (do let v ← whole; standAt e.pos; holding [v] (truthy v))) : DT X e (fun ρ => bnd (f ρ) asB) :=
  PT_imp (pt_val h he) (tt_of fun _ _ _ q => q)
end
end Dn
namespace Dn
open PySem PySem.Spec PyProof.Rows L2
set_option autoImplicit true
/-! ### t * k for a tuple of one item, k any small number -/
theorem tuple_mul1 (l : Addr) (items : Array Value) (n : Nat) (sl : Array (Option Value)) (u : Tok) (c1 : items.isEmpty = false) :
    Meets (Builtin.«tuple.__mul__» ⟨[.ref l, .int 1 u], []⟩) (fun _ R s => s.heap.get? l = some { cls := .type "tuple", dict := dd, data := .seq items n, slots := sl } ∧
      R (.ok (.ret (Value.ref l))) s) :=
  .of_wp fun prog w A R s h => by
    obtain ⟨hp, g, d, tk, os⟩ := s
    obtain ⟨hl, h⟩ := h
    have f1 := AutoSeq1.idx_int
    wp_walk using wpAny_loadPart' hl
    repeat (first
      | (refine wpAny_ite_true (decide_eq_true (by simp)) ?_; wp_walk using wpAny_loadPart' hl)
      | (refine wpAny_ite_false (decide_eq_false (by simp)) ?_; wp_walk using wpAny_loadPart' hl))
    exact ⟨_, rfl, h⟩
theorem tuple_mul0 (l : Addr) (items : Array Value) (n : Nat) (sl : Array (Option Value)) (u : Tok) (c1 : items.isEmpty = false) :
    Meets (Builtin.«tuple.__mul__» ⟨[.ref l, .int 0 u], []⟩) (fun _ R s => s.heap.get? l = some { cls := .type "tuple", dict := dd, data := .seq items n, slots := sl } ∧
      R (.ok (.ret (Value.ref s.heap.objs.size))) { s with heap := s.heap.push { cls := Value.type "tuple", data := Data.seq #[] } }) :=
  .of_wp fun prog w A R s h => by
    obtain ⟨hp, g, d, tk, os⟩ := s
    obtain ⟨hl, h⟩ := h
    have f1 := AutoSeq1.idx_int
    wp_walk using wpAny_loadPart' hl
    repeat (first
      | (refine wpAny_ite_false (decide_eq_false (by simp [c1])) ?_; wp_walk using wpAny_loadPart' hl)
      | (refine wpAny_ite_true (decide_eq_true (by simp)) ?_; wp_walk using wpAny_loadPart' hl))
    exact ⟨_, rfl, h⟩
def rRepS (K : PySem.W.Frag) : R2 := fun x y H Q => ∃ l k v, x = .ref l ∧ y = .int k ∧ SqT K H l [v] ∧ 0 ≤ k ∧ k ≤ 1000 ∧ (k = 1 → Q (.ref l) H) ∧ (k ≠ 1 → ∀ p, H p = none → Q (.ref p) (upd H p (.tup (List.replicate k.toNat [v]).flatten)))
theorem op_repS {X : Cx} : OpR X (binaryOp .Mult) (rRepS X.K) := by
  intro pins s σ H x y v u Q I rx ry h
  obtain ⟨l, k, z, rfl, rfl, hT, h1, h2, q1, q2⟩ := h
  by_cases e1 : k = 1
  · subst e1
    cases rx
    obtain ⟨t, rfl⟩ := ry
    obtain ⟨its, r, ⟨⟨cls, dd, data, sl⟩, ho, hc, n, hd⟩, hs⟩ := I.tuple hT
    simp only at hc hd
    subst hc hd
    have hle : its.length = 1 := r.length.symm
    have hi : its.toArray.isEmpty = false := by
      cases its with
      | nil => cases hle
      | cons a b => rfl
    refine wpAny_binaryOp_repeat_ref (T := "tuple") (U := "int") (by decide) ⟨_, ho, rfl⟩ (fun s' => typeIs_int s' 1 t) noFill_tuple_mul F.fills_int_mul F.slot_int_rmul repeat_tuple F.slot_int_index.lookup
      (call_meets F.slot_int_rmul (typeIs_int s 1 t) F.entry_int_rmul (F.args_int_rmul_2 _ _) (int_rmul_tuple 1 t l its.toArray n dd sl)
        ⟨ho, rfl, ⟨_, ho, rfl⟩, call_meets F.slot_tuple_mul ⟨_, ho, rfl⟩ F.entry_tuple_mul (F.args_tuple_mul_2 _ _) (tuple_mul1 l its.toArray n sl t hi) ⟨ho, ?_⟩⟩)
    exact ⟨.ref l, H, I, rfl, q1 rfl⟩
  · by_cases e0 : k = 0
    · subst e0
      cases rx
      obtain ⟨t, rfl⟩ := ry
      obtain ⟨its, r, ⟨⟨cls, dd, data, sl⟩, ho, hc, n, hd⟩, hs⟩ := I.tuple hT
      simp only at hc hd
      subst hc hd
      have hle : its.length = 1 := r.length.symm
      have hi : its.toArray.isEmpty = false := by
        cases its with
        | nil => cases hle
        | cons a b => rfl
      refine wpAny_binaryOp_repeat_ref (T := "tuple") (U := "int") (by decide) ⟨_, ho, rfl⟩ (fun s' => typeIs_int s' 0 t) noFill_tuple_mul F.fills_int_mul F.slot_int_rmul repeat_tuple F.slot_int_index.lookup
        (call_meets F.slot_int_rmul (typeIs_int s 0 t) F.entry_int_rmul (F.args_int_rmul_2 _ _) (int_rmul_tuple 0 t l its.toArray n dd sl)
          ⟨ho, rfl, ⟨_, ho, rfl⟩, call_meets F.slot_tuple_mul ⟨_, ho, rfl⟩ F.entry_tuple_mul (F.args_tuple_mul_2 _ _) (tuple_mul0 l its.toArray n sl t hi) ⟨ho, ?_⟩⟩)
      refine ⟨.ref s.heap.objs.size, _, I.laid (t' := s.toks) (o := .tup []) (fun b ob q => Heap.get?_push_of_some _ q) (Nat.le_refl _) ?_, rfl, q2 e1 _ (I.hok.fresh (Nat.le_refl _))⟩
      exact ⟨Nat.zero_le _, [], .nil, IsTup.new _ _⟩
    · exact op_repT pins s σ H _ _ v u Q I rx ry ⟨l, k, [z], rfl, rfl, hT, by simp, by omega, h2, by simp, q2 e1⟩
/-! ### the operators' rules -/
section
variable {K : PySem.W.Frag}
theorem vr_or {r1 r2 : R2} {g1 g2 g : D → D → M D} (h1 : VR2 K r1 g1) (h2 : VR2 K r2 g2) (h : ∀ a b w, g a b w = g1 a b w ∨ g a b w = g2 a b w) : VR2 K (fun x y H Q => r1 x y H Q ∨ r2 x y H Q) g := fun {rr F H w x y a b Q} s k p q o => by
  rcases h a b w with e | e
  · rw [e] at o; exact .inl (h1 s k p q o)
  · rw [e] at o; exact .inr (h2 s k p q o)
/-- the end of a rule: a flat answer -/
theorem fin {rr : Rw} {F H : Hp} {w : W} {d : D} {v : V} {Q : VK} (s : Sub F H) (k : RowOk K rr F H w) (o : Out PV K rr F H (.ok d w) Q) (p : Rp F d v) : Q v H := o v F H (Nx.refl s k) p
theorem finT {rr : Rw} {F H : Hp} {w : W} {ds : List D} {vs : List V} {p : Addr} {Q : VK} (s : Sub F H) (k : RowOk K rr F H w) (o : Out PV K rr F H (.ok (.tuple ds) w) Q) (hp : H p = none) (hl : ds.length ≤ sizeLine) (l : RpL F ds vs) : Q (.ref p) (upd H p (.tup vs)) := by
  have n := Nx.alloc (K := K) (o := .tup vs) s k hp
  exact o _ _ _ n ⟨hl, p, vs, rfl, upd_same, RpL.mono n.sub _ _ l⟩
theorem finL {rr : Rw} {F H : Hp} {w : W} {ds : List D} {vs : List V} {p : Addr} {Q : VK} (s : Sub F H) (k : RowOk K rr F H w) (o : Out PV K rr F H (.ok (.list ds) w) Q) (hp : H p = none) (hl : ds.length ≤ sizeLine) (l : RpL F ds vs) : Q (.ref p) (upd H p (.lst vs)) := by
  have n := Nx.alloc (K := K) (o := .lst vs) s k hp
  exact o _ _ _ n ⟨hl, p, vs, rfl, upd_same, RpL.mono n.sub _ _ l⟩
def rAddI : R2 := rI0 fun i j => .int (i + j)
def rAddS : R2 := fun x y H Q => ∃ i j, x = .str i ∧ y = .str j ∧ i.length + j.length ≤ sizeLine ∧ Q (.str (i ++ j)) H
def rAddAll (K : PySem.W.Frag) : R2 := fun x y H Q => rAddI x y H Q ∨ (rAddS x y H Q ∨ (rCatA K x y H Q ∨ rCat x y H Q))
theorem op_addAll {X : Cx} : OpR X (binaryOp .Add) (rAddAll X.K) := op_add.or (op_add_str.or (op_catA.or op_cat))
theorem Rp.tup {F : Hp} {ds : List D} {v : V} (h : Rp F (.tuple ds) v) : ds.length ≤ sizeLine ∧ ∃ a vs, v = .ref a ∧ F a = some (.tup vs) ∧ RpL F ds vs := h
theorem Rp.lst {F : Hp} {ds : List D} {v : V} (h : Rp F (.list ds) v) : ds.length ≤ sizeLine ∧ ∃ a vs, v = .ref a ∧ F a = some (.lst vs) ∧ RpL F ds vs := h
theorem v_add : VR2 K (rAddAll K) (binD .add) := fun {rr F H w x y a b Q} s k p q o => by
  cases a <;> cases b <;> first | exact o.elim | skip
  · exact .inl ⟨_, _, p, q, fin s k o rfl⟩
  · rename_i i j
    by_cases hl : i.length + j.length ≤ sizeLine
    · rw [show binD .add (.str i) (.str j) = if i.length + j.length ≤ sizeLine then ret (.str (i ++ j)) else bad from rfl, if_pos hl] at o
      exact .inr (.inl ⟨_, _, p, q, hl, fin s k o rfl⟩)
    · rw [show binD .add (.str i) (.str j) = if i.length + j.length ≤ sizeLine then ret (.str (i ++ j)) else bad from rfl, if_neg hl] at o
      exact o.elim
  · rename_i i j
    by_cases hl : i.length + j.length ≤ sizeLine
    · rw [show binD .add (.list i) (.list j) = if i.length + j.length ≤ sizeLine then ret (.list (i ++ j)) else bad from rfl, if_pos hl] at o
      obtain ⟨z1, l1, xs, rfl, e1, r1⟩ := p.lst
      obtain ⟨z2, l2, ys, rfl, e2, r2⟩ := q.lst
      refine .inr (.inr (.inr ⟨l1, l2, xs, ys, rfl, rfl, s _ _ e1, s _ _ e2, by rw [← r1.length, ← r2.length]; exact hl, fun p hp => finL s k o hp (by rw [List.length_append]; exact hl) (r1.append r2)⟩))
    · rw [show binD .add (.list i) (.list j) = if i.length + j.length ≤ sizeLine then ret (.list (i ++ j)) else bad from rfl, if_neg hl] at o
      exact o.elim
  · rename_i i j
    by_cases hl : i.length + j.length ≤ sizeLine
    · rw [show binD .add (.tuple i) (.tuple j) = if i.length + j.length ≤ sizeLine then ret (.tuple (i ++ j)) else bad from rfl, if_pos hl] at o
      have p' := p
      have q' := q
      obtain ⟨z1, l1, xs, rfl, e1, r1⟩ := p.tup
      obtain ⟨z2, l2, ys, rfl, e2, r2⟩ := q.tup
      refine .inr (.inr (.inl ⟨l1, l2, xs, ys, rfl, rfl, SqT.of (s _ _ e1), SqT.of (s _ _ e2), by rw [← r1.length, ← r2.length]; exact hl, fun ex => ?_, fun _ ey => ?_, fun _ _ p hp => finT s k o hp (by rw [List.length_append]; exact hl) (r1.append r2)⟩))
      · have e : i = [] := List.eq_nil_of_length_eq_zero (by rw [r1.length, ex]; rfl)
        subst e
        exact fin s k o q'
      · have e : j = [] := List.eq_nil_of_length_eq_zero (by rw [r2.length, ey]; rfl)
        subst e
        rw [List.append_nil] at o
        exact fin s k o p'
    · rw [show binD .add (.tuple i) (.tuple j) = if i.length + j.length ≤ sizeLine then ret (.tuple (i ++ j)) else bad from rfl, if_neg hl] at o
      exact o.elim
theorem v_sub : VR2 K (rI0 fun i j => .int (i - j)) (binD .sub) := fun {rr F H w x y a b Q} s k p q o => by
  cases a <;> cases b <;> first | exact o.elim | skip
  exact ⟨_, _, p, q, fin s k o rfl⟩
def rMulAll (K : PySem.W.Frag) : R2 := fun x y H Q => rI CMul (fun i j => .int (i * j)) x y H Q ∨ (rRepS K x y H Q ∨ rRep x y H Q)
theorem op_mulAll {X : Cx} : OpR X (binaryOp .Mult) (rMulAll X.K) := op_mul.or (op_repS.or op_rep)
theorem ite_out {c : Prop} [Decidable c] {m : M D} {rr : Rw} {F H : Hp} {w : W} {Q : VK} (o : Out PV K rr F H ((if c then m else bad) w) Q) : c ∧ Out PV K rr F H (m w) Q := by
  by_cases h : c
  · rw [if_pos h] at o; exact ⟨h, o⟩
  · rw [if_neg h] at o; exact o.elim
theorem v_mul : VR2 K (rMulAll K) (binD .mul) := fun {rr F H w x y a b Q} s k p q o => by
  cases a <;> cases b <;> first | exact o.elim | skip
  · obtain ⟨hc, o⟩ := ite_out o
    refine .inl ⟨_, _, p, q, ?_, fin s k o rfl⟩
    simpa [big, CMul] using hc
  · obtain ⟨⟨h1, h2, h3⟩, o⟩ := ite_out o
    obtain ⟨z1, l1, xs, rfl, e1, r1⟩ := p.lst
    refine .inr (.inr ⟨l1, _, xs, rfl, q, s _ _ e1, by omega, by omega, ?_, fun p hp => finL s k o hp ?_ (r1.rep _)⟩)
    · rw [← r1.length, h3, sizeLine_eq]; omega
    · rw [PyProof.Rows.lm_len_rep_flat, h3, sizeLine_eq]; omega
  · obtain ⟨⟨h1, h2, h3⟩, o⟩ := ite_out o
    have p' := p
    obtain ⟨z1, l1, xs, rfl, e1, r1⟩ := p.tup
    obtain ⟨v, rfl⟩ : ∃ v, xs = [v] := List.length_eq_one_iff.mp (by rw [← r1.length, h3])
    refine .inr (.inl ⟨l1, _, v, rfl, q, SqT.of (s _ _ e1), h1, h2, fun e => ?_, fun e p hp => finT s k o hp ?_ (r1.rep _)⟩)
    · subst e
      simp only [show (1 : Int).toNat = 1 from rfl, List.replicate_one, List.flatten_cons, List.flatten_nil, List.append_nil] at o
      exact fin s k o p'
    · rw [PyProof.Rows.lm_len_rep_flat, h3, sizeLine_eq]; omega
theorem v_fdiv : VR2 K (rI CDiv fun i j => .int (i / j)) (binD .fdiv) := fun {rr F H w x y a b Q} s k p q o => by
  cases a <;> cases b <;> first | exact o.elim | skip
  obtain ⟨hc, o⟩ := ite_out o
  exact ⟨_, _, p, q, hc, fin s k o rfl⟩
theorem v_mod : VR2 K (rI (fun _ j => 0 < j) fun i j => .int (i % j)) (binD .mod) := fun {rr F H w x y a b Q} s k p q o => by
  cases a <;> cases b <;> first | exact o.elim | skip
  obtain ⟨hc, o⟩ := ite_out o
  exact ⟨_, _, p, q, hc, fin s k o rfl⟩
theorem v_pow : VR2 K (rI CPow fun i j => .int (i ^ j.toNat)) (binD .pow) := fun {rr F H w x y a b Q} s k p q o => by
  cases a <;> cases b <;> first | exact o.elim | skip
  obtain ⟨hc, o⟩ := ite_out o
  exact ⟨_, _, p, q, hc, fin s k o rfl⟩
/-! comparisons -/
theorem v_eq : VR2 K (rEqD K) (cmpD .eq) := fun {rr F H w x y a b Q} s k p q o => by
  obtain ⟨hc, o⟩ := ite_out o
  rw [Bool.and_eq_true] at hc
  exact ⟨a, b, (Rp.mono s _ _ p).dp, (Rp.mono s _ _ q).dp, hc.1, hc.2, fin s k o rfl⟩
theorem v_ne : VR2 K (rNeD K) (cmpD .ne) := fun {rr F H w x y a b Q} s k p q o => by
  obtain ⟨hc, o⟩ := ite_out o
  rw [Bool.and_eq_true] at hc
  exact ⟨a, b, (Rp.mono s _ _ p).dp, (Rp.mono s _ _ q).dp, hc.1, hc.2, fin s k o rfl⟩
theorem v_lt : VR2 K (rI0 fun i j => .bl (decide (i < j))) (cmpD .lt) := fun {rr F H w x y a b Q} s k p q o => by
  cases a <;> cases b <;> first | exact o.elim | skip
  exact ⟨_, _, p, q, fin s k o rfl⟩
theorem v_le : VR2 K (rI0 fun i j => .bl (decide (i ≤ j))) (cmpD .le) := fun {rr F H w x y a b Q} s k p q o => by
  cases a <;> cases b <;> first | exact o.elim | skip
  exact ⟨_, _, p, q, fin s k o rfl⟩
theorem v_gt : VR2 K (rI0 fun i j => .bl (decide (j < i))) (cmpD .gt) := fun {rr F H w x y a b Q} s k p q o => by
  cases a <;> cases b <;> first | exact o.elim | skip
  exact ⟨_, _, p, q, fin s k o rfl⟩
theorem v_ge : VR2 K (rI0 fun i j => .bl (decide (j ≤ i))) (cmpD .ge) := fun {rr F H w x y a b Q} s k p q o => by
  cases a <;> cases b <;> first | exact o.elim | skip
  exact ⟨_, _, p, q, fin s k o rfl⟩
theorem isNone_rp {F : Hp} {a : D} {x : V} (p : Rp F a x) : decide (x = .non) = isNone a := by
  cases a with
  | none => rw [show x = .non from p]; rfl
  | bool b => rw [show x = .bl b from p]; rfl
  | int b => rw [show x = .int b from p]; rfl
  | str b => rw [show x = .str b from p]; rfl
  | list ds => obtain ⟨_, l, xs, e, _⟩ := p.lst; rw [e]; rfl
  | tuple ds => obtain ⟨_, l, xs, e, _⟩ := p.tup; rw [e]; rfl
  | dict _ => exact p.elim
theorem v_is : VR2 K (fun x y H Q => y = .non ∧ Q (.bl (decide (x = .non))) H) (cmpD .is_) := fun {rr F H w x y a b Q} s k p q o => by
  cases b <;> first | (cases a <;> exact o.elim) | skip
  refine ⟨q, fin s k (show Out PV K rr F H (.ok (.bool (isNone a)) w) Q by cases a <;> exact o) (by rw [isNone_rp p]; rfl)⟩
theorem v_isnot : VR2 K (fun x y H Q => y = .non ∧ Q (.bl (!decide (x = .non))) H) (cmpD .isnot) := fun {rr F H w x y a b Q} s k p q o => by
  cases b <;> first | (cases a <;> exact o.elim) | skip
  refine ⟨q, fin s k (show Out PV K rr F H (.ok (.bool (!isNone a)) w) Q by cases a <;> exact o) (by rw [isNone_rp p]; rfl)⟩
theorem PSr.dp {rr : Rw} {H0 F H : Hp} {d : D} {v : V} (s : Sub F H) (p : PSr rr H0 F H d v) : L2.Dp K H v d := by
  rcases p with p | ⟨p, vs, l, rfl, rfl, h3, h4, h5, h6⟩
  · exact (Rp.mono s _ _ p).dp
  · exact .lst (SqL.of h3) (RpL.mono s _ _ h4).dp
def rInAll (K : PySem.W.Frag) (neg : Bool) : R2 := fun x y H Q => ∃ (d : D) (ds : List D) (b : Bool), L2.Dp K H x d ∧ L2.Dp K H y (cond b (.list ds) (.tuple ds)) ∧ SeqAt.shaped d = true ∧ SeqAt.shaped (.list ds) = true ∧ Q (.bl (if neg then !(ds.any fun z => PyData.eqv z d) else ds.any fun z => PyData.eqv z d)) H
theorem op_inAll {X : Cx} (hu : X.A.units + 65 < cLine) : OpR X (compareOp .In) (rInAll X.K false) := by
  intro pins s σ H x y v u Q I rx ry h
  obtain ⟨d, ds, b, hd, he, sd, se, q⟩ := h
  obtain ⟨as, r1⟩ := L2.Dp.reads I d x v hd rx
  obtain ⟨bs, r2⟩ := L2.Dp.reads I _ y u he ry
  cases b with
  | true => exact SeqAt.in_list_reads r2 r1 (SeqAt.canLay_of_shaped se) (SeqAt.canLay_of_shaped sd) (room_in_shaped sd hu) ⟨.bl _, H, I, rfl, q⟩
  | false => exact SeqAt.in_tuple_reads r2 r1 (SeqAt.canLay_of_shaped se) (SeqAt.canLay_of_shaped sd) (room_in_shaped sd hu) ⟨.bl _, H, I, rfl, q⟩
theorem op_notinAll {X : Cx} (hu : X.A.units + 65 < cLine) : OpR X (compareOp .NotIn) (rInAll X.K true) := by
  intro pins s σ H x y v u Q I rx ry h
  obtain ⟨d, ds, b, hd, he, sd, se, q⟩ := h
  obtain ⟨as, r1⟩ := L2.Dp.reads I d x v hd rx
  obtain ⟨bs, r2⟩ := L2.Dp.reads I _ y u he ry
  cases b with
  | true => exact SeqAt.notIn_list_reads r2 r1 (SeqAt.canLay_of_shaped se) (SeqAt.canLay_of_shaped sd) (room_in_shaped sd hu) ⟨.bl _, H, I, rfl, q⟩
  | false => exact SeqAt.notIn_tuple_reads r2 r1 (SeqAt.canLay_of_shaped se) (SeqAt.canLay_of_shaped sd) (room_in_shaped sd hu) ⟨.bl _, H, I, rfl, q⟩
theorem shaped_tl (ds : List D) : SeqAt.shaped (.tuple ds) = SeqAt.shaped (.list ds) := by unfold SeqAt.shaped; simp [PyData.canLay0, PyData.depth]
theorem v_in : VR2s K (rInAll K false) (cmpD .in_) := fun {rr F H H0 w x y a b Q} s k p q o => by
  cases b <;> first | (cases a <;> exact o.elim) | skip
  · rename_i ds
    obtain ⟨hc, o⟩ := ite_out (c := (SeqAt.shaped a && SeqAt.shaped (.list ds)) = true) (m := ret (.bool (ds.any fun z => PyData.eqv z a))) (by cases a <;> exact o)
    rw [Bool.and_eq_true] at hc
    exact ⟨a, ds, true, (Rp.mono s _ _ p).dp, q.dp s, hc.1, hc.2, fin s k o rfl⟩
  · rename_i ds
    obtain ⟨hc, o⟩ := ite_out (c := (SeqAt.shaped a && SeqAt.shaped (.tuple ds)) = true) (m := ret (.bool (ds.any fun z => PyData.eqv z a))) (by cases a <;> exact o)
    rw [Bool.and_eq_true, shaped_tl] at hc
    exact ⟨a, ds, false, (Rp.mono s _ _ p).dp, q.dp s, hc.1, hc.2, fin s k o rfl⟩
theorem v_notin : VR2s K (rInAll K true) (cmpD .notin) := fun {rr F H H0 w x y a b Q} s k p q o => by
  cases b <;> first | (cases a <;> exact o.elim) | skip
  · rename_i ds
    obtain ⟨hc, o⟩ := ite_out (c := (SeqAt.shaped a && SeqAt.shaped (.list ds)) = true) (m := ret (.bool (!(ds.any fun z => PyData.eqv z a)))) (by cases a <;> exact o)
    rw [Bool.and_eq_true] at hc
    exact ⟨a, ds, true, (Rp.mono s _ _ p).dp, q.dp s, hc.1, hc.2, fin s k o rfl⟩
  · rename_i ds
    obtain ⟨hc, o⟩ := ite_out (c := (SeqAt.shaped a && SeqAt.shaped (.tuple ds)) = true) (m := ret (.bool (!(ds.any fun z => PyData.eqv z a)))) (by cases a <;> exact o)
    rw [Bool.and_eq_true, shaped_tl] at hc
    exact ⟨a, ds, false, (Rp.mono s _ _ p).dp, q.dp s, hc.1, hc.2, fin s k o rfl⟩
end
end Dn
namespace Dn
open PySem PySem.Spec PyProof.Rows L2
set_option autoImplicit true
section
variable {X : Cx} {e a b c : Expr} {es rest : List Expr} {f fa fb fc fs : Ev → M D} {ft : Ev → M Bool} {pos : Pos}
/-! ### unary, and, or, if -/
theorem s_neg (ha : DE X a fa) : DE X (.UnaryOp .USub a pos) (fun ρ => bnd (fa ρ) negD) :=
  PE_imp (pe_un un_neg ha) fun σ H Q ⟨rr, F, ρ, w, s, o⟩ => ⟨rr, F, ρ, w, s, (Out.bind (P := PV) o).mono fun x H1 ⟨F1, d, w1, n1, p1, o1⟩ => by
    cases d with
    | int i => exact ⟨i, p1, fin n1.inn n1.row o1 rfl⟩
    | _ => exact o1.elim⟩
theorem s_not (ha : DE X a fa) : DE X (.UnaryOp .Not a pos) (fun ρ => bnd (fa ρ) notD) :=
  PE_imp (pe_not ha) fun σ H Q ⟨rr, F, ρ, w, s, o⟩ => ⟨rr, F, ρ, w, s, (Out.bind (P := PV) o).mono fun x H1 ⟨F1, d, w1, n1, p1, o1⟩ => by
    cases d with
    | bool i => exact ⟨i, p1, fin n1.inn n1.row o1 rfl⟩
    | _ => exact o1.elim⟩
theorem t_not (ha : DT X a fun ρ => bnd (fa ρ) asB) : DT X (.UnaryOp .Not a pos) (fun ρ => bnd (bnd (fa ρ) notD) asB) :=
  PT_imp (pt_not ha) fun σ H Q ⟨rr, F, ρ, w, s, o⟩ => ⟨rr, F, ρ, w, s, by
    dsimp only at o ⊢
    rw [bnd_bnd] at o
    revert o
    unfold bnd
    cases fa ρ w with
    | exc _ _ _ => exact fun o => o
    | bad => exact fun o => o
    | ok d w' =>
      cases d with
      | bool k =>
        intro o k' F' H' n p
        exact o _ F' H' n (by rw [show k = k' from p]; exact rfl)
      | _ => exact fun o => o.elim⟩
theorem s_and (ha : DE X a fa) (hb : DE X (.BoolOp .And (b :: rest) pos) fb) : DE X (.BoolOp .And (a :: b :: rest) pos) (fun ρ => bnd (bnd (fa ρ) asB) fun k => if k then fb ρ else ret (.bool false)) :=
  PE_imp (pe_and ha hb) fun σ H Q ⟨rr, F, ρ, w, s, o⟩ => ⟨rr, F, ρ, w, s, by
    dsimp only at o
    rw [bnd_bnd] at o
    refine (Out.bind (P := PV) o).mono fun x H1 ⟨F1, d, w1, n1, p1, o1⟩ => ?_
    cases d with
    | bool k =>
      refine ⟨k, p1, ?_⟩
      cases k with
      | true => exact ⟨rr, F1, ρ, w1, s.nx n1, o1⟩
      | false => exact fin n1.inn n1.row o1 rfl
    | _ => exact o1.elim⟩
theorem s_or (ha : DE X a fa) (hb : DE X (.BoolOp .Or (b :: rest) pos) fb) : DE X (.BoolOp .Or (a :: b :: rest) pos) (fun ρ => bnd (bnd (fa ρ) asB) fun k => if k then ret (.bool true) else fb ρ) :=
  PE_imp (pe_or ha hb) fun σ H Q ⟨rr, F, ρ, w, s, o⟩ => ⟨rr, F, ρ, w, s, by
    dsimp only at o
    rw [bnd_bnd] at o
    refine (Out.bind (P := PV) o).mono fun x H1 ⟨F1, d, w1, n1, p1, o1⟩ => ?_
    cases d with
    | bool k =>
      refine ⟨k, p1, ?_⟩
      cases k with
      | false => exact ⟨rr, F1, ρ, w1, s.nx n1, o1⟩
      | true => exact fin n1.inn n1.row o1 rfl
    | _ => exact o1.elim⟩
theorem s_one {op} (h : DE X a f) : DE X (.BoolOp op [a] pos) f := pe_one h
abbrev DW (X : Cx) (e : Expr) (f : Ev → M Bool) : Prop := PW X e (tOut PB X.K f)
theorem PW_imp {t t' : TT} (h : PW X e t) (i : ∀ σ H Q, t' σ H Q → t σ H Q) : PW X e t' := ⟨fun wh pins s σ H Q I q => h.run wh pins s σ H Q I (i σ H Q q)⟩
theorem w_and1 (ha : DT X a ft) : DW X (.BoolOp .And [a] pos) ft := pw_and1 ha
theorem w_or1 (ha : DT X a ft) : DW X (.BoolOp .Or [a] pos) ft := pw_or1 ha
theorem w_and (ha : DT X a fun ρ => bnd (fa ρ) asB) (hb : DW X (.BoolOp .And (b :: rest) pos) fun ρ => bnd (fb ρ) asB) :
    DW X (.BoolOp .And (a :: b :: rest) pos) (fun ρ => bnd (bnd (bnd (fa ρ) asB) fun k => if k then fb ρ else ret (.bool false)) asB) :=
  PW_imp (pw_and ha hb) fun σ H Q ⟨rr, F, ρ, w, s, o⟩ => ⟨rr, F, ρ, w, s, by
    dsimp only at o
    rw [bnd_bnd] at o
    refine (Out.bind (P := PB) o).mono fun x H1 ⟨F1, d, w1, n1, p1, o1⟩ => ?_
    cases (show d = x from p1)
    cases x with
    | true => exact ⟨rr, F1, ρ, w1, s.nx n1, o1⟩
    | false => exact o1 false F1 H1 (Nx.refl n1.inn n1.row) rfl⟩
theorem w_or (ha : DT X a fun ρ => bnd (fa ρ) asB) (hb : DW X (.BoolOp .Or (b :: rest) pos) fun ρ => bnd (fb ρ) asB) :
    DW X (.BoolOp .Or (a :: b :: rest) pos) (fun ρ => bnd (bnd (bnd (fa ρ) asB) fun k => if k then ret (.bool true) else fb ρ) asB) :=
  PW_imp (pw_or ha hb) fun σ H Q ⟨rr, F, ρ, w, s, o⟩ => ⟨rr, F, ρ, w, s, by
    dsimp only at o
    rw [bnd_bnd] at o
    refine (Out.bind (P := PB) o).mono fun x H1 ⟨F1, d, w1, n1, p1, o1⟩ => ?_
    cases (show d = x from p1)
    cases x with
    | false => exact ⟨rr, F1, ρ, w1, s.nx n1, o1⟩
    | true => exact o1 true F1 H1 (Nx.refl n1.inn n1.row) rfl⟩
theorem s_ite (hc : DT X c ft) (ha : DE X a fa) (hb : DE X b fb) : DE X (.IfExp c a b pos) (fun ρ => bnd (ft ρ) fun k => if k then fa ρ else fb ρ) :=
  PE_imp (pe_ifExp hc ha hb) fun σ H Q ⟨rr, F, ρ, w, s, o⟩ => ⟨rr, F, ρ, w, s, (Out.bind (P := PB) o).mono fun x H1 ⟨F1, d, w1, n1, p1, o1⟩ => by
    cases (show d = x from p1)
    cases x with
    | true => exact ⟨rr, F1, ρ, w1, s.nx n1, o1⟩
    | false => exact ⟨rr, F1, ρ, w1, s.nx n1, o1⟩⟩
/-! ### argument lists, displays -/
theorem a_nil : DA X [] (fun _ => ret (.dict [])) := PA_imp pa_nil fun σ H Q ⟨rr, F, ρ, w, s, o⟩ => o [] F H (Nx.refl s.sub s.row) rfl
theorem a_cons (ha : DE X a fa) (hr : DA X es f) (hs : starEach (a :: es) X.env = (false, eval a X.env) :: starEach es X.env) : DA X (a :: es) (fun ρ => bnd (fa ρ) fun x => bnd (f ρ) fun xs => ret (.list (x :: listOf xs))) :=
  PA_imp (pa_cons ha hr hs) fun σ H Q ⟨rr, F, ρ, w, s, o⟩ => ⟨rr, F, ρ, w, s, (Out.bind (P := PV) o).mono fun x H1 ⟨F1, d, w1, n1, p1, o1⟩ =>
    ⟨rr, F1, ρ, w1, s.nx n1, (Out.bind (P := PL) o1).mono fun xs H2 ⟨F2, ds, w2, n2, p2, o2⟩ => o2 _ F2 H2 (Nx.refl n2.inn n2.row) (RpL.cons (Rp.mono n2.sub _ _ p1) p2)⟩⟩
theorem a_star {p : Pos} (ha : DS X a fa) (hr : DA X es f) (hs : starEach (.Starred a p :: es) X.env = (true, eval a X.env) :: starEach es X.env) : DA X (.Starred a p :: es) (fun ρ => bnd (fa ρ) fun x => bnd (itemsOf x) fun ds => bnd (f ρ) fun xs => ret (.list (ds ++ listOf xs))) :=
  PA_imp (StX.pa_star ha hr hs) fun σ H Q ⟨rr, F, ρ, w, s, o⟩ => ⟨rr, F, ρ, w, s, (Out.bind (P := PSr) o).mono fun x H1 ⟨F1, d, w1, n1, p1, o1⟩ => by
    have go : ∀ (q : Addr) (ds : List D) (vs : List V), RpL F1 ds vs → itemsOf d = ret ds → (SqT X.K H1 q vs ∨ SqL X.K H1 q vs) → x = .ref q →
        ∃ p xs, x = V.ref p ∧ (SqT X.K H1 p xs ∨ SqL X.K H1 p xs) ∧ tOut PL X.K f σ H1 fun ys H2 => Q (xs ++ ys) H2 := fun q ds vs l e sq ex => by
      rw [e] at o1
      exact ⟨q, vs, ex, sq, rr, F1, ρ, w1, s.nx n1, (Out.bind (P := PL) o1).mono fun xs H2 ⟨F2, es, w2, n2, p2, o2⟩ => o2 _ F2 H2 (Nx.refl n2.inn n2.row) (RpL.append (RpL.mono n2.sub _ _ l) p2)⟩
    rcases p1 with p1 | ⟨q, vs, l, rfl, rfl, h3, h4, h5, h6⟩
    · cases d <;> first | exact o1.elim | skip
      · obtain ⟨_, q, vs, e, h, l⟩ := p1.lst
        exact go q _ vs l rfl (.inr (SqL.of (n1.inn _ _ h))) e
      · obtain ⟨_, q, vs, e, h, l⟩ := p1.tup
        exact go q _ vs l rfl (.inl (SqT.of (n1.inn _ _ h))) e
    · exact go q l vs h4 rfl (.inr (SqL.of h3)) rfl⟩
theorem s_tup {x1} (h : DA X es f) : DE X (.Tuple es x1 pos) (fun ρ => bnd (f ρ) fun xs => if (listOf xs).length ≤ sizeLine then ret (.tuple (listOf xs)) else bad) :=
  PE_imp (pe_tup h) fun σ H Q ⟨rr, F, ρ, w, s, o⟩ => ⟨rr, F, ρ, w, s, (Out.bind (P := PL) o).mono fun xs H1 ⟨F1, d, w1, n1, p1, o1⟩ => by
    obtain ⟨hc, o1⟩ := ite_out o1
    exact ⟨by rw [← p1.length]; exact hc, fun p hp => finT n1.inn n1.row o1 hp hc p1⟩⟩
theorem f_list (h : DA X es f) : DF X (.List es pos) (fun ρ => bnd (f ρ) fun xs => if (listOf xs).length ≤ sizeLine then ret (.list (listOf xs)) else bad) :=
  PE_imp (pe_lst h) fun σ H Q ⟨rr, F, ρ, w, s, o⟩ => ⟨rr, F, ρ, w, s, (Out.bind (P := PL) (P' := PF) o).mono fun xs H1 ⟨F1, d, w1, n1, p1, o1⟩ => by
    by_cases hc : (listOf d).length ≤ sizeLine
    · rw [if_pos hc] at o1
      refine ⟨by rw [← p1.length]; exact hc, fun p hp => ?_⟩
      have n := Nx.fresh (K := X.K) (r := rr) (w := w1) (o := .lst xs) n1.inn n1.row hp
      refine o1 _ F1 _ n ⟨p, xs, listOf d, rfl, rfl, upd_same, p1, ?_, hp, fun e => ?_, hc⟩
      · cases q : F1 p with
        | none => rfl
        | some o => rw [n1.inn p o q] at hp; cases hp
      · obtain ⟨o, q⟩ := n1.row.there e
        rw [q] at hp; cases hp
    · rw [if_neg hc] at o1; exact o1.elim⟩
/-! ### subscripts -/
theorem atI_rp {F : Hp} {ds : List D} {vs : List V} {i : Int} {d : D} (l : RpL F ds vs) (h : atI ds i = some d) : ∃ v, atI vs i = some v ∧ Rp F d v := by
  unfold atI at h ⊢
  rw [← l.length]
  cases e : ixN ds.length i with
  | none => rw [e] at h; cases h
  | some j =>
    rw [e] at h
    exact l.get h
theorem s_ix (ha : DS X a fa) (hb : DE X b fb) (hs : PlainIx b) : DE X (.Subscript a b pos) (fun ρ => bnd (fa ρ) fun x => bnd (fb ρ) fun y => ixD x y) :=
  PE_imp (pe_ix ix_seq ha hb hs) fun σ H Q ⟨rr, F, ρ, w, s, o⟩ => ⟨rr, F, ρ, w, s, (Out.bind (P := PSr) o).mono fun x H1 ⟨F1, d, w1, n1, p1, o1⟩ =>
    ⟨rr, F1, ρ, w1, s.nx n1, (Out.bind (P := PV) o1).mono fun y H2 ⟨F2, u, w2, n2, p2, o2⟩ => by
      have p1 := p1.step n2
      have lst : ∀ (q : Addr) (ds : List D) (vs : List V), RpL F2 ds vs → d = .list ds → SqL X.K H2 q vs → x = .ref q → rIx X.K x y H2 Q := fun q ds vs l e sq ex => by
        subst e
        cases u <;> first | exact o2.elim | skip
        rename_i i
        cases k : atI ds i with
        | none => rw [show ixD (.list ds) (.int i) = (match atI ds i with | some d => ret d | none => bad) from rfl, k] at o2; exact o2.elim
        | some z =>
          rw [show ixD (.list ds) (.int i) = (match atI ds i with | some d => ret d | none => bad) from rfl, k] at o2
          obtain ⟨v, h1, h2⟩ := atI_rp l k
          exact .inl ⟨q, vs, i, v, ex, p2, sq, h1, fin n2.inn n2.row o2 h2⟩
      rcases p1 with p1 | ⟨q, vs, l, rfl, rfl, h3, h4, h5, h6⟩
      · cases d with
        | str z =>
          cases u with
          | int i =>
            obtain ⟨hc, o2⟩ := ite_out (c := z.length ≤ sizeLine) (m := match atI z.cps.toList i with | some c => ret (.str ⟨#[c]⟩) | none => bad) o2
            cases k : atI z.cps.toList i with
            | none => rw [k] at o2; exact o2.elim
            | some ch =>
              rw [k] at o2
              exact .inr (.inr ⟨z, i, ch, p1, p2, hc, k, fin n2.inn n2.row o2 rfl⟩)
          | _ => exact o2.elim
        | list ds =>
          obtain ⟨_, q, vs, e, h, l⟩ := p1.lst
          exact lst q _ vs l rfl (SqL.of (n2.inn _ _ h)) e
        | tuple ds =>
          obtain ⟨_, q, vs, e, h, l⟩ := p1.tup
          cases u with
          | int i =>
            cases k : atI ds i with
            | none => rw [show ixD (.tuple ds) (.int i) = (match atI ds i with | some d => ret d | none => bad) from rfl, k] at o2; exact o2.elim
            | some z =>
              rw [show ixD (.tuple ds) (.int i) = (match atI ds i with | some d => ret d | none => bad) from rfl, k] at o2
              obtain ⟨v, h1, h2⟩ := atI_rp l k
              exact .inr (.inl ⟨q, vs, i, v, e, p2, SqT.of (n2.inn _ _ h), h1, fin n2.inn n2.row o2 h2⟩)
          | _ => exact o2.elim
        | _ => cases u <;> exact o2.elim
      · exact lst q l vs h4 rfl (SqL.of h3) rfl⟩⟩
theorem cutL_length {α : Type} (xs : List α) (lo hi : Option Int) : (cutL xs lo hi).length ≤ xs.length := by
  unfold cutL
  rw [List.length_take, List.length_drop]
  omega
theorem cutL_whole {α : Type} {xs : List α} {lo hi : Option Int} (h1 : HT.sIx xs.length 0 lo = 0) (h2 : HT.sIx xs.length xs.length hi = xs.length) : cutL xs lo hi = xs := by
  unfold cutL; rw [h1, h2]; simp
abbrev DO (X : Cx) (e : Option Expr) (f : Ev → M (Option Int)) : Prop := PO X e (tOut (fun _ _ _ _ (a b : Option Int) => a = b) X.K f)
instance : Mono (fun _ _ _ _ (a b : Option Int) => a = b : Kind (Option Int) (Option Int)) := ⟨fun _ h => h⟩
theorem o_none : DO X none (fun _ => bnd (ret (.dict [])) partD) := ⟨fun pins s σ H Q I q => po_none.run pins s σ H Q I (by
  obtain ⟨rr, F, ρ, w, s, o⟩ := q
  exact o _ F H (Nx.refl s.sub s.row) rfl)⟩
theorem o_some (h : DE X e f) : DO X (some e) (fun ρ => bnd (f ρ) partD) := ⟨fun pins s σ H Q I q => (po_some h).run pins s σ H Q I (by
  obtain ⟨rr, F, ρ, w, s, o⟩ := q
  refine ⟨rr, F, ρ, w, s, (Out.bind (P := PV) o).mono fun x H1 ⟨F1, d, w1, n1, p1, o1⟩ => ?_⟩
  cases d with
  | int i => exact ⟨i, p1, o1 _ F1 H1 (Nx.refl n1.inn n1.row) rfl⟩
  | dict ds => exact (show False from p1).elim
  | _ => exact o1.elim)⟩
end
end Dn
namespace Dn
open PySem PySem.Spec PyProof.Rows L2
set_option autoImplicit true
/-- a value with its address: the list or tuple read -/
theorem PSr.seq {K : PySem.W.Frag} {rr : Rw} {H0 F H : Hp} {d : D} {v : V} (s : Sub F H) (p : PSr rr H0 F H d v) :
    (∃ q vs l, v = .ref q ∧ d = .list l ∧ SqL K H q vs ∧ RpL F l vs ∧ l.length ≤ sizeLine) ∨ (∃ q vs l, v = .ref q ∧ d = .tuple l ∧ SqT K H q vs ∧ RpL F l vs ∧ Rp F d v ∧ l.length ≤ sizeLine) ∨ (flatD d = true ∧ Rp F d v) := by
  rcases p with p | ⟨p, vs, l, h1, h2, h3, h4, h5, h6⟩
  · cases d with
    | list ds =>
      obtain ⟨z, q, vs, e, h, l⟩ := p.lst
      exact .inl ⟨q, vs, ds, e, rfl, SqL.of (s _ _ h), l, z⟩
    | tuple ds =>
      have p' := p
      obtain ⟨z, q, vs, e, h, l⟩ := p.tup
      exact .inr (.inl ⟨q, vs, ds, e, rfl, SqT.of (s _ _ h), l, p', z⟩)
    | dict _ => exact p.elim
    | _ => exact .inr (.inr ⟨rfl, p⟩)
  · exact .inl ⟨p, vs, l, h1, h2, SqL.of h3, h4, h6⟩
section
variable {X : Cx} {e a b c : Expr} {es rest : List Expr} {f fa fb fc fs : Ev → M D} {fl fh : Ev → M (Option Int)} {ft : Ev → M Bool} {pos p p2 : Pos} {lo hi : Option Expr}
def rSlAll (K : PySem.W.Frag) : V → Option Int → Option Int → Hp → VK → Prop := fun x lo hi H Q => rSlL K x lo hi H Q ∨ rSlA K x lo hi H Q
theorem sl_all : SlR X (rSlAll X.K) := SlR.or sl_list sl_tupA
theorem s_slice (ha : DS X a fa) (hl : DO X lo fl) (hh : DO X hi fh) : DE X (.Subscript a (.Slice lo hi none p2) pos) (fun ρ => bnd (fa ρ) fun x => bnd (fl ρ) fun l => bnd (fh ρ) fun u => sliceD x l u) :=
  PE_imp (pe_slice sl_all ha hl hh) fun σ H Q ⟨rr, F, ρ, w, s, o⟩ => ⟨rr, F, ρ, w, s, (Out.bind (P := PSr) o).mono fun x H1 ⟨F1, d, w1, n1, p1, o1⟩ =>
    ⟨rr, F1, ρ, w1, s.nx n1, (Out.bind (P := fun _ _ _ _ (a b : Option Int) => a = b) o1).mono fun l H2 ⟨F2, l', w2, n2, p2, o2⟩ =>
      ⟨rr, F2, ρ, w2, (s.nx n1).nx n2, (Out.bind (P := fun _ _ _ _ (a b : Option Int) => a = b) o2).mono fun u H3 ⟨F3, u', w3, n3, p3, o3⟩ => by
        have p2 : l' = l := p2
        have p3 : u' = u := p3
        subst p2 p3
        have p1 := (p1.step n2).step n3
        rcases p1.seq (K := X.K) n3.inn with ⟨q, vs, ds, rfl, rfl, sq, l, z⟩ | ⟨q, vs, ds, rfl, rfl, sq, l, pp, z⟩ | ⟨k, _⟩
        · exact .inl ⟨q, vs, rfl, sq, fun p hp => finL n3.inn n3.row o3 hp (Nat.le_trans (cutL_length _ _ _) z) (l.cut _ _)⟩
        · refine .inr ⟨q, vs, rfl, sq, fun ⟨h1, h2⟩ => ?_, fun _ p hp => finT n3.inn n3.row o3 hp (Nat.le_trans (cutL_length _ _ _) z) (l.cut _ _)⟩
          rw [← l.length] at h1 h2
          have o3' : Out PV X.K rr F3 H3 (.ok (.tuple (cutL ds l' u')) w3) Q := o3
          rw [cutL_whole h1 h2] at o3'
          exact fin n3.inn n3.row o3' pp
        · cases d <;> first | exact o3.elim | cases k⟩⟩⟩
/-! ### calls of defs -/
def spD (K : PySem.W.Frag) (n : Nat) (f : List D → M D) : Sp := fun vs H Q _ => vs.length = n ∧ ∃ (r : Rw) (F : Hp) (ds : List D) (w : W), Sub F H ∧ RowOk K r F H w ∧ RpL F ds vs ∧ Out PV K r F H (f ds w) Q
def spR (K : PySem.W.Frag) (n : Nat) (f : List D → M D) : Sp := fun vs H Q _ => vs.length = n + 1 ∧ ∃ a t us F ds w, vs = .ref a :: us ∧ Sub F H ∧ RowOk K (some (a, t)) F H w ∧ RpL F ds us ∧ Out PV K (some (a, t)) F H (f ds w) Q
structure CallOk (P : Program) (w : World) (K : PySem.W.Frag) (mg : Str → Option Value) (base : Heap) (k : Nat) (x : Str) (sp : Sp) : Prop where
  ok : ∃ fa fd ps, FnOk P w K mg base CX0 k fa fd ps sp ∧ mg x = some (.ref fa) ∧ PySem.W.keepIn K (.ref fa) = true ∧ Binds K fd ps []
theorem s_call {k n : Nat} {x : Str} {g : List D → M D} (F : CallOk X.prog X.w X.K X.mg X.base k x (spD X.K n g)) (hr : Room k X.A) (hg : Gl X x) (hdb : (x == ("__debug__" : Str)) = false) (ha : DA X (a :: es) fa)
    (he : starEach (a :: es) X.env = (false, eval a X.env) :: starEach es X.env) (hpl : (backTo pos (starEach es X.env)).any (·.1) = false) :
    DE X (.Call (.Name x p) (a :: es) [] pos) (fun ρ => bnd (fa ρ) fun xs => if (listOf xs).length = n then g (listOf xs) else bad) := by
  obtain ⟨f0, fd, ps, F, hm, hk, hb⟩ := F.ok
  refine PE_imp (pe_call F hr hg hm hk hb .nil pass0 ha hdb he hpl) fun σ H Q ⟨rr, F, ρ, w, s, o⟩ => ⟨rr, F, ρ, w, s, (Out.bind (P := PL) o).mono fun vs H1 ⟨F1, d, w1, n1, p1, o1⟩ => ?_⟩
  obtain ⟨hc, o1⟩ := ite_out o1
  rw [List.append_nil]
  exact ⟨by rw [← p1.length]; exact hc, rr, F1, listOf d, w1, n1.inn, n1.row, p1, o1⟩
theorem s_callR {k n i : Nat} {x rv : Str} {g : List D → M D} {pr : Pos} (F : CallOk X.prog X.w X.K X.mg X.base k x (spR X.K n g)) (hr : Room k X.A) (hg : Gl X x) (hdb : (x == ("__debug__" : Str)) = false)
    (hN : X.N[i]? = some rv) (hv : Vis X.env.scope rv) (hd : (rv == ("__debug__" : Str)) = false) (hcd : (rv == ("__classdict__" : Str)) = false) (ha : DA X es fa) (hpl : (backTo pos (starEach es X.env)).any (·.1) = false) :
    DE X (.Call (.Name x p) (.Name rv pr :: es) [] pos) (fun ρ => match ρ[i]? with | some .row => bnd (fa ρ) fun xs => if (listOf xs).length = n then g (listOf xs) else bad | _ => bad) := by
  obtain ⟨f0, fd, ps, F, hm, hk, hb⟩ := F.ok
  refine PE_imp (pe_call F hr hg hm hk hb .nil pass0 (pa_cons (pe_var hN hv hd hcd) ha) hdb (by rfl) hpl) fun σ H Q ⟨rr, F, ρ, w, s, o⟩ => ?_
  dsimp only at o
  cases e : ρ[i]? with
  | none => rw [e] at o; exact o.elim
  | some z =>
   rw [e] at o
   cases z with
   | row =>
    obtain ⟨ra, e1, e2⟩ := s.rw i e
    refine ⟨.ref ra, e2, rr, F, ρ, w, s, (Out.bind (P := PL) o).mono fun vs H1 ⟨F1, d, w1, n1, p1, o1⟩ => ?_⟩
    obtain ⟨hc, o1⟩ := ite_out o1
    rw [List.append_nil]
    obtain ⟨⟨ra', t⟩, rfl⟩ : ∃ z, rr = some z := by
      cases rr with
      | none => cases e1
      | some z => exact ⟨z, rfl⟩
    cases (show some ra' = some ra from e1)
    exact ⟨by rw [List.length_cons, ← p1.length, hc], ra, t, vs, F1, listOf d, w1, rfl, n1.inn, n1.row, p1, o1⟩
   | _ => exact o.elim
/-! ### built-ins -/
def VR1 (K : PySem.W.Frag) (r : List V → Hp → VK → Prop) (g : D → M D) : Prop := ∀ {rr : Rw} {F H H0 : Hp} {w : W} {x : V} {a : D} {Q : VK}, Sub F H → RowOk K rr F H w → PSr rr H0 F H a x → Out PV K rr F H (g a w) Q → r [x] H Q
theorem one_of {r : List V → Hp → VK → Prop} {g : D → M D} (v : VR1 X.K r g) : ∀ σ H Q, tOut PV X.K (fun ρ => bnd (fa ρ) g) σ H Q → tCB r (tCons (tOut PSr X.K fa) tNil) σ H Q := fun σ H Q ⟨rr, F, ρ, w, s, o⟩ =>
  ⟨rr, F, ρ, w, s, (Out.bind (P := PSr) o).mono fun x H1 ⟨F1, d, w1, n1, p1, o1⟩ => v n1.inn n1.row p1 o1⟩
theorem s_b1B {id : String} {x : Str} {r : List V → Hp → VK → Prop} {g : D → M D} (hc : CallR X (.builtin id) r) (v : VR1 X.K r g) (hg : Gl X x) (hm : X.mg x = none) (hv : bootBuiltins x = some (.builtin id)) (hn : x ≠ "__name__") (hdb : (x == ("__debug__" : Str)) = false)
    (hs : starEach [a] X.env = (false, eval a X.env) :: starEach [] X.env) (ha : DS X a fa) : DE X (.Call (.Name x p) [a] [] pos) (fun ρ => bnd (fa ρ) g) :=
  PE_imp (pe_callB hc hg hm hv (pa_cons ha pa_nil hs) hn hdb hs) (one_of v)
theorem s_b1T {id : String} {x : Str} {r : List V → Hp → VK → Prop} {g : D → M D} (hc : CallR X (.type id) r) (v : VR1 X.K r g) (hg : Gl X x) (hm : X.mg x = none) (hv : bootBuiltins x = some (.type id)) (hn : x ≠ "__name__") (hdb : (x == ("__debug__" : Str)) = false)
    (hs : starEach [a] X.env = (false, eval a X.env) :: starEach [] X.env) (ha : DS X a fa) : DE X (.Call (.Name x p) [a] [] pos) (fun ρ => bnd (fa ρ) g) :=
  PE_imp (pe_callTy hc hg hm hv (pa_cons ha pa_nil hs) hn hdb hs) (one_of v)
section
variable {K : PySem.W.Frag}
theorem v_len : VR1 K (fun xs H Q => (∃ p ys, xs = [.ref p] ∧ (SqL K H p ys ∨ SqT K H p ys) ∧ Q (.int ys.length) H) ∨ (∃ z, xs = [.str z] ∧ z.length ≤ sizeLine ∧ Q (.int z.length) H)) (b1D .len) := fun {rr F H H0 w x a Q} s k p o => by
  rcases p.seq (K := K) s with ⟨q, vs, ds, rfl, rfl, sq, l, z⟩ | ⟨q, vs, ds, rfl, rfl, sq, l, pp, z⟩ | ⟨kk, p⟩
  · exact .inl ⟨q, vs, rfl, .inl sq, fin s k o (by rw [← l.length]; rfl)⟩
  · exact .inl ⟨q, vs, rfl, .inr sq, fin s k o (by rw [← l.length]; rfl)⟩
  · cases a <;> first | exact o.elim | skip
    · obtain ⟨hc, o⟩ := ite_out o
      exact .inr ⟨_, by rw [show x = .str _ from p], hc, fin s k o rfl⟩
    · cases kk
    · cases kk
theorem v_tuple : VR1 K (fun xs H Q => ∃ p ys, xs = [.ref p] ∧ ((SqL K H p ys ∧ ∀ l, H l = none → Q (.ref l) (upd H l (.tup ys))) ∨ (SqT K H p ys ∧ Q (.ref p) H))) (b1D .tuple) := fun {rr F H H0 w x a Q} s k p o => by
  rcases p.seq (K := K) s with ⟨q, vs, ds, rfl, rfl, sq, l, z⟩ | ⟨q, vs, ds, rfl, rfl, sq, l, pp, z⟩ | ⟨kk, p⟩
  · exact ⟨q, vs, rfl, .inl ⟨sq, fun p hp => finT s k o hp z l⟩⟩
  · exact ⟨q, vs, rfl, .inr ⟨sq, fin s k o pp⟩⟩
  · cases a <;> first | exact o.elim | cases kk
theorem v_sum : VR1 K (rSum K) (b1D .sum) := fun {rr F H H0 w x a Q} s k p o => by
  rcases p.seq (K := K) s with ⟨q, vs, ds, rfl, rfl, sq, l, z⟩ | ⟨q, vs, ds, rfl, rfl, sq, l, pp, z⟩ | ⟨kk, p⟩
  · cases e : intsOf ds with
    | none => rw [show b1D .sum (.list ds) = (match intsOf ds with | some ns => ret (.int ns.sum) | none => bad) from rfl, e] at o; exact o.elim
    | some ns =>
      rw [show b1D .sum (.list ds) = (match intsOf ds with | some ns => ret (.int ns.sum) | none => bad) from rfl, e] at o
      obtain ⟨rfl, _⟩ := intsOf_eq l e
      exact ⟨q, ns, rfl, sq, fin s k o rfl⟩
  · exact o.elim
  · cases a <;> first | exact o.elim | cases kk
theorem maxI_spec : ∀ (ns : List Int) (x : Int), (ns.foldl (fun a b => if b > a then b else a) x) ∈ x :: ns ∧ ∀ y ∈ x :: ns, y ≤ ns.foldl (fun a b => if b > a then b else a) x
  | [], x => by simp
  | n :: ns, x => by
    obtain ⟨h1, h2⟩ := maxI_spec ns (if n > x then n else x)
    rw [List.foldl_cons]
    refine ⟨?_, fun y hy => ?_⟩
    · rcases List.mem_cons.mp h1 with e | m
      · rw [e]; split <;> simp
      · simp [m]
    · have hz := h2 _ List.mem_cons_self
      rcases List.mem_cons.mp hy with rfl | hy
      · exact Int.le_trans (by split <;> omega) hz
      · rcases List.mem_cons.mp hy with rfl | hy
        · exact Int.le_trans (by split <;> omega) hz
        · exact h2 y (List.mem_cons_of_mem _ hy)
theorem minI_spec : ∀ (ns : List Int) (x : Int), (ns.foldl (fun a b => if b < a then b else a) x) ∈ x :: ns ∧ ∀ y ∈ x :: ns, ns.foldl (fun a b => if b < a then b else a) x ≤ y
  | [], x => by simp
  | n :: ns, x => by
    obtain ⟨h1, h2⟩ := minI_spec ns (if n < x then n else x)
    rw [List.foldl_cons]
    refine ⟨?_, fun y hy => ?_⟩
    · rcases List.mem_cons.mp h1 with e | m
      · rw [e]; split <;> simp
      · simp [m]
    · have hz := h2 _ List.mem_cons_self
      rcases List.mem_cons.mp hy with rfl | hy
      · exact Int.le_trans hz (by split <;> omega)
      · rcases List.mem_cons.mp hy with rfl | hy
        · exact Int.le_trans hz (by split <;> omega)
        · exact h2 y (List.mem_cons_of_mem _ hy)
theorem v_max : VR1 K (rMax K) (b1D .max) := fun {rr F H H0 w x a Q} s k p o => by
  rcases p.seq (K := K) s with ⟨q, vs, ds, rfl, rfl, sq, l, z⟩ | ⟨q, vs, ds, rfl, rfl, sq, l, pp, z⟩ | ⟨kk, p⟩
  · rw [show b1D .max (.list ds) = (match intsOf ds with | some (n :: ns) => ret (.int (maxI (n :: ns))) | _ => bad) from rfl] at o
    cases e : intsOf ds with
    | none => rw [e] at o; exact o.elim
    | some ns =>
      rw [e] at o
      cases ns with
      | nil => exact o.elim
      | cons n ns =>
        obtain ⟨rfl, _⟩ := intsOf_eq l e
        refine ⟨q, n :: ns, rfl, sq, by simp, fun m hm hy => ?_⟩
        obtain ⟨h1, h2⟩ := maxI_spec ns n
        have e : m = maxI (n :: ns) := Int.le_antisymm (h2 m hm) (hy _ h1)
        rw [e]
        exact fin s k o rfl
  · exact o.elim
  · cases a <;> first | exact o.elim | cases kk
theorem v_min : VR1 K (rMin K) (b1D .min) := fun {rr F H H0 w x a Q} s k p o => by
  rcases p.seq (K := K) s with ⟨q, vs, ds, rfl, rfl, sq, l, z⟩ | ⟨q, vs, ds, rfl, rfl, sq, l, pp, z⟩ | ⟨kk, p⟩
  · rw [show b1D .min (.list ds) = (match intsOf ds with | some (n :: ns) => ret (.int (minI (n :: ns))) | _ => bad) from rfl] at o
    cases e : intsOf ds with
    | none => rw [e] at o; exact o.elim
    | some ns =>
      rw [e] at o
      cases ns with
      | nil => exact o.elim
      | cons n ns =>
        obtain ⟨rfl, _⟩ := intsOf_eq l e
        refine ⟨q, n :: ns, rfl, sq, by simp, fun m hm hy => ?_⟩
        obtain ⟨h1, h2⟩ := minI_spec ns n
        have e : m = minI (n :: ns) := Int.le_antisymm (hy _ h1) (h2 m hm)
        rw [e]
        exact fin s k o rfl
  · exact o.elim
  · cases a <;> first | exact o.elim | cases kk
theorem v_abs : VR1 K (fun xs H Q => ∃ i, xs = [.int i] ∧ Q (.int (if i < 0 then -i else i)) H) (b1D .abs) := fun {rr F H H0 w x a Q} s k p o => by
  rcases p.seq (K := K) s with ⟨q, vs, ds, rfl, rfl, sq, l, z⟩ | ⟨q, vs, ds, rfl, rfl, sq, l, pp, z⟩ | ⟨kk, p⟩
  · exact o.elim
  · exact o.elim
  · cases a <;> first | exact o.elim | cases kk
    exact ⟨_, by rw [show x = .int _ from p], fin s k o rfl⟩
theorem v_int : VR1 K (fun xs H Q => (∃ i, xs = [.int i] ∧ Q (.int i) H) ∨ ∃ k, xs = [.bl k] ∧ Q (.int (if k then 1 else 0)) H) (b1D .int) := fun {rr F H H0 w x a Q} s k p o => by
  rcases p.seq (K := K) s with ⟨q, vs, ds, rfl, rfl, sq, l, z⟩ | ⟨q, vs, ds, rfl, rfl, sq, l, pp, z⟩ | ⟨kk, p⟩
  · exact o.elim
  · exact o.elim
  · cases a <;> first | exact o.elim | cases kk
    exact .inl ⟨_, by rw [show x = .int _ from p], fin s k o rfl⟩
theorem v_str : VR1 K (fun xs H Q => ∃ i, xs = [.int i] ∧ i.natAbs.log2 < 1920 ∧ Q (.str (toString i)) H) (b1D .str) := fun {rr F H H0 w x a Q} s k p o => by
  rcases p.seq (K := K) s with ⟨q, vs, ds, rfl, rfl, sq, l, z⟩ | ⟨q, vs, ds, rfl, rfl, sq, l, pp, z⟩ | ⟨kk, p⟩
  · exact o.elim
  · exact o.elim
  · cases a <;> first | exact o.elim | cases kk
    obtain ⟨hc, o⟩ := ite_out o
    exact ⟨_, by rw [show x = .int _ from p], hc, fin s k o rfl⟩
theorem v_any : VR1 K (rAny K) (b1D .any) := fun {rr F H H0 w x a Q} s k p o => by
  rcases p.seq (K := K) s with ⟨q, vs, ds, rfl, rfl, sq, l, z⟩ | ⟨q, vs, ds, rfl, rfl, sq, l, pp, z⟩ | ⟨kk, p⟩
  · rw [show b1D .any (.list ds) = (match boolsOf ds with | some bs => ret (.bool (bs.any id)) | none => bad) from rfl] at o
    cases e : boolsOf ds with
    | none => rw [e] at o; exact o.elim
    | some bs =>
      rw [e] at o
      cases boolsOf_eq l e
      exact ⟨q, bs, rfl, sq, fin s k o rfl⟩
  · exact o.elim
  · cases a <;> first | exact o.elim | cases kk
theorem v_all : VR1 K (rAll K) (b1D .all) := fun {rr F H H0 w x a Q} s k p o => by
  rcases p.seq (K := K) s with ⟨q, vs, ds, rfl, rfl, sq, l, z⟩ | ⟨q, vs, ds, rfl, rfl, sq, l, pp, z⟩ | ⟨kk, p⟩
  · rw [show b1D .all (.list ds) = (match boolsOf ds with | some bs => ret (.bool (bs.all id)) | none => bad) from rfl] at o
    cases e : boolsOf ds with
    | none => rw [e] at o; exact o.elim
    | some bs =>
      rw [e] at o
      cases boolsOf_eq l e
      exact ⟨q, bs, rfl, sq, fin s k o rfl⟩
  · exact o.elim
  · cases a <;> first | exact o.elim | cases kk
end
/-- list(..): a new list -/
theorem f_listOf {x : Str} (hg : Gl X x) (hm : X.mg x = none) (hv : bootBuiltins x = some (.type "list")) (hn : x ≠ "__name__") (hdb : (x == ("__debug__" : Str)) = false)
    (hs : starEach [a] X.env = (false, eval a X.env) :: starEach [] X.env) (ha : DS X a fa) : DF X (.Call (.Name x p) [a] [] pos) (fun ρ => bnd (fa ρ) (b1D .list)) :=
  PE_imp (pe_callTy call_list_of hg hm hv (pa_cons ha pa_nil hs) hn hdb hs) fun σ H Q ⟨rr, F, ρ, w, s, o⟩ => ⟨rr, F, ρ, w, s, (Out.bind (P := PSr) (P' := PF) o).mono fun x H1 ⟨F1, d, w1, n1, p1, o1⟩ => by
    have go : ∀ (q : Addr) (vs : List V) (l : List D), RpL F1 l vs → l.length ≤ sizeLine → Out PF X.K rr F1 H1 (.ok (.list l) w1) Q → ∀ p, H1 p = none → Q (.ref p) (upd H1 p (.lst vs)) := fun q vs l r z o p hp => by
      have n := Nx.fresh (K := X.K) (r := rr) (w := w1) (o := .lst vs) n1.inn n1.row hp
      refine o _ F1 _ n ⟨p, vs, l, rfl, rfl, upd_same, r, ?_, hp, fun e => ?_, z⟩
      · cases q : F1 p with
        | none => rfl
        | some o => rw [n1.inn p o q] at hp; cases hp
      · obtain ⟨o, q⟩ := n1.row.there e
        rw [q] at hp; cases hp
    rcases p1.seq (K := X.K) n1.inn with ⟨q, vs, ds, rfl, rfl, sq, l, z⟩ | ⟨q, vs, ds, rfl, rfl, sq, l, pp, z⟩ | ⟨kk, p⟩
    · exact ⟨q, vs, rfl, .inl sq, go q vs ds l z o1⟩
    · exact ⟨q, vs, rfl, .inr sq, go q vs ds l z o1⟩
    · cases d <;> first | exact o1.elim | cases kk⟩
/-- max, min of two -/
def VRb (K : PySem.W.Frag) (r : List V → Hp → VK → Prop) (g : D → D → M D) : Prop := ∀ {rr : Rw} {F H : Hp} {w : W} {x y : V} {a b : D} {Q : VK}, Sub F H → RowOk K rr F H w → Rp F a x → Rp F b y → Out PV K rr F H (g a b w) Q → r [x, y] H Q
theorem s_b2 {id : String} {x : Str} {r : List V → Hp → VK → Prop} {g : D → D → M D} (hc : CallR X (.builtin id) r) (v : VRb X.K r g) (hg : Gl X x) (hm : X.mg x = none) (hv : bootBuiltins x = some (.builtin id)) (hn : x ≠ "__name__") (hdb : (x == ("__debug__" : Str)) = false)
    (hs : starEach [a, b] X.env = (false, eval a X.env) :: starEach [b] X.env) (hs2 : starEach [b] X.env = (false, eval b X.env) :: starEach [] X.env) (hpl : (backTo pos (starEach [b] X.env)).any (·.1) = false) (ha : DE X a fa) (hb : DE X b fb) :
    DE X (.Call (.Name x p) [a, b] [] pos) (fun ρ => bnd (fa ρ) fun x => bnd (fb ρ) fun y => g x y) :=
  PE_imp (pe_callB hc hg hm hv (pa_cons ha (pa_cons hb pa_nil hs2) hs) hn hdb hs hpl) fun σ H Q ⟨rr, F, ρ, w, s, o⟩ => ⟨rr, F, ρ, w, s, (Out.bind (P := PV) o).mono fun x H1 ⟨F1, d, w1, n1, p1, o1⟩ =>
    ⟨rr, F1, ρ, w1, s.nx n1, (Out.bind (P := PV) o1).mono fun y H2 ⟨F2, u, w2, n2, p2, o2⟩ => v n2.inn n2.row (Rp.mono n2.sub _ _ p1) p2 o2⟩⟩
theorem v_max2 {K : PySem.W.Frag} : VRb K (fun xs H Q => ∃ i j, xs = [.int i, .int j] ∧ Q (.int (if j > i then j else i)) H) (b2D .max2) := fun {rr F H w x y a b Q} s k p q o => by
  cases a <;> cases b <;> first | exact o.elim | skip
  exact ⟨_, _, by rw [show x = .int _ from p, show y = .int _ from q], fin s k o rfl⟩
theorem v_min2 {K : PySem.W.Frag} : VRb K (fun xs H Q => ∃ i j, xs = [.int i, .int j] ∧ Q (.int (if j < i then j else i)) H) (b2D .min2) := fun {rr F H w x y a b Q} s k p q o => by
  cases a <;> cases b <;> first | exact o.elim | skip
  exact ⟨_, _, by rw [show x = .int _ from p, show y = .int _ from q], fin s k o rfl⟩
/-! ### isinstance -/
theorem tyx_of {K : PySem.W.Frag} {F H : Hp} {d : D} {v : V} (s : Sub F H) (p : Rp F d v) : ∃ t, TyX K H v (.type t) ∧ ∀ c : Cl, PySem.W.kitOne K (.type t) (.type c.name) = some (isIn d c) := by
  cases d with
  | none => rw [show v = .non from p]; exact ⟨_, .base .non, fun c => kit_ty (by cases c <;> first | (show kitB _ _ = some true; decide +kernel) | (show kitB _ _ = some false; decide +kernel))⟩
  | bool b => rw [show v = .bl b from p]; exact ⟨_, .base (.bl b), fun c => kit_ty (by cases c <;> first | (show kitB _ _ = some true; decide +kernel) | (show kitB _ _ = some false; decide +kernel))⟩
  | int i => rw [show v = .int i from p]; exact ⟨_, .base (.int i), fun c => kit_ty (by cases c <;> first | (show kitB _ _ = some true; decide +kernel) | (show kitB _ _ = some false; decide +kernel))⟩
  | str x => rw [show v = .str x from p]; exact ⟨_, .base (.str x), fun c => kit_ty (by cases c <;> first | (show kitB _ _ = some true; decide +kernel) | (show kitB _ _ = some false; decide +kernel))⟩
  | list ds => obtain ⟨_, a, vs, rfl, h, _⟩ := p.lst; exact ⟨_, .base (.lst (s _ _ h)), fun c => kit_ty (by cases c <;> first | (show kitB _ _ = some true; decide +kernel) | (show kitB _ _ = some false; decide +kernel))⟩
  | tuple ds => obtain ⟨_, a, vs, rfl, h, _⟩ := p.tup; exact ⟨_, .base (.tup (s _ _ h)), fun c => kit_ty (by cases c <;> first | (show kitB _ _ = some true; decide +kernel) | (show kitB _ _ = some false; decide +kernel))⟩
  | dict _ => exact p.elim
theorem one_pv {r : List V → Hp → VK → Prop} {te : TE} (hte : ∀ σ H Q, tOut PV X.K fa σ H Q → te σ H Q) {g : D → M D} {y : V} (v : ∀ {rr : Rw} {F H : Hp} {w : W} {x : V} {a : D} {Q : VK}, Sub F H → RowOk X.K rr F H w → Rp F a x → Out PV X.K rr F H (g a w) Q → r [x, y] H Q) :
    ∀ σ H Q, tOut PV X.K (fun ρ => bnd (fa ρ) g) σ H Q → tCB r (tCons te (tCons (tC y) tNil)) σ H Q := fun σ H Q ⟨rr, F, ρ, w, s, o⟩ =>
  hte σ H _ ⟨rr, F, ρ, w, s, (Out.bind (P := PV) o).mono fun x H1 ⟨F1, d, w1, n1, p1, o1⟩ => v n1.inn n1.row p1 o1⟩
theorem s_isI {cl : Cl} {x cn : Str} {pc : Pos} (hg : Gl X x) (hm : X.mg x = none) (hv : bootBuiltins x = some (.builtin "isinstance")) (hn : x ≠ "__name__") (hdb : (x == ("__debug__" : Str)) = false)
    (hgc : Gl X cn) (hmc : X.mg cn = none) (hvc : bootBuiltins cn = some (.type cl.name)) (hnc : cn ≠ "__name__") (hdc : (cn == ("__debug__" : Str)) = false)
    (hs : starEach [a, .Name cn pc] X.env = (false, eval a X.env) :: starEach [.Name cn pc] X.env) (ha : DE X a fa) : DE X (.Call (.Name x p) [a, .Name cn pc] [] pos) (fun ρ => bnd (fa ρ) fun d => ret (.bool (isIn d cl))) :=
  PE_imp (pe_callB call_isi hg hm hv (pa_cons ha (pa_cons (pe_bltn (v := .ty cl.name) hgc hmc hvc rfl hnc hdc) pa_nil) hs) hn hdb hs) (one_pv (fun _ _ _ h => h) fun {rr F H w x a Q} s k p o => by
    obtain ⟨t, h1, h2⟩ := tyx_of (K := X.K) s p
    exact ⟨x, _, _, _, _, rfl, .ty _, h1, h2 cl, fin s k o rfl⟩)
theorem s_isTL {x ct cl : Str} {pt p1 p2 : Pos} {kk : Nat} (hg : Gl X x) (hm : X.mg x = none) (hv : bootBuiltins x = some (.builtin "isinstance")) (hn : x ≠ "__name__") (hdb : (x == ("__debug__" : Str)) = false)
    (hgc : Gl X ct) (hmc : X.mg ct = none) (hvc : bootBuiltins ct = some (.type "tuple")) (hnc : ct ≠ "__name__") (hdc : (ct == ("__debug__" : Str)) = false)
    (hgl : Gl X cl) (hml : X.mg cl = none) (hvl : bootBuiltins cl = some (.type "list")) (hnl : cl ≠ "__name__") (hdl : (cl == ("__debug__" : Str)) = false)
    (hs : starEach [a, .Tuple [.Name ct p1, .Name cl p2] kk pt] X.env = (false, eval a X.env) :: starEach [.Tuple [.Name ct p1, .Name cl p2] kk pt] X.env) (ha : DE X a fa) :
    DE X (.Call (.Name x p) [a, .Tuple [.Name ct p1, .Name cl p2] kk pt] [] pos) (fun ρ => bnd (fa ρ) fun d => ret (.bool (isIn d .tup || isIn d .lst))) :=
  PE_imp (pe_callB call_isiT hg hm hv (pa_cons ha (pa_cons (pe_tup (pa_cons (pe_bltn (v := .ty "tuple") hgc hmc hvc rfl hnc hdc) (pa_cons (pe_bltn (v := .ty "list") hgl hml hvl rfl hnl hdl) pa_nil))) pa_nil) hs) hn hdb hs) fun σ H Q ⟨rr, F, ρ, w, s, o⟩ =>
    ⟨rr, F, ρ, w, s, (Out.bind (P := PV) o).mono fun x H1 ⟨F1, d, w1, n1, p1, o1⟩ => by
      refine ⟨by show 2 ≤ sizeLine; decide, fun p hp => ?_⟩
      have n2 := Nx.fresh (K := X.K) (r := rr) (w := w1) (o := .tup [.ty "tuple", .ty "list"]) n1.inn n1.row hp
      obtain ⟨t, h1, h2⟩ := tyx_of (K := X.K) n2.inn p1
      refine ⟨x, p, _, _, [.type "tuple", .type "list"], (isIn d .tup || isIn d .lst), rfl, upd_same, .cons (.ty _) (.cons (.ty _) .nil), h1, ?_, o1 _ F1 _ n2 rfl⟩
      refine kitAny_cons (h2 .tup) (fun e => ?_) (fun e => by rw [e]; rfl)
      refine kitAny_cons (h2 .lst) (fun e' => ?_) (fun e' => by rw [e']; cases isIn d .tup <;> rfl)
      rw [e, e']; rfl⟩
end
end Dn
namespace Dn
open PySem PySem.Spec PyProof.Rows L2
set_option autoImplicit true
section
variable {X : Cx} {e a b c it tgt : Expr} {es rest : List Expr} {f fa fb fc fs : Ev → M D} {fl : Ev → M (List D)} {ft : Ev → M Bool} {pos p p2 tpos : Pos} {K : PySem.W.Frag} {r : Rw} {F H : Hp} {ρ ρ' : Ev} {σ σ' : L2.St} {w : W} {i : Nat} {d : D} {v : V}
/-! ### stores -/
theorem get_set {α : Type} {l : List α} {i j : Nat} {x y : α} (h : (l.set i x)[j]? = some y) : (j = i ∧ x = y) ∨ (j ≠ i ∧ l[j]? = some y) := by
  by_cases e : j = i
  · subst e
    by_cases hl : j < l.length
    · rw [List.getElem?_set_self hl] at h; exact .inl ⟨rfl, Option.some.inj h⟩
    · rw [List.getElem?_eq_none (by rw [List.length_set]; omega)] at h; cases h
  · rw [List.getElem?_set_ne (Ne.symm e)] at h
    exact .inr ⟨e, h⟩
theorem lt_of_set {α : Type} {l : List α} {i : Nat} {x y : α} (h : (l.set i x)[i]? = some y) : i < l.length := by
  have := (List.getElem?_eq_some_iff.mp h).1
  rwa [List.length_set] at this
theorem Sx.setV (s : Sx K r F H ρ σ w) (p : Rp F d v) : Sx K r F H (ρ.set i (.val d)) (σ.set i (some v)) w where
  sub := s.sub
  row := s.row
  len := by rw [List.length_set, List.length_set]; exact s.len
  val := fun j u e => by
    rcases get_set e with ⟨rfl, z⟩ | ⟨ne, z⟩
    · cases z
      exact ⟨v, by rw [List.getElem?_set_self (by rw [← s.len]; exact lt_of_set e)], p⟩
    · obtain ⟨u, h1, h2⟩ := s.val j u z
      exact ⟨u, by rw [List.getElem?_set_ne (Ne.symm ne)]; exact h1, h2⟩
  own := fun j l e => by
    rcases get_set e with ⟨rfl, z⟩ | ⟨ne, z⟩
    · cases z
    · obtain ⟨p, vs, h1, h2⟩ := s.own j l z
      exact ⟨p, vs, by rw [List.getElem?_set_ne (Ne.symm ne)]; exact h1, h2⟩
  rw := fun j e => by
    rcases get_set e with ⟨rfl, z⟩ | ⟨ne, z⟩
    · cases z
    · obtain ⟨p, h1, h2⟩ := s.rw j z
      exact ⟨p, h1, by rw [List.getElem?_set_ne (Ne.symm ne)]; exact h2⟩
  inj := fun j k l m p e1 e2 e3 e4 => by
    rcases get_set e1 with ⟨rfl, z⟩ | ⟨n1, z1⟩
    · cases z
    · rcases get_set e2 with ⟨rfl, z⟩ | ⟨n2, z2⟩
      · cases z
      · rw [List.getElem?_set_ne (Ne.symm n1)] at e3
        rw [List.getElem?_set_ne (Ne.symm n2)] at e4
        exact s.inj j k l m p z1 z2 e3 e4
theorem Sx.wipe (s : Sx K r F H ρ σ w) : ∀ vs : List Nat, Sx K r F H (wipeE ρ vs) (L2.wipe σ vs) w
  | [] => s
  | i :: vs => by
    have s := Sx.wipe s vs
    show Sx K r F H ((wipeE ρ vs).set i .no) ((L2.wipe σ vs).set i none) w
    generalize wipeE ρ vs = ρ at s
    generalize L2.wipe σ vs = σ at s
    refine ⟨s.sub, s.row, by rw [List.length_set, List.length_set]; exact s.len, fun j u e => ?_, fun j l e => ?_, fun j e => ?_, fun j k l m p e1 e2 e3 e4 => ?_⟩
    · rcases get_set e with ⟨rfl, z⟩ | ⟨ne, z⟩
      · cases z
      · obtain ⟨u, h1, h2⟩ := s.val j u z
        exact ⟨u, by rw [List.getElem?_set_ne (Ne.symm ne)]; exact h1, h2⟩
    · rcases get_set e with ⟨rfl, z⟩ | ⟨ne, z⟩
      · cases z
      · obtain ⟨p, vs, h1, h2⟩ := s.own j l z
        exact ⟨p, vs, by rw [List.getElem?_set_ne (Ne.symm ne)]; exact h1, h2⟩
    · rcases get_set e with ⟨rfl, z⟩ | ⟨ne, z⟩
      · cases z
      · obtain ⟨p, h1, h2⟩ := s.rw j z
        exact ⟨p, h1, by rw [List.getElem?_set_ne (Ne.symm ne)]; exact h2⟩
    · rcases get_set e1 with ⟨rfl, z⟩ | ⟨n1, z1⟩
      · cases z
      · rcases get_set e2 with ⟨rfl, z⟩ | ⟨n2, z2⟩
        · cases z
        · rw [List.getElem?_set_ne (Ne.symm n1)] at e3
          rw [List.getElem?_set_ne (Ne.symm n2)] at e4
          exact s.inj j k l m p z1 z2 e3 e4
/-! ### targets -/
def Off (vs : List Nat) (σ σ' : L2.St) : Prop := σ'.length = σ.length ∧ ∀ i, i ∉ vs → σ'[i]? = σ[i]?
theorem wipe_get {σ : L2.St} {i : Nat} : ∀ {vs : List Nat}, (L2.wipe σ vs)[i]? = if i ∈ vs ∧ i < σ.length then some none else σ[i]?
  | [] => by simp [L2.wipe]
  | v :: vs => by
    unfold L2.wipe
    by_cases e : i = v
    · subst e
      by_cases h : i < σ.length
      · rw [List.getElem?_set_self (by rw [L2.wipe_length]; exact h), if_pos ⟨by simp, h⟩]
      · rw [if_neg (fun z => h z.2), List.getElem?_eq_none (by rw [List.length_set, L2.wipe_length]; omega), List.getElem?_eq_none (by omega)]
    · rw [List.getElem?_set_ne (Ne.symm e), wipe_get]
      simp [e]
theorem Off.wipe {vs : List Nat} (h : Off vs σ σ') : L2.wipe σ' vs = L2.wipe σ vs := by
  apply List.ext_getElem?
  intro i
  rw [wipe_get, wipe_get, h.1]
  by_cases m : i ∈ vs
  · by_cases l : i < σ.length
    · rw [if_pos ⟨m, l⟩, if_pos ⟨m, l⟩]
    · rw [if_neg (fun z => l z.2), if_neg (fun z => l z.2), List.getElem?_eq_none (by rw [h.1]; omega), List.getElem?_eq_none (by omega)]
  · rw [if_neg (fun z => m z.1), if_neg (fun z => m z.1), h.2 i m]
def tG (K : PySem.W.Frag) (t : Tg) : TG := fun v σ H Q => ∃ r F ρ w d ρ', Sx K r F H ρ σ w ∧ Rp F d v ∧ bindT t d ρ = some ρ' ∧ ∀ σ', Sx K r F H ρ' σ' w → Off t.slots σ σ' → Q σ' H
def tGs (K : PySem.W.Frag) (t : Tg) : TGs := fun vs σ H Q => ∃ r F ρ w ds ρ', Sx K r F H ρ σ w ∧ RpL F ds vs ∧ bindT t (.list ds) ρ = some ρ' ∧ ∀ σ', Sx K r F H ρ' σ' w → Off t.slots σ σ' → Q σ' H
theorem PG_imp {t t' : TG} (h : PG X e t) (i : ∀ v σ H Q, t' v σ H Q → t v σ H Q) : PG X e t' := ⟨fun pins s σ H v u Q I r q => h.run pins s σ H v u Q I r (i v σ H Q q)⟩
theorem PGs_imp {t t' : TGs} (h : PGs X es t) (i : ∀ v σ H Q, t' v σ H Q → t v σ H Q) : PGs X es t' := ⟨fun pins s σ H v u Q I r q => h.run pins s σ H v u Q I r (i v σ H Q q)⟩
theorem g_nm {x : Str} (hN : X.N.Nodup) (hi : X.N[i]? = some x) (hx : Loc X.env.scope x) (hf : X.fn x = true ∨ X.env.scope.names.lookup x = some .local) : PG X (.Name x pos) (tG X.K (.nm i)) :=
  PG_imp (pg_name hN hi hx hf) fun v σ H Q ⟨r, F, ρ, w, d, ρ', s, p, e, q⟩ => by
    cases (show some (ρ.set i (.val d)) = some ρ' from e)
    exact q _ (s.setV p) ⟨by rw [List.length_set], fun j hj => List.getElem?_set_ne (fun z => hj (by rw [z]; simp [Tg.slots]))⟩
theorem gs_nil : PGs X [] (tGs X.K .tnil) := PGs_imp pgs_nil fun vs σ H Q ⟨r, F, ρ, w, ds, ρ', s, p, e, q⟩ => by
  cases ds with
  | cons d ds => cases e
  | nil =>
    cases (show some ρ = some ρ' from e)
    exact ⟨p, q _ s ⟨rfl, fun _ _ => rfl⟩⟩
theorem gs_cons {t u : Tg} (h1 : PG X e (tG X.K t)) (h2 : PGs X es (tGs X.K u)) (hs : (assignEach (e :: es) X.env).map (·.2) = assign e X.env :: (assignEach es X.env).map (·.2)) : PGs X (e :: es) (tGs X.K (.tcons t u)) :=
  PGs_imp (pgs_cons h1 h2 hs) fun vs σ H Q ⟨r, F, ρ, w, ds, ρ', s, p, e, q⟩ => by
    cases ds with
    | nil => cases e
    | cons d ds =>
      obtain ⟨v, vr, rfl, p1, p2⟩ := p
      rw [show bindT (.tcons t u) (.list (d :: ds)) ρ = (match bindT t d ρ with | some ρ' => bindT u (.list ds) ρ' | none => none) from rfl] at e
      cases k : bindT t d ρ with
      | none => rw [k] at e; cases e
      | some ρ1 =>
        rw [k] at e
        refine ⟨v, vr, rfl, r, F, ρ, w, d, ρ1, s, p1, k, fun σ1 s1 o1 => ⟨r, F, ρ1, w, ds, ρ', s1, p2, e, fun σ2 s2 o2 => q _ s2 ⟨o2.1.trans o1.1, fun j hj => ?_⟩⟩⟩
        have hj : j ∉ t.slots ++ u.slots := hj
        rw [List.mem_append, not_or] at hj
        exact (o2.2 j hj.2).trans (o1.2 j hj.1)
def Tg.count : Tg → Nat
  | .tcons _ r => r.count + 1
  | _ => 0
theorem bind_count : ∀ {t : Tg} {ds : List D} {ρ ρ' : Ev}, (match t with | .tnil => True | .tcons _ _ => True | _ => False) → bindT t (.list ds) ρ = some ρ' → True := fun _ _ => trivial
theorem g_tup {t : Tg} {kk : Nat} (hc : X.calm = true) (h : PGs X es (tGs X.K t)) (hn : (assignEach es X.env).length = es.length) (hst : (assignEach es X.env).findIdx? (·.1) = none)
    (ht : ∀ ds ρ ρ', bindT t (.list ds) ρ = some ρ' → ds.length = es.length) : PG X (.Tuple es kk pos) (tG X.K (.tup t)) :=
  PG_imp (pg_tup hc h hn hst) fun v σ H Q ⟨r, F, ρ, w, d, ρ', s, p, e, q⟩ => by
    cases d with
    | tuple ds =>
      obtain ⟨_, a, vs, rfl, h, l⟩ := p.tup
      exact ⟨a, vs, rfl, SqT.of (s.sub _ _ h), by rw [← l.length]; exact ht ds ρ ρ' e, r, F, ρ, w, ds, ρ', s, l, e, q⟩
    | _ => cases e
/-! ### what is walked -/
structure JOk (K : PySem.W.Frag) (r : Rw) (F0 : Hp) (J : It) (G : Hp → Prop) (ds : List D) : Prop where
  go : ∀ i H, i < ds.length → G H → J.go i H
  stop : ∀ H, G H → J.stop ds.length H
  yld : ∀ {i F H x H' w}, i < ds.length → G H → Sub F0 F → Sub F H → RowOk K r F H w → J.yld i H x H' → ∃ F' d, ds[i]? = some d ∧ Nx K r F H F' H' w ∧ Rp F' d x
  keep : ∀ H H', G H → (∀ a o, r.a ≠ some a → H a = some o → H' a = some o) → G H'
/-- what is walked stands frozen; or it stands as yet -/
def PJ (K : PySem.W.Frag) : Kind (List D) It := fun r _ F H ds J => ∃ G, JOk K r F J G ds ∧ (∀ H, Sub F H → G H) ∧ ds.length ≤ sizeLine
def PJo (K : PySem.W.Frag) : Kind (List D) It := fun r _ F H ds J => ∃ G, JOk K r F J G ds ∧ G H ∧ ds.length ≤ sizeLine
instance : Mono (PJ K) := ⟨fun _ h => h⟩
instance : Mono (PJo K) := ⟨fun _ h => h⟩
def tI (K : PySem.W.Frag) (f : Ev → M (List D)) : TI := fun σ H R => tOut (PJ K) K f σ H R
def tIo (K : PySem.W.Frag) (f : Ev → M (List D)) : TI := fun σ H R => tOut (PJo K) K f σ H R
abbrev DI (X : Cx) (tgt it : Expr) (f : Ev → M (List D)) : Prop := PI X tgt it (tI X.K f)
abbrev DIo (X : Cx) (tgt it : Expr) (f : Ev → M (List D)) : Prop := PI X tgt it (tIo X.K f)
theorem PI_imp {t t' : TI} (h : PI X tgt e t) (i : ∀ σ H R, t' σ H R → t σ H R) : PI X tgt e t' := ⟨fun pins s σ H R I q => h.run pins s σ H R I (i σ H R q)⟩
/-- a list or a tuple -/
def iSeq (K : PySem.W.Frag) (tl : TE) : TI := fun σ H R => tl σ H fun x H1 => ∃ a, x = .ref a ∧ (((∃ xs, SqL K H1 a xs) ∧ R (Itl K a) H1) ∨ ((∃ xs, SqT K H1 a xs) ∧ R (Itt K a) H1))
theorem pi_seq {tl : TE} (hl : PE X e tl) : PI X tgt e (iSeq X.K tl) := by
  refine ⟨fun pins s σ H R I h => ?_⟩
  refine thn (hl.run pins s σ H _ I h) fun v s1 ⟨x, H1, I1, r1, q1⟩ => ?_
  obtain ⟨a, e, q⟩ := q1
  subst e
  cases r1
  rcases q with ⟨⟨xs, hq⟩, q⟩ | ⟨⟨xs, hq⟩, q⟩
  · obtain ⟨its, rv, p, hz⟩ := I1.list hq
    refine wpAny_pyIter_list p.isList ?_
    refine ⟨s1.heap.objs.size, [s1.heap.objs.size], _, _, H1, rfl, I1.kept (t' := s1.toks) fun b o e => Heap.get?_push_of_some _ e, turn_list a _, ⟨_, Heap.get?_push_size _ rfl, rfl, rfl⟩, fun b hb => ?_, q⟩
    have e : b = s1.heap.objs.size := by simpa using hb
    subst e
    exact I1.fpOk (Nat.le_refl _) (I1.hok.fresh (Nat.le_refl _))
  · obtain ⟨its, rv, p, hz⟩ := I1.tuple hq
    refine wpAny_pyIter_tuple (show s1.heap.IsTuple a its.toArray from p) ?_
    refine ⟨s1.heap.objs.size, [s1.heap.objs.size], _, _, H1, rfl, I1.kept (t' := s1.toks) fun b o e => Heap.get?_push_of_some _ e, turn_tuple a _, ⟨_, Heap.get?_push_size _ rfl, rfl, rfl⟩, fun b hb => ?_, q⟩
    have e : b = s1.heap.objs.size := by simpa using hb
    subst e
    exact I1.fpOk (Nat.le_refl _) (I1.hok.fresh (Nat.le_refl _))
theorem sql_keep {a : Addr} {xs : List V} {H H' : Hp} (ha : r.a ≠ some a) (h : SqL K H a xs) (k : ∀ a o, r.a ≠ some a → H a = some o → H' a = some o) : SqL K H' a xs := by
  rcases h with (h | ⟨o, h⟩) | h
  · exact .inl (.inl (k _ _ ha h))
  · exact .inl (.inr ⟨o, k _ _ ha h⟩)
  · exact .inr h
theorem jok_list {a : Addr} {vs : List V} {ds : List D} {F0 : Hp} (ha : r.a ≠ some a) (l : RpL F0 ds vs) : JOk K r F0 (Itl K a) (fun H => SqL K H a vs) ds where
  go := fun i H hi h => by
    obtain ⟨v, e, _⟩ := l.get (List.getElem?_eq_getElem hi)
    exact ⟨vs, v, h, e⟩
  stop := fun H h => ⟨vs, h, by rw [l.length]; exact Nat.le_refl _⟩
  yld := fun {i F H x H' w} hi h s0 s k ⟨e, q⟩ => by
    subst e
    obtain ⟨v, e, p⟩ := l.get (List.getElem?_eq_getElem hi)
    have ev : x = v := Option.some.inj ((q vs h).symm.trans e)
    subst ev
    exact ⟨F, _, List.getElem?_eq_getElem hi, Nx.refl s k, Rp.mono s0 _ _ p⟩
  keep := fun H H' h k => sql_keep ha h k
theorem jok_tup {a : Addr} {vs : List V} {ds : List D} {F0 : Hp} (h0 : F0 a = some (.tup vs)) (hr : r.a ≠ some a) (l : RpL F0 ds vs) : JOk K r F0 (Itt K a) (fun H => H a = some (.tup vs)) ds where
  go := fun i H hi h => by
    obtain ⟨v, e, _⟩ := l.get (List.getElem?_eq_getElem hi)
    exact ⟨vs, v, SqT.of h, e⟩
  stop := fun H h => ⟨vs, SqT.of h, by rw [l.length]; exact Nat.le_refl _⟩
  yld := fun {i F H x H' w} hi h s0 s k ⟨e, q⟩ => by
    subst e
    obtain ⟨v, e, p⟩ := l.get (List.getElem?_eq_getElem hi)
    have ev : x = v := Option.some.inj ((q vs (SqT.of h)).symm.trans e)
    subst ev
    exact ⟨F, _, List.getElem?_eq_getElem hi, Nx.refl s k, Rp.mono s0 _ _ p⟩
  keep := fun H H' h k => k _ _ hr h
/-- what is frozen is not the row -/
theorem RowOk.ne {a : Addr} {o : HO} (k : RowOk K r F H w) (h : F a = some o) : r.a ≠ some a := by
  cases r with
  | none => intro e; cases e
  | some z =>
    obtain ⟨b, t⟩ := z
    intro e
    cases (show some b = some a from e)
    rw [k.1] at h; cases h
theorem DI.o (h : DI X tgt e fl) : DIo X tgt e fl := PI_imp h fun σ H R ⟨r, F, ρ, w, s, o⟩ => ⟨r, F, ρ, w, s, o.weak fun n ⟨G, h1, h2, h3⟩ => ⟨G, h1, h2 _ n.inn, h3⟩⟩
theorem i_seq (h : DE X e f) : DI X tgt e (fun ρ => bnd (f ρ) itemsOf) :=
  PI_imp (pi_seq h) fun σ H R ⟨rr, F, ρ, w, s, o⟩ => ⟨rr, F, ρ, w, s, (Out.bind (P := PV) (P' := PJ X.K) o).mono fun x H1 ⟨F1, d, w1, n1, p1, o1⟩ => by
    cases d with
    | list ds =>
      obtain ⟨z, q, vs, rfl, h, l⟩ := p1.lst
      exact ⟨q, rfl, .inl ⟨⟨vs, SqL.of (n1.inn _ _ h)⟩, o1 _ F1 H1 (Nx.refl n1.inn n1.row) ⟨_, jok_list (n1.row.ne h) l, fun H s => SqL.of (s _ _ h), z⟩⟩⟩
    | tuple ds =>
      obtain ⟨z, q, vs, rfl, h, l⟩ := p1.tup
      exact ⟨q, rfl, .inr ⟨⟨vs, SqT.of (n1.inn _ _ h)⟩, o1 _ F1 H1 (Nx.refl n1.inn n1.row) ⟨_, jok_tup h (n1.row.ne h) l, fun H s => s _ _ h, z⟩⟩⟩
    | _ => exact o1.elim⟩
theorem i_own (h : DS X e f) : DIo X tgt e (fun ρ => bnd (f ρ) itemsOf) :=
  PI_imp (pi_seq h) fun σ H R ⟨rr, F, ρ, w, s, o⟩ => ⟨rr, F, ρ, w, s, (Out.bind (P := PSr) (P' := PJo X.K) o).mono fun x H1 ⟨F1, d, w1, n1, p1, o1⟩ => by
    rcases p1 with p1 | ⟨q, vs, l, rfl, rfl, h3, h4, h5, h6⟩
    · cases d with
      | list ds =>
        obtain ⟨z, q, vs, rfl, h, l⟩ := p1.lst
        exact ⟨q, rfl, .inl ⟨⟨vs, SqL.of (n1.inn _ _ h)⟩, o1 _ F1 H1 (Nx.refl n1.inn n1.row) ⟨_, jok_list (n1.row.ne h) l, SqL.of (n1.inn _ _ h), z⟩⟩⟩
      | tuple ds =>
        obtain ⟨z, q, vs, rfl, h, l⟩ := p1.tup
        exact ⟨q, rfl, .inr ⟨⟨vs, SqT.of (n1.inn _ _ h)⟩, o1 _ F1 H1 (Nx.refl n1.inn n1.row) ⟨_, jok_tup h (n1.row.ne h) l, n1.inn _ _ h, z⟩⟩⟩
      | _ => exact o1.elim
    · exact ⟨q, rfl, .inl ⟨⟨vs, SqL.of h3⟩, o1 _ F1 H1 (Nx.refl n1.inn n1.row) ⟨_, jok_list h5 h4, SqL.of h3, h6⟩⟩⟩⟩
theorem jok_rng {lo : Int} {n : Nat} {F0 : Hp} : JOk K r F0 (Itr lo n) (fun _ => True) ((List.range n).map fun (k : Nat) => PyData.int (lo + (k : Int))) where
  go := fun i H hi _ => by
    show i < n
    simpa using hi
  stop := fun H _ => by
    show n ≤ _
    simp
  yld := fun {i F H x H' w} hi _ s0 s k ⟨e, q⟩ => by
    subst e; subst q
    have hi' : i < n := by simpa using hi
    exact ⟨F, .int (lo + i), by simp [List.getElem?_map, List.getElem?_range hi'], Nx.refl s k, rfl⟩
  keep := fun _ _ _ _ => trivial
theorem jok_rngD {lo : Int} {n : Nat} {F0 : Hp} : JOk K r F0 (Itc lo (-1) n) (fun _ => True) ((List.range n).map fun (k : Nat) => PyData.int (lo + (k : Int) * (-1))) where
  go := fun i H hi _ => by
    show i < n
    simpa using hi
  stop := fun H _ => by
    show n ≤ _
    simp
  yld := fun {i F H x H' w} hi _ s0 s k ⟨e, q⟩ => by
    subst e; subst q
    have hi' : i < n := by simpa using hi
    exact ⟨F, .int (lo + i * (-1)), by simp [List.getElem?_map, List.getElem?_range hi'], Nx.refl s k, rfl⟩
  keep := fun _ _ _ _ => trivial
theorem line_of {n : Int} (h : n ≤ 1000000) : n.toNat ≤ sizeLine := by rw [sizeLine_eq]; omega
theorem ite_out' {α β : Type} {P : Kind α β} {c : Prop} [Decidable c] {m : M α} {Q : β → Hp → Prop} (o : Out P K r F H ((if c then m else bad) w) Q) : c ∧ Out P K r F H (m w) Q := by
  by_cases h : c
  · rw [if_pos h] at o; exact ⟨h, o⟩
  · rw [if_neg h] at o; exact o.elim
theorem i_range1 (hg : Gl X "range") (hm : X.mg "range" = none) (hs : starEach [a] X.env = (false, eval a X.env) :: starEach [] X.env) (ha : DE X a fa) :
    DI X tgt (.Call (.Name "range" p) [a] [] pos) (fun ρ => bnd (bnd (bnd (fa ρ) asI) fun j => rangeD 0 j) itemsOf) := by
  refine PI_imp (pi_range1 hg hm (pa_cons ha pa_nil hs) hs) fun σ H R ⟨rr, F, ρ, w, s, o⟩ => ?_
  dsimp only at o
  rw [bnd_bnd, bnd_bnd] at o
  refine ⟨rr, F, ρ, w, s, (Out.bind (P := PV) (P' := PJ X.K) o).mono fun x H1 ⟨F1, d, w1, n1, p1, o1⟩ => ?_⟩
  cases d with
  | int j =>
    dsimp only [asI] at o1
    rw [bnd_ret] at o1
    by_cases hc : -(2 ^ 62) ≤ (0 : Int) ∧ (0 : Int) < 2 ^ 62 ∧ -(2 ^ 62) ≤ j ∧ j < 2 ^ 62 ∧ j - 0 ≤ 1000000
    · unfold rangeD at o1
      rw [if_pos hc] at o1
      refine ⟨j, by rw [show x = .int j from p1], by omega, by omega, o1 _ F1 H1 (Nx.refl n1.inn n1.row) ⟨fun _ => True, ?_, fun _ _ => trivial, ?_⟩⟩
      · rw [show (j - 0).toNat = j.toNat from by rw [Int.sub_zero]]
        exact jok_rng
      · rw [List.length_map, List.length_range]; exact line_of (by omega)
    · unfold rangeD at o1; rw [if_neg hc] at o1; exact o1.elim
  | _ => exact o1.elim
theorem i_range2 (hg : Gl X "range") (hm : X.mg "range" = none) (hs : starEach [a, b] X.env = (false, eval a X.env) :: starEach [b] X.env) (hs2 : starEach [b] X.env = (false, eval b X.env) :: starEach [] X.env) (hpl : (backTo pos (starEach [b] X.env)).any (·.1) = false) (ha : DE X a fa) (hb : DE X b fb) :
    DI X tgt (.Call (.Name "range" p) [a, b] [] pos) (fun ρ => bnd (bnd (bnd (fa ρ) asI) fun i => bnd (bnd (fb ρ) asI) fun j => rangeD i j) itemsOf) := by
  refine PI_imp (pi_range2 hg hm (pa_cons ha (pa_cons hb pa_nil hs2) hs) (hs.trans (by rw [hs2]; rfl)) hs2) fun σ H R ⟨rr, F, ρ, w, s, o⟩ => ?_
  dsimp only at o
  rw [bnd_bnd, bnd_bnd] at o
  refine ⟨rr, F, ρ, w, s, (Out.bind (P := PV) (P' := PJ X.K) o).mono fun x H1 ⟨F1, d, w1, n1, p1, o1⟩ => ?_⟩
  cases d with
  | int i =>
    dsimp only [asI] at o1
    rw [bnd_ret, bnd_bnd, bnd_bnd] at o1
    refine ⟨rr, F1, ρ, w1, s.nx n1, (Out.bind (P := PV) (P' := PJ X.K) o1).mono fun y H2 ⟨F2, u, w2, n2, p2, o2⟩ => ?_⟩
    cases u with
    | int j =>
      dsimp only [asI] at o2
      rw [bnd_ret] at o2
      by_cases hc : -(2 ^ 62) ≤ i ∧ i < 2 ^ 62 ∧ -(2 ^ 62) ≤ j ∧ j < 2 ^ 62 ∧ j - i ≤ 1000000
      · unfold rangeD at o2
        rw [if_pos hc] at o2
        refine ⟨i, j, by rw [show x = .int i from p1, show y = .int j from p2], ⟨by omega, by omega, by omega, by omega⟩, o2 _ F2 H2 (Nx.refl n2.inn n2.row) ⟨_, jok_rng, fun _ _ => trivial, ?_⟩⟩
        rw [List.length_map, List.length_range]; exact line_of (by omega)
      · unfold rangeD at o2; rw [if_neg hc] at o2; exact o2.elim
    | _ => exact o2.elim
  | _ => exact o1.elim
theorem i_range3 {c : Expr} (hg : Gl X "range") (hm : X.mg "range" = none) (hs : starEach [a, b, c] X.env = (false, eval a X.env) :: starEach [b, c] X.env) (hs2 : starEach [b, c] X.env = (false, eval b X.env) :: starEach [c] X.env) (hs3 : starEach [c] X.env = (false, eval c X.env) :: starEach [] X.env)
    (hpl : (backTo pos (starEach [b, c] X.env)).any (·.1) = false) (ha : DE X a fa) (hb : DE X b fb) (hc : DE X c fun _ => ret (.int (-1))) :
    DI X tgt (.Call (.Name "range" p) [a, b, c] [] pos) (fun ρ => bnd (bnd (bnd (fa ρ) asI) fun i => bnd (bnd (fb ρ) asI) fun j => range3D i j) itemsOf) := by
  refine PI_imp (pi_range3 hg hm (pa_cons ha (pa_cons hb (pa_cons hc pa_nil hs3) hs2) hs) hs hpl) fun σ H R ⟨rr, F, ρ, w, s, o⟩ => ?_
  dsimp only at o
  rw [bnd_bnd, bnd_bnd] at o
  refine ⟨rr, F, ρ, w, s, (Out.bind (P := PV) (P' := PJ X.K) o).mono fun x H1 ⟨F1, d, w1, n1, p1, o1⟩ => ?_⟩
  cases d with
  | int i =>
    dsimp only [asI] at o1
    rw [bnd_ret, bnd_bnd, bnd_bnd] at o1
    refine ⟨rr, F1, ρ, w1, s.nx n1, (Out.bind (P := PV) (P' := PJ X.K) o1).mono fun y H2 ⟨F2, u, w2, n2, p2, o2⟩ => ?_⟩
    cases u with
    | int j =>
      dsimp only [asI] at o2
      rw [bnd_ret] at o2
      by_cases hc : -(2 ^ 62) ≤ i ∧ i < 2 ^ 62 ∧ -(2 ^ 62) ≤ j ∧ j < 2 ^ 62 ∧ i - j ≤ 1000000
      · unfold range3D at o2
        rw [if_pos hc] at o2
        refine ⟨rr, F2, ρ, w2, (s.nx n1).nx n2, fun z F3 H3 n3 p3 => ?_⟩
        refine ⟨i, j, -1, _, by rw [show x = .int i from p1, show y = .int j from p2, show z = .int (-1) from p3], RgC.neg (by omega) (by omega) (by omega) (by omega), o2 _ F3 H3 n3 ⟨fun _ => True, jok_rngD, fun _ _ => trivial, ?_⟩⟩
        rw [List.length_map, List.length_range]; exact line_of (by omega)
      · unfold range3D at o2; rw [if_neg hc] at o2; exact o2.elim
    | _ => exact o2.elim
  | _ => exact o1.elim
/-! ### zip, reversed -/
theorem zip_get {xs ys : List D} {i : Nat} {x y : D} (h1 : xs[i]? = some x) (h2 : ys[i]? = some y) : (zipD xs ys)[i]? = some (.tuple [x, y]) := by
  unfold zipD
  rw [List.getElem?_zipWith, h1, h2]
theorem zip_len (xs ys : List D) : (zipD xs ys).length = min xs.length ys.length := by unfold zipD; rw [List.length_zipWith]
/-- a pair just made -/
theorem pair_rp {x y : V} {d u : D} {T : Addr} {F0 : Hp} (s0 : Sub F0 F) (s : Sub F H) (k : RowOk K r F H w) (hT : H T = none) (p : Rp F0 d x) (q : Rp F0 u y) : Nx K r F H (upd F T (.tup [x, y])) (upd H T (.tup [x, y])) w ∧ Rp (upd F T (.tup [x, y])) (.tuple [d, u]) (.ref T) := by
  have n := Nx.alloc (o := .tup [x, y]) s k hT
  exact ⟨n, by show 2 ≤ sizeLine; decide, T, [x, y], rfl, upd_same, RpL.cons (Rp.mono (s0.trans n.sub) _ _ p) (RpL.cons (Rp.mono (s0.trans n.sub) _ _ q) RpL.nil)⟩
theorem jok_zipL {a b : Addr} {vs us : List V} {ds es : List D} {F0 : Hp} (ha : r.a ≠ some a) (hb : r.a ≠ some b) (l : RpL F0 ds vs) (m : RpL F0 es us) : JOk K r F0 (Itz K a b) (fun H => SqL K H a vs ∧ SqL K H b us) (zipD ds es) where
  go := fun i H hi h => by
    rw [zip_len] at hi
    obtain ⟨v, e, _⟩ := l.get (List.getElem?_eq_getElem (show i < ds.length by omega))
    obtain ⟨u, e', _⟩ := m.get (List.getElem?_eq_getElem (show i < es.length by omega))
    exact ⟨vs, us, v, u, h.1, h.2, e, e'⟩
  stop := fun H h => ⟨vs, us, h.1, h.2, by rw [zip_len, l.length, m.length]; omega⟩
  yld := fun {i F H x H' w} hi h s0 s k ⟨T, x, y, e1, hT, e2, q1, q2⟩ => by
    subst e1; subst e2
    rw [zip_len] at hi
    obtain ⟨v, e, p⟩ := l.get (List.getElem?_eq_getElem (show i < ds.length by omega))
    obtain ⟨u, e', p'⟩ := m.get (List.getElem?_eq_getElem (show i < es.length by omega))
    cases Option.some.inj ((q1 vs h.1).symm.trans e)
    cases Option.some.inj ((q2 us h.2).symm.trans e')
    obtain ⟨n, p3⟩ := pair_rp s0 s k hT p p'
    exact ⟨_, _, zip_get (List.getElem?_eq_getElem _) (List.getElem?_eq_getElem _), n, p3⟩
  keep := fun H H' h k => ⟨sql_keep ha h.1 k, sql_keep hb h.2 k⟩
theorem jok_zipT {a b : Addr} {vs us : List V} {ds es : List D} {F0 : Hp} (ha : r.a ≠ some a) (hb : r.a ≠ some b) (l : RpL F0 ds vs) (m : RpL F0 es us) : JOk K r F0 (RZ.ItzT K a b) (fun H => H a = some (.tup vs) ∧ H b = some (.tup us)) (zipD ds es) where
  go := fun i H hi h => by
    rw [zip_len] at hi
    obtain ⟨v, e, _⟩ := l.get (List.getElem?_eq_getElem (show i < ds.length by omega))
    obtain ⟨u, e', _⟩ := m.get (List.getElem?_eq_getElem (show i < es.length by omega))
    exact ⟨vs, us, v, u, SqT.of h.1, SqT.of h.2, e, e'⟩
  stop := fun H h => ⟨vs, us, SqT.of h.1, SqT.of h.2, by rw [zip_len, l.length, m.length]; omega⟩
  yld := fun {i F H x H' w} hi h s0 s k ⟨T, x, y, e1, hT, e2, q1, q2⟩ => by
    subst e1; subst e2
    rw [zip_len] at hi
    obtain ⟨v, e, p⟩ := l.get (List.getElem?_eq_getElem (show i < ds.length by omega))
    obtain ⟨u, e', p'⟩ := m.get (List.getElem?_eq_getElem (show i < es.length by omega))
    cases Option.some.inj ((q1 vs (SqT.of h.1)).symm.trans e)
    cases Option.some.inj ((q2 us (SqT.of h.2)).symm.trans e')
    obtain ⟨n, p3⟩ := pair_rp s0 s k hT p p'
    exact ⟨_, _, zip_get (List.getElem?_eq_getElem _) (List.getElem?_eq_getElem _), n, p3⟩
  keep := fun H H' h k => ⟨k _ _ ha h.1, k _ _ hb h.2⟩
end
end Dn
namespace Dn
open PySem PySem.Spec PyProof.Rows L2
set_option autoImplicit true
section
variable {X : Cx} {e a b c it tgt elt : Expr} {es rest elts : List Expr} {f fa fb fc fs : Ev → M D} {fl : Ev → M (List D)} {ft : Ev → M Bool} {pos p p2 tpos : Pos} {K : PySem.W.Frag} {r : Rw} {F H : Hp} {ρ ρ' : Ev} {σ σ' : L2.St} {w : W} {i kk : Nat} {d : D} {v : V}
theorem i_zip (hg : Gl X "zip") (hm : X.mg "zip" = none) (hs : starEach [a, b] X.env = (false, eval a X.env) :: starEach [b] X.env) (hs2 : starEach [b] X.env = (false, eval b X.env) :: starEach [] X.env) (hpl : (backTo pos (starEach [b] X.env)).any (·.1) = false) (ha : DE X a fa) (hb : DE X b fb) :
    DI X (.Tuple elts kk tpos) (.Call (.Name "zip" p) [a, b] [] pos) (fun ρ => bnd (bnd (fa ρ) fun x => bnd (fb ρ) fun y => zip2D x y) itemsOf) := by
  refine PI_imp (RZ.pi_zipA hg hm (pa_cons ha (pa_cons hb pa_nil hs2) hs) hs hpl) fun σ H R ⟨rr, F, ρ, w, s, o⟩ => ?_
  dsimp only at o
  rw [bnd_bnd] at o
  refine ⟨rr, F, ρ, w, s, (Out.bind (P := PV) (P' := PJ X.K) o).mono fun x H1 ⟨F1, d, w1, n1, p1, o1⟩ => ?_⟩
  rw [bnd_bnd] at o1
  refine ⟨rr, F1, ρ, w1, s.nx n1, (Out.bind (P := PV) (P' := PJ X.K) o1).mono fun y H2 ⟨F2, u, w2, n2, p2, o2⟩ => ?_⟩
  have p1 := Rp.mono n2.sub _ _ p1
  cases d <;> cases u <;> first | exact o2.elim | skip
  · obtain ⟨z1, q1, vs, rfl, h1, l1⟩ := p1.lst
    obtain ⟨z2, q2, us, rfl, h2, l2⟩ := p2.lst
    refine ⟨q1, q2, vs, us, rfl, .inl ⟨SqL.of (n2.inn _ _ h1), SqL.of (n2.inn _ _ h2), o2 _ F2 H2 (Nx.refl n2.inn n2.row) ⟨_, jok_zipL (n2.row.ne h1) (n2.row.ne h2) l1 l2, fun H s => ⟨SqL.of (s _ _ h1), SqL.of (s _ _ h2)⟩, ?_⟩⟩⟩
    rw [zip_len]; omega
  · obtain ⟨z1, q1, vs, rfl, h1, l1⟩ := p1.tup
    obtain ⟨z2, q2, us, rfl, h2, l2⟩ := p2.tup
    refine ⟨q1, q2, vs, us, rfl, .inr ⟨SqT.of (n2.inn _ _ h1), SqT.of (n2.inn _ _ h2), o2 _ F2 H2 (Nx.refl n2.inn n2.row) ⟨_, jok_zipT (n2.row.ne h1) (n2.row.ne h2) l1 l2, fun H s => ⟨s _ _ h1, s _ _ h2⟩, ?_⟩⟩⟩
    rw [zip_len]; omega
/-! ### comprehensions -/
abbrev DTs (X : Cx) (ifs : List Expr) (f : Ev → M Bool) : Prop := PTs X ifs (tOut PB X.K f)
theorem PTs_imp {t t' : TT} {ifs : List Expr} (h : PTs X ifs t) (i : ∀ σ H Q, t' σ H Q → t σ H Q) : PTs X ifs t' := ⟨fun pins s σ H Q I q => h.run pins s σ H Q I (i σ H Q q)⟩
theorem c_none : DTs X [] (fun _ => bnd (ret (.bool true)) asB) := PTs_imp pts_nil fun σ H Q ⟨rr, F, ρ, w, s, o⟩ => o true F H (Nx.refl s.sub s.row) rfl
theorem c_one (h : DT X c fun ρ => bnd (f ρ) asB) : DTs X [c] (fun ρ => bnd (f ρ) asB) := pts_one h
def cutH (H : Hp) (p : Addr) : Hp := fun b => if b = p then none else H b
theorem del_same {p : Addr} : cutH H p p = none := by unfold cutH; rw [if_pos rfl]
theorem del_ne {p b : Addr} (h : b ≠ p) : cutH H p b = H b := by unfold cutH; rw [if_neg h]
theorem del_sub {p : Addr} : Sub (cutH H p) H := fun a o q => by
  by_cases e : a = p
  · subst e; rw [del_same] at q; cases q
  · rw [del_ne e] at q; exact q
theorem sub_del {p : Addr} (h : F p = none) (s : Sub F H) : Sub F (cutH H p) := fun a o q => by rw [del_ne (ne_of_none q h)]; exact s _ _ q
theorem row_del {p : Addr} (k : RowOk K r F (cutH H p) w) : RowOk K r F H w := by
  cases r with
  | none => trivial
  | some z =>
    obtain ⟨a, t, ns⟩ := z
    obtain ⟨h1, h2, h3, h4, h5⟩ := k
    refine ⟨h1, h2, h3, del_sub _ _ h4, ?_⟩
    rcases h5 with (h5 | ⟨o, h5⟩) | h5
    · exact .inl (.inl (del_sub _ _ h5))
    · exact .inl (.inr ⟨o, del_sub _ _ h5⟩)
    · exact .inr h5
theorem row_undel {p : Addr} (n : RwOff K r p) (k : RowOk K r F H w) : RowOk K r F (cutH H p) w := by
  cases r with
  | none => trivial
  | some z =>
    obtain ⟨a, t, ns⟩ := z
    obtain ⟨h1, h2, h3, h4, h5⟩ := k
    refine ⟨h1, h2, h3, by rw [del_ne (Ne.symm n.1)]; exact h4, ?_⟩
    rcases n.2 with q | q
    · rcases h5 with (h5 | ⟨o, h5⟩) | h5
      · exact .inl (.inl (by rw [del_ne (Ne.symm q)]; exact h5))
      · exact .inl (.inr ⟨o, by rw [del_ne (Ne.symm q)]; exact h5⟩)
      · exact .inr h5
    · exact q _
theorem row_upd {p : Addr} {o : HO} (n : RwOff K r p) (k : RowOk K r F (cutH H p) w) : RowOk K r F (upd H p o) w := by
  have e : cutH H p = cutH (upd H p o) p := by
    funext b
    by_cases h : b = p
    · subst h; rw [del_same, del_same]
    · rw [del_ne h, del_ne h, upd_ne h]
  rw [e] at k
  exact row_del k
theorem del_upd {p : Addr} {o : HO} : cutH (upd H p o) p = cutH H p := by
  funext b
  by_cases h : b = p
  · subst h; rw [del_same, del_same]
  · rw [del_ne h, del_ne h, upd_ne h]
/-- a step of the heap with a list of one's own beside -/
theorem Nx.del {K : PySem.W.Frag} {r : Rw} {F H F' H' : Hp} {w : W} {p : Addr} {o : HO} (n : Nx K r F H F' H' w) (hp : H p = some o) (fp : F p = none) (k : RwOff K r p) : Nx K r F (cutH H p) F' (cutH H' p) w ∧ H' p = some o ∧ F' p = none := by
  have fp' : F' p = none := by
    cases q : F' p with
    | none => rfl
    | some o' =>
      rcases n.new p o' q with z | z
      · rw [fp] at z; cases z
      · rw [hp] at z; cases z
  refine ⟨⟨n.sub, sub_del fp' n.inn, fun a u h q => ?_, fun a u q => ?_, row_undel k n.row⟩, n.keep _ _ k.ne hp, fp'⟩
  · by_cases e : a = p
    · subst e; rw [del_same] at q; cases q
    · rw [del_ne e] at q ⊢; exact n.keep _ _ h q
  · by_cases e : a = p
    · subst e; rw [fp'] at q; cases q
    · rw [del_ne e]; exact n.new a u q
theorem del_none {p : Addr} (h : H p = none) : cutH H p = H := by
  funext b
  by_cases e : b = p
  · subst e; rw [del_same, h]
  · rw [del_ne e]
theorem Sx.up {p : Addr} (s : Sx K r F (cutH H p) ρ σ w) : Sx K r F H ρ σ w :=
  ⟨s.sub.trans del_sub, row_del s.row, s.len, s.val, fun i l e => let ⟨p, vs, h1, h2, h3⟩ := s.own i l e; ⟨p, vs, h1, del_sub _ _ h2, h3⟩, s.rw, s.inj⟩
theorem wipe_wipe {σ : L2.St} {vs : List Nat} : L2.wipe (L2.wipe σ vs) vs = L2.wipe σ vs := by
  apply List.ext_getElem?
  intro i
  rw [wipe_get, L2.wipe_length, wipe_get]
  by_cases h : i ∈ vs ∧ i < σ.length
  · rw [if_pos h, if_pos h]
  · rw [if_neg h, if_neg h]
def bodyD (tg : Tg) (fc : Ev → M Bool) (fe : Ev → M D) (ρ : Ev) (d : D) : M (Option D) := match bindT tg d (wipeE ρ tg.slots) with
  | none => bad
  | some ρ' => bnd (fc ρ') fun k => if k then bnd (fe ρ') fun x => ret (some x) else ret none
theorem Nx.up {p : Addr} (s : Sub F (cutH H p)) (k : RowOk K r F (cutH H p) w) : Nx K r F (cutH H p) F H w := ⟨Sub.refl _, s.trans del_sub, fun a o _ q => del_sub _ _ q, fun _ _ q => .inl q, row_del k⟩
theorem comp_read {tg : Tg} {fe : Ev → M D} : ∀ σ H Q, tOut PF K (fun ρ => bnd (fl ρ) fun ds => bnd (mapD (bodyD tg ft fe ρ) ds) fun out => ret (.list out)) σ H Q → tLc (tIo K fl) (tG K tg) (tOut PB K ft) (tOut PV K fe) tg.slots σ H Q := fun σ H0 Q ⟨r, F, ρ, w, s, o⟩ => by
  refine ⟨r, F, ρ, w, s, (Out.bind (P := PJo K) (P' := PF) o).mono fun J H1 ⟨F1, ds, w1, n1, ⟨G, jok, hG, hl⟩, o1⟩ Lx hD => ?_⟩
  have off := n1.row.off hD
  have s1 := s.nx n1
  have f1 : F1 Lx = none := by
    cases q : F1 Lx with
    | none => rfl
    | some u => rw [n1.inn _ _ q] at hD; cases hD
  let Wn : Nat → Hp → Prop := fun i H => G (cutH H Lx) ∧ ∃ F2 w2 acc out, H Lx = some (.lst acc) ∧ RpL F2 out acc ∧ out.length ≤ i ∧ F2 Lx = none ∧ Nx K r F1 H1 F2 (cutH H Lx) w2 ∧ Out PF K r F2 (cutH H Lx) (bnd (mapD (bodyD tg ft fe ρ) (ds.drop i)) (fun rest => ret (.list (out ++ rest))) w2) Q
  refine ⟨fun i m H => m = ds.length - i ∧ i ≤ ds.length ∧ Wn i H, ⟨ds.length, rfl, Nat.zero_le _, ?_⟩, ?_⟩
  · show G _ ∧ _
    rw [del_upd, del_none hD]
    exact ⟨hG, F1, w1, [], [], upd_same, RpL.nil, Nat.zero_le _, f1, Nx.refl n1.inn n1.row, o1⟩
  · rintro i m H ⟨rfl, hi, hG, F2, w2, acc, out, hD, l, lo, fD, n, o⟩
    have hGH : G H := jok.keep _ _ hG fun a u _ q => del_sub _ _ q
    by_cases hlt : i < ds.length
    · refine .inr ⟨jok.go i H hlt hGH, fun H' => Wn (i + 1) H', fun H' q => ⟨_, by omega, rfl, by omega, q⟩, fun x H' hy => ?_⟩
      obtain ⟨F', d, ed, n', p⟩ := jok.yld hlt hGH n.sub (n.inn.trans del_sub) (row_del n.row) hy
      obtain ⟨nd, hD', fD'⟩ := n'.del hD fD off
      have e : ds.drop i = d :: ds.drop (i + 1) := by
        obtain ⟨h1, h2⟩ := List.getElem?_eq_some_iff.mp ed
        rw [List.drop_eq_getElem_cons h1, h2]
      rw [e] at o
      have o' := o.step nd
      rw [show mapD (bodyD tg ft fe ρ) (d :: ds.drop (i + 1)) = bnd (bodyD tg ft fe ρ d) (fun o => bnd (mapD (bodyD tg ft fe ρ) (ds.drop (i + 1))) fun r => ret (match o with | some x => x :: r | none => r)) from rfl, bnd_bnd] at o'
      cases k : bindT tg d (wipeE ρ tg.slots) with
      | none => rw [show bodyD tg ft fe ρ d = bad by unfold bodyD; rw [k]] at o'; exact o'.elim
      | some ρ' =>
        rw [show bodyD tg ft fe ρ d = bnd (ft ρ') fun k => if k then bnd (fe ρ') fun x => ret (some x) else ret none by unfold bodyD; rw [k], bnd_bnd] at o'
        have sx : Sx K r F' H' (wipeE ρ tg.slots) (L2.wipe σ tg.slots) w2 := ((s1.nx (n.trans nd)).up).wipe _
        refine ⟨r, F', _, w2, d, ρ', sx, p, k, fun σ2 s2 off2 => ⟨off2.wipe.trans wipe_wipe, r, F', ρ', w2, s2, ?_⟩⟩
        cases e1 : ft ρ' w2 with
        | exc c xs w3 => unfold bnd at o'; rw [e1] at o'; exact o'
        | bad => unfold bnd at o'; rw [e1] at o'; exact o'
        | ok b w3 =>
          rw [bnd_ok e1] at o'
          intro b' F3 H3 n3 pb
          cases (show b = b' from pb)
          obtain ⟨nd3, hD3, fD3⟩ := n3.del hD' fD' off
          have o3 := o'.step nd3
          cases b with
          | false =>
            refine ⟨jok.keep _ _ hG fun a u h q => nd3.keep _ _ h (nd.keep _ _ h q), F3, w3, acc, out, hD3, RpL.mono (nd.sub.trans nd3.sub) _ _ l, by omega, fD3, (n.trans nd).trans nd3, ?_⟩
            have o4 : Out PF K r F3 (cutH H3 Lx) (bnd (bnd (mapD (bodyD tg ft fe ρ) (ds.drop (i + 1))) fun r => ret r) (fun rest => ret (.list (out ++ rest))) w3) Q := o3
            rw [bnd_bnd] at o4
            exact o4
          | true =>
            refine ⟨r, F3, ρ', w3, s2.nx n3, ?_⟩
            have o4 : Out PF K r F3 (cutH H3 Lx) (bnd (bnd (fe ρ') fun x => ret (some x)) (fun o => bnd (bnd (mapD (bodyD tg ft fe ρ) (ds.drop (i + 1))) fun r => ret (match o with | some x => x :: r | none => r)) fun rest => ret (.list (out ++ rest))) w3) Q := o3
            rw [bnd_bnd] at o4
            cases e2 : fe ρ' w3 with
            | exc c xs w4 => unfold bnd at o4; rw [e2] at o4; exact o4
            | bad => unfold bnd at o4; rw [e2] at o4; exact o4
            | ok y' w4 =>
              rw [bnd_ok e2, bnd_ret] at o4
              intro y F4 H4 n4 py
              obtain ⟨nd4, hD4, fD4⟩ := n4.del hD3 fD3 off
              have o5 := o4.step nd4
              refine ⟨acc, hD4, by rw [← l.length]; omega, ?_⟩
              show G _ ∧ _
              rw [del_upd]
              refine ⟨jok.keep _ _ hG fun a u h q => nd4.keep _ _ h (nd3.keep _ _ h (nd.keep _ _ h q)), F4, w4, acc ++ [y], out ++ [y'], upd_same, (RpL.mono ((nd.sub.trans nd3.sub).trans nd4.sub) _ _ l).append (RpL.cons py RpL.nil), by rw [List.length_append]; exact Nat.succ_le_succ lo, fD4, ((n.trans nd).trans nd3).trans nd4, ?_⟩
              rw [bnd_bnd] at o5
              rw [show (fun rest => ret (PyData.list (out ++ [y'] ++ rest)) : List D → M D) = fun r => bnd (ret (y' :: r)) fun rest => ret (.list (out ++ rest)) from funext fun r => by rw [bnd_ret, List.append_assoc]; rfl]
              exact o5
    · have e : i = ds.length := by omega
      subst e
      refine .inl ⟨jok.stop H hGH, ?_⟩
      rw [List.drop_length] at o
      have o' : Out PF K r F2 (cutH H Lx) (.ok (.list (out ++ [])) w2) Q := o
      rw [List.append_nil] at o'
      exact o' _ F2 H (Nx.up n.inn n.row) ⟨Lx, acc, out, rfl, rfl, hD, l, fD, del_same, off.ne, by omega⟩
theorem f_comp {tg : Tg} {fe : Ev → M D} {ifs : List Expr} {scope : Scope} {own : List (Str × Nat)} (hc : X.calm = true) (hN : X.N.Nodup) (hi : DIo X tgt it fl) (ok : BlkOk X.N X.env.scope scope own) (ho : own.map (·.2) = tg.slots)
    (hg : ∀ (s : Shared) (H : Hp) (C : Addr) (cl : List (Str × Addr)) (fp : List Addr), PG (X.blk s H scope (compEnvC scope cl C X.env) fp) tgt (tG X.K tg))
    (ht : ∀ (s : Shared) (H : Hp) (C : Addr) (cl : List (Str × Addr)) (fp : List Addr), DTs (X.blk s H scope (compEnvC scope cl C X.env) fp) ifs ft)
    (he : ∀ (s : Shared) (H : Hp) (C : Addr) (cl : List (Str × Addr)) (fp : List Addr), DE (X.blk s H scope (compEnvC scope cl C X.env) fp) elt fe) (hs : ∀ x, foldedSetIterable it X.env x = pure x) :
    DF X (.ListComp elt [⟨tgt, it, ifs, 0⟩] scope pos) (fun ρ => bnd (fl ρ) fun ds => bnd (mapD (bodyD tg ft fe ρ) ds) fun out => ret (.list out)) := by
  have h := pe_lc (pos := pos) (te := tOut PV X.K fe) (tt := tOut PB X.K ft) hc hN hi ok hg ht he hs
  rw [ho] at h
  exact PE_imp h comp_read
end
end Dn
namespace Dn
open PySem PySem.Spec PyProof.Rows L2
/-! ### enumerate over a tuple or a list -/
set_option maxHeartbeats 8000000 in
theorem enum_newT (q : Addr) (vs : Array Value) (m : Nat) (dd : Option Addr) (ss : Array (Option Value)) :
    Meets (Builtin.«enumerate.__new__» ⟨[.type "enumerate", .ref q], []⟩) (fun _ R s => s.heap.get? q = some ⟨.type "tuple", dd, .seq vs m, ss⟩ ∧
      R (.ok (.ret (.ref (s.heap.push { cls := .type "tuple_iterator", data := .fields #[.ref q, .int 0 0] }).objs.size))) { s with heap := (s.heap.push { cls := .type "tuple_iterator", data := .fields #[.ref q, .int 0 0] }).push { cls := .type "enumerate", data := .fields #[.none, .bool false, .ref s.heap.objs.size, rawInt 0, .none, .none] } }) :=
  .of_wp fun prog w A R s h => by
    obtain ⟨hp, g, d, tk, os⟩ := s; obtain ⟨hq, h⟩ := h
    have hsub := sub_enumerate; have hT : Heap.IsTuple (Shared.heap ⟨hp, g, d, tk, os⟩) q vs := ⟨_, hq, rfl, m, rfl⟩
    wp_walk using AutoSeq1.wpAny_loadPart' hq
    refine wpAny_stack_any fun st => wpAny_pure ?_
    split
    · rename_i c _ _ _ _ _; cases (c == Value.type "enumerate") <;> (wp_walk using AutoSeq1.wpAny_loadPart' hq, wpAny_pyIter_tuple hT; exact ⟨_, rfl, h⟩)
    · wp_walk using AutoSeq1.wpAny_loadPart' hq, wpAny_pyIter_tuple hT; exact ⟨_, rfl, h⟩
section
variable {prog : Program} {w : World} {A : Around} {E : Value → Shared → Prop} {s : Shared}
theorem enum_callT {q : Addr} {vs : Array Value} {Q : Value → Shared → Prop} (hq : s.heap.IsTuple q vs)
    (h : ∀ h', IsEnum h' (s.heap.objs.size + 1) s.heap.objs.size 0 .none → h'.IsTupleIter s.heap.objs.size q 0 → h'.objs.size = s.heap.objs.size + 2 → (∀ b o, s.heap.get? b = some o → h'.get? b = some o) → Q (.ref (s.heap.objs.size + 1)) { s with heap := h' }) : wpAny (model prog w) A (call (.type "enumerate") [.ref q]) Q E s := by
  obtain ⟨⟨cc, dd, dt, ss⟩, ho, hc, m, hd⟩ := hq
  cases (show cc = .type "tuple" from hc)
  cases (show dt = .seq vs m from hd)
  refine callType_new F.called_enumerate (by decide) (F.typeCall_enumerate_1 _) (F.newCall_enumerate_1 _) (fun obj => F.args_object_init_2 obj _) F.entry_enumerate_new (enum_newT q vs m dd ss) ⟨ho, ?_⟩
  have sz : (s.heap.push { cls := .type "tuple_iterator", data := .fields #[.ref q, .int 0 0] }).objs.size = s.heap.objs.size + 1 := Heap.size_push ..
  show _ ∧ _
  rw [sz]
  have he : IsEnum ((s.heap.push { cls := .type "tuple_iterator", data := .fields #[.ref q, .int 0 0] }).push { cls := .type "enumerate", data := .fields #[.none, .bool false, .ref s.heap.objs.size, rawInt 0, .none, .none] }) (s.heap.objs.size + 1) s.heap.objs.size 0 .none := by
    have z := Heap.get?_push_size (s.heap.push { cls := .type "tuple_iterator", data := .fields #[.ref q, .int 0 0] }) (o := { cls := .type "enumerate", data := .fields #[.none, .bool false, .ref s.heap.objs.size, rawInt 0, .none, .none] }) rfl
    rw [sz] at z
    exact z
  exact ⟨⟨_, he, rfl⟩, h _ he ⟨_, Heap.get?_push_of_some _ (Heap.get?_push_size _ rfl), rfl, rfl⟩ (by rw [Heap.size_push, sz]) fun b o y => Heap.get?_push_of_some _ (Heap.get?_push_of_some _ y)⟩
end
/-- the tuple at a as it stands at each turn, each item in a new pair -/
def IteT (K : PySem.W.Frag) (a : Addr) : It :=
  ⟨fun i H => ∃ (ys : List V) (y : V), SqT K H a ys ∧ ys[i]? = some y, fun i H v H' => ∃ T y, v = .ref T ∧ H T = none ∧ H' = upd H T (.tup [.int (i : Nat), y]) ∧ ∀ ys, SqT K H a ys → ys[i]? = some y, fun i H => ∃ ys : List V, SqT K H a ys ∧ ys.length = i⟩
theorem turn_enumT {P : Program} {w : World} {K : PySem.W.Frag} {elts : List Expr} {kk : Nat} {tpos : Pos} (a e it : Addr) :
    Turn P w K (.Tuple elts kk tpos) (IteT K a) [e, it] e (fun i h => (∃ old, IsEnum h e it ((i : Nat) : Int) old) ∧ h.IsTupleIter it a i ∧ (e ≠ it ∧ a ≠ it ∧ a ≠ e)) where
  mem := List.mem_cons_self ..
  obj := fun i h st b hb => by
    obtain ⟨⟨old, he⟩, ⟨o, ho, hc, hd⟩, _⟩ := st
    rcases (show b = e ∨ b = it by simpa using hb) with z | z <;> rw [z]
    · exact ⟨_, he, fun v q => nomatch q⟩
    · exact ⟨o, ho, fun v q => by rw [hd] at q; cases q⟩
  keep := fun i h h' ⟨⟨old, he⟩, hi, hne⟩ k => ⟨⟨old, k e (List.mem_cons_self ..) _ he⟩, hi.at fun o q => k it (by simp) o q, hne⟩
  item := by
    intro X hP hw hK hc i pins s σ H E I hf st hg
    subst hP hw hK
    obtain ⟨⟨old, he⟩, hit, hne, hai, hae⟩ := st
    obtain ⟨xs, x, hq, hx⟩ := hg
    obtain ⟨its, rv, p, hz⟩ := I.tuple hq
    obtain ⟨u, hu, ru⟩ := rv.get hx
    have hel : e < s.heap.objs.size := Heap.lt_size he
    have hil : it < s.heap.objs.size := by obtain ⟨_, q, _⟩ := hit; exact Heap.lt_size q
    have hlen : i < its.toArray.size := by
      have hu' : its[i]? = some u := hu
      simpa using (List.getElem?_eq_some_iff.mp hu').1
    refine wpAny_pyNext_enum_itemD (Draws.tuple (A := X.A.in1) (show X.A.in1.handled = none from I.ok.hd hc) it a hai its.toArray) he ⟨hit, p⟩ hlen hne (by simp [hne, hae.symm]) fun x' h' tk hx' ho st' hT hsz hk => ?_
    have ex' : x' = u := by
      have q1 : its.toArray[i]? = some x' := hx'
      have q2 : its.toArray[i]? = some u := by simpa using hu
      exact Option.some.inj (q1.symm.trans q2)
    subst ex'
    refine ⟨_, rfl, wpAny_letOwnedTupleGo_enum (s := { s with heap := h', toks := tk + 1 }) ho fun h'' he' sb => ?_⟩
    have hT2 : h''.get? s.heap.objs.size = some { cls := .type "tuple", data := .seq #[.int i tk, x'] } := (sb.2 _ (Nat.ne_of_gt hel)).trans hT
    have new : ObjOk X.prog X.w (upd H s.heap.objs.size (.tup [.int (i : Nat), x])) h'' s.heap.objs.size (.tup [.int (i : Nat), x]) :=
      ⟨by show 2 ≤ sizeLine; decide, [.int i tk, x'], .cons ⟨_, rfl⟩ (.cons ru .nil), ⟨_, hT2, rfl, _, rfl⟩⟩
    have I1 : Inv X pins σ (upd H s.heap.objs.size (.tup [.int (i : Nat), x])) { s with heap := h'', toks := tk + 1 } :=
      I.turnedNew (ch := [e, it]) (fun b ob hb q => (sb.2 b (fun z => hb (by simp [z]))).trans (hk b ob (fun z => hb (by simp [z])) (fun z => hb (by simp [z])) q)) hf (Nat.le_refl _) new
    refine ⟨.ref s.heap.objs.size, _, I1, rfl, ⟨_, x, rfl, I.hok.fresh (Nat.le_refl _), rfl, fun ys hy => by rw [I.tuple_inj hy hq]; exact hx⟩, ⟨⟨x', ?_⟩, st'.1.at fun o q => (sb.2 it (Ne.symm hne)).trans q, hne, hai, hae⟩, fun b hb => ?_⟩
    · rw [show ((i + 1 : Nat) : Int) = (i : Int) + 1 by omega]
      exact he'
    · have hb' : b < s.heap.objs.size := by
        rcases (show b = e ∨ b = it by simpa using hb) with z | z <;> rw [z] <;> assumption
      rw [upd_ne (Nat.ne_of_lt hb')]
      exact (hf b hb).1
  done := by
    intro X hP hw hK hc i pins s σ H E I hf st hg
    subst hP hw hK
    obtain ⟨⟨old, he⟩, hit, hne, hai, hae⟩ := st
    obtain ⟨xs, hq, hx⟩ := hg
    obtain ⟨its, rv, p, hz⟩ := I.tuple hq
    obtain ⟨f0, f1, f2, f3, f4, f5⟩ := hf it (by simp)
    have hn : i = its.toArray.size := by
      have := rv.length
      simp
      omega
    have p' : s.heap.IsTuple a its.toArray := p
    exact wpAny_pyNext_enum_endD (Draws.tuple (A := X.A.in1) (show X.A.in1.handled = none from I.ok.hd hc) it a hai its.toArray) he ⟨by rw [← hn]; exact hit, p'⟩ fun h' eb => ⟨rfl, I.turned (t' := s.toks) (fun b o hb q => eb b o hb q) f0 f1 f3 f4 f5⟩
  self := fun A i s Q E ⟨⟨_, he⟩, _⟩ h => wpAny_pyIter_enum he h
def iEnumA (K : PySem.W.Frag) (tl : TE) : TI := fun σ H R => tl σ H fun x H1 => ∃ a xs, ([x] : List V) = [V.ref a] ∧ ((SqL K H1 a xs ∧ R (Ite K a) H1) ∨ (SqT K H1 a xs ∧ R (IteT K a) H1))
theorem pi_enumA {X : Cx} {e : Expr} {tl : TE} {p pos tpos : Pos} {elts : List Expr} {kk : Nat} (hg : Gl X "enumerate") (hm : X.mg "enumerate" = none) (he : PE X e tl) (hs : starEach [e] X.env = (false, eval e X.env) :: starEach [] X.env) :
    PI X (.Tuple elts kk tpos) (.Call (.Name "enumerate" p) [e] [] pos) (iEnumA X.K tl) := by
  refine ⟨fun pins s σ H R I h => ?_⟩
  refine Call_ (ld_blt I hg hm boot_enumerate (PyProof.Rows.callWith_type1 (thn ((pa_cons he pa_nil hs).run pos pins s σ H (fun vs H1 => ∃ a xs, vs = [.ref a] ∧ ((SqL X.K H1 a xs ∧ R (Ite X.K a) H1) ∨ (SqT X.K H1 a xs ∧ R (IteT X.K a) H1))) I h) fun us s1 ⟨vs, H1, I1, r1, q1⟩ => ?_) hs rfl))
  obtain ⟨a, xs, ex, hq⟩ := q1
  subst ex
  cases r1 with
  | cons r rr =>
    cases rr
    cases r
    have two : ∀ b, b ∈ [s1.heap.objs.size + 1, s1.heap.objs.size] → FpOk X pins H1 b := fun b hb => by
      have hle : s1.heap.objs.size ≤ b := by
        rcases (show b = s1.heap.objs.size + 1 ∨ b = s1.heap.objs.size by simpa using hb) with z | z <;> rw [z] <;> omega
      exact I1.fpOk hle (I1.hok.fresh hle)
    rcases hq with ⟨hq, q⟩ | ⟨hq, q⟩
    · obtain ⟨its, rv, p', hz⟩ := I1.list hq
      refine call_enumerate_list p'.isList fun h' he hit hsz hk => wpAny_pyIter_enum he ?_
      exact ⟨s1.heap.objs.size + 1, [s1.heap.objs.size + 1, s1.heap.objs.size], _, _, H1, rfl, I1.kept (t' := s1.toks) hk, turn_enum a (s1.heap.objs.size + 1) s1.heap.objs.size, ⟨⟨.none, he⟩, hit, Nat.succ_ne_self _⟩, two, q⟩
    · obtain ⟨its, rv, p', hz⟩ := I1.tuple hq
      have p2 : s1.heap.IsTuple a its.toArray := p'
      have ha : a < s1.heap.objs.size := by obtain ⟨_, q, _⟩ := p2; exact Heap.lt_size q
      refine enum_callT p2 fun h' he hit hsz hk => wpAny_pyIter_enum he ?_
      exact ⟨s1.heap.objs.size + 1, [s1.heap.objs.size + 1, s1.heap.objs.size], _, _, H1, rfl, I1.kept (t' := s1.toks) hk, turn_enumT a (s1.heap.objs.size + 1) s1.heap.objs.size, ⟨⟨.none, he⟩, hit, Nat.succ_ne_self _, Nat.ne_of_lt ha, Nat.ne_of_lt (Nat.lt_succ_of_lt ha)⟩, two, q⟩
section
variable {X : Cx} {e a b c it tgt : Expr} {es rest elts : List Expr} {fa : Ev → M D} {pos p tpos : Pos} {K : PySem.W.Frag} {r : Rw} {F H : Hp} {ρ : Ev} {σ : L2.St} {w : W} {i kk : Nat}
theorem enum_len (xs : List D) : (enumD xs).length = xs.length := by
  unfold enumD
  rw [List.length_zipWith, List.length_range, Nat.min_self]
theorem enum_get {xs : List D} {i : Nat} {x : D} (h : xs[i]? = some x) : (enumD xs)[i]? = some (.tuple [.int (i : Int), x]) := by
  unfold enumD
  have hi : i < xs.length := (List.getElem?_eq_some_iff.mp h).1
  rw [List.getElem?_zipWith, List.getElem?_range hi, h]
theorem ipair_rp {x : V} {d : D} {n : Int} {T : Addr} {F0 : Hp} (s0 : Sub F0 F) (s : Sub F H) (k : RowOk K r F H w) (hT : H T = none) (p : Rp F0 d x) : Nx K r F H (upd F T (.tup [.int n, x])) (upd H T (.tup [.int n, x])) w ∧ Rp (upd F T (.tup [.int n, x])) (.tuple [.int n, d]) (.ref T) :=
  pair_rp s0 s k hT (show Rp F0 (.int n) (.int n) from rfl) p
theorem jok_enumL {a : Addr} {vs : List V} {ds : List D} {F0 : Hp} (ha : r.a ≠ some a) (l : RpL F0 ds vs) : JOk K r F0 (Ite K a) (fun H => SqL K H a vs) (enumD ds) where
  go := fun i H hi h => by
    rw [enum_len] at hi
    obtain ⟨v, e, _⟩ := l.get (List.getElem?_eq_getElem hi)
    exact ⟨vs, v, h, e⟩
  stop := fun H h => ⟨vs, h, by rw [enum_len, l.length]; omega⟩
  yld := fun {i F H x H' w} hi h s0 s k ⟨T, y, e1, hT, e2, q1⟩ => by
    subst e1; subst e2
    rw [enum_len] at hi
    obtain ⟨v, e, p⟩ := l.get (List.getElem?_eq_getElem hi)
    cases Option.some.inj ((q1 vs h).symm.trans e)
    obtain ⟨n, p3⟩ := ipair_rp s0 s k hT p
    exact ⟨_, _, enum_get (List.getElem?_eq_getElem _), n, p3⟩
  keep := fun H H' h k => sql_keep ha h k
theorem jok_enumT {a : Addr} {vs : List V} {ds : List D} {F0 : Hp} (ha : r.a ≠ some a) (l : RpL F0 ds vs) : JOk K r F0 (IteT K a) (fun H => H a = some (.tup vs)) (enumD ds) where
  go := fun i H hi h => by
    rw [enum_len] at hi
    obtain ⟨v, e, _⟩ := l.get (List.getElem?_eq_getElem hi)
    exact ⟨vs, v, SqT.of h, e⟩
  stop := fun H h => ⟨vs, SqT.of h, by rw [enum_len, l.length]⟩
  yld := fun {i F H x H' w} hi h s0 s k ⟨T, y, e1, hT, e2, q1⟩ => by
    subst e1; subst e2
    rw [enum_len] at hi
    obtain ⟨v, e, p⟩ := l.get (List.getElem?_eq_getElem hi)
    cases Option.some.inj ((q1 vs (SqT.of h)).symm.trans e)
    obtain ⟨n, p3⟩ := ipair_rp s0 s k hT p
    exact ⟨_, _, enum_get (List.getElem?_eq_getElem _), n, p3⟩
  keep := fun H H' h k => k _ _ ha h
theorem i_enum (hg : Gl X "enumerate") (hm : X.mg "enumerate" = none) (hs : starEach [a] X.env = (false, eval a X.env) :: starEach [] X.env) (ha : DE X a fa) :
    DI X (.Tuple elts kk tpos) (.Call (.Name "enumerate" p) [a] [] pos) (fun ρ => bnd (bnd (bnd (fa ρ) itemsOf) fun xs => ret (.list (enumD xs))) itemsOf) := by
  refine PI_imp (pi_enumA hg hm ha hs) fun σ H R ⟨rr, F, ρ, w, s, o⟩ => ?_
  dsimp only at o
  rw [bnd_bnd, bnd_bnd] at o
  refine ⟨rr, F, ρ, w, s, (Out.bind (P := PV) (P' := PJ X.K) o).mono fun x H1 ⟨F1, d, w1, n1, p1, o1⟩ => ?_⟩
  cases d with
  | list ds =>
    obtain ⟨z1, q1, vs, rfl, h1, l1⟩ := p1.lst
    exact ⟨q1, vs, rfl, .inl ⟨SqL.of (n1.inn _ _ h1), o1 _ F1 H1 (Nx.refl n1.inn n1.row) ⟨_, jok_enumL (n1.row.ne h1) l1, fun H s => SqL.of (s _ _ h1), by rw [enum_len]; exact z1⟩⟩⟩
  | tuple ds =>
    obtain ⟨z1, q1, vs, rfl, h1, l1⟩ := p1.tup
    exact ⟨q1, vs, rfl, .inr ⟨SqT.of (n1.inn _ _ h1), o1 _ F1 H1 (Nx.refl n1.inn n1.row) ⟨_, jok_enumT (n1.row.ne h1) l1, fun H s => s _ _ h1, by rw [enum_len]; exact z1⟩⟩⟩
  | _ => exact o1.elim
end
end Dn
namespace Dn
open PySem PySem.Spec PyProof.Rows L2
set_option autoImplicit true
/-! ### list(range(..)), tuple(range(..)) -/
theorem rpl_ints (F : Hp) (lo : Int) : ∀ l : List Nat, RpL F (l.map fun (k : Nat) => PyData.int (lo + (k : Int))) (l.map fun (k : Nat) => V.int (lo + (k : Int)))
  | [] => rfl
  | k :: l => ⟨_, _, rfl, rfl, rpl_ints F lo l⟩
def RgC (i j : Int) : Prop := -(2 ^ 62) ≤ i ∧ i < 2 ^ 62 ∧ -(2 ^ 62) ≤ j ∧ j < 2 ^ 62 ∧ j - i ≤ 1000000
theorem rangeD_yes {i j : Int} (h : RgC i j) : rangeD i j = ret (.list ((List.range (j - i).toNat).map fun (k : Nat) => PyData.int (i + (k : Int)))) := if_pos h
theorem rangeD_no {i j : Int} (h : ¬ RgC i j) : rangeD i j = bad := if_neg h
theorem rg_ok {i j : Int} (h : RgC i j) : RgOk i j := by
  obtain ⟨h1, h2, h3, h4, h5⟩ := h
  exact ⟨h1, h2, h3, h4, by omega⟩
theorem rg_len {i j : Int} (h : RgC i j) : ((List.range (j - i).toNat).map fun (k : Nat) => PyData.int (i + (k : Int))).length ≤ sizeLine := by
  rw [List.length_map, List.length_range]
  exact line_of h.2.2.2.2
section
variable {X : Cx} {a b : Expr} {fa fb : Ev → M D} {pos p p2 pos2 : Pos} {K : PySem.W.Frag} {rr : Rw} {F H : Hp} {w : W}
theorem rgL {i j : Int} {Q : VK} (s : Sub F H) (k : RowOk K rr F H w) (o : Out PF K rr F H (rangeD i j w) Q) : RgOk i j ∧ ∀ q, H q = none → Q (.ref q) (upd H q (.lst (rgV i j))) := by
  by_cases hc : RgC i j
  · rw [rangeD_yes hc] at o
    refine ⟨rg_ok hc, fun q hp => ?_⟩
    have n := Nx.fresh (K := K) (r := rr) (w := w) (o := .lst (rgV i j)) s k hp
    refine o _ F _ n ⟨q, rgV i j, _, rfl, rfl, upd_same, rpl_ints F i _, ?_, hp, fun e => ?_, rg_len hc⟩
    · cases z : F q with
      | none => rfl
      | some o => rw [s q o z] at hp; cases hp
    · obtain ⟨o, z⟩ := k.there e
      rw [z] at hp; cases hp
  · rw [rangeD_no hc] at o
    exact o.elim
theorem rgT {i j : Int} {Q : VK} (s : Sub F H) (k : RowOk K rr F H w) (o : Out PV K rr F H (bnd (rangeD i j) toT w) Q) : RgOk i j ∧ ∀ q, H q = none → Q (.ref q) (upd H q (.tup (rgV i j))) := by
  by_cases hc : RgC i j
  · rw [rangeD_yes hc, bnd_ret] at o
    exact ⟨rg_ok hc, fun q hp => finT s k o hp (rg_len hc) (rpl_ints F i _)⟩
  · rw [rangeD_no hc] at o
    exact o.elim
theorem f_listR1 (hc : X.calm = true) (hl : Gl X "list") (hlm : X.mg "list" = none) (hg : Gl X "range") (hm : X.mg "range" = none) (hs : starEach [a] X.env = (false, eval a X.env) :: starEach [] X.env) (ha : DE X a fa) :
    DF X (.Call (.Name "list" p) [.Call (.Name "range" p2) [a] [] pos2] [] pos) (fun ρ => bnd (bnd (fa ρ) asI) fun j => rangeD 0 j) :=
  PE_imp (pe_listRg hc hl hlm (prg_1 hg hm ha hs)) fun σ H R ⟨rr, F, ρ, w, s, o⟩ => by
    dsimp only at o
    rw [bnd_bnd] at o
    refine ⟨rr, F, ρ, w, s, (Out.bind (P := PV) (P' := PF) o).mono fun x H1 ⟨F1, d, w1, n1, p1, o1⟩ => ?_⟩
    cases d with
    | int i => exact ⟨i, p1, rgL n1.inn n1.row o1⟩
    | _ => exact o1.elim
theorem s_tupR1 (hc : X.calm = true) (hl : Gl X "tuple") (hlm : X.mg "tuple" = none) (hg : Gl X "range") (hm : X.mg "range" = none) (hs : starEach [a] X.env = (false, eval a X.env) :: starEach [] X.env) (ha : DE X a fa) :
    DE X (.Call (.Name "tuple" p) [.Call (.Name "range" p2) [a] [] pos2] [] pos) (fun ρ => bnd (bnd (bnd (fa ρ) asI) fun j => rangeD 0 j) toT) :=
  PE_imp (pe_tupRg hc hl hlm (prg_1 hg hm ha hs)) fun σ H R ⟨rr, F, ρ, w, s, o⟩ => by
    dsimp only at o
    rw [bnd_bnd, bnd_bnd] at o
    refine ⟨rr, F, ρ, w, s, (Out.bind (P := PV) (P' := PV) o).mono fun x H1 ⟨F1, d, w1, n1, p1, o1⟩ => ?_⟩
    cases d with
    | int i => exact ⟨i, p1, rgT n1.inn n1.row o1⟩
    | _ => exact o1.elim
theorem f_listR2 (hc : X.calm = true) (hl : Gl X "list") (hlm : X.mg "list" = none) (hg : Gl X "range") (hm : X.mg "range" = none) (hs : starEach [a, b] X.env = (false, eval a X.env) :: starEach [b] X.env) (hs2 : starEach [b] X.env = (false, eval b X.env) :: starEach [] X.env) (hpl : (backTo pos2 (starEach [b] X.env)).any (·.1) = false) (ha : DE X a fa) (hb : DE X b fb) :
    DF X (.Call (.Name "list" p) [.Call (.Name "range" p2) [a, b] [] pos2] [] pos) (fun ρ => bnd (bnd (fa ρ) asI) fun i => bnd (bnd (fb ρ) asI) fun j => rangeD i j) :=
  PE_imp (pe_listRg hc hl hlm (prg_2 hg hm ha hb hs hs2 hpl)) fun σ H R ⟨rr, F, ρ, w, s, o⟩ => by
    dsimp only at o
    rw [bnd_bnd] at o
    refine ⟨rr, F, ρ, w, s, (Out.bind (P := PV) (P' := PF) o).mono fun x H1 ⟨F1, d, w1, n1, p1, o1⟩ => ?_⟩
    cases d with
    | int i =>
      dsimp only [asI] at o1
      rw [bnd_ret, bnd_bnd] at o1
      refine ⟨rr, F1, ρ, w1, s.nx n1, (Out.bind (P := PV) (P' := PF) o1).mono fun y H2 ⟨F2, u, w2, n2, p2, o2⟩ => ?_⟩
      cases u with
      | int j => exact ⟨i, j, p1, p2, rgL n2.inn n2.row o2⟩
      | _ => exact o2.elim
    | _ => exact o1.elim
end
end Dn
namespace Dn
open PySem PySem.Spec PyProof.Rows L2
set_option autoImplicit true
/-! ### the draws' row -/
section
variable {X : Cx} {e a b c it tgt : Expr} {es rest : List Expr} {f fa fb fc fe : Ev → M D} {fl : Ev → M (List D)} {ft : Ev → M Bool} {pos p p2 p3 p4 p5 : Pos} {K : PySem.W.Frag} {r : Rw} {F H F0 H0 F1 H1 : Hp} {ρ ρ' : Ev} {σ σ' : L2.St} {w w1 : W} {i j : Nat} {d : D} {v : V} {rv : Str} {kk : Nat}
theorem row_of (s : Sx K r F H ρ σ w) (e : ρ[i]? = some .row) : ∃ a t, r = some (a, t, w.ns) ∧ σ[i]? = some (some (.ref a)) ∧ F a = none ∧ (t ≠ a ∨ ∀ H', SqL K H' t (w.ns.map V.int)) ∧ H a = some (.lst [.ref t, .int w.i, .int w.s, .int w.q]) ∧ SqL K H t (w.ns.map V.int) := by
  obtain ⟨a, e1, e2⟩ := s.rw i e
  have k := s.row
  cases r with
  | none => cases e1
  | some z =>
    obtain ⟨b, t, ns⟩ := z
    have ea : b = a := Option.some.inj e1
    subst ea
    obtain ⟨h1, h2, h3, h4, h5⟩ := k
    subst h3
    exact ⟨b, t, rfl, e2, h1, h2, h4, h5⟩
theorem s_rowAt (hN : X.N[i]? = some rv) (hv : Vis X.env.scope rv) (hd : (rv == ("__debug__" : Str)) = false) (hcd : (rv == ("__classdict__" : Str)) = false) :
    DE X (.Subscript (.Name rv p) (.Constant (.int (j : Int)) kk p2) pos) (den (.rowAt i j)) :=
  PE_imp (pe_ix ix_list (pe_var hN hv hd hcd) pe_int (fun _ _ => rfl)) fun σ H Q ⟨rr, F, ρ, w, s, o⟩ => by
    simp only [den] at o
    cases e : ρ[i]? with
    | none => rw [e] at o; exact o.elim
    | some z =>
      rw [e] at o
      cases z with
      | row =>
        obtain ⟨a, t, rfl, h1, h2, h3, h4, h5⟩ := row_of s e
        refine ⟨.ref a, h1, a, [.ref t, .int w.i, .int w.s, .int w.q], (j : Int), ?_⟩
        match j, o with
        | 1, o => exact ⟨.int w.i, rfl, rfl, SqL.of h4, atI_nat (j := 1) rfl, o _ F H (Nx.refl s.sub s.row) rfl⟩
        | 2, o => exact ⟨.int w.s, rfl, rfl, SqL.of h4, atI_nat (j := 2) rfl, o _ F H (Nx.refl s.sub s.row) rfl⟩
        | 3, o => exact ⟨.int w.q, rfl, rfl, SqL.of h4, atI_nat (j := 3) rfl, o _ F H (Nx.refl s.sub s.row) rfl⟩
        | 0, o => exact o.elim
        | (n + 4), o => exact o.elim
      | _ => exact o.elim
theorem s_scrLen (hg : Gl X "len") (hm : X.mg "len" = none) (hN : X.N[i]? = some rv) (hv : Vis X.env.scope rv) (hd : (rv == ("__debug__" : Str)) = false) (hcd : (rv == ("__classdict__" : Str)) = false) :
    DE X (.Call (.Name "len" p3) [.Subscript (.Name rv p) (.Constant (.int 0) kk p2) p4] [] pos) (den (.scrLen i)) :=
  PE_imp (pe_callB call_len_seq hg hm PySem.boot_len (pa_cons (pe_ix ix_list (pe_var hN hv hd hcd) pe_int (fun _ _ => rfl)) pa_nil)) fun σ H Q ⟨rr, F, ρ, w, s, o⟩ => by
    simp only [den] at o
    cases e : ρ[i]? with
    | none => rw [e] at o; exact o.elim
    | some z =>
      rw [e] at o
      cases z with
      | row =>
        obtain ⟨a, t, rfl, h1, h2, h3, h4, h5⟩ := row_of s e
        refine ⟨.ref a, h1, a, _, 0, .ref t, rfl, rfl, SqL.of h4, atI_nat (j := 0) rfl, t, _, rfl, .inl h5, o _ F H (Nx.refl s.sub s.row) ?_⟩
        rw [List.length_map]; rfl
      | _ => exact o.elim
theorem s_scrAt (hN : X.N[i]? = some rv) (hv : Vis X.env.scope rv) (hd : (rv == ("__debug__" : Str)) = false) (hcd : (rv == ("__classdict__" : Str)) = false) (hs : PlainIx e) (he : DE X e fe) :
    DE X (.Subscript (.Subscript (.Name rv p) (.Constant (.int 0) kk p2) p4) e pos) (fun ρ => match ρ[i]? with | some .row => bnd (bnd (fe ρ) asI) fun k => fun w => (match L2.atI w.ns k with | some n => .ok (.int n) w | none => .bad) | _ => bad) :=
  PE_imp (pe_ix ix_list (pe_ix ix_list (pe_var hN hv hd hcd) pe_int (fun _ _ => rfl)) he hs) fun σ H Q ⟨rr, F, ρ, w, s, o⟩ => by
    dsimp only at o
    cases e : ρ[i]? with
    | none => rw [e] at o; exact o.elim
    | some z =>
      rw [e] at o
      cases z with
      | row =>
        obtain ⟨a, t, rfl, h1, h2, h3, h4, h5⟩ := row_of s e
        dsimp only at o
        rw [bnd_bnd] at o
        refine ⟨.ref a, h1, a, _, 0, .ref t, rfl, rfl, SqL.of h4, atI_nat (j := 0) rfl, _, F, ρ, w, s, (Out.bind (P := PV) o).mono fun x H1 ⟨F1, d, w1, n1, p1, o1⟩ => ?_⟩
        cases d with
        | int k =>
          dsimp only [asI] at o1
          rw [bnd_ret] at o1
          cases q : atI w1.ns k with
          | none => rw [q] at o1; exact o1.elim
          | some n =>
            rw [q] at o1
            obtain ⟨k1, k2, k3, k4, k5⟩ := n1.row
            refine ⟨t, _, k, .int n, rfl, p1, k5, ?_, o1 _ F1 H1 (Nx.refl n1.inn n1.row) rfl⟩
            rw [k3] at q
            unfold atI at q ⊢
            rw [List.length_map]
            cases q' : ixN w.ns.length k with
            | none => rw [q'] at q; cases q
            | some m =>
              rw [q'] at q
              show (w.ns.map V.int)[m]? = _
              rw [List.getElem?_map, show w.ns[m]? = some n from q]
              rfl
        | _ => exact o1.elim
      | _ => exact o.elim
/-! ### statements -/
structure Sb (K : PySem.W.Frag) (r : Rw) (F0 H0 F H : Hp) (ρ : Ev) (σ : L2.St) (w : W) : Prop where
  sx : Sx K r F H ρ σ w
  nx : Nx K r F0 H0 F H w
  fr : ∀ (i : Nat) l p, ρ[i]? = some (.own l) → σ[i]? = some (some (V.ref p)) → H0 p = none
def OutS (K : PySem.W.Frag) (r : Rw) (F0 H0 : Hp) (m : R O) (T : Ends) : Prop := match m with
  | .ok (.nx ρ) w => ∀ σ F H, Sb K r F0 H0 F H ρ σ w → T.nx σ H
  | .ok (.rt d) w => ∀ v F H, Nx K r F0 H0 F H w → Rp F d v → T.rt v H
  | _ => False
def tSt (K : PySem.W.Frag) (f : Ev → M O) : TS := fun T σ H => ∃ r F0 H0 F ρ w, Sb K r F0 H0 F H ρ σ w ∧ OutS K r F0 H0 (f ρ w) T
theorem Sb.step (s : Sb K r F0 H0 F H ρ σ w) (n : Nx K r F H F1 H1 w1) : Sb K r F0 H0 F1 H1 ρ σ w1 := ⟨s.sx.nx n, s.nx.trans n, s.fr⟩
theorem OutS.bind {α β : Type} {P : Kind α β} {m : M α} {k : α → M O} {T : Ends} (h : OutS K r F0 H0 (bnd m k w) T) :
    Out P K r F H (m w) fun b H1 => ∃ F1 a w1, Nx K r F H F1 H1 w1 ∧ P r H F1 H1 a b ∧ OutS K r F0 H0 (k a w1) T := by
  unfold bnd at h
  cases e : m w with
  | ok a w1 => rw [e] at h; exact fun b F' H' n p => ⟨F', a, w1, n, p, h⟩
  | exc c xs w1 => rw [e] at h; exact h
  | bad => rw [e] at h; exact h
theorem OutS.mono {m : R O} {T T' : Ends} (h : OutS K r F0 H0 m T) (q : ∀ σ H, T.nx σ H → T'.nx σ H) (q' : ∀ v H, T.rt v H → T'.rt v H) : OutS K r F0 H0 m T' := by
  cases m with
  | ok o w =>
    cases o with
    | nx ρ => exact fun σ F H s => q _ _ (h σ F H s)
    | rt d => exact fun v F H n p => q' _ _ (h v F H n p)
  | exc c xs w => exact h
  | bad => exact h
abbrev DSt (X : Cx) (st : Stmt) (f : Ev → M O) : Prop := PS X st (tSt X.K f)
abbrev DSs (X : Cx) (st : List Stmt) (f : Ev → M O) : Prop := PSs X st (tSt X.K f)
theorem PS_imp {st : Stmt} {t t' : TS} (h : PS X st t) (i : ∀ T σ H, t' T σ H → t T σ H) : PS X st t' := ⟨fun pins s σ H T I q => h.run pins s σ H T I (i T σ H q)⟩
theorem PSs_imp {st : List Stmt} {t t' : TS} (h : PSs X st t) (i : ∀ T σ H, t' T σ H → t T σ H) : PSs X st t' := ⟨fun pins s σ H T I q => h.run pins s σ H T I (i T σ H q)⟩
def seqO (f g : Ev → M O) : Ev → M O := fun ρ => bnd (f ρ) fun o => match o with | .nx ρ' => g ρ' | .rt d => ret (.rt d)
theorem OutS.seq {f g : Ev → M O} {T : Ends} (h : OutS K r F0 H0 (seqO f g ρ w) T) : OutS K r F0 H0 (f ρ w) { T with nx := fun σ H => ∃ F ρ w, Sb K r F0 H0 F H ρ σ w ∧ OutS K r F0 H0 (g ρ w) T } := by
  unfold seqO bnd at h
  cases e : f ρ w with
  | ok o w1 =>
    rw [e] at h
    cases o with
    | nx ρ' => exact fun σ F H s => ⟨F, ρ', w1, s, h⟩
    | rt d => exact h
  | exc c xs w1 => rw [e] at h; exact h
  | bad => rw [e] at h; exact h
section
variable {st : Stmt} {sts body : List Stmt} {g h k : Ev → M O}
theorem ss_nil : DSs X [] (fun ρ => ret (.nx ρ)) := PSs_imp pss_nil fun T σ H ⟨r, F0, H0, F, ρ, w, s, o⟩ => o σ F H s
theorem ss_cons (h1 : DSt X st g) (h2 : DSs X sts h) : DSs X (st :: sts) (seqO g h) :=
  PSs_imp (pss_cons h1 h2) fun T σ H ⟨r, F0, H0, F, ρ, w, s, o⟩ => ⟨r, F0, H0, F, ρ, w, s, (OutS.seq o).mono (fun σ H ⟨F, ρ, w, s, o⟩ => ⟨r, F0, H0, F, ρ, w, s, o⟩) fun _ _ q => q⟩
theorem st_ret (h : DE X e fe) : DSt X (.Return (some e) pos) (fun ρ => bnd (fe ρ) fun d => ret (.rt d)) :=
  PS_imp (ps_ret h) fun T σ H ⟨r, F0, H0, F, ρ, w, s, o⟩ => ⟨r, F, ρ, w, s.sx, (OutS.bind (P := PV) o).mono fun v H1 ⟨F1, d, w1, n1, p1, o1⟩ => o1 v F1 H1 (s.nx.trans n1) p1⟩
theorem st_expr (h : DE X e fe) (hs : swapsWith e none pos.line X.env = pure false) : DSt X (.Expr e pos) (fun ρ => bnd (fe ρ) fun _ => ret (.nx ρ)) :=
  PS_imp (ps_expr h hs) fun T σ H ⟨r, F0, H0, F, ρ, w, s, o⟩ => ⟨r, F, ρ, w, s.sx, (OutS.bind (P := PV) o).mono fun v H1 ⟨F1, d, w1, n1, p1, o1⟩ => o1 σ F1 H1 (s.step n1)⟩
theorem st_if (hc : DT X c ft) (ha : DSs X sts g) (hb : DSs X body h) : DSt X (.If c sts body pos) (fun ρ => bnd (ft ρ) fun k => if k then g ρ else h ρ) :=
  PS_imp (ps_if hc ha hb) fun T σ H ⟨r, F0, H0, F, ρ, w, s, o⟩ => ⟨r, F, ρ, w, s.sx, (OutS.bind (P := PB) o).mono fun b H1 ⟨F1, d, w1, n1, p1, o1⟩ => by
    cases (show d = b from p1)
    cases b with
    | true => exact ⟨r, F0, H0, F1, ρ, w1, s.step n1, o1⟩
    | false => exact ⟨r, F0, H0, F1, ρ, w1, s.step n1, o1⟩⟩
/-- name = value, through whatever rule stores it -/
theorem setV_read {T : Ends} {σ : L2.St} (q : tSt K (fun ρ => bnd (fe ρ) fun d => match bindT (.nm i) d ρ with | some ρ' => ret (.nx ρ') | none => bad) T σ H) : tAsg (tOut PV K fe) (gName i) T σ H := by
  obtain ⟨r, F0, H0, F, ρ, w, s, o⟩ := q
  refine ⟨r, F, ρ, w, s.sx, (OutS.bind (P := PV) o).mono fun v H1 ⟨F1, d, w1, n1, p1, o1⟩ => ?_⟩
  have s1 := s.step n1
  refine o1 (σ.set i (some v)) F1 H1 ⟨s1.sx.setV p1, s1.nx, fun j l p e1 e2 => ?_⟩
  rcases get_set e1 with ⟨rfl, z⟩ | ⟨ne, z⟩
  · cases z
  · rw [List.getElem?_set_ne (Ne.symm ne)] at e2
    exact s1.fr j l p z e2
theorem st_set {x : Str} (hN : X.N.Nodup) (hi : X.N[i]? = some x) (hx : Loc X.env.scope x) (hf : X.fn x = true) (he : DE X e fe) (hs : swapsWith e (some (.Name x p)) pos.line X.env = pure false) :
    DSt X (.Assign [.Name x p] e pos) (fun ρ => bnd (fe ρ) fun d => match bindT (.nm i) d ρ with | some ρ' => ret (.nx ρ') | none => bad) :=
  PS_imp (ps_set hN hi hx he hs (.inl hf)) fun T σ H q => setV_read q
theorem bind_own : ∀ (t : Tg) (d : D) (ρ ρ' : Ev), bindT t d ρ = some ρ' → ∀ (i : Nat) l, ρ'[i]? = some (.own l) → i ∉ t.slots ∧ ρ[i]? = some (.own l)
  | .nm j, d, ρ, ρ', e, i, l, h => by
    cases (show some (ρ.set j (.val d)) = some ρ' from e)
    rcases get_set h with ⟨rfl, z⟩ | ⟨ne, z⟩
    · cases z
    · exact ⟨by simpa [Tg.slots] using ne, z⟩
  | .tup ts, .tuple ds, ρ, ρ', e, i, l, h => bind_own ts (.list ds) ρ ρ' e i l h
  | .tnil, .list [], ρ, ρ', e, i, l, h => by
    cases (show some ρ = some ρ' from e)
    exact ⟨by simp [Tg.slots], h⟩
  | .tcons t u, .list (d :: ds), ρ, ρ', e, i, l, h => by
    rw [show bindT (.tcons t u) (.list (d :: ds)) ρ = (match bindT t d ρ with | some ρ' => bindT u (.list ds) ρ' | none => none) from rfl] at e
    cases k : bindT t d ρ with
    | none => rw [k] at e; cases e
    | some ρ1 =>
      rw [k] at e
      obtain ⟨h1, h2⟩ := bind_own u (.list ds) ρ1 ρ' e i l h
      obtain ⟨h3, h4⟩ := bind_own t d ρ ρ1 k i l h2
      exact ⟨by rw [Tg.slots, List.mem_append, not_or]; exact ⟨h3, h1⟩, h4⟩
  | .tup _, .none, _, _, e, _, _, _ => by cases e
  | .tup _, .bool _, _, _, e, _, _, _ => by cases e
  | .tup _, .int _, _, _, e, _, _, _ => by cases e
  | .tup _, .str _, _, _, e, _, _, _ => by cases e
  | .tup _, .list _, _, _, e, _, _, _ => by cases e
  | .tup _, .dict _, _, _, e, _, _, _ => by cases e
  | .tnil, .none, _, _, e, _, _, _ => by cases e
  | .tnil, .bool _, _, _, e, _, _, _ => by cases e
  | .tnil, .int _, _, _, e, _, _, _ => by cases e
  | .tnil, .str _, _, _, e, _, _, _ => by cases e
  | .tnil, .list (_ :: _), _, _, e, _, _, _ => by cases e
  | .tnil, .tuple _, _, _, e, _, _, _ => by cases e
  | .tnil, .dict _, _, _, e, _, _, _ => by cases e
  | .tcons _ _, .none, _, _, e, _, _, _ => by cases e
  | .tcons _ _, .bool _, _, _, e, _, _, _ => by cases e
  | .tcons _ _, .int _, _, _, e, _, _, _ => by cases e
  | .tcons _ _, .str _, _, _, e, _, _, _ => by cases e
  | .tcons _ _, .list [], _, _, e, _, _, _ => by cases e
  | .tcons _ _, .tuple _, _, _, e, _, _, _ => by cases e
  | .tcons _ _, .dict _, _, _, e, _, _, _ => by cases e
theorem Sb.bound {t : Tg} (s : Sb K r F0 H0 F H ρ σ w) (e : bindT t d ρ = some ρ') (x : Sx K r F H ρ' σ' w) (o : Off t.slots σ σ') : Sb K r F0 H0 F H ρ' σ' w := ⟨x, s.nx, fun i l p h1 h2 => by
  obtain ⟨h3, h4⟩ := bind_own t d ρ ρ' e i l h1
  rw [o.2 i h3] at h2
  exact s.fr i l p h4 h2⟩
theorem st_asg {t : Tg} (he : DE X e fe) (hg : PG X tgt (tG X.K t)) (hs : swapsWithSole [tgt] e pos.line X.env = pure false) (hw : swappedStores [tgt] e X.env = pure none) (h1 : (assignEach [tgt] X.env).map (·.2) = [assign tgt X.env]) :
    DSt X (.Assign [tgt] e pos) (fun ρ => bnd (fe ρ) fun d => match bindT t d ρ with | some ρ' => ret (.nx ρ') | none => bad) :=
  PS_imp (ps_asg he hg hs hw h1) fun T σ H ⟨r, F0, H0, F, ρ, w, s, o⟩ => ⟨r, F, ρ, w, s.sx, (OutS.bind (P := PV) o).mono fun v H1 ⟨F1, d, w1, n1, p1, o1⟩ => by
    have s1 := s.step n1
    cases k : bindT t d ρ with
    | none => rw [k] at o1; exact o1.elim
    | some ρ' =>
      rw [k] at o1
      exact ⟨r, F1, ρ, w1, d, ρ', s1.sx, p1, k, fun σ' x off => o1 σ' F1 H1 (s1.bound k x off)⟩⟩
/-! own lists -/
theorem Sb.setOwn {p : Addr} {vs : List V} {l : List D} (s : Sb K r F0 H0 F H ρ σ w) (hp : H p = some (.lst vs)) (q : RpL F l vs) (fp : F p = none) (off : RwOff K r p) (z : l.length ≤ sizeLine) (h0 : H0 p = none)
    (hne : ∀ (j : Nat) m, ρ[j]? = some (.own m) → σ[j]? ≠ some (some (V.ref p))) : Sb K r F0 H0 F H (ρ.set i (.own l)) (σ.set i (some (.ref p))) w where
  sx := {
    sub := s.sx.sub
    row := s.sx.row
    len := by rw [List.length_set, List.length_set]; exact s.sx.len
    val := fun j u e => by
      rcases get_set e with ⟨rfl, z⟩ | ⟨ne, z⟩
      · cases z
      · obtain ⟨u, h1, h2⟩ := s.sx.val j u z
        exact ⟨u, by rw [List.getElem?_set_ne (Ne.symm ne)]; exact h1, h2⟩
    own := fun j m e => by
      rcases get_set e with ⟨rfl, k⟩ | ⟨ne, k⟩
      · cases k
        exact ⟨p, vs, by rw [List.getElem?_set_self (by rw [← s.sx.len]; exact lt_of_set e)], hp, q, fp, off, z⟩
      · obtain ⟨p, vs, h1, h2⟩ := s.sx.own j m k
        exact ⟨p, vs, by rw [List.getElem?_set_ne (Ne.symm ne)]; exact h1, h2⟩
    rw := fun j e => by
      rcases get_set e with ⟨rfl, k⟩ | ⟨ne, k⟩
      · cases k
      · obtain ⟨p, h1, h2⟩ := s.sx.rw j k
        exact ⟨p, h1, by rw [List.getElem?_set_ne (Ne.symm ne)]; exact h2⟩
    inj := fun j k m m' p' e1 e2 e3 e4 => by
      rcases get_set e1 with ⟨rfl, z1⟩ | ⟨n1, z1⟩
      · rcases get_set e2 with ⟨rfl, z2⟩ | ⟨n2, z2⟩
        · rfl
        · rw [List.getElem?_set_self (by rw [← s.sx.len]; exact lt_of_set e1)] at e3
          cases e3
          rw [List.getElem?_set_ne (Ne.symm n2)] at e4
          exact absurd e4 (hne k m' z2)
      · rw [List.getElem?_set_ne (Ne.symm n1)] at e3
        rcases get_set e2 with ⟨rfl, z2⟩ | ⟨n2, z2⟩
        · rw [List.getElem?_set_self (by rw [← s.sx.len]; exact lt_of_set e2)] at e4
          cases e4
          exact absurd e3 (hne j m z1)
        · rw [List.getElem?_set_ne (Ne.symm n2)] at e4
          exact s.sx.inj j k m m' p' z1 z2 e3 e4 }
  nx := s.nx
  fr := fun j m p' e1 e2 => by
    rcases get_set e1 with ⟨rfl, z1⟩ | ⟨n1, z1⟩
    · rw [List.getElem?_set_self (by rw [← s.sx.len]; exact lt_of_set e1)] at e2
      cases e2
      exact h0
    · rw [List.getElem?_set_ne (Ne.symm n1)] at e2
      exact s.fr j m p' z1 e2
theorem newL_read {T : Ends} {σ : L2.St} (q : tSt K (fun ρ => bnd (fe ρ) fun d => match d with | .list l => ret (.nx (ρ.set i (.own l))) | _ => bad) T σ H) : tAsg (tOut PF K fe) (gName i) T σ H := by
  obtain ⟨r, F0, H0, F, ρ, w, s, o⟩ := q
  refine ⟨r, F, ρ, w, s.sx, (OutS.bind (P := PF) o).mono fun v H1 ⟨F1, d, w1, n1, p1, o1⟩ => ?_⟩
  obtain ⟨p, vs, l, rfl, rfl, h1, h2, h3, h4, h5, h6⟩ := p1
  have s1 := s.step n1
  refine o1 (σ.set i (some (.ref p))) F1 H1 (s1.setOwn h1 h2 h3 (s.sx.row.off h4) h6 (s.nx.non h4) fun j m e1 e2 => ?_)
  obtain ⟨p', vs', k1, k2, _⟩ := s.sx.own j m e1
  rw [k1] at e2
  cases e2
  rw [k2] at h4; cases h4
theorem st_newL {x : Str} (hN : X.N.Nodup) (hi : X.N[i]? = some x) (hx : Loc X.env.scope x) (hf : X.fn x = true) (he : DF X e fe) (hs : swapsWith e (some (.Name x p)) pos.line X.env = pure false) :
    DSt X (.Assign [.Name x p] e pos) (fun ρ => bnd (fe ρ) fun d => match d with | .list l => ret (.nx (ρ.set i (.own l))) | _ => bad) :=
  PS_imp (ps_set hN hi hx he hs (.inl hf)) fun T σ H q => newL_read q
/-- name = [.. for ..] -/
theorem comp_set {T : Ends} {σ : L2.St} {tg : Tg} (q : tAsg (tOut PF K (fun ρ => bnd (fl ρ) fun ds => bnd (mapD (bodyD tg ft fe ρ) ds) fun out => ret (.list out))) (gName i) T σ H) : tAsg (tLc (tIo K fl) (tG K tg) (tOut PB K ft) (tOut PV K fe) tg.slots) (gName i) T σ H := comp_read σ H _ q
theorem freeze_set {T : Ends} {σ : L2.St} {fe : Ev → M D} (q : tAsg (tOut PV K fe) (gName i) T σ H) : tAsg (tOut PF K fe) (gName i) T σ H := by
  obtain ⟨r, F, ρ, w, s, o⟩ := q
  refine ⟨r, F, ρ, w, s, ?_⟩
  revert o
  cases fe ρ w with
  | ok d w' =>
    intro o v F' H' n p
    obtain ⟨p, vs, l, rfl, rfl, h1, h2, h3, h4, h5, h6⟩ := p
    exact o _ _ _ (n.freeze h1 h3 h4 h5) ⟨h6, p, vs, rfl, upd_same, RpL.mono (sub_upd h3) _ _ h2⟩
  | exc _ _ _ => exact fun o => o
  | bad => exact fun o => o
theorem own_of {l : List D} (s : Sb K r F0 H0 F H ρ σ w) (e : ρ[i]? = some (.own l)) : ∃ p vs, σ[i]? = some (some (.ref p)) ∧ H p = some (.lst vs) ∧ RpL F l vs ∧ F p = none ∧ RwOff K r p ∧ l.length ≤ sizeLine ∧ H0 p = none := by
  obtain ⟨p, vs, h1, h2, h3, h4, h5, h6⟩ := s.sx.own i l e
  exact ⟨p, vs, h1, h2, h3, h4, h5, h6, s.fr i l p e h1⟩
theorem set_id {α : Type} {l : List α} {i : Nat} {x : α} (h : l[i]? = some x) : l.set i x = l := by
  apply List.ext_getElem?
  intro j
  by_cases e : j = i
  · subst e
    rw [List.getElem?_set_self (List.getElem?_eq_some_iff.mp h).1, h]
  · rw [List.getElem?_set_ne (Ne.symm e)]
/-- an own list changed -/
theorem Sb.write {l l' : List D} {vs' : List V} {p : Addr} {vs : List V} (s : Sb K r F0 H0 F H ρ σ w) (e : ρ[i]? = some (.own l)) (h1 : σ[i]? = some (some (.ref p))) (h2 : H p = some (.lst vs)) (q : RpL F l' vs') (z : l'.length ≤ sizeLine) :
    Sb K r F0 H0 F (upd H p (.lst vs')) (ρ.set i (.own l')) σ w := by
  obtain ⟨p', vs0, k1, k2, k3, k4, k5, k6, k7⟩ := own_of s e
  rw [h1] at k1
  cases k1
  have hs : Sub F (upd H p (.lst vs')) := fun a o q => by rw [upd_ne (ne_of_none q k4)]; exact s.sx.sub a o q
  have hr : RowOk K r F (upd H p (.lst vs')) w := row_upd k5 (row_undel k5 s.sx.row)
  refine ⟨⟨hs, hr, by rw [List.length_set]; exact s.sx.len, fun j u e' => ?_, fun j m e' => ?_, fun j e' => ?_, fun j k m m' p' e1 e2 e3 e4 => ?_⟩, ⟨s.nx.sub, hs, fun a o h q => ?_, s.nx.new, hr⟩, fun j m p' e1 e2 => ?_⟩
  · rcases get_set e' with ⟨rfl, z⟩ | ⟨ne, z⟩
    · cases z
    · exact s.sx.val j u z
  · rcases get_set e' with ⟨rfl, k⟩ | ⟨ne, k⟩
    · cases k
      exact ⟨p, vs', h1, upd_same, q, k4, k5, z⟩
    · obtain ⟨p2, vs2, j1, j2, j3⟩ := s.sx.own j m k
      refine ⟨p2, vs2, j1, ?_, j3⟩
      rw [upd_ne fun e2 => ne (s.sx.inj j i m l p2 k e j1 (by rw [h1, e2]))]
      exact j2
  · rcases get_set e' with ⟨rfl, z⟩ | ⟨ne, z⟩
    · cases z
    · exact s.sx.rw j z
  · have g : ∀ {j : Nat} {m}, (ρ.set i (.own l'))[j]? = some (.own m) → ∃ m2, ρ[j]? = some (.own m2) := fun {j m} e' => by
      rcases get_set e' with ⟨rfl, z⟩ | ⟨ne, z⟩
      · exact ⟨l, e⟩
      · exact ⟨m, z⟩
    obtain ⟨m2, g1⟩ := g e1
    obtain ⟨m3, g2⟩ := g e2
    exact s.sx.inj j k m2 m3 p' g1 g2 e3 e4
  · have ap : a ≠ p := fun e' => by rw [e', k7] at q; cases q
    rw [upd_ne ap]
    exact s.nx.keep a o h q
  · rcases get_set e1 with ⟨rfl, z⟩ | ⟨ne, z⟩
    · exact s.fr j l p' e e2
    · exact s.fr j m p' z e2
theorem pvx (hN : X.N[i]? = some rv) (hv : Vis X.env.scope rv) (hd : (rv == ("__debug__" : Str)) = false) (hcd : (rv == ("__classdict__" : Str)) = false) : PE X (.Name rv p) (tVar i) := pe_var hN hv hd hcd
theorem st_app (hN : X.N[i]? = some rv) (hv : Vis X.env.scope rv) (hd : (rv == ("__debug__" : Str)) = false) (hcd : (rv == ("__classdict__" : Str)) = false) (hs : starEach [e] X.env = (false, eval e X.env) :: starEach [] X.env) (hline : (p2.endLine == p3.line) = true) (he : DE X e fe)
    (hfew : ((backTo p3 (starEach [e] X.env)).all (fun x => !x.1) && (backToKw p3 (keywordEach [] X.env)).all (fun x => x.1.isSome) && decide ([e].length + ([] : List Keyword).length + (if ([] : List Keyword).isEmpty then 0 else 1) < 30)) = true) :
    DSt X (.Expr (.Call (.Attribute (.Name rv p) "append" p2) [e] [] p3) pos) (fun ρ => match ρ[i]? with
      | some (.own l) => bnd (fe ρ) fun d => if l.length < sizeLine then ret (.nx (ρ.set i (.own (l ++ [d])))) else bad
      | _ => bad) :=
  PS_imp (ps_expr (pe_bm PySem.F.plainAttrs_list PySem.F.slot_list_append PySem.F.type_list_append mt_append (pvx hN hv hd hcd) (pa_cons he pa_nil hs) (by rfl) hfew hline hs) (by rfl)) fun T σ H ⟨r, F0, H0, F, ρ, w, s, o⟩ => by
    dsimp only at o
    cases k : ρ[i]? with
    | none => rw [k] at o; exact o.elim
    | some sl =>
      rw [k] at o
      cases sl with
      | own l =>
        obtain ⟨q, vs, h1, h2, h3, h4, h5, h6, h7⟩ := own_of s k
        refine ⟨.ref q, h1, .inl ⟨rfl, _, SqL.of h2⟩, r, F, ρ, w, s.sx, (OutS.bind (P := PV) o).mono fun v H1 ⟨F1, d, w1, n1, p1, o1⟩ => ?_⟩
        have h2' := n1.keep _ _ h5.ne h2
        refine ⟨q, vs, v, rfl, rfl, h2', ?_⟩
        by_cases hl : l.length < sizeLine
        · rw [if_pos hl] at o1
          exact ⟨by rw [← h3.length]; exact hl, o1 _ F1 _ ((s.step n1).write k h1 h2' ((RpL.mono n1.sub _ _ h3).append (RpL.cons p1 RpL.nil)) (by rw [List.length_append]; exact hl))⟩
        · rw [if_neg hl] at o1; exact o1.elim
      | _ => exact o.elim
end
end
end Dn
namespace Dn
open PySem PySem.Spec PyProof.Rows L2
set_option autoImplicit true
section
variable {X : Cx} {e a b c it tgt : Expr} {es rest : List Expr} {f fa fb fc fe fk : Ev → M D} {fl : Ev → M (List D)} {ft : Ev → M Bool} {pos p p2 p3 p4 p5 p6 p7 : Pos} {K : PySem.W.Frag} {r : Rw} {F H F0 H0 F1 H1 : Hp} {ρ ρ' : Ev} {σ σ' : L2.St} {w w1 : W} {i j : Nat} {d : D} {v : V} {rv rx : Str} {kk : Nat}
variable {st : Stmt} {sts body : List Stmt} {g h k : Ev → M O}
theorem st_ext (hN : X.N[i]? = some rv) (hv : Vis X.env.scope rv) (hd : (rv == ("__debug__" : Str)) = false) (hcd : (rv == ("__classdict__" : Str)) = false) (hs : starEach [e] X.env = (false, eval e X.env) :: starEach [] X.env) (hline : (p2.endLine == p3.line) = true) (he : DE X e fe)
    (hfew : ((backTo p3 (starEach [e] X.env)).all (fun x => !x.1) && (backToKw p3 (keywordEach [] X.env)).all (fun x => x.1.isSome) && decide ([e].length + ([] : List Keyword).length + (if ([] : List Keyword).isEmpty then 0 else 1) < 30)) = true) :
    DSt X (.Expr (.Call (.Attribute (.Name rv p) "extend" p2) [e] [] p3) pos) (fun ρ => match ρ[i]? with
      | some (.own l) => bnd (fe ρ) fun d => match d with | .list m => if l.length + m.length ≤ sizeLine then ret (.nx (ρ.set i (.own (l ++ m)))) else bad | _ => bad
      | _ => bad) :=
  PS_imp (ps_expr (pe_bm PySem.F.plainAttrs_list PySem.F.slot_list_extend PySem.F.type_list_extend mt_extend (pvx hN hv hd hcd) (pa_cons he pa_nil hs) (by rfl) hfew hline hs) (by rfl)) fun T σ H ⟨r, F0, H0, F, ρ, w, s, o⟩ => by
    dsimp only at o
    cases k : ρ[i]? with
    | none => rw [k] at o; exact o.elim
    | some sl =>
      rw [k] at o
      cases sl with
      | own l =>
        obtain ⟨q, vs, h1, h2, h3, h4, h5, h6, h7⟩ := own_of s k
        refine ⟨.ref q, h1, .inl ⟨rfl, _, SqL.of h2⟩, r, F, ρ, w, s.sx, (OutS.bind (P := PV) o).mono fun v H1 ⟨F1, d, w1, n1, p1, o1⟩ => ?_⟩
        have h2' := n1.keep _ _ h5.ne h2
        cases d with
        | list m =>
          obtain ⟨z, b, us, rfl, hb, l2⟩ := p1.lst
          dsimp only at o1
          by_cases hl : l.length + m.length ≤ sizeLine
          · rw [if_pos hl] at o1
            exact ⟨q, b, vs, us, rfl, rfl, h2', n1.inn _ _ hb, by rw [← h3.length, ← l2.length]; exact hl, o1 _ F1 _ ((s.step n1).write k h1 h2' ((RpL.mono n1.sub _ _ h3).append l2) (by rw [List.length_append]; exact hl))⟩
          · rw [if_neg hl] at o1; exact o1.elim
        | _ => exact o1.elim
      | _ => exact o.elim
theorem st_setIx (hN : X.N[i]? = some rv) (hv : Vis X.env.scope rv) (hd : (rv == ("__debug__" : Str)) = false) (hcd : (rv == ("__classdict__" : Str)) = false) (he : DE X e fe) (hk : DE X a fk)
    (hs : swapsWithSole [.Subscript (.Name rv p) a p2] e pos.line X.env = pure false) (hw : swappedStores [.Subscript (.Name rv p) a p2] e X.env = pure none)
    (hsub : ∀ v, assign (.Subscript (.Name rv p) a p2) X.env v = (do
      let ov ← holding [v] (eval (.Name rv p) X.env)
      let iv ← holding [v, ov] (eval a X.env)
      standAt p2
      holding [v, ov, iv] (setItem ov iv v)
      release [v, ov, iv] [])) :
    DSt X (.Assign [.Subscript (.Name rv p) a p2] e pos) (fun ρ => bnd (fe ρ) fun d => match ρ[i]? with
      | some (.own l) => bnd (bnd (fk ρ) asI) fun n => (match ixN l.length n with | some j => ret (.nx (ρ.set i (.own (l.set j d)))) | none => bad)
      | _ => bad) :=
  PS_imp (ps_asg he (pg_sub (pvx hN hv hd hcd) hk set_list hsub) hs hw (by rfl)) fun T σ H ⟨r, F0, H0, F, ρ, w, s, o⟩ => ⟨r, F, ρ, w, s.sx, (OutS.bind (P := PV) o).mono fun v H1 ⟨F1, d, w1, n1, p1, o1⟩ => by
    have s1 := s.step n1
    cases k : ρ[i]? with
    | none => rw [k] at o1; exact o1.elim
    | some sl =>
      rw [k] at o1
      cases sl with
      | own l =>
        obtain ⟨q, vs, h1, h2, h3, h4, h5, h6, h7⟩ := own_of s1 k
        dsimp only at o1
        rw [bnd_bnd] at o1
        refine ⟨.ref q, h1, r, F1, ρ, w1, s1.sx, (OutS.bind (P := PV) o1).mono fun u H2 ⟨F2, dn, w2, n2, p2, o2⟩ => ?_⟩
        have h2' := n2.keep _ _ h5.ne h2
        cases dn with
        | int n =>
          dsimp only [asI] at o2
          rw [bnd_ret] at o2
          cases kx : ixN l.length n with
          | none => rw [kx] at o2; exact o2.elim
          | some j =>
            rw [kx] at o2
            have s2 := s1.step n2
            refine ⟨q, vs, n, j, rfl, p2, h2', by rw [← h3.length]; exact kx, o2 _ F2 _ (s2.write k h1 h2' ((RpL.mono n2.sub _ _ h3).set (Rp.mono n2.sub _ _ p1) j) (by rw [List.length_set]; exact h6))⟩
        | _ => exact o2.elim
      | _ => exact o1.elim⟩
theorem st_rowSet (hN : X.N[i]? = some rv) (hv : Vis X.env.scope rv) (hd : (rv == ("__debug__" : Str)) = false) (hcd : (rv == ("__classdict__" : Str)) = false) (he : DE X e fe)
    (hs : swapsWithSole [.Subscript (.Name rv p) (.Constant (.int (j : Int)) kk p3) p2] e pos.line X.env = pure false) (hw : swappedStores [.Subscript (.Name rv p) (.Constant (.int (j : Int)) kk p3) p2] e X.env = pure none) :
    DSt X (.Assign [.Subscript (.Name rv p) (.Constant (.int (j : Int)) kk p3) p2] e pos) (fun ρ => match ρ[i]? with
      | some .row => bnd (bnd (fe ρ) asI) fun v => fun w => (match setW w j v with | some w' => .ok (.nx ρ) w' | none => .bad)
      | _ => bad) :=
  PS_imp (ps_asg he (pg_sub (pvx hN hv hd hcd) pe_int set_list) hs hw (by rfl)) fun T σ H ⟨r, F0, H0, F, ρ, w, s, o⟩ => by
    dsimp only at o
    cases k : ρ[i]? with
    | none => rw [k] at o; exact o.elim
    | some sl =>
      rw [k] at o
      cases sl with
      | row =>
        dsimp only at o
        rw [bnd_bnd] at o
        refine ⟨r, F, ρ, w, s.sx, (OutS.bind (P := PV) o).mono fun v H1 ⟨F1, d, w1, n1, p1, o1⟩ => ?_⟩
        have s1 := s.step n1
        obtain ⟨ra, t, rfl, h1, h2, h3, h4, h5⟩ := row_of s1.sx k
        cases d with
        | int n =>
          dsimp only [asI] at o1
          rw [bnd_ret] at o1
          have fin : ∀ (w' : W) (xs : List V) (m : Nat), w'.ns = w1.ns → ixN 4 (j : Int) = some m → [V.ref t, .int w1.i, .int w1.s, .int w1.q].set m v = [.ref t, .int w'.i, .int w'.s, .int w'.q] → OutS X.K (some (ra, t, w1.ns)) F0 H0 (.ok (.nx ρ) w') T →
              gSub (tVar i) (tC (.int (j : Int))) rSetL v σ H1 T.nx := fun w' xs m e1 e2 e3 o => by
            refine ⟨.ref ra, h1, ra, _, (j : Int), m, rfl, rfl, h4, e2, ?_⟩
            rw [e3]
            have hr : RowOk X.K (some (ra, t, w1.ns)) F1 (upd H1 ra (.lst [.ref t, .int w'.i, .int w'.s, .int w'.q])) w' := by
              refine ⟨h2, h3, e1, upd_same, ?_⟩
              rcases h3 with h3 | h3
              case inr => exact h3 _
              rcases h5 with (h5 | ⟨o, h5⟩) | h5
              · exact .inl (.inl (by rw [upd_ne h3]; exact h5))
              · exact .inl (.inr ⟨o, by rw [upd_ne h3]; exact h5⟩)
              · exact .inr h5
            have hsub : Sub F1 (upd H1 ra (.lst [.ref t, .int w'.i, .int w'.s, .int w'.q])) := fun a o q => by rw [upd_ne (ne_of_none q h2)]; exact s1.sx.sub a o q
            refine o σ F1 _ ⟨⟨hsub, hr, s1.sx.len, s1.sx.val, fun j l e => ?_, s1.sx.rw, s1.sx.inj⟩, ⟨s1.nx.sub, hsub, fun a o h q => ?_, s1.nx.new, hr⟩, s1.fr⟩
            · obtain ⟨p, vs, k1, k2, k3, k4, k5, k6⟩ := s1.sx.own j l e
              exact ⟨p, vs, k1, by rw [upd_ne k5.1]; exact k2, k3, k4, k5, k6⟩
            · rw [upd_ne fun e => h (by rw [e]; rfl)]
              exact s1.nx.keep a o h q
          have ev : v = .int n := p1
          subst ev
          match j, o1, fin with
          | 1, o1, fin => exact fin { w1 with i := n } [] 1 rfl rfl rfl o1
          | 2, o1, fin => exact fin { w1 with s := n } [] 2 rfl rfl rfl o1
          | 3, o1, fin => exact fin { w1 with q := n } [] 3 rfl rfl rfl o1
          | 0, o1, fin => exact o1.elim
          | (m + 4), o1, fin => exact o1.elim
        | _ => exact o1.elim
      | _ => exact o.elim
theorem st_aug {op : Operator} {r2 : R2} {gd : D → D → M D} (hN : X.N.Nodup) (hi : X.N[i]? = some rv) (hx : Loc X.env.scope rv) (hf : X.fn rv = true) (he : DE X e fe) (ho : OpR X (inplaceOp op) r2) (vr : VR2 X.K r2 gd) :
    DSt X (.AugAssign (.Name rv p) op e pos) (fun ρ => match ρ[i]? with | some (.val x) => bnd (fe ρ) fun y => bnd (gd x y) fun z => ret (.nx (ρ.set i (.val z))) | _ => bad) :=
  PS_imp (ps_aug (ti := r2) hN hi hx he ho (.inl hf)) fun T σ H ⟨r, F0, H0, F, ρ, w, s, o⟩ => by
    dsimp only at o
    cases k : ρ[i]? with
    | none => rw [k] at o; exact o.elim
    | some sl =>
      rw [k] at o
      cases sl with
      | val x =>
        obtain ⟨u, h1, h2⟩ := s.sx.val i x k
        refine ⟨u, h1, r, F, ρ, w, s.sx, (OutS.bind (P := PV) o).mono fun y H1 ⟨F1, d, w1, n1, p1, o1⟩ => ?_⟩
        refine vr (rr := r) (F := F1) n1.inn n1.row (Rp.mono n1.sub _ _ h2) p1 ((OutS.bind (P := PV) (F := F1) (H := H1) o1).mono fun z H2 ⟨F2, d2, w2, n2, p2, o2⟩ => ?_)
        have s2 := (s.step n1).step n2
        refine o2 _ F2 H2 ⟨s2.sx.setV p2, s2.nx, fun j l p e1 e2 => ?_⟩
        rcases get_set e1 with ⟨rfl, z⟩ | ⟨ne, z⟩
        · cases z
        · rw [List.getElem?_set_ne (Ne.symm ne)] at e2
          exact s2.fr j l p z e2
      | _ => exact o.elim
theorem Sb.freeze {l : List D} (s : Sb K r F0 H0 F H ρ σ w) (e : ρ[i]? = some (.own l)) : ∃ F', Sb K r F0 H0 F' H (ρ.set i (.val (.list l))) σ w := by
  obtain ⟨q, vs, h1, h2, h3, h4, h5, h6, h7⟩ := own_of s e
  have hs : Sub (upd F q (.lst vs)) H := fun a u q' => by
    by_cases e : a = q
    · subst e; rw [upd_same] at q'; cases q'; exact h2
    · rw [upd_ne e] at q'; exact s.sx.sub a u q'
  have hr : RowOk K r (upd F q (.lst vs)) H w := by
    have k := s.sx.row
    cases r with
    | none => trivial
    | some z => exact ⟨by rw [upd_ne fun e => h5.ne (by rw [← e]; rfl)]; exact k.1, k.2⟩
  refine ⟨upd F q (.lst vs), ⟨hs, hr, by rw [List.length_set]; exact s.sx.len, fun j u e' => ?_, fun j m e' => ?_, fun j e' => ?_, fun j k m m' p' e1 e2 e3 e4 => ?_⟩, ⟨s.nx.sub.trans (sub_upd h4), hs, s.nx.keep, fun a u q' => ?_, hr⟩, fun j m p' e1 e2 => ?_⟩
  · rcases get_set e' with ⟨rfl, z⟩ | ⟨ne, z⟩
    · cases z
      exact ⟨.ref q, h1, h6, q, vs, rfl, upd_same, RpL.mono (sub_upd h4) _ _ h3⟩
    · obtain ⟨u', k1, k2⟩ := s.sx.val j u z
      exact ⟨u', k1, Rp.mono (sub_upd h4) _ _ k2⟩
  · rcases get_set e' with ⟨rfl, z⟩ | ⟨ne, z⟩
    · cases z
    · obtain ⟨p2, vs2, j1, j2, j3, j4, j5, j6⟩ := s.sx.own j m z
      have hne : p2 ≠ q := fun e2 => ne (s.sx.inj j i m l p2 z e j1 (by rw [h1, e2]))
      exact ⟨p2, vs2, j1, j2, RpL.mono (sub_upd h4) _ _ j3, by rw [upd_ne hne]; exact j4, j5, j6⟩
  · rcases get_set e' with ⟨rfl, z⟩ | ⟨ne, z⟩
    · cases z
    · exact s.sx.rw j z
  · rcases get_set e1 with ⟨rfl, z⟩ | ⟨n1, z1⟩
    · cases z
    · rcases get_set e2 with ⟨rfl, z⟩ | ⟨n2, z2⟩
      · cases z
      · exact s.sx.inj j k m m' p' z1 z2 e3 e4
  · by_cases e : a = q
    · subst e; exact .inr h7
    · rw [upd_ne e] at q'; exact s.nx.new a u q'
  · rcases get_set e1 with ⟨rfl, z⟩ | ⟨n1, z1⟩
    · cases z
    · exact s.fr j m p' z1 e2
/-- an own list is frozen: no statement of the text -/
theorem ss_frz (h1 : DSs X sts g) : DSs X sts (seqO (fun ρ => match ρ[i]? with | some (.own l) => ret (.nx (ρ.set i (.val (.list l)))) | _ => bad) g) :=
  PSs_imp h1 fun T σ H ⟨r, F0, H0, F, ρ, w, s, o⟩ => by
    have o := OutS.seq o
    cases k : ρ[i]? with
    | none => rw [k] at o; exact o.elim
    | some sl =>
      rw [k] at o
      cases sl with
      | own l =>
        obtain ⟨F', s'⟩ := s.freeze k
        obtain ⟨F2, ρ2, w2, s2, o2⟩ := o σ F' H s'
        exact ⟨r, F0, H0, F2, ρ2, w2, s2, o2⟩
      | _ => exact o.elim
/-! ### loops -/
theorem OutS.weak {m : R O} {T T' : Ends} (h : OutS K r F0 H0 m T) (q : ∀ σ F H ρ w, m = .ok (.nx ρ) w → Sb K r F0 H0 F H ρ σ w → T'.nx σ H) (q' : ∀ v H, T.rt v H → T'.rt v H) : OutS K r F0 H0 m T' := by
  cases m with
  | ok o w =>
    cases o with
    | nx ρ => exact fun σ F H s => q _ _ _ _ _ rfl s
    | rt d => exact fun v F H n p => q' _ _ (h v F H n p)
  | exc c xs w => exact h
  | bad => exact h
def bodyO (t : Tg) (g : Ev → M O) (d : D) (ρ : Ev) : M O := match bindT t d ρ with | some ρ' => g ρ' | none => bad
theorem Sb.rebase (s : Sb K r F0 H0 F H ρ σ w) (h : Sub F1 F) (h0 : Sub F0 F1) : Sb K r F1 H0 F H ρ σ w := ⟨s.sx, ⟨h, s.nx.inn, s.nx.keep, fun a o q => (s.nx.new a o q).imp (h0 a o) id, s.nx.row⟩, s.fr⟩
theorem Nx.back (n : Nx K r F1 H0 F H w) (h0 : Sub F0 F1) (hn : ∀ a o, F1 a = some o → F0 a = some o ∨ H0 a = none) : Nx K r F0 H0 F H w := ⟨h0.trans n.sub, n.inn, n.keep, fun a o q => (n.new a o q).elim (hn a o) .inr, n.row⟩
theorem Sb.back (s : Sb K r F1 H0 F H ρ σ w) (h0 : Sub F0 F1) (hn : ∀ a o, F1 a = some o → F0 a = some o ∨ H0 a = none) : Sb K r F0 H0 F H ρ σ w := ⟨s.sx, s.nx.back h0 hn, s.fr⟩
theorem st_for {t : Tg} (hp : PassesOwn (model X.prog X.w) X.A X.env X.xe) (hc : X.calm = true) (hi : DI X tgt it fl) (hg : PG X tgt (tG X.K t)) (hb : DSs X body g) (hs : ∀ x, foldedSetIterable it X.env x = pure x) :
    DSt X (.For tgt it body [] pos) (fun ρ => bnd (fl ρ) fun ds => forO (bodyO t g) ds ρ) :=
  PS_imp (ps_for hp hc hi hg hb (hs := hs)) fun T σ H ⟨r, F0, H0, F, ρ, w, s, o⟩ => ⟨r, F, ρ, w, s.sx, (OutS.bind (P := PJ X.K) o).mono fun J H1 ⟨F1, ds, w1, n1, ⟨G, jok, hG, hl⟩, o1⟩ => by
    have s1 := s.step n1
    let Wn : Nat → L2.St → Hp → Prop := fun i σ H => ∃ F2 ρ2 w2, Sub F1 F2 ∧ Sb X.K r F0 H0 F2 H ρ2 σ w2 ∧ OutS X.K r F0 H0 (forO (bodyO t g) (ds.drop i) ρ2 w2) T
    refine ⟨fun i m σ H => m = ds.length - i ∧ i ≤ ds.length ∧ Wn i σ H, ⟨ds.length, rfl, Nat.zero_le _, F1, ρ, w1, Sub.refl _, s1, o1⟩, ?_⟩
    rintro i m σ H ⟨rfl, hi, F2, ρ2, w2, hs, s2, o2⟩
    have hGH : G H := hG _ (hs.trans s2.sx.sub)
    by_cases hlt : i < ds.length
    · refine .inr ⟨jok.go i H hlt hGH, fun σ H => Wn (i + 1) σ H, fun σ' H' q => ⟨_, by omega, rfl, by omega, q⟩, fun x H' hy => ?_⟩
      obtain ⟨F', d, ed, n', p⟩ := jok.yld hlt hGH hs s2.sx.sub s2.sx.row hy
      have e : ds.drop i = d :: ds.drop (i + 1) := by
        obtain ⟨h1, h2⟩ := List.getElem?_eq_some_iff.mp ed
        rw [List.drop_eq_getElem_cons h1, h2]
      rw [e, show forO (bodyO t g) (d :: ds.drop (i + 1)) ρ2 = bnd (bodyO t g d ρ2) fun o => match o with | .nx ρ' => forO (bodyO t g) (ds.drop (i + 1)) ρ' | .rt d => ret (.rt d) from rfl] at o2
      have s3 := s2.step n'
      cases k : bindT t d ρ2 with
      | none => rw [show bodyO t g d ρ2 = bad by unfold bodyO; rw [k]] at o2; exact o2.elim
      | some ρ' =>
        rw [show bodyO t g d ρ2 = g ρ' by unfold bodyO; rw [k]] at o2
        refine ⟨r, F', ρ2, w2, d, ρ', s3.sx, p, k, fun σ' x off => ⟨r, F1, H0, F', ρ', w2, (s3.bound k x off).rebase (hs.trans n'.sub) s1.nx.sub, ?_⟩⟩
        unfold bnd at o2
        cases e2 : g ρ' w2 with
        | exc c xs w => rw [e2] at o2; exact o2
        | bad => rw [e2] at o2; exact o2
        | ok u w3 =>
          rw [e2] at o2
          cases u with
          | rt d => exact fun v F4 H4 n4 p4 => o2 v F4 H4 (n4.back s1.nx.sub s1.nx.new) p4
          | nx ρ3 => exact fun σ4 F4 H4 s4 => ⟨F4, ρ3, w3, s4.nx.sub, s4.back s1.nx.sub s1.nx.new, o2⟩
    · have e : i = ds.length := by omega
      subst e
      rw [List.drop_length] at o2
      exact .inl ⟨jok.stop H hGH, o2 σ F2 H s2⟩⟩
theorem st_while {n : Ev → Nat} (hp : PassesOwn (model X.prog X.w) X.A X.env X.xe) (hc : DT X c ft) (hb : DSs X body g) :
    DSt X (.While c body [] pos) (fun ρ => whileO ft g (n ρ) ρ) :=
  PS_imp (ps_while hp hc hb) fun T σ H ⟨r, F0, H0, F, ρ, w, s, o⟩ => by
    refine ⟨fun m σ H => ∃ F ρ w, Sb X.K r F0 H0 F H ρ σ w ∧ OutS X.K r F0 H0 (whileO ft g m ρ w) T, ⟨n ρ, F, ρ, w, s, o⟩, ?_⟩
    rintro m σ H ⟨F, ρ, w, s, o⟩
    cases m with
    | zero => exact o.elim
    | succ m =>
      refine ⟨r, F, ρ, w, s.sx, (OutS.bind (P := PB) (F := F) (H := H) o).mono fun b H1 ⟨F1, k, w1, n1, p1, o1⟩ => ?_⟩
      cases (show k = b from p1)
      have s1 := s.step n1
      cases b with
      | false => exact o1 σ F1 H1 s1
      | true =>
        refine ⟨fun σ H => ∃ F ρ w, Sb X.K r F0 H0 F H ρ σ w ∧ OutS X.K r F0 H0 (whileO ft g m ρ w) T, fun σ' H' q => ⟨m, Nat.lt_succ_self m, q⟩, r, F0, H0, F1, ρ, w1, s1, ?_⟩
        have o1 : OutS X.K r F0 H0 (bnd (g ρ) (fun o => match o with | .nx ρ' => whileO ft g m ρ' | .rt d => ret (.rt d)) w1) T := o1
        unfold bnd at o1
        cases e2 : g ρ w1 with
        | exc c xs w => rw [e2] at o1; exact o1
        | bad => rw [e2] at o1; exact o1
        | ok u w3 =>
          rw [e2] at o1
          cases u with
          | rt d => exact o1
          | nx ρ3 => exact fun σ4 F4 H4 s4 => ⟨F4, ρ3, w3, s4, o1⟩
/-! ### two names at once -/
def PO2 (o : Bool) : Kind D V := fun r H0 F H d v => if o then PF r H0 F H d v else PV r H0 F H d v
def DE2 (X : Cx) (o : Bool) (e : Expr) (f : Ev → M D) : Prop := if o then DF X e f else DE X e f
theorem sb_put {o : Bool} {x : Sl} (s : Sb K r F0 H0 F H ρ σ w) (e : (slD o d : M Sl) = ret x) (h : if o then ∃ p vs l, v = .ref p ∧ d = .list l ∧ H p = some (.lst vs) ∧ RpL F l vs ∧ F p = none ∧ RwOff K r p ∧ l.length ≤ sizeLine ∧ H0 p = none ∧ (∀ (j : Nat) m, ρ[j]? = some (.own m) → σ[j]? ≠ some (some (V.ref p))) else Rp F d v) :
    Sb K r F0 H0 F H (ρ.set i x) (σ.set i (some v)) w := by
  cases o with
  | true =>
    obtain ⟨p, vs, l, rfl, rfl, h1, h2, h3, h4, h5, h6, h7⟩ := h
    have ex : Sl.own l = x := by
      have := congrFun e ⟨[], 0, 0, 0⟩
      simpa [slD, ret] using this
    subst ex
    exact s.setOwn h1 h2 h3 h4 h5 h6 h7
  | false =>
    have ex : Sl.val d = x := by
      have := congrFun e ⟨[], 0, 0, 0⟩
      simpa [slD, ret] using this
    subst ex
    refine ⟨s.sx.setV h, s.nx, fun j l p e1 e2 => ?_⟩
    rcases get_set e1 with ⟨rfl, z⟩ | ⟨ne, z⟩
    · cases z
    · rw [List.getElem?_set_ne (Ne.symm ne)] at e2
      exact s.fr j l p z e2
end
end Dn
namespace Dn
open PySem PySem.Spec PyProof.Rows L2
set_option autoImplicit true
section
variable {X : Cx} {e a b c it tgt : Expr} {es rest : List Expr} {f fa fb fc fe fk : Ev → M D} {fl : Ev → M (List D)} {ft : Ev → M Bool} {pos p p2 p3 p4 p5 p6 p7 : Pos} {K : PySem.W.Frag} {r : Rw} {F H F0 H0 F1 H1 : Hp} {ρ ρ' : Ev} {σ σ' : L2.St} {w w1 : W} {i j : Nat} {d : D} {v : V} {rv rx x y : Str} {kk k2 : Nat} {oi oj : Bool}
variable {st : Stmt} {sts body : List Stmt} {g h k : Ev → M O}
def tO (K : PySem.W.Frag) (o : Bool) (f : Ev → M D) : TE := fun σ H Q => ∃ r F ρ w, Sx K r F H ρ σ w ∧ Out (PO2 o) K r F H (f ρ w) Q
abbrev DO2 (X : Cx) (o : Bool) (e : Expr) (f : Ev → M D) : Prop := PE X e (tO X.K o f)
theorem DE.o2 (h : DE X e f) : DO2 X false e f := PE_imp h fun σ H Q ⟨r, F, ρ, w, s, o⟩ => ⟨r, F, ρ, w, s, o.weak fun _ p => p⟩
theorem DF.o2 (h : DF X e f) : DO2 X true e f := PE_imp h fun σ H Q ⟨r, F, ρ, w, s, o⟩ => ⟨r, F, ρ, w, s, o.weak fun _ p => p⟩
/-- what is told of a new value, by its flag -/
def Put (K : PySem.W.Frag) (r : Rw) (H0 F H : Hp) (o : Bool) (d : D) (v : V) : Prop :=
  if o then ∃ p vs l, v = .ref p ∧ d = .list l ∧ H p = some (.lst vs) ∧ RpL F l vs ∧ F p = none ∧ H0 p = none ∧ RwOff K r p ∧ l.length ≤ sizeLine else Rp F d v
theorem Put.step {o : Bool} {Hs : Hp} (q : Put K r Hs F H o d v) (n : Nx K r F H F1 H1 w1) : Put K r Hs F1 H1 o d v := by
  cases o with
  | false => exact Rp.mono n.sub _ _ q
  | true =>
    obtain ⟨p, vs, l, e1, e2, h1, h2, h3, h4, h5, h6⟩ := q
    refine ⟨p, vs, l, e1, e2, n.keep _ _ h5.ne h1, RpL.mono n.sub _ _ h2, ?_, h4, h5, h6⟩
    cases q : F1 p with
    | none => rfl
    | some u =>
      rcases n.new p u q with z | z
      · rw [h3] at z; cases z
      · rw [h1] at z; cases z
theorem slD_put {o : Bool} {Hs : Hp} (q : Put K r Hs F H o d v) : ∃ x, (slD o d : M Sl) = ret x := by
  cases o with
  | false => exact ⟨_, rfl⟩
  | true =>
    obtain ⟨p, vs, l, e1, e2, _⟩ := q
    subst e2
    exact ⟨_, rfl⟩
theorem PO2.put {o : Bool} (n : Nx K r F H F1 H1 w1) (k : RowOk K r F H w) (q : PO2 o r H F1 H1 d v) : Put K r H F1 H1 o d v := by
  cases o with
  | false => exact q
  | true =>
    obtain ⟨p, vs, l, e1, e2, h1, h2, h3, h4, h5, h6⟩ := q
    exact ⟨p, vs, l, e1, e2, h1, h2, h3, h4, k.off h4, h6⟩
/-- the new value goes into its slot -/
theorem Sb.put {o : Bool} {Hs : Hp} {x : Sl} (s : Sb K r F0 H0 F H ρ σ w) (q : Put K r Hs F H o d v) (e : (slD o d : M Sl) = ret x) (h0 : ∀ p, Hs p = none → H0 p = none) (hn : o = true → ∀ p, v = .ref p → ∀ (j : Nat) m, ρ[j]? = some (.own m) → σ[j]? ≠ some (some (V.ref p))) :
    Sb K r F0 H0 F H (ρ.set i x) (σ.set i (some v)) w := by
  refine sb_put s e ?_
  cases o with
  | false => exact q
  | true =>
    obtain ⟨p, vs, l, e1, e2, h1, h2, h3, h4, h5, h6⟩ := q
    exact ⟨p, vs, l, e1, e2, h1, h2, h3, h5, h6, h0 p h4, hn rfl p e1⟩
theorem own_ne {p : Addr} (s : Sx K r F H ρ σ w) (h : H p = none) (j : Nat) (m : List D) (e : ρ[j]? = some (.own m)) : σ[j]? ≠ some (some (V.ref p)) := fun e2 => by
  obtain ⟨p', vs, k1, k2, _⟩ := s.own j m e
  rw [k1] at e2
  cases e2
  rw [k2] at h; cases h
def par2 (i j : Nat) (oi oj : Bool) (fa fb : Ev → M D) : Ev → M O := fun ρ => bnd (bnd (fa ρ) (slD oi)) fun x => bnd (bnd (fb ρ) (slD oj)) fun y => ret (.nx ((ρ.set i x).set j y))
theorem par2_read {T : Ends} (s : Sb K r F0 H0 F H ρ σ w) (o : OutS K r F0 H0 (par2 i j oi oj fa fb ρ w) T) :
    tO K oi fa σ H fun v H1 => tO K oj fb σ H1 fun u H2 => ∃ F2 w2, RowOk K r F2 H2 w2 ∧ Sub F2 H2 ∧ ∀ H3, Nx K r F2 H2 F2 H3 w2 → T.nx ((σ.set i (some v)).set j (some u)) H3 := by
  unfold par2 at o
  rw [bnd_bnd] at o
  refine ⟨r, F, ρ, w, s.sx, (OutS.bind (P := PO2 oi) o).mono fun v H1 ⟨F1, d, w1, n1, p1, o1⟩ => ?_⟩
  have q1 := PO2.put n1 s.sx.row p1
  obtain ⟨x, ex⟩ := slD_put q1
  rw [ex, bnd_ret, bnd_bnd] at o1
  have s1 := s.step n1
  refine ⟨r, F1, ρ, w1, s1.sx, (OutS.bind (P := PO2 oj) o1).mono fun u H2 ⟨F2, d2, w2, n2, p2, o2⟩ => ?_⟩
  have q2 := PO2.put n2 s1.sx.row p2
  obtain ⟨y, ey⟩ := slD_put q2
  rw [ey, bnd_ret] at o2
  have s2 := s1.step n2
  refine ⟨F2, w2, n2.row, n2.inn, fun H3 n3 => ?_⟩
  have s3 := s2.step n3
  have s4 := s3.put (i := i) ((q1.step n2).step n3) ex (fun p h => s.nx.non h) fun eo p ev j m e => by
    subst eo; subst ev
    obtain ⟨p', vs, l, e1, e2, h1, h2, h3, h4, _⟩ := q1
    cases e1
    exact own_ne s.sx h4 j m e
  have s5 := s4.put (i := j) (q2.step n3) ey (fun p h => s1.nx.non h) fun eo p ev jj m e => by
    subst eo; subst ev
    obtain ⟨p', vs, l, e1, e2, h1, h2, h3, h4, _⟩ := q2
    cases e1
    rcases get_set e with ⟨rfl, z⟩ | ⟨ne, z⟩
    · intro e2
      rw [List.getElem?_set_self (by rw [← s.sx.len]; exact lt_of_set e)] at e2
      cases e2
      cases oi with
      | false =>
        have := congrFun ex ⟨[], 0, 0, 0⟩
        simp only [slD, ret] at this
        rw [z] at this
        cases this
      | true =>
        obtain ⟨p3, vs3, l3, k1, k2, k3, _⟩ := q1
        cases k1
        rw [k3] at h4; cases h4
    · rw [List.getElem?_set_ne (Ne.symm ne)]
      exact own_ne s1.sx h4 jj m z
  exact o2 _ F2 H3 s5
theorem st_par {pt : Pos} {kt : Nat} {p8 : Pos} (hc : X.calm = true) (hN : X.N.Nodup) (hi : X.N[i]? = some x) (hj : X.N[j]? = some y) (hij : i ≠ j)
    (hx : X.env.scope.names.lookup x = some .local) (hy : X.env.scope.names.lookup y = some .local) (h1 : starEach [a, b] X.env = (false, eval a X.env) :: starEach [b] X.env) (h2 : starEach [b] X.env = (false, eval b X.env) :: starEach [] X.env)
    (ha : DO2 X oi a fa) (hb : DO2 X oj b fb)
    (hw : swappedStores [.Tuple [.Name x p, .Name y p2] kt pt] (.Tuple [a, b] k2 p8) X.env = pure (some [x, y])) :
    DSt X (.Assign [.Tuple [.Name x p, .Name y p2] kt pt] (.Tuple [a, b] k2 p8) pos) (par2 i j oi oj fa fb) :=
  PS_imp (ps_par hc hN hi hj hij hx hy (pa_cons ha (pa_cons hb pa_nil h2) h1) hw) fun T σ H ⟨r, F0, H0, F, ρ, w, s, o⟩ => by
    obtain ⟨r1, F1, ρ1, w1, s1, o1⟩ := par2_read s o
    refine ⟨r1, F1, ρ1, w1, s1, o1.mono fun v H1 ⟨r2, F2, ρ2, w2, s2, o2⟩ => ⟨r2, F2, ρ2, w2, s2, o2.mono fun u H2 ⟨F3, w3, k1, k2, q⟩ => ⟨v, u, rfl, q H2 (Nx.refl k2 k1)⟩⟩⟩
theorem st_parT {pt : Pos} {kt : Nat} {p8 : Pos} (hc : X.calm = true) (hN : X.N.Nodup) (hi : X.N[i]? = some x) (hj : X.N[j]? = some y)
    (hx : Loc X.env.scope x) (hy : Loc X.env.scope y) (hfx : X.fn x = true) (hfy : X.fn y = true) (h1 : starEach [a, b] X.env = (false, eval a X.env) :: starEach [b] X.env) (h2 : starEach [b] X.env = (false, eval b X.env) :: starEach [] X.env)
    (ha : DO2 X oi a fa) (hb : DO2 X oj b fb)
    (hw : swappedStores [.Tuple [.Name x p, .Name y p2] kt pt] (.Tuple [a, b] k2 p8) X.env = pure none) :
    DSt X (.Assign [.Tuple [.Name x p, .Name y p2] kt pt] (.Tuple [a, b] k2 p8) pos) (par2 i j oi oj fa fb) :=
  PS_imp (ps_asg (pe_tup (pa_cons ha (pa_cons hb pa_nil h2) h1)) (pg_tup hc (pgs_cons (pg_name hN hi hx (.inl hfx)) (pgs_cons (pg_name hN hj hy (.inl hfy)) pgs_nil))) (by rfl) hw (by rfl)) fun T σ H ⟨r, F0, H0, F, ρ, w, s, o⟩ => by
    obtain ⟨r1, F1, ρ1, w1, s1, o1⟩ := par2_read s o
    refine ⟨r1, F1, ρ1, w1, s1, o1.mono fun v H1 ⟨r2, F2, ρ2, w2, s2, o2⟩ => ⟨r2, F2, ρ2, w2, s2, o2.mono fun u H2 ⟨F3, w3, k1, k2, q⟩ => ⟨by show 2 ≤ sizeLine; decide, fun p hp => ?_⟩⟩⟩
    exact ⟨p, [v, u], rfl, SqT.of upd_same, rfl, v, [u], rfl, u, [], rfl, rfl, q _ (Nx.fresh k2 k1 hp)⟩
/-! ### defs -/
variable {P : Program} {wd : World} {mg : Str → Option Value} {base : Heap}
theorem start_get {N : List Str} {vs : List V} {i : Nat} : (L2.start N vs)[i]? = if i < vs.length then (vs[i]?).map some else if i < vs.length + (N.length - vs.length) then some none else none := by
  unfold L2.start
  by_cases h : i < vs.length
  · rw [if_pos h, List.getElem?_append_left (by rw [List.length_map]; exact h), List.getElem?_map]
  · rw [if_neg h, List.getElem?_append_right (by rw [List.length_map]; omega), List.length_map]
    by_cases h2 : i < vs.length + (N.length - vs.length)
    · rw [if_pos h2, List.getElem?_replicate, if_pos (by omega)]
    · rw [if_neg h2, List.getElem?_replicate, if_neg (by omega)]
theorem sb_start {N : List Str} {ds : List D} {vs : List V} (s : Sub F H) (k : RowOk K r F H w) (l : RpL F ds vs) : Sb K r F H F H (ds.map Sl.val ++ List.replicate (N.length - ds.length) Sl.no) (L2.start N vs) w := by
  have ll := l.length
  have g : ∀ (i : Nat) (sl : Sl), (ds.map Sl.val ++ List.replicate (N.length - ds.length) Sl.no)[i]? = some sl → (∃ d, ds[i]? = some d ∧ sl = .val d) ∨ sl = .no := fun i sl e => by
    by_cases h : i < ds.length
    · rw [List.getElem?_append_left (by rw [List.length_map]; exact h), List.getElem?_map, List.getElem?_eq_getElem h] at e
      exact .inl ⟨_, List.getElem?_eq_getElem h, (Option.some.inj e).symm⟩
    · rw [List.getElem?_append_right (by rw [List.length_map]; omega), List.getElem?_replicate] at e
      split at e
      · exact .inr (Option.some.inj e).symm
      · cases e
  refine ⟨⟨s, k, ?_, fun i d e => ?_, fun i l e => ?_, fun i e => ?_, fun i j l m p e1 e2 e3 e4 => ?_⟩, Nx.refl s k, fun i l p e1 e2 => ?_⟩
  · unfold L2.start
    rw [List.length_append, List.length_append, List.length_map, List.length_map, List.length_replicate, List.length_replicate, ll]
  · rcases g i _ e with ⟨d', h1, h2⟩ | h
    · cases h2
      obtain ⟨v, h3, h4⟩ := l.get h1
      refine ⟨v, ?_, h4⟩
      rw [start_get, if_pos (List.getElem?_eq_some_iff.mp h3).1, h3]; rfl
    · cases h
  · rcases g i _ e with ⟨d', h1, h2⟩ | h <;> cases ‹_›
  · rcases g i _ e with ⟨d', h1, h2⟩ | h <;> cases ‹_›
  · rcases g i _ e1 with ⟨d', h1, h2⟩ | h <;> cases ‹_›
  · rcases g i _ e1 with ⟨d', h1, h2⟩ | h <;> cases ‹_›
/-- a def's body read, its end -/
theorem fn_read {n : Nat} {B : S} {T : L2.Ends} {F H : Hp} {w : W} {ds : List D} {Q : VK} (o : Out PV K r F H (bnd (denS B ρ) (fun o => match o with | .rt d => ret d | .nx _ => ret .none) w) Q) : OutS K r F H (denS B ρ w) { nx := fun _ H' => Q .non H', rt := Q } := by
  unfold bnd at o
  cases e : denS B ρ w with
  | exc c xs w => rw [e] at o; exact o
  | bad => rw [e] at o; exact o
  | ok u w1 =>
    rw [e] at o
    cases u with
    | nx ρ' => exact fun σ F' H' s => o .non F' H' s.nx rfl
    | rt d => exact fun v F' H' n p => o v F' H' n p
theorem fn_ok {st : Stmt} {f : Addr} {fd : FuncData} {x qual : Str} {N ps : List Str} {k n : Nat} {B : S} (Fn : Fun K x qual st f fd) (Sc : FnScope N ps (defScope st)) (hn : ps.length = n)
    (h : ∀ (X : Cx), X.prog = P → X.w = wd → X.K = K → X.mg = mg → X.base = base → X.N = N → X.env.scope = defScope st → X.calm = true → Room k X.A → X.fn = (fun _ => true) → X.xe = (fun _ _ => False) → DSs X (defBody st) (denS B)) :
    FnOk P wd K mg base CX0 (k + 1) f fd ps (spD K n (fn N.length B)) := by
  refine Fn.ok Sc (fun vs H Q E h => by rw [h.1, hn]) fun cdv A outer s H vs Q E hr hs => ?_
  obtain ⟨hl, r, F, ds, w, hs, hk, l, o⟩ := hs
  refine ⟨_, h _ rfl rfl rfl rfl rfl rfl rfl rfl hr rfl rfl, r, F, H, F, _, w, sb_start (N := N) hs hk l, ?_⟩
  exact fn_read (n := n) (T := ⟨fun _ _ => True, fun _ _ => True, fun _ _ => True, fun _ _ => True⟩) (ds := ds) o
theorem sb_startR {N : List Str} {ds : List D} {vs : List V} {ra t : Addr} {ns : List Int} (s : Sub F H) (k : RowOk K (some (ra, t, ns)) F H w) (l : RpL F ds vs) :
    Sb K (some (ra, t, ns)) F H F H (.row :: (ds.map Sl.val ++ List.replicate (N.length - ds.length) Sl.no)) (some (.ref ra) :: L2.start N vs) w := by
  have h := sb_start (N := N) s k l
  refine ⟨⟨s, k, by rw [List.length_cons, List.length_cons, h.sx.len], fun i d e => ?_, fun i l e => ?_, fun i e => ?_, fun i j l m p e1 e2 e3 e4 => ?_⟩, Nx.refl s k, fun i l p e1 e2 => ?_⟩
  · cases i with
    | zero => cases e
    | succ i => exact h.sx.val i d e
  · cases i with
    | zero => cases e
    | succ i => exact h.sx.own i l e
  · cases i with
    | zero => exact ⟨ra, rfl, rfl⟩
    | succ i => exact h.sx.rw i e
  · cases i with
    | zero => cases e1
    | succ i =>
      cases j with
      | zero => cases e2
      | succ j => rw [h.sx.inj i j l m p e1 e2 e3 e4]
  · cases i with
    | zero => cases e1
    | succ i => exact h.fr i l p e1 e2
theorem fnR_ok {st : Stmt} {f : Addr} {fd : FuncData} {x qual n0 : Str} {N ps : List Str} {k n : Nat} {B : S} (Fn : Fun K x qual st f fd) (Sc : FnScope (n0 :: N) ps (defScope st)) (hn : ps.length = n + 1)
    (h : ∀ (X : Cx), X.prog = P → X.w = wd → X.K = K → X.mg = mg → X.base = base → X.N = n0 :: N → X.env.scope = defScope st → X.calm = true → Room k X.A → X.fn = (fun _ => true) → X.xe = (fun _ _ => False) → DSs X (defBody st) (denS B)) :
    FnOk P wd K mg base CX0 (k + 1) f fd ps (spR K n (fnR N.length B)) := by
  refine Fn.ok Sc (fun vs H Q E h => by rw [h.1, hn]) fun cdv A outer s H vs Q E hr hs => ?_
  obtain ⟨hl, ra, ⟨t, ns⟩, us, F, ds, w, rfl, hs, hk, l, o⟩ := hs
  have e : L2.start (n0 :: N) (V.ref ra :: us) = some (.ref ra) :: L2.start N us := by
    unfold L2.start
    rw [List.map_cons, List.cons_append, List.length_cons, List.length_cons, Nat.add_sub_add_right]
  refine ⟨_, h _ rfl rfl rfl rfl rfl rfl rfl rfl hr rfl rfl, some (ra, t, ns), F, H, F, _, w, by rw [e]; exact sb_startR (N := N) hs hk l, ?_⟩
  exact fn_read (n := n) (T := ⟨fun _ _ => True, fun _ _ => True, fun _ _ => True, fun _ _ => True⟩) (ds := ds) o
end
end Dn
namespace Dn
open PySem PySem.Spec PyProof.Rows L2
set_option autoImplicit true
/-! ### looks at the syntax -/
structure Cg where
  N : List Str
  sc : Scope
  fb : Str → Bool
inductive Syn | e (x : Expr) | l (xs : List Expr) | i (t x : Expr)
def vName : Expr → Option Str | .Name x _ => some x | _ => none
theorem vName_eq {x : Expr} {n : Str} (h : vName x = some n) : ∃ p, x = .Name n p := by
  cases x <;> first | (cases h; done) | (cases h; exact ⟨_, rfl⟩)
def vConst : Expr → Option Const | .Constant c _ _ => some c | _ => none
theorem vConst_eq {x : Expr} {n : Const} (h : vConst x = some n) : ∃ k p, x = .Constant n k p := by
  cases x <;> first | (cases h; done) | (cases h; exact ⟨_, _, rfl⟩)
def vBin : Expr → Option (Expr × Operator × Expr) | .BinOp a o b _ => some (a, o, b) | _ => none
theorem vBin_eq {x a b : Expr} {o : Operator} (h : vBin x = some (a, o, b)) : ∃ p, x = .BinOp a o b p := by
  cases x <;> first | (cases h; done) | (cases h; exact ⟨_, rfl⟩)
def vUn : Expr → Option (UnaryOp × Expr) | .UnaryOp o a _ => some (o, a) | _ => none
theorem vUn_eq {x a : Expr} {o : UnaryOp} (h : vUn x = some (o, a)) : ∃ p, x = .UnaryOp o a p := by
  cases x <;> first | (cases h; done) | (cases h; exact ⟨_, rfl⟩)
def vCmp : Expr → Option (Expr × CmpOp × Expr) | .Compare a [o] [b] _ => some (a, o, b) | _ => none
theorem vCmp_eq {x a b : Expr} {o : CmpOp} (h : vCmp x = some (a, o, b)) : ∃ p, x = .Compare a [o] [b] p := by
  unfold vCmp at h
  split at h
  · cases h; exact ⟨_, rfl⟩
  · cases h
def vChain : Expr → Option (Expr × CmpOp × Expr × CmpOp × Expr) | .Compare a [o, o'] [b, c] _ => some (a, o, b, o', c) | _ => none
theorem vChain_eq {x a b c : Expr} {o o' : CmpOp} (h : vChain x = some (a, o, b, o', c)) : ∃ p, x = .Compare a [o, o'] [b, c] p := by
  unfold vChain at h
  split at h
  · cases h; exact ⟨_, rfl⟩
  · cases h
def vBool : Expr → Option (BoolOp × Expr × Expr × List Expr × Pos) | .BoolOp o (a :: b :: r) p => some (o, a, b, r, p) | _ => none
theorem vBool_eq {x a b : Expr} {o : BoolOp} {r : List Expr} {p : Pos} (h : vBool x = some (o, a, b, r, p)) : x = .BoolOp o (a :: b :: r) p := by
  unfold vBool at h
  split at h
  · cases h; rfl
  · cases h
def vIf : Expr → Option (Expr × Expr × Expr) | .IfExp c a b _ => some (c, a, b) | _ => none
theorem vIf_eq {x a b c : Expr} (h : vIf x = some (c, a, b)) : ∃ p, x = .IfExp c a b p := by
  cases x <;> first | (cases h; done) | (cases h; exact ⟨_, rfl⟩)
def vTup : Expr → Option (List Expr) | .Tuple es _ _ => some es | _ => none
theorem vTup_eq {x : Expr} {es : List Expr} (h : vTup x = some es) : ∃ k p, x = .Tuple es k p := by
  cases x <;> first | (cases h; done) | (cases h; exact ⟨_, _, rfl⟩)
def vList : Expr → Option (List Expr) | .List es _ => some es | _ => none
theorem vList_eq {x : Expr} {es : List Expr} (h : vList x = some es) : ∃ p, x = .List es p := by
  cases x <;> first | (cases h; done) | (cases h; exact ⟨_, rfl⟩)
def vSub : Expr → Option (Expr × Expr) | .Subscript a b _ => some (a, b) | _ => none
theorem vSub_eq {x a b : Expr} (h : vSub x = some (a, b)) : ∃ p, x = .Subscript a b p := by
  cases x <;> first | (cases h; done) | (cases h; exact ⟨_, rfl⟩)
def vSlice : Expr → Option (Option Expr × Option Expr) | .Slice l h none _ => some (l, h) | _ => none
theorem vSlice_eq {x : Expr} {l u : Option Expr} (h : vSlice x = some (l, u)) : ∃ p, x = .Slice l u none p := by
  unfold vSlice at h
  split at h
  · cases h; exact ⟨_, rfl⟩
  · cases h
def vCall : Expr → Option (Str × Expr × List Expr × Pos) | .Call (.Name x _) (a :: es) [] p => some (x, a, es, p) | _ => none
theorem vCall_eq {x a : Expr} {f : Str} {es : List Expr} {p : Pos} (h : vCall x = some (f, a, es, p)) : ∃ q, x = .Call (.Name f q) (a :: es) [] p := by
  unfold vCall at h
  split at h
  · cases h; exact ⟨_, rfl⟩
  · cases h
def vComp : Expr → Option (Expr × Expr × Expr × List Expr × Scope × Pos) | .ListComp x [⟨t, it, ifs, 0⟩] sc p => some (x, t, it, ifs, sc, p) | _ => none
theorem vComp_eq {x e t it : Expr} {ifs : List Expr} {sc : Scope} {p : Pos} (h : vComp x = some (e, t, it, ifs, sc, p)) : x = .ListComp e [⟨t, it, ifs, 0⟩] sc p := by
  unfold vComp at h
  split at h
  · cases h; rfl
  · cases h
def isStar : Expr → Bool | .Starred .. => true | _ => false
def vStar : Expr → Option Expr | .Starred e _ => some e | _ => none
theorem vStar_eq {x a : Expr} (h : vStar x = some a) : ∃ p, x = .Starred a p := by
  cases x <;> first | (cases h; done) | (cases h; exact ⟨_, rfl⟩)
def isSlice : Expr → Bool | .Slice .. => true | _ => false
def isSet : Expr → Bool | .Set .. => true | _ => false
theorem star_no {a : Expr} (h : isStar a = false) (es : List Expr) (env : Env) : starEach (a :: es) env = (false, eval a env) :: starEach es env := by
  cases a <;> first | rfl | cases h
theorem plain_no {a : Expr} (h : isSlice a = false) : PlainIx a := fun o i => by
  cases a <;> first | rfl | cases h
theorem noset {a : Expr} (h : isSet a = false) (env : Env) (x : Value) : foldedSetIterable a env x = pure x := by
  cases a <;> first | rfl | cases h
theorem any_no {es : List Expr} (h : es.all (fun a => !isStar a) = true) (p : Pos) (env : Env) : (backTo p (starEach es env)).any (·.1) = false := by
  induction es with
  | nil => rfl
  | cons a es ih =>
    rw [List.all_cons, Bool.and_eq_true] at h
    rw [star_no (by simpa using h.1)]
    show (false || (backTo p (starEach es env)).any (·.1)) = false
    rw [ih h.2]
    rfl
def visB (c : Cg) (x : Str) : Bool := match c.sc.names.lookup x with | some .local => true | some .cell => true | some .free => true | _ => false
def glB (c : Cg) (x : Str) : Bool := match c.sc.names.lookup x with | some .globalImplicit => true | _ => false
def dbB (x : Str) : Bool := !(x == ("__debug__" : Str))
def nmB (c : Cg) (i : Nat) (x : Str) : Bool := decide (c.N[i]? = some x) && visB c x && dbB x && !(x == ("__classdict__" : Str))
def stB (c : Cg) (i : Nat) (x : Str) : Bool := decide (c.N[i]? = some x) && (match c.sc.names.lookup x with | some .local => true | some .cell => c.fb x | _ => false)
/-- a built-in's name as it stands -/
def bnB (c : Cg) (x : Str) (n : String) : Bool := decide (x = Str.ofString n) && glB c x
def litB : D → Const → Bool
  | .int i, .int j => decide (i = j)
  | .none, .none => true
  | .bool b, .bool k => b == k
  | .str x, .str y => decide (x = y)
  | _, _ => false
def opB : BOp → Operator → Bool
  | .add, .Add => true
  | .sub, .Sub => true
  | .mul, .Mult => true
  | .fdiv, .FloorDiv => true
  | .mod, .Mod => true
  | .pow, .Pow => true
  | _, _ => false
def opC : COp → CmpOp → Bool
  | .eq, .Eq => true
  | .ne, .NotEq => true
  | .lt, .Lt => true
  | .le, .LtE => true
  | .gt, .Gt => true
  | .ge, .GtE => true
  | .is_, .Is => true
  | .isnot, .IsNot => true
  | .in_, .In => true
  | .notin, .NotIn => true
  | _, _ => false
def inC : COp → Bool | .in_ => true | .notin => true | _ => false
def ownL : Tg → Syn → List (Str × Nat)
  | .nm i, .e (.Name x _) => [(x, i)]
  | .tup ts, .e (.Tuple es _ _) => ownL ts (.l es)
  | .tcons t u, .l (e :: es) => ownL t (.e e) ++ ownL u (.l es)
  | _, _ => []
def chkT : Tg → Cg → Syn → Bool
  | .nm i, c, .e (.Name x _) => stB c i x
  | .tup ts, c, .e (.Tuple es _ _) => chkT ts c (.l es)
  | .tnil, _, .l [] => true
  | .tcons t u, c, .l (e :: es) => !isStar e && chkT t c (.e e) && chkT u c (.l es)
  | _, _, _ => false
def isIter : E → Bool | .range1 _ => true | .range2 _ _ => true | .range3 _ _ => true | .zip _ _ => true | .enum _ => true | .rev _ => true | _ => false
def tst : E → Bool | .ite _ _ _ => false | _ => true
def tru : E → Bool | .lit (.bool true) => true | _ => false
def b1N : B1 → String
  | .len => "len" | .tuple => "tuple" | .list => "list" | .sum => "sum" | .max => "max" | .min => "min" | .abs => "abs" | .any => "any" | .all => "all" | .int => "int" | .str => "str"
def b2N : B2 → String | .max2 => "max" | .min2 => "min"
def inner (c : Cg) (scope : Scope) : Cg := ⟨c.N, relS scope c.sc, fun y => match scope.names.lookup y with | some .cell => true | _ => false⟩
def ob {α : Type} (o : Option α) (f : α → Bool) : Bool := match o with | some y => f y | none => false
theorem vw {α : Type} {o : Option α} {f : α → Bool} (h : ob o f = true) : ∃ y, o = some y ∧ f y = true := by
  cases o with
  | none => cases h
  | some y => exact ⟨y, rfl, h⟩
def vNeg : Expr → Option Expr | .UnaryOp .USub a _ => some a | _ => none
theorem vNeg_eq {x a : Expr} (h : vNeg x = some a) : ∃ p, x = .UnaryOp .USub a p := by
  unfold vNeg at h
  split at h
  · cases h; exact ⟨_, rfl⟩
  · cases h
def vNot : Expr → Option Expr | .UnaryOp .Not a _ => some a | _ => none
theorem vNot_eq {x a : Expr} (h : vNot x = some a) : ∃ p, x = .UnaryOp .Not a p := by
  unfold vNot at h
  split at h
  · cases h; exact ⟨_, rfl⟩
  · cases h
def bnext (op : BoolOp) (z : Expr) (r : List Expr) (p : Pos) : Expr := match r with | [] => z | _ :: _ => .BoolOp op (z :: r) p
def vAnd : Expr → Option (Expr × Expr × List Expr × Pos) | .BoolOp .And (a :: b :: r) p => some (a, b, r, p) | _ => none
theorem vAnd_eq {x a b : Expr} {r : List Expr} {p : Pos} (h : vAnd x = some (a, b, r, p)) : x = .BoolOp .And (a :: b :: r) p := by
  unfold vAnd at h
  split at h
  · cases h; rfl
  · cases h
def vOr : Expr → Option (Expr × Expr × List Expr × Pos) | .BoolOp .Or (a :: b :: r) p => some (a, b, r, p) | _ => none
theorem vOr_eq {x a b : Expr} {r : List Expr} {p : Pos} (h : vOr x = some (a, b, r, p)) : x = .BoolOp .Or (a :: b :: r) p := by
  unfold vOr at h
  split at h
  · cases h; rfl
  · cases h
def vCall1 : Expr → Option (Str × Expr) | .Call (.Name x _) [a] [] _ => some (x, a) | _ => none
theorem vCall1_eq {x a : Expr} {f : Str} (h : vCall1 x = some (f, a)) : ∃ q p, x = .Call (.Name f q) [a] [] p := by
  unfold vCall1 at h
  split at h
  · cases h; exact ⟨_, _, rfl⟩
  · cases h
def vCall2 : Expr → Option (Str × Expr × Expr) | .Call (.Name x _) [a, b] [] _ => some (x, a, b) | _ => none
theorem vCall2_eq {x a b : Expr} {f : Str} (h : vCall2 x = some (f, a, b)) : ∃ q p, x = .Call (.Name f q) [a, b] [] p := by
  unfold vCall2 at h
  split at h
  · cases h; exact ⟨_, _, rfl⟩
  · cases h
def vCall3 : Expr → Option (Str × Expr × Expr × Expr) | .Call (.Name x _) [a, b, c] [] _ => some (x, a, b, c) | _ => none
theorem vCall3_eq {x a b c : Expr} {f : Str} (h : vCall3 x = some (f, a, b, c)) : ∃ q p, x = .Call (.Name f q) [a, b, c] [] p := by
  unfold vCall3 at h
  split at h
  · cases h; exact ⟨_, _, rfl⟩
  · cases h
/-- a name at a constant place -/
def vAt : Expr → Option (Str × Int) | .Subscript (.Name x _) (.Constant (.int k) _ _) _ => some (x, k) | _ => none
theorem vAt_eq {x : Expr} {f : Str} {k : Int} (h : vAt x = some (f, k)) : ∃ p1 p2 p3 kk, x = .Subscript (.Name f p1) (.Constant (.int k) kk p2) p3 := by
  unfold vAt at h
  split at h
  · cases h; exact ⟨_, _, _, _, rfl⟩
  · cases h
def vM1 : Expr → Bool | .UnaryOp .USub (.Constant (.int 1) _ _) _ => true | _ => false
theorem vM1_eq {x : Expr} (h : vM1 x = true) : ∃ p1 p2 kk, x = .UnaryOp .USub (.Constant (.int 1) kk p1) p2 := by
  unfold vM1 at h
  split at h
  · exact ⟨_, _, _, rfl⟩
  · cases h
def opt : Option Expr → Syn | some x => .e x | none => .l []
def chk : E → Cg → Bool → Syn → Bool
  | .nil, _, _, .l xs => xs.isEmpty
  | .cons a r, c, _, .l (x :: xs) => !isStar x && (chk a c false (.e x) && chk r c false (.l xs))
  | .star a r, c, _, .l (x :: xs) => ob (vStar x) (fun y => chk a c true (.e y)) && chk r c false (.l xs)
  | .var i, c, _, .e x => ob (vName x) fun n => nmB c i n
  | .own i, c, true, .e x => ob (vName x) fun n => nmB c i n
  | .lit d, _, _, .e x => ob (vConst x) fun k => litB d k
  | .glob n _, c, _, .e x => ob (vName x) fun y => decide (y = n) && (glB c y && dbB y)
  | .bin o a b, c, _, .e x => ob (vBin x) fun q => opB o q.2.1 && (chk a c false (.e q.1) && chk b c false (.e q.2.2))
  | .neg a, c, _, .e x => ob (vNeg x) fun y => chk a c false (.e y)
  | .not a, c, _, .e x => ob (vNot x) fun y => tst a && chk a c false (.e y)
  | .cmp o a b, c, _, .e x => ob (vCmp x) fun q => opC o q.2.1 && (!(behindInMarks q.2.1 q.2.2) && (chk a c false (.e q.1) && chk b c (inC o) (.e q.2.2)))
  | .chain o o' a b d, c, _, .e x => ob (vChain x) fun q => opC o q.2.1 && (opC o' q.2.2.2.1 && (!inC o && (!inC o' && (!(lastMarks [q.2.1, q.2.2.2.1] [q.2.2.1, q.2.2.2.2]) && (chk a c false (.e q.1) && (chk b c false (.e q.2.2.1) && chk d c false (.e q.2.2.2.2)))))))
  | .and a b, c, _, .e x => ob (vAnd x) fun q => tst a && (tst b && (chk a c false (.e q.1) && chk b c false (.e (bnext .And q.2.1 q.2.2.1 q.2.2.2))))
  | .or a b, c, _, .e x => ob (vOr x) fun q => tst a && (tst b && (chk a c false (.e q.1) && chk b c false (.e (bnext .Or q.2.1 q.2.2.1 q.2.2.2))))
  | .ite a b d, c, _, .e x => ob (vIf x) fun q => tst a && (chk a c false (.e q.1) && (chk b c false (.e q.2.1) && chk d c false (.e q.2.2)))
  | .tup es, c, _, .e x => ob (vTup x) fun xs => chk es c false (.l xs)
  | .list es, c, _, .e x => ob (vList x) fun xs => chk es c false (.l xs)
  | .ix a b, c, _, .e x => ob (vSub x) fun q => !isSlice q.2 && (chk a c true (.e q.1) && chk b c false (.e q.2))
  | .slice a lo hi, c, _, .e x => ob (vSub x) fun q => ob (vSlice q.2) fun u => chk a c true (.e q.1) && (chk lo c false (opt u.1) && chk hi c false (opt u.2))
  | .call n _ _ es, c, _, .e x => ob (vCall x) fun q => decide (q.1 = n) && (glB c q.1 && (dbB q.1 && (!isStar q.2.1 && (q.2.2.1.all (fun a => !isStar a) && chk es c false (.l (q.2.1 :: q.2.2.1))))))
  | .callR n _ _ i es, c, _, .e x => ob (vCall x) fun q => decide (q.1 = n) && (glB c q.1 && (dbB q.1 && (ob (vName q.2.1) (fun rv => nmB c i rv) && (q.2.2.1.all (fun a => !isStar a) && chk es c false (.l q.2.2.1)))))
  | .b1 b a, c, _, .e x => ob (vCall1 x) fun q => bnB c q.1 (b1N b) && (!isStar q.2 && chk a c true (.e q.2))
  | .b2 b a d, c, _, .e x => ob (vCall2 x) fun q => bnB c q.1 (b2N b) && (!isStar q.2.1 && (!isStar q.2.2 && (chk a c false (.e q.2.1) && chk d c false (.e q.2.2))))
  | .isI a cl, c, _, .e x => ob (vCall2 x) fun q => bnB c q.1 "isinstance" && (!isStar q.2.1 && (chk a c false (.e q.2.1) && ob (vName q.2.2) fun n => bnB c n cl.name))
  | .isTL a, c, _, .e x => ob (vCall2 x) fun q => bnB c q.1 "isinstance" && (!isStar q.2.1 && (chk a c false (.e q.2.1) && ob (vTup q.2.2) fun us => (match us with
      | [u1, u2] => ob (vName u1) fun n1 => ob (vName u2) fun n2 => bnB c n1 "tuple" && bnB c n2 "list"
      | _ => false)))
  | .comp elt tg src cond, c, _, .e x => ob (vComp x) fun q => blkC c.N c.sc q.2.2.2.2.1 (ownL tg (.e q.2.1)) && (decide ((ownL tg (.e q.2.1)).map (·.2) = tg.slots) && (chkT tg (inner c q.2.2.2.2.1) (.e q.2.1) &&
          (!isSet q.2.2.1 && ((if isIter src then chk src c false (.i q.2.1 q.2.2.1) else chk src c true (.e q.2.2.1)) && (chk elt (inner c q.2.2.2.2.1) false (.e q.1) &&
          (match q.2.2.2.1 with | [] => tru cond | [z] => tst cond && chk cond (inner c q.2.2.2.2.1) false (.e z) | _ => false))))))
  | .range1 a, c, _, .i _ x => ob (vCall1 x) fun q => bnB c q.1 "range" && (!isStar q.2 && chk a c false (.e q.2))
  | .range2 a b, c, _, .i _ x => ob (vCall2 x) fun q => bnB c q.1 "range" && (!isStar q.2.1 && (!isStar q.2.2 && (chk a c false (.e q.2.1) && chk b c false (.e q.2.2))))
  | .range3 a b, c, _, .i _ x => ob (vCall3 x) fun q => bnB c q.1 "range" && (!isStar q.2.1 && (!isStar q.2.2.1 && (chk a c false (.e q.2.1) && (chk b c false (.e q.2.2.1) && vM1 q.2.2.2))))
  | .zip a b, c, _, .i t x => ob (vTup t) fun _ => ob (vCall2 x) fun q => bnB c q.1 "zip" && (!isStar q.2.1 && (!isStar q.2.2 && (chk a c false (.e q.2.1) && chk b c false (.e q.2.2))))
  | .enum a, c, _, .i t x => ob (vTup t) fun _ => ob (vCall1 x) fun q => bnB c q.1 "enumerate" && (!isStar q.2 && chk a c false (.e q.2))
  | .rowAt i j, c, _, .e x => ob (vAt x) fun q => nmB c i q.1 && decide (q.2 = (j : Int))
  | .scrLen i, c, _, .e x => ob (vCall1 x) fun q => bnB c q.1 "len" && ob (vAt q.2) fun u => nmB c i u.1 && decide (u.2 = 0)
  | .scrAt i a, c, _, .e x => ob (vSub x) fun q => !isSlice q.2 && (chk a c false (.e q.2) && ob (vAt q.1) fun u => nmB c i u.1 && decide (u.2 = 0))
  | .stuck, _, _, .e _ => true
  | .listR1 a, c, _, .e x => ob (vCall1 x) fun q => bnB c q.1 "list" && ob (vCall1 q.2) fun r => bnB c r.1 "range" && (!isStar r.2 && chk a c false (.e r.2))
  | .tupR1 a, c, _, .e x => ob (vCall1 x) fun q => bnB c q.1 "tuple" && ob (vCall1 q.2) fun r => bnB c r.1 "range" && (!isStar r.2 && chk a c false (.e r.2))
  | .listR2 a b, c, _, .e x => ob (vCall1 x) fun q => bnB c q.1 "list" && ob (vCall2 q.2) fun r => bnB c r.1 "range" && (!isStar r.2.1 && (!isStar r.2.2 && (chk a c false (.e r.2.1) && chk b c false (.e r.2.2))))
  | _, _, _, _ => false
inductive Need | fn (x : Str) (n : Nat) (f : List D → M D) | fnR (x : Str) (n : Nat) (f : List D → M D) | gl (x : Str) (d : D)
def needs : E → List Need
  | .cons a r => needs a ++ needs r
  | .star a r => needs a ++ needs r
  | .glob x d => [.gl x d]
  | .bin _ a b => needs a ++ needs b
  | .neg a => needs a
  | .not a => needs a
  | .cmp _ a b => needs a ++ needs b
  | .chain _ _ a b c => needs a ++ (needs b ++ needs c)
  | .and a b => needs a ++ needs b
  | .or a b => needs a ++ needs b
  | .ite a b c => needs a ++ (needs b ++ needs c)
  | .tup es => needs es
  | .list es => needs es
  | .ix a b => needs a ++ needs b
  | .slice a b c => needs a ++ (needs b ++ needs c)
  | .call x n f es => .fn x n f :: needs es
  | .callR x n f _ es => .fnR x n f :: needs es
  | .b1 _ a => needs a
  | .b2 _ a b => needs a ++ needs b
  | .isI a _ => needs a
  | .isTL a => needs a
  | .comp a _ b c => needs a ++ (needs b ++ needs c)
  | .range1 a => needs a
  | .range2 a b => needs a ++ needs b
  | .range3 a b => needs a ++ needs b
  | .zip a b => needs a ++ needs b
  | .enum a => needs a
  | .rev a => needs a
  | .scrAt _ e => needs e
  | .listR1 a => needs a
  | .listR2 a b => needs a ++ needs b
  | .tupR1 a => needs a
  | _ => []
def scalarV : D → Option V
  | .int i => some (.int i)
  | .str s => some (.str s)
  | _ => none
def NeedOk (P : Program) (w : World) (K : PySem.W.Frag) (mg : Str → Option Value) (base : Heap) (k : Nat) : Need → Prop
  | .fn x n f => CallOk P w K mg base k x (spD K n f)
  | .fnR x n f => CallOk P w K mg base k x (spR K n f)
  | .gl x d => ∃ v u, scalarV d = some v ∧ mg x = some u ∧ RelV v u
def bnames : List String := ["len", "tuple", "list", "sum", "max", "min", "abs", "any", "all", "int", "str", "bool", "isinstance", "range", "zip", "enumerate", "reversed"]
structure Good (X : Cx) (c : Cg) (k : Nat) : Prop where
  N : X.N = c.N
  nd : X.N.Nodup
  sc : X.env.scope = c.sc
  kind : X.env.scope.kind = .function
  fb : ∀ x, c.fb x = true → X.fn x = true
  calm : X.calm = true
  room : Room k X.A
  bn : ∀ n ∈ bnames, X.mg (Str.ofString n) = none
section
variable {X : Cx} {c : Cg} {k i : Nat} {x : Str} {n : String}
theorem Good.nm (G : Good X c k) (h : nmB c i x = true) : X.N[i]? = some x ∧ Vis X.env.scope x ∧ (x == ("__debug__" : Str)) = false ∧ (x == ("__classdict__" : Str)) = false := by
  unfold nmB at h
  simp only [Bool.and_eq_true, decide_eq_true_eq, dbB, Bool.not_eq_true'] at h
  obtain ⟨⟨⟨h1, h2⟩, h3⟩, h4⟩ := h
  refine ⟨by rw [G.N]; exact h1, ?_, h3, h4⟩
  rw [G.sc]
  unfold visB at h2
  split at h2 <;> first | exact .inl (by assumption) | exact .inr (.inl (by assumption)) | exact .inr (.inr (by assumption)) | cases h2
theorem Good.gl (G : Good X c k) (h : glB c x = true) : Gl X x := by
  show X.env.scope.names.lookup x = _
  rw [G.sc]
  unfold glB at h
  split at h
  · assumption
  · cases h
theorem Good.st (G : Good X c k) (h : stB c i x = true) : X.N[i]? = some x ∧ Loc X.env.scope x ∧ (X.fn x = true ∨ X.env.scope.names.lookup x = some .local) := by
  unfold stB at h
  simp only [Bool.and_eq_true, decide_eq_true_eq] at h
  obtain ⟨h1, h2⟩ := h
  refine ⟨by rw [G.N]; exact h1, ?_⟩
  rw [G.sc]
  split at h2 <;> first | exact ⟨.inl (by assumption), .inr (by assumption)⟩ | exact ⟨.inr (by assumption), .inl (G.fb _ h2)⟩ | cases h2
theorem Good.bt (G : Good X c k) (h : bnB c x n = true) (hn : n ∈ bnames) : x = Str.ofString n ∧ Gl X (Str.ofString n) ∧ X.mg (Str.ofString n) = none := by
  unfold bnB at h
  simp only [Bool.and_eq_true, decide_eq_true_eq] at h
  obtain ⟨rfl, h2⟩ := h
  exact ⟨rfl, G.gl h2, G.bn n hn⟩
theorem Good.blk (G : Good X c k) {scope : Scope} (hk : scope.kind = .function) (s : Shared) (H : Hp) (C : Addr) (cl : List (Str × Addr)) (fp : List Addr) : Good (X.blk s H scope (compEnvC scope cl C X.env) fp) (inner c scope) k where
  N := G.N
  nd := G.nd
  sc := by
    show relS scope X.env.scope = relS scope c.sc
    rw [G.sc]
  kind := by
    show (relS scope X.env.scope).kind = .function
    exact hk
  fb := fun x h => by
    show (scope.names.lookup x == some .cell) = true
    have h : (match scope.names.lookup x with | some .cell => true | _ => false) = true := h
    split at h
    · rename_i e; rw [e]; rfl
    · cases h
  calm := G.calm
  room := G.room
  bn := G.bn
end
end Dn
namespace Dn
open PySem PySem.Spec PyProof.Rows L2
set_option autoImplicit true
def fresh : E → Bool | .list _ => true | .comp _ _ _ _ => true | .b1 .list _ => true | .listR1 _ => true | .listR2 _ _ => true | _ => false
structure Snd (X : Cx) (c : Cg) (E : E) : Prop where
  v : ∀ x, chk E c false (.e x) = true → DE X x (den E)
  s : ∀ x, chk E c true (.e x) = true → DS X x (den E)
  l : ∀ xs, chk E c false (.l xs) = true → DA X xs (den E)
  i : ∀ t x, chk E c false (.i t x) = true → DI X t x (fun ρ => bnd (den E ρ) itemsOf)
  t : ∀ x, tst E = true → chk E c false (.e x) = true → DT X x (fun ρ => bnd (den E ρ) asB)
  w : ∀ op y r p, tst E = true → chk E c false (.e (.BoolOp op (y :: r) p)) = true → DW X (.BoolOp op (y :: r) p) (fun ρ => bnd (den E ρ) asB)
  f : fresh E = true → ∀ x, chk E c false (.e x) = true → DF X x (den E)
def plainX : Expr → Bool
  | .UnaryOp .Not _ _ => false
  | .BoolOp _ _ _ => false
  | .IfExp _ _ _ _ => false
  | .Compare _ _ _ _ => false
  | _ => true
theorem plain_t {x : Expr} (h : plainX x = true) (env : Env) (whole : Sem Value) : isTrue x env whole = (do let v ← whole; standAt x.pos; holding [v] (truthy v)) := by
  cases x with
  | UnaryOp op a p => cases op <;> first | rfl | cases h
  | BoolOp _ _ _ => cases h
  | IfExp _ _ _ _ => cases h
  | Compare _ _ _ _ => cases h
  | _ => rfl
section
variable {X : Cx} {c : Cg} {k i : Nat} {E0 a b d e : Dn.E}
theorem no {α : Prop} (h : false = true) : α := absurd h Bool.false_ne_true
/-- a node that is a value only, of a plain shape -/
theorem Snd.plain (v : ∀ x, chk E0 c false (.e x) = true → DE X x (den E0)) (hp : ∀ x, chk E0 c false (.e x) = true → plainX x = true) (hs : ∀ x, chk E0 c true (.e x) = chk E0 c false (.e x)) (hl : ∀ xs, chk E0 c false (.l xs) = false) (hi : ∀ t x, chk E0 c false (.i t x) = false)
    (hf : fresh E0 = true → ∀ x, chk E0 c false (.e x) = true → DF X x (den E0) := by intro z; exact no z) : Snd X c E0 where
  v := v
  s := fun x h => (v x (by rw [← hs x]; exact h)).ds
  l := fun xs h => by rw [hl] at h; exact no h
  i := fun t x h => by rw [hi] at h; exact no h
  t := fun x _ h => t_val (v x h) (plain_t (hp x h) _)
  w := fun op y r p _ h => no (hp _ h)
  f := hf
/-- .. that is walked only -/
theorem Snd.iter (i : ∀ t x, chk E0 c false (.i t x) = true → DI X t x (fun ρ => bnd (den E0 ρ) itemsOf)) (he : ∀ m x, chk E0 c m (.e x) = false) (hl : ∀ xs, chk E0 c false (.l xs) = false) (hf : fresh E0 = false) : Snd X c E0 where
  v := fun x h => by rw [he] at h; exact no h
  s := fun x h => by rw [he] at h; exact no h
  l := fun xs h => by rw [hl] at h; exact no h
  i := i
  t := fun x _ h => by rw [he] at h; exact no h
  w := fun op y r p _ h => by rw [he] at h; exact no h
  f := fun z => by rw [hf] at z; exact no z
theorem Snd.args (l : ∀ xs, chk E0 c false (.l xs) = true → DA X xs (den E0)) (he : ∀ m x, chk E0 c m (.e x) = false) (hi : ∀ t x, chk E0 c false (.i t x) = false) (hf : fresh E0 = false) : Snd X c E0 where
  v := fun x h => by rw [he] at h; exact no h
  s := fun x h => by rw [he] at h; exact no h
  l := l
  i := fun t x h => by rw [hi] at h; exact no h
  t := fun x _ h => by rw [he] at h; exact no h
  w := fun op y r p _ h => by rw [he] at h; exact no h
  f := fun z => by rw [hf] at z; exact no z
theorem nstar {x : Expr} (h : (!isStar x) = true) : isStar x = false := by simpa using h
theorem nslice {x : Expr} (h : (!isSlice x) = true) : isSlice x = false := by simpa using h
theorem two_t {a b : Bool} (h : (a && b) = true) : a = true ∧ b = true := Bool.and_eq_true _ _ ▸ h
theorem c_nil : Snd X c .nil := .args (fun xs h => by
  cases xs with
  | nil => exact a_nil
  | cons _ _ => exact no h) (fun _ _ => rfl) (fun _ _ => rfl) rfl
theorem c_cons (ha : Snd X c a) (hb : Snd X c b) : Snd X c (.cons a b) := .args (fun xs h => by
  cases xs with
  | nil => exact no h
  | cons x xs =>
    obtain ⟨h1, h⟩ := two_t h
    obtain ⟨h2, h3⟩ := two_t h
    exact a_cons (ha.v _ h2) (hb.l _ h3) (star_no (nstar h1) _ _)) (fun _ _ => rfl) (fun _ _ => rfl) rfl
theorem c_star (ha : Snd X c a) (hb : Snd X c b) : Snd X c (.star a b) := .args (fun xs h => by
  cases xs with
  | nil => exact no h
  | cons x xs =>
    obtain ⟨h1, h2⟩ := two_t h
    obtain ⟨y, e, h1⟩ := vw h1
    obtain ⟨p, rfl⟩ := vStar_eq e
    exact a_star (ha.s _ h1) (hb.l _ h2) rfl) (fun _ _ => rfl) (fun _ _ => rfl) rfl
theorem c_var (G : Good X c k) : Snd X c (.var i) := .plain (fun x h => by
    obtain ⟨n, e, h⟩ := vw h
    obtain ⟨p, rfl⟩ := vName_eq e
    obtain ⟨h1, h2, h3, h4⟩ := G.nm h
    exact s_var h1 h2 h3 h4) (fun x h => by
    obtain ⟨n, e, h⟩ := vw h
    obtain ⟨p, rfl⟩ := vName_eq e
    rfl) (fun _ => rfl) (fun _ => rfl) (fun _ _ => rfl)
theorem c_own (G : Good X c k) : Snd X c (.own i) where
  v := fun x h => no h
  s := fun x h => by
    obtain ⟨n, e, h⟩ := vw h
    obtain ⟨p, rfl⟩ := vName_eq e
    obtain ⟨h1, h2, h3, h4⟩ := G.nm h
    exact s_own h1 h2 h3 h4
  l := fun xs h => no h
  i := fun t x h => no h
  t := fun x _ h => no h
  w := fun op y r p _ h => no h
  f := fun z => no z
theorem c_lit {d : D} : Snd X c (.lit d) := .plain (fun x h => by
    obtain ⟨n, e, h⟩ := vw h
    obtain ⟨kk, p, rfl⟩ := vConst_eq e
    cases d <;> cases n <;> first | exact no h | skip
    · exact s_const pe_non fun _ => rfl
    · rename_i b b' h'
      have e : b = b' := by simpa [litB] using h'
      subst e
      exact s_const pe_bl fun _ => rfl
    · rename_i b b' h'
      have e : b = b' := by simpa [litB] using h'
      subst e
      exact s_const pe_int fun _ => rfl
    · rename_i b b' h'
      have e : b = b' := by simpa [litB] using h'
      subst e
      exact s_const pe_str fun _ => rfl) (fun x h => by
    obtain ⟨n, e, h⟩ := vw h
    obtain ⟨kk, p, rfl⟩ := vConst_eq e
    rfl) (fun _ => rfl) (fun _ => rfl) (fun _ _ => rfl)
theorem db_of {x : Str} (h : dbB x = true) : (x == ("__debug__" : Str)) = false := by
  unfold dbB at h
  simpa using h
theorem c_glob {n : Str} {d : D} (G : Good X c k) (hn : NeedOk X.prog X.w X.K X.mg X.base k (.gl n d)) : Snd X c (.glob n d) := .plain (fun x h => by
    obtain ⟨y, e, h⟩ := vw h
    obtain ⟨p, rfl⟩ := vName_eq e
    obtain ⟨h1, h⟩ := two_t h
    obtain ⟨h2, h3⟩ := two_t h
    obtain rfl := of_decide_eq_true h1
    obtain ⟨v, u, e1, e2, e3⟩ := hn
    refine s_const (pe_glob (G.gl h2) e2 e3 (db_of h3)) fun F => ?_
    cases d <;> first | (cases e1; done) | (cases e1; rfl)) (fun x h => by
    obtain ⟨y, e, h⟩ := vw h
    obtain ⟨p, rfl⟩ := vName_eq e
    rfl) (fun _ => rfl) (fun _ => rfl) (fun _ _ => rfl)
theorem bin_of {o : BOp} {op : Operator} (h : opB o op = true) : ∃ r : R2, OpR X (binaryOp op) r ∧ VR2 X.K r (binD o) := by
  cases o <;> cases op <;> first | exact no h | skip
  · exact ⟨_, op_addAll, v_add⟩
  · exact ⟨_, op_sub, v_sub⟩
  · exact ⟨_, op_mulAll, v_mul⟩
  · exact ⟨_, op_fdiv, v_fdiv⟩
  · exact ⟨_, op_mod, v_mod⟩
  · exact ⟨_, op_pow, v_pow⟩
theorem c_bin {o : BOp} (ha : Snd X c a) (hb : Snd X c b) : Snd X c (.bin o a b) := .plain (fun x h => by
    obtain ⟨⟨y, op, z⟩, e, h⟩ := vw h
    obtain ⟨p, rfl⟩ := vBin_eq e
    obtain ⟨h1, h⟩ := two_t h
    obtain ⟨h2, h3⟩ := two_t h
    obtain ⟨r, k1, k2⟩ := bin_of (X := X) h1
    exact s_bin k1 k2 (ha.v _ h2) (hb.v _ h3)) (fun x h => by
    obtain ⟨⟨y, op, z⟩, e, h⟩ := vw h
    obtain ⟨p, rfl⟩ := vBin_eq e
    rfl) (fun _ => rfl) (fun _ => rfl) (fun _ _ => rfl)
theorem c_neg (ha : Snd X c a) : Snd X c (.neg a) := .plain (fun x h => by
    obtain ⟨y, e, h⟩ := vw h
    obtain ⟨p, rfl⟩ := vNeg_eq e
    exact s_neg (ha.v _ h)) (fun x h => by
    obtain ⟨y, e, h⟩ := vw h
    obtain ⟨p, rfl⟩ := vNeg_eq e
    rfl) (fun _ => rfl) (fun _ => rfl) (fun _ _ => rfl)
/-- a node whose truth has a way of its own -/
theorem Snd.test (v : ∀ x, chk E0 c false (.e x) = true → DE X x (den E0)) (t : ∀ x, tst E0 = true → chk E0 c false (.e x) = true → DT X x (fun ρ => bnd (den E0 ρ) asB)) (hs : ∀ x, chk E0 c true (.e x) = chk E0 c false (.e x)) (hl : ∀ xs, chk E0 c false (.l xs) = false) (hi : ∀ t x, chk E0 c false (.i t x) = false)
    (hw : ∀ op y r p, tst E0 = true → chk E0 c false (.e (.BoolOp op (y :: r) p)) = true → DW X (.BoolOp op (y :: r) p) (fun ρ => bnd (den E0 ρ) asB)) (hf : fresh E0 = false) : Snd X c E0 where
  v := v
  s := fun x h => (v x (by rw [← hs x]; exact h)).ds
  l := fun xs h => by rw [hl] at h; exact no h
  i := fun t x h => by rw [hi] at h; exact no h
  t := t
  w := hw
  f := fun z => by rw [hf] at z; exact no z
theorem c_not (ha : Snd X c a) : Snd X c (.not a) := .test (fun x h => by
    obtain ⟨y, e, h⟩ := vw h
    obtain ⟨p, rfl⟩ := vNot_eq e
    exact s_not (ha.v _ (two_t h).2)) (fun x _ h => by
    obtain ⟨y, e, h⟩ := vw h
    obtain ⟨p, rfl⟩ := vNot_eq e
    obtain ⟨h1, h2⟩ := two_t h
    exact t_not (ha.t _ h1 h2)) (fun _ => rfl) (fun _ => rfl) (fun _ _ => rfl) (fun op y r p _ h => no h) rfl
theorem units65 (G : Good X c k) : X.A.units + 65 < cLine := by
  have := G.room.un
  omega
theorem units64 (G : Good X c k) : X.A.units + 64 < cLine := by
  have := units65 G
  omega
theorem cmp_of (G : Good X c k) {o : COp} {op : CmpOp} (h : opC o op = true) (hi : inC o = false) : ∃ r : R2, OpR X (compareOp op) r ∧ VR2 X.K r (cmpD o) := by
  cases o <;> cases op <;> first | exact no h | exact no hi.symm | skip
  · exact ⟨_, op_eqD (units64 G), v_eq⟩
  · exact ⟨_, op_neD (units64 G), v_ne⟩
  · exact ⟨_, op_lt, v_lt⟩
  · exact ⟨_, op_le, v_le⟩
  · exact ⟨_, op_gt, v_gt⟩
  · exact ⟨_, op_ge, v_ge⟩
  · exact ⟨_, op_isN, v_is⟩
  · exact ⟨_, op_notN, v_isnot⟩
theorem cmp_ofS (G : Good X c k) {o : COp} {op : CmpOp} (h : opC o op = true) (hi : inC o = true) : ∃ r : R2, OpR X (compareOp op) r ∧ VR2s X.K r (cmpD o) := by
  cases o <;> cases op <;> first | exact no h | exact no hi | skip
  · exact ⟨_, op_inAll (units65 G), v_in⟩
  · exact ⟨_, op_notinAll (units65 G), v_notin⟩
theorem cmp_view {o : COp} {x : Expr} {m : Bool} (h : chk (.cmp o a b) c m (.e x) = true) : ∃ y op z p, x = .Compare y [op] [z] p ∧ opC o op = true ∧ behindInMarks op z = false ∧ chk a c false (.e y) = true ∧ chk b c (inC o) (.e z) = true := by
  obtain ⟨⟨y, op, z⟩, e, h⟩ := vw h
  obtain ⟨p, rfl⟩ := vCmp_eq e
  obtain ⟨h1, h⟩ := two_t h
  obtain ⟨h2, h⟩ := two_t h
  obtain ⟨h3, h4⟩ := two_t h
  exact ⟨y, op, z, p, rfl, h1, by simpa using h2, h3, h4⟩
theorem c_cmp {o : COp} (G : Good X c k) (ha : Snd X c a) (hb : Snd X c b) : Snd X c (.cmp o a b) := .test (fun x h => by
    obtain ⟨y, op, z, p, rfl, h1, h2, h3, h4⟩ := cmp_view h
    cases e : inC o with
    | false => rw [e] at h4; obtain ⟨r, k1, k2⟩ := cmp_of G h1 e; exact s_cmp k1 k2 h2 (ha.v _ h3) (hb.v _ h4)
    | true => rw [e] at h4; obtain ⟨r, k1, k2⟩ := cmp_ofS G h1 e; exact s_cmpS k1 k2 h2 (ha.v _ h3) (hb.s _ h4)) (fun x _ h => by
    obtain ⟨y, op, z, p, rfl, h1, h2, h3, h4⟩ := cmp_view h
    cases e : inC o with
    | false => rw [e] at h4; obtain ⟨r, k1, k2⟩ := cmp_of G h1 e; exact t_cmp k1 k2 h2 (ha.v _ h3) (hb.v _ h4)
    | true => rw [e] at h4; obtain ⟨r, k1, k2⟩ := cmp_ofS G h1 e; exact t_cmpS k1 k2 h2 (ha.v _ h3) (hb.s _ h4)) (fun _ => rfl) (fun _ => rfl) (fun _ _ => rfl) (fun op y r p _ h => no h) rfl
end
end Dn
namespace Dn
open PySem PySem.Spec PyProof.Rows L2
set_option autoImplicit true
section
variable {X : Cx} {c : Cg} {k i : Nat} {E0 a b d e es lo hi : Dn.E}
theorem t_chain {op op' : CmpOp} {x y z : Expr} {pos : Pos} {r r' : R2} {g g' : D → D → M D} {fa fb fc : Ev → M D} (ho : OpR X (compareOp op) r) (ho' : OpR X (compareOp op') r') (v : VR2 X.K r g) (v' : VR2 X.K r' g') (ha : DE X x fa) (hb : DE X y fb) (hc : DE X z fc) :
    ∀ σ H Q, tOut PV X.K (fun ρ => bnd (fa ρ) fun x => bnd (fb ρ) fun y => bnd (bnd (g x y) asB) fun k => if k then bnd (fc ρ) fun z => g' y z else ret (.bool false)) σ H Q →
      tChain r r' (tOut PV X.K fa) (tOut PV X.K fb) (tOut PV X.K fc) σ H Q := fun σ H Q ⟨rr, F, ρ, w, s, o⟩ =>
  ⟨rr, F, ρ, w, s, (Out.bind (P := PV) o).mono fun x H1 ⟨F1, d, w1, n1, p1, o1⟩ => ⟨rr, F1, ρ, w1, s.nx n1, (Out.bind (P := PV) o1).mono fun y H2 ⟨F2, b, w2, n2, p2, o2⟩ => by
    rw [bnd_bnd] at o2
    refine v n2.inn n2.row (Rp.mono n2.sub _ _ p1) p2 ((Out.bind (P := PV) o2).mono fun z H3 ⟨F3, u, w3, n3, p3, o3⟩ => ?_)
    cases u with
    | bool k =>
      refine ⟨k, p3, ?_⟩
      cases k with
      | true =>
        rw [if_pos rfl]
        exact ⟨rr, F3, ρ, w3, ((s.nx n1).nx n2).nx n3, (Out.bind (P := PV) o3).mono fun y2 H4 ⟨F4, b4, w4, n4, p4, o4⟩ => v' n4.inn n4.row (Rp.mono (n3.sub.trans n4.sub) _ _ p2) p4 o4⟩
      | false =>
        rw [if_neg (by decide)]
        exact fin n3.inn n3.row o3 rfl
    | _ => exact o3.elim⟩⟩
theorem s_chain {op op' : CmpOp} {x y z : Expr} {pos : Pos} {r r' : R2} {g g' : D → D → M D} {fa fb fc : Ev → M D} (ho : OpR X (compareOp op) r) (ho' : OpR X (compareOp op') r') (v : VR2 X.K r g) (v' : VR2 X.K r' g') (hm : lastMarks [op, op'] [y, z] = false) (ha : DE X x fa) (hb : DE X y fb) (hc : DE X z fc) :
    DE X (.Compare x [op, op'] [y, z] pos) (fun ρ => bnd (fa ρ) fun x => bnd (fb ρ) fun y => bnd (bnd (g x y) asB) fun k => if k then bnd (fc ρ) fun z => g' y z else ret (.bool false)) :=
  PE_imp (pe_chain ho ho' ha hb hc hm) (t_chain (pos := pos) ho ho' v v' ha hb hc)
theorem tt_chain {op op' : CmpOp} {x y z : Expr} {pos : Pos} {r r' : R2} {g g' : D → D → M D} {fa fb fc : Ev → M D} (ho : OpR X (compareOp op) r) (ho' : OpR X (compareOp op') r') (v : VR2 X.K r g) (v' : VR2 X.K r' g') (hm : lastMarks [op, op'] [y, z] = false) (ha : DE X x fa) (hb : DE X y fb) (hc : DE X z fc) :
    DT X (.Compare x [op, op'] [y, z] pos) (fun ρ => bnd (bnd (fa ρ) fun x => bnd (fb ρ) fun y => bnd (bnd (g x y) asB) fun k => if k then bnd (fc ρ) fun z => g' y z else ret (.bool false)) asB) :=
  PT_imp (pt_chain ho ho' ha hb hc hm) (tt_of (t_chain (pos := pos) ho ho' v v' ha hb hc))
theorem chain_view {o o' : COp} {x : Expr} {m : Bool} (h : chk (.chain o o' a b d) c m (.e x) = true) : ∃ y op z op' u p, x = .Compare y [op, op'] [z, u] p ∧ opC o op = true ∧ opC o' op' = true ∧ inC o = false ∧ inC o' = false ∧ lastMarks [op, op'] [z, u] = false ∧ chk a c false (.e y) = true ∧ chk b c false (.e z) = true ∧ chk d c false (.e u) = true := by
  obtain ⟨⟨y, op, z, op', u⟩, e, h⟩ := vw h
  obtain ⟨p, rfl⟩ := vChain_eq e
  obtain ⟨h1, h⟩ := two_t h
  obtain ⟨h2, h⟩ := two_t h
  obtain ⟨h3, h⟩ := two_t h
  obtain ⟨h4, h⟩ := two_t h
  obtain ⟨h5, h⟩ := two_t h
  obtain ⟨h6, h⟩ := two_t h
  obtain ⟨h7, h8⟩ := two_t h
  exact ⟨y, op, z, op', u, p, rfl, h1, h2, by simpa using h3, by simpa using h4, by simpa using h5, h6, h7, h8⟩
theorem c_chain {o o' : COp} (G : Good X c k) (ha : Snd X c a) (hb : Snd X c b) (hd : Snd X c d) : Snd X c (.chain o o' a b d) := .test (fun x h => by
    obtain ⟨y, op, z, op', u, p, rfl, h1, h2, h3, h4, h5, h6, h7, h8⟩ := chain_view h
    obtain ⟨r, k1, k2⟩ := cmp_of G h1 h3
    obtain ⟨r', k1', k2'⟩ := cmp_of G h2 h4
    exact s_chain k1 k1' k2 k2' h5 (ha.v _ h6) (hb.v _ h7) (hd.v _ h8)) (fun x _ h => by
    obtain ⟨y, op, z, op', u, p, rfl, h1, h2, h3, h4, h5, h6, h7, h8⟩ := chain_view h
    obtain ⟨r, k1, k2⟩ := cmp_of G h1 h3
    obtain ⟨r', k1', k2'⟩ := cmp_of G h2 h4
    exact tt_chain k1 k1' k2 k2' h5 (ha.v _ h6) (hb.v _ h7) (hd.v _ h8)) (fun _ => rfl) (fun _ => rfl) (fun _ _ => rfl) (fun op y r p _ h => no h) rfl
theorem next_v {op : BoolOp} {z : Expr} {r : List Expr} {p : Pos} {f : Ev → M D} (h : DE X (bnext op z r p) f) : DE X (.BoolOp op (z :: r) p) f := by
  cases r with
  | nil => exact s_one h
  | cons _ _ => exact h
theorem and_view {x : Expr} {m : Bool} (h : chk (.and a b) c m (.e x) = true) : ∃ y z r p, x = .BoolOp .And (y :: z :: r) p ∧ tst a = true ∧ tst b = true ∧ chk a c false (.e y) = true ∧ chk b c false (.e (bnext .And z r p)) = true := by
  obtain ⟨⟨y, z, r, p⟩, e, h⟩ := vw h
  obtain rfl := vAnd_eq e
  obtain ⟨h1, h⟩ := two_t h
  obtain ⟨h2, h⟩ := two_t h
  obtain ⟨h3, h4⟩ := two_t h
  exact ⟨y, z, r, p, rfl, h1, h2, h3, h4⟩
theorem or_view {x : Expr} {m : Bool} (h : chk (.or a b) c m (.e x) = true) : ∃ y z r p, x = .BoolOp .Or (y :: z :: r) p ∧ tst a = true ∧ tst b = true ∧ chk a c false (.e y) = true ∧ chk b c false (.e (bnext .Or z r p)) = true := by
  obtain ⟨⟨y, z, r, p⟩, e, h⟩ := vw h
  obtain rfl := vOr_eq e
  obtain ⟨h1, h⟩ := two_t h
  obtain ⟨h2, h⟩ := two_t h
  obtain ⟨h3, h4⟩ := two_t h
  exact ⟨y, z, r, p, rfl, h1, h2, h3, h4⟩
theorem and_w (ha : Snd X c a) (hb : Snd X c b) {x : Expr} (h : chk (.and a b) c false (.e x) = true) : DW X x (fun ρ => bnd (den (.and a b) ρ) asB) := by
  obtain ⟨y, z, r, p, rfl, h1, h2, h3, h4⟩ := and_view h
  refine w_and (ha.t _ h1 h3) ?_
  cases r with
  | nil => exact w_and1 (hb.t _ h2 h4)
  | cons z2 r => exact hb.w _ _ _ _ h2 h4
theorem or_w (ha : Snd X c a) (hb : Snd X c b) {x : Expr} (h : chk (.or a b) c false (.e x) = true) : DW X x (fun ρ => bnd (den (.or a b) ρ) asB) := by
  obtain ⟨y, z, r, p, rfl, h1, h2, h3, h4⟩ := or_view h
  refine w_or (ha.t _ h1 h3) ?_
  cases r with
  | nil => exact w_or1 (hb.t _ h2 h4)
  | cons z2 r => exact hb.w _ _ _ _ h2 h4
theorem c_and (ha : Snd X c a) (hb : Snd X c b) : Snd X c (.and a b) := .test (fun x h => by
    obtain ⟨y, z, r, p, rfl, h1, h2, h3, h4⟩ := and_view h
    exact s_and (ha.v _ h3) (next_v (hb.v _ h4))) (fun x _ h => (and_w ha hb h).pt) (fun _ => rfl) (fun _ => rfl) (fun _ _ => rfl) (fun op y r p _ h => and_w ha hb h) rfl
theorem c_or (ha : Snd X c a) (hb : Snd X c b) : Snd X c (.or a b) := .test (fun x h => by
    obtain ⟨y, z, r, p, rfl, h1, h2, h3, h4⟩ := or_view h
    exact s_or (ha.v _ h3) (next_v (hb.v _ h4))) (fun x _ h => (or_w ha hb h).pt) (fun _ => rfl) (fun _ => rfl) (fun _ _ => rfl) (fun op y r p _ h => or_w ha hb h) rfl
theorem c_ite (ha : Snd X c a) (hb : Snd X c b) (hd : Snd X c d) : Snd X c (.ite a b d) := .test (fun x h => by
    obtain ⟨⟨y, z, u⟩, e, h⟩ := vw h
    obtain ⟨p, rfl⟩ := vIf_eq e
    obtain ⟨h1, h⟩ := two_t h
    obtain ⟨h2, h⟩ := two_t h
    obtain ⟨h3, h4⟩ := two_t h
    exact s_ite (ha.t _ h1 h2) (hb.v _ h3) (hd.v _ h4)) (fun x z _ => no z) (fun _ => rfl) (fun _ => rfl) (fun _ _ => rfl) (fun op y r p z h => no z) rfl
theorem c_tup (hs : Snd X c es) : Snd X c (.tup es) := .plain (fun x h => by
    obtain ⟨xs, e, h⟩ := vw h
    obtain ⟨kk, p, rfl⟩ := vTup_eq e
    exact s_tup (hs.l _ h)) (fun x h => by
    obtain ⟨xs, e, h⟩ := vw h
    obtain ⟨kk, p, rfl⟩ := vTup_eq e
    rfl) (fun _ => rfl) (fun _ => rfl) (fun _ _ => rfl)
theorem l_list (hs : Snd X c es) {x : Expr} {m : Bool} (h : chk (.list es) c m (.e x) = true) : DF X x (den (.list es)) := by
  obtain ⟨xs, e, h⟩ := vw h
  obtain ⟨p, rfl⟩ := vList_eq e
  exact f_list (hs.l _ h)
theorem c_list (hs : Snd X c es) : Snd X c (.list es) := .plain (fun x h => (l_list hs h).de) (fun x h => by
    obtain ⟨xs, e, h⟩ := vw h
    obtain ⟨p, rfl⟩ := vList_eq e
    rfl) (fun _ => rfl) (fun _ => rfl) (fun _ _ => rfl) (fun _ x h => l_list hs h)
theorem c_ix (ha : Snd X c a) (hb : Snd X c b) : Snd X c (.ix a b) := .plain (fun x h => by
    obtain ⟨⟨y, z⟩, e, h⟩ := vw h
    obtain ⟨p, rfl⟩ := vSub_eq e
    obtain ⟨h1, h⟩ := two_t h
    obtain ⟨h2, h3⟩ := two_t h
    exact s_ix (ha.s _ h2) (hb.v _ h3) (plain_no (nslice h1))) (fun x h => by
    obtain ⟨⟨y, z⟩, e, h⟩ := vw h
    obtain ⟨p, rfl⟩ := vSub_eq e
    rfl) (fun _ => rfl) (fun _ => rfl) (fun _ _ => rfl)
theorem part_of (hl : Snd X c lo) (hn : ∀ h : chk lo c false (.l []) = true, lo = .nil) {l : Option Expr} (h : chk lo c false (opt l) = true) : DO X l (fun ρ => bnd (den lo ρ) partD) := by
  cases l with
  | none => rw [hn h]; exact o_none
  | some y => exact o_some (hl.v _ h)
theorem nil_of : ∀ {E : Dn.E} {c : Cg} (h : chk E c false (.l []) = true), E = .nil := fun {E c} h => by
  cases E <;> first | rfl | exact no h
theorem c_slice (ha : Snd X c a) (hl : Snd X c lo) (hh : Snd X c hi) : Snd X c (.slice a lo hi) := .plain (fun x h => by
    obtain ⟨⟨y, z⟩, e, g⟩ := vw h
    obtain ⟨⟨l, u⟩, e2, g⟩ := vw g
    obtain ⟨p, rfl⟩ := vSub_eq e
    obtain ⟨p2, rfl⟩ := vSlice_eq e2
    obtain ⟨h1, g⟩ := two_t g
    obtain ⟨h2, h3⟩ := two_t g
    exact s_slice (ha.s _ h1) (part_of hl nil_of h2) (part_of hh nil_of h3)) (fun x h => by
    obtain ⟨⟨y, z⟩, e, h⟩ := vw h
    obtain ⟨p, rfl⟩ := vSub_eq e
    rfl) (fun _ => rfl) (fun _ => rfl) (fun _ _ => rfl)
theorem c_call {x : Str} {n : Nat} {f : List D → M D} (G : Good X c k) (hn : CallOk X.prog X.w X.K X.mg X.base k x (spD X.K n f)) (hs : Snd X c es) : Snd X c (.call x n f es) := .plain (fun y h => by
    obtain ⟨⟨g, z, zs, p⟩, e, h⟩ := vw h
    obtain ⟨q, rfl⟩ := vCall_eq e
    obtain ⟨h1, h⟩ := two_t h
    obtain ⟨h2, h⟩ := two_t h
    obtain ⟨h3, h⟩ := two_t h
    obtain ⟨h4, h⟩ := two_t h
    obtain ⟨h5, h6⟩ := two_t h
    obtain rfl := of_decide_eq_true h1
    exact s_call hn G.room (G.gl h2) (db_of h3) (hs.l _ h6) (star_no (nstar h4) _ _) (any_no h5 _ _)) (fun x h => by
    obtain ⟨⟨g, z, zs, p⟩, e, h⟩ := vw h
    obtain ⟨q, rfl⟩ := vCall_eq e
    rfl) (fun _ => rfl) (fun _ => rfl) (fun _ _ => rfl)
theorem c_callR {x : Str} {n : Nat} {f : List D → M D} (G : Good X c k) (hn : CallOk X.prog X.w X.K X.mg X.base k x (spR X.K n f)) (hs : Snd X c es) : Snd X c (.callR x n f i es) := .plain (fun y h => by
    obtain ⟨⟨g, z, zs, p⟩, e, h⟩ := vw h
    obtain ⟨q, rfl⟩ := vCall_eq e
    obtain ⟨h1, h⟩ := two_t h
    obtain ⟨h2, h⟩ := two_t h
    obtain ⟨h3, h⟩ := two_t h
    obtain ⟨h4, h⟩ := two_t h
    obtain ⟨h5, h6⟩ := two_t h
    obtain rfl := of_decide_eq_true h1
    obtain ⟨rv, e, h4⟩ := vw h4
    obtain ⟨pr, rfl⟩ := vName_eq e
    obtain ⟨n1, n2, n3, n4⟩ := G.nm h4
    exact s_callR hn G.room (G.gl h2) (db_of h3) n1 n2 n3 n4 (hs.l _ h6) (any_no h5 _ _)) (fun x h => by
    obtain ⟨⟨g, z, zs, p⟩, e, h⟩ := vw h
    obtain ⟨q, rfl⟩ := vCall_eq e
    rfl) (fun _ => rfl) (fun _ => rfl) (fun _ _ => rfl)
theorem call1_plain {x z : Expr} {f : Str} (e : vCall1 x = some (f, z)) : plainX x = true := by
  obtain ⟨q, p, rfl⟩ := vCall1_eq e
  rfl
theorem call2_plain {x z u : Expr} {f : Str} (e : vCall2 x = some (f, z, u)) : plainX x = true := by
  obtain ⟨q, p, rfl⟩ := vCall2_eq e
  rfl
theorem l_b1list (G : Good X c k) (ha : Snd X c a) {x : Expr} {m : Bool} (h : chk (.b1 .list a) c m (.e x) = true) : DF X x (den (.b1 .list a)) := by
  obtain ⟨⟨f, z⟩, e, h⟩ := vw h
  obtain ⟨q, p, rfl⟩ := vCall1_eq e
  obtain ⟨h1, h⟩ := two_t h
  obtain ⟨h2, h3⟩ := two_t h
  obtain ⟨rfl, g1, g2⟩ := G.bt h1 (by decide)
  exact f_listOf g1 g2 (by decide +kernel) (by decide) (by decide) (star_no (nstar h2) _ _) (ha.s _ h3)
theorem c_b1 {bb : B1} (G : Good X c k) (ha : Snd X c a) : Snd X c (.b1 bb a) := .plain (fun x h => by
    cases bb
    case list => exact (l_b1list G ha h).de
    all_goals
      obtain ⟨⟨f, z⟩, e, h⟩ := vw h
      obtain ⟨q, p, rfl⟩ := vCall1_eq e
      obtain ⟨h1, h⟩ := two_t h
      obtain ⟨h2, h3⟩ := two_t h
      obtain ⟨rfl, g1, g2⟩ := G.bt h1 (by decide)
    · exact s_b1B (call_len_seq.or call_len_str) v_len g1 g2 (by decide +kernel) (by decide) (by decide) (star_no (nstar h2) _ _) (ha.s _ h3)
    · exact s_b1T call_tuple_of v_tuple g1 g2 (by decide +kernel) (by decide) (by decide) (star_no (nstar h2) _ _) (ha.s _ h3)
    · exact s_b1B (cr_sum G.calm) v_sum g1 g2 (by decide +kernel) (by decide) (by decide) (star_no (nstar h2) _ _) (ha.s _ h3)
    · exact s_b1B (cr_max G.calm) v_max g1 g2 (by decide +kernel) (by decide) (by decide) (star_no (nstar h2) _ _) (ha.s _ h3)
    · exact s_b1B (cr_min G.calm) v_min g1 g2 (by decide +kernel) (by decide) (by decide) (star_no (nstar h2) _ _) (ha.s _ h3)
    · exact s_b1B call_abs v_abs g1 g2 (by decide +kernel) (by decide) (by decide) (star_no (nstar h2) _ _) (ha.s _ h3)
    · exact s_b1B (cr_any G.calm) v_any g1 g2 (by decide +kernel) (by decide) (by decide) (star_no (nstar h2) _ _) (ha.s _ h3)
    · exact s_b1B (cr_all G.calm) v_all g1 g2 (by decide +kernel) (by decide) (by decide) (star_no (nstar h2) _ _) (ha.s _ h3)
    · exact s_b1T call_int1 v_int g1 g2 (by decide +kernel) (by decide) (by decide) (star_no (nstar h2) _ _) (ha.s _ h3)
    · exact s_b1T call_str_int v_str g1 g2 (by decide +kernel) (by decide) (by decide) (star_no (nstar h2) _ _) (ha.s _ h3)) (fun x h => by
    obtain ⟨⟨f, z⟩, e, h⟩ := vw h
    exact call1_plain e) (fun _ => rfl) (fun _ => rfl) (fun _ _ => rfl) (fun z x h => by
    cases bb <;> first | exact no z | exact l_b1list G ha h)
theorem any1 {x : Expr} (h : isStar x = false) (p : Pos) (env : Env) : (backTo p (starEach [x] env)).any (·.1) = false := any_no (by rw [List.all_cons, h]; rfl) p env
theorem c_b2 {bb : B2} (G : Good X c k) (ha : Snd X c a) (hb : Snd X c b) : Snd X c (.b2 bb a b) := .plain (fun x h => by
    cases bb
    all_goals
      obtain ⟨⟨f, z, u⟩, e, h⟩ := vw h
      obtain ⟨q, p, rfl⟩ := vCall2_eq e
      obtain ⟨h1, h⟩ := two_t h
      obtain ⟨h2, h⟩ := two_t h
      obtain ⟨h3, h⟩ := two_t h
      obtain ⟨h4, h5⟩ := two_t h
      obtain ⟨rfl, g1, g2⟩ := G.bt h1 (by decide)
    · exact s_b2 (call_max2 G.calm) v_max2 g1 g2 (by decide +kernel) (by decide) (by decide) (star_no (nstar h2) _ _) (star_no (nstar h3) _ _) (any1 (nstar h3) _ _) (ha.v _ h4) (hb.v _ h5)
    · exact s_b2 (call_min2 G.calm) v_min2 g1 g2 (by decide +kernel) (by decide) (by decide) (star_no (nstar h2) _ _) (star_no (nstar h3) _ _) (any1 (nstar h3) _ _) (ha.v _ h4) (hb.v _ h5)) (fun x h => by
    obtain ⟨⟨f, z, u⟩, e, h⟩ := vw h
    exact call2_plain e) (fun _ => rfl) (fun _ => rfl) (fun _ _ => rfl)
theorem cl_in (cl : Cl) : cl.name ∈ bnames := by cases cl <;> decide
theorem cl_boot (cl : Cl) : bootBuiltins (Str.ofString cl.name) = some (.type cl.name) := by cases cl <;> decide +kernel
theorem cl_ne (cl : Cl) : Str.ofString cl.name ≠ "__name__" := by cases cl <;> decide
theorem cl_db (cl : Cl) : (Str.ofString cl.name == ("__debug__" : Str)) = false := by cases cl <;> decide
theorem c_isI {cl : Cl} (G : Good X c k) (ha : Snd X c a) : Snd X c (.isI a cl) := .plain (fun x h => by
    obtain ⟨⟨f, z, u⟩, e, h⟩ := vw h
    obtain ⟨q, p, rfl⟩ := vCall2_eq e
    obtain ⟨h1, h⟩ := two_t h
    obtain ⟨h2, h⟩ := two_t h
    obtain ⟨h3, h4⟩ := two_t h
    obtain ⟨n, e, h4⟩ := vw h4
    obtain ⟨pc, rfl⟩ := vName_eq e
    obtain ⟨rfl, g1, g2⟩ := G.bt h1 (by decide)
    obtain ⟨rfl, g3, g4⟩ := G.bt h4 (cl_in cl)
    exact s_isI g1 g2 (by decide +kernel) (by decide) (by decide) g3 g4 (cl_boot cl) (cl_ne cl) (cl_db cl) (star_no (nstar h2) _ _) (ha.v _ h3)) (fun x h => by
    obtain ⟨⟨f, z, u⟩, e, h⟩ := vw h
    exact call2_plain e) (fun _ => rfl) (fun _ => rfl) (fun _ _ => rfl)
theorem c_isTL (G : Good X c k) (ha : Snd X c a) : Snd X c (.isTL a) := .plain (fun x h => by
    obtain ⟨⟨f, z, u⟩, e, h⟩ := vw h
    obtain ⟨q, p, rfl⟩ := vCall2_eq e
    obtain ⟨h1, h⟩ := two_t h
    obtain ⟨h2, h⟩ := two_t h
    obtain ⟨h3, h4⟩ := two_t h
    obtain ⟨us, e, h4⟩ := vw h4
    obtain ⟨kk, pt, rfl⟩ := vTup_eq e
    obtain ⟨u1, u2, rfl, g4⟩ : ∃ u1 u2, us = [u1, u2] ∧ ob (vName u1) (fun n1 => ob (vName u2) fun n2 => bnB c n1 "tuple" && bnB c n2 "list") = true := by
      match us, h4 with
      | [u1, u2], h4 => exact ⟨u1, u2, rfl, h4⟩
      | [], h4 => exact no h4
      | [_], h4 => exact no h4
      | _ :: _ :: _ :: _, h4 => exact no h4
    obtain ⟨n1, e1, j1⟩ := vw g4
    obtain ⟨n2, e2, j2⟩ := vw j1
    obtain ⟨j3, h5⟩ := two_t j2
    obtain ⟨p1, rfl⟩ := vName_eq e1
    obtain ⟨p2, rfl⟩ := vName_eq e2
    obtain ⟨rfl, g1, g2⟩ := G.bt h1 (by decide)
    obtain ⟨rfl, g3, g4'⟩ := G.bt j3 (by decide)
    obtain ⟨rfl, g5, g6⟩ := G.bt h5 (by decide)
    exact s_isTL g1 g2 (by decide +kernel) (by decide) (by decide) g3 g4' (by decide +kernel) (by decide) (by decide) g5 g6 (by decide +kernel) (by decide) (by decide) (star_no (nstar h2) _ _) (ha.v _ h3)) (fun x h => by
    obtain ⟨⟨f, z, u⟩, e, h⟩ := vw h
    exact call2_plain e) (fun _ => rfl) (fun _ => rfl) (fun _ _ => rfl)
theorem c_range1 (G : Good X c k) (ha : Snd X c a) : Snd X c (.range1 a) := .iter (fun t x h => by
    obtain ⟨⟨f, z⟩, e, h⟩ := vw h
    obtain ⟨q, p, rfl⟩ := vCall1_eq e
    obtain ⟨h1, h⟩ := two_t h
    obtain ⟨h2, h3⟩ := two_t h
    obtain ⟨rfl, g1, g2⟩ := G.bt h1 (by decide)
    exact i_range1 g1 g2 (star_no (nstar h2) _ _) (ha.v _ h3)) (fun _ _ => rfl) (fun _ => rfl) rfl
theorem c_range2 (G : Good X c k) (ha : Snd X c a) (hb : Snd X c b) : Snd X c (.range2 a b) := .iter (fun t x h => by
    obtain ⟨⟨f, z, u⟩, e, h⟩ := vw h
    obtain ⟨q, p, rfl⟩ := vCall2_eq e
    obtain ⟨h1, h⟩ := two_t h
    obtain ⟨h2, h⟩ := two_t h
    obtain ⟨h3, h⟩ := two_t h
    obtain ⟨h4, h5⟩ := two_t h
    obtain ⟨rfl, g1, g2⟩ := G.bt h1 (by decide)
    exact i_range2 g1 g2 (star_no (nstar h2) _ _) (star_no (nstar h3) _ _) (any1 (nstar h3) _ _) (ha.v _ h4) (hb.v _ h5)) (fun _ _ => rfl) (fun _ => rfl) rfl
theorem c_range3 (G : Good X c k) (ha : Snd X c a) (hb : Snd X c b) : Snd X c (.range3 a b) := .iter (fun t x h => by
    obtain ⟨⟨f, z, u, y⟩, e, h⟩ := vw h
    obtain ⟨q, p, rfl⟩ := vCall3_eq e
    obtain ⟨h1, h⟩ := two_t h
    obtain ⟨h2, h⟩ := two_t h
    obtain ⟨h3, h⟩ := two_t h
    obtain ⟨h4, h⟩ := two_t h
    obtain ⟨h5, h6⟩ := two_t h
    obtain ⟨p1, p2, kk, rfl⟩ := vM1_eq h6
    obtain ⟨rfl, g1, g2⟩ := G.bt h1 (by decide)
    exact i_range3 g1 g2 (star_no (nstar h2) _ _) (star_no (nstar h3) _ _) rfl (any_no (by rw [List.all_cons, h3]; rfl) _ _) (ha.v _ h4) (hb.v _ h5) (s_neg (fa := fun _ => ret (.int 1)) (s_const pe_int fun _ => rfl))) (fun _ _ => rfl) (fun _ => rfl) rfl
theorem c_zip (G : Good X c k) (ha : Snd X c a) (hb : Snd X c b) : Snd X c (.zip a b) := .iter (fun t x h => by
    obtain ⟨ts, e, g⟩ := vw h
    obtain ⟨⟨f, z, u⟩, e2, h⟩ := vw g
    obtain ⟨kk, pt, rfl⟩ := vTup_eq e
    obtain ⟨q, p, rfl⟩ := vCall2_eq e2
    obtain ⟨h1, h⟩ := two_t h
    obtain ⟨h2, h⟩ := two_t h
    obtain ⟨h3, h⟩ := two_t h
    obtain ⟨h4, h5⟩ := two_t h
    obtain ⟨rfl, g1, g2⟩ := G.bt h1 (by decide)
    exact i_zip g1 g2 (star_no (nstar h2) _ _) (star_no (nstar h3) _ _) (any1 (nstar h3) _ _) (ha.v _ h4) (hb.v _ h5)) (fun _ _ => rfl) (fun _ => rfl) rfl
theorem c_enum (G : Good X c k) (ha : Snd X c a) : Snd X c (.enum a) := .iter (fun t x h => by
    obtain ⟨ts, e, g⟩ := vw h
    obtain ⟨⟨f, z⟩, e2, h⟩ := vw g
    obtain ⟨kk, pt, rfl⟩ := vTup_eq e
    obtain ⟨q, p, rfl⟩ := vCall1_eq e2
    obtain ⟨h1, h⟩ := two_t h
    obtain ⟨h2, h3⟩ := two_t h
    obtain ⟨rfl, g1, g2⟩ := G.bt h1 (by decide)
    exact i_enum g1 g2 (star_no (nstar h2) _ _) (ha.v _ h3)) (fun _ _ => rfl) (fun _ => rfl) rfl
theorem l_listR1 (G : Good X c k) (ha : Snd X c a) {x : Expr} {m : Bool} (h : chk (.listR1 a) c m (.e x) = true) : DF X x (den (.listR1 a)) := by
  obtain ⟨⟨f, z⟩, e, g⟩ := vw h
  obtain ⟨h1, g⟩ := two_t g
  obtain ⟨⟨f2, y⟩, e2, g⟩ := vw g
  obtain ⟨h2, g⟩ := two_t g
  obtain ⟨h3, h4⟩ := two_t g
  obtain ⟨q, p, rfl⟩ := vCall1_eq e
  obtain ⟨q2, p2, rfl⟩ := vCall1_eq e2
  obtain ⟨rfl, g1, g2⟩ := G.bt h1 (by decide)
  obtain ⟨rfl, g3, g4⟩ := G.bt h2 (by decide)
  exact f_listR1 G.calm g1 g2 g3 g4 (star_no (nstar h3) _ _) (ha.v _ h4)
theorem l_listR2 (G : Good X c k) (ha : Snd X c a) (hb : Snd X c b) {x : Expr} {m : Bool} (h : chk (.listR2 a b) c m (.e x) = true) : DF X x (den (.listR2 a b)) := by
  obtain ⟨⟨f, z⟩, e, g⟩ := vw h
  obtain ⟨h1, g⟩ := two_t g
  obtain ⟨⟨f2, y, u⟩, e2, g⟩ := vw g
  obtain ⟨h2, g⟩ := two_t g
  obtain ⟨h3, g⟩ := two_t g
  obtain ⟨h4, g⟩ := two_t g
  obtain ⟨h5, h6⟩ := two_t g
  obtain ⟨q, p, rfl⟩ := vCall1_eq e
  obtain ⟨q2, p2, rfl⟩ := vCall2_eq e2
  obtain ⟨rfl, g1, g2⟩ := G.bt h1 (by decide)
  obtain ⟨rfl, g3, g4⟩ := G.bt h2 (by decide)
  exact f_listR2 G.calm g1 g2 g3 g4 (star_no (nstar h3) _ _) (star_no (nstar h4) _ _) (any1 (nstar h4) _ _) (ha.v _ h5) (hb.v _ h6)
theorem c_listR1 (G : Good X c k) (ha : Snd X c a) : Snd X c (.listR1 a) := .plain (fun x h => (l_listR1 G ha h).de) (fun x h => by
    obtain ⟨⟨f, z⟩, e, g⟩ := vw h
    exact call1_plain e) (fun _ => rfl) (fun _ => rfl) (fun _ _ => rfl) (fun _ x h => l_listR1 G ha h)
theorem c_listR2 (G : Good X c k) (ha : Snd X c a) (hb : Snd X c b) : Snd X c (.listR2 a b) := .plain (fun x h => (l_listR2 G ha hb h).de) (fun x h => by
    obtain ⟨⟨f, z⟩, e, g⟩ := vw h
    exact call1_plain e) (fun _ => rfl) (fun _ => rfl) (fun _ _ => rfl) (fun _ x h => l_listR2 G ha hb h)
theorem c_tupR1 (G : Good X c k) (ha : Snd X c a) : Snd X c (.tupR1 a) := .plain (fun x h => by
    obtain ⟨⟨f, z⟩, e, g⟩ := vw h
    obtain ⟨h1, g⟩ := two_t g
    obtain ⟨⟨f2, y⟩, e2, g⟩ := vw g
    obtain ⟨h2, g⟩ := two_t g
    obtain ⟨h3, h4⟩ := two_t g
    obtain ⟨q, p, rfl⟩ := vCall1_eq e
    obtain ⟨q2, p2, rfl⟩ := vCall1_eq e2
    obtain ⟨rfl, g1, g2⟩ := G.bt h1 (by decide)
    obtain ⟨rfl, g3, g4⟩ := G.bt h2 (by decide)
    exact s_tupR1 G.calm g1 g2 g3 g4 (star_no (nstar h3) _ _) (ha.v _ h4)) (fun x h => by
    obtain ⟨⟨f, z⟩, e, g⟩ := vw h
    exact call1_plain e) (fun _ => rfl) (fun _ => rfl) (fun _ _ => rfl)
theorem at_view {x : Expr} {n : Str} {j : Int} (e : vAt x = some (n, j)) : plainX x = true := by
  obtain ⟨p1, p2, p3, kk, rfl⟩ := vAt_eq e
  rfl
theorem c_rowAt {j : Nat} (G : Good X c k) : Snd X c (.rowAt i j) := .plain (fun x h => by
    obtain ⟨⟨n, q⟩, e, h⟩ := vw h
    obtain ⟨p1, p2, p3, kk, rfl⟩ := vAt_eq e
    obtain ⟨h1, h2⟩ := two_t h
    have h2 : q = (j : Int) := of_decide_eq_true h2
    subst h2
    obtain ⟨n1, n2, n3, n4⟩ := G.nm h1
    exact s_rowAt n1 n2 n3 n4) (fun x h => by
    obtain ⟨⟨n, q⟩, e, h⟩ := vw h
    exact at_view e) (fun _ => rfl) (fun _ => rfl) (fun _ _ => rfl)
theorem c_scrLen (G : Good X c k) : Snd X c (.scrLen i) := .plain (fun x h => by
    obtain ⟨⟨f, z⟩, e, g⟩ := vw h
    obtain ⟨h1, g1⟩ := two_t g
    obtain ⟨⟨n, j⟩, e2, g2⟩ := vw g1
    obtain ⟨h2, h3⟩ := two_t g2
    obtain ⟨q, p, rfl⟩ := vCall1_eq e
    obtain ⟨p1, p2, p3, kk, rfl⟩ := vAt_eq e2
    have h3 : j = 0 := of_decide_eq_true h3
    subst h3
    obtain ⟨rfl, g1, g2⟩ := G.bt h1 (by decide)
    obtain ⟨n1, n2, n3, n4⟩ := G.nm h2
    exact s_scrLen g1 g2 n1 n2 n3 n4) (fun x h => by
    obtain ⟨⟨f, z⟩, e, h⟩ := vw h
    exact call1_plain e) (fun _ => rfl) (fun _ => rfl) (fun _ _ => rfl)
theorem c_scrAt (G : Good X c k) (ha : Snd X c a) : Snd X c (.scrAt i a) := .plain (fun x h => by
    obtain ⟨⟨y, z⟩, e, g⟩ := vw h
    obtain ⟨h1, g1⟩ := two_t g
    obtain ⟨h2, g2⟩ := two_t g1
    obtain ⟨⟨n, j⟩, e2, g3⟩ := vw g2
    obtain ⟨h3, h4⟩ := two_t g3
    obtain ⟨p, rfl⟩ := vSub_eq e
    obtain ⟨p1, p2, p3, kk, rfl⟩ := vAt_eq e2
    have h4 : j = 0 := of_decide_eq_true h4
    subst h4
    obtain ⟨n1, n2, n3, n4⟩ := G.nm h3
    exact s_scrAt n1 n2 n3 n4 (plain_no (nslice h1)) (ha.v _ h2)) (fun x h => by
    obtain ⟨⟨y, z⟩, e, h⟩ := vw h
    obtain ⟨p, rfl⟩ := vSub_eq e
    rfl) (fun _ => rfl) (fun _ => rfl) (fun _ _ => rfl)
end
end Dn
namespace Dn
open PySem PySem.Spec PyProof.Rows L2
set_option autoImplicit true
section
variable {X : Cx} {c : Cg} {k i : Nat}
theorem ae_no {a : Expr} (h : isStar a = false) (es : List Expr) (env : Env) : assignEach (a :: es) env = (false, assign a env) :: assignEach es env := by
  cases a <;> first | rfl | cases h
theorem tg_len : ∀ {t : Tg} {c : Cg} {es : List Expr}, chkT t c (.l es) = true → (∀ env, (assignEach es env).length = es.length ∧ (assignEach es env).findIdx? (·.1) = none) ∧ ∀ ds ρ ρ', bindT t (.list ds) ρ = some ρ' → ds.length = es.length
  | .nm _, c, es, h => no h
  | .tup _, c, es, h => no h
  | .tnil, c, [], h => ⟨fun env => ⟨rfl, rfl⟩, fun ds ρ ρ' e => by cases ds with
    | nil => rfl
    | cons _ _ => cases e⟩
  | .tnil, c, _ :: _, h => no h
  | .tcons t u, c, [], h => no h
  | .tcons t u, c, a :: es, h => by
    have h : ((!isStar a && chkT t c (.e a)) && chkT u c (.l es)) = true := h
    obtain ⟨h1, h2⟩ := two_t h
    obtain ⟨h1, h3⟩ := two_t h1
    obtain ⟨g1, g2⟩ := tg_len h2
    refine ⟨fun env => ?_, fun ds ρ ρ' e => ?_⟩
    · rw [ae_no (nstar h1)]
      refine ⟨by rw [List.length_cons, List.length_cons, (g1 env).1], ?_⟩
      rw [List.findIdx?_cons]
      simp [(g1 env).2]
    · cases ds with
      | nil => cases e
      | cons d ds =>
        simp only [bindT] at e
        split at e
        · rw [List.length_cons, List.length_cons, g2 _ _ _ e]
        · cases e
mutual
theorem tg_e (G : Good X c k) : ∀ {t : Tg} {x : Expr}, chkT t c (.e x) = true → PG X x (tG X.K t)
  | .nm i, .Name x p, h => by
    obtain ⟨h1, h2, h3⟩ := G.st h
    exact g_nm G.nd h1 h2 h3
  | .tup ts, .Tuple es kk p, h => by
    have h : chkT ts c (.l es) = true := h
    obtain ⟨g1, g2⟩ := tg_len h
    exact g_tup G.calm (tg_l G h) (g1 _).1 (g1 _).2 g2
  | .nm _, .Tuple _ _ _, h => no h
  | .tup _, .Name _ _, h => no h
  | .tnil, _, h => no (by cases ‹Expr› <;> exact h)
  | .tcons _ _, _, h => no (by cases ‹Expr› <;> exact h)
theorem tg_l (G : Good X c k) : ∀ {t : Tg} {xs : List Expr}, chkT t c (.l xs) = true → PGs X xs (tGs X.K t)
  | .nm _, _, h => no h
  | .tup _, _, h => no h
  | .tnil, [], h => gs_nil
  | .tnil, _ :: _, h => no h
  | .tcons _ _, [], h => no h
  | .tcons t u, a :: es, h => by
    have h : ((!isStar a && chkT t c (.e a)) && chkT u c (.l es)) = true := h
    obtain ⟨h1, h2⟩ := two_t h
    obtain ⟨h1, h3⟩ := two_t h1
    exact gs_cons (tg_e G h3) (tg_l G h2) (by rw [ae_no (nstar h1)]; rfl)
end
end
/-- what a list comprehension's check tells -/
structure CompParts (X : Cx) (tg : Tg) (elt src cond : Dn.E) (y t it : Expr) (ifs : List Expr) (scope : Scope) (own : List (Str × Nat)) : Prop where
  i : DIo X t it (fun ρ => bnd (den src ρ) itemsOf)
  ok : BlkOk X.N X.env.scope scope own
  ho : own.map (·.2) = tg.slots
  g : ∀ (s : Shared) (H : Hp) (C : Addr) (cl : List (Str × Addr)) (fp : List Addr), PG (X.blk s H scope (compEnvC scope cl C X.env) fp) t (tG X.K tg)
  t : ∀ (s : Shared) (H : Hp) (C : Addr) (cl : List (Str × Addr)) (fp : List Addr), DTs (X.blk s H scope (compEnvC scope cl C X.env) fp) ifs (fun ρ => bnd (den cond ρ) asB)
  e : ∀ (s : Shared) (H : Hp) (C : Addr) (cl : List (Str × Addr)) (fp : List Addr), DE (X.blk s H scope (compEnvC scope cl C X.env) fp) y (den elt)
  s : ∀ x, foldedSetIterable it X.env x = pure x
section
variable {X : Cx} {c : Cg} {k i : Nat} {elt src cond : Dn.E} {tg : Tg}
def ifsB (cond : Dn.E) (c : Cg) : List Expr → Bool
  | [] => tru cond
  | [z] => tst cond && chk cond c false (.e z)
  | _ => false
theorem comp_parts {m : Bool} {x : Expr} (G : Good X c k) (hs : Snd X c src) (he : ∀ {X c}, Good X c k → (∀ n ∈ needs elt, NeedOk X.prog X.w X.K X.mg X.base k n) → Snd X c elt) (hc : ∀ {X c}, Good X c k → (∀ n ∈ needs cond, NeedOk X.prog X.w X.K X.mg X.base k n) → Snd X c cond)
    (hn1 : ∀ n ∈ needs elt, NeedOk X.prog X.w X.K X.mg X.base k n) (hn2 : ∀ n ∈ needs cond, NeedOk X.prog X.w X.K X.mg X.base k n) (h : chk (.comp elt tg src cond) c m (.e x) = true) :
    ∃ y t it ifs scope p own, x = .ListComp y [⟨t, it, ifs, 0⟩] scope p ∧ CompParts X tg elt src cond y t it ifs scope own := by
  obtain ⟨⟨y, t, it, ifs, scope, p⟩, e, h⟩ := vw h
  obtain ⟨h1, h⟩ := two_t h
  obtain ⟨h2, h⟩ := two_t h
  obtain ⟨h3, h⟩ := two_t h
  obtain ⟨h4, h⟩ := two_t h
  obtain ⟨h5, h⟩ := two_t h
  obtain ⟨h6, h7⟩ := two_t h
  obtain rfl := vComp_eq e
  have hk : scope.kind = .function := (blkOk_by h1).kind
  refine ⟨y, t, it, ifs, scope, p, ownL tg (.e t), rfl, ?_, ?_, of_decide_eq_true h2, fun s H C cl fp => tg_e (G.blk hk s H C cl fp) h3, fun s H C cl fp => ?_, fun s H C cl fp => (he (G.blk hk s H C cl fp) hn1).v _ h6, noset (by simpa using h4) _⟩
  · have h5 : (if isIter src then chk src c false (.i t it) else chk src c true (.e it)) = true := h5
    split at h5
    · exact (hs.i _ _ h5).o
    · exact i_own (hs.s _ h5)
  · rw [G.N, G.sc]
    exact blkOk_by h1
  · have h7 : ifsB cond (inner c scope) ifs = true := by
      revert h7
      unfold ifsB
      rcases ifs with _ | ⟨z, _ | ⟨u, r⟩⟩ <;> exact fun h => h
    rcases ifs with _ | ⟨z, _ | ⟨u, r⟩⟩
    · have e : cond = .lit (.bool true) := by
        have h7 : tru cond = true := h7
        unfold tru at h7
        split at h7
        · rfl
        · exact no h7
      subst e
      exact c_none
    · obtain ⟨g1, g2⟩ := two_t h7
      exact c_one ((hc (G.blk hk s H C cl fp) hn2).t _ g1 g2)
    · exact no h7
theorem comp_f {y t it : Expr} {ifs : List Expr} {scope : Scope} {own : List (Str × Nat)} {p : Pos} (G : Good X c k) (P : CompParts X tg elt src cond y t it ifs scope own) : DF X (.ListComp y [⟨t, it, ifs, 0⟩] scope p) (den (.comp elt tg src cond)) :=
  f_comp G.calm G.nd P.i P.ok P.ho P.g P.t P.e P.s
theorem c_comp (G : Good X c k) (hs : Snd X c src) (he : ∀ {X c}, Good X c k → (∀ n ∈ needs elt, NeedOk X.prog X.w X.K X.mg X.base k n) → Snd X c elt) (hc : ∀ {X c}, Good X c k → (∀ n ∈ needs cond, NeedOk X.prog X.w X.K X.mg X.base k n) → Snd X c cond)
    (hn1 : ∀ n ∈ needs elt, NeedOk X.prog X.w X.K X.mg X.base k n) (hn2 : ∀ n ∈ needs cond, NeedOk X.prog X.w X.K X.mg X.base k n) : Snd X c (.comp elt tg src cond) := .plain (fun x h => by
    obtain ⟨y, t, it, ifs, scope, p, own, rfl, P⟩ := comp_parts G hs he hc hn1 hn2 h
    exact (comp_f G P).de) (fun x h => by
    obtain ⟨y, t, it, ifs, scope, p, own, rfl, P⟩ := comp_parts G hs he hc hn1 hn2 h
    rfl) (fun _ => rfl) (fun _ => rfl) (fun _ _ => rfl) (fun _ x h => by
    obtain ⟨y, t, it, ifs, scope, p, own, rfl, P⟩ := comp_parts G hs he hc hn1 hn2 h
    exact comp_f G P)
end
theorem out_bad {α β : Type} {P : Kind α β} {K : PySem.W.Frag} {g : Ev → M α} (h : ∀ ρ, g ρ = bad) : ∀ σ H Q, ¬ tOut P K g σ H Q := fun σ H Q ⟨r, F, ρ, w, s, o⟩ => by rw [h] at o; exact o
theorem c_stuck {X : Cx} {c : Cg} : Snd X c .stuck where
  v := fun x _ => ⟨fun pins s σ H Q I q => (out_bad (fun _ => rfl) σ H Q q).elim⟩
  s := fun x _ => ⟨fun pins s σ H Q I q => (out_bad (fun _ => rfl) σ H Q q).elim⟩
  l := fun xs h => no h
  i := fun t x h => no h
  t := fun x _ _ => ⟨fun pins s σ H Q I q => (out_bad (fun _ => rfl) σ H Q q).elim⟩
  w := fun op y r p _ _ => ⟨fun wh pins s σ H Q I q => (out_bad (fun _ => rfl) σ H Q q).elim⟩
  f := fun z => no z
theorem sound (E : Dn.E) : ∀ {X : Cx} {c : Cg} {k : Nat}, Good X c k → (∀ n ∈ needs E, NeedOk X.prog X.w X.K X.mg X.base k n) → Snd X c E := by
  induction E with
  | nil => exact fun G hn => c_nil
  | cons a r iha ihr => exact fun G hn => c_cons (iha G fun n h => hn n (List.mem_append_left _ h)) (ihr G fun n h => hn n (List.mem_append_right _ h))
  | star a r iha ihr => exact fun G hn => c_star (iha G fun n h => hn n (List.mem_append_left _ h)) (ihr G fun n h => hn n (List.mem_append_right _ h))
  | var i => exact fun G hn => c_var G
  | own i => exact fun G hn => c_own G
  | lit d => exact fun G hn => c_lit
  | glob x d => exact fun G hn => c_glob G (hn _ (List.mem_singleton_self _))
  | bin o a b iha ihb => exact fun G hn => c_bin (iha G fun n h => hn n (List.mem_append_left _ h)) (ihb G fun n h => hn n (List.mem_append_right _ h))
  | neg a iha => exact fun G hn => c_neg (iha G hn)
  | not a iha => exact fun G hn => c_not (iha G hn)
  | cmp o a b iha ihb => exact fun G hn => c_cmp G (iha G fun n h => hn n (List.mem_append_left _ h)) (ihb G fun n h => hn n (List.mem_append_right _ h))
  | chain o o' a b d iha ihb ihd => exact fun G hn => c_chain G (iha G fun n h => hn n (List.mem_append_left _ h)) (ihb G fun n h => hn n (List.mem_append_right _ (List.mem_append_left _ h))) (ihd G fun n h => hn n (List.mem_append_right _ (List.mem_append_right _ h)))
  | and a b iha ihb => exact fun G hn => c_and (iha G fun n h => hn n (List.mem_append_left _ h)) (ihb G fun n h => hn n (List.mem_append_right _ h))
  | or a b iha ihb => exact fun G hn => c_or (iha G fun n h => hn n (List.mem_append_left _ h)) (ihb G fun n h => hn n (List.mem_append_right _ h))
  | ite a b d iha ihb ihd => exact fun G hn => c_ite (iha G fun n h => hn n (List.mem_append_left _ h)) (ihb G fun n h => hn n (List.mem_append_right _ (List.mem_append_left _ h))) (ihd G fun n h => hn n (List.mem_append_right _ (List.mem_append_right _ h)))
  | tup es ih => exact fun G hn => c_tup (ih G hn)
  | list es ih => exact fun G hn => c_list (ih G hn)
  | ix a b iha ihb => exact fun G hn => c_ix (iha G fun n h => hn n (List.mem_append_left _ h)) (ihb G fun n h => hn n (List.mem_append_right _ h))
  | slice a b d iha ihb ihd => exact fun G hn => c_slice (iha G fun n h => hn n (List.mem_append_left _ h)) (ihb G fun n h => hn n (List.mem_append_right _ (List.mem_append_left _ h))) (ihd G fun n h => hn n (List.mem_append_right _ (List.mem_append_right _ h)))
  | call x n f es ih => exact fun G hn => c_call G (hn _ (List.mem_cons_self ..)) (ih G fun n h => hn n (List.mem_cons_of_mem _ h))
  | callR x n f i es ih => exact fun G hn => c_callR G (hn _ (List.mem_cons_self ..)) (ih G fun n h => hn n (List.mem_cons_of_mem _ h))
  | b1 bb a iha => exact fun G hn => c_b1 G (iha G hn)
  | b2 bb a b iha ihb => exact fun G hn => c_b2 G (iha G fun n h => hn n (List.mem_append_left _ h)) (ihb G fun n h => hn n (List.mem_append_right _ h))
  | isI a cl iha => exact fun G hn => c_isI G (iha G hn)
  | isTL a iha => exact fun G hn => c_isTL G (iha G hn)
  | comp elt tg src cond ihe ihs ihc => exact fun G hn => c_comp G (ihs G fun n h => hn n (List.mem_append_right _ (List.mem_append_left _ h))) ihe ihc (fun n h => hn n (List.mem_append_left _ h)) (fun n h => hn n (List.mem_append_right _ (List.mem_append_right _ h)))
  | range1 a iha => exact fun G hn => c_range1 G (iha G hn)
  | range2 a b iha ihb => exact fun G hn => c_range2 G (iha G fun n h => hn n (List.mem_append_left _ h)) (ihb G fun n h => hn n (List.mem_append_right _ h))
  | range3 a b iha ihb => exact fun G hn => c_range3 G (iha G fun n h => hn n (List.mem_append_left _ h)) (ihb G fun n h => hn n (List.mem_append_right _ h))
  | zip a b iha ihb => exact fun G hn => c_zip G (iha G fun n h => hn n (List.mem_append_left _ h)) (ihb G fun n h => hn n (List.mem_append_right _ h))
  | enum a iha => exact fun G hn => c_enum G (iha G hn)
  | rev a iha => exact fun G hn => .iter (fun t x h => no h) (fun _ _ => rfl) (fun _ => rfl) rfl
  | rowAt i j => exact fun G hn => c_rowAt G
  | scrLen i => exact fun G hn => c_scrLen G
  | scrAt i e ih => exact fun G hn => c_scrAt G (ih G hn)
  | stuck => exact fun G hn => c_stuck
  | listR1 a iha => exact fun G hn => c_listR1 G (iha G hn)
  | listR2 a b iha ihb => exact fun G hn => c_listR2 G (iha G fun n h => hn n (List.mem_append_left _ h)) (ihb G fun n h => hn n (List.mem_append_right _ h))
  | tupR1 a iha => exact fun G hn => c_tupR1 G (iha G hn)
end Dn
namespace Dn
open PySem PySem.Spec PyProof.Rows L2
set_option autoImplicit true
/-! ### statements: the check and what it tells -/
def isComp : Expr → Bool | .ListComp .. => true | .SetComp .. => true | .DictComp .. => true | _ => false
theorem swaps_no {v : Expr} (h : isComp v = false) (t : Option Expr) (l : Nat) (env : Env) : swapsWith v t l env = pure false := by
  cases v <;> first | rfl | cases h
def isTupX : Expr → Bool | .Tuple .. => true | _ => false
theorem stores_tup {ts : List Expr} {kk : Nat} {p : Pos} {v : Expr} (h : isTupX v = false) (env : Env) : swappedStores [.Tuple ts kk p] v env = pure none := by
  cases v <;> first | rfl | cases h
theorem stores_name {x : Str} {p : Pos} {v : Expr} (env : Env) : swappedStores [.Name x p] v env = pure none := by
  cases v <;> rfl
theorem stores_sub {a b : Expr} {p : Pos} {v : Expr} (env : Env) : swappedStores [.Subscript a b p] v env = pure none := by
  cases v <;> rfl
def locB (c : Cg) (x : Str) : Bool := match c.sc.names.lookup x with | some .local => true | _ => false
def celB (c : Cg) (x : Str) : Bool := match c.sc.names.lookup x with | some .cell => true | _ => false
theorem loc_of {c : Cg} {x : Str} (h : locB c x = true) : c.sc.names.lookup x = some .local := by
  unfold locB at h
  split at h
  · assumption
  · cases h
theorem cel_of {c : Cg} {x : Str} (h : celB c x = true) : c.sc.names.lookup x = some .cell := by
  unfold celB at h
  split at h
  · assumption
  · cases h
theorem swaps_cell {v : Expr} {y : Str} {py : Pos} {l : Nat} {env : Env} (hy : env.scope.names.lookup y = some .cell) : swapsWith v (some (.Name y py)) l env = pure false := by
  have ky : env.kindOf y = some .cell := hy
  cases v <;> first | rfl | (unfold swapsWith; simp only [ky]; simp [show (some NameKind.cell == some NameKind.local) = false from rfl]; try rfl)

/-! views of statements -/
inductive SyS | s (st : Stmt) | l (sts : List Stmt)
def vAsg : Stmt → Option (Expr × Expr × Pos) | .Assign [t] v p => some (t, v, p) | _ => none
theorem vAsg_eq {st : Stmt} {t v : Expr} {p : Pos} (h : vAsg st = some (t, v, p)) : st = .Assign [t] v p := by
  unfold vAsg at h
  split at h
  · cases h; rfl
  · cases h
def vRet : Stmt → Option Expr | .Return (some e) _ => some e | _ => none
theorem vRet_eq {st : Stmt} {e : Expr} (h : vRet st = some e) : ∃ p, st = .Return (some e) p := by
  unfold vRet at h
  split at h
  · cases h; exact ⟨_, rfl⟩
  · cases h
def vExp : Stmt → Option (Expr × Pos) | .Expr e p => some (e, p) | _ => none
theorem vExp_eq {st : Stmt} {e : Expr} {p : Pos} (h : vExp st = some (e, p)) : st = .Expr e p := by
  unfold vExp at h
  split at h
  · cases h; rfl
  · cases h
def vIfS : Stmt → Option (Expr × List Stmt × List Stmt) | .If c a b _ => some (c, a, b) | _ => none
theorem vIfS_eq {st : Stmt} {c : Expr} {a b : List Stmt} (h : vIfS st = some (c, a, b)) : ∃ p, st = .If c a b p := by
  unfold vIfS at h
  split at h
  · cases h; exact ⟨_, rfl⟩
  · cases h
def vFor : Stmt → Option (Expr × Expr × List Stmt) | .For t it b [] _ => some (t, it, b) | _ => none
theorem vFor_eq {st : Stmt} {t it : Expr} {b : List Stmt} (h : vFor st = some (t, it, b)) : ∃ p, st = .For t it b [] p := by
  unfold vFor at h
  split at h
  · cases h; exact ⟨_, rfl⟩
  · cases h
def vWhile : Stmt → Option (Expr × List Stmt) | .While c b [] _ => some (c, b) | _ => none
theorem vWhile_eq {st : Stmt} {c : Expr} {b : List Stmt} (h : vWhile st = some (c, b)) : ∃ p, st = .While c b [] p := by
  unfold vWhile at h
  split at h
  · cases h; exact ⟨_, rfl⟩
  · cases h
def vAug : Stmt → Option (Str × Operator × Expr) | .AugAssign (.Name x _) o e _ => some (x, o, e) | _ => none
theorem vAug_eq {st : Stmt} {x : Str} {o : Operator} {e : Expr} (h : vAug st = some (x, o, e)) : ∃ p q, st = .AugAssign (.Name x p) o e q := by
  unfold vAug at h
  split at h
  · cases h; exact ⟨_, _, rfl⟩
  · cases h
/-- a name's method with one argument -/
def vMet : Stmt → Option (Str × Str × Expr × Bool) | .Expr (.Call (.Attribute (.Name x _) m p2) [a] [] p3) _ => some (x, m, a, p2.endLine == p3.line) | _ => none
theorem vMet_eq {st : Stmt} {x m : Str} {a : Expr} {k : Bool} (h : vMet st = some (x, m, a, k)) : ∃ p p2 p3 q, st = .Expr (.Call (.Attribute (.Name x p) m p2) [a] [] p3) q ∧ (p2.endLine == p3.line) = k := by
  unfold vMet at h
  split at h
  · cases h; exact ⟨_, _, _, _, rfl, rfl⟩
  · cases h
/-- two names set at once to two values -/
def vPar : Stmt → Option (Str × Pos × Str × Pos × Expr × Expr) | .Assign [.Tuple [.Name x px, .Name y py] _ _] (.Tuple [a, b] _ _) _ => some (x, px, y, py, a, b) | _ => none
theorem vPar_eq {st : Stmt} {x y : Str} {px py : Pos} {a b : Expr} (h : vPar st = some (x, px, y, py, a, b)) : ∃ kt pt k2 p8 pos, st = .Assign [.Tuple [.Name x px, .Name y py] kt pt] (.Tuple [a, b] k2 p8) pos := by
  unfold vPar at h
  split at h
  · cases h; exact ⟨_, _, _, _, _, rfl⟩
  · cases h
def vHead : List Stmt → Option (Stmt × List Stmt) | a :: r => some (a, r) | [] => none
theorem vHead_eq {sts r : List Stmt} {a : Stmt} (h : vHead sts = some (a, r)) : sts = a :: r := by
  cases sts with
  | nil => cases h
  | cons _ _ => cases h; rfl
def swB (c : Cg) (x : Str) (px : Pos) (v : Expr) : Bool := match v with
  | .ListComp _ _ scope pos => locB c x && ((px.line == pos.line) && !(scope.names.any fun (n, k) => n == x && (k == .local || k == .cell)))
  | _ => false
/-- how a value may be given to a target -/
def hasCel (c : Cg) (ts : List Expr) : Bool := ts.any fun | .Name x _ => celB c x | _ => false
def tri (c : Cg) (ts : List Expr) (v : Expr) : Bool := match ts, v with
  | [.Name x px, .Name y py, .Name z pz], .Tuple [a, b, d] _ _ => locB c x && (locB c y && (locB c z && ((py.line == px.line) && ((pz.line == px.line) && (!(x == y) && (!(x == z) && (!(y == z) && (!isStar a && (!isStar b && (!isStar d && (!(foldedForSure 8 a && (foldedForSure 8 b && foldedForSure 8 d)) && !(constantsAlone 8 a && (constantsAlone 8 b && constantsAlone 8 d)))))))))))))
  | _, _ => false
def asgB (c : Cg) (t v : Expr) : Bool := match t with
  | .Name x px => !isComp v || (celB c x || swB c x px v)
  | .Tuple ts _ _ => !isComp v && (!isTupX v || hasCel c ts || tri c ts v)
  | _ => false
def nmX : Expr → Option (Str × Pos) | .Name x p => some (x, p) | _ => none
theorem nmX_eq {e : Expr} {x : Str} {p : Pos} (h : nmX e = some (x, p)) : e = .Name x p := by
  cases e <;> first | (cases h; done) | (cases h; rfl)
def parL (c : Cg) (x y : Str) (px py : Pos) (a b : Expr) : Bool :=
  locB c x && (locB c y && ((py.line == px.line) && (!(x == y) && (!(foldedForSure 8 a && foldedForSure 8 b) && !(constantsAlone 8 a && constantsAlone 8 b)))))
def opA (o : BOp) (op : Operator) : Bool := match o with | .pow => false | _ => opB o op
def parC (c : Cg) (x y : Str) : Bool := celB c x || celB c y
def isFrz : S → Bool | .frz _ => true | _ => false
def chkS : S → Cg → SyS → Bool
  | .nil, _, .l sts => sts.isEmpty
  | .seq a r, c, .l sts => (isFrz a && chkS r c (.l sts)) || ob (vHead sts) fun q => chkS a c (.s q.1) && chkS r c (.l q.2)
  | .asg t e, c, .s st => ob (vAsg st) fun q => asgB c q.1 q.2.1 && (chkT t c (.e q.1) && chk e c false (.e q.2.1))
  | .newL i e, c, .s st => ob (vAsg st) fun q => ob (nmX q.1) fun u => stB c i u.1 && (fresh e && (asgB c q.1 q.2.1 && chk e c false (.e q.2.1)))
  | .par i j oi oj a b, c, .s st => ob (vPar st) fun q => stB c i q.1 && (stB c j q.2.2.1 && (!isStar q.2.2.2.2.1 && (!isStar q.2.2.2.2.2 && (chk a c false (.e q.2.2.2.2.1) && (chk b c false (.e q.2.2.2.2.2) && ((!oi || fresh a) && ((!oj || fresh b) && (decide (i ≠ j) && (parC c q.1 q.2.2.1 || parL c q.1 q.2.2.1 q.2.1 q.2.2.2.1 q.2.2.2.2.1 q.2.2.2.2.2)))))))))
  | .app i e, c, .s st => ob (vMet st) fun q => q.2.2.2 && (decide (q.2.1 = ("append" : Str)) && (nmB c i q.1 && (!isStar q.2.2.1 && chk e c false (.e q.2.2.1))))
  | .ext i e, c, .s st => ob (vMet st) fun q => q.2.2.2 && (decide (q.2.1 = ("extend" : Str)) && (nmB c i q.1 && (!isStar q.2.2.1 && chk e c false (.e q.2.2.1))))
  | .setIx i k e, c, .s st => ob (vAsg st) fun q => ob (vSub q.1) fun u => ob (vName u.1) fun rv => nmB c i rv && (!isSlice u.2 && (!isComp q.2.1 && (chk k c false (.e u.2) && chk e c false (.e q.2.1))))
  | .ite e a b, c, .s st => ob (vIfS st) fun q => tst e && (chk e c false (.e q.1) && (chkS a c (.l q.2.1) && chkS b c (.l q.2.2)))
  | .for_ t src body, c, .s st => ob (vFor st) fun q => chkT t c (.e q.1) && (!isSet q.2.1 && ((if isIter src then chk src c false (.i q.1 q.2.1) else chk src c false (.e q.2.1)) && chkS body c (.l q.2.2)))
  | .while_ _ e body, c, .s st => ob (vWhile st) fun q => tst e && (chk e c false (.e q.1) && chkS body c (.l q.2))
  | .ret e, c, .s st => ob (vRet st) fun y => chk e c false (.e y)
  | .expr e, c, .s st => ob (vExp st) fun q => !isComp q.1 && chk e c false (.e q.1)
  | .rowSet i j e, c, .s st => ob (vAsg st) fun q => ob (vAt q.1) fun u => nmB c i u.1 && (decide (u.2 = (j : Int)) && (!isComp q.2.1 && chk e c false (.e q.2.1)))
  | .aug i o e, c, .s st => ob (vAug st) fun q => stB c i q.1 && (opA o q.2.1 && chk e c false (.e q.2.2))
  | .stuck, _, _ => true
  | _, _, _ => false
def needsS : S → List Need
  | .seq a r => needsS a ++ needsS r
  | .asg _ e => needs e
  | .newL _ e => needs e
  | .par _ _ _ _ a b => needs a ++ needs b
  | .app _ e => needs e
  | .ext _ e => needs e
  | .setIx _ k e => needs k ++ needs e
  | .ite e a b => needs e ++ (needsS a ++ needsS b)
  | .for_ _ e b => needs e ++ needsS b
  | .while_ _ e b => needs e ++ needsS b
  | .ret e => needs e
  | .expr e => needs e
  | .rowSet _ _ e => needs e
  | .aug _ _ e => needs e
  | _ => []
structure SndS (X : Cx) (c : Cg) (B : S) : Prop where
  s : ∀ st, chkS B c (.s st) = true → DSt X st (denS B)
  l : ∀ sts, chkS B c (.l sts) = true → DSs X sts (denS B)
section
variable {X : Cx} {c : Cg} {k i j : Nat} {e e1 e2 a b src elt cond : Dn.E} {t tg : Tg} {B A : S}
theorem SndS.one (s : ∀ st, chkS B c (.s st) = true → DSt X st (denS B)) (l : ∀ sts, chkS B c (.l sts) = false) : SndS X c B := ⟨s, fun sts h => by rw [l] at h; exact no h⟩
theorem q_nil : SndS X c .nil := ⟨fun st h => no h, fun sts h => by
  cases sts with
  | nil => exact ss_nil
  | cons _ _ => exact no h⟩
theorem q_seq (ha : SndS X c A) (hb : SndS X c B) : SndS X c (.seq A B) := ⟨fun st h => no h, fun sts h => by
  have h : ((isFrz A && chkS B c (.l sts)) || ob (vHead sts) fun q => chkS A c (.s q.1) && chkS B c (.l q.2)) = true := h
  rw [Bool.or_eq_true] at h
  rcases h with h | h
  · obtain ⟨h1, h2⟩ := two_t h
    cases A <;> first | exact no h1 | exact ss_frz (hb.l _ h2)
  · obtain ⟨⟨st, r⟩, e, h⟩ := vw h
    obtain ⟨h1, h2⟩ := two_t h
    obtain rfl := vHead_eq e
    exact ss_cons (ha.s _ h1) (hb.l _ h2)⟩
structure GoodS (X : Cx) (c : Cg) (k : Nat) : Prop extends Good X c k where
  fn : ∀ x, X.fn x = true
  xe : X.xe = fun _ _ => False
theorem comp_only {y : Expr} {gs : List Comprehension} {scope : Scope} {p : Pos} (h : chk e c false (.e (.ListComp y gs scope p)) = true) : e = .stuck ∨ ∃ elt tg src cond, e = .comp elt tg src cond := by
  cases e <;> first | exact .inr ⟨_, _, _, _, rfl⟩ | exact .inl rfl | exact no h
theorem setLc {x : Str} {px spos : Pos} {y t it : Expr} {ifs : List Expr} {scope : Scope} {p : Pos} {own : List (Str × Nat)} (G : GoodS X c k) (P : CompParts X tg elt src cond y t it ifs scope own) (hi : X.N[i]? = some x) (h : swB c x px (.ListComp y [⟨t, it, ifs, 0⟩] scope p) = true) :
    PS X (.Assign [.Name x px] (.ListComp y [⟨t, it, ifs, 0⟩] scope p) spos) (tAsg (tLc (tIo X.K fun ρ => bnd (den src ρ) itemsOf) (tG X.K tg) (tOut PB X.K fun ρ => bnd (den cond ρ) asB) (tOut PV X.K (den elt)) tg.slots) (gName i)) := by
  have h : (locB c x && ((px.line == p.line) && !(scope.names.any fun (n, k) => n == x && (k == .local || k == .cell)))) = true := h
  obtain ⟨h1, h⟩ := two_t h
  obtain ⟨h2, h3⟩ := two_t h
  have hl : X.env.scope.names.lookup x = some .local := by rw [G.sc]; exact loc_of h1
  have q := ps_setLc (te := tOut PV X.K (den elt)) (tt := tOut PB X.K fun ρ => bnd (den cond ρ) asB) (spos := spos) (py := px) (pos := p) G.calm G.nd hi hl (sw_true G.kind hl h2 (by simpa using h3)) P.i P.ok P.g P.t P.e P.s
  rw [P.ho] at q
  exact q
theorem need_comp (hn : ∀ n ∈ needs (.comp elt tg src cond), NeedOk X.prog X.w X.K X.mg X.base k n) :
    (∀ n ∈ needs elt, NeedOk X.prog X.w X.K X.mg X.base k n) ∧ (∀ n ∈ needs src, NeedOk X.prog X.w X.K X.mg X.base k n) ∧ (∀ n ∈ needs cond, NeedOk X.prog X.w X.K X.mg X.base k n) :=
  ⟨fun n h => hn n (List.mem_append_left _ h), fun n h => hn n (List.mem_append_right _ (List.mem_append_left _ h)), fun n h => hn n (List.mem_append_right _ (List.mem_append_right _ h))⟩
theorem tup_or {v : Expr} (tgt : Expr) (h : asgB c tgt v = true) : (∃ x px, tgt = .Name x px ∧ (isComp v = false ∨ celB c x = true ∨ swB c x px v = true)) ∨ (∃ ts kk p, tgt = .Tuple ts kk p ∧ isComp v = false ∧ ((isTupX v = false ∨ hasCel c ts = true) ∨ tri c ts v = true)) := by
  unfold asgB at h
  split at h
  · refine .inl ⟨_, _, rfl, ?_⟩
    simp only [Bool.or_eq_true, Bool.not_eq_true'] at h
    exact h
  · refine .inr ⟨_, _, _, rfl, ?_⟩
    simp only [Bool.and_eq_true, Bool.or_eq_true, Bool.not_eq_true'] at h
    exact h
  · exact no h
theorem filt_lt {α β : Type} {f : α → Option β} : ∀ {l : List α}, (∃ x ∈ l, f x = none) → (l.filterMap f).length < l.length
  | [], ⟨x, h, _⟩ => by cases h
  | y :: l, ⟨x, h, e⟩ => by
    have hle : (l.filterMap f).length ≤ l.length := List.length_filterMap_le ..
    rw [List.filterMap_cons, List.length_cons]
    rcases List.mem_cons.mp h with rfl | h
    · rw [e]; exact Nat.lt_succ_of_le hle
    · have ih := filt_lt ⟨x, h, e⟩
      cases f y with
      | none => exact Nat.lt_succ_of_lt ih
      | some _ => exact Nat.succ_lt_succ ih
theorem stores_cells {ts vs : List Expr} {kk k2 : Nat} {pt p8 : Pos} {env : Env} (h : ∃ x p, Expr.Name x p ∈ ts ∧ env.scope.names.lookup x = some .cell) : swappedStores [.Tuple ts kk pt] (.Tuple vs k2 p8) env = pure none := by
  obtain ⟨x, p, hm, hl⟩ := h
  have kx : env.kindOf x = some .cell := hl
  unfold swappedStores
  simp only []
  split
  · rfl
  split
  · rfl
  · rw [if_pos ?_]
    · rw [Bool.or_eq_true]
      left
      rw [bne_iff_ne]
      refine Nat.ne_of_lt (filt_lt ⟨_, hm, ?_⟩)
      simp [kx]
theorem cel_mem {ts : List Expr} (G : Good X c k) (h : hasCel c ts = true) : ∃ x p, Expr.Name x p ∈ ts ∧ X.env.scope.names.lookup x = some .cell := by
  unfold hasCel at h
  obtain ⟨e, hm, h⟩ := List.any_eq_true.mp h
  split at h
  · exact ⟨_, _, hm, by rw [G.sc]; exact cel_of h⟩
  · exact no h
theorem stores_any {ts : List Expr} {v : Expr} {kk : Nat} {pt : Pos} (G : Good X c k) (h : isTupX v = false ∨ hasCel c ts = true) : swappedStores [.Tuple ts kk pt] v X.env = pure none := by
  rcases h with h | h
  · exact stores_tup h _
  · cases ev : isTupX v with
    | false => exact stores_tup ev _
    | true =>
      cases v <;> first | exact no ev.symm | exact no ev | skip
      exact stores_cells (cel_mem G h)
theorem one_each {tgt : Expr} (h : isStar tgt = false) (env : Env) : (assignEach [tgt] env).map (·.2) = [assign tgt env] := by rw [ae_no h]; rfl
theorem sole_no {v t : Expr} (h : isComp v = false) (l : Nat) (env : Env) : swapsWithSole [t] v l env = pure false := swaps_no h (some t) l env
theorem sole_cell {v : Expr} {y : Str} {py : Pos} {l : Nat} {env : Env} (hy : env.scope.names.lookup y = some .cell) : swapsWithSole [.Name y py] v l env = pure false := swaps_cell (l := l) hy
theorem bnot {b : Bool} (h : (!b) = true) : b = false := by cases b <;> first | rfl | cases h
theorem stores_some3 {x y z : Str} {px py pz p8 pt : Pos} {k2 kt : Nat} {a b d : Expr} {env : Env} (hk : env.scope.kind = .function) (hx : env.scope.names.lookup x = some .local) (hy : env.scope.names.lookup y = some .local) (hz : env.scope.names.lookup z = some .local) (hl : (py.line == px.line) = true) (hl2 : (pz.line == px.line) = true)
    (h1 : (x == y) = false) (h2 : (x == z) = false) (h3 : (y == z) = false) (ha : isStar a = false) (hb : isStar b = false) (hd : isStar d = false) (hf : (foldedForSure 8 a && (foldedForSure 8 b && foldedForSure 8 d)) = false) (hc : (constantsAlone 8 a && (constantsAlone 8 b && constantsAlone 8 d)) = false) :
    swappedStores [.Tuple [.Name x px, .Name y py, .Name z pz] kt pt] (.Tuple [a, b, d] k2 p8) env = pure (some [x, y, z]) := by
  have kx : env.kindOf x = some .local := hx
  have ky : env.kindOf y = some .local := hy
  have kz : env.kindOf z = some .local := hz
  have hbk : env.blockKind = .function := by unfold Env.blockKind; rw [hk]; rfl
  have hl' : py.line = px.line := by simpa using hl
  have hl2' : pz.line = px.line := by simpa using hl2
  have n1 : ¬ x = y := by simpa using h1
  have n2 : ¬ x = z := by simpa using h2
  have n3 : ¬ y = z := by simpa using h3
  have he : ([x, y, z] : List Str).eraseDups.length = 3 := by
    simp [List.eraseDups_cons, List.filter_cons, List.eraseDups_nil, Ne.symm n1, Ne.symm n2, Ne.symm n3, n1, n2, n3, fun e : y = x => n1 e.symm, fun e : z = x => n2 e.symm, fun e : z = y => n3 e.symm]
  unfold swappedStores
  simp [hbk, kx, ky, kz, hl', hl2', hf, hc, Expr.pos, he, List.filterMap_cons]
  intro h
  rcases h with h | h | h
  · cases a <;> first | (cases ha; done) | (cases h; done)
  · cases b <;> first | (cases hb; done) | (cases h; done)
  · cases d <;> first | (cases hd; done) | (cases h; done)
theorem tri_t {x y z : Str} {px py pz p : Pos} {kk : Nat} (h : chkT t c (.e (.Tuple [.Name x px, .Name y py, .Name z pz] kk p)) = true) : ∃ i j l, t = .tup (.tcons (.nm i) (.tcons (.nm j) (.tcons (.nm l) .tnil))) ∧ stB c i x = true ∧ stB c j y = true ∧ stB c l z = true := by
  cases t with
  | tup ts =>
    have h : chkT ts c (.l [.Name x px, .Name y py, .Name z pz]) = true := h
    cases ts with
    | tcons t1 u =>
      obtain ⟨h1, h2⟩ := two_t (show ((!isStar (.Name x px) && chkT t1 c (.e (.Name x px))) && chkT u c (.l [.Name y py, .Name z pz])) = true from h)
      cases u with
      | tcons t2 u2 =>
        obtain ⟨h3, h4⟩ := two_t (show ((!isStar (.Name y py) && chkT t2 c (.e (.Name y py))) && chkT u2 c (.l [.Name z pz])) = true from h2)
        cases u2 with
        | tcons t3 u3 =>
          obtain ⟨h5, h6⟩ := two_t (show ((!isStar (.Name z pz) && chkT t3 c (.e (.Name z pz))) && chkT u3 c (.l [])) = true from h4)
          have g1 := (two_t h1).2
          have g2 := (two_t h3).2
          have g3 := (two_t h5).2
          cases t1 <;> first | exact no g1 | skip
          cases t2 <;> first | exact no g2 | skip
          cases t3 <;> first | exact no g3 | skip
          cases u3 <;> first | exact no h6 | skip
          exact ⟨_, _, _, rfl, g1, g2, g3⟩
        | _ => exact no h4
      | _ => exact no h2
    | _ => exact no h
  | _ => exact no h
theorem asg_tri {ts : List Expr} {kk : Nat} {pt pos : Pos} {v : Expr} (G : GoodS X c k) (hn : ∀ n ∈ needs e, NeedOk X.prog X.w X.K X.mg X.base k n) (h4 : tri c ts v = true) (h2 : chkT t c (.e (.Tuple ts kk pt)) = true) (h3 : chk e c false (.e v) = true) : DSt X (.Assign [.Tuple ts kk pt] v pos) (denS (.asg t e)) := by
  unfold tri at h4
  split at h4
  · rename_i x px y py z pz a b d k2 p8
    obtain ⟨l1, h4⟩ := two_t h4
    obtain ⟨l2, h4⟩ := two_t h4
    obtain ⟨l3, h4⟩ := two_t h4
    obtain ⟨l4, h4⟩ := two_t h4
    obtain ⟨l5, h4⟩ := two_t h4
    obtain ⟨l6, h4⟩ := two_t h4
    obtain ⟨l7, h4⟩ := two_t h4
    obtain ⟨l8, h4⟩ := two_t h4
    obtain ⟨l9, h4⟩ := two_t h4
    obtain ⟨l10, h4⟩ := two_t h4
    obtain ⟨l11, h4⟩ := two_t h4
    obtain ⟨l12, l13⟩ := two_t h4
    obtain ⟨i, j, l, rfl, t1, t2, t3⟩ := tri_t h2
    have lx : X.env.scope.names.lookup x = some .local := by rw [G.sc]; exact loc_of l1
    have ly : X.env.scope.names.lookup y = some .local := by rw [G.sc]; exact loc_of l2
    have lz : X.env.scope.names.lookup z = some .local := by rw [G.sc]; exact loc_of l3
    have ni := (G.st t1).1
    have nj := (G.st t2).1
    have nl := (G.st t3).1
    have dij : i ≠ j := fun e => by
      rw [e, nj] at ni
      have q : x = y := (Option.some.inj ni).symm
      rw [q] at l6
      simp at l6
    have dil : i ≠ l := fun e => by
      rw [e, nl] at ni
      have q : x = z := (Option.some.inj ni).symm
      rw [q] at l7
      simp at l7
    have djl : j ≠ l := fun e => by
      rw [e, nl] at nj
      have q : y = z := (Option.some.inj nj).symm
      rw [q] at l8
      simp at l8
    cases e with
    | stuck => exact ⟨fun pins s σ H T I ⟨r, F0, H0, F, ρ, w, s', o⟩ => (show False from o).elim⟩
    | tup es =>
      obtain ⟨xs, e0, h3⟩ := vw h3
      cases e0
      have ha : DA X [a, b, d] (den es) := (sound es G.toGood hn).l _ h3
      refine PS_imp (ps_par3 G.calm G.nd ni nj nl dij dil djl lx ly lz ha (stores_some3 G.kind lx ly lz l4 l5 (bnot l6) (bnot l7) (bnot l8) (nstar l9) (nstar l10) (nstar l11) (bnot l12) (bnot l13))) fun T σ H ⟨r, F0, H0, F, ρ, w, s, o⟩ => ?_
      have o : OutS X.K r F0 H0 (bnd (bnd (den es ρ) fun xs => if (listOf xs).length ≤ sizeLine then ret (.tuple (listOf xs)) else bad) (fun d => match bindT (.tup (.tcons (.nm i) (.tcons (.nm j) (.tcons (.nm l) .tnil)))) d ρ with | some ρ' => ret (.nx ρ') | none => bad) w) T := o
      rw [bnd_bnd] at o
      refine ⟨r, F, ρ, w, s.sx, (OutS.bind (P := PL) o).mono fun vs H1 ⟨F1, dd, w1, n1, p1, o1⟩ => ?_⟩
      have s1 := s.step n1
      by_cases hc : (listOf dd).length ≤ sizeLine
      · rw [if_pos hc, bnd_ret] at o1
        have p1 : RpL F1 (listOf dd) vs := p1
        revert p1 o1
        generalize listOf dd = ds
        intro o1 p1
        match ds, p1, o1 with
        | [d1, d2, d3], p1, o1 =>
          obtain ⟨v1, r1, rfl, q1, p1⟩ := p1
          obtain ⟨v2, r2, rfl, q2, p1⟩ := p1
          obtain ⟨v3, r3, rfl, q3, p1⟩ := p1
          cases (show r3 = [] from p1)
          refine ⟨v1, v2, v3, rfl, ?_⟩
          have x3 := ((s1.sx.setV (i := i) q1).setV (i := j) q2).setV (i := l) q3
          refine o1 _ F1 H1 (s1.bound (t := .tup (.tcons (.nm i) (.tcons (.nm j) (.tcons (.nm l) .tnil)))) (d := .tuple [d1, d2, d3]) rfl x3 ⟨by simp, fun m hm => ?_⟩)
          have hm : m ∉ [i] ++ ([j] ++ ([l] ++ [])) := hm
          simp only [List.mem_append, List.mem_singleton, List.not_mem_nil, or_false, not_or] at hm
          rw [List.getElem?_set_ne (fun e => hm.2.2 e.symm), List.getElem?_set_ne (fun e => hm.2.1 e.symm), List.getElem?_set_ne (fun e => hm.1 e.symm)]
        | [], p1, o1 => exact o1.elim
        | [_], p1, o1 => exact o1.elim
        | [_, _], p1, o1 => exact o1.elim
        | _ :: _ :: _ :: _ :: _, p1, o1 => exact o1.elim
      · rw [if_neg hc] at o1
        exact o1.elim
    | _ => exact no h3
  · exact no h4
theorem q_asg (G : GoodS X c k) (hn : ∀ n ∈ needs e, NeedOk X.prog X.w X.K X.mg X.base k n) : SndS X c (.asg t e) := .one (fun st h => by
  obtain ⟨⟨tgt, v, p⟩, e0, h⟩ := vw h
  obtain ⟨h1, h⟩ := two_t h
  obtain ⟨h2, h3⟩ := two_t h
  obtain rfl := vAsg_eq e0
  have hv := (sound e G.toGood hn).v _ h3
  have hg := tg_e G.toGood h2
  rcases tup_or _ h1 with ⟨x, px, rfl, h1 | h1 | h1⟩ | ⟨ts, kk, pt, rfl, h1, h4⟩
  · exact st_asg hv hg (sole_no h1 _ _) (stores_name _) (one_each rfl _)
  · exact st_asg hv hg (sole_cell (by rw [G.sc]; exact cel_of h1)) (stores_name _) (one_each rfl _)
  · obtain ⟨y, gs, scope, q, rfl⟩ : ∃ y gs scope q, v = .ListComp y gs scope q := by
      cases v <;> first | exact no h1 | exact ⟨_, _, _, _, rfl⟩
    rcases comp_only h3 with rfl | ⟨elt, tg, src, cond, rfl⟩
    · exact ⟨fun pins s σ H T I ⟨r, F0, H0, F, ρ, w, s', o⟩ => (show False from o).elim⟩
    obtain ⟨n1, n2, n3⟩ := need_comp hn
    obtain ⟨y', t', it, ifs, scope', p', own, e, P⟩ := comp_parts G.toGood (sound src G.toGood n2) (sound elt) (sound cond) n1 n3 h3
    cases e
    cases t with
    | nm i =>
      obtain ⟨g1, _, _⟩ := G.st (show stB c i x = true from h2)
      exact PS_imp (setLc G P g1 h1) fun T σ H q => comp_set (freeze_set (setV_read q))
    | _ => exact no h2
  · rcases h4 with h4 | h4
    · exact st_asg hv hg (sole_no h1 _ _) (stores_any G.toGood h4) (one_each rfl _)
    · exact asg_tri G hn h4 h2 h3) fun _ => rfl
theorem q_newL (G : GoodS X c k) (hn : ∀ n ∈ needs e, NeedOk X.prog X.w X.K X.mg X.base k n) : SndS X c (.newL i e) := .one (fun st h => by
  obtain ⟨⟨tgt, v, p⟩, e0, h⟩ := vw h
  obtain ⟨⟨x, px⟩, e1, h⟩ := vw h
  obtain ⟨h0, h⟩ := two_t h
  obtain ⟨hf, h⟩ := two_t h
  obtain ⟨h1, h3⟩ := two_t h
  obtain rfl := vAsg_eq e0
  obtain rfl := nmX_eq e1
  obtain ⟨g1, g2, _⟩ := G.st h0
  have hv := (sound e G.toGood hn).f hf _ h3
  rcases tup_or _ h1 with ⟨x, px, e, h1 | h1 | h1⟩ | ⟨ts, kk, pt, e, h1, h4⟩
  · cases e; exact st_newL G.nd g1 g2 (G.fn _) hv (swaps_no h1 _ _ _)
  · cases e; exact st_newL G.nd g1 g2 (G.fn _) hv (swaps_cell (by rw [G.sc]; exact cel_of h1))
  · cases e
    obtain ⟨y, gs, scope, q, rfl⟩ : ∃ y gs scope q, v = .ListComp y gs scope q := by
      cases v <;> first | exact no h1 | exact ⟨_, _, _, _, rfl⟩
    rcases comp_only h3 with rfl | ⟨elt, tg, src, cond, rfl⟩
    · exact no hf
    obtain ⟨n1, n2, n3⟩ := need_comp hn
    obtain ⟨y', t', it, ifs, scope', p', own, e, P⟩ := comp_parts G.toGood (sound src G.toGood n2) (sound elt) (sound cond) n1 n3 h3
    cases e
    exact PS_imp (setLc G P g1 h1) fun T σ H q => comp_set (newL_read q)
  · cases e) fun _ => rfl
theorem do2 {o : Bool} {x : Expr} (hs : Snd X c a) (ho : (!o || fresh a) = true) (h : chk a c false (.e x) = true) : DO2 X o x (den a) := by
  cases o with
  | false => exact (hs.v _ h).o2
  | true => exact (hs.f ho _ h).o2
theorem stores_some {x y : Str} {px py p8 pt : Pos} {k2 kt : Nat} {a b : Expr} {env : Env} (hk : env.scope.kind = .function) (hx : env.scope.names.lookup x = some .local) (hy : env.scope.names.lookup y = some .local) (hl : (py.line == px.line) = true) (hne : (x == y) = false)
    (ha : isStar a = false) (hb : isStar b = false) (hf : (foldedForSure 8 a && foldedForSure 8 b) = false) (hc : (constantsAlone 8 a && constantsAlone 8 b) = false) : swappedStores [.Tuple [.Name x px, .Name y py] kt pt] (.Tuple [a, b] k2 p8) env = pure (some [x, y]) := by
  have kx : env.kindOf x = some .local := hx
  have ky : env.kindOf y = some .local := hy
  have hbk : env.blockKind = .function := by unfold Env.blockKind; rw [hk]; rfl
  have st : ∀ a : Expr, isStar a = false → (match a with | .Starred .. => true | _ => false) = false := fun a h => by cases a <;> first | rfl | cases h
  have hl' : py.line = px.line := by simpa using hl
  have he : ([x, y] : List Str).eraseDups.length = 2 := by
    have hne' : ¬ x = y := by simpa using hne
    simp [List.eraseDups_cons, List.filter_cons, List.eraseDups_nil]
    rw [if_neg (fun e => hne' e.symm)]
    simp [List.eraseDups_cons]
  unfold swappedStores
  simp [hbk, kx, ky, hl', st a ha, st b hb, hf, hc, Expr.pos, he, List.filterMap_cons]
  intro h
  rcases h with h | h
  · cases a <;> first | (cases ha; done) | (cases h; done)
  · cases b <;> first | (cases hb; done) | (cases h; done)
theorem stores_cell {x y : Str} {px py p8 pt : Pos} {k2 kt : Nat} {a b : Expr} {env : Env} (h : env.scope.names.lookup x = some .cell ∨ env.scope.names.lookup y = some .cell) : swappedStores [.Tuple [.Name x px, .Name y py] kt pt] (.Tuple [a, b] k2 p8) env = pure none := by
  rcases h with h | h
  · have kx : env.kindOf x = some .cell := h
    unfold swappedStores
    simp [kx, Expr.pos, List.filterMap_cons]
    intro _ _ _ h2
    exfalso
    revert h2
    split <;> simp
  · have ky : env.kindOf y = some .cell := h
    unfold swappedStores
    simp [ky, Expr.pos, List.filterMap_cons]
    intro _ _ _ h2
    exfalso
    revert h2
    split <;> simp
theorem cel_or {x y : Str} (h : parC c x y = true) (G : Good X c k) : X.env.scope.names.lookup x = some .cell ∨ X.env.scope.names.lookup y = some .cell := by
  unfold parC at h
  rw [Bool.or_eq_true] at h
  rw [G.sc]
  exact h.imp cel_of cel_of
theorem q_par {oi oj : Bool} (G : GoodS X c k) (ha : Snd X c a) (hb : Snd X c b) : SndS X c (.par i j oi oj a b) := .one (fun st h => by
  obtain ⟨⟨x, px, y, py, u, v⟩, e0, h⟩ := vw h
  obtain ⟨h1, h⟩ := two_t h
  obtain ⟨h2, h⟩ := two_t h
  obtain ⟨h3, h⟩ := two_t h
  obtain ⟨h4, h⟩ := two_t h
  obtain ⟨h5, h⟩ := two_t h
  obtain ⟨h6, h⟩ := two_t h
  obtain ⟨h7, h⟩ := two_t h
  obtain ⟨h8, h⟩ := two_t h
  obtain ⟨h9, g⟩ := two_t h
  obtain ⟨kt, pt, k2, p8, pos, rfl⟩ := vPar_eq e0
  rw [Bool.or_eq_true] at g
  rcases g with h | h
  · exact st_parT G.calm G.nd (G.st h1).1 (G.st h2).1 (G.st h1).2.1 (G.st h2).2.1 (G.fn _) (G.fn _) (star_no (nstar h3) _ _) (star_no (nstar h4) _ _) (do2 ha h7 h5) (do2 hb h8 h6) (stores_cell (cel_or h G.toGood))
  obtain ⟨l1, h⟩ := two_t h
  obtain ⟨l2, h⟩ := two_t h
  obtain ⟨l3, h⟩ := two_t h
  obtain ⟨l4, h⟩ := two_t h
  obtain ⟨l5, l6⟩ := two_t h
  have lx : X.env.scope.names.lookup x = some .local := by rw [G.sc]; exact loc_of l1
  have ly : X.env.scope.names.lookup y = some .local := by rw [G.sc]; exact loc_of l2
  exact st_par G.calm G.nd (G.st h1).1 (G.st h2).1 (of_decide_eq_true h9) lx ly (star_no (nstar h3) _ _) (star_no (nstar h4) _ _) (do2 ha h7 h5) (do2 hb h8 h6)
    (stores_some G.kind lx ly l3 (by simpa using l4) (nstar h3) (nstar h4) (bnot l5) (bnot l6))) fun _ => rfl
theorem few {x : Expr} (h : isStar x = false) (p3 : Pos) (env : Env) : ((backTo p3 (starEach [x] env)).all (fun x => !x.1) && (backToKw p3 (keywordEach [] env)).all (fun x => x.1.isSome) && decide ([x].length + ([] : List Keyword).length + (if ([] : List Keyword).isEmpty then 0 else 1) < 30)) = true := by
  rw [star_no h]
  rfl
theorem q_app (G : GoodS X c k) (he : Snd X c e) : SndS X c (.app i e) := .one (fun st h => by
  obtain ⟨⟨x, m, u, q⟩, e0, h⟩ := vw h
  obtain ⟨h1, h⟩ := two_t h
  obtain ⟨h2, h⟩ := two_t h
  obtain ⟨h3, h⟩ := two_t h
  obtain ⟨h4, h5⟩ := two_t h
  obtain rfl := of_decide_eq_true h2
  obtain ⟨p, p2, p3, pos, rfl, hl⟩ := vMet_eq e0
  obtain ⟨n1, n2, n3, n4⟩ := G.nm h3
  exact st_app n1 n2 n3 n4 (star_no (nstar h4) _ _) (hl.trans h1) (he.v _ h5) (few (nstar h4) _ _)) fun _ => rfl
theorem q_ext (G : GoodS X c k) (he : Snd X c e) : SndS X c (.ext i e) := .one (fun st h => by
  obtain ⟨⟨x, m, u, q⟩, e0, h⟩ := vw h
  obtain ⟨h1, h⟩ := two_t h
  obtain ⟨h2, h⟩ := two_t h
  obtain ⟨h3, h⟩ := two_t h
  obtain ⟨h4, h5⟩ := two_t h
  obtain rfl := of_decide_eq_true h2
  obtain ⟨p, p2, p3, pos, rfl, hl⟩ := vMet_eq e0
  obtain ⟨n1, n2, n3, n4⟩ := G.nm h3
  exact st_ext n1 n2 n3 n4 (star_no (nstar h4) _ _) (hl.trans h1) (he.v _ h5) (few (nstar h4) _ _)) fun _ => rfl
theorem asub {o a : Expr} (h : isSlice a = false) (p : Pos) (env : Env) (v : Value) : assign (.Subscript o a p) env v = (do
      let ov ← holding [v] (eval o env)
      let iv ← holding [v, ov] (eval a env)
      standAt p
      holding [v, ov, iv] (setItem ov iv v)
      release [v, ov, iv] []) := by
  cases a <;> first | rfl | cases h
theorem q_setIx (G : GoodS X c k) (hk : Snd X c a) (he : Snd X c e) : SndS X c (.setIx i a e) := .one (fun st h => by
  obtain ⟨⟨tgt, v, pos⟩, e0, g⟩ := vw h
  obtain ⟨⟨o, u⟩, e1, g⟩ := vw g
  obtain ⟨rv, e2, g⟩ := vw g
  obtain ⟨h1, g⟩ := two_t g
  obtain ⟨h2, g⟩ := two_t g
  obtain ⟨h3, g⟩ := two_t g
  obtain ⟨h4, h5⟩ := two_t g
  obtain rfl := vAsg_eq e0
  obtain ⟨p2, rfl⟩ := vSub_eq e1
  obtain ⟨p, rfl⟩ := vName_eq e2
  obtain ⟨n1, n2, n3, n4⟩ := G.nm h1
  exact st_setIx n1 n2 n3 n4 (he.v _ h5) (hk.v _ h4) (sole_no (by simpa using h3) _ _) (stores_sub _) (asub (nslice h2) _ _)) fun _ => rfl
theorem q_rowSet {j : Nat} (G : GoodS X c k) (he : Snd X c e) : SndS X c (.rowSet i j e) := .one (fun st h => by
  obtain ⟨⟨tgt, v, pos⟩, e0, g⟩ := vw h
  obtain ⟨⟨rv, n⟩, e1, g⟩ := vw g
  obtain ⟨h1, g⟩ := two_t g
  obtain ⟨h2, g⟩ := two_t g
  obtain ⟨h3, h4⟩ := two_t g
  obtain rfl := vAsg_eq e0
  have h2 : n = (j : Int) := of_decide_eq_true h2
  subst h2
  obtain ⟨p1, p2, p3, kk, rfl⟩ := vAt_eq e1
  obtain ⟨n1, n2, n3, n4⟩ := G.nm h1
  exact st_rowSet n1 n2 n3 n4 (he.v _ h4) (sole_no (by simpa using h3) _ _) (stores_sub _)) fun _ => rfl
theorem q_ite (he : Snd X c e) (ha : SndS X c A) (hb : SndS X c B) : SndS X c (.ite e A B) := .one (fun st h => by
  obtain ⟨⟨y, u, v⟩, e0, g⟩ := vw h
  obtain ⟨h1, g⟩ := two_t g
  obtain ⟨h2, g⟩ := two_t g
  obtain ⟨h3, h4⟩ := two_t g
  obtain ⟨p, rfl⟩ := vIfS_eq e0
  exact st_if (he.t _ h1 h2) (ha.l _ h3) (hb.l _ h4)) fun _ => rfl
theorem q_for (G : GoodS X c k) (he : Snd X c e) (hb : SndS X c B) : SndS X c (.for_ t e B) := .one (fun st h => by
  obtain ⟨⟨y, it, v⟩, e0, g⟩ := vw h
  obtain ⟨h1, g⟩ := two_t g
  obtain ⟨h2, g⟩ := two_t g
  obtain ⟨h3, h4⟩ := two_t g
  obtain ⟨p, rfl⟩ := vFor_eq e0
  have hi : DI X y it (fun ρ => bnd (den e ρ) itemsOf) := by
    have h3 : (if isIter e then chk e c false (.i y it) else chk e c false (.e it)) = true := h3
    split at h3
    · exact he.i _ _ h3
    · exact i_seq (he.v _ h3)
  exact st_for (by rw [G.xe]; exact PassesOwn.never) G.calm hi (tg_e G.toGood h1) (hb.l _ h4) (noset (by simpa using h2) _)) fun _ => rfl
theorem q_while {n : Ev → Nat} (G : GoodS X c k) (he : Snd X c e) (hb : SndS X c B) : SndS X c (.while_ n e B) := .one (fun st h => by
  obtain ⟨⟨y, v⟩, e0, g⟩ := vw h
  obtain ⟨h1, g⟩ := two_t g
  obtain ⟨h2, h3⟩ := two_t g
  obtain ⟨p, rfl⟩ := vWhile_eq e0
  exact st_while (by rw [G.xe]; exact PassesOwn.never) (he.t _ h1 h2) (hb.l _ h3)) fun _ => rfl
theorem q_ret (he : Snd X c e) : SndS X c (.ret e) := .one (fun st h => by
  obtain ⟨y, e0, g⟩ := vw h
  obtain ⟨p, rfl⟩ := vRet_eq e0
  exact st_ret (he.v _ g)) fun _ => rfl
theorem q_expr (he : Snd X c e) : SndS X c (.expr e) := .one (fun st h => by
  obtain ⟨⟨y, p⟩, e0, g⟩ := vw h
  obtain ⟨h1, h2⟩ := two_t g
  obtain rfl := vExp_eq e0
  exact st_expr (he.v _ h2) (swaps_no (by simpa using h1) _ _ _)) fun _ => rfl
theorem aug_of {K : PySem.W.Frag} {X : Cx} {o : BOp} {op : Operator} (h : opA o op = true) : ∃ r : R2, OpR X (inplaceOp op) r ∧ VR2 X.K r (augD o) := by
  cases o <;> cases op <;> first | exact no h | skip
  · exact ⟨_, iop_add, fun {rr F H w x y a b Q} s k p q o => by
      cases a <;> cases b <;> first | exact o.elim | skip
      exact ⟨_, _, p, q, fin s k o rfl⟩⟩
  · exact ⟨_, iop_sub, fun {rr F H w x y a b Q} s k p q o => by
      cases a <;> cases b <;> first | exact o.elim | skip
      exact ⟨_, _, p, q, fin s k o rfl⟩⟩
  · exact ⟨_, iop_mul, fun {rr F H w x y a b Q} s k p q o => by
      cases a <;> cases b <;> first | exact o.elim | skip
      obtain ⟨hc, o⟩ := ite_out o
      exact ⟨_, _, p, q, by simpa [big, CMul] using hc, fin s k o rfl⟩⟩
  · exact ⟨_, iop_fdiv, fun {rr F H w x y a b Q} s k p q o => by
      cases a <;> cases b <;> first | exact o.elim | skip
      obtain ⟨hc, o⟩ := ite_out o
      exact ⟨_, _, p, q, hc, fin s k o rfl⟩⟩
  · exact ⟨_, iop_mod, fun {rr F H w x y a b Q} s k p q o => by
      cases a <;> cases b <;> first | exact o.elim | skip
      obtain ⟨hc, o⟩ := ite_out o
      exact ⟨_, _, p, q, hc, fin s k o rfl⟩⟩
theorem q_aug {o : BOp} (G : GoodS X c k) (he : Snd X c e) : SndS X c (.aug i o e) := .one (fun st h => by
  obtain ⟨⟨x, op, v⟩, e0, g⟩ := vw h
  obtain ⟨h1, g⟩ := two_t g
  obtain ⟨h2, h3⟩ := two_t g
  obtain ⟨p, q, rfl⟩ := vAug_eq e0
  obtain ⟨r, k1, k2⟩ := aug_of (K := X.K) (X := X) h2
  obtain ⟨g1, g2, _⟩ := G.st h1
  exact st_aug G.nd g1 g2 (G.fn _) (he.v _ h3) k1 k2) fun _ => rfl
theorem soundS (B : S) : ∀ {X : Cx} {c : Cg} {k : Nat}, GoodS X c k → (∀ n ∈ needsS B, NeedOk X.prog X.w X.K X.mg X.base k n) → SndS X c B := by
  induction B with
  | nil => exact fun G hn => q_nil
  | seq a r iha ihr => exact fun G hn => q_seq (iha G fun n h => hn n (List.mem_append_left _ h)) (ihr G fun n h => hn n (List.mem_append_right _ h))
  | asg t e => exact fun G hn => q_asg G hn
  | newL i e => exact fun G hn => q_newL G hn
  | par i j oi oj a b => exact fun G hn => q_par G (sound a G.toGood fun n h => hn n (List.mem_append_left _ h)) (sound b G.toGood fun n h => hn n (List.mem_append_right _ h))
  | frz i => exact fun G hn => ⟨fun st h => no h, fun sts h => no h⟩
  | app i e => exact fun G hn => q_app G (sound e G.toGood hn)
  | ext i e => exact fun G hn => q_ext G (sound e G.toGood hn)
  | setIx i a e => exact fun G hn => q_setIx G (sound a G.toGood fun n h => hn n (List.mem_append_left _ h)) (sound e G.toGood fun n h => hn n (List.mem_append_right _ h))
  | appPop i j e => exact fun G hn => ⟨fun st h => no h, fun sts h => no h⟩
  | ite e a b iha ihb => exact fun G hn => q_ite (sound e G.toGood fun n h => hn n (List.mem_append_left _ h)) (iha G fun n h => hn n (List.mem_append_right _ (List.mem_append_left _ h))) (ihb G fun n h => hn n (List.mem_append_right _ (List.mem_append_right _ h)))
  | for_ t e b ihb => exact fun G hn => q_for G (sound e G.toGood fun n h => hn n (List.mem_append_left _ h)) (ihb G fun n h => hn n (List.mem_append_right _ h))
  | while_ n e b ihb => exact fun G hn => q_while G (sound e G.toGood fun n h => hn n (List.mem_append_left _ h)) (ihb G fun n h => hn n (List.mem_append_right _ h))
  | ret e => exact fun G hn => q_ret (sound e G.toGood hn)
  | expr e => exact fun G hn => q_expr (sound e G.toGood hn)
  | raise x es => exact fun G hn => ⟨fun st h => no h, fun sts h => no h⟩
  | rowSet i j e => exact fun G hn => q_rowSet G (sound e G.toGood hn)
  | aug i o e => exact fun G hn => q_aug G (sound e G.toGood hn)
  | stuck => exact fun G hn => ⟨fun st h => ⟨fun pins s σ H T I ⟨r, F0, H0, F, ρ, w, s', o⟩ => o.elim⟩, fun sts h => ⟨fun pins s σ H T I ⟨r, F0, H0, F, ρ, w, s', o⟩ => o.elim⟩⟩
end
end Dn
namespace Dn
open PySem PySem.Spec PyProof.Rows L2
set_option autoImplicit true
/-! ### defs by the check -/
section
variable {P : Program} {wd : World} {K : PySem.W.Frag} {mg : Str → Option Value} {base : Heap} {st : Stmt} {f : Addr} {fd : FuncData} {x qual n0 : Str} {N ps : List Str} {j k n : Nat} {B : S}
theorem kind_of {N ps : List Str} {sc : Scope} (h : FnScope N ps sc) : sc.kind = .function := h.kind
theorem good_of {X : Cx} (Sc : FnScope N ps (defScope st)) (hb : ∀ n ∈ bnames, X.mg (Str.ofString n) = none) (e1 : X.N = N) (e2 : X.env.scope = defScope st) (e3 : X.calm = true) (e4 : Room k X.A) (e5 : X.fn = fun _ => true) (e6 : X.xe = fun _ _ => False) :
    GoodS X ⟨N, defScope st, fun _ => true⟩ k where
  N := e1
  nd := by rw [e1]; exact Sc.nd
  sc := e2
  kind := by rw [e2]; exact Sc.kind
  fb := fun x _ => by rw [e5]
  calm := e3
  room := e4
  bn := hb
  fn := fun x => by rw [e5]
  xe := e6
theorem def_by (Fn : Fun K x qual st f fd) (Sc : FnScope N ps (defScope st)) (hn : ps.length = n) (hb : ∀ n ∈ bnames, mg (Str.ofString n) = none)
    (hc : chkS B ⟨N, defScope st, fun _ => true⟩ (.l (defBody st)) = true) (need : ∀ m ∈ needsS B, NeedOk P wd K mg base k m) : FnOk P wd K mg base CX0 (k + 1) f fd ps (spD K n (fn N.length B)) :=
  fn_ok Fn Sc hn fun X e1 e2 e3 e4 e5 e6 e7 e8 e9 e10 e11 => (soundS B (good_of Sc (by rw [e4]; exact hb) e6 e7 e8 e9 e10 e11) (by rw [e1, e2, e3, e4, e5]; exact need)).l _ hc
theorem defR_by (Fn : Fun K x qual st f fd) (Sc : FnScope (n0 :: N) ps (defScope st)) (hn : ps.length = n + 1) (hb : ∀ n ∈ bnames, mg (Str.ofString n) = none)
    (hc : chkS B ⟨n0 :: N, defScope st, fun _ => true⟩ (.l (defBody st)) = true) (need : ∀ m ∈ needsS B, NeedOk P wd K mg base k m) : FnOk P wd K mg base CX0 (k + 1) f fd ps (spR K n (fnR N.length B)) :=
  fnR_ok Fn Sc hn fun X e1 e2 e3 e4 e5 e6 e7 e8 e9 e10 e11 => (soundS B (good_of Sc (by rw [e4]; exact hb) e6 e7 e8 e9 e10 e11) (by rw [e1, e2, e3, e4, e5]; exact need)).l _ hc
theorem CallOk.mono {sp : Sp} (h : CallOk P wd K mg base j x sp) (e : j ≤ k) : CallOk P wd K mg base k x sp := by
  obtain ⟨fa, fd, ps, h1, h2⟩ := h.ok
  exact ⟨⟨fa, fd, ps, h1.mono e, h2⟩⟩
/-- what stands at the top for a def -/
structure TopFn (K : PySem.W.Frag) (mg : Str → Option Value) (x : Str) (st : Stmt) (ps : List Str) : Prop where
  ok : ∃ f fd, Fun K x x st f fd ∧ (∀ us : List Value, us.length = ps.length → bindArgs fd ⟨us, []⟩ = pure (ps.zip us)) ∧ mg x = some (.ref f)
theorem top_of {h : Heap} {od an : Option Addr} {sl : Array (Option Value)} {oc kV dc pm cd ct : Value} (X : K.In h) (G : h.Ns mainGlobals mg) (a : PySem.W.nsIn K mainGlobals x = some (some (.ref f)))
    (l : K.lookup f = some ⟨oc, od, .func (PySem.W.fnOf x x (defArgs st) (defBody st) (defScope st) .none kV dc pm an cd ct), sl⟩) (c : PySem.W.codeIn K cd x = true) (k : PySem.W.keepIn K (.ref f) = true)
    (b : ∀ (kV doc pm : Value) (an : Option Addr) (cdv ct : Value) (us : List Value), us.length = ps.length → bindArgs (PySem.W.fnOf x x (defArgs st) (defBody st) (defScope st) .none kV doc pm an cdv ct) ⟨us, []⟩ = pure (ps.zip us)) : TopFn K mg x st ps :=
  ⟨⟨f, _, fun_mk l c k, b _ _ _ _ _ _, PySem.W.mg_of X G a⟩⟩
theorem gl_of {h : Heap} {d : D} {v : V} {u : Value} (X : K.In h) (G : h.Ns mainGlobals mg) (a : PySem.W.nsIn K mainGlobals x = some (some u)) (e : scalarV d = some v) (r : RelV v u) : ∃ v u, scalarV d = some v ∧ mg x = some u ∧ RelV v u :=
  ⟨v, u, e, PySem.W.mg_of X G a, r⟩
theorem bn_of {h : Heap} (X : K.In h) (G : h.Ns mainGlobals mg) (z1 : PySem.W.nsIn K mainGlobals "len" = some none) (z2 : PySem.W.nsIn K mainGlobals "tuple" = some none) (z3 : PySem.W.nsIn K mainGlobals "list" = some none) (z4 : PySem.W.nsIn K mainGlobals "sum" = some none)
    (z5 : PySem.W.nsIn K mainGlobals "max" = some none) (z6 : PySem.W.nsIn K mainGlobals "min" = some none) (z7 : PySem.W.nsIn K mainGlobals "abs" = some none) (z8 : PySem.W.nsIn K mainGlobals "any" = some none) (z9 : PySem.W.nsIn K mainGlobals "all" = some none)
    (z10 : PySem.W.nsIn K mainGlobals "int" = some none) (z11 : PySem.W.nsIn K mainGlobals "str" = some none) (z12 : PySem.W.nsIn K mainGlobals "bool" = some none) (z13 : PySem.W.nsIn K mainGlobals "isinstance" = some none) (z14 : PySem.W.nsIn K mainGlobals "range" = some none)
    (z15 : PySem.W.nsIn K mainGlobals "zip" = some none) (z16 : PySem.W.nsIn K mainGlobals "enumerate" = some none) (z17 : PySem.W.nsIn K mainGlobals "reversed" = some none) : ∀ n ∈ bnames, mg (Str.ofString n) = none := by
  intro n hn
  simp only [bnames, List.mem_cons, List.not_mem_nil, or_false] at hn
  rcases hn with rfl | rfl | rfl | rfl | rfl | rfl | rfl | rfl | rfl | rfl | rfl | rfl | rfl | rfl | rfl | rfl | rfl <;> exact PySem.W.mg_none_of X G (by assumption)
theorem callD (T : TopFn K mg x st ps) (Sc : FnScope N ps (defScope st)) (hn : ps.length = n) (hb : ∀ n ∈ bnames, mg (Str.ofString n) = none)
    (hc : chkS B ⟨N, defScope st, fun _ => true⟩ (.l (defBody st)) = true) (need : ∀ m ∈ needsS B, NeedOk P wd K mg base k m) : CallOk P wd K mg base (k + 1) x (spD K n (fn N.length B)) := by
  obtain ⟨f, fd, h1, h2, h3⟩ := T.ok
  exact ⟨⟨f, fd, ps, def_by h1 Sc hn hb hc need, h3, h1.kp, .all h2⟩⟩
theorem callDR (T : TopFn K mg x st ps) (Sc : FnScope (n0 :: N) ps (defScope st)) (hn : ps.length = n + 1) (hb : ∀ n ∈ bnames, mg (Str.ofString n) = none)
    (hc : chkS B ⟨n0 :: N, defScope st, fun _ => true⟩ (.l (defBody st)) = true) (need : ∀ m ∈ needsS B, NeedOk P wd K mg base k m) : CallOk P wd K mg base (k + 1) x (spR K n (fnR N.length B)) := by
  obtain ⟨f, fd, h1, h2, h3⟩ := T.ok
  exact ⟨⟨f, fd, ps, defR_by h1 Sc hn hb hc need, h3, h1.kp, .all h2⟩⟩
theorem call_bad (T : TopFn K mg x st ps) (hn : ps.length = n) : CallOk P wd K mg base k x (spD K n (fun _ => bad)) := by
  obtain ⟨f, fd, h1, h2, h3⟩ := T.ok
  exact ⟨⟨f, fd, ps, ⟨fun vs H Q E h => by rw [h.1, hn], fun A outer s H args us vs Q E hr he hb hv ⟨_, r, F, ds, w, _, _, _, o⟩ => o.elim⟩, h3, h1.kp, .all h2⟩⟩
theorem need_by {Γ : List Need} {l : List Need} (is : List Nat) (h : l = is.filterMap (Γ[·]?)) (g : ∀ m ∈ Γ, NeedOk P wd K mg base k m) : ∀ m ∈ l, NeedOk P wd K mg base k m := fun m hm => by
  rw [h, List.mem_filterMap] at hm
  obtain ⟨i, _, e⟩ := hm
  exact g m (List.mem_of_getElem? e)
/-! ### the law's own def -/
def spLaw (K : PySem.W.Frag) (n : Nat) : Sp := fun vs H Q _ => ∃ (a : Addr) (ns : List Int), vs = [.ref a] ∧ SqL K H a (ns.map V.int) ∧ ns.length ≤ n ∧ ∀ H', Q (.bl true) H'
/-- row = [script, 0, c, 0] and the rest -/
def lawHead : List Stmt → Option (Int × List Stmt)
  | .Assign [.Name r _] (.List [.Name x _, .Constant (.int 0) _ _, .Constant (.int c) _ _, .Constant (.int 0) _ _] _) _ :: rest => if r = ("row" : Str) ∧ x = ("script" : Str) then some (c, rest) else none
  | _ => none
theorem lawHead_eq {l rest : List Stmt} {c : Int} (h : lawHead l = some (c, rest)) : ∃ p1 p2 k3 p3 k4 p4 k5 p5 p6 p7, l = .Assign [.Name "row" p1] (.List [.Name "script" p2, .Constant (.int 0) k3 p3, .Constant (.int c) k4 p4, .Constant (.int 0) k5 p5] p6) p7 :: rest := by
  unfold lawHead at h
  split at h
  · split at h
    · rename_i hh
      obtain ⟨rfl, rfl⟩ := hh
      cases h
      exact ⟨_, _, _, _, _, _, _, _, _, _, rfl⟩
    · cases h
  · cases h
def lawW (ns : List Int) (c : Int) : W := ⟨ns, 0, c, 0⟩
def lawEv (m : Nat) : Ev := .no :: .row :: List.replicate m .no
theorem head_ps {X : Cx} {cg : Cg} {c : Int} {rest : List Stmt} {t : TS} {p1 p2 p3 p4 p5 p6 p7 : Pos} {k3 k4 k5 : Nat} (G : GoodS X cg k) (hl : nmB cg 0 "script" = true ∧ stB cg 1 "row" = true) (h : PSs X rest t) :
    PSs X (.Assign [.Name "row" p1] (.List [.Name "script" p2, .Constant (.int 0) k3 p3, .Constant (.int c) k4 p4, .Constant (.int 0) k5 p5] p6) p7 :: rest) (tSeq (tAsg (tLst (tCons (tVar 0) (tCons (tC (.int 0)) (tCons (tC (.int c)) (tCons (tC (.int 0)) tNil))))) (gName 1)) t) := by
  obtain ⟨n1, n2, n3, n4⟩ := G.nm hl.1
  obtain ⟨g1, g2, _⟩ := G.st hl.2
  exact pss_cons (ps_set (i := 1) G.nd g1 g2 (pe_lst (pa_cons (pe_var (i := 0) n1 n2 n3 n4) (pa_cons pe_int (pa_cons pe_int (pa_cons pe_int pa_nil))))) (hf := .inl (G.fn _))) h
theorem law_by {rest : List Stmt} {c : Int} {most : Nat} (Fn : Fun K x qual st f fd) (Sc : FnScope ("script" :: "row" :: N) ["script"] (defScope st)) (hb : ∀ n ∈ bnames, mg (Str.ofString n) = none)
    (hh : lawHead (defBody st) = some (c, rest)) (hl : nmB ⟨"script" :: "row" :: N, defScope st, fun _ => true⟩ 0 "script" = true ∧ stB ⟨"script" :: "row" :: N, defScope st, fun _ => true⟩ 1 "row" = true)
    (hc : chkS B ⟨"script" :: "row" :: N, defScope st, fun _ => true⟩ (.l rest) = true) (need : ∀ m ∈ needsS B, NeedOk P wd K mg base k m)
    (hr : ∀ ns : List Int, ns.length ≤ most → ∃ w', denS B (lawEv N.length) (lawW ns c) = .ok (.rt (.bool true)) w') : FnOk P wd K mg base CX0 (k + 1) f fd ["script"] (spLaw K most) := by
  obtain ⟨p1, p2, k3, p3, k4, p4, k5, p5, p6, p7, eb⟩ := lawHead_eq hh
  refine Fn.ok Sc (fun vs H Q E h => ?_) fun cdv A outer s H vs Q E hroom hs => ?_
  · obtain ⟨a, ns, rfl, _⟩ := h
    rfl
  · obtain ⟨a, ns, rfl, hS, hlen, q⟩ := hs
    obtain ⟨w', hr⟩ := hr ns hlen
    rw [eb]
    refine ⟨_, head_ps (good_of Sc hb rfl rfl rfl hroom rfl rfl) hl ((soundS B (good_of Sc hb rfl rfl rfl hroom rfl rfl) need).l _ hc), ?_⟩
    refine ⟨.ref a, rfl, by show 4 ≤ sizeLine; decide, fun r hp => ?_⟩
    have hrow : RowOk K (some (r, a, ns)) (fun _ => none) (upd H r (.lst [.ref a, .int 0, .int c, .int 0])) (lawW ns c) := by
      refine ⟨rfl, ?_, rfl, upd_same, ?_⟩
      · rcases hS with (h5 | ⟨o, h5⟩) | h5
        · exact .inl (ne_of_none h5 hp)
        · exact .inl (ne_of_none h5 hp)
        · exact .inr fun H' => .inr h5
      · rcases hS with (h5 | ⟨o, h5⟩) | h5
        · exact .inl (.inl (by rw [upd_ne (ne_of_none h5 hp)]; exact h5))
        · exact .inl (.inr ⟨o, by rw [upd_ne (ne_of_none h5 hp)]; exact h5⟩)
        · exact .inr h5
    have hsub : Sub (fun _ => none) (upd H r (.lst [.ref a, .int 0, .int c, .int 0])) := fun _ _ e => by cases e
    refine ⟨some (r, a, ns), (fun _ => none), _, (fun _ => none), lawEv N.length, lawW ns c, ⟨⟨hsub, hrow, ?_, ?_, ?_, ?_, ?_⟩, Nx.refl hsub hrow, ?_⟩, ?_⟩
    · show (Sl.no :: Sl.row :: List.replicate N.length Sl.no).length = ((L2.start ("script" :: "row" :: N) [V.ref a]).set 1 _).length
      unfold L2.start
      simp
    · intro i d e
      match i, e with
      | 0, e => cases e
      | 1, e => cases e
      | i + 2, e =>
        have e : (List.replicate N.length Sl.no)[i]? = some (.val d) := e
        rw [List.getElem?_replicate] at e
        split at e <;> cases e
    · intro i d e
      match i, e with
      | 0, e => cases e
      | 1, e => cases e
      | i + 2, e =>
        have e : (List.replicate N.length Sl.no)[i]? = some (.own d) := e
        rw [List.getElem?_replicate] at e
        split at e <;> cases e
    · intro i e
      match i, e with
      | 0, e => cases e
      | 1, e => exact ⟨r, rfl, rfl⟩
      | i + 2, e =>
        have e : (List.replicate N.length Sl.no)[i]? = some .row := e
        rw [List.getElem?_replicate] at e
        split at e <;> cases e
    · intro i j l m p e
      match i, e with
      | 0, e => cases e
      | 1, e => cases e
      | i + 2, e =>
        have e : (List.replicate N.length Sl.no)[i]? = some (.own l) := e
        rw [List.getElem?_replicate] at e
        split at e <;> cases e
    · intro i l p e
      match i, e with
      | 0, e => cases e
      | 1, e => cases e
      | i + 2, e =>
        have e : (List.replicate N.length Sl.no)[i]? = some (.own l) := e
        rw [List.getElem?_replicate] at e
        split at e <;> cases e
    · rw [hr]
      intro v F' H' n p
      cases (show v = .bl true from p)
      exact q H'
theorem law_fin {rest : List Stmt} {c : Int} {most : Nat} {fa : Addr} (L : TopFn K mg "law" st ["script"]) (hfa : mg "law" = some (.ref fa)) (Sc : FnScope ("script" :: "row" :: N) ["script"] (defScope st)) (hb : ∀ n ∈ bnames, mg (Str.ofString n) = none)
    (hh : lawHead (defBody st) = some (c, rest)) (hl : nmB ⟨"script" :: "row" :: N, defScope st, fun _ => true⟩ 0 "script" = true ∧ stB ⟨"script" :: "row" :: N, defScope st, fun _ => true⟩ 1 "row" = true)
    (hc : chkS B ⟨"script" :: "row" :: N, defScope st, fun _ => true⟩ (.l rest) = true) (need : ∀ base : Heap, ∀ m ∈ needsS B, NeedOk P wd K mg base k m)
    (hr : ∀ ns : List Int, ns.length ≤ most → ∃ w', denS B (lawEv N.length) (lawW ns c) = .ok (.rt (.bool true)) w') :
    ∃ fd : FuncData, (∀ (s : Shared) (v : Value), BindsTo s fd ⟨[v], []⟩ [("script", v)]) ∧ ∀ base : Heap, K.In base → base.Ns mainGlobals mg → FnOk P wd K mg base CX0 (k + 1) fa fd ["script"] (spLaw K most) := by
  obtain ⟨f, fd, h1, h2, h3⟩ := L.ok
  rw [hfa] at h3
  cases h3
  exact ⟨fd, fun s v => .of_eq (h2 [v] rfl), fun base _ _ => law_by h1 Sc hb hh hl hc (need base) hr⟩
end
end Dn
namespace Dn.DL
open PySem PySem.Spec PyProof.Rows L2
def topS (i : Nat) : Stmt := PySem.Challenge.pw_lagcones_k09_whole_meeting.main.body.getD i (.Pass ⟨0, 0, 0, 0⟩)
def B_is_int : S :=
  (.seq (.ret (.and (.isI (.var 0) .int) (.not (.isI (.var 0) .bool))))
  .nil)
def f_is_int : List D → M D := fn 1 B_is_int
def B_later : S :=
  (.seq (.ite (.or (.cmp .is_ (.var 0) (.lit .none)) (.cmp .is_ (.var 1) (.lit .none))) (.seq (.ret (.ite (.cmp .is_ (.var 0) (.lit .none)) (.var 1) (.var 0)))
  .nil) .nil)
  (.seq (.ret (.b2 .max2 (.var 0) (.var 1)))
  .nil))
def f_later : List D → M D := fn 2 B_later
def B_added : S :=
  (.seq (.ret (.ite (.or (.cmp .is_ (.var 0) (.lit .none)) (.cmp .is_ (.var 1) (.lit .none))) (.lit .none) (.bin .add (.var 0) (.var 1))))
  .nil)
def f_added : List D → M D := fn 2 B_added
def B_need_full : S :=
  (.seq (.ite (.b1 .any (.comp (.b1 .all (.comp (.cmp .is_ (.ix (.var 2) (.var 1)) (.lit .none)) (.nm 2) (.var 0) (.lit (.bool true)))) (.nm 1) (.range1 (.b1 .len (.ix (.var 0) (.lit (.int 0))))) (.lit (.bool true)))) (.seq .stuck
  .nil) .nil)
  .nil)
def f_need_full : List D → M D := fn 3 B_need_full
def B_turned_of : S :=
  (.seq (.ret (.b1 .tuple (.comp (.b1 .tuple (.comp (.ix (.var 2) (.var 1)) (.nm 2) (.var 0) (.lit (.bool true)))) (.nm 1) (.range1 (.b1 .len (.ix (.var 0) (.lit (.int 0))))) (.lit (.bool true)))))
  .nil)
def f_turned_of : List D → M D := fn 3 B_turned_of
def B_least_gap : S :=
  (.seq (.asg (.nm 2) (.lit .none))
  (.seq (.for_ (.tup (.tcons (.nm 3) (.tcons (.nm 4) .tnil))) (.zip (.var 0) (.var 1)) (.seq (.ite (.cmp .isnot (.var 3) (.lit .none)) (.seq (.ite (.cmp .is_ (.var 4) (.lit .none)) (.seq (.ret (.lit .none))
  .nil) .nil)
  (.seq (.ite (.or (.cmp .is_ (.var 2) (.lit .none)) (.cmp .lt (.bin .sub (.var 4) (.var 3)) (.var 2))) (.seq (.asg (.nm 2) (.bin .sub (.var 4) (.var 3)))
  .nil) .nil)
  .nil)) .nil)
  .nil))
  (.seq (.ret (.var 2))
  .nil)))
def f_least_gap : List D → M D := fn 5 B_least_gap
def B_reach_of : S :=
  (.seq (.asg (.nm 1) (.lit (.int 0)))
  (.seq (.for_ (.tup (.tcons (.nm 2) (.tcons (.nm 3) .tnil))) (.ix (.var 0) (.lit (.int 1))) (.seq (.asg (.nm 4) (.comp (.b1 .abs (.var 5)) (.nm 5) (.tup (.star (.var 2) (.star (.var 3) .nil))) (.cmp .isnot (.var 5) (.lit .none))))
  (.seq (.asg (.nm 1) (.b1 .max (.list (.cons (.var 1) (.star (.var 4) .nil)))))
  .nil)))
  (.seq (.ret (.bin .add (.bin .mul (.bin .mul (.lit (.int 2)) (.var 1)) (.bin .add (.ix (.var 0) (.lit (.int 0))) (.lit (.int 1)))) (.lit (.int 1))))
  .nil)))
def f_reach_of : List D → M D := fn 6 B_reach_of
def B_meeting_of : S :=
  (.seq (.newL 2 (.list .nil))
  (.seq (.for_ (.tup (.tcons (.nm 3) (.tcons (.nm 4) .tnil))) (.zip (.var 0) (.var 1)) (.seq (.par 5 6 false false (.tup (.star (.var 3) (.star (.bin .mul (.tup (.cons (.lit .none) .nil)) (.b1 .len (.var 4))) .nil))) (.tup (.star (.bin .mul (.tup (.cons (.lit .none) .nil)) (.b1 .len (.var 3))) (.star (.var 4) .nil))))
  (.seq (.ext 2 (.list (.cons (.tup (.cons (.var 5) (.cons (.var 6) .nil))) (.cons (.tup (.cons (.var 6) (.cons (.var 5) .nil))) .nil))))
  .nil)))
  (.seq (.ret (.tup (.cons (.bin .add (.b1 .len (.ix (.var 0) (.lit (.int 0)))) (.b1 .len (.ix (.var 1) (.lit (.int 0))))) (.cons (.b1 .tuple (.own 2)) .nil))))
  .nil)))
def f_meeting_of : List D → M D := fn 7 B_meeting_of
def B_min_of : S :=
  (.seq (.ret (.ite (.or (.cmp .is_ (.var 0) (.lit .none)) (.cmp .is_ (.var 1) (.lit .none))) (.lit .none) (.b2 .min2 (.var 0) (.var 1))))
  .nil)
def f_min_of : List D → M D := fn 2 B_min_of
def B_farthest : S :=
  (.seq (.ret (.b1 .max (.bin .add (.list (.cons (.lit (.int 0)) .nil)) (.comp (.b1 .max (.bin .add (.list (.cons (.lit (.int 0)) .nil)) (.comp (.b1 .abs (.var 2)) (.nm 2) (.var 1) (.cmp .isnot (.var 2) (.lit .none))))) (.nm 1) (.var 0) (.lit (.bool true))))))
  .nil)
def f_farthest : List D → M D := fn 3 B_farthest
def B__law_taken : S :=
  (.seq (.ite (.cmp .gt (.rowAt 0 3) (.lit (.int 0))) (.seq (.asg (.nm 2) (.bin .mod (.b1 .int (.rowAt 0 3)) (.var 1)))
  (.seq (.rowSet 0 3 (.bin .fdiv (.rowAt 0 3) (.var 1)))
  (.seq (.ret (.var 2))
  .nil))) .nil)
  (.seq (.rowSet 0 1 (.bin .add (.rowAt 0 1) (.lit (.int 1))))
  (.seq (.ite (.cmp .gt (.rowAt 0 1) (.scrLen 0)) (.seq (.rowSet 0 2 (.bin .mod (.b1 .int (.bin .add (.bin .mul (.rowAt 0 2) (.lit (.int 48271))) (.lit (.int 11)))) (.lit (.int 2147483647))))
  (.seq (.ret (.bin .mod (.b1 .int (.bin .fdiv (.rowAt 0 2) (.lit (.int 7)))) (.var 1)))
  .nil)) .nil)
  (.seq (.asg (.nm 3) (.scrAt 0 (.bin .sub (.rowAt 0 1) (.lit (.int 1)))))
  (.seq (.rowSet 0 2 (.bin .mod (.b1 .int (.bin .add (.bin .add (.bin .mul (.rowAt 0 2) (.lit (.int 48271))) (.var 3)) (.lit (.int 11)))) (.lit (.int 2147483647))))
  (.seq (.ite (.cmp .ge (.var 3) (.bin .pow (.lit (.int 10)) (.lit (.int 18)))) (.seq (.rowSet 0 3 (.bin .fdiv (.var 3) (.var 1)))
  .nil) .nil)
  (.seq (.ret (.bin .mod (.b1 .int (.var 3)) (.var 1)))
  .nil)))))))
def f__law_taken : List D → M D := fnR 3 B__law_taken
def B__law_later : S :=
  (.seq (.ite (.or (.cmp .is_ (.var 0) (.lit .none)) (.cmp .is_ (.var 1) (.lit .none))) (.seq (.ret (.ite (.cmp .is_ (.var 0) (.lit .none)) (.var 1) (.var 0)))
  .nil) .nil)
  (.seq (.ret (.b2 .max2 (.var 0) (.var 1)))
  .nil))
def f__law_later : List D → M D := fn 2 B__law_later
def B__law_by : S :=
  (.seq (.ret (.or (.cmp .is_ (.var 0) (.lit .none)) (.and (.cmp .isnot (.var 1) (.lit .none)) (.cmp .le (.var 0) (.var 1)))))
  .nil)
def f__law_by : List D → M D := fn 2 B__law_by
def B__law_shift : S :=
  (.seq (.ret (.b1 .tuple (.comp (.ite (.cmp .is_ (.var 2) (.lit .none)) (.var 2) (.bin .add (.var 2) (.var 1))) (.nm 2) (.var 0) (.lit (.bool true)))))
  .nil)
def f__law_shift : List D → M D := fn 3 B__law_shift
def B__law_grid : S :=
  (.seq (.asg (.nm 2) (.list (.cons (.tup .nil) .nil)))
  (.seq (.for_ (.nm 3) (.range1 (.var 0)) (.seq (.asg (.nm 4) (.list .nil))
  (.seq (.for_ (.nm 5) (.var 2) (.seq (.asg (.nm 4) (.bin .add (.var 4) (.comp (.bin .add (.var 5) (.tup (.cons (.var 6) .nil))) (.nm 6) (.bin .add (.list (.cons (.lit .none) .nil)) (.listR2 (.bin .sub (.lit (.int 0)) (.var 1)) (.lit (.int 1)))) (.lit (.bool true)))))
  .nil))
  (.seq (.asg (.nm 2) (.var 4))
  .nil))))
  (.seq (.ret (.comp (.var 5) (.nm 5) (.var 2) (.cmp .in_ (.lit (.int 0)) (.var 5))))
  .nil)))
def f__law_grid : List D → M D := fn 7 B__law_grid
def B__law_least : S :=
  (.seq (.ret (.ite (.or (.cmp .is_ (.var 0) (.lit .none)) (.cmp .is_ (.var 1) (.lit .none))) (.lit .none) (.b2 .min2 (.var 0) (.var 1))))
  .nil)
def f__law_least : List D → M D := fn 2 B__law_least
def B__law_back : S :=
  (.seq (.newL 2 (.list .nil))
  (.seq (.for_ (.nm 3) (.range1 (.b1 .len (.ix (.var 0) (.lit (.int 0))))) (.seq (.newL 4 (.list .nil))
  (.seq (.for_ (.nm 5) (.range1 (.b1 .len (.var 0))) (.seq (.ite (.cmp .isnot (.ix (.ix (.var 0) (.var 5)) (.var 3)) (.lit .none)) (.seq (.app 4 (.ite (.cmp .is_ (.ix (.var 1) (.var 5)) (.lit .none)) (.lit .none) (.bin .sub (.ix (.var 1) (.var 5)) (.ix (.ix (.var 0) (.var 5)) (.var 3)))))
  .nil) .nil)
  .nil))
  (.seq (.app 2 (.ite (.cmp .in_ (.lit .none) (.own 4)) (.lit .none) (.b1 .min (.own 4))))
  .nil))))
  (.seq (.ret (.b1 .tuple (.own 2)))
  .nil)))
def f__law_back : List D → M D := fn 6 B__law_back
def B_is_lag : S :=
  (.seq (.ret (.or (.cmp .is_ (.var 0) (.lit .none)) (.and (.call "is_int" 1 f_is_int (.cons (.var 0) .nil)) (.chain .le .le (.neg (.glob "MOST_LAG" (.int 1000))) (.var 0) (.glob "MOST_LAG" (.int 1000))))))
  .nil)
def f_is_lag : List D → M D := fn 1 B_is_lag
def B_latest_of : S :=
  (.seq (.asg (.nm 1) (.lit .none))
  (.seq (.for_ (.nm 2) (.var 0) (.seq (.asg (.nm 1) (.call "later" 2 f_later (.cons (.var 1) (.cons (.var 2) .nil))))
  .nil))
  (.seq (.ret (.var 1))
  .nil)))
def f_latest_of : List D → M D := fn 3 B_latest_of
def B_divided_of : S :=
  (.seq (.ret (.b1 .tuple (.comp (.call "least_gap" 2 f_least_gap (.cons (.var 2) (.cons (.var 1) .nil))) (.nm 2) (.call "turned_of" 1 f_turned_of (.cons (.var 0) .nil)) (.lit (.bool true)))))
  .nil)
def f_divided_of : List D → M D := fn 3 B_divided_of
def B__law_sum : S :=
  (.seq (.asg (.nm 2) (.lit .none))
  (.seq (.for_ (.nm 3) (.range1 (.b1 .len (.var 0))) (.seq (.ite (.and (.cmp .isnot (.ix (.var 0) (.var 3)) (.lit .none)) (.cmp .isnot (.ix (.var 1) (.var 3)) (.lit .none))) (.seq (.asg (.nm 2) (.call "_law_later" 2 f__law_later (.cons (.var 2) (.cons (.bin .add (.ix (.var 0) (.var 3)) (.ix (.var 1) (.var 3))) .nil))))
  .nil) .nil)
  .nil))
  (.seq (.ret (.var 2))
  .nil)))
def f__law_sum : List D → M D := fn 4 B__law_sum
def B__law_row : S :=
  (.seq (.newL 4 (.list .nil))
  (.seq (.for_ (.nm 5) (.range1 (.var 1)) (.seq (.app 4 (.ite (.cmp .eq (.callR "_law_taken" 1 f__law_taken 0 (.cons (.var 3) .nil)) (.lit (.int 0))) (.lit .none) (.bin .sub (.callR "_law_taken" 1 f__law_taken 0 (.cons (.bin .add (.bin .mul (.lit (.int 2)) (.var 2)) (.lit (.int 1))) .nil)) (.var 2))))
  .nil))
  (.seq (.ret (.b1 .tuple (.own 4)))
  .nil)))
def f__law_row : List D → M D := fnR 5 B__law_row
def B_is_row : S :=
  (.seq (.ret (.and (.isI (.var 0) .tup) (.and (.cmp .eq (.b1 .len (.var 0)) (.var 1)) (.b1 .all (.comp (.call "is_lag" 1 f_is_lag (.cons (.var 2) .nil)) (.nm 2) (.var 0) (.lit (.bool true)))))))
  .nil)
def f_is_row : List D → M D := fn 3 B_is_row
def B_sum_of : S :=
  (.seq (.ret (.call "latest_of" 1 f_latest_of (.cons (.comp (.call "added" 2 f_added (.cons (.var 2) (.cons (.var 3) .nil))) (.tup (.tcons (.nm 2) (.tcons (.nm 3) .tnil))) (.zip (.var 0) (.var 1)) (.lit (.bool true))) .nil)))
  .nil)
def f_sum_of : List D → M D := fn 4 B_sum_of
def B_lowered_by : S :=
  (.seq (.ret (.b1 .tuple (.comp (.call "min_of" 2 f_min_of (.cons (.var 3) (.cons (.var 4) .nil))) (.tup (.tcons (.nm 3) (.tcons (.nm 4) .tnil))) (.zip (.var 2) (.call "divided_of" 2 f_divided_of (.cons (.var 0) (.cons (.var 1) .nil)))) (.lit (.bool true)))))
  .nil)
def f_lowered_by : List D → M D := fn 5 B_lowered_by
def B__law_sums : S :=
  (.seq (.ret (.b1 .tuple (.comp (.call "_law_sum" 2 f__law_sum (.cons (.var 2) (.cons (.var 1) .nil))) (.nm 2) (.var 0) (.lit (.bool true)))))
  .nil)
def f__law_sums : List D → M D := fn 3 B__law_sums
def B__law_full : S :=
  (.seq (.newL 3 (.comp (.callR "_law_row" 3 f__law_row 0 (.cons (.var 2) (.cons (.lit (.int 3)) (.cons (.lit (.int 4)) .nil)))) (.nm 5) (.range1 (.var 1)) (.lit (.bool true))))
  (.seq (.asg (.nm 4) (.callR "_law_taken" 1 f__law_taken 0 (.cons (.var 1) .nil)))
  (.seq (.setIx 3 (.var 4) (.b1 .tuple (.comp (.ite (.cmp .is_ (.var 6) (.lit .none)) (.lit (.int 0)) (.var 6)) (.nm 6) (.ix (.own 3) (.var 4)) (.lit (.bool true)))))
  (.seq (.ret (.b1 .tuple (.own 3)))
  .nil))))
def f__law_full : List D → M D := fnR 6 B__law_full
def B_need_wide : S :=
  (.seq (.ite (.not (.call "is_row" 2 f_is_row (.cons (.var 0) (.cons (.var 1) .nil)))) (.seq .stuck
  .nil) .nil)
  .nil)
def f_need_wide : List D → M D := fn 2 B_need_wide
def B_need_table : S :=
  (.seq (.ite (.or (.not (.isI (.var 0) .tup)) (.or (.not (.chain .le .le (.lit (.int 1)) (.b1 .len (.var 0)) (.glob "MOST_HIGH" (.int 6)))) (.not (.isI (.ix (.var 0) (.lit (.int 0))) .tup)))) (.seq .stuck
  .nil) .nil)
  (.seq (.ite (.or (.not (.chain .le .le (.lit (.int 1)) (.b1 .len (.ix (.var 0) (.lit (.int 0)))) (.glob "MOST_WIDE" (.int 6)))) (.not (.b1 .all (.comp (.call "is_row" 2 f_is_row (.cons (.var 1) (.cons (.b1 .len (.ix (.var 0) (.lit (.int 0)))) .nil))) (.nm 1) (.var 0) (.lit (.bool true)))))) (.seq .stuck
  .nil) .nil)
  .nil))
def f_need_table : List D → M D := fn 2 B_need_table
def B_apply_of : S :=
  (.seq (.ret (.b1 .tuple (.comp (.call "sum_of" 2 f_sum_of (.cons (.var 2) (.cons (.var 1) .nil))) (.nm 2) (.var 0) (.lit (.bool true)))))
  .nil)
def f_apply_of : List D → M D := fn 3 B_apply_of
def B_held_back : S :=
  (.seq (.newL 2 (.b1 .list (.var 1)))
  (.seq (.for_ (.tup (.tcons (.nm 3) (.tcons (.nm 4) .tnil))) (.ix (.var 0) (.lit (.int 1))) (.seq (.asg (.nm 5) (.call "sum_of" 2 f_sum_of (.cons (.var 4) (.cons (.var 1) .nil))))
  (.seq (.for_ (.tup (.tcons (.nm 6) (.tcons (.nm 7) .tnil))) (.enum (.var 3)) (.seq (.ite (.and (.cmp .isnot (.var 7) (.lit .none)) (.cmp .isnot (.ix (.own 2) (.var 6)) (.lit .none))) (.seq (.ite (.cmp .is_ (.var 5) (.lit .none)) (.seq (.setIx 2 (.var 6) (.lit .none))
  .nil) (.seq (.ite (.cmp .lt (.bin .sub (.var 5) (.var 7)) (.ix (.own 2) (.var 6))) (.seq (.setIx 2 (.var 6) (.bin .sub (.var 5) (.var 7)))
  .nil) .nil)
  .nil))
  .nil) .nil)
  .nil))
  .nil)))
  (.seq (.ret (.b1 .tuple (.own 2)))
  .nil)))
def f_held_back : List D → M D := fn 8 B_held_back
def B_below_of : S :=
  (.seq (.asg (.nm 2) (.comp (.var 6) (.nm 6) (.var 1) (.cmp .isnot (.var 6) (.lit .none))))
  (.seq (.ite (.cmp .eq (.var 2) (.list .nil)) (.seq (.ret (.var 1))
  .nil) .nil)
  (.seq (.asg (.nm 3) (.bin .sub (.b1 .min (.var 2)) (.call "reach_of" 1 f_reach_of (.cons (.var 0) .nil))))
  (.seq (.asg (.nm 4) (.var 1))
  (.seq (.while_ (fun _ => 1000000) (.lit (.bool true)) (.seq (.asg (.nm 5) (.call "held_back" 2 f_held_back (.cons (.var 0) (.cons (.var 4) .nil))))
  (.seq (.asg (.nm 5) (.b1 .tuple (.comp (.ite (.and (.cmp .isnot (.var 6) (.lit .none)) (.cmp .lt (.var 6) (.var 3))) (.lit .none) (.var 6)) (.nm 6) (.var 5) (.lit (.bool true)))))
  (.seq (.ite (.cmp .eq (.var 5) (.var 4)) (.seq (.ret (.var 4))
  .nil) .nil)
  (.seq (.asg (.nm 4) (.var 5))
  .nil)))))
  .nil)))))
def f_below_of : List D → M D := fn 7 B_below_of
def B_need_meeting : S :=
  (.seq (.expr (.call "need_table" 1 f_need_table (.cons (.var 0) .nil)))
  (.seq (.expr (.call "need_table" 1 f_need_table (.cons (.var 1) .nil)))
  (.seq (.ite (.or (.cmp .ne (.b1 .len (.var 0)) (.b1 .len (.var 1))) (.cmp .gt (.bin .add (.b1 .len (.ix (.var 0) (.lit (.int 0)))) (.b1 .len (.ix (.var 1) (.lit (.int 0))))) (.lit (.int 6)))) (.seq .stuck
  .nil) .nil)
  (.seq (.expr (.call "need_wide" 2 f_need_wide (.cons (.var 2) (.cons (.b1 .len (.ix (.var 0) (.lit (.int 0)))) .nil))))
  .nil))))
def f_need_meeting : List D → M D := fn 3 B_need_meeting
def B_turns : S :=
  (.seq (.expr (.call "need_meeting" 3 f_need_meeting (.cons (.var 0) (.cons (.var 1) (.cons (.var 2) .nil)))))
  (.seq (.expr (.call "need_full" 1 f_need_full (.cons (.var 0) .nil)))
  (.seq (.expr (.call "need_full" 1 f_need_full (.cons (.var 1) .nil)))
  (.seq (.asg (.nm 3) (.comp (.var 8) (.nm 8) (.var 2) (.cmp .isnot (.var 8) (.lit .none))))
  (.seq (.ite (.cmp .eq (.var 3) (.list .nil)) (.seq (.ret (.list (.cons (.var 2) .nil)))
  .nil) .nil)
  (.seq (.asg (.nm 4) (.bin .sub (.b1 .min (.var 3)) (.bin .mul (.bin .mul (.lit (.int 2)) (.bin .add (.b1 .len (.ix (.var 0) (.lit (.int 0)))) (.b1 .len (.ix (.var 1) (.lit (.int 0)))))) (.call "farthest" 1 f_farthest (.cons (.tup (.star (.var 0) (.star (.var 1) .nil))) .nil)))))
  (.seq (.newL 5 (.list (.cons (.var 2) .nil)))
  (.seq (.while_ (fun _ => 1000000) (.lit (.bool true)) (.seq (.asg (.nm 6) (.call "apply_of" 2 f_apply_of (.cons (.var 1) (.cons (.call "divided_of" 2 f_divided_of (.cons (.var 1) (.cons (.call "apply_of" 2 f_apply_of (.cons (.var 0) (.cons (.ix (.own 5) (.neg (.lit (.int 1)))) .nil))) .nil))) .nil))))
  (.seq (.asg (.nm 7) (.call "lowered_by" 3 f_lowered_by (.cons (.var 0) (.cons (.var 6) (.cons (.ix (.own 5) (.neg (.lit (.int 1)))) .nil)))))
  (.seq (.asg (.nm 7) (.b1 .tuple (.comp (.ite (.and (.cmp .isnot (.var 8) (.lit .none)) (.cmp .lt (.var 8) (.var 4))) (.lit .none) (.var 8)) (.nm 8) (.var 7) (.lit (.bool true)))))
  (.seq (.ite (.cmp .eq (.var 7) (.ix (.own 5) (.neg (.lit (.int 1))))) (.seq (.frz 5)
  (.seq (.ret (.var 5))
  .nil)) .nil)
  (.seq (.app 5 (.var 7))
  .nil))))))
  .nil))))))))
def f_turns : List D → M D := fn 9 B_turns
def B_meeting_below : S :=
  (.seq (.expr (.call "need_meeting" 3 f_need_meeting (.cons (.var 0) (.cons (.var 1) (.cons (.var 2) .nil)))))
  (.seq (.expr (.call "need_wide" 2 f_need_wide (.cons (.var 3) (.cons (.b1 .len (.ix (.var 1) (.lit (.int 0)))) .nil))))
  (.seq (.expr (.call "need_full" 1 f_need_full (.cons (.var 0) .nil)))
  (.seq (.expr (.call "need_full" 1 f_need_full (.cons (.var 1) .nil)))
  (.seq (.asg (.nm 4) (.call "below_of" 2 f_below_of (.cons (.call "meeting_of" 2 f_meeting_of (.cons (.var 0) (.cons (.var 1) .nil))) (.cons (.tup (.star (.var 2) (.star (.var 3) .nil))) .nil))))
  (.seq (.ret (.tup (.cons (.slice (.var 4) .nil (.b1 .len (.ix (.var 0) (.lit (.int 0))))) (.cons (.slice (.var 4) (.b1 .len (.ix (.var 0) (.lit (.int 0)))) .nil) .nil))))
  .nil))))))
def f_meeting_below : List D → M D := fn 5 B_meeting_below
def B_meeting : S :=
  (.seq (.asg (.nm 3) (.ix (.call "turns" 3 f_turns (.cons (.var 0) (.cons (.var 1) (.cons (.var 2) .nil)))) (.neg (.lit (.int 1)))))
  (.seq (.ret (.tup (.cons (.var 3) (.cons (.call "divided_of" 2 f_divided_of (.cons (.var 1) (.cons (.call "apply_of" 2 f_apply_of (.cons (.var 0) (.cons (.var 3) .nil))) .nil))) .nil))))
  .nil))
def f_meeting : List D → M D := fn 4 B_meeting
def B_law : S :=
  (.seq (.asg (.tup (.tcons (.nm 2) (.tcons (.nm 3) (.tcons (.nm 4) .tnil)))) (.tup (.cons (.bin .add (.lit (.int 1)) (.callR "_law_taken" 1 f__law_taken 1 (.cons (.lit (.int 3)) .nil))) (.cons (.bin .add (.lit (.int 1)) (.callR "_law_taken" 1 f__law_taken 1 (.cons (.lit (.int 3)) .nil))) (.cons (.bin .add (.lit (.int 1)) (.callR "_law_taken" 1 f__law_taken 1 (.cons (.lit (.int 3)) .nil))) .nil)))))
  (.seq (.par 5 6 false false (.callR "_law_full" 2 f__law_full 1 (.cons (.var 2) (.cons (.var 3) .nil))) (.callR "_law_full" 2 f__law_full 1 (.cons (.var 2) (.cons (.var 4) .nil))))
  (.seq (.asg (.nm 7) (.callR "_law_row" 3 f__law_row 1 (.cons (.var 3) (.cons (.lit (.int 4)) (.cons (.lit (.int 6)) .nil)))))
  (.seq (.par 8 9 false false (.call "turns" 3 f_turns (.cons (.var 5) (.cons (.var 6) (.cons (.var 7) .nil)))) (.lit (.int 0)))
  (.seq (.for_ (.nm 10) (.bin .add (.var 5) (.var 6)) (.seq (.asg (.nm 9) (.b1 .max (.bin .add (.list (.cons (.var 9) .nil)) (.comp (.b2 .max2 (.var 23) (.bin .sub (.lit (.int 0)) (.var 23))) (.nm 23) (.var 10) (.cmp .isnot (.var 23) (.lit .none))))))
  .nil))
  (.seq (.asg (.nm 11) (.bin .sub (.b1 .min (.bin .add (.list (.cons (.lit (.int 99)) .nil)) (.comp (.var 23) (.nm 23) (.var 7) (.cmp .isnot (.var 23) (.lit .none))))) (.bin .mul (.bin .mul (.lit (.int 2)) (.bin .add (.var 3) (.var 4))) (.var 9))))
  (.seq (.ite (.or (.cmp .ne (.ix (.var 8) (.lit (.int 0))) (.var 7)) (.cmp .ne (.comp (.var 12) (.nm 12) (.range1 (.bin .sub (.b1 .len (.var 8)) (.lit (.int 1)))) (.cmp .eq (.ix (.var 8) (.var 12)) (.ix (.var 8) (.bin .add (.var 12) (.lit (.int 1)))))) (.list .nil))) (.seq (.ret (.lit (.bool false)))
  .nil) .nil)
  (.seq (.for_ (.nm 12) (.range1 (.b1 .len (.var 8))) (.seq (.asg (.nm 13) (.call "_law_sums" 2 f__law_sums (.cons (.var 6) (.cons (.call "_law_back" 2 f__law_back (.cons (.var 6) (.cons (.call "_law_sums" 2 f__law_sums (.cons (.var 5) (.cons (.ix (.var 8) (.var 12)) .nil))) .nil))) .nil))))
  (.seq (.asg (.nm 14) (.call "_law_back" 2 f__law_back (.cons (.var 5) (.cons (.var 13) .nil))))
  (.seq (.asg (.nm 15) (.b1 .tuple (.comp (.call "_law_least" 2 f__law_least (.cons (.ix (.ix (.var 8) (.var 12)) (.var 27)) (.cons (.ix (.var 14) (.var 27)) .nil))) (.nm 27) (.range1 (.var 3)) (.lit (.bool true)))))
  (.seq (.asg (.nm 16) (.ite (.cmp .lt (.bin .add (.var 12) (.lit (.int 1))) (.b1 .len (.var 8))) (.ix (.var 8) (.bin .add (.var 12) (.lit (.int 1)))) (.ix (.var 8) (.var 12))))
  (.seq (.ite (.cmp .ne (.var 16) (.b1 .tuple (.comp (.ite (.and (.cmp .isnot (.var 23) (.lit .none)) (.cmp .ge (.var 23) (.var 11))) (.var 23) (.lit .none)) (.nm 23) (.var 15) (.lit (.bool true))))) (.seq (.ret (.lit (.bool false)))
  .nil) .nil)
  .nil))))))
  (.seq (.asg (.tup (.tcons (.nm 17) (.tcons (.nm 18) .tnil))) (.call "meeting" 3 f_meeting (.cons (.var 5) (.cons (.var 6) (.cons (.var 7) .nil)))))
  (.seq (.ite (.or (.cmp .ne (.var 17) (.ix (.var 8) (.neg (.lit (.int 1))))) (.cmp .ne (.call "_law_sums" 2 f__law_sums (.cons (.var 5) (.cons (.var 17) .nil))) (.call "_law_sums" 2 f__law_sums (.cons (.var 6) (.cons (.var 18) .nil))))) (.seq (.ret (.lit (.bool false)))
  .nil) .nil)
  (.seq (.ite (.cmp .ne (.var 18) (.call "_law_back" 2 f__law_back (.cons (.var 6) (.cons (.call "_law_sums" 2 f__law_sums (.cons (.var 5) (.cons (.var 17) .nil))) .nil)))) (.seq (.ret (.lit (.bool false)))
  .nil) .nil)
  (.seq (.asg (.nm 19) (.callR "_law_row" 3 f__law_row 1 (.cons (.var 4) (.cons (.lit (.int 6)) (.cons (.lit (.int 6)) .nil)))))
  (.seq (.asg (.tup (.tcons (.nm 20) (.tcons (.nm 21) .tnil))) (.call "meeting_below" 4 f_meeting_below (.cons (.var 5) (.cons (.var 6) (.cons (.var 7) (.cons (.var 19) .nil))))))
  (.seq (.ite (.cmp .ne (.call "_law_sums" 2 f__law_sums (.cons (.var 5) (.cons (.var 20) .nil))) (.call "_law_sums" 2 f__law_sums (.cons (.var 6) (.cons (.var 21) .nil)))) (.seq (.ret (.lit (.bool false)))
  .nil) .nil)
  (.seq (.ite (.cmp .ne (.comp (.lit (.int 1)) (.nm 12) (.range1 (.var 3)) (.not (.call "_law_by" 2 f__law_by (.cons (.ix (.var 20) (.var 12)) (.cons (.ix (.var 17) (.var 12)) .nil))))) (.list .nil)) (.seq (.ret (.lit (.bool false)))
  .nil) .nil)
  (.seq (.ite (.cmp .ne (.comp (.lit (.int 1)) (.nm 12) (.range1 (.var 4)) (.not (.call "_law_by" 2 f__law_by (.cons (.ix (.var 21) (.var 12)) (.cons (.ix (.var 19) (.var 12)) .nil))))) (.list .nil)) (.seq (.ret (.lit (.bool false)))
  .nil) .nil)
  (.seq (.for_ (.nm 22) (.call "_law_grid" 2 f__law_grid (.cons (.var 3) (.cons (.ite (.cmp .lt (.var 3) (.lit (.int 3))) (.lit (.int 4)) (.lit (.int 3))) .nil))) (.seq (.for_ (.nm 23) (.list (.cons (.neg (.lit (.int 2))) (.cons (.lit (.int 1)) (.cons (.lit (.int 4)) .nil)))) (.seq (.asg (.nm 24) (.call "_law_shift" 2 f__law_shift (.cons (.var 22) (.cons (.var 23) .nil))))
  (.seq (.asg (.nm 13) (.call "_law_sums" 2 f__law_sums (.cons (.var 5) (.cons (.var 24) .nil))))
  (.seq (.asg (.nm 25) (.call "_law_back" 2 f__law_back (.cons (.var 6) (.cons (.var 13) .nil))))
  (.seq (.asg (.nm 26) (.cmp .eq (.comp (.lit (.int 1)) (.nm 12) (.range1 (.var 3)) (.not (.call "_law_by" 2 f__law_by (.cons (.ix (.var 24) (.var 12)) (.cons (.ix (.var 7) (.var 12)) .nil))))) (.list .nil)))
  (.seq (.ite (.and (.var 26) (.cmp .eq (.call "_law_sums" 2 f__law_sums (.cons (.var 6) (.cons (.var 25) .nil))) (.var 13))) (.seq (.ite (.cmp .ne (.comp (.lit (.int 1)) (.nm 12) (.range1 (.var 3)) (.not (.call "_law_by" 2 f__law_by (.cons (.ix (.var 24) (.var 12)) (.cons (.ix (.var 17) (.var 12)) .nil))))) (.list .nil)) (.seq (.ret (.lit (.bool false)))
  .nil) .nil)
  .nil) .nil)
  .nil))))))
  .nil))
  (.seq (.ret (.cmp .eq (.call "meeting_below" 4 f_meeting_below (.cons (.var 5) (.cons (.var 6) (.cons (.var 17) (.cons (.var 18) .nil))))) (.tup (.cons (.var 17) (.cons (.var 18) .nil)))))
  .nil))))))))))))))))))

section
variable {P : Program} {wd : World} {K : PySem.W.Frag} {mg : Str → Option Value} {base : Heap}
structure Tops (K : PySem.W.Frag) (mg : Str → Option Value) : Prop where
  bn : ∀ n ∈ bnames, mg (Str.ofString n) = none
  g_MOST_HIGH : ∃ v u, scalarV (.int 6) = some v ∧ mg "MOST_HIGH" = some u ∧ RelV v u
  g_MOST_LAG : ∃ v u, scalarV (.int 1000) = some v ∧ mg "MOST_LAG" = some u ∧ RelV v u
  g_MOST_WIDE : ∃ v u, scalarV (.int 6) = some v ∧ mg "MOST_WIDE" = some u ∧ RelV v u
  t_is_int : TopFn K mg "is_int" (topS 8) ["value"]
  t_later : TopFn K mg "later" (topS 12) ["one", "other"]
  t_added : TopFn K mg "added" (topS 13) ["one", "other"]
  t_need_full : TopFn K mg "need_full" (topS 19) ["table"]
  t_turned_of : TopFn K mg "turned_of" (topS 21) ["table"]
  t_least_gap : TopFn K mg "least_gap" (topS 22) ["column", "goal"]
  t_reach_of : TopFn K mg "reach_of" (topS 26) ["task"]
  t_meeting_of : TopFn K mg "meeting_of" (topS 30) ["one", "other"]
  t_min_of : TopFn K mg "min_of" (topS 32) ["one", "other"]
  t_farthest : TopFn K mg "farthest" (topS 33) ["rows"]
  t__law_taken : TopFn K mg "_law_taken" (topS 38) ["row", "many"]
  t__law_later : TopFn K mg "_law_later" (topS 39) ["one", "other"]
  t__law_by : TopFn K mg "_law_by" (topS 41) ["one", "other"]
  t__law_shift : TopFn K mg "_law_shift" (topS 43) ["given", "lag"]
  t__law_grid : TopFn K mg "_law_grid" (topS 44) ["wide", "size"]
  t__law_least : TopFn K mg "_law_least" (topS 46) ["one", "other"]
  t__law_back : TopFn K mg "_law_back" (topS 47) ["table", "goal"]
  t_is_lag : TopFn K mg "is_lag" (topS 9) ["value"]
  t_latest_of : TopFn K mg "latest_of" (topS 14) ["some"]
  t_divided_of : TopFn K mg "divided_of" (topS 23) ["table", "goal"]
  t__law_sum : TopFn K mg "_law_sum" (topS 40) ["given", "times"]
  t__law_row : TopFn K mg "_law_row" (topS 42) ["row", "wide", "size", "never"]
  t_is_row : TopFn K mg "is_row" (topS 10) ["value", "wide"]
  t_sum_of : TopFn K mg "sum_of" (topS 15) ["row", "times"]
  t_lowered_by : TopFn K mg "lowered_by" (topS 31) ["table", "other", "times"]
  t__law_sums : TopFn K mg "_law_sums" (topS 45) ["table", "times"]
  t__law_full : TopFn K mg "_law_full" (topS 48) ["row", "high", "wide"]
  t_need_wide : TopFn K mg "need_wide" (topS 11) ["value", "wide"]
  t_need_table : TopFn K mg "need_table" (topS 18) ["value"]
  t_apply_of : TopFn K mg "apply_of" (topS 20) ["table", "times"]
  t_held_back : TopFn K mg "held_back" (topS 25) ["task", "times"]
  t_below_of : TopFn K mg "below_of" (topS 27) ["task", "times"]
  t_need_meeting : TopFn K mg "need_meeting" (topS 29) ["one", "other", "times"]
  t_turns : TopFn K mg "turns" (topS 34) ["one", "other", "times"]
  t_meeting_below : TopFn K mg "meeting_below" (topS 36) ["one", "other", "times", "more"]
  t_meeting : TopFn K mg "meeting" (topS 35) ["one", "other", "times"]
theorem sc_is_int : FnScope ["value"] ["value"] (defScope (topS 8)) := C8.fnScope_by (by decide +kernel)
theorem ck_is_int : chkS B_is_int ⟨["value"], defScope (topS 8), fun _ => true⟩ (.l (defBody (topS 8))) = true := by with_unfolding_all rfl
theorem sc_later : FnScope ["one", "other"] ["one", "other"] (defScope (topS 12)) := C8.fnScope_by (by decide +kernel)
theorem ck_later : chkS B_later ⟨["one", "other"], defScope (topS 12), fun _ => true⟩ (.l (defBody (topS 12))) = true := by with_unfolding_all rfl
theorem sc_added : FnScope ["one", "other"] ["one", "other"] (defScope (topS 13)) := C8.fnScope_by (by decide +kernel)
theorem ck_added : chkS B_added ⟨["one", "other"], defScope (topS 13), fun _ => true⟩ (.l (defBody (topS 13))) = true := by with_unfolding_all rfl
theorem sc_need_full : FnScope ["table", "at", "row"] ["table"] (defScope (topS 19)) := C8.fnScope_by (by decide +kernel)
theorem ck_need_full : chkS B_need_full ⟨["table", "at", "row"], defScope (topS 19), fun _ => true⟩ (.l (defBody (topS 19))) = true := by with_unfolding_all rfl
theorem sc_turned_of : FnScope ["table", "at", "row"] ["table"] (defScope (topS 21)) := C8.fnScope_by (by decide +kernel)
theorem ck_turned_of : chkS B_turned_of ⟨["table", "at", "row"], defScope (topS 21), fun _ => true⟩ (.l (defBody (topS 21))) = true := by with_unfolding_all rfl
theorem sc_least_gap : FnScope ["column", "goal", "found", "lag", "one"] ["column", "goal"] (defScope (topS 22)) := C8.fnScope_by (by decide +kernel)
theorem ck_least_gap : chkS B_least_gap ⟨["column", "goal", "found", "lag", "one"], defScope (topS 22), fun _ => true⟩ (.l (defBody (topS 22))) = true := by with_unfolding_all rfl
theorem sc_reach_of : FnScope ["task", "far", "a", "b", "some", "one"] ["task"] (defScope (topS 26)) := C8.fnScope_by (by decide +kernel)
theorem ck_reach_of : chkS B_reach_of ⟨["task", "far", "a", "b", "some", "one"], defScope (topS 26), fun _ => true⟩ (.l (defBody (topS 26))) = true := by with_unfolding_all rfl
theorem sc_meeting_of : FnScope ["one", "other", "pairs", "a", "b", "left", "right"] ["one", "other"] (defScope (topS 30)) := C8.fnScope_by (by decide +kernel)
theorem ck_meeting_of : chkS B_meeting_of ⟨["one", "other", "pairs", "a", "b", "left", "right"], defScope (topS 30), fun _ => true⟩ (.l (defBody (topS 30))) = true := by with_unfolding_all rfl
theorem sc_min_of : FnScope ["one", "other"] ["one", "other"] (defScope (topS 32)) := C8.fnScope_by (by decide +kernel)
theorem ck_min_of : chkS B_min_of ⟨["one", "other"], defScope (topS 32), fun _ => true⟩ (.l (defBody (topS 32))) = true := by with_unfolding_all rfl
theorem sc_farthest : FnScope ["rows", "row", "lag"] ["rows"] (defScope (topS 33)) := C8.fnScope_by (by decide +kernel)
theorem ck_farthest : chkS B_farthest ⟨["rows", "row", "lag"], defScope (topS 33), fun _ => true⟩ (.l (defBody (topS 33))) = true := by with_unfolding_all rfl
theorem sc__law_taken : FnScope ["row", "many", "found", "cell"] ["row", "many"] (defScope (topS 38)) := C8.fnScope_by (by decide +kernel)
theorem ck__law_taken : chkS B__law_taken ⟨["row", "many", "found", "cell"], defScope (topS 38), fun _ => true⟩ (.l (defBody (topS 38))) = true := by with_unfolding_all rfl
theorem sc__law_later : FnScope ["one", "other"] ["one", "other"] (defScope (topS 39)) := C8.fnScope_by (by decide +kernel)
theorem ck__law_later : chkS B__law_later ⟨["one", "other"], defScope (topS 39), fun _ => true⟩ (.l (defBody (topS 39))) = true := by with_unfolding_all rfl
theorem sc__law_by : FnScope ["one", "other"] ["one", "other"] (defScope (topS 41)) := C8.fnScope_by (by decide +kernel)
theorem ck__law_by : chkS B__law_by ⟨["one", "other"], defScope (topS 41), fun _ => true⟩ (.l (defBody (topS 41))) = true := by with_unfolding_all rfl
theorem sc__law_shift : FnScope ["given", "lag", "one"] ["given", "lag"] (defScope (topS 43)) := C8.fnScope_by (by decide +kernel)
theorem ck__law_shift : chkS B__law_shift ⟨["given", "lag", "one"], defScope (topS 43), fun _ => true⟩ (.l (defBody (topS 43))) = true := by with_unfolding_all rfl
theorem sc__law_grid : FnScope ["wide", "size", "found", "turn", "later_v", "told", "one"] ["wide", "size"] (defScope (topS 44)) := C8.fnScope_by (by decide +kernel)
theorem ck__law_grid : chkS B__law_grid ⟨["wide", "size", "found", "turn", "later_v", "told", "one"], defScope (topS 44), fun _ => true⟩ (.l (defBody (topS 44))) = true := by with_unfolding_all rfl
theorem sc__law_least : FnScope ["one", "other"] ["one", "other"] (defScope (topS 46)) := C8.fnScope_by (by decide +kernel)
theorem ck__law_least : chkS B__law_least ⟨["one", "other"], defScope (topS 46), fun _ => true⟩ (.l (defBody (topS 46))) = true := by with_unfolding_all rfl
theorem sc__law_back : FnScope ["table", "goal", "found", "at", "lags", "spot"] ["table", "goal"] (defScope (topS 47)) := C8.fnScope_by (by decide +kernel)
theorem ck__law_back : chkS B__law_back ⟨["table", "goal", "found", "at", "lags", "spot"], defScope (topS 47), fun _ => true⟩ (.l (defBody (topS 47))) = true := by with_unfolding_all rfl
theorem sc_is_lag : FnScope ["value"] ["value"] (defScope (topS 9)) := C8.fnScope_by (by decide +kernel)
theorem ck_is_lag : chkS B_is_lag ⟨["value"], defScope (topS 9), fun _ => true⟩ (.l (defBody (topS 9))) = true := by with_unfolding_all rfl
theorem sc_latest_of : FnScope ["some", "found", "one"] ["some"] (defScope (topS 14)) := C8.fnScope_by (by decide +kernel)
theorem ck_latest_of : chkS B_latest_of ⟨["some", "found", "one"], defScope (topS 14), fun _ => true⟩ (.l (defBody (topS 14))) = true := by with_unfolding_all rfl
theorem sc_divided_of : FnScope ["table", "goal", "column"] ["table", "goal"] (defScope (topS 23)) := C8.fnScope_by (by decide +kernel)
theorem ck_divided_of : chkS B_divided_of ⟨["table", "goal", "column"], defScope (topS 23), fun _ => true⟩ (.l (defBody (topS 23))) = true := by with_unfolding_all rfl
theorem sc__law_sum : FnScope ["given", "times", "found", "at"] ["given", "times"] (defScope (topS 40)) := C8.fnScope_by (by decide +kernel)
theorem ck__law_sum : chkS B__law_sum ⟨["given", "times", "found", "at"], defScope (topS 40), fun _ => true⟩ (.l (defBody (topS 40))) = true := by with_unfolding_all rfl
theorem sc__law_row : FnScope ["row", "wide", "size", "never", "found", "at"] ["row", "wide", "size", "never"] (defScope (topS 42)) := C8.fnScope_by (by decide +kernel)
theorem ck__law_row : chkS B__law_row ⟨["row", "wide", "size", "never", "found", "at"], defScope (topS 42), fun _ => true⟩ (.l (defBody (topS 42))) = true := by with_unfolding_all rfl
theorem sc_is_row : FnScope ["value", "wide", "one"] ["value", "wide"] (defScope (topS 10)) := C8.fnScope_by (by decide +kernel)
theorem ck_is_row : chkS B_is_row ⟨["value", "wide", "one"], defScope (topS 10), fun _ => true⟩ (.l (defBody (topS 10))) = true := by with_unfolding_all rfl
theorem sc_sum_of : FnScope ["row", "times", "one", "other"] ["row", "times"] (defScope (topS 15)) := C8.fnScope_by (by decide +kernel)
theorem ck_sum_of : chkS B_sum_of ⟨["row", "times", "one", "other"], defScope (topS 15), fun _ => true⟩ (.l (defBody (topS 15))) = true := by with_unfolding_all rfl
theorem sc_lowered_by : FnScope ["table", "other", "times", "a", "b"] ["table", "other", "times"] (defScope (topS 31)) := C8.fnScope_by (by decide +kernel)
theorem ck_lowered_by : chkS B_lowered_by ⟨["table", "other", "times", "a", "b"], defScope (topS 31), fun _ => true⟩ (.l (defBody (topS 31))) = true := by with_unfolding_all rfl
theorem sc__law_sums : FnScope ["table", "times", "line"] ["table", "times"] (defScope (topS 45)) := C8.fnScope_by (by decide +kernel)
theorem ck__law_sums : chkS B__law_sums ⟨["table", "times", "line"], defScope (topS 45), fun _ => true⟩ (.l (defBody (topS 45))) = true := by with_unfolding_all rfl
theorem sc__law_full : FnScope ["row", "high", "wide", "table", "spot", "turn", "one"] ["row", "high", "wide"] (defScope (topS 48)) := C8.fnScope_by (by decide +kernel)
theorem ck__law_full : chkS B__law_full ⟨["row", "high", "wide", "table", "spot", "turn", "one"], defScope (topS 48), fun _ => true⟩ (.l (defBody (topS 48))) = true := by with_unfolding_all rfl
theorem sc_need_wide : FnScope ["value", "wide"] ["value", "wide"] (defScope (topS 11)) := C8.fnScope_by (by decide +kernel)
theorem ck_need_wide : chkS B_need_wide ⟨["value", "wide"], defScope (topS 11), fun _ => true⟩ (.l (defBody (topS 11))) = true := by with_unfolding_all rfl
theorem sc_need_table : FnScope ["value", "row"] ["value"] (defScope (topS 18)) := C8.fnScope_by (by decide +kernel)
theorem ck_need_table : chkS B_need_table ⟨["value", "row"], defScope (topS 18), fun _ => true⟩ (.l (defBody (topS 18))) = true := by with_unfolding_all rfl
theorem sc_apply_of : FnScope ["table", "times", "row"] ["table", "times"] (defScope (topS 20)) := C8.fnScope_by (by decide +kernel)
theorem ck_apply_of : chkS B_apply_of ⟨["table", "times", "row"], defScope (topS 20), fun _ => true⟩ (.l (defBody (topS 20))) = true := by with_unfolding_all rfl
theorem sc_held_back : FnScope ["task", "times", "found", "a", "b", "right", "at", "lag"] ["task", "times"] (defScope (topS 25)) := C8.fnScope_by (by decide +kernel)
theorem ck_held_back : chkS B_held_back ⟨["task", "times", "found", "a", "b", "right", "at", "lag"], defScope (topS 25), fun _ => true⟩ (.l (defBody (topS 25))) = true := by with_unfolding_all rfl
theorem sc_below_of : FnScope ["task", "times", "some", "floor", "now", "told", "one"] ["task", "times"] (defScope (topS 27)) := C8.fnScope_by (by decide +kernel)
theorem ck_below_of : chkS B_below_of ⟨["task", "times", "some", "floor", "now", "told", "one"], defScope (topS 27), fun _ => true⟩ (.l (defBody (topS 27))) = true := by with_unfolding_all rfl
theorem sc_need_meeting : FnScope ["one", "other", "times"] ["one", "other", "times"] (defScope (topS 29)) := C8.fnScope_by (by decide +kernel)
theorem ck_need_meeting : chkS B_need_meeting ⟨["one", "other", "times"], defScope (topS 29), fun _ => true⟩ (.l (defBody (topS 29))) = true := by with_unfolding_all rfl
theorem sc_turns : FnScope ["one", "other", "times", "some", "floor", "found", "goal", "told", "lag"] ["one", "other", "times"] (defScope (topS 34)) := C8.fnScope_by (by decide +kernel)
theorem ck_turns : chkS B_turns ⟨["one", "other", "times", "some", "floor", "found", "goal", "told", "lag"], defScope (topS 34), fun _ => true⟩ (.l (defBody (topS 34))) = true := by with_unfolding_all rfl
theorem sc_meeting_below : FnScope ["one", "other", "times", "more", "told"] ["one", "other", "times", "more"] (defScope (topS 36)) := C8.fnScope_by (by decide +kernel)
theorem ck_meeting_below : chkS B_meeting_below ⟨["one", "other", "times", "more", "told"], defScope (topS 36), fun _ => true⟩ (.l (defBody (topS 36))) = true := by with_unfolding_all rfl
theorem sc_meeting : FnScope ["one", "other", "times", "last"] ["one", "other", "times"] (defScope (topS 35)) := C8.fnScope_by (by decide +kernel)
theorem ck_meeting : chkS B_meeting ⟨["one", "other", "times", "last"], defScope (topS 35), fun _ => true⟩ (.l (defBody (topS 35))) = true := by with_unfolding_all rfl
theorem ok_is_int (T : Tops K mg) : CallOk P wd K mg base 1 "is_int" (spD K 1 f_is_int) :=
  callD T.t_is_int sc_is_int rfl T.bn ck_is_int (fun m hm => absurd hm (List.not_mem_nil))
theorem ok_later (T : Tops K mg) : CallOk P wd K mg base 1 "later" (spD K 2 f_later) :=
  callD T.t_later sc_later rfl T.bn ck_later (fun m hm => absurd hm (List.not_mem_nil))
theorem ok_added (T : Tops K mg) : CallOk P wd K mg base 1 "added" (spD K 2 f_added) :=
  callD T.t_added sc_added rfl T.bn ck_added (fun m hm => absurd hm (List.not_mem_nil))
theorem ok_need_full (T : Tops K mg) : CallOk P wd K mg base 1 "need_full" (spD K 1 f_need_full) :=
  callD T.t_need_full sc_need_full rfl T.bn ck_need_full (fun m hm => absurd hm (List.not_mem_nil))
theorem ok_turned_of (T : Tops K mg) : CallOk P wd K mg base 1 "turned_of" (spD K 1 f_turned_of) :=
  callD T.t_turned_of sc_turned_of rfl T.bn ck_turned_of (fun m hm => absurd hm (List.not_mem_nil))
theorem ok_least_gap (T : Tops K mg) : CallOk P wd K mg base 1 "least_gap" (spD K 2 f_least_gap) :=
  callD T.t_least_gap sc_least_gap rfl T.bn ck_least_gap (fun m hm => absurd hm (List.not_mem_nil))
theorem ok_reach_of (T : Tops K mg) : CallOk P wd K mg base 1 "reach_of" (spD K 1 f_reach_of) :=
  callD T.t_reach_of sc_reach_of rfl T.bn ck_reach_of (fun m hm => absurd hm (List.not_mem_nil))
theorem ok_meeting_of (T : Tops K mg) : CallOk P wd K mg base 1 "meeting_of" (spD K 2 f_meeting_of) :=
  callD T.t_meeting_of sc_meeting_of rfl T.bn ck_meeting_of (fun m hm => absurd hm (List.not_mem_nil))
theorem ok_min_of (T : Tops K mg) : CallOk P wd K mg base 1 "min_of" (spD K 2 f_min_of) :=
  callD T.t_min_of sc_min_of rfl T.bn ck_min_of (fun m hm => absurd hm (List.not_mem_nil))
theorem ok_farthest (T : Tops K mg) : CallOk P wd K mg base 1 "farthest" (spD K 1 f_farthest) :=
  callD T.t_farthest sc_farthest rfl T.bn ck_farthest (fun m hm => absurd hm (List.not_mem_nil))
theorem ok__law_taken (T : Tops K mg) : CallOk P wd K mg base 1 "_law_taken" (spR K 1 f__law_taken) :=
  callDR T.t__law_taken sc__law_taken rfl T.bn ck__law_taken (fun m hm => absurd hm (List.not_mem_nil))
theorem ok__law_later (T : Tops K mg) : CallOk P wd K mg base 1 "_law_later" (spD K 2 f__law_later) :=
  callD T.t__law_later sc__law_later rfl T.bn ck__law_later (fun m hm => absurd hm (List.not_mem_nil))
theorem ok__law_by (T : Tops K mg) : CallOk P wd K mg base 1 "_law_by" (spD K 2 f__law_by) :=
  callD T.t__law_by sc__law_by rfl T.bn ck__law_by (fun m hm => absurd hm (List.not_mem_nil))
theorem ok__law_shift (T : Tops K mg) : CallOk P wd K mg base 1 "_law_shift" (spD K 2 f__law_shift) :=
  callD T.t__law_shift sc__law_shift rfl T.bn ck__law_shift (fun m hm => absurd hm (List.not_mem_nil))
theorem ok__law_grid (T : Tops K mg) : CallOk P wd K mg base 1 "_law_grid" (spD K 2 f__law_grid) :=
  callD T.t__law_grid sc__law_grid rfl T.bn ck__law_grid (fun m hm => absurd hm (List.not_mem_nil))
theorem ok__law_least (T : Tops K mg) : CallOk P wd K mg base 1 "_law_least" (spD K 2 f__law_least) :=
  callD T.t__law_least sc__law_least rfl T.bn ck__law_least (fun m hm => absurd hm (List.not_mem_nil))
theorem ok__law_back (T : Tops K mg) : CallOk P wd K mg base 1 "_law_back" (spD K 2 f__law_back) :=
  callD T.t__law_back sc__law_back rfl T.bn ck__law_back (fun m hm => absurd hm (List.not_mem_nil))
theorem ok_is_lag (T : Tops K mg) : CallOk P wd K mg base 2 "is_lag" (spD K 1 f_is_lag) :=
  callD T.t_is_lag sc_is_lag rfl T.bn ck_is_lag (need_by (Γ := [Need.fn "is_int" 1 f_is_int, Need.gl "MOST_LAG" (.int 1000)]) [0, 1, 1] rfl (fun m hm => by
    simp only [List.mem_cons, List.not_mem_nil, or_false] at hm
    rcases hm with rfl | rfl
    · exact (ok_is_int T).mono (by omega)
    · exact T.g_MOST_LAG))
theorem ok_latest_of (T : Tops K mg) : CallOk P wd K mg base 2 "latest_of" (spD K 1 f_latest_of) :=
  callD T.t_latest_of sc_latest_of rfl T.bn ck_latest_of (need_by (Γ := [Need.fn "later" 2 f_later]) [0] rfl (fun m hm => by
    simp only [List.mem_cons, List.not_mem_nil, or_false] at hm
    rcases hm with rfl
    · exact (ok_later T).mono (by omega)))
theorem ok_divided_of (T : Tops K mg) : CallOk P wd K mg base 2 "divided_of" (spD K 2 f_divided_of) :=
  callD T.t_divided_of sc_divided_of rfl T.bn ck_divided_of (need_by (Γ := [Need.fn "least_gap" 2 f_least_gap, Need.fn "turned_of" 1 f_turned_of]) [0, 1] rfl (fun m hm => by
    simp only [List.mem_cons, List.not_mem_nil, or_false] at hm
    rcases hm with rfl | rfl
    · exact (ok_least_gap T).mono (by omega)
    · exact (ok_turned_of T).mono (by omega)))
theorem ok__law_sum (T : Tops K mg) : CallOk P wd K mg base 2 "_law_sum" (spD K 2 f__law_sum) :=
  callD T.t__law_sum sc__law_sum rfl T.bn ck__law_sum (need_by (Γ := [Need.fn "_law_later" 2 f__law_later]) [0] rfl (fun m hm => by
    simp only [List.mem_cons, List.not_mem_nil, or_false] at hm
    rcases hm with rfl
    · exact (ok__law_later T).mono (by omega)))
theorem ok__law_row (T : Tops K mg) : CallOk P wd K mg base 2 "_law_row" (spR K 3 f__law_row) :=
  callDR T.t__law_row sc__law_row rfl T.bn ck__law_row (need_by (Γ := [Need.fnR "_law_taken" 1 f__law_taken]) [0, 0] rfl (fun m hm => by
    simp only [List.mem_cons, List.not_mem_nil, or_false] at hm
    rcases hm with rfl
    · exact (ok__law_taken T).mono (by omega)))
theorem ok_is_row (T : Tops K mg) : CallOk P wd K mg base 3 "is_row" (spD K 2 f_is_row) :=
  callD T.t_is_row sc_is_row rfl T.bn ck_is_row (need_by (Γ := [Need.fn "is_lag" 1 f_is_lag]) [0] rfl (fun m hm => by
    simp only [List.mem_cons, List.not_mem_nil, or_false] at hm
    rcases hm with rfl
    · exact (ok_is_lag T).mono (by omega)))
theorem ok_sum_of (T : Tops K mg) : CallOk P wd K mg base 3 "sum_of" (spD K 2 f_sum_of) :=
  callD T.t_sum_of sc_sum_of rfl T.bn ck_sum_of (need_by (Γ := [Need.fn "latest_of" 1 f_latest_of, Need.fn "added" 2 f_added]) [0, 1] rfl (fun m hm => by
    simp only [List.mem_cons, List.not_mem_nil, or_false] at hm
    rcases hm with rfl | rfl
    · exact (ok_latest_of T).mono (by omega)
    · exact (ok_added T).mono (by omega)))
theorem ok_lowered_by (T : Tops K mg) : CallOk P wd K mg base 3 "lowered_by" (spD K 3 f_lowered_by) :=
  callD T.t_lowered_by sc_lowered_by rfl T.bn ck_lowered_by (need_by (Γ := [Need.fn "min_of" 2 f_min_of, Need.fn "divided_of" 2 f_divided_of]) [0, 1] rfl (fun m hm => by
    simp only [List.mem_cons, List.not_mem_nil, or_false] at hm
    rcases hm with rfl | rfl
    · exact (ok_min_of T).mono (by omega)
    · exact (ok_divided_of T).mono (by omega)))
theorem ok__law_sums (T : Tops K mg) : CallOk P wd K mg base 3 "_law_sums" (spD K 2 f__law_sums) :=
  callD T.t__law_sums sc__law_sums rfl T.bn ck__law_sums (need_by (Γ := [Need.fn "_law_sum" 2 f__law_sum]) [0] rfl (fun m hm => by
    simp only [List.mem_cons, List.not_mem_nil, or_false] at hm
    rcases hm with rfl
    · exact (ok__law_sum T).mono (by omega)))
theorem ok__law_full (T : Tops K mg) : CallOk P wd K mg base 3 "_law_full" (spR K 2 f__law_full) :=
  callDR T.t__law_full sc__law_full rfl T.bn ck__law_full (need_by (Γ := [Need.fnR "_law_row" 3 f__law_row, Need.fnR "_law_taken" 1 f__law_taken]) [0, 1] rfl (fun m hm => by
    simp only [List.mem_cons, List.not_mem_nil, or_false] at hm
    rcases hm with rfl | rfl
    · exact (ok__law_row T).mono (by omega)
    · exact (ok__law_taken T).mono (by omega)))
theorem ok_need_wide (T : Tops K mg) : CallOk P wd K mg base 4 "need_wide" (spD K 2 f_need_wide) :=
  callD T.t_need_wide sc_need_wide rfl T.bn ck_need_wide (need_by (Γ := [Need.fn "is_row" 2 f_is_row]) [0] rfl (fun m hm => by
    simp only [List.mem_cons, List.not_mem_nil, or_false] at hm
    rcases hm with rfl
    · exact (ok_is_row T).mono (by omega)))
theorem ok_need_table (T : Tops K mg) : CallOk P wd K mg base 4 "need_table" (spD K 1 f_need_table) :=
  callD T.t_need_table sc_need_table rfl T.bn ck_need_table (need_by (Γ := [Need.gl "MOST_HIGH" (.int 6), Need.gl "MOST_WIDE" (.int 6), Need.fn "is_row" 2 f_is_row]) [0, 1, 2] rfl (fun m hm => by
    simp only [List.mem_cons, List.not_mem_nil, or_false] at hm
    rcases hm with rfl | rfl | rfl
    · exact T.g_MOST_HIGH
    · exact T.g_MOST_WIDE
    · exact (ok_is_row T).mono (by omega)))
theorem ok_apply_of (T : Tops K mg) : CallOk P wd K mg base 4 "apply_of" (spD K 2 f_apply_of) :=
  callD T.t_apply_of sc_apply_of rfl T.bn ck_apply_of (need_by (Γ := [Need.fn "sum_of" 2 f_sum_of]) [0] rfl (fun m hm => by
    simp only [List.mem_cons, List.not_mem_nil, or_false] at hm
    rcases hm with rfl
    · exact (ok_sum_of T).mono (by omega)))
theorem ok_held_back (T : Tops K mg) : CallOk P wd K mg base 4 "held_back" (spD K 2 f_held_back) :=
  callD T.t_held_back sc_held_back rfl T.bn ck_held_back (need_by (Γ := [Need.fn "sum_of" 2 f_sum_of]) [0] rfl (fun m hm => by
    simp only [List.mem_cons, List.not_mem_nil, or_false] at hm
    rcases hm with rfl
    · exact (ok_sum_of T).mono (by omega)))
theorem ok_below_of (T : Tops K mg) : CallOk P wd K mg base 5 "below_of" (spD K 2 f_below_of) :=
  callD T.t_below_of sc_below_of rfl T.bn ck_below_of (need_by (Γ := [Need.fn "reach_of" 1 f_reach_of, Need.fn "held_back" 2 f_held_back]) [0, 1] rfl (fun m hm => by
    simp only [List.mem_cons, List.not_mem_nil, or_false] at hm
    rcases hm with rfl | rfl
    · exact (ok_reach_of T).mono (by omega)
    · exact (ok_held_back T).mono (by omega)))
theorem ok_need_meeting (T : Tops K mg) : CallOk P wd K mg base 5 "need_meeting" (spD K 3 f_need_meeting) :=
  callD T.t_need_meeting sc_need_meeting rfl T.bn ck_need_meeting (need_by (Γ := [Need.fn "need_table" 1 f_need_table, Need.fn "need_wide" 2 f_need_wide]) [0, 0, 1] rfl (fun m hm => by
    simp only [List.mem_cons, List.not_mem_nil, or_false] at hm
    rcases hm with rfl | rfl
    · exact (ok_need_table T).mono (by omega)
    · exact (ok_need_wide T).mono (by omega)))
theorem ok_turns (T : Tops K mg) : CallOk P wd K mg base 6 "turns" (spD K 3 f_turns) :=
  callD T.t_turns sc_turns rfl T.bn ck_turns (need_by (Γ := [Need.fn "need_meeting" 3 f_need_meeting, Need.fn "need_full" 1 f_need_full, Need.fn "farthest" 1 f_farthest, Need.fn "apply_of" 2 f_apply_of, Need.fn "divided_of" 2 f_divided_of, Need.fn "lowered_by" 3 f_lowered_by]) [0, 1, 1, 2, 3, 4, 3, 5] rfl (fun m hm => by
    simp only [List.mem_cons, List.not_mem_nil, or_false] at hm
    rcases hm with rfl | rfl | rfl | rfl | rfl | rfl
    · exact (ok_need_meeting T).mono (by omega)
    · exact (ok_need_full T).mono (by omega)
    · exact (ok_farthest T).mono (by omega)
    · exact (ok_apply_of T).mono (by omega)
    · exact (ok_divided_of T).mono (by omega)
    · exact (ok_lowered_by T).mono (by omega)))
theorem ok_meeting_below (T : Tops K mg) : CallOk P wd K mg base 6 "meeting_below" (spD K 4 f_meeting_below) :=
  callD T.t_meeting_below sc_meeting_below rfl T.bn ck_meeting_below (need_by (Γ := [Need.fn "need_meeting" 3 f_need_meeting, Need.fn "need_wide" 2 f_need_wide, Need.fn "need_full" 1 f_need_full, Need.fn "below_of" 2 f_below_of, Need.fn "meeting_of" 2 f_meeting_of]) [0, 1, 2, 2, 3, 4] rfl (fun m hm => by
    simp only [List.mem_cons, List.not_mem_nil, or_false] at hm
    rcases hm with rfl | rfl | rfl | rfl | rfl
    · exact (ok_need_meeting T).mono (by omega)
    · exact (ok_need_wide T).mono (by omega)
    · exact (ok_need_full T).mono (by omega)
    · exact (ok_below_of T).mono (by omega)
    · exact (ok_meeting_of T).mono (by omega)))
theorem ok_meeting (T : Tops K mg) : CallOk P wd K mg base 7 "meeting" (spD K 3 f_meeting) :=
  callD T.t_meeting sc_meeting rfl T.bn ck_meeting (need_by (Γ := [Need.fn "turns" 3 f_turns, Need.fn "divided_of" 2 f_divided_of, Need.fn "apply_of" 2 f_apply_of]) [0, 1, 2] rfl (fun m hm => by
    simp only [List.mem_cons, List.not_mem_nil, or_false] at hm
    rcases hm with rfl | rfl | rfl
    · exact (ok_turns T).mono (by omega)
    · exact (ok_divided_of T).mono (by omega)
    · exact (ok_apply_of T).mono (by omega)))
theorem sc_law : FnScope ["script", "row", "high", "wide", "deep", "one", "other", "times", "told", "far", "line", "floor", "at", "goal", "limit", "later_v", "after", "first", "second", "more", "third", "fourth", "given", "lag", "some", "back", "low", "spot"] ["script"] (defScope (topS 49)) := C8.fnScope_by (by decide +kernel)
def lawRest : List Stmt := (defBody (topS 49)).tail
theorem ck_law : chkS B_law ⟨["script", "row", "high", "wide", "deep", "one", "other", "times", "told", "far", "line", "floor", "at", "goal", "limit", "later_v", "after", "first", "second", "more", "third", "fourth", "given", "lag", "some", "back", "low", "spot"], defScope (topS 49), fun _ => true⟩ (.l lawRest) = true := by with_unfolding_all rfl
theorem hl_law : nmB ⟨["script", "row", "high", "wide", "deep", "one", "other", "times", "told", "far", "line", "floor", "at", "goal", "limit", "later_v", "after", "first", "second", "more", "third", "fourth", "given", "lag", "some", "back", "low", "spot"], defScope (topS 49), fun _ => true⟩ 0 "script" = true ∧ stB ⟨["script", "row", "high", "wide", "deep", "one", "other", "times", "told", "far", "line", "floor", "at", "goal", "limit", "later_v", "after", "first", "second", "more", "third", "fourth", "given", "lag", "some", "back", "low", "spot"], defScope (topS 49), fun _ => true⟩ 1 "row" = true := ⟨by with_unfolding_all rfl, by with_unfolding_all rfl⟩
theorem hd_law : ∃ c, lawHead (defBody (topS 49)) = some (c, lawRest) := ⟨_, by with_unfolding_all rfl⟩
theorem need_law (T : Tops K mg) : ∀ m ∈ needsS B_law, NeedOk P wd K mg base 7 m := need_by (Γ := [Need.fnR "_law_taken" 1 f__law_taken, Need.fnR "_law_full" 2 f__law_full, Need.fnR "_law_row" 3 f__law_row, Need.fn "turns" 3 f_turns, Need.fn "_law_sums" 2 f__law_sums, Need.fn "_law_back" 2 f__law_back, Need.fn "_law_least" 2 f__law_least, Need.fn "meeting" 3 f_meeting, Need.fn "meeting_below" 4 f_meeting_below, Need.fn "_law_by" 2 f__law_by, Need.fn "_law_grid" 2 f__law_grid, Need.fn "_law_shift" 2 f__law_shift]) [0, 0, 0, 1, 1, 2, 3, 4, 5, 4, 5, 6, 7, 4, 4, 5, 4, 2, 8, 4, 4, 9, 9, 10, 11, 4, 5, 9, 4, 9, 8] rfl (fun m hm => by
    simp only [List.mem_cons, List.not_mem_nil, or_false] at hm
    rcases hm with rfl | rfl | rfl | rfl | rfl | rfl | rfl | rfl | rfl | rfl | rfl | rfl
    · exact (ok__law_taken T).mono (by omega)
    · exact (ok__law_full T).mono (by omega)
    · exact (ok__law_row T).mono (by omega)
    · exact (ok_turns T).mono (by omega)
    · exact (ok__law_sums T).mono (by omega)
    · exact (ok__law_back T).mono (by omega)
    · exact (ok__law_least T).mono (by omega)
    · exact (ok_meeting T).mono (by omega)
    · exact (ok_meeting_below T).mono (by omega)
    · exact (ok__law_by T).mono (by omega)
    · exact (ok__law_grid T).mono (by omega)
    · exact (ok__law_shift T).mono (by omega))
end
end Dn.DL
namespace Dn
open PySem
/-! ### evaluation -/
def Does {α : Type} (m : M α) (P : α → Prop) : Prop := ∀ w : W, 0 ≤ w.i → ∃ a w', m w = .ok a w' ∧ 0 ≤ w'.i ∧ P a
theorem Does.ret {α : Type} {a : α} {P : α → Prop} (h : P a) : Does (ret a) P := fun w hw => ⟨a, w, rfl, hw, h⟩
theorem Does.bnd {α β : Type} {m : M α} {f : α → M β} {Q : α → Prop} {P : β → Prop} (h : Does m Q) (g : ∀ a, Q a → Does (f a) P) : Does (bnd m f) P := fun w hw => by
  obtain ⟨a, w1, e, hw1, q⟩ := h w hw
  obtain ⟨b, w2, e2, hw2, p⟩ := g a q w1 hw1
  exact ⟨b, w2, by rw [bnd_ok e, e2], hw2, p⟩
theorem Does.mono {α : Type} {m : M α} {P Q : α → Prop} (h : Does m P) (g : ∀ a, P a → Q a) : Does m Q := fun w hw => by
  obtain ⟨a, w1, e, hw1, q⟩ := h w hw
  exact ⟨a, w1, e, hw1, g a q⟩
theorem mapD_map {f : D → M (Option D)} {g : D → D} : ∀ {ds : List D}, (∀ d ∈ ds, f d = ret (some (g d))) → mapD f ds = ret (ds.map g)
  | [], _ => rfl
  | d :: ds, h => by
    unfold mapD
    rw [h d (List.mem_cons_self ..), bnd_ret, mapD_map fun x hx => h x (List.mem_cons_of_mem _ hx), bnd_ret]
    rfl
theorem mapD_enc {α : Type} {enc : α → D} {f : D → M (Option D)} {g : α → D} : ∀ {xs : List α}, (∀ x ∈ xs, f (enc x) = ret (some (g x))) → mapD f (xs.map enc) = ret (xs.map g)
  | [], _ => rfl
  | x :: xs, h => by
    rw [List.map_cons]
    unfold mapD
    rw [h x (List.mem_cons_self ..), bnd_ret, mapD_enc fun x hx => h x (List.mem_cons_of_mem _ hx), bnd_ret]
    rfl
theorem mapD_fil {α : Type} {enc : α → D} {f : D → M (Option D)} {g : α → D} {p : α → Bool} : ∀ {xs : List α}, (∀ x ∈ xs, f (enc x) = ret (if p x then some (g x) else none)) → mapD f (xs.map enc) = ret ((xs.filter p).map g)
  | [], _ => rfl
  | x :: xs, h => by
    rw [List.map_cons]
    unfold mapD
    rw [h x (List.mem_cons_self ..), bnd_ret, mapD_fil fun x hx => h x (List.mem_cons_of_mem _ hx), bnd_ret]
    cases e : p x with
    | true => rw [List.filter_cons_of_pos e]; rfl
    | false => rw [List.filter_cons_of_neg (by rw [e]; decide)]; rfl
theorem mapD_does {f : D → M (Option D)} {Q : D → Prop} : ∀ {ds : List D}, (∀ d ∈ ds, Does (f d) fun o => ∃ x, o = some x ∧ Q x) → Does (mapD f ds) fun out => out.length = ds.length ∧ ∀ x ∈ out, Q x
  | [], _ => .ret ⟨rfl, fun x h => by cases h⟩
  | d :: ds, h => by
    unfold mapD
    refine (h d (List.mem_cons_self ..)).bnd fun o ⟨x, e, q⟩ => (mapD_does fun y hy => h y (List.mem_cons_of_mem _ hy)).bnd fun r ⟨e2, q2⟩ => ?_
    subst e
    refine .ret ⟨by rw [List.length_cons, List.length_cons, e2], fun y hy => ?_⟩
    rcases List.mem_cons.mp hy with rfl | hy
    · exact q
    · exact q2 y hy

section
variable {ρ ρ' : Ev} {a b c e e1 e2 es lo hi src elt cond : E} {o o' : BOp} {q q' : COp} {i j n : Nat} {d : D} {x : Str} {f : List D → M D} {A B : S} {tg : Tg}
def seqK (r : S) : O → M O | .nx ρ => denS r ρ | .rt d => ret (.rt d)
def endK : O → M D | .rt d => ret d | .nx _ => ret .none
def branchK (a b : S) (ρ : Ev) (k : Bool) : M O := if k then denS a ρ else denS b ρ
theorem k_nx : seqK A (.nx ρ) = denS A ρ := rfl
theorem k_rt : seqK A (.rt d) = ret (.rt d) := rfl
theorem e_nx : endK (.nx ρ) = ret .none := rfl
theorem e_rt : endK (.rt d) = ret d := rfl
theorem br_t : branchK A B ρ true = denS A ρ := rfl
theorem br_f : branchK A B ρ false = denS B ρ := rfl
theorem fn_eq {ds : List D} : fn n B ds = bnd (denS B (ds.map .val ++ List.replicate (n - ds.length) .no)) endK := by
  unfold fn; congr 1 <;> (funext o; cases o <;> rfl)
theorem fnR_eq {ds : List D} : fnR n B ds = bnd (denS B (.row :: (ds.map .val ++ List.replicate (n - ds.length) .no))) endK := by
  unfold fnR; congr 1 <;> (funext o; cases o <;> rfl)
theorem dS_nil : denS .nil ρ = ret (.nx ρ) := rfl
theorem dS_seq : denS (.seq A B) ρ = bnd (denS A ρ) (seqK B) := by
  show bnd (denS A ρ) _ = _
  congr 1 <;> (funext o; cases o <;> rfl)
theorem dS_asg {t : Tg} : denS (.asg t e) ρ = bnd (den e ρ) fun d => (match bindT t d ρ with | some ρ' => ret (.nx ρ') | none => bad) := rfl
theorem dS_nm : denS (.asg (.nm i) e) ρ = bnd (den e ρ) fun d => ret (.nx (ρ.set i (.val d))) := rfl
def ownK (ρ : Ev) (i : Nat) : D → M O | .list l => ret (.nx (ρ.set i (.own l))) | _ => bad
theorem own_list {l : List D} : ownK ρ i (.list l) = ret (.nx (ρ.set i (.own l))) := rfl
theorem dS_newL : denS (.newL i e) ρ = bnd (den e ρ) (ownK ρ i) := by
  show bnd (den e ρ) _ = _
  congr 1 <;> (funext d; cases d <;> rfl)
theorem dS_par {oi oj : Bool} : denS (.par i j oi oj a b) ρ = bnd (bnd (den a ρ) (slD oi)) fun x => bnd (bnd (den b ρ) (slD oj)) fun y => ret (.nx ((ρ.set i x).set j y)) := rfl
theorem sl_f : (slD false d : M Sl) = ret (.val d) := rfl
theorem sl_t {l : List D} : (slD true (.list l) : M Sl) = ret (.own l) := rfl
theorem dS_ite : denS (.ite e A B) ρ = bnd (bnd (den e ρ) asB) (branchK A B ρ) := rfl
theorem dS_ret : denS (.ret e) ρ = bnd (den e ρ) fun d => ret (.rt d) := rfl
theorem dS_expr : denS (.expr e) ρ = bnd (den e ρ) fun _ => ret (.nx ρ) := rfl
theorem asB_bool {k : Bool} : asB (.bool k) = ret k := rfl
theorem asI_int {k : Int} : asI (.int k) = ret k := rfl
theorem items_l {l : List D} : itemsOf (.list l) = ret l := rfl
theorem items_t {l : List D} : itemsOf (.tuple l) = ret l := rfl
theorem dn_nil : den .nil ρ = ret (.dict []) := rfl
theorem dn_cons : den (.cons a b) ρ = bnd (den a ρ) fun x => bnd (den b ρ) fun xs => ret (.list (x :: listOf xs)) := rfl
theorem dn_star : den (.star a b) ρ = bnd (den a ρ) fun x => bnd (itemsOf x) fun ds => bnd (den b ρ) fun xs => ret (.list (ds ++ listOf xs)) := rfl
theorem lo_l {l : List D} : listOf (.list l) = l := rfl
theorem lo_d : listOf (.dict []) = [] := rfl
def varK : Option Sl → M D | some (.val d) => ret d | _ => bad
theorem vk : varK (some (.val d)) = ret d := rfl
theorem dn_var : den (.var i) ρ = varK ρ[i]? := by
  show (match ρ[i]? with | some (.val d) => (ret d : M D) | _ => bad) = _
  cases ρ[i]? with
  | none => rfl
  | some s => cases s <;> rfl
def ownV : Option Sl → M D | some (.own l) => ret (.list l) | _ => bad
theorem ok_ {l : List D} : ownV (some (.own l)) = ret (.list l) := rfl
theorem dn_own : den (.own i) ρ = ownV ρ[i]? := by
  show (match ρ[i]? with | some (.own l) => (ret (.list l) : M D) | _ => bad) = _
  cases ρ[i]? with
  | none => rfl
  | some s => cases s <;> rfl
theorem dn_lit : den (.lit d) ρ = ret d := rfl
theorem dn_glob : den (.glob x d) ρ = ret d := rfl
theorem dn_bin : den (.bin o a b) ρ = bnd (den a ρ) fun x => bnd (den b ρ) fun y => binD o x y := rfl
theorem dn_neg : den (.neg a) ρ = bnd (den a ρ) negD := rfl
theorem dn_not : den (.not a) ρ = bnd (den a ρ) notD := rfl
theorem dn_cmp : den (.cmp q a b) ρ = bnd (den a ρ) fun x => bnd (den b ρ) fun y => cmpD q x y := rfl
def chainK (q' : COp) (y : D) (c : E) (ρ : Ev) (k : Bool) : M D := if k then bnd (den c ρ) fun z => cmpD q' y z else ret (.bool false)
theorem dn_chain : den (.chain q q' a b c) ρ = bnd (den a ρ) fun x => bnd (den b ρ) fun y => bnd (bnd (cmpD q x y) asB) (chainK q' y c ρ) := rfl
theorem ch_t {y : D} : chainK q' y c ρ true = bnd (den c ρ) fun z => cmpD q' y z := rfl
theorem ch_f {y : D} : chainK q' y c ρ false = ret (.bool false) := rfl
def andK (b : E) (ρ : Ev) (k : Bool) : M D := if k then den b ρ else ret (.bool false)
def orK (b : E) (ρ : Ev) (k : Bool) : M D := if k then ret (.bool true) else den b ρ
def iteK (a b : E) (ρ : Ev) (k : Bool) : M D := if k then den a ρ else den b ρ
theorem dn_and : den (.and a b) ρ = bnd (bnd (den a ρ) asB) (andK b ρ) := rfl
theorem dn_or : den (.or a b) ρ = bnd (bnd (den a ρ) asB) (orK b ρ) := rfl
theorem dn_ite : den (.ite c a b) ρ = bnd (bnd (den c ρ) asB) (iteK a b ρ) := rfl
theorem an_t : andK b ρ true = den b ρ := rfl
theorem an_f : andK b ρ false = ret (.bool false) := rfl
theorem or_t : orK b ρ true = ret (.bool true) := rfl
theorem or_f : orK b ρ false = den b ρ := rfl
theorem it_t : iteK a b ρ true = den a ρ := rfl
theorem it_f : iteK a b ρ false = den b ρ := rfl
def tupK (xs : List D) : M D := if xs.length ≤ sizeLine then ret (.tuple xs) else bad
def lstK (xs : List D) : M D := if xs.length ≤ sizeLine then ret (.list xs) else bad
theorem dn_tup : den (.tup es) ρ = bnd (den es ρ) fun xs => tupK (listOf xs) := rfl
theorem dn_list : den (.list es) ρ = bnd (den es ρ) fun xs => lstK (listOf xs) := rfl
theorem tup_ok {xs : List D} (h : xs.length ≤ sizeLine) : tupK xs = ret (.tuple xs) := if_pos h
theorem lst_ok {xs : List D} (h : xs.length ≤ sizeLine) : lstK xs = ret (.list xs) := if_pos h
theorem tup2 {x y : D} : tupK [x, y] = ret (.tuple [x, y]) := rfl
theorem tup1 {x : D} : tupK [x] = ret (.tuple [x]) := rfl
theorem tup3 {x y z : D} : tupK [x, y, z] = ret (.tuple [x, y, z]) := rfl
theorem tup0 : tupK [] = ret (.tuple []) := rfl
theorem lst0 : lstK [] = ret (.list []) := rfl
theorem lst1 {x : D} : lstK [x] = ret (.list [x]) := rfl
theorem lst2 {x y : D} : lstK [x, y] = ret (.list [x, y]) := rfl
theorem lst3 {x y z : D} : lstK [x, y, z] = ret (.list [x, y, z]) := rfl
theorem dn_ix : den (.ix a b) ρ = bnd (den a ρ) fun x => bnd (den b ρ) fun y => ixD x y := rfl
theorem dn_slice : den (.slice a lo hi) ρ = bnd (den a ρ) fun x => bnd (bnd (den lo ρ) partD) fun l => bnd (bnd (den hi ρ) partD) fun u => sliceD x l u := rfl
def callK (n : Nat) (f : List D → M D) (xs : List D) : M D := if xs.length = n then f xs else bad
theorem dn_call : den (.call x n f es) ρ = bnd (den es ρ) fun xs => callK n f (listOf xs) := rfl
theorem call1 {x : D} : callK 1 f [x] = f [x] := rfl
theorem call2 {x y : D} : callK 2 f [x, y] = f [x, y] := rfl
theorem call3 {x y z : D} : callK 3 f [x, y, z] = f [x, y, z] := rfl
theorem call4 {x y z u : D} : callK 4 f [x, y, z, u] = f [x, y, z, u] := rfl
theorem call5 {x y z u v : D} : callK 5 f [x, y, z, u, v] = f [x, y, z, u, v] := rfl
def rowK {α : Type} (m : M α) : Option Sl → M α | some .row => m | _ => bad
theorem rk {α : Type} {m : M α} : rowK m (some .row) = m := rfl
theorem dn_callR : den (.callR x n f i es) ρ = rowK (bnd (den es ρ) fun xs => callK n f (listOf xs)) ρ[i]? := by
  show (match ρ[i]? with | some .row => bnd (den es ρ) fun xs => if (listOf xs).length = n then f (listOf xs) else bad | _ => bad) = _
  cases ρ[i]? with
  | none => rfl
  | some s => cases s <;> rfl
theorem dn_b1 {bb : B1} : den (.b1 bb a) ρ = bnd (den a ρ) fun x => b1D bb x := rfl
theorem dn_b2 {bb : B2} : den (.b2 bb a c) ρ = bnd (den a ρ) fun x => bnd (den c ρ) fun y => b2D bb x y := rfl
theorem dn_isI {cl : Cl} : den (.isI a cl) ρ = bnd (den a ρ) fun x => ret (.bool (isIn x cl)) := rfl
theorem dn_isTL : den (.isTL a) ρ = bnd (den a ρ) fun x => ret (.bool (isIn x .tup || isIn x .lst)) := rfl
theorem dn_range1 : den (.range1 a) ρ = bnd (bnd (den a ρ) asI) fun j => rangeD 0 j := rfl
theorem dn_range2 : den (.range2 a b) ρ = bnd (bnd (den a ρ) asI) fun i => bnd (bnd (den b ρ) asI) fun j => rangeD i j := rfl
theorem dn_zip : den (.zip a b) ρ = bnd (den a ρ) fun x => bnd (den b ρ) fun y => zip2D x y := rfl
theorem b1_len_l {l : List D} : b1D .len (.list l) = ret (.int l.length) := rfl
theorem b1_len_t {l : List D} : b1D .len (.tuple l) = ret (.int l.length) := rfl
theorem b1_tup_l {l : List D} : b1D .tuple (.list l) = ret (.tuple l) := rfl
theorem b1_tup_t {l : List D} : b1D .tuple (.tuple l) = ret (.tuple l) := rfl
theorem b1_list_l {l : List D} : b1D .list (.list l) = ret (.list l) := rfl
theorem b1_list_t {l : List D} : b1D .list (.tuple l) = ret (.list l) := rfl
theorem b1_int {k : Int} : b1D .int (.int k) = ret (.int k) := rfl
theorem not_b {k : Bool} : notD (.bool k) = ret (.bool (!k)) := rfl
theorem neg_i {k : Int} : negD (.int k) = ret (.int (-k)) := rfl
theorem cmp_lt {u v : Int} : cmpD .lt (.int u) (.int v) = ret (.bool (decide (u < v))) := rfl
theorem cmp_le {u v : Int} : cmpD .le (.int u) (.int v) = ret (.bool (decide (u ≤ v))) := rfl
theorem cmp_gt {u v : Int} : cmpD .gt (.int u) (.int v) = ret (.bool (decide (v < u))) := rfl
theorem cmp_ge {u v : Int} : cmpD .ge (.int u) (.int v) = ret (.bool (decide (v ≤ u))) := rfl
theorem cmp_is : cmpD .is_ d .none = ret (.bool (isNone d)) := by cases d <;> rfl
theorem cmp_isnot : cmpD .isnot d .none = ret (.bool (!isNone d)) := by cases d <;> rfl
theorem cmp_eqi {u v : Int} : cmpD .eq (.int u) (.int v) = ret (.bool (decide (u = v))) := by
  have h : cmpD .eq (.int u) (.int v) = ret (.bool (PyData.eqv (.int u) (.int v))) := rfl
  rw [h]
  congr 2
theorem cmp_nei {u v : Int} : cmpD .ne (.int u) (.int v) = ret (.bool (!decide (u = v))) := by
  have h : cmpD .ne (.int u) (.int v) = ret (.bool (!PyData.eqv (.int u) (.int v))) := rfl
  rw [h]
  congr 2
theorem bin_add {u v : Int} : binD .add (.int u) (.int v) = ret (.int (u + v)) := rfl
theorem bin_sub {u v : Int} : binD .sub (.int u) (.int v) = ret (.int (u - v)) := rfl
theorem bin_mod {u v : Int} (h : 0 < v) : binD .mod (.int u) (.int v) = ret (.int (u % v)) := if_pos h
theorem bin_fdiv {u v : Int} (h : 0 < v ∧ v < 1073741824) : binD .fdiv (.int u) (.int v) = ret (.int (u / v)) := if_pos h
theorem bin_mul {u v : Int} (h : (big u || big v) = true) : binD .mul (.int u) (.int v) = ret (.int (u * v)) := if_pos h
theorem ix_t {l : List D} {k : Nat} {d : D} (h : l[k]? = some d) : ixD (.tuple l) (.int k) = ret d := by
  have hk : k < l.length := (List.getElem?_eq_some_iff.mp h).1
  show (match L2.atI l (k : Int) with | some d => ret d | none => bad) = _
  rw [show L2.atI l (k : Int) = some d from L2.atI_nat h]
theorem ix_l {l : List D} {k : Nat} {d : D} (h : l[k]? = some d) : ixD (.list l) (.int k) = ret d := by
  have hk : k < l.length := (List.getElem?_eq_some_iff.mp h).1
  show (match L2.atI l (k : Int) with | some d => ret d | none => bad) = _
  rw [show L2.atI l (k : Int) = some d from L2.atI_nat h]
theorem range0 {k : Nat} (h : k ≤ 1000) : rangeD 0 (k : Int) = ret (.list ((List.range k).map fun (i : Nat) => PyData.int (i : Int))) := by
  unfold rangeD
  rw [if_pos (by omega)]
  congr 2
  rw [show ((k : Int) - 0).toNat = k by omega]
  simp
theorem zip_t {xs ys : List D} : zip2D (.tuple xs) (.tuple ys) = ret (.list (zipD xs ys)) := rfl
theorem zip_l {xs ys : List D} : zip2D (.list xs) (.list ys) = ret (.list (zipD xs ys)) := rfl
theorem zip_enc {α β : Type} {f : α → D} {g : β → D} (xs : List α) (ys : List β) : zipD (xs.map f) (ys.map g) = (xs.zip ys).map fun p => PyData.tuple [f p.1, g p.2] := by
  unfold zipD
  rw [List.zipWith_map_left, List.zipWith_map_right, List.zip, List.map_zipWith]
theorem zip_back {α β γ δ : Type} (f : α → β → γ) (h : γ → δ) (xs : List α) (ys : List β) : (xs.zip ys).map (fun p => h (f p.1 p.2)) = (List.zipWith f xs ys).map h := by
  rw [List.zip, List.map_zipWith, List.map_zipWith]
def pushK (i : Nat) (ρ : Ev) (l : List D) (d : D) : M O := if l.length < sizeLine then ret (.nx (ρ.set i (.own (l ++ [d])))) else bad
theorem push_ok {l : List D} (h : l.length < sizeLine) : pushK i ρ l d = ret (.nx (ρ.set i (.own (l ++ [d])))) := if_pos h
def appK (i : Nat) (ρ : Ev) (m : M D) : Option Sl → M O | some (.own l) => bnd m (pushK i ρ l) | _ => bad
theorem ap_own {l : List D} {m : M D} : appK i ρ m (some (.own l)) = bnd m (pushK i ρ l) := rfl
theorem dS_app : denS (.app i e) ρ = appK i ρ (den e ρ) ρ[i]? := by
  show (match ρ[i]? with | some (.own l) => (bnd (den e ρ) fun d => if l.length < sizeLine then ret (.nx (ρ.set i (.own (l ++ [d])))) else bad : M O) | _ => bad) = _
  cases ρ[i]? with
  | none => rfl
  | some s => cases s <;> rfl
def augK (i : Nat) (ρ : Ev) (o : BOp) (m : M D) : Option Sl → M O | some (.val x) => bnd m fun y => bnd (augD o x y) fun z => ret (.nx (ρ.set i (.val z))) | _ => bad
theorem au_val {m : M D} : augK i ρ o m (some (.val d)) = bnd m fun y => bnd (augD o d y) fun z => ret (.nx (ρ.set i (.val z))) := rfl
theorem dS_aug : denS (.aug i o e) ρ = augK i ρ o (den e ρ) ρ[i]? := by
  show (match ρ[i]? with | some (.val x) => (bnd (den e ρ) fun y => bnd (augD o x y) fun z => ret (.nx (ρ.set i (.val z))) : M O) | _ => bad) = _
  cases ρ[i]? with
  | none => rfl
  | some s => cases s <;> rfl
def frzK (i : Nat) (ρ : Ev) : Option Sl → M O | some (.own l) => ret (.nx (ρ.set i (.val (.list l)))) | _ => bad
theorem fr_own {l : List D} : frzK i ρ (some (.own l)) = ret (.nx (ρ.set i (.val (.list l)))) := rfl
theorem dS_frz : denS (.frz i) ρ = frzK i ρ ρ[i]? := by
  show (match ρ[i]? with | some (.own l) => (ret (.nx (ρ.set i (.val (.list l)))) : M O) | _ => bad) = _
  cases ρ[i]? with
  | none => rfl
  | some s => cases s <;> rfl
def compK (elt : E) (tg : Tg) (cond : E) (ρ : Ev) (ds : List D) : M D :=
  bnd (mapD (fun d => match bindT tg d (wipeE ρ tg.slots) with
        | none => bad
        | some ρ' => bnd (bnd (den cond ρ') asB) fun k => if k then bnd (den elt ρ') fun x => ret (some x) else ret none) ds) fun out => ret (.list out)
theorem dn_comp : den (.comp elt tg src cond) ρ = bnd (bnd (den src ρ) itemsOf) (compK elt tg cond ρ) := rfl
theorem cmpMap {α : Type} {enc g : α → D} {xs : List α} (h : ∀ x ∈ xs, ∃ ρ', bindT tg (enc x) (wipeE ρ tg.slots) = some ρ' ∧ den cond ρ' = ret (.bool true) ∧ den elt ρ' = ret (g x)) : compK elt tg cond ρ (xs.map enc) = ret (.list (xs.map g)) := by
  unfold compK
  rw [mapD_enc (g := g) fun x hx => by
    obtain ⟨ρ', e1, e2, e3⟩ := h x hx
    simp only [e1, e2, e3, bnd_ret, asB_bool, if_true]]
  rfl
theorem cmpFil {α : Type} {enc g : α → D} {p : α → Bool} {xs : List α} (h : ∀ x ∈ xs, ∃ ρ', bindT tg (enc x) (wipeE ρ tg.slots) = some ρ' ∧ den cond ρ' = ret (.bool (p x)) ∧ (p x = true → den elt ρ' = ret (g x))) : compK elt tg cond ρ (xs.map enc) = ret (.list ((xs.filter p).map g)) := by
  unfold compK
  rw [mapD_fil (g := g) (p := p) fun x hx => by
    obtain ⟨ρ', e1, e2, e3⟩ := h x hx
    simp only [e1, e2, bnd_ret, asB_bool]
    cases e : p x with
    | true => simp only [e3 e, bnd_ret, if_true]
    | false => rfl]
  rfl
theorem cmpDoes {ds : List D} {Q : D → Prop} (h : ∀ d ∈ ds, ∃ ρ', bindT tg d (wipeE ρ tg.slots) = some ρ' ∧ den cond ρ' = ret (.bool true) ∧ Does (den elt ρ') Q) : Does (compK elt tg cond ρ ds) fun out => ∃ l, out = .list l ∧ l.length = ds.length ∧ ∀ x ∈ l, Q x := by
  unfold compK
  refine (mapD_does (Q := Q) fun d hd => ?_).bnd fun l ⟨h1, h2⟩ => .ret ⟨l, rfl, h1, h2⟩
  obtain ⟨ρ', e1, e2, e3⟩ := h d hd
  simp only [e1, e2, bnd_ret, asB_bool, if_true]
  exact e3.bnd fun x hx => .ret ⟨x, rfl, hx⟩
def forK (t : Tg) (body : S) (d : D) (ρ : Ev) : M O := match bindT t d ρ with | some ρ'' => denS body ρ'' | none => bad
def forE (t : Tg) (body : S) (ρ : Ev) (ds : List D) : M O := forO (forK t body) ds ρ
theorem dS_for {t : Tg} : denS (.for_ t src B) ρ = bnd (bnd (den src ρ) itemsOf) (forE t B ρ) := rfl
theorem for_nil {t : Tg} : forE t B ρ [] = ret (.nx ρ) := rfl
def forN (t : Tg) (B : S) (ds : List D) : O → M O | .nx ρ => forE t B ρ ds | .rt d => ret (.rt d)
theorem for_cons {t : Tg} {ds : List D} : forE t B ρ (d :: ds) = bnd (forK t B d ρ) (forN t B ds) := by
  show bnd (forK t B d ρ) _ = _
  congr 1 <;> (funext o; cases o <;> rfl)
/-- a loop that goes on to its end, with no draws -/
theorem for_run {α β : Type} {t : Tg} {enc : α → D} (I : β → Ev → Prop) (step : β → α → β) : ∀ {xs : List α} {s : β} {ρ : Ev}, I s ρ → (∀ s x ρ, x ∈ xs → I s ρ → ∃ ρ', forK t B (enc x) ρ = ret (.nx ρ') ∧ I (step s x) ρ') → ∃ ρ', forE t B ρ (xs.map enc) = ret (.nx ρ') ∧ I (xs.foldl step s) ρ'
  | [], s, ρ, hI, _ => ⟨ρ, rfl, hI⟩
  | x :: xs, s, ρ, hI, h => by
    obtain ⟨ρ1, e1, h1⟩ := h s x ρ (List.mem_cons_self ..) hI
    obtain ⟨ρ2, e2, h2⟩ := for_run I step h1 fun s y ρ hy => h s y ρ (List.mem_cons_of_mem _ hy)
    refine ⟨ρ2, ?_, h2⟩
    rw [List.map_cons, for_cons, e1, bnd_ret]
    exact e2
/-- .. by its turns -/
theorem for_runK {α β : Type} {t : Tg} {enc : α → D} {n : Nat} (I : Nat → β → Ev → Prop) (step : β → α → β) : ∀ {xs : List α} {k : Nat} {s : β} {ρ : Ev}, k + xs.length = n → I k s ρ → (∀ k s x ρ, k < n → x ∈ xs → I k s ρ → ∃ ρ', forK t B (enc x) ρ = ret (.nx ρ') ∧ I (k + 1) (step s x) ρ') → ∃ ρ', forE t B ρ (xs.map enc) = ret (.nx ρ') ∧ I n (xs.foldl step s) ρ'
  | [], k, s, ρ, hk, hI, _ => ⟨ρ, rfl, by
    cases hk
    exact hI⟩
  | x :: xs, k, s, ρ, hk, hI, h => by
    rw [List.length_cons] at hk
    obtain ⟨ρ1, e1, h1⟩ := h k s x ρ (by omega) (List.mem_cons_self ..) hI
    obtain ⟨ρ2, e2, h2⟩ := for_runK I step (by omega) h1 fun k s y ρ hk hy => h k s y ρ hk (List.mem_cons_of_mem _ hy)
    refine ⟨ρ2, ?_, h2⟩
    rw [List.map_cons, for_cons, e1, bnd_ret]
    exact e2
/-- a loop with draws, by its turns -/
theorem for_does {t : Tg} {n : Nat} (I : Nat → Ev → Prop) : ∀ {ds : List D} {k : Nat} {ρ : Ev}, k + ds.length = n → I k ρ → (∀ k d ρ, k < n → d ∈ ds → I k ρ → Does (forK t B d ρ) fun o => ∃ ρ', o = .nx ρ' ∧ I (k + 1) ρ') → Does (forE t B ρ ds) fun o => ∃ ρ', o = .nx ρ' ∧ I n ρ'
  | [], k, ρ, hk, hI, _ => .ret ⟨ρ, rfl, by
    cases hk
    exact hI⟩
  | d :: ds, k, ρ, hk, hI, h => by
    rw [for_cons]
    rw [List.length_cons] at hk
    refine (h k d ρ (by omega) (List.mem_cons_self ..) hI).bnd fun o ⟨ρ', e, h1⟩ => ?_
    subst e
    exact for_does I (by omega) h1 fun k y ρ hk hy => h k y ρ hk (List.mem_cons_of_mem _ hy)
end
end Dn
namespace Dn.DL
open PySem
abbrev La := Option Int
def optD : La → D | none => .none | some i => .int i
def rowD (r : List La) : D := .tuple (r.map optD)
def tabD (t : List (List La)) : D := .tuple (t.map rowD)
def later : La → La → La
  | none, b => b
  | a, none => a
  | some a, some b => some (if b > a then b else a)
def added : La → La → La
  | some a, some b => some (a + b)
  | _, _ => none
def isBy : La → La → Bool
  | none, _ => true
  | some a, some b => decide (a ≤ b)
  | _, _ => false
theorem m_is_int (d : D) : f_is_int [d] = ret (.bool (isIn d .int && !isIn d .bool)) := by
  cases d <;> rfl
theorem m_later (a b : La) : f_later [optD a, optD b] = ret (optD (later a b)) := by
  cases a <;> cases b <;> rfl
theorem m_added (a b : La) : f_added [optD a, optD b] = ret (optD (added a b)) := by
  cases a <;> cases b <;> rfl
def latestOf (l : List La) : La := l.foldl later none
theorem m_latest_of (l : List La) : f_latest_of [.list (l.map optD)] = ret (optD (latestOf l)) := by
  unfold f_latest_of B_latest_of
  simp -implicitDefEqProofs only [wipeE, Tg.slots, k_nx, k_rt, e_nx, e_rt, br_t, br_f, dS_nil, dS_seq, dS_nm, own_list, dS_newL, dS_par, sl_f, sl_t, dS_ite, dS_ret, dS_expr, dS_app, ap_own, dS_aug, au_val, dS_frz, fr_own, asB_bool, asI_int, items_l, items_t, dn_nil, dn_cons, dn_star, lo_l, lo_d, vk, dn_var, ok_, dn_own, dn_lit, dn_glob, dn_bin, dn_neg, dn_not, dn_cmp, dn_chain, ch_t, ch_f, dn_and, dn_or, dn_ite, an_t, an_f, or_t, or_f, it_t, it_f, dn_tup, dn_list, tup0, tup1, tup2, tup3, lst0, lst1, lst2, lst3, dn_ix, dn_slice, dn_call, call1, call2, call3, call4, call5, rk, dn_callR, dn_b1, dn_b2, dn_isI, dn_isTL, dn_range1, dn_range2, dn_zip, b1_len_l, b1_len_t, b1_tup_l, b1_tup_t, b1_list_l, b1_list_t, b1_int, not_b, neg_i, cmp_lt, cmp_le, cmp_gt, cmp_ge, cmp_is, cmp_isnot, cmp_eqi, cmp_nei, bin_add, bin_sub, zip_t, zip_l, dn_comp, dS_for, bnd_ret, bnd_bnd, fn_eq, fnR_eq, List.map_cons, List.map_nil, List.cons_append, List.nil_append, List.append_nil, List.length_cons, List.length_nil, List.replicate_succ, List.replicate_zero, Nat.sub_self, Nat.reduceAdd, Nat.reduceSub, Nat.zero_add, List.set_cons_zero, List.set_cons_succ, List.getElem?_cons_zero, List.getElem?_cons_succ]
  obtain ⟨ρ', e, h⟩ := for_run (t := .nm 2) (B := (.seq (.asg (.nm 1) (.call "later" 2 f_later (.cons (.var 1) (.cons (.var 2) .nil)))) .nil)) (enc := optD) (xs := l) (s := none) (fun (s : La) ρ => ∃ x y, ρ = [x, .val (optD s), y]) later ⟨_, _, rfl⟩ (ρ := [.val (.list (l.map optD)), .val .none, .no]) (fun s x ρ _ ⟨u, v, e⟩ => by
    subst e
    refine ⟨[u, .val (optD (later s x)), .val (optD x)], ?_, u, _, rfl⟩
    unfold forK
    show denS _ [u, .val (optD s), .val (optD x)] = _
    simp -implicitDefEqProofs only [wipeE, Tg.slots, k_nx, k_rt, e_nx, e_rt, br_t, br_f, dS_nil, dS_seq, dS_nm, own_list, dS_newL, dS_par, sl_f, sl_t, dS_ite, dS_ret, dS_expr, dS_app, ap_own, dS_aug, au_val, dS_frz, fr_own, asB_bool, asI_int, items_l, items_t, dn_nil, dn_cons, dn_star, lo_l, lo_d, vk, dn_var, ok_, dn_own, dn_lit, dn_glob, dn_bin, dn_neg, dn_not, dn_cmp, dn_chain, ch_t, ch_f, dn_and, dn_or, dn_ite, an_t, an_f, or_t, or_f, it_t, it_f, dn_tup, dn_list, tup0, tup1, tup2, tup3, lst0, lst1, lst2, lst3, dn_ix, dn_slice, dn_call, call1, call2, call3, call4, call5, rk, dn_callR, dn_b1, dn_b2, dn_isI, dn_isTL, dn_range1, dn_range2, dn_zip, b1_len_l, b1_len_t, b1_tup_l, b1_tup_t, b1_list_l, b1_list_t, b1_int, not_b, neg_i, cmp_lt, cmp_le, cmp_gt, cmp_ge, cmp_is, cmp_isnot, cmp_eqi, cmp_nei, bin_add, bin_sub, zip_t, zip_l, dn_comp, dS_for, bnd_ret, bnd_bnd, fn_eq, fnR_eq, List.map_cons, List.map_nil, List.cons_append, List.nil_append, List.append_nil, List.length_cons, List.length_nil, List.replicate_succ, List.replicate_zero, Nat.sub_self, Nat.reduceAdd, Nat.reduceSub, Nat.zero_add, List.set_cons_zero, List.set_cons_succ, List.getElem?_cons_zero, List.getElem?_cons_succ, m_later])
  obtain ⟨x, y, rfl⟩ := h
  rw [e]
  simp -implicitDefEqProofs only [wipeE, Tg.slots, k_nx, k_rt, e_nx, e_rt, br_t, br_f, dS_nil, dS_seq, dS_nm, own_list, dS_newL, dS_par, sl_f, sl_t, dS_ite, dS_ret, dS_expr, dS_app, ap_own, dS_aug, au_val, dS_frz, fr_own, asB_bool, asI_int, items_l, items_t, dn_nil, dn_cons, dn_star, lo_l, lo_d, vk, dn_var, ok_, dn_own, dn_lit, dn_glob, dn_bin, dn_neg, dn_not, dn_cmp, dn_chain, ch_t, ch_f, dn_and, dn_or, dn_ite, an_t, an_f, or_t, or_f, it_t, it_f, dn_tup, dn_list, tup0, tup1, tup2, tup3, lst0, lst1, lst2, lst3, dn_ix, dn_slice, dn_call, call1, call2, call3, call4, call5, rk, dn_callR, dn_b1, dn_b2, dn_isI, dn_isTL, dn_range1, dn_range2, dn_zip, b1_len_l, b1_len_t, b1_tup_l, b1_tup_t, b1_list_l, b1_list_t, b1_int, not_b, neg_i, cmp_lt, cmp_le, cmp_gt, cmp_ge, cmp_is, cmp_isnot, cmp_eqi, cmp_nei, bin_add, bin_sub, zip_t, zip_l, dn_comp, dS_for, bnd_ret, bnd_bnd, fn_eq, fnR_eq, List.map_cons, List.map_nil, List.cons_append, List.nil_append, List.append_nil, List.length_cons, List.length_nil, List.replicate_succ, List.replicate_zero, Nat.sub_self, Nat.reduceAdd, Nat.reduceSub, Nat.zero_add, List.set_cons_zero, List.set_cons_succ, List.getElem?_cons_zero, List.getElem?_cons_succ]
  rfl
def sumOf (r t : List La) : La := latestOf (List.zipWith added r t)
theorem m_sum_of (r t : List La) : f_sum_of [rowD r, rowD t] = ret (optD (sumOf r t)) := by
  unfold f_sum_of B_sum_of rowD
  simp -implicitDefEqProofs only [wipeE, Tg.slots, k_nx, k_rt, e_nx, e_rt, br_t, br_f, dS_nil, dS_seq, dS_nm, own_list, dS_newL, dS_par, sl_f, sl_t, dS_ite, dS_ret, dS_expr, dS_app, ap_own, dS_aug, au_val, dS_frz, fr_own, asB_bool, asI_int, items_l, items_t, dn_nil, dn_cons, dn_star, lo_l, lo_d, vk, dn_var, ok_, dn_own, dn_lit, dn_glob, dn_bin, dn_neg, dn_not, dn_cmp, dn_chain, ch_t, ch_f, dn_and, dn_or, dn_ite, an_t, an_f, or_t, or_f, it_t, it_f, dn_tup, dn_list, tup0, tup1, tup2, tup3, lst0, lst1, lst2, lst3, dn_ix, dn_slice, dn_call, call1, call2, call3, call4, call5, rk, dn_callR, dn_b1, dn_b2, dn_isI, dn_isTL, dn_range1, dn_range2, dn_zip, b1_len_l, b1_len_t, b1_tup_l, b1_tup_t, b1_list_l, b1_list_t, b1_int, not_b, neg_i, cmp_lt, cmp_le, cmp_gt, cmp_ge, cmp_is, cmp_isnot, cmp_eqi, cmp_nei, bin_add, bin_sub, zip_t, zip_l, dn_comp, dS_for, bnd_ret, bnd_bnd, fn_eq, fnR_eq, List.map_cons, List.map_nil, List.cons_append, List.nil_append, List.append_nil, List.length_cons, List.length_nil, List.replicate_succ, List.replicate_zero, Nat.sub_self, Nat.reduceAdd, Nat.reduceSub, Nat.zero_add, List.set_cons_zero, List.set_cons_succ, List.getElem?_cons_zero, List.getElem?_cons_succ, zip_enc]
  rw [cmpMap (g := fun p : La × La => optD (added p.1 p.2)) fun p _ => ⟨_, rfl, rfl, by simp -implicitDefEqProofs only [wipeE, Tg.slots, k_nx, k_rt, e_nx, e_rt, br_t, br_f, dS_nil, dS_seq, dS_nm, own_list, dS_newL, dS_par, sl_f, sl_t, dS_ite, dS_ret, dS_expr, dS_app, ap_own, dS_aug, au_val, dS_frz, fr_own, asB_bool, asI_int, items_l, items_t, dn_nil, dn_cons, dn_star, lo_l, lo_d, vk, dn_var, ok_, dn_own, dn_lit, dn_glob, dn_bin, dn_neg, dn_not, dn_cmp, dn_chain, ch_t, ch_f, dn_and, dn_or, dn_ite, an_t, an_f, or_t, or_f, it_t, it_f, dn_tup, dn_list, tup0, tup1, tup2, tup3, lst0, lst1, lst2, lst3, dn_ix, dn_slice, dn_call, call1, call2, call3, call4, call5, rk, dn_callR, dn_b1, dn_b2, dn_isI, dn_isTL, dn_range1, dn_range2, dn_zip, b1_len_l, b1_len_t, b1_tup_l, b1_tup_t, b1_list_l, b1_list_t, b1_int, not_b, neg_i, cmp_lt, cmp_le, cmp_gt, cmp_ge, cmp_is, cmp_isnot, cmp_eqi, cmp_nei, bin_add, bin_sub, zip_t, zip_l, dn_comp, dS_for, bnd_ret, bnd_bnd, fn_eq, fnR_eq, List.map_cons, List.map_nil, List.cons_append, List.nil_append, List.append_nil, List.length_cons, List.length_nil, List.replicate_succ, List.replicate_zero, Nat.sub_self, Nat.reduceAdd, Nat.reduceSub, Nat.zero_add, List.set_cons_zero, List.set_cons_succ, List.getElem?_cons_zero, List.getElem?_cons_succ, m_added]⟩]
  simp -implicitDefEqProofs only [wipeE, Tg.slots, k_nx, k_rt, e_nx, e_rt, br_t, br_f, dS_nil, dS_seq, dS_nm, own_list, dS_newL, dS_par, sl_f, sl_t, dS_ite, dS_ret, dS_expr, dS_app, ap_own, dS_aug, au_val, dS_frz, fr_own, asB_bool, asI_int, items_l, items_t, dn_nil, dn_cons, dn_star, lo_l, lo_d, vk, dn_var, ok_, dn_own, dn_lit, dn_glob, dn_bin, dn_neg, dn_not, dn_cmp, dn_chain, ch_t, ch_f, dn_and, dn_or, dn_ite, an_t, an_f, or_t, or_f, it_t, it_f, dn_tup, dn_list, tup0, tup1, tup2, tup3, lst0, lst1, lst2, lst3, dn_ix, dn_slice, dn_call, call1, call2, call3, call4, call5, rk, dn_callR, dn_b1, dn_b2, dn_isI, dn_isTL, dn_range1, dn_range2, dn_zip, b1_len_l, b1_len_t, b1_tup_l, b1_tup_t, b1_list_l, b1_list_t, b1_int, not_b, neg_i, cmp_lt, cmp_le, cmp_gt, cmp_ge, cmp_is, cmp_isnot, cmp_eqi, cmp_nei, bin_add, bin_sub, zip_t, zip_l, dn_comp, dS_for, bnd_ret, bnd_bnd, fn_eq, fnR_eq, List.map_cons, List.map_nil, List.cons_append, List.nil_append, List.append_nil, List.length_cons, List.length_nil, List.replicate_succ, List.replicate_zero, Nat.sub_self, Nat.reduceAdd, Nat.reduceSub, Nat.zero_add, List.set_cons_zero, List.set_cons_succ, List.getElem?_cons_zero, List.getElem?_cons_succ, zip_back, m_latest_of]
  rfl
def bothOf (a b : List La) : List La := List.zipWith later a b
def shiftOf (a : List La) (k : Int) : List La := a.map fun x => added x (some k)
theorem bools_map {α : Type} (p : α → Bool) : ∀ xs : List α, boolsOf (xs.map fun x => PyData.bool (p x)) = some (xs.map p)
  | [] => rfl
  | x :: xs => by rw [List.map_cons, boolsOf, bools_map p xs]; rfl
theorem b1_all {α : Type} (p : α → Bool) (xs : List α) : b1D .all (.list (xs.map fun x => PyData.bool (p x))) = ret (.bool (xs.all p)) := by
  show (match boolsOf (xs.map fun x => PyData.bool (p x)) with | some bs => (ret (.bool (bs.all id)) : M D) | none => bad) = _
  rw [bools_map]
  dsimp only
  rw [List.all_map]
  rfl
theorem b1_any {α : Type} (p : α → Bool) (xs : List α) : b1D .any (.list (xs.map fun x => PyData.bool (p x))) = ret (.bool (xs.any p)) := by
  show (match boolsOf (xs.map fun x => PyData.bool (p x)) with | some bs => (ret (.bool (bs.any id)) : M D) | none => bad) = _
  rw [bools_map]
  dsimp only
  rw [List.any_map]
  rfl
def rowBy (a b : List La) : Bool := (a.zip b).all fun p => isBy p.1 p.2
/-! rows as values -/
theorem len_row {r : List La} : b1D .len (rowD r) = ret (.int r.length) := by
  show (ret (.int ((r.map optD).length : Int)) : M D) = _
  rw [List.length_map]
theorem tup_row {r : List La} : isIn (rowD r) .tup = true := rfl
theorem items_row {r : List La} : itemsOf (rowD r) = ret (r.map optD) := rfl
theorem ix_row {r : List La} {k : Nat} {a : La} (h : r[k]? = some a) : ixD (rowD r) (.int k) = ret (optD a) := ix_t (by rw [List.getElem?_map, h]; rfl)
/-! checks of the arguments -/
def lagOk : La → Bool
  | none => true
  | some i => decide (-1000 ≤ i ∧ i ≤ 1000)
theorem m_is_lag (a : La) : f_is_lag [optD a] = ret (.bool (lagOk a)) := by
  cases a with
  | none => rfl
  | some i =>
    unfold f_is_lag B_is_lag optD
    simp -implicitDefEqProofs only [wipeE, Tg.slots, k_nx, k_rt, e_nx, e_rt, br_t, br_f, dS_nil, dS_seq, dS_nm, own_list, dS_newL, dS_par, sl_f, sl_t, dS_ite, dS_ret, dS_expr, dS_app, ap_own, dS_aug, au_val, dS_frz, fr_own, asB_bool, asI_int, items_l, items_t, dn_nil, dn_cons, dn_star, lo_l, lo_d, vk, dn_var, ok_, dn_own, dn_lit, dn_glob, dn_bin, dn_neg, dn_not, dn_cmp, dn_chain, ch_t, ch_f, dn_and, dn_or, dn_ite, an_t, an_f, or_t, or_f, it_t, it_f, dn_tup, dn_list, tup0, tup1, tup2, tup3, lst0, lst1, lst2, lst3, dn_ix, dn_slice, dn_call, call1, call2, call3, call4, call5, rk, dn_callR, dn_b1, dn_b2, dn_isI, dn_isTL, dn_range1, dn_range2, dn_zip, b1_len_l, b1_len_t, b1_tup_l, b1_tup_t, b1_list_l, b1_list_t, b1_int, not_b, neg_i, cmp_lt, cmp_le, cmp_gt, cmp_ge, cmp_is, cmp_isnot, cmp_eqi, cmp_nei, bin_add, bin_sub, zip_t, zip_l, dn_comp, dS_for, bnd_ret, bnd_bnd, fn_eq, fnR_eq, List.map_cons, List.map_nil, List.cons_append, List.nil_append, List.append_nil, List.length_cons, List.length_nil, List.replicate_succ, List.replicate_zero, Nat.sub_self, Nat.reduceAdd, Nat.reduceSub, Nat.zero_add, List.set_cons_zero, List.set_cons_succ, List.getElem?_cons_zero, List.getElem?_cons_succ, m_is_int, isNone, isIn]
    simp only [Bool.not_false, Bool.and_self, an_t, Bool.true_and]
    simp -implicitDefEqProofs only [wipeE, Tg.slots, k_nx, k_rt, e_nx, e_rt, br_t, br_f, dS_nil, dS_seq, dS_nm, own_list, dS_newL, dS_par, sl_f, sl_t, dS_ite, dS_ret, dS_expr, dS_app, ap_own, dS_aug, au_val, dS_frz, fr_own, asB_bool, asI_int, items_l, items_t, dn_nil, dn_cons, dn_star, lo_l, lo_d, vk, dn_var, ok_, dn_own, dn_lit, dn_glob, dn_bin, dn_neg, dn_not, dn_cmp, dn_chain, ch_t, ch_f, dn_and, dn_or, dn_ite, an_t, an_f, or_t, or_f, it_t, it_f, dn_tup, dn_list, tup0, tup1, tup2, tup3, lst0, lst1, lst2, lst3, dn_ix, dn_slice, dn_call, call1, call2, call3, call4, call5, rk, dn_callR, dn_b1, dn_b2, dn_isI, dn_isTL, dn_range1, dn_range2, dn_zip, b1_len_l, b1_len_t, b1_tup_l, b1_tup_t, b1_list_l, b1_list_t, b1_int, not_b, neg_i, cmp_lt, cmp_le, cmp_gt, cmp_ge, cmp_is, cmp_isnot, cmp_eqi, cmp_nei, bin_add, bin_sub, zip_t, zip_l, dn_comp, dS_for, bnd_ret, bnd_bnd, fn_eq, fnR_eq, List.map_cons, List.map_nil, List.cons_append, List.nil_append, List.append_nil, List.length_cons, List.length_nil, List.replicate_succ, List.replicate_zero, Nat.sub_self, Nat.reduceAdd, Nat.reduceSub, Nat.zero_add, List.set_cons_zero, List.set_cons_succ, List.getElem?_cons_zero, List.getElem?_cons_succ]
    unfold lagOk
    by_cases h1 : (-1000 : Int) ≤ i
    · simp only [h1, decide_true, ch_t]
      simp -implicitDefEqProofs only [wipeE, Tg.slots, k_nx, k_rt, e_nx, e_rt, br_t, br_f, dS_nil, dS_seq, dS_nm, own_list, dS_newL, dS_par, sl_f, sl_t, dS_ite, dS_ret, dS_expr, dS_app, ap_own, dS_aug, au_val, dS_frz, fr_own, asB_bool, asI_int, items_l, items_t, dn_nil, dn_cons, dn_star, lo_l, lo_d, vk, dn_var, ok_, dn_own, dn_lit, dn_glob, dn_bin, dn_neg, dn_not, dn_cmp, dn_chain, ch_t, ch_f, dn_and, dn_or, dn_ite, an_t, an_f, or_t, or_f, it_t, it_f, dn_tup, dn_list, tup0, tup1, tup2, tup3, lst0, lst1, lst2, lst3, dn_ix, dn_slice, dn_call, call1, call2, call3, call4, call5, rk, dn_callR, dn_b1, dn_b2, dn_isI, dn_isTL, dn_range1, dn_range2, dn_zip, b1_len_l, b1_len_t, b1_tup_l, b1_tup_t, b1_list_l, b1_list_t, b1_int, not_b, neg_i, cmp_lt, cmp_le, cmp_gt, cmp_ge, cmp_is, cmp_isnot, cmp_eqi, cmp_nei, bin_add, bin_sub, zip_t, zip_l, dn_comp, dS_for, bnd_ret, bnd_bnd, fn_eq, fnR_eq, List.map_cons, List.map_nil, List.cons_append, List.nil_append, List.append_nil, List.length_cons, List.length_nil, List.replicate_succ, List.replicate_zero, Nat.sub_self, Nat.reduceAdd, Nat.reduceSub, Nat.zero_add, List.set_cons_zero, List.set_cons_succ, List.getElem?_cons_zero, List.getElem?_cons_succ]
      simp
    · simp only [h1, decide_false, ch_f]
      simp -implicitDefEqProofs only [wipeE, Tg.slots, k_nx, k_rt, e_nx, e_rt, br_t, br_f, dS_nil, dS_seq, dS_nm, own_list, dS_newL, dS_par, sl_f, sl_t, dS_ite, dS_ret, dS_expr, dS_app, ap_own, dS_aug, au_val, dS_frz, fr_own, asB_bool, asI_int, items_l, items_t, dn_nil, dn_cons, dn_star, lo_l, lo_d, vk, dn_var, ok_, dn_own, dn_lit, dn_glob, dn_bin, dn_neg, dn_not, dn_cmp, dn_chain, ch_t, ch_f, dn_and, dn_or, dn_ite, an_t, an_f, or_t, or_f, it_t, it_f, dn_tup, dn_list, tup0, tup1, tup2, tup3, lst0, lst1, lst2, lst3, dn_ix, dn_slice, dn_call, call1, call2, call3, call4, call5, rk, dn_callR, dn_b1, dn_b2, dn_isI, dn_isTL, dn_range1, dn_range2, dn_zip, b1_len_l, b1_len_t, b1_tup_l, b1_tup_t, b1_list_l, b1_list_t, b1_int, not_b, neg_i, cmp_lt, cmp_le, cmp_gt, cmp_ge, cmp_is, cmp_isnot, cmp_eqi, cmp_nei, bin_add, bin_sub, zip_t, zip_l, dn_comp, dS_for, bnd_ret, bnd_bnd, fn_eq, fnR_eq, List.map_cons, List.map_nil, List.cons_append, List.nil_append, List.append_nil, List.length_cons, List.length_nil, List.replicate_succ, List.replicate_zero, Nat.sub_self, Nat.reduceAdd, Nat.reduceSub, Nat.zero_add, List.set_cons_zero, List.set_cons_succ, List.getElem?_cons_zero, List.getElem?_cons_succ]
      simp
def rowOk (r : List La) (wide : Nat) : Prop := r.length = wide ∧ ∀ x ∈ r, lagOk x = true
theorem m_is_row {r : List La} {wide : Nat} (h : rowOk r wide) : f_is_row [rowD r, .int wide] = ret (.bool true) := by
  unfold f_is_row B_is_row
  simp -implicitDefEqProofs only [wipeE, Tg.slots, k_nx, k_rt, e_nx, e_rt, br_t, br_f, dS_nil, dS_seq, dS_nm, own_list, dS_newL, dS_par, sl_f, sl_t, dS_ite, dS_ret, dS_expr, dS_app, ap_own, dS_aug, au_val, dS_frz, fr_own, asB_bool, asI_int, items_l, items_t, dn_nil, dn_cons, dn_star, lo_l, lo_d, vk, dn_var, ok_, dn_own, dn_lit, dn_glob, dn_bin, dn_neg, dn_not, dn_cmp, dn_chain, ch_t, ch_f, dn_and, dn_or, dn_ite, an_t, an_f, or_t, or_f, it_t, it_f, dn_tup, dn_list, tup0, tup1, tup2, tup3, lst0, lst1, lst2, lst3, dn_ix, dn_slice, dn_call, call1, call2, call3, call4, call5, rk, dn_callR, dn_b1, dn_b2, dn_isI, dn_isTL, dn_range1, dn_range2, dn_zip, b1_len_l, b1_len_t, b1_tup_l, b1_tup_t, b1_list_l, b1_list_t, b1_int, not_b, neg_i, cmp_lt, cmp_le, cmp_gt, cmp_ge, cmp_is, cmp_isnot, cmp_eqi, cmp_nei, bin_add, bin_sub, zip_t, zip_l, dn_comp, dS_for, bnd_ret, bnd_bnd, fn_eq, fnR_eq, List.map_cons, List.map_nil, List.cons_append, List.nil_append, List.append_nil, List.length_cons, List.length_nil, List.replicate_succ, List.replicate_zero, Nat.sub_self, Nat.reduceAdd, Nat.reduceSub, Nat.zero_add, List.set_cons_zero, List.set_cons_succ, List.getElem?_cons_zero, List.getElem?_cons_succ, tup_row, len_row, h.1, decide_true, items_row]
  rw [cmpMap (g := fun x : La => PyData.bool (lagOk x)) fun p _ => ⟨_, rfl, rfl, by simp -implicitDefEqProofs only [wipeE, Tg.slots, k_nx, k_rt, e_nx, e_rt, br_t, br_f, dS_nil, dS_seq, dS_nm, own_list, dS_newL, dS_par, sl_f, sl_t, dS_ite, dS_ret, dS_expr, dS_app, ap_own, dS_aug, au_val, dS_frz, fr_own, asB_bool, asI_int, items_l, items_t, dn_nil, dn_cons, dn_star, lo_l, lo_d, vk, dn_var, ok_, dn_own, dn_lit, dn_glob, dn_bin, dn_neg, dn_not, dn_cmp, dn_chain, ch_t, ch_f, dn_and, dn_or, dn_ite, an_t, an_f, or_t, or_f, it_t, it_f, dn_tup, dn_list, tup0, tup1, tup2, tup3, lst0, lst1, lst2, lst3, dn_ix, dn_slice, dn_call, call1, call2, call3, call4, call5, rk, dn_callR, dn_b1, dn_b2, dn_isI, dn_isTL, dn_range1, dn_range2, dn_zip, b1_len_l, b1_len_t, b1_tup_l, b1_tup_t, b1_list_l, b1_list_t, b1_int, not_b, neg_i, cmp_lt, cmp_le, cmp_gt, cmp_ge, cmp_is, cmp_isnot, cmp_eqi, cmp_nei, bin_add, bin_sub, zip_t, zip_l, dn_comp, dS_for, bnd_ret, bnd_bnd, fn_eq, fnR_eq, List.map_cons, List.map_nil, List.cons_append, List.nil_append, List.append_nil, List.length_cons, List.length_nil, List.replicate_succ, List.replicate_zero, Nat.sub_self, Nat.reduceAdd, Nat.reduceSub, Nat.zero_add, List.set_cons_zero, List.set_cons_succ, List.getElem?_cons_zero, List.getElem?_cons_succ, m_is_lag]⟩]
  simp -implicitDefEqProofs only [wipeE, Tg.slots, k_nx, k_rt, e_nx, e_rt, br_t, br_f, dS_nil, dS_seq, dS_nm, own_list, dS_newL, dS_par, sl_f, sl_t, dS_ite, dS_ret, dS_expr, dS_app, ap_own, dS_aug, au_val, dS_frz, fr_own, asB_bool, asI_int, items_l, items_t, dn_nil, dn_cons, dn_star, lo_l, lo_d, vk, dn_var, ok_, dn_own, dn_lit, dn_glob, dn_bin, dn_neg, dn_not, dn_cmp, dn_chain, ch_t, ch_f, dn_and, dn_or, dn_ite, an_t, an_f, or_t, or_f, it_t, it_f, dn_tup, dn_list, tup0, tup1, tup2, tup3, lst0, lst1, lst2, lst3, dn_ix, dn_slice, dn_call, call1, call2, call3, call4, call5, rk, dn_callR, dn_b1, dn_b2, dn_isI, dn_isTL, dn_range1, dn_range2, dn_zip, b1_len_l, b1_len_t, b1_tup_l, b1_tup_t, b1_list_l, b1_list_t, b1_int, not_b, neg_i, cmp_lt, cmp_le, cmp_gt, cmp_ge, cmp_is, cmp_isnot, cmp_eqi, cmp_nei, bin_add, bin_sub, zip_t, zip_l, dn_comp, dS_for, bnd_ret, bnd_bnd, fn_eq, fnR_eq, List.map_cons, List.map_nil, List.cons_append, List.nil_append, List.append_nil, List.length_cons, List.length_nil, List.replicate_succ, List.replicate_zero, Nat.sub_self, Nat.reduceAdd, Nat.reduceSub, Nat.zero_add, List.set_cons_zero, List.set_cons_succ, List.getElem?_cons_zero, List.getElem?_cons_succ, b1_all]
  rw [List.all_eq_true.mpr h.2]
theorem m_need_wide {r : List La} {wide : Nat} (h : rowOk r wide) : f_need_wide [rowD r, .int wide] = ret .none := by
  unfold f_need_wide B_need_wide
  simp -implicitDefEqProofs only [wipeE, Tg.slots, k_nx, k_rt, e_nx, e_rt, br_t, br_f, dS_nil, dS_seq, dS_nm, own_list, dS_newL, dS_par, sl_f, sl_t, dS_ite, dS_ret, dS_expr, dS_app, ap_own, dS_aug, au_val, dS_frz, fr_own, asB_bool, asI_int, items_l, items_t, dn_nil, dn_cons, dn_star, lo_l, lo_d, vk, dn_var, ok_, dn_own, dn_lit, dn_glob, dn_bin, dn_neg, dn_not, dn_cmp, dn_chain, ch_t, ch_f, dn_and, dn_or, dn_ite, an_t, an_f, or_t, or_f, it_t, it_f, dn_tup, dn_list, tup0, tup1, tup2, tup3, lst0, lst1, lst2, lst3, dn_ix, dn_slice, dn_call, call1, call2, call3, call4, call5, rk, dn_callR, dn_b1, dn_b2, dn_isI, dn_isTL, dn_range1, dn_range2, dn_zip, b1_len_l, b1_len_t, b1_tup_l, b1_tup_t, b1_list_l, b1_list_t, b1_int, not_b, neg_i, cmp_lt, cmp_le, cmp_gt, cmp_ge, cmp_is, cmp_isnot, cmp_eqi, cmp_nei, bin_add, bin_sub, zip_t, zip_l, dn_comp, dS_for, bnd_ret, bnd_bnd, fn_eq, fnR_eq, List.map_cons, List.map_nil, List.cons_append, List.nil_append, List.append_nil, List.length_cons, List.length_nil, List.replicate_succ, List.replicate_zero, Nat.sub_self, Nat.reduceAdd, Nat.reduceSub, Nat.zero_add, List.set_cons_zero, List.set_cons_succ, List.getElem?_cons_zero, List.getElem?_cons_succ, m_is_row h, Bool.not_true]
/-! tables -/
def tabOk (t : List (List La)) (high wide : Nat) : Prop := t.length = high ∧ 1 ≤ high ∧ high ≤ 6 ∧ 1 ≤ wide ∧ wide ≤ 6 ∧ ∀ r ∈ t, rowOk r wide
theorem len_tab {t : List (List La)} : b1D .len (tabD t) = ret (.int t.length) := by
  show (ret (.int ((t.map rowD).length : Int)) : M D) = _
  rw [List.length_map]
theorem tup_tab {t : List (List La)} : isIn (tabD t) .tup = true := rfl
theorem items_tab {t : List (List La)} : itemsOf (tabD t) = ret (t.map rowD) := rfl
theorem ix_tab {t : List (List La)} {k : Nat} {a : List La} (h : t[k]? = some a) : ixD (tabD t) (.int k) = ret (rowD a) := ix_t (by rw [List.getElem?_map, h]; rfl)
theorem ix_tab0 {t : List (List La)} {a : List La} (h : t[0]? = some a) : ixD (tabD t) (.int 0) = ret (rowD a) := ix_tab (k := 0) h
theorem tabOk.head {t : List (List La)} {high wide : Nat} (h : tabOk t high wide) : ∃ r, t[0]? = some r ∧ r.length = wide := by
  obtain ⟨h1, h2, _, _, _, h6⟩ := h
  cases t with
  | nil => simp at h1; omega
  | cons r t => exact ⟨r, rfl, (h6 r (List.mem_cons_self ..)).1⟩
theorem m_need_table {t : List (List La)} {high wide : Nat} (h : tabOk t high wide) : f_need_table [tabD t] = ret .none := by
  obtain ⟨r0, e0, l0⟩ := h.head
  obtain ⟨h1, h2, h3, h4, h5, h6⟩ := h
  unfold f_need_table B_need_table
  have c1 : decide ((1 : Int) ≤ high) = true := by simp; omega
  have c2 : decide ((high : Int) ≤ 6) = true := by simp; omega
  have c3 : decide ((1 : Int) ≤ wide) = true := by simp; omega
  have c4 : decide ((wide : Int) ≤ 6) = true := by simp; omega
  simp -implicitDefEqProofs only [wipeE, Tg.slots, k_nx, k_rt, e_nx, e_rt, br_t, br_f, dS_nil, dS_seq, dS_nm, own_list, dS_newL, dS_par, sl_f, sl_t, dS_ite, dS_ret, dS_expr, dS_app, ap_own, dS_aug, au_val, dS_frz, fr_own, asB_bool, asI_int, items_l, items_t, dn_nil, dn_cons, dn_star, lo_l, lo_d, vk, dn_var, ok_, dn_own, dn_lit, dn_glob, dn_bin, dn_neg, dn_not, dn_cmp, dn_chain, ch_t, ch_f, dn_and, dn_or, dn_ite, an_t, an_f, or_t, or_f, it_t, it_f, dn_tup, dn_list, tup0, tup1, tup2, tup3, lst0, lst1, lst2, lst3, dn_ix, dn_slice, dn_call, call1, call2, call3, call4, call5, rk, dn_callR, dn_b1, dn_b2, dn_isI, dn_isTL, dn_range1, dn_range2, dn_zip, b1_len_l, b1_len_t, b1_tup_l, b1_tup_t, b1_list_l, b1_list_t, b1_int, not_b, neg_i, cmp_lt, cmp_le, cmp_gt, cmp_ge, cmp_is, cmp_isnot, cmp_eqi, cmp_nei, bin_add, bin_sub, zip_t, zip_l, dn_comp, dS_for, bnd_ret, bnd_bnd, fn_eq, fnR_eq, List.map_cons, List.map_nil, List.cons_append, List.nil_append, List.append_nil, List.length_cons, List.length_nil, List.replicate_succ, List.replicate_zero, Nat.sub_self, Nat.reduceAdd, Nat.reduceSub, Nat.zero_add, List.set_cons_zero, List.set_cons_succ, List.getElem?_cons_zero, List.getElem?_cons_succ, tup_tab, len_tab, h1, Bool.not_true, c1, c2, ix_tab0 e0, tup_row, len_row, l0, c3, c4, items_tab]
  rw [cmpMap (g := fun _ : List La => PyData.bool true) fun p hp => ⟨_, rfl, rfl, by simp -implicitDefEqProofs only [wipeE, Tg.slots, k_nx, k_rt, e_nx, e_rt, br_t, br_f, dS_nil, dS_seq, dS_nm, own_list, dS_newL, dS_par, sl_f, sl_t, dS_ite, dS_ret, dS_expr, dS_app, ap_own, dS_aug, au_val, dS_frz, fr_own, asB_bool, asI_int, items_l, items_t, dn_nil, dn_cons, dn_star, lo_l, lo_d, vk, dn_var, ok_, dn_own, dn_lit, dn_glob, dn_bin, dn_neg, dn_not, dn_cmp, dn_chain, ch_t, ch_f, dn_and, dn_or, dn_ite, an_t, an_f, or_t, or_f, it_t, it_f, dn_tup, dn_list, tup0, tup1, tup2, tup3, lst0, lst1, lst2, lst3, dn_ix, dn_slice, dn_call, call1, call2, call3, call4, call5, rk, dn_callR, dn_b1, dn_b2, dn_isI, dn_isTL, dn_range1, dn_range2, dn_zip, b1_len_l, b1_len_t, b1_tup_l, b1_tup_t, b1_list_l, b1_list_t, b1_int, not_b, neg_i, cmp_lt, cmp_le, cmp_gt, cmp_ge, cmp_is, cmp_isnot, cmp_eqi, cmp_nei, bin_add, bin_sub, zip_t, zip_l, dn_comp, dS_for, bnd_ret, bnd_bnd, fn_eq, fnR_eq, List.map_cons, List.map_nil, List.cons_append, List.nil_append, List.append_nil, List.length_cons, List.length_nil, List.replicate_succ, List.replicate_zero, Nat.sub_self, Nat.reduceAdd, Nat.reduceSub, Nat.zero_add, List.set_cons_zero, List.set_cons_succ, List.getElem?_cons_zero, List.getElem?_cons_succ, ix_tab0 e0, len_row, l0, m_is_row (h6 p hp)]⟩]
  simp -implicitDefEqProofs only [wipeE, Tg.slots, k_nx, k_rt, e_nx, e_rt, br_t, br_f, dS_nil, dS_seq, dS_nm, own_list, dS_newL, dS_par, sl_f, sl_t, dS_ite, dS_ret, dS_expr, dS_app, ap_own, dS_aug, au_val, dS_frz, fr_own, asB_bool, asI_int, items_l, items_t, dn_nil, dn_cons, dn_star, lo_l, lo_d, vk, dn_var, ok_, dn_own, dn_lit, dn_glob, dn_bin, dn_neg, dn_not, dn_cmp, dn_chain, ch_t, ch_f, dn_and, dn_or, dn_ite, an_t, an_f, or_t, or_f, it_t, it_f, dn_tup, dn_list, tup0, tup1, tup2, tup3, lst0, lst1, lst2, lst3, dn_ix, dn_slice, dn_call, call1, call2, call3, call4, call5, rk, dn_callR, dn_b1, dn_b2, dn_isI, dn_isTL, dn_range1, dn_range2, dn_zip, b1_len_l, b1_len_t, b1_tup_l, b1_tup_t, b1_list_l, b1_list_t, b1_int, not_b, neg_i, cmp_lt, cmp_le, cmp_gt, cmp_ge, cmp_is, cmp_isnot, cmp_eqi, cmp_nei, bin_add, bin_sub, zip_t, zip_l, dn_comp, dS_for, bnd_ret, bnd_bnd, fn_eq, fnR_eq, List.map_cons, List.map_nil, List.cons_append, List.nil_append, List.append_nil, List.length_cons, List.length_nil, List.replicate_succ, List.replicate_zero, Nat.sub_self, Nat.reduceAdd, Nat.reduceSub, Nat.zero_add, List.set_cons_zero, List.set_cons_succ, List.getElem?_cons_zero, List.getElem?_cons_succ, b1_all]
  rw [show (t.all fun _ => true) = true from List.all_eq_true.mpr fun _ _ => rfl]
  simp -implicitDefEqProofs only [wipeE, Tg.slots, k_nx, k_rt, e_nx, e_rt, br_t, br_f, dS_nil, dS_seq, dS_nm, own_list, dS_newL, dS_par, sl_f, sl_t, dS_ite, dS_ret, dS_expr, dS_app, ap_own, dS_aug, au_val, dS_frz, fr_own, asB_bool, asI_int, items_l, items_t, dn_nil, dn_cons, dn_star, lo_l, lo_d, vk, dn_var, ok_, dn_own, dn_lit, dn_glob, dn_bin, dn_neg, dn_not, dn_cmp, dn_chain, ch_t, ch_f, dn_and, dn_or, dn_ite, an_t, an_f, or_t, or_f, it_t, it_f, dn_tup, dn_list, tup0, tup1, tup2, tup3, lst0, lst1, lst2, lst3, dn_ix, dn_slice, dn_call, call1, call2, call3, call4, call5, rk, dn_callR, dn_b1, dn_b2, dn_isI, dn_isTL, dn_range1, dn_range2, dn_zip, b1_len_l, b1_len_t, b1_tup_l, b1_tup_t, b1_list_l, b1_list_t, b1_int, not_b, neg_i, cmp_lt, cmp_le, cmp_gt, cmp_ge, cmp_is, cmp_isnot, cmp_eqi, cmp_nei, bin_add, bin_sub, zip_t, zip_l, dn_comp, dS_for, bnd_ret, bnd_bnd, fn_eq, fnR_eq, List.map_cons, List.map_nil, List.cons_append, List.nil_append, List.append_nil, List.length_cons, List.length_nil, List.replicate_succ, List.replicate_zero, Nat.sub_self, Nat.reduceAdd, Nat.reduceSub, Nat.zero_add, List.set_cons_zero, List.set_cons_succ, List.getElem?_cons_zero, List.getElem?_cons_succ, Bool.not_true]
def applyOf (t : List (List La)) (x : List La) : List La := t.map fun r => sumOf r x
theorem m_apply_of (t : List (List La)) (x : List La) : f_apply_of [tabD t, rowD x] = ret (rowD (applyOf t x)) := by
  unfold f_apply_of B_apply_of
  simp -implicitDefEqProofs only [wipeE, Tg.slots, k_nx, k_rt, e_nx, e_rt, br_t, br_f, dS_nil, dS_seq, dS_nm, own_list, dS_newL, dS_par, sl_f, sl_t, dS_ite, dS_ret, dS_expr, dS_app, ap_own, dS_aug, au_val, dS_frz, fr_own, asB_bool, asI_int, items_l, items_t, dn_nil, dn_cons, dn_star, lo_l, lo_d, vk, dn_var, ok_, dn_own, dn_lit, dn_glob, dn_bin, dn_neg, dn_not, dn_cmp, dn_chain, ch_t, ch_f, dn_and, dn_or, dn_ite, an_t, an_f, or_t, or_f, it_t, it_f, dn_tup, dn_list, tup0, tup1, tup2, tup3, lst0, lst1, lst2, lst3, dn_ix, dn_slice, dn_call, call1, call2, call3, call4, call5, rk, dn_callR, dn_b1, dn_b2, dn_isI, dn_isTL, dn_range1, dn_range2, dn_zip, b1_len_l, b1_len_t, b1_tup_l, b1_tup_t, b1_list_l, b1_list_t, b1_int, not_b, neg_i, cmp_lt, cmp_le, cmp_gt, cmp_ge, cmp_is, cmp_isnot, cmp_eqi, cmp_nei, bin_add, bin_sub, zip_t, zip_l, dn_comp, dS_for, bnd_ret, bnd_bnd, fn_eq, fnR_eq, List.map_cons, List.map_nil, List.cons_append, List.nil_append, List.append_nil, List.length_cons, List.length_nil, List.replicate_succ, List.replicate_zero, Nat.sub_self, Nat.reduceAdd, Nat.reduceSub, Nat.zero_add, List.set_cons_zero, List.set_cons_succ, List.getElem?_cons_zero, List.getElem?_cons_succ, items_tab]
  rw [cmpMap (g := fun r : List La => optD (sumOf r x)) fun p hp => ⟨_, rfl, rfl, by simp -implicitDefEqProofs only [wipeE, Tg.slots, k_nx, k_rt, e_nx, e_rt, br_t, br_f, dS_nil, dS_seq, dS_nm, own_list, dS_newL, dS_par, sl_f, sl_t, dS_ite, dS_ret, dS_expr, dS_app, ap_own, dS_aug, au_val, dS_frz, fr_own, asB_bool, asI_int, items_l, items_t, dn_nil, dn_cons, dn_star, lo_l, lo_d, vk, dn_var, ok_, dn_own, dn_lit, dn_glob, dn_bin, dn_neg, dn_not, dn_cmp, dn_chain, ch_t, ch_f, dn_and, dn_or, dn_ite, an_t, an_f, or_t, or_f, it_t, it_f, dn_tup, dn_list, tup0, tup1, tup2, tup3, lst0, lst1, lst2, lst3, dn_ix, dn_slice, dn_call, call1, call2, call3, call4, call5, rk, dn_callR, dn_b1, dn_b2, dn_isI, dn_isTL, dn_range1, dn_range2, dn_zip, b1_len_l, b1_len_t, b1_tup_l, b1_tup_t, b1_list_l, b1_list_t, b1_int, not_b, neg_i, cmp_lt, cmp_le, cmp_gt, cmp_ge, cmp_is, cmp_isnot, cmp_eqi, cmp_nei, bin_add, bin_sub, zip_t, zip_l, dn_comp, dS_for, bnd_ret, bnd_bnd, fn_eq, fnR_eq, List.map_cons, List.map_nil, List.cons_append, List.nil_append, List.append_nil, List.length_cons, List.length_nil, List.replicate_succ, List.replicate_zero, Nat.sub_self, Nat.reduceAdd, Nat.reduceSub, Nat.zero_add, List.set_cons_zero, List.set_cons_succ, List.getElem?_cons_zero, List.getElem?_cons_succ, m_sum_of]⟩]
  simp -implicitDefEqProofs only [wipeE, Tg.slots, k_nx, k_rt, e_nx, e_rt, br_t, br_f, dS_nil, dS_seq, dS_nm, own_list, dS_newL, dS_par, sl_f, sl_t, dS_ite, dS_ret, dS_expr, dS_app, ap_own, dS_aug, au_val, dS_frz, fr_own, asB_bool, asI_int, items_l, items_t, dn_nil, dn_cons, dn_star, lo_l, lo_d, vk, dn_var, ok_, dn_own, dn_lit, dn_glob, dn_bin, dn_neg, dn_not, dn_cmp, dn_chain, ch_t, ch_f, dn_and, dn_or, dn_ite, an_t, an_f, or_t, or_f, it_t, it_f, dn_tup, dn_list, tup0, tup1, tup2, tup3, lst0, lst1, lst2, lst3, dn_ix, dn_slice, dn_call, call1, call2, call3, call4, call5, rk, dn_callR, dn_b1, dn_b2, dn_isI, dn_isTL, dn_range1, dn_range2, dn_zip, b1_len_l, b1_len_t, b1_tup_l, b1_tup_t, b1_list_l, b1_list_t, b1_int, not_b, neg_i, cmp_lt, cmp_le, cmp_gt, cmp_ge, cmp_is, cmp_isnot, cmp_eqi, cmp_nei, bin_add, bin_sub, zip_t, zip_l, dn_comp, dS_for, bnd_ret, bnd_bnd, fn_eq, fnR_eq, List.map_cons, List.map_nil, List.cons_append, List.nil_append, List.append_nil, List.length_cons, List.length_nil, List.replicate_succ, List.replicate_zero, Nat.sub_self, Nat.reduceAdd, Nat.reduceSub, Nat.zero_add, List.set_cons_zero, List.set_cons_succ, List.getElem?_cons_zero, List.getElem?_cons_succ]
  unfold rowD applyOf
  rw [List.map_map]
  rfl
def colOf (t : List (List La)) (k : Nat) : List La := t.map fun r => (r[k]?).getD none
def turnedOf (t : List (List La)) (wide : Nat) : List (List La) := (List.range wide).map (colOf t)
theorem getD_ok {r : List La} {k : Nat} (h : k < r.length) : r[k]? = some ((r[k]?).getD none) := by
  rw [List.getElem?_eq_getElem h]; rfl
theorem col_comp {t : List (List La)} {wide k : Nat} (h : ∀ r ∈ t, rowOk r wide) (hk : k < wide) (x : Sl) : compK (.ix (.var 2) (.var 1)) (.nm 2) (.lit (.bool true)) [.val (tabD t), .val (.int k), x] (t.map rowD) = ret (.list ((colOf t k).map optD)) := by
  rw [cmpMap (g := fun r : List La => optD ((r[k]?).getD none)) fun r hr => ⟨_, rfl, rfl, by
      simp -implicitDefEqProofs only [wipeE, Tg.slots, k_nx, k_rt, e_nx, e_rt, br_t, br_f, dS_nil, dS_seq, dS_nm, own_list, dS_newL, dS_par, sl_f, sl_t, dS_ite, dS_ret, dS_expr, dS_app, ap_own, dS_aug, au_val, dS_frz, fr_own, asB_bool, asI_int, items_l, items_t, dn_nil, dn_cons, dn_star, lo_l, lo_d, vk, dn_var, ok_, dn_own, dn_lit, dn_glob, dn_bin, dn_neg, dn_not, dn_cmp, dn_chain, ch_t, ch_f, dn_and, dn_or, dn_ite, an_t, an_f, or_t, or_f, it_t, it_f, dn_tup, dn_list, tup0, tup1, tup2, tup3, lst0, lst1, lst2, lst3, dn_ix, dn_slice, dn_call, call1, call2, call3, call4, call5, rk, dn_callR, dn_b1, dn_b2, dn_isI, dn_isTL, dn_range1, dn_range2, dn_zip, b1_len_l, b1_len_t, b1_tup_l, b1_tup_t, b1_list_l, b1_list_t, b1_int, not_b, neg_i, cmp_lt, cmp_le, cmp_gt, cmp_ge, cmp_is, cmp_isnot, cmp_eqi, cmp_nei, bin_add, bin_sub, zip_t, zip_l, dn_comp, dS_for, bnd_ret, bnd_bnd, fn_eq, fnR_eq, List.map_cons, List.map_nil, List.cons_append, List.nil_append, List.append_nil, List.length_cons, List.length_nil, List.replicate_succ, List.replicate_zero, Nat.sub_self, Nat.reduceAdd, Nat.reduceSub, Nat.zero_add, List.set_cons_zero, List.set_cons_succ, List.getElem?_cons_zero, List.getElem?_cons_succ, ix_row (getD_ok (show k < r.length by rw [(h r hr).1]; exact hk))]⟩]
  unfold colOf
  rw [List.map_map]
  rfl
theorem m_turned_of {t : List (List La)} {high wide : Nat} (h : tabOk t high wide) : f_turned_of [tabD t] = ret (tabD (turnedOf t wide)) := by
  obtain ⟨r0, e0, l0⟩ := h.head
  obtain ⟨h1, h2, h3, h4, h5, h6⟩ := h
  unfold f_turned_of B_turned_of
  have hw : wide ≤ 1000 := by omega
  simp -implicitDefEqProofs only [wipeE, Tg.slots, k_nx, k_rt, e_nx, e_rt, br_t, br_f, dS_nil, dS_seq, dS_nm, own_list, dS_newL, dS_par, sl_f, sl_t, dS_ite, dS_ret, dS_expr, dS_app, ap_own, dS_aug, au_val, dS_frz, fr_own, asB_bool, asI_int, items_l, items_t, dn_nil, dn_cons, dn_star, lo_l, lo_d, vk, dn_var, ok_, dn_own, dn_lit, dn_glob, dn_bin, dn_neg, dn_not, dn_cmp, dn_chain, ch_t, ch_f, dn_and, dn_or, dn_ite, an_t, an_f, or_t, or_f, it_t, it_f, dn_tup, dn_list, tup0, tup1, tup2, tup3, lst0, lst1, lst2, lst3, dn_ix, dn_slice, dn_call, call1, call2, call3, call4, call5, rk, dn_callR, dn_b1, dn_b2, dn_isI, dn_isTL, dn_range1, dn_range2, dn_zip, b1_len_l, b1_len_t, b1_tup_l, b1_tup_t, b1_list_l, b1_list_t, b1_int, not_b, neg_i, cmp_lt, cmp_le, cmp_gt, cmp_ge, cmp_is, cmp_isnot, cmp_eqi, cmp_nei, bin_add, bin_sub, zip_t, zip_l, dn_comp, dS_for, bnd_ret, bnd_bnd, fn_eq, fnR_eq, List.map_cons, List.map_nil, List.cons_append, List.nil_append, List.append_nil, List.length_cons, List.length_nil, List.replicate_succ, List.replicate_zero, Nat.sub_self, Nat.reduceAdd, Nat.reduceSub, Nat.zero_add, List.set_cons_zero, List.set_cons_succ, List.getElem?_cons_zero, List.getElem?_cons_succ, ix_tab0 e0, len_row, l0, range0 hw]
  rw [cmpMap (xs := List.range wide) (enc := fun (k : Nat) => PyData.int (k : Int)) (g := fun k => rowD (colOf t k)) fun k hk => ⟨[.val (tabD t), .val (.int k), .no], rfl, rfl, by
    simp -implicitDefEqProofs only [wipeE, Tg.slots, k_nx, k_rt, e_nx, e_rt, br_t, br_f, dS_nil, dS_seq, dS_nm, own_list, dS_newL, dS_par, sl_f, sl_t, dS_ite, dS_ret, dS_expr, dS_app, ap_own, dS_aug, au_val, dS_frz, fr_own, asB_bool, asI_int, items_l, items_t, dn_nil, dn_cons, dn_star, lo_l, lo_d, vk, dn_var, ok_, dn_own, dn_lit, dn_glob, dn_bin, dn_neg, dn_not, dn_cmp, dn_chain, ch_t, ch_f, dn_and, dn_or, dn_ite, an_t, an_f, or_t, or_f, it_t, it_f, dn_tup, dn_list, tup0, tup1, tup2, tup3, lst0, lst1, lst2, lst3, dn_ix, dn_slice, dn_call, call1, call2, call3, call4, call5, rk, dn_callR, dn_b1, dn_b2, dn_isI, dn_isTL, dn_range1, dn_range2, dn_zip, b1_len_l, b1_len_t, b1_tup_l, b1_tup_t, b1_list_l, b1_list_t, b1_int, not_b, neg_i, cmp_lt, cmp_le, cmp_gt, cmp_ge, cmp_is, cmp_isnot, cmp_eqi, cmp_nei, bin_add, bin_sub, zip_t, zip_l, dn_comp, dS_for, bnd_ret, bnd_bnd, fn_eq, fnR_eq, List.map_cons, List.map_nil, List.cons_append, List.nil_append, List.append_nil, List.length_cons, List.length_nil, List.replicate_succ, List.replicate_zero, Nat.sub_self, Nat.reduceAdd, Nat.reduceSub, Nat.zero_add, List.set_cons_zero, List.set_cons_succ, List.getElem?_cons_zero, List.getElem?_cons_succ, items_tab, col_comp h6 (List.mem_range.mp hk)]
    rfl⟩]
  simp -implicitDefEqProofs only [wipeE, Tg.slots, k_nx, k_rt, e_nx, e_rt, br_t, br_f, dS_nil, dS_seq, dS_nm, own_list, dS_newL, dS_par, sl_f, sl_t, dS_ite, dS_ret, dS_expr, dS_app, ap_own, dS_aug, au_val, dS_frz, fr_own, asB_bool, asI_int, items_l, items_t, dn_nil, dn_cons, dn_star, lo_l, lo_d, vk, dn_var, ok_, dn_own, dn_lit, dn_glob, dn_bin, dn_neg, dn_not, dn_cmp, dn_chain, ch_t, ch_f, dn_and, dn_or, dn_ite, an_t, an_f, or_t, or_f, it_t, it_f, dn_tup, dn_list, tup0, tup1, tup2, tup3, lst0, lst1, lst2, lst3, dn_ix, dn_slice, dn_call, call1, call2, call3, call4, call5, rk, dn_callR, dn_b1, dn_b2, dn_isI, dn_isTL, dn_range1, dn_range2, dn_zip, b1_len_l, b1_len_t, b1_tup_l, b1_tup_t, b1_list_l, b1_list_t, b1_int, not_b, neg_i, cmp_lt, cmp_le, cmp_gt, cmp_ge, cmp_is, cmp_isnot, cmp_eqi, cmp_nei, bin_add, bin_sub, zip_t, zip_l, dn_comp, dS_for, bnd_ret, bnd_bnd, fn_eq, fnR_eq, List.map_cons, List.map_nil, List.cons_append, List.nil_append, List.append_nil, List.length_cons, List.length_nil, List.replicate_succ, List.replicate_zero, Nat.sub_self, Nat.reduceAdd, Nat.reduceSub, Nat.zero_add, List.set_cons_zero, List.set_cons_succ, List.getElem?_cons_zero, List.getElem?_cons_succ]
  unfold tabD turnedOf
  rw [List.map_map]
  rfl
def productOf (a b : List (List La)) (deep : Nat) : List (List La) := a.map fun r => (turnedOf b deep).map fun c => sumOf r c
/-! plain data: equal to itself, alike to itself -/
def plain : Nat → D → Prop
  | _, .none => True
  | _, .bool _ => True
  | _, .int _ => True
  | _, .str x => PyData.canLay0 (.str x) = true
  | n + 1, .tuple xs => xs.length ≤ 1000 ∧ ∀ x ∈ xs, plain n x
  | n + 1, .list xs => xs.length ≤ 1000 ∧ ∀ x ∈ xs, plain n x
  | _, _ => False
theorem lay_all : ∀ {xs : List D}, (∀ x ∈ xs, PyData.canLay0 x = true) → PyData.canLayAll0 xs = true
  | [], _ => rfl
  | x :: xs, h => by
    simp only [PyData.canLayAll0, Bool.and_eq_true]
    exact ⟨h x (List.mem_cons_self ..), lay_all fun y hy => h y (List.mem_cons_of_mem _ hy)⟩
theorem depth_all {n : Nat} : ∀ {xs : List D}, (∀ x ∈ xs, PyData.depth x ≤ n) → PyData.depthAll xs ≤ n
  | [], _ => Nat.zero_le _
  | x :: xs, h => by
    simp only [PyData.depthAll]
    exact Nat.max_le.mpr ⟨h x (List.mem_cons_self ..), depth_all fun y hy => h y (List.mem_cons_of_mem _ hy)⟩
theorem plain_lay : ∀ (n : Nat) (d : D), plain n d → PyData.canLay0 d = true ∧ PyData.depth d ≤ n
  | n, .none, _ => ⟨rfl, Nat.zero_le _⟩
  | n, .bool _, _ => ⟨rfl, Nat.zero_le _⟩
  | n, .int _, _ => ⟨rfl, Nat.zero_le _⟩
  | n, .str x, h => ⟨by cases n <;> exact h, Nat.zero_le _⟩
  | 0, .tuple xs, h => h.elim
  | 0, .list xs, h => h.elim
  | n + 1, .tuple xs, h => ⟨lay_all fun x hx => (plain_lay n x (h.2 x hx)).1, Nat.succ_le_succ (depth_all fun x hx => (plain_lay n x (h.2 x hx)).2)⟩
  | n + 1, .list xs, h => ⟨lay_all fun x hx => (plain_lay n x (h.2 x hx)).1, Nat.succ_le_succ (depth_all fun x hx => (plain_lay n x (h.2 x hx)).2)⟩
  | 0, .dict _, h => h.elim
  | n + 1, .dict _, h => h.elim
theorem plain_shaped {n : Nat} {d : D} (h : plain n d) (hn : n ≤ 64) : SeqAt.shaped d = true := by
  obtain ⟨h1, h2⟩ := plain_lay n d h
  unfold SeqAt.shaped
  rw [h1, decide_eq_true (Nat.le_trans h2 hn)]
  rfl
theorem eq_self {n : Nat} {d : D} (h : plain n d) (hn : n ≤ 64) : cmpD .eq d d = ret (.bool true) := by
  have hs := plain_shaped h hn
  have e : cmpD .eq d d = (if SeqAt.shaped d && SeqAt.shaped d then ret (.bool (PyData.eqv d d)) else bad) := by cases d <;> rfl
  rw [e, hs, if_pos (by rfl), SeqAt.eqv_refl d (plain_lay n d h).1]
theorem eq_nil : cmpD .eq (.list []) (.list []) = ret (.bool true) := by
  have e : cmpD .eq (.list []) (.list []) = (if SeqAt.shaped (.list []) && SeqAt.shaped (.list []) then ret (.bool (PyData.eqv (.list []) (.list []))) else bad) := rfl
  rw [e, if_pos (by decide)]
  rfl
theorem eq_bb (a b : Bool) : cmpD .eq (.bool a) (.bool b) = ret (.bool (a == b)) := by cases a <;> cases b <;> rfl
theorem ne_bb (a b : Bool) : cmpD .ne (.bool a) (.bool b) = ret (.bool (!(a == b))) := by cases a <;> cases b <;> rfl
theorem get_lt {α : Type} {l : List α} {k : Nat} (h : k < l.length) : ∃ x, l[k]? = some x ∧ x ∈ l := ⟨l[k], List.getElem?_eq_getElem h, List.getElem_mem h⟩
theorem seq_comp {self : List D → M D} {xs : List D} {X : D} (hx : ∀ (k : Nat) x, xs[k]? = some x → ixD X (.int (k : Int)) = ret x) (h : ∀ x ∈ xs, self [x, x] = ret (.bool true)) (y : Sl) :
    compK (.var 2) (.nm 2) (.not (.call "_law_alike" 2 self (.cons (.ix (.var 0) (.var 2)) (.cons (.ix (.var 1) (.var 2)) .nil)))) [.val X, .val X, y] ((List.range xs.length).map fun (i : Nat) => PyData.int (i : Int)) = ret (.list []) := by
  rw [cmpFil (xs := List.range xs.length) (enc := fun (i : Nat) => PyData.int (i : Int)) (g := fun i => PyData.int i) (p := fun _ => false) fun k hk => by
    obtain ⟨x, e, hm⟩ := get_lt (List.mem_range.mp hk)
    exact ⟨[.val X, .val X, .val (.int k)], rfl, by simp -implicitDefEqProofs only [wipeE, Tg.slots, k_nx, k_rt, e_nx, e_rt, br_t, br_f, dS_nil, dS_seq, dS_nm, own_list, dS_newL, dS_par, sl_f, sl_t, dS_ite, dS_ret, dS_expr, dS_app, ap_own, dS_aug, au_val, dS_frz, fr_own, asB_bool, asI_int, items_l, items_t, dn_nil, dn_cons, dn_star, lo_l, lo_d, vk, dn_var, ok_, dn_own, dn_lit, dn_glob, dn_bin, dn_neg, dn_not, dn_cmp, dn_chain, ch_t, ch_f, dn_and, dn_or, dn_ite, an_t, an_f, or_t, or_f, it_t, it_f, dn_tup, dn_list, tup0, tup1, tup2, tup3, lst0, lst1, lst2, lst3, dn_ix, dn_slice, dn_call, call1, call2, call3, call4, call5, rk, dn_callR, dn_b1, dn_b2, dn_isI, dn_isTL, dn_range1, dn_range2, dn_zip, b1_len_l, b1_len_t, b1_tup_l, b1_tup_t, b1_list_l, b1_list_t, b1_int, not_b, neg_i, cmp_lt, cmp_le, cmp_gt, cmp_ge, cmp_is, cmp_isnot, cmp_eqi, cmp_nei, bin_add, bin_sub, zip_t, zip_l, dn_comp, dS_for, bnd_ret, bnd_bnd, fn_eq, fnR_eq, List.map_cons, List.map_nil, List.cons_append, List.nil_append, List.append_nil, List.length_cons, List.length_nil, List.replicate_succ, List.replicate_zero, Nat.sub_self, Nat.reduceAdd, Nat.reduceSub, Nat.zero_add, List.set_cons_zero, List.set_cons_succ, List.getElem?_cons_zero, List.getElem?_cons_succ, hx k x e, h x hm, Bool.not_true], fun h => by cases h⟩]
  rw [List.filter_eq_nil_iff.mpr fun _ _ => Bool.false_ne_true]
  rfl
/-! what is drawn -/
theorem taken_does {many : Int} (h : 0 < many ∧ many < 1073741824) : Does (f__law_taken [.int many]) fun d => ∃ k : Int, d = .int k ∧ 0 ≤ k ∧ k < many := by
  intro w hw
  obtain ⟨h1, h2⟩ := h
  have e1 := Int.emod_nonneg w.q (show many ≠ 0 by omega)
  have e2 := Int.emod_lt_of_pos w.q h1
  by_cases hq : 0 < w.q
  · refine ⟨.int (w.q % many), { w with q := w.q / many }, ?_, hw, _, rfl, e1, e2⟩
    simp [f__law_taken, B__law_taken, fnR, denS, den, bnd, ret, asB, asI, cmpD, binD, b1D, setW, hq, h1, h2, bindT]
  · by_cases hl : (w.ns.length : Int) < w.i + 1
    · refine ⟨.int (((w.s * 48271 + 11) % 2147483647) / 7 % many), { w with i := w.i + 1, s := (w.s * 48271 + 11) % 2147483647 }, ?_, by show 0 ≤ w.i + 1; omega, _, rfl, Int.emod_nonneg _ (by omega), Int.emod_lt_of_pos _ h1⟩
      simp [f__law_taken, B__law_taken, fnR, denS, den, bnd, ret, asB, asI, cmpD, binD, b1D, setW, hq, h1, h2, bindT, hl, big]
    · have hk : w.i.toNat < w.ns.length := by omega
      have ha : L2.atI w.ns w.i = some (w.ns[w.i.toNat]) := by
        have e : ((w.i.toNat : Nat) : Int) = w.i := by omega
        have q := L2.atI_nat (List.getElem?_eq_getElem hk)
        rw [e] at q
        exact q
      generalize w.ns[w.i.toNat] = cell at ha
      by_cases hc : (1000000000000000000 : Int) ≤ cell
      · refine ⟨.int (cell % many), { w with i := w.i + 1, s := (w.s * 48271 + cell + 11) % 2147483647, q := cell / many }, ?_, by show 0 ≤ w.i + 1; omega, _, rfl, Int.emod_nonneg _ (by omega), Int.emod_lt_of_pos _ h1⟩
        simp [f__law_taken, B__law_taken, fnR, denS, den, bnd, ret, asB, asI, cmpD, binD, b1D, setW, hq, h1, h2, bindT, hl, big, ha, hc]
      · refine ⟨.int (cell % many), { w with i := w.i + 1, s := (w.s * 48271 + cell + 11) % 2147483647 }, ?_, by show 0 ≤ w.i + 1; omega, _, rfl, Int.emod_nonneg _ (by omega), Int.emod_lt_of_pos _ h1⟩
        simp [f__law_taken, B__law_taken, fnR, denS, den, bnd, ret, asB, asI, cmpD, binD, b1D, setW, hq, h1, h2, bindT, hl, big, ha, hc]
def within (size : Int) : La → Prop
  | none => True
  | some i => -size ≤ i ∧ i ≤ size
theorem row_does {wide : Nat} {size never : Int} (hw : wide ≤ 1000) (hs : 0 ≤ size ∧ size ≤ 100000) (hn : 0 < never ∧ never < 1000) : Does (f__law_row [.int wide, .int size, .int never]) fun d => ∃ r : List La, d = rowD r ∧ r.length = wide ∧ ∀ x ∈ r, within size x := by
  unfold f__law_row B__law_row
  simp -implicitDefEqProofs only [wipeE, Tg.slots, k_nx, k_rt, e_nx, e_rt, br_t, br_f, dS_nil, dS_seq, dS_nm, own_list, dS_newL, dS_par, sl_f, sl_t, dS_ite, dS_ret, dS_expr, dS_app, ap_own, dS_aug, au_val, dS_frz, fr_own, asB_bool, asI_int, items_l, items_t, dn_nil, dn_cons, dn_star, lo_l, lo_d, vk, dn_var, ok_, dn_own, dn_lit, dn_glob, dn_bin, dn_neg, dn_not, dn_cmp, dn_chain, ch_t, ch_f, dn_and, dn_or, dn_ite, an_t, an_f, or_t, or_f, it_t, it_f, dn_tup, dn_list, tup0, tup1, tup2, tup3, lst0, lst1, lst2, lst3, dn_ix, dn_slice, dn_call, call1, call2, call3, call4, call5, rk, dn_callR, dn_b1, dn_b2, dn_isI, dn_isTL, dn_range1, dn_range2, dn_zip, b1_len_l, b1_len_t, b1_tup_l, b1_tup_t, b1_list_l, b1_list_t, b1_int, not_b, neg_i, cmp_lt, cmp_le, cmp_gt, cmp_ge, cmp_is, cmp_isnot, cmp_eqi, cmp_nei, bin_add, bin_sub, zip_t, zip_l, dn_comp, dS_for, bnd_ret, bnd_bnd, fn_eq, fnR_eq, List.map_cons, List.map_nil, List.cons_append, List.nil_append, List.append_nil, List.length_cons, List.length_nil, List.replicate_succ, List.replicate_zero, Nat.sub_self, Nat.reduceAdd, Nat.reduceSub, Nat.zero_add, List.set_cons_zero, List.set_cons_succ, List.getElem?_cons_zero, List.getElem?_cons_succ, range0 hw]
  refine (for_does (t := .nm 5) (fun k ρ => ∃ (l : List La) (x : Sl), ρ = [.row, .val (.int wide), .val (.int size), .val (.int never), .own (l.map optD), x] ∧ l.length = k ∧ ∀ a ∈ l, within size a) (k := 0) (n := wide) (by rw [List.length_map, List.length_range, Nat.zero_add]) ⟨[], .no, rfl, rfl, fun a h => by cases h⟩ ?_).bnd ?_
  · rintro k d ρ hk hd ⟨l, x, rfl, e2, hl⟩
    have hpush : (l.map optD).length < sizeLine := by rw [List.length_map, e2]; exact Nat.lt_of_lt_of_le (Nat.lt_of_lt_of_le hk hw) (by decide)
    have hb : (big 2 || big size) = true := by simp [big]
    have key : ∀ a : La, within size a → Does (bnd (pushK 4 [.row, .val (.int wide), .val (.int size), .val (.int never), .own (l.map optD), .val d] (l.map optD) (optD a)) (seqK .nil)) fun o => ∃ ρ', o = .nx ρ' ∧ ∃ (l : List La) (x : Sl), ρ' = [.row, .val (.int wide), .val (.int size), .val (.int never), .own (l.map optD), x] ∧ l.length = k + 1 ∧ ∀ a ∈ l, within size a := fun a ha => by
      rw [push_ok hpush]
      simp -implicitDefEqProofs only [wipeE, Tg.slots, k_nx, k_rt, e_nx, e_rt, br_t, br_f, dS_nil, dS_seq, dS_nm, own_list, dS_newL, dS_par, sl_f, sl_t, dS_ite, dS_ret, dS_expr, dS_app, ap_own, dS_aug, au_val, dS_frz, fr_own, asB_bool, asI_int, items_l, items_t, dn_nil, dn_cons, dn_star, lo_l, lo_d, vk, dn_var, ok_, dn_own, dn_lit, dn_glob, dn_bin, dn_neg, dn_not, dn_cmp, dn_chain, ch_t, ch_f, dn_and, dn_or, dn_ite, an_t, an_f, or_t, or_f, it_t, it_f, dn_tup, dn_list, tup0, tup1, tup2, tup3, lst0, lst1, lst2, lst3, dn_ix, dn_slice, dn_call, call1, call2, call3, call4, call5, rk, dn_callR, dn_b1, dn_b2, dn_isI, dn_isTL, dn_range1, dn_range2, dn_zip, b1_len_l, b1_len_t, b1_tup_l, b1_tup_t, b1_list_l, b1_list_t, b1_int, not_b, neg_i, cmp_lt, cmp_le, cmp_gt, cmp_ge, cmp_is, cmp_isnot, cmp_eqi, cmp_nei, bin_add, bin_sub, zip_t, zip_l, dn_comp, dS_for, bnd_ret, bnd_bnd, fn_eq, fnR_eq, List.map_cons, List.map_nil, List.cons_append, List.nil_append, List.append_nil, List.length_cons, List.length_nil, List.replicate_succ, List.replicate_zero, Nat.sub_self, Nat.reduceAdd, Nat.reduceSub, Nat.zero_add, List.set_cons_zero, List.set_cons_succ, List.getElem?_cons_zero, List.getElem?_cons_succ]
      refine .ret ⟨_, rfl, l ++ [a], .val d, ?_, by rw [List.length_append, e2]; rfl, fun b hb => ?_⟩
      · rw [List.map_append]; rfl
      · rcases List.mem_append.mp hb with hb | hb
        · exact hl b hb
        · cases List.mem_singleton.mp hb; exact ha
    unfold forK
    show Does (denS _ [.row, .val (.int wide), .val (.int size), .val (.int never), .own (l.map optD), .val d]) _
    simp -implicitDefEqProofs only [wipeE, Tg.slots, k_nx, k_rt, e_nx, e_rt, br_t, br_f, dS_nil, dS_seq, dS_nm, own_list, dS_newL, dS_par, sl_f, sl_t, dS_ite, dS_ret, dS_expr, dS_app, ap_own, dS_aug, au_val, dS_frz, fr_own, asB_bool, asI_int, items_l, items_t, dn_nil, dn_cons, dn_star, lo_l, lo_d, vk, dn_var, ok_, dn_own, dn_lit, dn_glob, dn_bin, dn_neg, dn_not, dn_cmp, dn_chain, ch_t, ch_f, dn_and, dn_or, dn_ite, an_t, an_f, or_t, or_f, it_t, it_f, dn_tup, dn_list, tup0, tup1, tup2, tup3, lst0, lst1, lst2, lst3, dn_ix, dn_slice, dn_call, call1, call2, call3, call4, call5, rk, dn_callR, dn_b1, dn_b2, dn_isI, dn_isTL, dn_range1, dn_range2, dn_zip, b1_len_l, b1_len_t, b1_tup_l, b1_tup_t, b1_list_l, b1_list_t, b1_int, not_b, neg_i, cmp_lt, cmp_le, cmp_gt, cmp_ge, cmp_is, cmp_isnot, cmp_eqi, cmp_nei, bin_add, bin_sub, zip_t, zip_l, dn_comp, dS_for, bnd_ret, bnd_bnd, fn_eq, fnR_eq, List.map_cons, List.map_nil, List.cons_append, List.nil_append, List.append_nil, List.length_cons, List.length_nil, List.replicate_succ, List.replicate_zero, Nat.sub_self, Nat.reduceAdd, Nat.reduceSub, Nat.zero_add, List.set_cons_zero, List.set_cons_succ, List.getElem?_cons_zero, List.getElem?_cons_succ]
    refine (taken_does ⟨hn.1, by omega⟩).bnd fun d1 ⟨k1, e1, _, _⟩ => ?_
    subst e1
    simp -implicitDefEqProofs only [wipeE, Tg.slots, k_nx, k_rt, e_nx, e_rt, br_t, br_f, dS_nil, dS_seq, dS_nm, own_list, dS_newL, dS_par, sl_f, sl_t, dS_ite, dS_ret, dS_expr, dS_app, ap_own, dS_aug, au_val, dS_frz, fr_own, asB_bool, asI_int, items_l, items_t, dn_nil, dn_cons, dn_star, lo_l, lo_d, vk, dn_var, ok_, dn_own, dn_lit, dn_glob, dn_bin, dn_neg, dn_not, dn_cmp, dn_chain, ch_t, ch_f, dn_and, dn_or, dn_ite, an_t, an_f, or_t, or_f, it_t, it_f, dn_tup, dn_list, tup0, tup1, tup2, tup3, lst0, lst1, lst2, lst3, dn_ix, dn_slice, dn_call, call1, call2, call3, call4, call5, rk, dn_callR, dn_b1, dn_b2, dn_isI, dn_isTL, dn_range1, dn_range2, dn_zip, b1_len_l, b1_len_t, b1_tup_l, b1_tup_t, b1_list_l, b1_list_t, b1_int, not_b, neg_i, cmp_lt, cmp_le, cmp_gt, cmp_ge, cmp_is, cmp_isnot, cmp_eqi, cmp_nei, bin_add, bin_sub, zip_t, zip_l, dn_comp, dS_for, bnd_ret, bnd_bnd, fn_eq, fnR_eq, List.map_cons, List.map_nil, List.cons_append, List.nil_append, List.append_nil, List.length_cons, List.length_nil, List.replicate_succ, List.replicate_zero, Nat.sub_self, Nat.reduceAdd, Nat.reduceSub, Nat.zero_add, List.set_cons_zero, List.set_cons_succ, List.getElem?_cons_zero, List.getElem?_cons_succ]
    by_cases h0 : k1 = 0
    · rw [decide_eq_true h0]
      simp -implicitDefEqProofs only [wipeE, Tg.slots, k_nx, k_rt, e_nx, e_rt, br_t, br_f, dS_nil, dS_seq, dS_nm, own_list, dS_newL, dS_par, sl_f, sl_t, dS_ite, dS_ret, dS_expr, dS_app, ap_own, dS_aug, au_val, dS_frz, fr_own, asB_bool, asI_int, items_l, items_t, dn_nil, dn_cons, dn_star, lo_l, lo_d, vk, dn_var, ok_, dn_own, dn_lit, dn_glob, dn_bin, dn_neg, dn_not, dn_cmp, dn_chain, ch_t, ch_f, dn_and, dn_or, dn_ite, an_t, an_f, or_t, or_f, it_t, it_f, dn_tup, dn_list, tup0, tup1, tup2, tup3, lst0, lst1, lst2, lst3, dn_ix, dn_slice, dn_call, call1, call2, call3, call4, call5, rk, dn_callR, dn_b1, dn_b2, dn_isI, dn_isTL, dn_range1, dn_range2, dn_zip, b1_len_l, b1_len_t, b1_tup_l, b1_tup_t, b1_list_l, b1_list_t, b1_int, not_b, neg_i, cmp_lt, cmp_le, cmp_gt, cmp_ge, cmp_is, cmp_isnot, cmp_eqi, cmp_nei, bin_add, bin_sub, zip_t, zip_l, dn_comp, dS_for, bnd_ret, bnd_bnd, fn_eq, fnR_eq, List.map_cons, List.map_nil, List.cons_append, List.nil_append, List.append_nil, List.length_cons, List.length_nil, List.replicate_succ, List.replicate_zero, Nat.sub_self, Nat.reduceAdd, Nat.reduceSub, Nat.zero_add, List.set_cons_zero, List.set_cons_succ, List.getElem?_cons_zero, List.getElem?_cons_succ]
      exact key none trivial
    · rw [decide_eq_false h0]
      simp -implicitDefEqProofs only [wipeE, Tg.slots, k_nx, k_rt, e_nx, e_rt, br_t, br_f, dS_nil, dS_seq, dS_nm, own_list, dS_newL, dS_par, sl_f, sl_t, dS_ite, dS_ret, dS_expr, dS_app, ap_own, dS_aug, au_val, dS_frz, fr_own, asB_bool, asI_int, items_l, items_t, dn_nil, dn_cons, dn_star, lo_l, lo_d, vk, dn_var, ok_, dn_own, dn_lit, dn_glob, dn_bin, dn_neg, dn_not, dn_cmp, dn_chain, ch_t, ch_f, dn_and, dn_or, dn_ite, an_t, an_f, or_t, or_f, it_t, it_f, dn_tup, dn_list, tup0, tup1, tup2, tup3, lst0, lst1, lst2, lst3, dn_ix, dn_slice, dn_call, call1, call2, call3, call4, call5, rk, dn_callR, dn_b1, dn_b2, dn_isI, dn_isTL, dn_range1, dn_range2, dn_zip, b1_len_l, b1_len_t, b1_tup_l, b1_tup_t, b1_list_l, b1_list_t, b1_int, not_b, neg_i, cmp_lt, cmp_le, cmp_gt, cmp_ge, cmp_is, cmp_isnot, cmp_eqi, cmp_nei, bin_add, bin_sub, zip_t, zip_l, dn_comp, dS_for, bnd_ret, bnd_bnd, fn_eq, fnR_eq, List.map_cons, List.map_nil, List.cons_append, List.nil_append, List.append_nil, List.length_cons, List.length_nil, List.replicate_succ, List.replicate_zero, Nat.sub_self, Nat.reduceAdd, Nat.reduceSub, Nat.zero_add, List.set_cons_zero, List.set_cons_succ, List.getElem?_cons_zero, List.getElem?_cons_succ, bin_mul hb]
      refine (taken_does ⟨by omega, by omega⟩).bnd fun d1 ⟨k2, e1, g1, g2⟩ => ?_
      subst e1
      simp -implicitDefEqProofs only [wipeE, Tg.slots, k_nx, k_rt, e_nx, e_rt, br_t, br_f, dS_nil, dS_seq, dS_nm, own_list, dS_newL, dS_par, sl_f, sl_t, dS_ite, dS_ret, dS_expr, dS_app, ap_own, dS_aug, au_val, dS_frz, fr_own, asB_bool, asI_int, items_l, items_t, dn_nil, dn_cons, dn_star, lo_l, lo_d, vk, dn_var, ok_, dn_own, dn_lit, dn_glob, dn_bin, dn_neg, dn_not, dn_cmp, dn_chain, ch_t, ch_f, dn_and, dn_or, dn_ite, an_t, an_f, or_t, or_f, it_t, it_f, dn_tup, dn_list, tup0, tup1, tup2, tup3, lst0, lst1, lst2, lst3, dn_ix, dn_slice, dn_call, call1, call2, call3, call4, call5, rk, dn_callR, dn_b1, dn_b2, dn_isI, dn_isTL, dn_range1, dn_range2, dn_zip, b1_len_l, b1_len_t, b1_tup_l, b1_tup_t, b1_list_l, b1_list_t, b1_int, not_b, neg_i, cmp_lt, cmp_le, cmp_gt, cmp_ge, cmp_is, cmp_isnot, cmp_eqi, cmp_nei, bin_add, bin_sub, zip_t, zip_l, dn_comp, dS_for, bnd_ret, bnd_bnd, fn_eq, fnR_eq, List.map_cons, List.map_nil, List.cons_append, List.nil_append, List.append_nil, List.length_cons, List.length_nil, List.replicate_succ, List.replicate_zero, Nat.sub_self, Nat.reduceAdd, Nat.reduceSub, Nat.zero_add, List.set_cons_zero, List.set_cons_succ, List.getElem?_cons_zero, List.getElem?_cons_succ]
      exact key (some (k2 - size)) ⟨by omega, by omega⟩
  · rintro o ⟨ρ', rfl, l, x, rfl, e2, hl⟩
    simp -implicitDefEqProofs only [wipeE, Tg.slots, k_nx, k_rt, e_nx, e_rt, br_t, br_f, dS_nil, dS_seq, dS_nm, own_list, dS_newL, dS_par, sl_f, sl_t, dS_ite, dS_ret, dS_expr, dS_app, ap_own, dS_aug, au_val, dS_frz, fr_own, asB_bool, asI_int, items_l, items_t, dn_nil, dn_cons, dn_star, lo_l, lo_d, vk, dn_var, ok_, dn_own, dn_lit, dn_glob, dn_bin, dn_neg, dn_not, dn_cmp, dn_chain, ch_t, ch_f, dn_and, dn_or, dn_ite, an_t, an_f, or_t, or_f, it_t, it_f, dn_tup, dn_list, tup0, tup1, tup2, tup3, lst0, lst1, lst2, lst3, dn_ix, dn_slice, dn_call, call1, call2, call3, call4, call5, rk, dn_callR, dn_b1, dn_b2, dn_isI, dn_isTL, dn_range1, dn_range2, dn_zip, b1_len_l, b1_len_t, b1_tup_l, b1_tup_t, b1_list_l, b1_list_t, b1_int, not_b, neg_i, cmp_lt, cmp_le, cmp_gt, cmp_ge, cmp_is, cmp_isnot, cmp_eqi, cmp_nei, bin_add, bin_sub, zip_t, zip_l, dn_comp, dS_for, bnd_ret, bnd_bnd, fn_eq, fnR_eq, List.map_cons, List.map_nil, List.cons_append, List.nil_append, List.append_nil, List.length_cons, List.length_nil, List.replicate_succ, List.replicate_zero, Nat.sub_self, Nat.reduceAdd, Nat.reduceSub, Nat.zero_add, List.set_cons_zero, List.set_cons_succ, List.getElem?_cons_zero, List.getElem?_cons_succ]
    exact .ret ⟨l, rfl, e2, hl⟩
theorem m_llater (a b : La) : f__law_later [optD a, optD b] = ret (optD (later a b)) := by
  cases a <;> cases b <;> rfl
theorem m_lby (a b : La) : f__law_by [optD a, optD b] = ret (.bool (isBy a b)) := by
  cases a <;> cases b <;> rfl
theorem m_lshift (r : List La) (k : Int) : f__law_shift [rowD r, .int k] = ret (rowD (shiftOf r k)) := by
  unfold f__law_shift B__law_shift
  simp -implicitDefEqProofs only [wipeE, Tg.slots, k_nx, k_rt, e_nx, e_rt, br_t, br_f, dS_nil, dS_seq, dS_nm, own_list, dS_newL, dS_par, sl_f, sl_t, dS_ite, dS_ret, dS_expr, dS_app, ap_own, dS_aug, au_val, dS_frz, fr_own, asB_bool, asI_int, items_l, items_t, dn_nil, dn_cons, dn_star, lo_l, lo_d, vk, dn_var, ok_, dn_own, dn_lit, dn_glob, dn_bin, dn_neg, dn_not, dn_cmp, dn_chain, ch_t, ch_f, dn_and, dn_or, dn_ite, an_t, an_f, or_t, or_f, it_t, it_f, dn_tup, dn_list, tup0, tup1, tup2, tup3, lst0, lst1, lst2, lst3, dn_ix, dn_slice, dn_call, call1, call2, call3, call4, call5, rk, dn_callR, dn_b1, dn_b2, dn_isI, dn_isTL, dn_range1, dn_range2, dn_zip, b1_len_l, b1_len_t, b1_tup_l, b1_tup_t, b1_list_l, b1_list_t, b1_int, not_b, neg_i, cmp_lt, cmp_le, cmp_gt, cmp_ge, cmp_is, cmp_isnot, cmp_eqi, cmp_nei, bin_add, bin_sub, zip_t, zip_l, dn_comp, dS_for, bnd_ret, bnd_bnd, fn_eq, fnR_eq, List.map_cons, List.map_nil, List.cons_append, List.nil_append, List.append_nil, List.length_cons, List.length_nil, List.replicate_succ, List.replicate_zero, Nat.sub_self, Nat.reduceAdd, Nat.reduceSub, Nat.zero_add, List.set_cons_zero, List.set_cons_succ, List.getElem?_cons_zero, List.getElem?_cons_succ, items_row]
  rw [cmpMap (g := fun x => optD (added x (some k))) fun p _ => ⟨[.val (rowD r), .val (.int k), .val (optD p)], rfl, rfl, by cases p <;> rfl⟩]
  simp -implicitDefEqProofs only [wipeE, Tg.slots, k_nx, k_rt, e_nx, e_rt, br_t, br_f, dS_nil, dS_seq, dS_nm, own_list, dS_newL, dS_par, sl_f, sl_t, dS_ite, dS_ret, dS_expr, dS_app, ap_own, dS_aug, au_val, dS_frz, fr_own, asB_bool, asI_int, items_l, items_t, dn_nil, dn_cons, dn_star, lo_l, lo_d, vk, dn_var, ok_, dn_own, dn_lit, dn_glob, dn_bin, dn_neg, dn_not, dn_cmp, dn_chain, ch_t, ch_f, dn_and, dn_or, dn_ite, an_t, an_f, or_t, or_f, it_t, it_f, dn_tup, dn_list, tup0, tup1, tup2, tup3, lst0, lst1, lst2, lst3, dn_ix, dn_slice, dn_call, call1, call2, call3, call4, call5, rk, dn_callR, dn_b1, dn_b2, dn_isI, dn_isTL, dn_range1, dn_range2, dn_zip, b1_len_l, b1_len_t, b1_tup_l, b1_tup_t, b1_list_l, b1_list_t, b1_int, not_b, neg_i, cmp_lt, cmp_le, cmp_gt, cmp_ge, cmp_is, cmp_isnot, cmp_eqi, cmp_nei, bin_add, bin_sub, zip_t, zip_l, dn_comp, dS_for, bnd_ret, bnd_bnd, fn_eq, fnR_eq, List.map_cons, List.map_nil, List.cons_append, List.nil_append, List.append_nil, List.length_cons, List.length_nil, List.replicate_succ, List.replicate_zero, Nat.sub_self, Nat.reduceAdd, Nat.reduceSub, Nat.zero_add, List.set_cons_zero, List.set_cons_succ, List.getElem?_cons_zero, List.getElem?_cons_succ]
  unfold shiftOf rowD
  rw [List.map_map]
  rfl
def getL (r : List La) (k : Nat) : La := (r[k]?).getD none
theorem zip_range {γ : Type} {f : La → La → γ} : ∀ (a b : List La), a.length = b.length → List.zipWith f a b = (List.range a.length).map fun k => f (getL a k) (getL b k)
  | [], [], _ => rfl
  | x :: a, y :: b, h => by
    rw [List.length_cons, List.range_succ_eq_map, List.map_cons, List.map_map, List.zipWith_cons_cons, zip_range a b (by simpa using h)]
    rfl
  | [], _ :: _, h => by cases h
  | _ :: _, [], h => by cases h
theorem m_lsumX {a b : List La} {X : D} (hX : ∀ (k : Nat) x, b[k]? = some x → ixD X (.int (k : Int)) = ret (optD x)) (h : a.length = b.length) (hw : a.length ≤ 1000) : f__law_sum [rowD a, X] = ret (optD (sumOf a b)) := by
  unfold f__law_sum B__law_sum
  simp -implicitDefEqProofs only [wipeE, Tg.slots, k_nx, k_rt, e_nx, e_rt, br_t, br_f, dS_nil, dS_seq, dS_nm, own_list, dS_newL, dS_par, sl_f, sl_t, dS_ite, dS_ret, dS_expr, dS_app, ap_own, dS_aug, au_val, dS_frz, fr_own, asB_bool, asI_int, items_l, items_t, dn_nil, dn_cons, dn_star, lo_l, lo_d, vk, dn_var, ok_, dn_own, dn_lit, dn_glob, dn_bin, dn_neg, dn_not, dn_cmp, dn_chain, ch_t, ch_f, dn_and, dn_or, dn_ite, an_t, an_f, or_t, or_f, it_t, it_f, dn_tup, dn_list, tup0, tup1, tup2, tup3, lst0, lst1, lst2, lst3, dn_ix, dn_slice, dn_call, call1, call2, call3, call4, call5, rk, dn_callR, dn_b1, dn_b2, dn_isI, dn_isTL, dn_range1, dn_range2, dn_zip, b1_len_l, b1_len_t, b1_tup_l, b1_tup_t, b1_list_l, b1_list_t, b1_int, not_b, neg_i, cmp_lt, cmp_le, cmp_gt, cmp_ge, cmp_is, cmp_isnot, cmp_eqi, cmp_nei, bin_add, bin_sub, zip_t, zip_l, dn_comp, dS_for, bnd_ret, bnd_bnd, fn_eq, fnR_eq, List.map_cons, List.map_nil, List.cons_append, List.nil_append, List.append_nil, List.length_cons, List.length_nil, List.replicate_succ, List.replicate_zero, Nat.sub_self, Nat.reduceAdd, Nat.reduceSub, Nat.zero_add, List.set_cons_zero, List.set_cons_succ, List.getElem?_cons_zero, List.getElem?_cons_succ, len_row, range0 hw]
  obtain ⟨ρ', e, hI⟩ := for_run (t := .nm 3) (B := .seq (.ite (.and (.cmp .isnot (.ix (.var 0) (.var 3)) (.lit .none)) (.cmp .isnot (.ix (.var 1) (.var 3)) (.lit .none))) (.seq (.asg (.nm 2) (.call "_law_later" 2 f__law_later (.cons (.var 2) (.cons (.bin .add (.ix (.var 0) (.var 3)) (.ix (.var 1) (.var 3))) .nil))))
  .nil) .nil) .nil) (enc := fun (i : Nat) => PyData.int (i : Int)) (xs := List.range a.length) (s := none) (fun (s : La) ρ => ∃ y, ρ = [.val (rowD a), .val X, .val (optD s), y]) (fun s k => later s (added (getL a k) (getL b k))) (ρ := [.val (rowD a), .val X, .val .none, .no]) ⟨.no, rfl⟩ (fun s k ρ hk ⟨y, e⟩ => by
    subst e
    have hk := List.mem_range.mp hk
    have ea := getD_ok hk
    have eb := getD_ok (show k < b.length by omega)
    unfold forK
    show ∃ ρ', denS _ [.val (rowD a), .val X, .val (optD s), .val (.int k)] = _ ∧ _
    refine ⟨[.val (rowD a), .val X, .val (optD (later s (added (getL a k) (getL b k)))), .val (.int k)], ?_, _, rfl⟩
    unfold getL
    generalize (a[k]?).getD none = u at ea
    generalize (b[k]?).getD none = v at eb
    cases u with
    | none =>
      simp -implicitDefEqProofs only [wipeE, Tg.slots, k_nx, k_rt, e_nx, e_rt, br_t, br_f, dS_nil, dS_seq, dS_nm, own_list, dS_newL, dS_par, sl_f, sl_t, dS_ite, dS_ret, dS_expr, dS_app, ap_own, dS_aug, au_val, dS_frz, fr_own, asB_bool, asI_int, items_l, items_t, dn_nil, dn_cons, dn_star, lo_l, lo_d, vk, dn_var, ok_, dn_own, dn_lit, dn_glob, dn_bin, dn_neg, dn_not, dn_cmp, dn_chain, ch_t, ch_f, dn_and, dn_or, dn_ite, an_t, an_f, or_t, or_f, it_t, it_f, dn_tup, dn_list, tup0, tup1, tup2, tup3, lst0, lst1, lst2, lst3, dn_ix, dn_slice, dn_call, call1, call2, call3, call4, call5, rk, dn_callR, dn_b1, dn_b2, dn_isI, dn_isTL, dn_range1, dn_range2, dn_zip, b1_len_l, b1_len_t, b1_tup_l, b1_tup_t, b1_list_l, b1_list_t, b1_int, not_b, neg_i, cmp_lt, cmp_le, cmp_gt, cmp_ge, cmp_is, cmp_isnot, cmp_eqi, cmp_nei, bin_add, bin_sub, zip_t, zip_l, dn_comp, dS_for, bnd_ret, bnd_bnd, fn_eq, fnR_eq, List.map_cons, List.map_nil, List.cons_append, List.nil_append, List.append_nil, List.length_cons, List.length_nil, List.replicate_succ, List.replicate_zero, Nat.sub_self, Nat.reduceAdd, Nat.reduceSub, Nat.zero_add, List.set_cons_zero, List.set_cons_succ, List.getElem?_cons_zero, List.getElem?_cons_succ, ix_row ea, hX k _ eb, optD, isNone, Bool.not_true]
      cases s <;> rfl
    | some u =>
      cases v with
      | none =>
        simp -implicitDefEqProofs only [wipeE, Tg.slots, k_nx, k_rt, e_nx, e_rt, br_t, br_f, dS_nil, dS_seq, dS_nm, own_list, dS_newL, dS_par, sl_f, sl_t, dS_ite, dS_ret, dS_expr, dS_app, ap_own, dS_aug, au_val, dS_frz, fr_own, asB_bool, asI_int, items_l, items_t, dn_nil, dn_cons, dn_star, lo_l, lo_d, vk, dn_var, ok_, dn_own, dn_lit, dn_glob, dn_bin, dn_neg, dn_not, dn_cmp, dn_chain, ch_t, ch_f, dn_and, dn_or, dn_ite, an_t, an_f, or_t, or_f, it_t, it_f, dn_tup, dn_list, tup0, tup1, tup2, tup3, lst0, lst1, lst2, lst3, dn_ix, dn_slice, dn_call, call1, call2, call3, call4, call5, rk, dn_callR, dn_b1, dn_b2, dn_isI, dn_isTL, dn_range1, dn_range2, dn_zip, b1_len_l, b1_len_t, b1_tup_l, b1_tup_t, b1_list_l, b1_list_t, b1_int, not_b, neg_i, cmp_lt, cmp_le, cmp_gt, cmp_ge, cmp_is, cmp_isnot, cmp_eqi, cmp_nei, bin_add, bin_sub, zip_t, zip_l, dn_comp, dS_for, bnd_ret, bnd_bnd, fn_eq, fnR_eq, List.map_cons, List.map_nil, List.cons_append, List.nil_append, List.append_nil, List.length_cons, List.length_nil, List.replicate_succ, List.replicate_zero, Nat.sub_self, Nat.reduceAdd, Nat.reduceSub, Nat.zero_add, List.set_cons_zero, List.set_cons_succ, List.getElem?_cons_zero, List.getElem?_cons_succ, ix_row ea, hX k _ eb, optD, isNone, Bool.not_true, Bool.not_false]
        cases s <;> rfl
      | some v =>
        have hl : f__law_later [optD s, .int (u + v)] = ret (optD (later s (some (u + v)))) := m_llater s (some (u + v))
        simp -implicitDefEqProofs only [wipeE, Tg.slots, k_nx, k_rt, e_nx, e_rt, br_t, br_f, dS_nil, dS_seq, dS_nm, own_list, dS_newL, dS_par, sl_f, sl_t, dS_ite, dS_ret, dS_expr, dS_app, ap_own, dS_aug, au_val, dS_frz, fr_own, asB_bool, asI_int, items_l, items_t, dn_nil, dn_cons, dn_star, lo_l, lo_d, vk, dn_var, ok_, dn_own, dn_lit, dn_glob, dn_bin, dn_neg, dn_not, dn_cmp, dn_chain, ch_t, ch_f, dn_and, dn_or, dn_ite, an_t, an_f, or_t, or_f, it_t, it_f, dn_tup, dn_list, tup0, tup1, tup2, tup3, lst0, lst1, lst2, lst3, dn_ix, dn_slice, dn_call, call1, call2, call3, call4, call5, rk, dn_callR, dn_b1, dn_b2, dn_isI, dn_isTL, dn_range1, dn_range2, dn_zip, b1_len_l, b1_len_t, b1_tup_l, b1_tup_t, b1_list_l, b1_list_t, b1_int, not_b, neg_i, cmp_lt, cmp_le, cmp_gt, cmp_ge, cmp_is, cmp_isnot, cmp_eqi, cmp_nei, bin_add, bin_sub, zip_t, zip_l, dn_comp, dS_for, bnd_ret, bnd_bnd, fn_eq, fnR_eq, List.map_cons, List.map_nil, List.cons_append, List.nil_append, List.append_nil, List.length_cons, List.length_nil, List.replicate_succ, List.replicate_zero, Nat.sub_self, Nat.reduceAdd, Nat.reduceSub, Nat.zero_add, List.set_cons_zero, List.set_cons_succ, List.getElem?_cons_zero, List.getElem?_cons_succ, ix_row ea, hX k _ eb, show optD (some u) = .int u from rfl, show optD (some v) = .int v from rfl, isNone, Bool.not_false, hl]
        rfl)
  obtain ⟨y, rfl⟩ := hI
  rw [e]
  simp -implicitDefEqProofs only [wipeE, Tg.slots, k_nx, k_rt, e_nx, e_rt, br_t, br_f, dS_nil, dS_seq, dS_nm, own_list, dS_newL, dS_par, sl_f, sl_t, dS_ite, dS_ret, dS_expr, dS_app, ap_own, dS_aug, au_val, dS_frz, fr_own, asB_bool, asI_int, items_l, items_t, dn_nil, dn_cons, dn_star, lo_l, lo_d, vk, dn_var, ok_, dn_own, dn_lit, dn_glob, dn_bin, dn_neg, dn_not, dn_cmp, dn_chain, ch_t, ch_f, dn_and, dn_or, dn_ite, an_t, an_f, or_t, or_f, it_t, it_f, dn_tup, dn_list, tup0, tup1, tup2, tup3, lst0, lst1, lst2, lst3, dn_ix, dn_slice, dn_call, call1, call2, call3, call4, call5, rk, dn_callR, dn_b1, dn_b2, dn_isI, dn_isTL, dn_range1, dn_range2, dn_zip, b1_len_l, b1_len_t, b1_tup_l, b1_tup_t, b1_list_l, b1_list_t, b1_int, not_b, neg_i, cmp_lt, cmp_le, cmp_gt, cmp_ge, cmp_is, cmp_isnot, cmp_eqi, cmp_nei, bin_add, bin_sub, zip_t, zip_l, dn_comp, dS_for, bnd_ret, bnd_bnd, fn_eq, fnR_eq, List.map_cons, List.map_nil, List.cons_append, List.nil_append, List.append_nil, List.length_cons, List.length_nil, List.replicate_succ, List.replicate_zero, Nat.sub_self, Nat.reduceAdd, Nat.reduceSub, Nat.zero_add, List.set_cons_zero, List.set_cons_succ, List.getElem?_cons_zero, List.getElem?_cons_succ]
  unfold sumOf latestOf
  rw [zip_range a b h, List.foldl_map]
theorem m_lsum {a b : List La} (h : a.length = b.length) (hw : a.length ≤ 1000) : f__law_sum [rowD a, rowD b] = ret (optD (sumOf a b)) := m_lsumX (fun k x e => ix_row e) h hw
theorem m_lsumL {a b : List La} (h : a.length = b.length) (hw : a.length ≤ 1000) : f__law_sum [rowD a, .list (b.map optD)] = ret (optD (sumOf a b)) := m_lsumX (fun k x e => ix_l (by rw [List.getElem?_map, e]; rfl)) h hw
/-! the law -/
theorem plain_opt (n : Nat) (a : La) : plain n (optD a) := by cases a <;> (cases n <;> trivial)
theorem plain_row {r : List La} (n : Nat) (h : r.length ≤ 1000) : plain (n + 1) (rowD r) := ⟨by rw [List.length_map]; exact h, fun x hx => by
  obtain ⟨a, _, rfl⟩ := List.mem_map.mp hx
  exact plain_opt n a⟩
theorem plain_tab {t : List (List La)} (n : Nat) (h : t.length ≤ 1000) (g : ∀ r ∈ t, r.length ≤ 1000) : plain (n + 2) (tabD t) := ⟨by rw [List.length_map]; exact h, fun x hx => by
  obtain ⟨a, ha, rfl⟩ := List.mem_map.mp hx
  exact plain_row n (g a ha)⟩
theorem within_ok {size : Int} {a : La} (h : within size a) (hs : size ≤ 1000) : lagOk a = true := by
  cases a with
  | none => rfl
  | some i =>
    obtain ⟨h1, h2⟩ := h
    exact decide_eq_true ⟨by omega, by omega⟩
theorem rowOk_of {r : List La} {wide : Nat} {size : Int} (h : r.length = wide) (g : ∀ x ∈ r, within size x) (hs : size ≤ 1000) : rowOk r wide := ⟨h, fun x hx => within_ok (g x hx) hs⟩
theorem rows_of {l : List D} {wide : Nat} {size : Int} (h : ∀ d ∈ l, ∃ r : List La, d = rowD r ∧ r.length = wide ∧ ∀ x ∈ r, within size x) : ∃ t : List (List La), l = t.map rowD ∧ ∀ r ∈ t, r.length = wide ∧ ∀ x ∈ r, within size x := by
  induction l with
  | nil => exact ⟨[], rfl, fun r h => by cases h⟩
  | cons d l ih =>
    obtain ⟨r, e, h1⟩ := h d (List.mem_cons_self ..)
    obtain ⟨t, e2, h2⟩ := ih fun d hd => h d (List.mem_cons_of_mem _ hd)
    refine ⟨r :: t, by rw [e, e2, List.map_cons], fun q hq => ?_⟩
    rcases List.mem_cons.mp hq with rfl | hq
    · exact h1
    · exact h2 q hq
theorem eq_empty {l : List D} {n : Nat} (h : plain n (.list l)) (hn : n ≤ 64) : cmpD .eq (.list l) (.list []) = ret (.bool l.isEmpty) := by
  have e : cmpD .eq (.list l) (.list []) = (if SeqAt.shaped (.list l) && SeqAt.shaped (.list []) then ret (.bool (PyData.eqv (.list l) (.list []))) else bad) := rfl
  rw [e, plain_shaped h hn, if_pos (by decide)]
  cases l <;> rfl
theorem by_all {a b : List La} (h : a.length = b.length) : ((List.range a.length).filter fun k => !isBy (getL a k) (getL b k)).isEmpty = rowBy a b := by
  have e : rowBy a b = (List.zipWith isBy a b).all id := by
    unfold rowBy
    rw [← List.map_id (List.zipWith isBy a b), ← zip_back isBy id, List.all_map]
    rfl
  rw [e, zip_range a b h, List.all_map]
  generalize List.range a.length = l
  induction l with
  | nil => rfl
  | cons k l ih =>
    rw [List.filter_cons, List.all_cons, ← ih]
    show _ = (isBy (getL a k) (getL b k) && _)
    cases isBy (getL a k) (getL b k) <;> rfl
theorem len_both (a b : List La) : (bothOf a b).length = min a.length b.length := List.length_zipWith ..
theorem len_shift (a : List La) (k : Int) : (shiftOf a k).length = a.length := List.length_map ..
theorem len_apply (t : List (List La)) (x : List La) : (applyOf t x).length = t.length := List.length_map ..
theorem fold_tab {t : List (List La)} : PyData.tuple (t.map rowD) = tabD t := rfl
/-! the order of lags -/
theorem later_comm (a b : La) : later a b = later b a := by
  cases a <;> cases b <;> first | rfl | (simp only [later]; congr 1; split <;> split <;> omega)
theorem later_assoc (a b c : La) : later (later a b) c = later a (later b c) := by
  cases a <;> cases b <;> cases c <;> first | rfl | (simp only [later]; congr 1; (repeat' split) <;> omega)
theorem later_none (a : La) : later a none = a := by cases a <;> rfl
theorem fold_later : ∀ (l : List La) (x : La), l.foldl later x = later x (latestOf l)
  | [], x => (later_none x).symm
  | y :: l, x => by
    have h1 := fold_later l (later x y)
    have h2 := fold_later l y
    show l.foldl later (later x y) = later x (l.foldl later (later none y))
    rw [h1, show later none y = y from rfl, h2, later_assoc]
theorem latest_cons (x : La) (l : List La) : latestOf (x :: l) = later x (latestOf l) := by
  show l.foldl later (later none x) = _
  rw [show later none x = x from rfl, fold_later]
theorem added_later (r a b : La) : added r (later a b) = later (added r a) (added r b) := by
  cases r <;> cases a <;> cases b <;> first | rfl | (simp only [later, added]; congr 1; split <;> split <;> omega)
theorem sum_both : ∀ (r a b : List La), a.length = b.length → sumOf r (bothOf a b) = later (sumOf r a) (sumOf r b)
  | [], a, b, _ => by cases a <;> cases b <;> rfl
  | x :: r, [], [], _ => rfl
  | x :: r, y :: a, z :: b, h => by
    have ih := sum_both r a b (by simpa using h)
    show latestOf (added x (later y z) :: List.zipWith added r (bothOf a b)) = later (latestOf (added x y :: List.zipWith added r a)) (latestOf (added x z :: List.zipWith added r b))
    rw [latest_cons, latest_cons, latest_cons, show latestOf (List.zipWith added r (bothOf a b)) = sumOf r (bothOf a b) from rfl, ih, added_later]
    show later (later (added x y) (added x z)) (later (sumOf r a) (sumOf r b)) = later (later (added x y) (sumOf r a)) (later (added x z) (sumOf r b))
    rw [later_assoc, later_assoc, ← later_assoc (added x z), later_comm (added x z), later_assoc]
  | x :: r, [], _ :: _, h => by cases h
  | x :: r, _ :: _, [], h => by cases h
theorem apply_both {t : List (List La)} {a b : List La} (h : a.length = b.length) : applyOf t (bothOf a b) = bothOf (applyOf t a) (applyOf t b) := by
  induction t with
  | nil => rfl
  | cons r t ih =>
    show sumOf r (bothOf a b) :: applyOf t (bothOf a b) = later (sumOf r a) (sumOf r b) :: bothOf (applyOf t a) (applyOf t b)
    rw [ih, sum_both r a b h]
theorem later_lag {a b : La} (ha : lagOk a = true) (hb : lagOk b = true) : lagOk (later a b) = true := by
  cases a <;> cases b <;> first | exact ha | exact hb | skip
  simp only [later]
  split
  · exact hb
  · exact ha
theorem both_ok {a b : List La} {wide : Nat} (ha : rowOk a wide) (hb : rowOk b wide) : rowOk (bothOf a b) wide := ⟨by rw [len_both, ha.1, hb.1, Nat.min_self], fun x hx => by
  obtain ⟨i, hi, rfl⟩ := List.getElem_of_mem hx
  unfold bothOf at hi ⊢
  rw [List.getElem_zipWith]
  exact later_lag (ha.2 _ (List.getElem_mem _)) (hb.2 _ (List.getElem_mem _))⟩
theorem fold_push {α β : Type} (f : α → β) : ∀ (l : List α) (s : List β), l.foldl (fun s x => s ++ [f x]) s = s ++ l.map f
  | [], s => (List.append_nil s).symm
  | x :: l, s => by rw [List.foldl_cons, fold_push f l, List.append_assoc]; rfl
end Dn.DL
namespace Dn.DL
open PySem
/-! the latest times that a table keeps by a goal -/
def gapGo : La → List (La × La) → La
  | s, [] => s
  | s, (none, _) :: r => gapGo s r
  | _, (some _, none) :: _ => none
  | none, (some a, some b) :: r => gapGo (some (b - a)) r
  | some v, (some a, some b) :: r => gapGo (some (if b - a < v then b - a else v)) r
def gapOf (col goal : List La) : La := gapGo none (col.zip goal)
theorem gap_loop {c g : Sl} : ∀ (xs : List (La × La)) (s : La) (x3 x4 : Sl),
    (bnd (forE (.tup (.tcons (.nm 3) (.tcons (.nm 4) .tnil))) (.seq (.ite (.cmp .isnot (.var 3) (.lit .none)) (.seq (.ite (.cmp .is_ (.var 4) (.lit .none)) (.seq (.ret (.lit .none)) .nil) .nil) (.seq (.ite (.or (.cmp .is_ (.var 2) (.lit .none)) (.cmp .lt (.bin .sub (.var 4) (.var 3)) (.var 2))) (.seq (.asg (.nm 2) (.bin .sub (.var 4) (.var 3))) .nil) .nil) .nil)) .nil) .nil)
      [c, g, .val (optD s), x3, x4] (xs.map fun p => PyData.tuple [optD p.1, optD p.2])) fun a => bnd (seqK (.seq (.ret (.var 2)) .nil) a) endK) = ret (optD (gapGo s xs))
  | [], s, x3, x4 => by
    rw [List.map_nil, for_nil]
    simp -implicitDefEqProofs only [wipeE, Tg.slots, k_nx, k_rt, e_nx, e_rt, br_t, br_f, dS_nil, dS_seq, dS_nm, own_list, dS_newL, dS_par, sl_f, sl_t, dS_ite, dS_ret, dS_expr, dS_app, ap_own, dS_aug, au_val, dS_frz, fr_own, asB_bool, asI_int, items_l, items_t, dn_nil, dn_cons, dn_star, lo_l, lo_d, vk, dn_var, ok_, dn_own, dn_lit, dn_glob, dn_bin, dn_neg, dn_not, dn_cmp, dn_chain, ch_t, ch_f, dn_and, dn_or, dn_ite, an_t, an_f, or_t, or_f, it_t, it_f, dn_tup, dn_list, tup0, tup1, tup2, tup3, lst0, lst1, lst2, lst3, dn_ix, dn_slice, dn_call, call1, call2, call3, call4, call5, rk, dn_callR, dn_b1, dn_b2, dn_isI, dn_isTL, dn_range1, dn_range2, dn_zip, b1_len_l, b1_len_t, b1_tup_l, b1_tup_t, b1_list_l, b1_list_t, b1_int, not_b, neg_i, cmp_lt, cmp_le, cmp_gt, cmp_ge, cmp_is, cmp_isnot, cmp_eqi, cmp_nei, bin_add, bin_sub, zip_t, zip_l, dn_comp, dS_for, bnd_ret, bnd_bnd, fn_eq, fnR_eq, List.map_cons, List.map_nil, List.cons_append, List.nil_append, List.append_nil, List.length_cons, List.length_nil, List.replicate_succ, List.replicate_zero, Nat.sub_self, Nat.reduceAdd, Nat.reduceSub, Nat.zero_add, List.set_cons_zero, List.set_cons_succ, List.getElem?_cons_zero, List.getElem?_cons_succ]
    rfl
  | (none, q) :: r, s, x3, x4 => by
    rw [List.map_cons, for_cons]
    have e : forK (.tup (.tcons (.nm 3) (.tcons (.nm 4) .tnil))) (.seq (.ite (.cmp .isnot (.var 3) (.lit .none)) (.seq (.ite (.cmp .is_ (.var 4) (.lit .none)) (.seq (.ret (.lit .none)) .nil) .nil) (.seq (.ite (.or (.cmp .is_ (.var 2) (.lit .none)) (.cmp .lt (.bin .sub (.var 4) (.var 3)) (.var 2))) (.seq (.asg (.nm 2) (.bin .sub (.var 4) (.var 3))) .nil) .nil) .nil)) .nil) .nil) (PyData.tuple [optD none, optD q]) [c, g, .val (optD s), x3, x4] = ret (.nx [c, g, .val (optD s), .val .none, .val (optD q)]) := rfl
    rw [e, bnd_ret]
    exact gap_loop r s _ _
  | (some a, none) :: r, s, x3, x4 => by
    rw [List.map_cons, for_cons]
    have e : forK (.tup (.tcons (.nm 3) (.tcons (.nm 4) .tnil))) (.seq (.ite (.cmp .isnot (.var 3) (.lit .none)) (.seq (.ite (.cmp .is_ (.var 4) (.lit .none)) (.seq (.ret (.lit .none)) .nil) .nil) (.seq (.ite (.or (.cmp .is_ (.var 2) (.lit .none)) (.cmp .lt (.bin .sub (.var 4) (.var 3)) (.var 2))) (.seq (.asg (.nm 2) (.bin .sub (.var 4) (.var 3))) .nil) .nil) .nil)) .nil) .nil) (PyData.tuple [optD (some a), optD none]) [c, g, .val (optD s), x3, x4] = ret (.rt .none) := rfl
    rw [e, bnd_ret]
    cases s <;> rfl
  | (some a, some b) :: r, none, x3, x4 => by
    rw [List.map_cons, for_cons]
    have e : forK (.tup (.tcons (.nm 3) (.tcons (.nm 4) .tnil))) (.seq (.ite (.cmp .isnot (.var 3) (.lit .none)) (.seq (.ite (.cmp .is_ (.var 4) (.lit .none)) (.seq (.ret (.lit .none)) .nil) .nil) (.seq (.ite (.or (.cmp .is_ (.var 2) (.lit .none)) (.cmp .lt (.bin .sub (.var 4) (.var 3)) (.var 2))) (.seq (.asg (.nm 2) (.bin .sub (.var 4) (.var 3))) .nil) .nil) .nil)) .nil) .nil) (PyData.tuple [optD (some a), optD (some b)]) [c, g, .val (optD none), x3, x4] = ret (.nx [c, g, .val (.int (b - a)), .val (.int a), .val (.int b)]) := rfl
    rw [e, bnd_ret]
    exact gap_loop r (some (b - a)) _ _
  | (some a, some b) :: r, some v, x3, x4 => by
    rw [List.map_cons, for_cons]
    unfold forK
    show (bnd (bnd (denS _ [c, g, .val (.int v), .val (.int a), .val (.int b)]) _) _ : M D) = _
    simp -implicitDefEqProofs only [wipeE, Tg.slots, k_nx, k_rt, e_nx, e_rt, br_t, br_f, dS_nil, dS_seq, dS_nm, own_list, dS_newL, dS_par, sl_f, sl_t, dS_ite, dS_ret, dS_expr, dS_app, ap_own, dS_aug, au_val, dS_frz, fr_own, asB_bool, asI_int, items_l, items_t, dn_nil, dn_cons, dn_star, lo_l, lo_d, vk, dn_var, ok_, dn_own, dn_lit, dn_glob, dn_bin, dn_neg, dn_not, dn_cmp, dn_chain, ch_t, ch_f, dn_and, dn_or, dn_ite, an_t, an_f, or_t, or_f, it_t, it_f, dn_tup, dn_list, tup0, tup1, tup2, tup3, lst0, lst1, lst2, lst3, dn_ix, dn_slice, dn_call, call1, call2, call3, call4, call5, rk, dn_callR, dn_b1, dn_b2, dn_isI, dn_isTL, dn_range1, dn_range2, dn_zip, b1_len_l, b1_len_t, b1_tup_l, b1_tup_t, b1_list_l, b1_list_t, b1_int, not_b, neg_i, cmp_lt, cmp_le, cmp_gt, cmp_ge, cmp_is, cmp_isnot, cmp_eqi, cmp_nei, bin_add, bin_sub, zip_t, zip_l, dn_comp, dS_for, bnd_ret, bnd_bnd, fn_eq, fnR_eq, List.map_cons, List.map_nil, List.cons_append, List.nil_append, List.append_nil, List.length_cons, List.length_nil, List.replicate_succ, List.replicate_zero, Nat.sub_self, Nat.reduceAdd, Nat.reduceSub, Nat.zero_add, List.set_cons_zero, List.set_cons_succ, List.getElem?_cons_zero, List.getElem?_cons_succ, isNone, Bool.not_false]
    by_cases h : b - a < v
    · simp -implicitDefEqProofs only [wipeE, Tg.slots, k_nx, k_rt, e_nx, e_rt, br_t, br_f, dS_nil, dS_seq, dS_nm, own_list, dS_newL, dS_par, sl_f, sl_t, dS_ite, dS_ret, dS_expr, dS_app, ap_own, dS_aug, au_val, dS_frz, fr_own, asB_bool, asI_int, items_l, items_t, dn_nil, dn_cons, dn_star, lo_l, lo_d, vk, dn_var, ok_, dn_own, dn_lit, dn_glob, dn_bin, dn_neg, dn_not, dn_cmp, dn_chain, ch_t, ch_f, dn_and, dn_or, dn_ite, an_t, an_f, or_t, or_f, it_t, it_f, dn_tup, dn_list, tup0, tup1, tup2, tup3, lst0, lst1, lst2, lst3, dn_ix, dn_slice, dn_call, call1, call2, call3, call4, call5, rk, dn_callR, dn_b1, dn_b2, dn_isI, dn_isTL, dn_range1, dn_range2, dn_zip, b1_len_l, b1_len_t, b1_tup_l, b1_tup_t, b1_list_l, b1_list_t, b1_int, not_b, neg_i, cmp_lt, cmp_le, cmp_gt, cmp_ge, cmp_is, cmp_isnot, cmp_eqi, cmp_nei, bin_add, bin_sub, zip_t, zip_l, dn_comp, dS_for, bnd_ret, bnd_bnd, fn_eq, fnR_eq, List.map_cons, List.map_nil, List.cons_append, List.nil_append, List.append_nil, List.length_cons, List.length_nil, List.replicate_succ, List.replicate_zero, Nat.sub_self, Nat.reduceAdd, Nat.reduceSub, Nat.zero_add, List.set_cons_zero, List.set_cons_succ, List.getElem?_cons_zero, List.getElem?_cons_succ, decide_eq_true h]
      have ih := gap_loop (c := c) (g := g) r (some (b - a)) (.val (.int a)) (.val (.int b))
      show _ = ret (optD (gapGo (some (if b - a < v then b - a else v)) r))
      rw [if_pos h, ← ih]
      rfl
    · simp -implicitDefEqProofs only [wipeE, Tg.slots, k_nx, k_rt, e_nx, e_rt, br_t, br_f, dS_nil, dS_seq, dS_nm, own_list, dS_newL, dS_par, sl_f, sl_t, dS_ite, dS_ret, dS_expr, dS_app, ap_own, dS_aug, au_val, dS_frz, fr_own, asB_bool, asI_int, items_l, items_t, dn_nil, dn_cons, dn_star, lo_l, lo_d, vk, dn_var, ok_, dn_own, dn_lit, dn_glob, dn_bin, dn_neg, dn_not, dn_cmp, dn_chain, ch_t, ch_f, dn_and, dn_or, dn_ite, an_t, an_f, or_t, or_f, it_t, it_f, dn_tup, dn_list, tup0, tup1, tup2, tup3, lst0, lst1, lst2, lst3, dn_ix, dn_slice, dn_call, call1, call2, call3, call4, call5, rk, dn_callR, dn_b1, dn_b2, dn_isI, dn_isTL, dn_range1, dn_range2, dn_zip, b1_len_l, b1_len_t, b1_tup_l, b1_tup_t, b1_list_l, b1_list_t, b1_int, not_b, neg_i, cmp_lt, cmp_le, cmp_gt, cmp_ge, cmp_is, cmp_isnot, cmp_eqi, cmp_nei, bin_add, bin_sub, zip_t, zip_l, dn_comp, dS_for, bnd_ret, bnd_bnd, fn_eq, fnR_eq, List.map_cons, List.map_nil, List.cons_append, List.nil_append, List.append_nil, List.length_cons, List.length_nil, List.replicate_succ, List.replicate_zero, Nat.sub_self, Nat.reduceAdd, Nat.reduceSub, Nat.zero_add, List.set_cons_zero, List.set_cons_succ, List.getElem?_cons_zero, List.getElem?_cons_succ, decide_eq_false h]
      have ih := gap_loop (c := c) (g := g) r (some v) (.val (.int a)) (.val (.int b))
      show _ = ret (optD (gapGo (some (if b - a < v then b - a else v)) r))
      rw [if_neg h, ← ih]
      rfl
theorem zip_row {a b : List La} : zip2D (rowD a) (rowD b) = ret (.list ((a.zip b).map fun p => PyData.tuple [optD p.1, optD p.2])) := by
  unfold rowD
  rw [zip_t, zip_enc]
theorem m_least_gap (a b : List La) : f_least_gap [rowD a, rowD b] = ret (optD (gapOf a b)) := by
  unfold f_least_gap B_least_gap
  simp -implicitDefEqProofs only [wipeE, Tg.slots, k_nx, k_rt, e_nx, e_rt, br_t, br_f, dS_nil, dS_seq, dS_nm, own_list, dS_newL, dS_par, sl_f, sl_t, dS_ite, dS_ret, dS_expr, dS_app, ap_own, dS_aug, au_val, dS_frz, fr_own, asB_bool, asI_int, items_l, items_t, dn_nil, dn_cons, dn_star, lo_l, lo_d, vk, dn_var, ok_, dn_own, dn_lit, dn_glob, dn_bin, dn_neg, dn_not, dn_cmp, dn_chain, ch_t, ch_f, dn_and, dn_or, dn_ite, an_t, an_f, or_t, or_f, it_t, it_f, dn_tup, dn_list, tup0, tup1, tup2, tup3, lst0, lst1, lst2, lst3, dn_ix, dn_slice, dn_call, call1, call2, call3, call4, call5, rk, dn_callR, dn_b1, dn_b2, dn_isI, dn_isTL, dn_range1, dn_range2, dn_zip, b1_len_l, b1_len_t, b1_tup_l, b1_tup_t, b1_list_l, b1_list_t, b1_int, not_b, neg_i, cmp_lt, cmp_le, cmp_gt, cmp_ge, cmp_is, cmp_isnot, cmp_eqi, cmp_nei, bin_add, bin_sub, zip_t, zip_l, dn_comp, dS_for, bnd_ret, bnd_bnd, fn_eq, fnR_eq, List.map_cons, List.map_nil, List.cons_append, List.nil_append, List.append_nil, List.length_cons, List.length_nil, List.replicate_succ, List.replicate_zero, Nat.sub_self, Nat.reduceAdd, Nat.reduceSub, Nat.zero_add, List.set_cons_zero, List.set_cons_succ, List.getElem?_cons_zero, List.getElem?_cons_succ, zip_row]
  exact gap_loop _ none _ _
def dividedOf (t : List (List La)) (wide : Nat) (goal : List La) : List La := (turnedOf t wide).map fun c => gapOf c goal
theorem m_divided_of {t : List (List La)} {high wide : Nat} {g : List La} (h : tabOk t high wide) : f_divided_of [tabD t, rowD g] = ret (rowD (dividedOf t wide g)) := by
  unfold f_divided_of B_divided_of
  simp -implicitDefEqProofs only [wipeE, Tg.slots, k_nx, k_rt, e_nx, e_rt, br_t, br_f, dS_nil, dS_seq, dS_nm, own_list, dS_newL, dS_par, sl_f, sl_t, dS_ite, dS_ret, dS_expr, dS_app, ap_own, dS_aug, au_val, dS_frz, fr_own, asB_bool, asI_int, items_l, items_t, dn_nil, dn_cons, dn_star, lo_l, lo_d, vk, dn_var, ok_, dn_own, dn_lit, dn_glob, dn_bin, dn_neg, dn_not, dn_cmp, dn_chain, ch_t, ch_f, dn_and, dn_or, dn_ite, an_t, an_f, or_t, or_f, it_t, it_f, dn_tup, dn_list, tup0, tup1, tup2, tup3, lst0, lst1, lst2, lst3, dn_ix, dn_slice, dn_call, call1, call2, call3, call4, call5, rk, dn_callR, dn_b1, dn_b2, dn_isI, dn_isTL, dn_range1, dn_range2, dn_zip, b1_len_l, b1_len_t, b1_tup_l, b1_tup_t, b1_list_l, b1_list_t, b1_int, not_b, neg_i, cmp_lt, cmp_le, cmp_gt, cmp_ge, cmp_is, cmp_isnot, cmp_eqi, cmp_nei, bin_add, bin_sub, zip_t, zip_l, dn_comp, dS_for, bnd_ret, bnd_bnd, fn_eq, fnR_eq, List.map_cons, List.map_nil, List.cons_append, List.nil_append, List.append_nil, List.length_cons, List.length_nil, List.replicate_succ, List.replicate_zero, Nat.sub_self, Nat.reduceAdd, Nat.reduceSub, Nat.zero_add, List.set_cons_zero, List.set_cons_succ, List.getElem?_cons_zero, List.getElem?_cons_succ, m_turned_of h, items_tab]
  rw [cmpMap (g := fun c : List La => optD (gapOf c g)) fun c _ => ⟨_, rfl, rfl, by simp -implicitDefEqProofs only [wipeE, Tg.slots, k_nx, k_rt, e_nx, e_rt, br_t, br_f, dS_nil, dS_seq, dS_nm, own_list, dS_newL, dS_par, sl_f, sl_t, dS_ite, dS_ret, dS_expr, dS_app, ap_own, dS_aug, au_val, dS_frz, fr_own, asB_bool, asI_int, items_l, items_t, dn_nil, dn_cons, dn_star, lo_l, lo_d, vk, dn_var, ok_, dn_own, dn_lit, dn_glob, dn_bin, dn_neg, dn_not, dn_cmp, dn_chain, ch_t, ch_f, dn_and, dn_or, dn_ite, an_t, an_f, or_t, or_f, it_t, it_f, dn_tup, dn_list, tup0, tup1, tup2, tup3, lst0, lst1, lst2, lst3, dn_ix, dn_slice, dn_call, call1, call2, call3, call4, call5, rk, dn_callR, dn_b1, dn_b2, dn_isI, dn_isTL, dn_range1, dn_range2, dn_zip, b1_len_l, b1_len_t, b1_tup_l, b1_tup_t, b1_list_l, b1_list_t, b1_int, not_b, neg_i, cmp_lt, cmp_le, cmp_gt, cmp_ge, cmp_is, cmp_isnot, cmp_eqi, cmp_nei, bin_add, bin_sub, zip_t, zip_l, dn_comp, dS_for, bnd_ret, bnd_bnd, fn_eq, fnR_eq, List.map_cons, List.map_nil, List.cons_append, List.nil_append, List.append_nil, List.length_cons, List.length_nil, List.replicate_succ, List.replicate_zero, Nat.sub_self, Nat.reduceAdd, Nat.reduceSub, Nat.zero_add, List.set_cons_zero, List.set_cons_succ, List.getElem?_cons_zero, List.getElem?_cons_succ, m_least_gap]⟩]
  simp -implicitDefEqProofs only [wipeE, Tg.slots, k_nx, k_rt, e_nx, e_rt, br_t, br_f, dS_nil, dS_seq, dS_nm, own_list, dS_newL, dS_par, sl_f, sl_t, dS_ite, dS_ret, dS_expr, dS_app, ap_own, dS_aug, au_val, dS_frz, fr_own, asB_bool, asI_int, items_l, items_t, dn_nil, dn_cons, dn_star, lo_l, lo_d, vk, dn_var, ok_, dn_own, dn_lit, dn_glob, dn_bin, dn_neg, dn_not, dn_cmp, dn_chain, ch_t, ch_f, dn_and, dn_or, dn_ite, an_t, an_f, or_t, or_f, it_t, it_f, dn_tup, dn_list, tup0, tup1, tup2, tup3, lst0, lst1, lst2, lst3, dn_ix, dn_slice, dn_call, call1, call2, call3, call4, call5, rk, dn_callR, dn_b1, dn_b2, dn_isI, dn_isTL, dn_range1, dn_range2, dn_zip, b1_len_l, b1_len_t, b1_tup_l, b1_tup_t, b1_list_l, b1_list_t, b1_int, not_b, neg_i, cmp_lt, cmp_le, cmp_gt, cmp_ge, cmp_is, cmp_isnot, cmp_eqi, cmp_nei, bin_add, bin_sub, zip_t, zip_l, dn_comp, dS_for, bnd_ret, bnd_bnd, fn_eq, fnR_eq, List.map_cons, List.map_nil, List.cons_append, List.nil_append, List.append_nil, List.length_cons, List.length_nil, List.replicate_succ, List.replicate_zero, Nat.sub_self, Nat.reduceAdd, Nat.reduceSub, Nat.zero_add, List.set_cons_zero, List.set_cons_succ, List.getElem?_cons_zero, List.getElem?_cons_succ]
  unfold dividedOf rowD
  rw [List.map_map]
  rfl
def minOf : La → La → La
  | some a, some b => some (if b < a then b else a)
  | _, _ => none
theorem m_min_of (a b : La) : f_min_of [optD a, optD b] = ret (optD (minOf a b)) := by
  cases a <;> cases b <;> rfl
def loweredBy (t : List (List La)) (wide : Nat) (goal x : List La) : List La := List.zipWith minOf x (dividedOf t wide goal)
theorem m_lowered_by {t : List (List La)} {high wide : Nat} {g x : List La} (h : tabOk t high wide) : f_lowered_by [tabD t, rowD g, rowD x] = ret (rowD (loweredBy t wide g x)) := by
  unfold f_lowered_by B_lowered_by
  simp -implicitDefEqProofs only [wipeE, Tg.slots, k_nx, k_rt, e_nx, e_rt, br_t, br_f, dS_nil, dS_seq, dS_nm, own_list, dS_newL, dS_par, sl_f, sl_t, dS_ite, dS_ret, dS_expr, dS_app, ap_own, dS_aug, au_val, dS_frz, fr_own, asB_bool, asI_int, items_l, items_t, dn_nil, dn_cons, dn_star, lo_l, lo_d, vk, dn_var, ok_, dn_own, dn_lit, dn_glob, dn_bin, dn_neg, dn_not, dn_cmp, dn_chain, ch_t, ch_f, dn_and, dn_or, dn_ite, an_t, an_f, or_t, or_f, it_t, it_f, dn_tup, dn_list, tup0, tup1, tup2, tup3, lst0, lst1, lst2, lst3, dn_ix, dn_slice, dn_call, call1, call2, call3, call4, call5, rk, dn_callR, dn_b1, dn_b2, dn_isI, dn_isTL, dn_range1, dn_range2, dn_zip, b1_len_l, b1_len_t, b1_tup_l, b1_tup_t, b1_list_l, b1_list_t, b1_int, not_b, neg_i, cmp_lt, cmp_le, cmp_gt, cmp_ge, cmp_is, cmp_isnot, cmp_eqi, cmp_nei, bin_add, bin_sub, zip_t, zip_l, dn_comp, dS_for, bnd_ret, bnd_bnd, fn_eq, fnR_eq, List.map_cons, List.map_nil, List.cons_append, List.nil_append, List.append_nil, List.length_cons, List.length_nil, List.replicate_succ, List.replicate_zero, Nat.sub_self, Nat.reduceAdd, Nat.reduceSub, Nat.zero_add, List.set_cons_zero, List.set_cons_succ, List.getElem?_cons_zero, List.getElem?_cons_succ, m_divided_of h, zip_row]
  rw [cmpMap (g := fun p : La × La => optD (minOf p.1 p.2)) fun p _ => ⟨_, rfl, rfl, by simp -implicitDefEqProofs only [wipeE, Tg.slots, k_nx, k_rt, e_nx, e_rt, br_t, br_f, dS_nil, dS_seq, dS_nm, own_list, dS_newL, dS_par, sl_f, sl_t, dS_ite, dS_ret, dS_expr, dS_app, ap_own, dS_aug, au_val, dS_frz, fr_own, asB_bool, asI_int, items_l, items_t, dn_nil, dn_cons, dn_star, lo_l, lo_d, vk, dn_var, ok_, dn_own, dn_lit, dn_glob, dn_bin, dn_neg, dn_not, dn_cmp, dn_chain, ch_t, ch_f, dn_and, dn_or, dn_ite, an_t, an_f, or_t, or_f, it_t, it_f, dn_tup, dn_list, tup0, tup1, tup2, tup3, lst0, lst1, lst2, lst3, dn_ix, dn_slice, dn_call, call1, call2, call3, call4, call5, rk, dn_callR, dn_b1, dn_b2, dn_isI, dn_isTL, dn_range1, dn_range2, dn_zip, b1_len_l, b1_len_t, b1_tup_l, b1_tup_t, b1_list_l, b1_list_t, b1_int, not_b, neg_i, cmp_lt, cmp_le, cmp_gt, cmp_ge, cmp_is, cmp_isnot, cmp_eqi, cmp_nei, bin_add, bin_sub, zip_t, zip_l, dn_comp, dS_for, bnd_ret, bnd_bnd, fn_eq, fnR_eq, List.map_cons, List.map_nil, List.cons_append, List.nil_append, List.append_nil, List.length_cons, List.length_nil, List.replicate_succ, List.replicate_zero, Nat.sub_self, Nat.reduceAdd, Nat.reduceSub, Nat.zero_add, List.set_cons_zero, List.set_cons_succ, List.getElem?_cons_zero, List.getElem?_cons_succ, m_min_of]⟩]
  simp -implicitDefEqProofs only [wipeE, Tg.slots, k_nx, k_rt, e_nx, e_rt, br_t, br_f, dS_nil, dS_seq, dS_nm, own_list, dS_newL, dS_par, sl_f, sl_t, dS_ite, dS_ret, dS_expr, dS_app, ap_own, dS_aug, au_val, dS_frz, fr_own, asB_bool, asI_int, items_l, items_t, dn_nil, dn_cons, dn_star, lo_l, lo_d, vk, dn_var, ok_, dn_own, dn_lit, dn_glob, dn_bin, dn_neg, dn_not, dn_cmp, dn_chain, ch_t, ch_f, dn_and, dn_or, dn_ite, an_t, an_f, or_t, or_f, it_t, it_f, dn_tup, dn_list, tup0, tup1, tup2, tup3, lst0, lst1, lst2, lst3, dn_ix, dn_slice, dn_call, call1, call2, call3, call4, call5, rk, dn_callR, dn_b1, dn_b2, dn_isI, dn_isTL, dn_range1, dn_range2, dn_zip, b1_len_l, b1_len_t, b1_tup_l, b1_tup_t, b1_list_l, b1_list_t, b1_int, not_b, neg_i, cmp_lt, cmp_le, cmp_gt, cmp_ge, cmp_is, cmp_isnot, cmp_eqi, cmp_nei, bin_add, bin_sub, zip_t, zip_l, dn_comp, dS_for, bnd_ret, bnd_bnd, fn_eq, fnR_eq, List.map_cons, List.map_nil, List.cons_append, List.nil_append, List.append_nil, List.length_cons, List.length_nil, List.replicate_succ, List.replicate_zero, Nat.sub_self, Nat.reduceAdd, Nat.reduceSub, Nat.zero_add, List.set_cons_zero, List.set_cons_succ, List.getElem?_cons_zero, List.getElem?_cons_succ, zip_back]
  rfl
end Dn.DL
namespace Dn.DL
open PySem
theorem none_opt (a : La) : isNone (optD a) = a.isNone := by cases a <;> rfl
theorem full_in {t : List (List La)} {wide k : Nat} (h : ∀ r ∈ t, rowOk r wide) (hk : k < wide) (x : Sl) : compK (.cmp .is_ (.ix (.var 2) (.var 1)) (.lit .none)) (.nm 2) (.lit (.bool true)) [.val (tabD t), .val (.int k), x] (t.map rowD) = ret (.list (t.map fun r => PyData.bool (getL r k).isNone)) := by
  rw [cmpMap (g := fun r : List La => PyData.bool (getL r k).isNone) fun r hr => ⟨[.val (tabD t), .val (.int k), .val (rowD r)], rfl, rfl, by
    simp -implicitDefEqProofs only [wipeE, Tg.slots, k_nx, k_rt, e_nx, e_rt, br_t, br_f, dS_nil, dS_seq, dS_nm, own_list, dS_newL, dS_par, sl_f, sl_t, dS_ite, dS_ret, dS_expr, dS_app, ap_own, dS_aug, au_val, dS_frz, fr_own, asB_bool, asI_int, items_l, items_t, dn_nil, dn_cons, dn_star, lo_l, lo_d, vk, dn_var, ok_, dn_own, dn_lit, dn_glob, dn_bin, dn_neg, dn_not, dn_cmp, dn_chain, ch_t, ch_f, dn_and, dn_or, dn_ite, an_t, an_f, or_t, or_f, it_t, it_f, dn_tup, dn_list, tup0, tup1, tup2, tup3, lst0, lst1, lst2, lst3, dn_ix, dn_slice, dn_call, call1, call2, call3, call4, call5, rk, dn_callR, dn_b1, dn_b2, dn_isI, dn_isTL, dn_range1, dn_range2, dn_zip, b1_len_l, b1_len_t, b1_tup_l, b1_tup_t, b1_list_l, b1_list_t, b1_int, not_b, neg_i, cmp_lt, cmp_le, cmp_gt, cmp_ge, cmp_is, cmp_isnot, cmp_eqi, cmp_nei, bin_add, bin_sub, zip_t, zip_l, dn_comp, dS_for, bnd_ret, bnd_bnd, fn_eq, fnR_eq, List.map_cons, List.map_nil, List.cons_append, List.nil_append, List.append_nil, List.length_cons, List.length_nil, List.replicate_succ, List.replicate_zero, Nat.sub_self, Nat.reduceAdd, Nat.reduceSub, Nat.zero_add, List.set_cons_zero, List.set_cons_succ, List.getElem?_cons_zero, List.getElem?_cons_succ, ix_row (getD_ok (show k < r.length by rw [(h r hr).1]; exact hk)), none_opt]
    rfl⟩]
theorem m_need_full {t : List (List La)} {high wide : Nat} (h : tabOk t high wide) (hf : ∀ k, k < wide → ∃ r ∈ t, getL r k ≠ none) : f_need_full [tabD t] = ret .none := by
  obtain ⟨r0, e0, l0⟩ := h.head
  obtain ⟨h1, h2, h3, h4, h5, h6⟩ := h
  unfold f_need_full B_need_full
  simp -implicitDefEqProofs only [wipeE, Tg.slots, k_nx, k_rt, e_nx, e_rt, br_t, br_f, dS_nil, dS_seq, dS_nm, own_list, dS_newL, dS_par, sl_f, sl_t, dS_ite, dS_ret, dS_expr, dS_app, ap_own, dS_aug, au_val, dS_frz, fr_own, asB_bool, asI_int, items_l, items_t, dn_nil, dn_cons, dn_star, lo_l, lo_d, vk, dn_var, ok_, dn_own, dn_lit, dn_glob, dn_bin, dn_neg, dn_not, dn_cmp, dn_chain, ch_t, ch_f, dn_and, dn_or, dn_ite, an_t, an_f, or_t, or_f, it_t, it_f, dn_tup, dn_list, tup0, tup1, tup2, tup3, lst0, lst1, lst2, lst3, dn_ix, dn_slice, dn_call, call1, call2, call3, call4, call5, rk, dn_callR, dn_b1, dn_b2, dn_isI, dn_isTL, dn_range1, dn_range2, dn_zip, b1_len_l, b1_len_t, b1_tup_l, b1_tup_t, b1_list_l, b1_list_t, b1_int, not_b, neg_i, cmp_lt, cmp_le, cmp_gt, cmp_ge, cmp_is, cmp_isnot, cmp_eqi, cmp_nei, bin_add, bin_sub, zip_t, zip_l, dn_comp, dS_for, bnd_ret, bnd_bnd, fn_eq, fnR_eq, List.map_cons, List.map_nil, List.cons_append, List.nil_append, List.append_nil, List.length_cons, List.length_nil, List.replicate_succ, List.replicate_zero, Nat.sub_self, Nat.reduceAdd, Nat.reduceSub, Nat.zero_add, List.set_cons_zero, List.set_cons_succ, List.getElem?_cons_zero, List.getElem?_cons_succ, ix_tab0 e0, len_row, l0, range0 (Nat.le_trans h5 (show 6 ≤ 1000 by decide))]
  rw [cmpMap (xs := List.range wide) (enc := fun (i : Nat) => PyData.int (i : Int)) (g := fun k => PyData.bool (t.all fun r => (getL r k).isNone)) fun k hk => ⟨[.val (tabD t), .val (.int k), .no], rfl, rfl, by
    simp -implicitDefEqProofs only [wipeE, Tg.slots, k_nx, k_rt, e_nx, e_rt, br_t, br_f, dS_nil, dS_seq, dS_nm, own_list, dS_newL, dS_par, sl_f, sl_t, dS_ite, dS_ret, dS_expr, dS_app, ap_own, dS_aug, au_val, dS_frz, fr_own, asB_bool, asI_int, items_l, items_t, dn_nil, dn_cons, dn_star, lo_l, lo_d, vk, dn_var, ok_, dn_own, dn_lit, dn_glob, dn_bin, dn_neg, dn_not, dn_cmp, dn_chain, ch_t, ch_f, dn_and, dn_or, dn_ite, an_t, an_f, or_t, or_f, it_t, it_f, dn_tup, dn_list, tup0, tup1, tup2, tup3, lst0, lst1, lst2, lst3, dn_ix, dn_slice, dn_call, call1, call2, call3, call4, call5, rk, dn_callR, dn_b1, dn_b2, dn_isI, dn_isTL, dn_range1, dn_range2, dn_zip, b1_len_l, b1_len_t, b1_tup_l, b1_tup_t, b1_list_l, b1_list_t, b1_int, not_b, neg_i, cmp_lt, cmp_le, cmp_gt, cmp_ge, cmp_is, cmp_isnot, cmp_eqi, cmp_nei, bin_add, bin_sub, zip_t, zip_l, dn_comp, dS_for, bnd_ret, bnd_bnd, fn_eq, fnR_eq, List.map_cons, List.map_nil, List.cons_append, List.nil_append, List.append_nil, List.length_cons, List.length_nil, List.replicate_succ, List.replicate_zero, Nat.sub_self, Nat.reduceAdd, Nat.reduceSub, Nat.zero_add, List.set_cons_zero, List.set_cons_succ, List.getElem?_cons_zero, List.getElem?_cons_succ, items_tab, full_in h6 (List.mem_range.mp hk), b1_all]⟩]
  have e : ((List.range wide).any fun k => t.all fun r => (getL r k).isNone) = false := by
    rw [List.any_eq_false]
    intro k hk hc
    obtain ⟨r, hr, hn⟩ := hf k (List.mem_range.mp hk)
    have := List.all_eq_true.mp hc r hr
    cases e : getL r k with
    | none => exact hn e
    | some _ => rw [e] at this; cases this
  simp -implicitDefEqProofs only [wipeE, Tg.slots, k_nx, k_rt, e_nx, e_rt, br_t, br_f, dS_nil, dS_seq, dS_nm, own_list, dS_newL, dS_par, sl_f, sl_t, dS_ite, dS_ret, dS_expr, dS_app, ap_own, dS_aug, au_val, dS_frz, fr_own, asB_bool, asI_int, items_l, items_t, dn_nil, dn_cons, dn_star, lo_l, lo_d, vk, dn_var, ok_, dn_own, dn_lit, dn_glob, dn_bin, dn_neg, dn_not, dn_cmp, dn_chain, ch_t, ch_f, dn_and, dn_or, dn_ite, an_t, an_f, or_t, or_f, it_t, it_f, dn_tup, dn_list, tup0, tup1, tup2, tup3, lst0, lst1, lst2, lst3, dn_ix, dn_slice, dn_call, call1, call2, call3, call4, call5, rk, dn_callR, dn_b1, dn_b2, dn_isI, dn_isTL, dn_range1, dn_range2, dn_zip, b1_len_l, b1_len_t, b1_tup_l, b1_tup_t, b1_list_l, b1_list_t, b1_int, not_b, neg_i, cmp_lt, cmp_le, cmp_gt, cmp_ge, cmp_is, cmp_isnot, cmp_eqi, cmp_nei, bin_add, bin_sub, zip_t, zip_l, dn_comp, dS_for, bnd_ret, bnd_bnd, fn_eq, fnR_eq, List.map_cons, List.map_nil, List.cons_append, List.nil_append, List.append_nil, List.length_cons, List.length_nil, List.replicate_succ, List.replicate_zero, Nat.sub_self, Nat.reduceAdd, Nat.reduceSub, Nat.zero_add, List.set_cons_zero, List.set_cons_succ, List.getElem?_cons_zero, List.getElem?_cons_succ, b1_any, e]
theorem ints_map {α : Type} (f : α → Int) : ∀ xs : List α, intsOf (xs.map fun x => PyData.int (f x)) = some (xs.map f)
  | [] => rfl
  | x :: xs => by rw [List.map_cons, intsOf, ints_map f xs]; rfl
theorem b1_max0 {α : Type} (f : α → Int) (xs : List α) : b1D .max (.list (PyData.int 0 :: xs.map fun x => PyData.int (f x))) = ret (.int (maxI (0 :: xs.map f))) := by
  show (match intsOf (PyData.int 0 :: xs.map fun x => PyData.int (f x)) with | some (n :: ns) => (ret (.int (maxI (n :: ns))) : M D) | _ => bad) = _
  rw [show intsOf (PyData.int 0 :: xs.map fun x => PyData.int (f x)) = some (0 :: xs.map f) by rw [intsOf, ints_map]; rfl]
theorem add_ll {xs ys : List D} (h : xs.length + ys.length ≤ sizeLine) : binD .add (.list xs) (.list ys) = ret (.list (xs ++ ys)) := if_pos h
def absI (i : Int) : Int := if i < 0 then -i else i
def absRow (r : List La) : List Int := (r.filter Option.isSome).map fun x => absI (x.getD 0)
def farRow (r : List La) : Int := maxI (0 :: absRow r)
def farTab (t : List (List La)) : Int := maxI (0 :: t.map farRow)
theorem max_ge (xs : List Int) (x : Int) : ∀ y ∈ x :: xs, y ≤ maxI (x :: xs) := (maxI_spec xs x).2
theorem small_line {n : Nat} (h : n ≤ 1000) : 1 + n ≤ sizeLine := Nat.le_trans (Nat.add_le_add_left h 1) (by decide)
theorem far_in {t : List (List La)} {r : List La} (x : Sl) : compK (.b1 .abs (.var 2)) (.nm 2) (.cmp .isnot (.var 2) (.lit .none)) [.val (tabD t), .val (rowD r), x] (r.map optD) = ret (.list ((r.filter Option.isSome).map fun x => PyData.int (absI (x.getD 0)))) :=
  cmpFil (enc := optD) (g := fun x : La => PyData.int (absI (x.getD 0))) (p := Option.isSome) fun a _ => ⟨[.val (tabD t), .val (rowD r), .val (optD a)], rfl, by
    simp -implicitDefEqProofs only [wipeE, Tg.slots, k_nx, k_rt, e_nx, e_rt, br_t, br_f, dS_nil, dS_seq, dS_nm, own_list, dS_newL, dS_par, sl_f, sl_t, dS_ite, dS_ret, dS_expr, dS_app, ap_own, dS_aug, au_val, dS_frz, fr_own, asB_bool, asI_int, items_l, items_t, dn_nil, dn_cons, dn_star, lo_l, lo_d, vk, dn_var, ok_, dn_own, dn_lit, dn_glob, dn_bin, dn_neg, dn_not, dn_cmp, dn_chain, ch_t, ch_f, dn_and, dn_or, dn_ite, an_t, an_f, or_t, or_f, it_t, it_f, dn_tup, dn_list, tup0, tup1, tup2, tup3, lst0, lst1, lst2, lst3, dn_ix, dn_slice, dn_call, call1, call2, call3, call4, call5, rk, dn_callR, dn_b1, dn_b2, dn_isI, dn_isTL, dn_range1, dn_range2, dn_zip, b1_len_l, b1_len_t, b1_tup_l, b1_tup_t, b1_list_l, b1_list_t, b1_int, not_b, neg_i, cmp_lt, cmp_le, cmp_gt, cmp_ge, cmp_is, cmp_isnot, cmp_eqi, cmp_nei, bin_add, bin_sub, zip_t, zip_l, dn_comp, dS_for, bnd_ret, bnd_bnd, fn_eq, fnR_eq, List.map_cons, List.map_nil, List.cons_append, List.nil_append, List.append_nil, List.length_cons, List.length_nil, List.replicate_succ, List.replicate_zero, Nat.sub_self, Nat.reduceAdd, Nat.reduceSub, Nat.zero_add, List.set_cons_zero, List.set_cons_succ, List.getElem?_cons_zero, List.getElem?_cons_succ, none_opt]
    cases a <;> rfl, fun h => by
    cases a with
    | none => cases h
    | some i => rfl⟩
theorem m_farthest {t : List (List La)} (ht : t.length ≤ 1000) (hr : ∀ r ∈ t, r.length ≤ 1000) : f_farthest [tabD t] = ret (.int (farTab t)) := by
  unfold f_farthest B_farthest
  simp -implicitDefEqProofs only [wipeE, Tg.slots, k_nx, k_rt, e_nx, e_rt, br_t, br_f, dS_nil, dS_seq, dS_nm, own_list, dS_newL, dS_par, sl_f, sl_t, dS_ite, dS_ret, dS_expr, dS_app, ap_own, dS_aug, au_val, dS_frz, fr_own, asB_bool, asI_int, items_l, items_t, dn_nil, dn_cons, dn_star, lo_l, lo_d, vk, dn_var, ok_, dn_own, dn_lit, dn_glob, dn_bin, dn_neg, dn_not, dn_cmp, dn_chain, ch_t, ch_f, dn_and, dn_or, dn_ite, an_t, an_f, or_t, or_f, it_t, it_f, dn_tup, dn_list, tup0, tup1, tup2, tup3, lst0, lst1, lst2, lst3, dn_ix, dn_slice, dn_call, call1, call2, call3, call4, call5, rk, dn_callR, dn_b1, dn_b2, dn_isI, dn_isTL, dn_range1, dn_range2, dn_zip, b1_len_l, b1_len_t, b1_tup_l, b1_tup_t, b1_list_l, b1_list_t, b1_int, not_b, neg_i, cmp_lt, cmp_le, cmp_gt, cmp_ge, cmp_is, cmp_isnot, cmp_eqi, cmp_nei, bin_add, bin_sub, zip_t, zip_l, dn_comp, dS_for, bnd_ret, bnd_bnd, fn_eq, fnR_eq, List.map_cons, List.map_nil, List.cons_append, List.nil_append, List.append_nil, List.length_cons, List.length_nil, List.replicate_succ, List.replicate_zero, Nat.sub_self, Nat.reduceAdd, Nat.reduceSub, Nat.zero_add, List.set_cons_zero, List.set_cons_succ, List.getElem?_cons_zero, List.getElem?_cons_succ, items_tab]
  rw [cmpMap (g := fun r : List La => PyData.int (farRow r)) fun r h => ⟨[.val (tabD t), .val (rowD r), .no], rfl, rfl, by
    have hl : 1 + ((r.filter Option.isSome).map fun x => PyData.int (absI (x.getD 0))).length ≤ sizeLine := by
      rw [List.length_map]
      exact small_line (Nat.le_trans (List.length_filter_le ..) (hr r h))
    simp -implicitDefEqProofs only [wipeE, Tg.slots, k_nx, k_rt, e_nx, e_rt, br_t, br_f, dS_nil, dS_seq, dS_nm, own_list, dS_newL, dS_par, sl_f, sl_t, dS_ite, dS_ret, dS_expr, dS_app, ap_own, dS_aug, au_val, dS_frz, fr_own, asB_bool, asI_int, items_l, items_t, dn_nil, dn_cons, dn_star, lo_l, lo_d, vk, dn_var, ok_, dn_own, dn_lit, dn_glob, dn_bin, dn_neg, dn_not, dn_cmp, dn_chain, ch_t, ch_f, dn_and, dn_or, dn_ite, an_t, an_f, or_t, or_f, it_t, it_f, dn_tup, dn_list, tup0, tup1, tup2, tup3, lst0, lst1, lst2, lst3, dn_ix, dn_slice, dn_call, call1, call2, call3, call4, call5, rk, dn_callR, dn_b1, dn_b2, dn_isI, dn_isTL, dn_range1, dn_range2, dn_zip, b1_len_l, b1_len_t, b1_tup_l, b1_tup_t, b1_list_l, b1_list_t, b1_int, not_b, neg_i, cmp_lt, cmp_le, cmp_gt, cmp_ge, cmp_is, cmp_isnot, cmp_eqi, cmp_nei, bin_add, bin_sub, zip_t, zip_l, dn_comp, dS_for, bnd_ret, bnd_bnd, fn_eq, fnR_eq, List.map_cons, List.map_nil, List.cons_append, List.nil_append, List.append_nil, List.length_cons, List.length_nil, List.replicate_succ, List.replicate_zero, Nat.sub_self, Nat.reduceAdd, Nat.reduceSub, Nat.zero_add, List.set_cons_zero, List.set_cons_succ, List.getElem?_cons_zero, List.getElem?_cons_succ, items_row, far_in, add_ll (xs := [PyData.int 0]) hl]
    show b1D .max (.list (PyData.int 0 :: _)) = _
    rw [b1_max0]
    rfl⟩]
  have hl : 1 + (t.map fun r => PyData.int (farRow r)).length ≤ sizeLine := by
    rw [List.length_map]
    exact small_line ht
  simp -implicitDefEqProofs only [wipeE, Tg.slots, k_nx, k_rt, e_nx, e_rt, br_t, br_f, dS_nil, dS_seq, dS_nm, own_list, dS_newL, dS_par, sl_f, sl_t, dS_ite, dS_ret, dS_expr, dS_app, ap_own, dS_aug, au_val, dS_frz, fr_own, asB_bool, asI_int, items_l, items_t, dn_nil, dn_cons, dn_star, lo_l, lo_d, vk, dn_var, ok_, dn_own, dn_lit, dn_glob, dn_bin, dn_neg, dn_not, dn_cmp, dn_chain, ch_t, ch_f, dn_and, dn_or, dn_ite, an_t, an_f, or_t, or_f, it_t, it_f, dn_tup, dn_list, tup0, tup1, tup2, tup3, lst0, lst1, lst2, lst3, dn_ix, dn_slice, dn_call, call1, call2, call3, call4, call5, rk, dn_callR, dn_b1, dn_b2, dn_isI, dn_isTL, dn_range1, dn_range2, dn_zip, b1_len_l, b1_len_t, b1_tup_l, b1_tup_t, b1_list_l, b1_list_t, b1_int, not_b, neg_i, cmp_lt, cmp_le, cmp_gt, cmp_ge, cmp_is, cmp_isnot, cmp_eqi, cmp_nei, bin_add, bin_sub, zip_t, zip_l, dn_comp, dS_for, bnd_ret, bnd_bnd, fn_eq, fnR_eq, List.map_cons, List.map_nil, List.cons_append, List.nil_append, List.append_nil, List.length_cons, List.length_nil, List.replicate_succ, List.replicate_zero, Nat.sub_self, Nat.reduceAdd, Nat.reduceSub, Nat.zero_add, List.set_cons_zero, List.set_cons_succ, List.getElem?_cons_zero, List.getElem?_cons_succ, add_ll (xs := [PyData.int 0]) hl]
  show bnd (b1D .max (.list (PyData.int 0 :: _))) _ = _
  rw [b1_max0]
  rfl
end Dn.DL
namespace Dn.DL
open PySem
/-! while loops that end in a rest -/
theorem dS_while {n : Ev → Nat} {e : E} {B : S} {ρ : Ev} : denS (.while_ n e B) ρ = whileO (fun ρ' => bnd (den e ρ') asB) (denS B) (n ρ) ρ := rfl
theorem wh_nx {c : Ev → M Bool} {f : Ev → M O} {n : Nat} {ρ ρ' : Ev} (h : c ρ = ret true) (g : f ρ = ret (.nx ρ')) : whileO c f (n + 1) ρ = whileO c f n ρ' := by
  show bnd (c ρ) _ = _
  rw [h, bnd_ret, if_pos rfl, g]
  rfl
theorem wh_rt {c : Ev → M Bool} {f : Ev → M O} {n : Nat} {ρ : Ev} {d : D} (h : c ρ = ret true) (g : f ρ = ret (.rt d)) : whileO c f (n + 1) ρ = ret (.rt d) := by
  show bnd (c ρ) _ = _
  rw [h, bnd_ret, if_pos rfl, g]
  rfl
theorem while_fix {α : Type} {c : Ev → M Bool} {f : Ev → M O} (R : α → Ev → Prop) (I : α → Prop) (step : α → α) (μ : α → Nat) (out : α → D) (hc : ∀ ρ, c ρ = ret true)
    (h1 : ∀ s ρ, I s → R s ρ → step s = s → f ρ = ret (.rt (out s))) (h2 : ∀ s ρ, I s → R s ρ → step s ≠ s → ∃ ρ', f ρ = ret (.nx ρ') ∧ R (step s) ρ') (h3 : ∀ s, I s → step s ≠ s → I (step s) ∧ μ (step s) < μ s) :
    ∀ (n : Nat) (s : α) (ρ : Ev), I s → R s ρ → μ s < n → ∃ s', whileO c f n ρ = ret (.rt (out s')) ∧ step s' = s' ∧ I s'
  | 0, s, ρ, _, _, hn => absurd hn (Nat.not_lt_zero _)
  | n + 1, s, ρ, hI, hR, hn => by
    by_cases e : step s = s
    · exact ⟨s, wh_rt (hc ρ) (h1 s ρ hI hR e), e, hI⟩
    · obtain ⟨ρ', g, r⟩ := h2 s ρ hI hR e
      obtain ⟨i2, m⟩ := h3 s hI e
      obtain ⟨s', g2, e2, i3⟩ := while_fix R I step μ out hc h1 h2 h3 n (step s) ρ' i2 r (by omega)
      exact ⟨s', by rw [wh_nx (hc ρ) g, g2], e2, i3⟩
/-- a loop over a list, each turn told its place -/
theorem for_at {α : Type} {t : Tg} {B : S} {enc : α → D} {L : List α} (I : Nat → Ev → Prop) (h : ∀ k x ρ, L[k]? = some x → I k ρ → ∃ ρ', forK t B (enc x) ρ = ret (.nx ρ') ∧ I (k + 1) ρ') : ∀ (n k : Nat) (ρ : Ev), k + n = L.length → I k ρ → ∃ ρ', forE t B ρ ((L.drop k).map enc) = ret (.nx ρ') ∧ I L.length ρ'
  | 0, k, ρ, e, hI => by
    rw [List.drop_eq_nil_of_le (by omega), List.map_nil, for_nil]
    have e : k = L.length := by omega
    exact ⟨ρ, rfl, e ▸ hI⟩
  | n + 1, k, ρ, e, hI => by
    have hk : k < L.length := by omega
    obtain ⟨ρ1, e1, h1⟩ := h k L[k] ρ (List.getElem?_eq_getElem hk) hI
    obtain ⟨ρ2, e2, h2⟩ := for_at I h n (k + 1) ρ1 (by omega) h1
    refine ⟨ρ2, ?_, h2⟩
    rw [List.drop_eq_getElem_cons hk, List.map_cons, for_cons, e1, bnd_ret]
    exact e2
/-! what a turn of the falling does -/
def lowEl (right lag v : La) : La := match lag, v with
  | some l, some x => (match right with | none => none | some r => some (if r - l < x then r - l else x))
  | _, x => x
def lower (right : La) (a f : List La) : List La := List.zipWith (lowEl right) a f
theorem enum_enc (r : List La) : enumD (r.map optD) = ((List.range r.length).zip r).map fun p => PyData.tuple [.int (p.1 : Int), optD p.2] := by
  unfold enumD
  rw [List.length_map, List.zipWith_map_right, List.zip, List.map_zipWith]
theorem dn_enum {a : E} {ρ : Ev} : den (.enum a) ρ = bnd (bnd (den a ρ) itemsOf) fun xs => ret (.list (enumD xs)) := rfl
theorem getL_set {l : List La} {k i : Nat} {v : La} (hk : k < l.length) : getL (l.set k v) i = if i = k then v else getL l i := by
  unfold getL
  by_cases e : i = k
  · subst e
    rw [List.getElem?_set_self hk, if_pos rfl]
    rfl
  · rw [List.getElem?_set_ne (fun h => e h.symm), if_neg e]
theorem ext_getL {a b : List La} (h : a.length = b.length) (g : ∀ i, i < a.length → getL a i = getL b i) : a = b := by
  refine List.ext_getElem h fun i h1 h2 => ?_
  have := g i h1
  unfold getL at this
  rw [List.getElem?_eq_getElem h1, List.getElem?_eq_getElem h2] at this
  exact this
theorem getL_zip {f : La → La → La} {a b : List La} {i : Nat} (h1 : i < a.length) (h2 : i < b.length) : getL (List.zipWith f a b) i = f (getL a i) (getL b i) := by
  unfold getL
  rw [List.getElem?_zipWith, List.getElem?_eq_getElem h1, List.getElem?_eq_getElem h2]
  rfl
end Dn.DL
namespace Dn.DL
open PySem
theorem ixN_in {n j : Nat} (h : j < n) : L2.ixN n (j : Int) = some j := by
  unfold L2.ixN
  rw [if_pos (by omega), if_pos (by omega)]
  rfl
theorem setIx_ok {ρ : Ev} {i k : Nat} {ke e : E} {l : List D} {d : D} (he : den e ρ = ret d) (hi : ρ[i]? = some (.own l)) (hk : den ke ρ = ret (.int (k : Int))) (h : k < l.length) : denS (.setIx i ke e) ρ = ret (.nx (ρ.set i (.own (l.set k d)))) := by
  show bnd (den e ρ) _ = _
  rw [he, bnd_ret, hi]
  show bnd (bnd (den ke ρ) asI) _ = _
  rw [hk, bnd_ret]
  show bnd (ret (k : Int)) _ = _
  rw [bnd_ret, ixN_in h]
abbrev heldB : S := .seq (.ite (.and (.cmp .isnot (.var 7) (.lit .none)) (.cmp .isnot (.ix (.own 2) (.var 6)) (.lit .none))) (.seq (.ite (.cmp .is_ (.var 5) (.lit .none)) (.seq (.setIx 2 (.var 6) (.lit .none)) .nil) (.seq (.ite (.cmp .lt (.bin .sub (.var 5) (.var 7)) (.ix (.own 2) (.var 6))) (.seq (.setIx 2 (.var 6) (.bin .sub (.var 5) (.var 7))) .nil) .nil) .nil)) .nil) .nil) .nil
theorem ix_own {f : List La} {k : Nat} (h : k < f.length) : ixD (.list (f.map optD)) (.int (k : Int)) = ret (optD (getL f k)) := ix_l (by
  rw [List.getElem?_map, List.getElem?_eq_getElem h]
  unfold getL
  rw [List.getElem?_eq_getElem h]
  rfl)
theorem set_opt (f : List La) (k : Nat) (v : La) : (f.map optD).set k (optD v) = (f.set k v).map optD := by rw [List.map_set]
/-- one place of the falling -/
theorem held_one {f : List La} {k : Nat} {right lag : La} (hk : k < f.length) {x0 x1 x3 x4 x6 x7 : Sl} :
    forK (.tup (.tcons (.nm 6) (.tcons (.nm 7) .tnil))) heldB (.tuple [.int (k : Int), optD lag]) [x0, x1, .own (f.map optD), x3, x4, .val (optD right), x6, x7] =
      ret (.nx [x0, x1, .own ((f.set k (lowEl right lag (getL f k))).map optD), x3, x4, .val (optD right), .val (.int (k : Int)), .val (optD lag)]) := by
  unfold forK
  show denS heldB [x0, x1, .own (f.map optD), x3, x4, .val (optD right), .val (.int (k : Int)), .val (optD lag)] = _
  have hkl : k < (f.map optD).length := by rw [List.length_map]; exact hk
  have hset : f.set k (getL f k) = f := by
    refine List.ext_getElem (List.length_set ..) fun i h1 h2 => ?_
    by_cases e : i = k
    · subst e
      rw [List.getElem_set_self]
      unfold getL
      rw [List.getElem?_eq_getElem h2]
      rfl
    · rw [List.getElem_set_ne (fun h => e h.symm)]
  unfold heldB
  cases lag with
  | none =>
    simp -implicitDefEqProofs only [wipeE, Tg.slots, k_nx, k_rt, e_nx, e_rt, br_t, br_f, dS_nil, dS_seq, dS_nm, own_list, dS_newL, dS_par, sl_f, sl_t, dS_ite, dS_ret, dS_expr, dS_app, ap_own, dS_aug, au_val, dS_frz, fr_own, asB_bool, asI_int, items_l, items_t, dn_nil, dn_cons, dn_star, lo_l, lo_d, vk, dn_var, ok_, dn_own, dn_lit, dn_glob, dn_bin, dn_neg, dn_not, dn_cmp, dn_chain, ch_t, ch_f, dn_and, dn_or, dn_ite, an_t, an_f, or_t, or_f, it_t, it_f, dn_tup, dn_list, tup0, tup1, tup2, tup3, lst0, lst1, lst2, lst3, dn_ix, dn_slice, dn_call, call1, call2, call3, call4, call5, rk, dn_callR, dn_b1, dn_b2, dn_isI, dn_isTL, dn_range1, dn_range2, dn_zip, b1_len_l, b1_len_t, b1_tup_l, b1_tup_t, b1_list_l, b1_list_t, b1_int, not_b, neg_i, cmp_lt, cmp_le, cmp_gt, cmp_ge, cmp_is, cmp_isnot, cmp_eqi, cmp_nei, bin_add, bin_sub, zip_t, zip_l, dn_comp, dS_for, bnd_ret, bnd_bnd, fn_eq, fnR_eq, List.map_cons, List.map_nil, List.cons_append, List.nil_append, List.append_nil, List.length_cons, List.length_nil, List.replicate_succ, List.replicate_zero, Nat.sub_self, Nat.reduceAdd, Nat.reduceSub, Nat.zero_add, List.set_cons_zero, List.set_cons_succ, List.getElem?_cons_zero, List.getElem?_cons_succ, none_opt, Option.isNone_none, Bool.not_true]
    show _ = ret (O.nx [x0, x1, .own ((f.set k (getL f k)).map optD), x3, x4, .val (optD right), .val (.int (k : Int)), .val (optD none)])
    rw [hset]
  | some l =>
    cases hv : getL f k with
    | none =>
      simp -implicitDefEqProofs only [wipeE, Tg.slots, k_nx, k_rt, e_nx, e_rt, br_t, br_f, dS_nil, dS_seq, dS_nm, own_list, dS_newL, dS_par, sl_f, sl_t, dS_ite, dS_ret, dS_expr, dS_app, ap_own, dS_aug, au_val, dS_frz, fr_own, asB_bool, asI_int, items_l, items_t, dn_nil, dn_cons, dn_star, lo_l, lo_d, vk, dn_var, ok_, dn_own, dn_lit, dn_glob, dn_bin, dn_neg, dn_not, dn_cmp, dn_chain, ch_t, ch_f, dn_and, dn_or, dn_ite, an_t, an_f, or_t, or_f, it_t, it_f, dn_tup, dn_list, tup0, tup1, tup2, tup3, lst0, lst1, lst2, lst3, dn_ix, dn_slice, dn_call, call1, call2, call3, call4, call5, rk, dn_callR, dn_b1, dn_b2, dn_isI, dn_isTL, dn_range1, dn_range2, dn_zip, b1_len_l, b1_len_t, b1_tup_l, b1_tup_t, b1_list_l, b1_list_t, b1_int, not_b, neg_i, cmp_lt, cmp_le, cmp_gt, cmp_ge, cmp_is, cmp_isnot, cmp_eqi, cmp_nei, bin_add, bin_sub, zip_t, zip_l, dn_comp, dS_for, bnd_ret, bnd_bnd, fn_eq, fnR_eq, List.map_cons, List.map_nil, List.cons_append, List.nil_append, List.append_nil, List.length_cons, List.length_nil, List.replicate_succ, List.replicate_zero, Nat.sub_self, Nat.reduceAdd, Nat.reduceSub, Nat.zero_add, List.set_cons_zero, List.set_cons_succ, List.getElem?_cons_zero, List.getElem?_cons_succ, none_opt, Option.isNone_some, Bool.not_false, ix_own hk, hv, Option.isNone_none, Bool.not_true]
      show _ = ret (O.nx [x0, x1, .own ((f.set k none).map optD), x3, x4, .val (optD right), .val (.int (k : Int)), .val (optD (some l))])
      rw [← hv, hset]
    | some v =>
      cases right with
      | none =>
        simp -implicitDefEqProofs only [wipeE, Tg.slots, k_nx, k_rt, e_nx, e_rt, br_t, br_f, dS_nil, dS_seq, dS_nm, own_list, dS_newL, dS_par, sl_f, sl_t, dS_ite, dS_ret, dS_expr, dS_app, ap_own, dS_aug, au_val, dS_frz, fr_own, asB_bool, asI_int, items_l, items_t, dn_nil, dn_cons, dn_star, lo_l, lo_d, vk, dn_var, ok_, dn_own, dn_lit, dn_glob, dn_bin, dn_neg, dn_not, dn_cmp, dn_chain, ch_t, ch_f, dn_and, dn_or, dn_ite, an_t, an_f, or_t, or_f, it_t, it_f, dn_tup, dn_list, tup0, tup1, tup2, tup3, lst0, lst1, lst2, lst3, dn_ix, dn_slice, dn_call, call1, call2, call3, call4, call5, rk, dn_callR, dn_b1, dn_b2, dn_isI, dn_isTL, dn_range1, dn_range2, dn_zip, b1_len_l, b1_len_t, b1_tup_l, b1_tup_t, b1_list_l, b1_list_t, b1_int, not_b, neg_i, cmp_lt, cmp_le, cmp_gt, cmp_ge, cmp_is, cmp_isnot, cmp_eqi, cmp_nei, bin_add, bin_sub, zip_t, zip_l, dn_comp, dS_for, bnd_ret, bnd_bnd, fn_eq, fnR_eq, List.map_cons, List.map_nil, List.cons_append, List.nil_append, List.append_nil, List.length_cons, List.length_nil, List.replicate_succ, List.replicate_zero, Nat.sub_self, Nat.reduceAdd, Nat.reduceSub, Nat.zero_add, List.set_cons_zero, List.set_cons_succ, List.getElem?_cons_zero, List.getElem?_cons_succ, none_opt, Option.isNone_some, Bool.not_false, ix_own hk, hv, Option.isNone_none]
        rw [setIx_ok (k := k) (d := .none) rfl rfl rfl hkl]
        simp -implicitDefEqProofs only [wipeE, Tg.slots, k_nx, k_rt, e_nx, e_rt, br_t, br_f, dS_nil, dS_seq, dS_nm, own_list, dS_newL, dS_par, sl_f, sl_t, dS_ite, dS_ret, dS_expr, dS_app, ap_own, dS_aug, au_val, dS_frz, fr_own, asB_bool, asI_int, items_l, items_t, dn_nil, dn_cons, dn_star, lo_l, lo_d, vk, dn_var, ok_, dn_own, dn_lit, dn_glob, dn_bin, dn_neg, dn_not, dn_cmp, dn_chain, ch_t, ch_f, dn_and, dn_or, dn_ite, an_t, an_f, or_t, or_f, it_t, it_f, dn_tup, dn_list, tup0, tup1, tup2, tup3, lst0, lst1, lst2, lst3, dn_ix, dn_slice, dn_call, call1, call2, call3, call4, call5, rk, dn_callR, dn_b1, dn_b2, dn_isI, dn_isTL, dn_range1, dn_range2, dn_zip, b1_len_l, b1_len_t, b1_tup_l, b1_tup_t, b1_list_l, b1_list_t, b1_int, not_b, neg_i, cmp_lt, cmp_le, cmp_gt, cmp_ge, cmp_is, cmp_isnot, cmp_eqi, cmp_nei, bin_add, bin_sub, zip_t, zip_l, dn_comp, dS_for, bnd_ret, bnd_bnd, fn_eq, fnR_eq, List.map_cons, List.map_nil, List.cons_append, List.nil_append, List.append_nil, List.length_cons, List.length_nil, List.replicate_succ, List.replicate_zero, Nat.sub_self, Nat.reduceAdd, Nat.reduceSub, Nat.zero_add, List.set_cons_zero, List.set_cons_succ, List.getElem?_cons_zero, List.getElem?_cons_succ]
        rw [show (PyData.none) = optD none from rfl, set_opt]
        rfl
      | some r =>
        simp -implicitDefEqProofs only [wipeE, Tg.slots, k_nx, k_rt, e_nx, e_rt, br_t, br_f, dS_nil, dS_seq, dS_nm, own_list, dS_newL, dS_par, sl_f, sl_t, dS_ite, dS_ret, dS_expr, dS_app, ap_own, dS_aug, au_val, dS_frz, fr_own, asB_bool, asI_int, items_l, items_t, dn_nil, dn_cons, dn_star, lo_l, lo_d, vk, dn_var, ok_, dn_own, dn_lit, dn_glob, dn_bin, dn_neg, dn_not, dn_cmp, dn_chain, ch_t, ch_f, dn_and, dn_or, dn_ite, an_t, an_f, or_t, or_f, it_t, it_f, dn_tup, dn_list, tup0, tup1, tup2, tup3, lst0, lst1, lst2, lst3, dn_ix, dn_slice, dn_call, call1, call2, call3, call4, call5, rk, dn_callR, dn_b1, dn_b2, dn_isI, dn_isTL, dn_range1, dn_range2, dn_zip, b1_len_l, b1_len_t, b1_tup_l, b1_tup_t, b1_list_l, b1_list_t, b1_int, not_b, neg_i, cmp_lt, cmp_le, cmp_gt, cmp_ge, cmp_is, cmp_isnot, cmp_eqi, cmp_nei, bin_add, bin_sub, zip_t, zip_l, dn_comp, dS_for, bnd_ret, bnd_bnd, fn_eq, fnR_eq, List.map_cons, List.map_nil, List.cons_append, List.nil_append, List.append_nil, List.length_cons, List.length_nil, List.replicate_succ, List.replicate_zero, Nat.sub_self, Nat.reduceAdd, Nat.reduceSub, Nat.zero_add, List.set_cons_zero, List.set_cons_succ, List.getElem?_cons_zero, List.getElem?_cons_succ, isNone, Bool.not_false, ix_own hk, hv, show optD (some r) = .int r from rfl, show optD (some l) = .int l from rfl, show optD (some v) = .int v from rfl]
        by_cases h : r - l < v
        · simp -implicitDefEqProofs only [wipeE, Tg.slots, k_nx, k_rt, e_nx, e_rt, br_t, br_f, dS_nil, dS_seq, dS_nm, own_list, dS_newL, dS_par, sl_f, sl_t, dS_ite, dS_ret, dS_expr, dS_app, ap_own, dS_aug, au_val, dS_frz, fr_own, asB_bool, asI_int, items_l, items_t, dn_nil, dn_cons, dn_star, lo_l, lo_d, vk, dn_var, ok_, dn_own, dn_lit, dn_glob, dn_bin, dn_neg, dn_not, dn_cmp, dn_chain, ch_t, ch_f, dn_and, dn_or, dn_ite, an_t, an_f, or_t, or_f, it_t, it_f, dn_tup, dn_list, tup0, tup1, tup2, tup3, lst0, lst1, lst2, lst3, dn_ix, dn_slice, dn_call, call1, call2, call3, call4, call5, rk, dn_callR, dn_b1, dn_b2, dn_isI, dn_isTL, dn_range1, dn_range2, dn_zip, b1_len_l, b1_len_t, b1_tup_l, b1_tup_t, b1_list_l, b1_list_t, b1_int, not_b, neg_i, cmp_lt, cmp_le, cmp_gt, cmp_ge, cmp_is, cmp_isnot, cmp_eqi, cmp_nei, bin_add, bin_sub, zip_t, zip_l, dn_comp, dS_for, bnd_ret, bnd_bnd, fn_eq, fnR_eq, List.map_cons, List.map_nil, List.cons_append, List.nil_append, List.append_nil, List.length_cons, List.length_nil, List.replicate_succ, List.replicate_zero, Nat.sub_self, Nat.reduceAdd, Nat.reduceSub, Nat.zero_add, List.set_cons_zero, List.set_cons_succ, List.getElem?_cons_zero, List.getElem?_cons_succ, decide_eq_true h]
          rw [setIx_ok (k := k) (d := .int (r - l)) rfl rfl rfl hkl]
          simp -implicitDefEqProofs only [wipeE, Tg.slots, k_nx, k_rt, e_nx, e_rt, br_t, br_f, dS_nil, dS_seq, dS_nm, own_list, dS_newL, dS_par, sl_f, sl_t, dS_ite, dS_ret, dS_expr, dS_app, ap_own, dS_aug, au_val, dS_frz, fr_own, asB_bool, asI_int, items_l, items_t, dn_nil, dn_cons, dn_star, lo_l, lo_d, vk, dn_var, ok_, dn_own, dn_lit, dn_glob, dn_bin, dn_neg, dn_not, dn_cmp, dn_chain, ch_t, ch_f, dn_and, dn_or, dn_ite, an_t, an_f, or_t, or_f, it_t, it_f, dn_tup, dn_list, tup0, tup1, tup2, tup3, lst0, lst1, lst2, lst3, dn_ix, dn_slice, dn_call, call1, call2, call3, call4, call5, rk, dn_callR, dn_b1, dn_b2, dn_isI, dn_isTL, dn_range1, dn_range2, dn_zip, b1_len_l, b1_len_t, b1_tup_l, b1_tup_t, b1_list_l, b1_list_t, b1_int, not_b, neg_i, cmp_lt, cmp_le, cmp_gt, cmp_ge, cmp_is, cmp_isnot, cmp_eqi, cmp_nei, bin_add, bin_sub, zip_t, zip_l, dn_comp, dS_for, bnd_ret, bnd_bnd, fn_eq, fnR_eq, List.map_cons, List.map_nil, List.cons_append, List.nil_append, List.append_nil, List.length_cons, List.length_nil, List.replicate_succ, List.replicate_zero, Nat.sub_self, Nat.reduceAdd, Nat.reduceSub, Nat.zero_add, List.set_cons_zero, List.set_cons_succ, List.getElem?_cons_zero, List.getElem?_cons_succ]
          rw [show PyData.int (r - l) = optD (some (r - l)) from rfl, set_opt]
          show _ = ret (O.nx [x0, x1, .own ((f.set k (some (if r - l < v then r - l else v))).map optD), x3, x4, .val (.int r), .val (.int (k : Int)), .val (.int l)])
          rw [if_pos h]
        · simp -implicitDefEqProofs only [wipeE, Tg.slots, k_nx, k_rt, e_nx, e_rt, br_t, br_f, dS_nil, dS_seq, dS_nm, own_list, dS_newL, dS_par, sl_f, sl_t, dS_ite, dS_ret, dS_expr, dS_app, ap_own, dS_aug, au_val, dS_frz, fr_own, asB_bool, asI_int, items_l, items_t, dn_nil, dn_cons, dn_star, lo_l, lo_d, vk, dn_var, ok_, dn_own, dn_lit, dn_glob, dn_bin, dn_neg, dn_not, dn_cmp, dn_chain, ch_t, ch_f, dn_and, dn_or, dn_ite, an_t, an_f, or_t, or_f, it_t, it_f, dn_tup, dn_list, tup0, tup1, tup2, tup3, lst0, lst1, lst2, lst3, dn_ix, dn_slice, dn_call, call1, call2, call3, call4, call5, rk, dn_callR, dn_b1, dn_b2, dn_isI, dn_isTL, dn_range1, dn_range2, dn_zip, b1_len_l, b1_len_t, b1_tup_l, b1_tup_t, b1_list_l, b1_list_t, b1_int, not_b, neg_i, cmp_lt, cmp_le, cmp_gt, cmp_ge, cmp_is, cmp_isnot, cmp_eqi, cmp_nei, bin_add, bin_sub, zip_t, zip_l, dn_comp, dS_for, bnd_ret, bnd_bnd, fn_eq, fnR_eq, List.map_cons, List.map_nil, List.cons_append, List.nil_append, List.append_nil, List.length_cons, List.length_nil, List.replicate_succ, List.replicate_zero, Nat.sub_self, Nat.reduceAdd, Nat.reduceSub, Nat.zero_add, List.set_cons_zero, List.set_cons_succ, List.getElem?_cons_zero, List.getElem?_cons_succ, decide_eq_false h]
          show _ = ret (O.nx [x0, x1, .own ((f.set k (some (if r - l < v then r - l else v))).map optD), x3, x4, .val (.int r), .val (.int (k : Int)), .val (.int l)])
          rw [if_neg h, ← hv, hset]
theorem held_row {f0 a : List La} {right : La} (ha : a.length = f0.length) {x0 x1 x3 x4 : Sl} (x6 x7 : Sl) :
    ∃ y6 y7, forE (.tup (.tcons (.nm 6) (.tcons (.nm 7) .tnil))) heldB [x0, x1, .own (f0.map optD), x3, x4, .val (optD right), x6, x7] (enumD (a.map optD)) =
      ret (.nx [x0, x1, .own ((lower right a f0).map optD), x3, x4, .val (optD right), y6, y7]) := by
  rw [enum_enc]
  have hlen : ((List.range a.length).zip a).length = a.length := by rw [List.length_zip, List.length_range, Nat.min_self]
  obtain ⟨ρ', e, f, y6, y7, e2, hl, hg⟩ := for_at (t := .tup (.tcons (.nm 6) (.tcons (.nm 7) .tnil))) (B := heldB) (enc := fun p : Nat × La => PyData.tuple [.int (p.1 : Int), optD p.2]) (L := (List.range a.length).zip a)
    (fun k ρ => ∃ (f : List La) (y6 y7 : Sl), ρ = [x0, x1, .own (f.map optD), x3, x4, .val (optD right), y6, y7] ∧ f.length = f0.length ∧ ∀ i, i < f0.length → getL f i = if i < k then lowEl right (getL a i) (getL f0 i) else getL f0 i)
    (fun k x ρ hx ⟨f, y6, y7, e, hl, hg⟩ => by
      subst e
      have hk : k < a.length := by rw [← hlen]; exact (List.getElem?_eq_some_iff.mp hx).1
      have hx' : x = (k, getL a k) := by
        rw [List.zip, List.getElem?_zipWith, List.getElem?_range hk, List.getElem?_eq_getElem hk] at hx
        have q := (Option.some.inj hx).symm
        rw [q]
        unfold getL
        rw [List.getElem?_eq_getElem hk]
        rfl
      subst hx'
      refine ⟨_, held_one (by omega), _, _, _, rfl, by rw [List.length_set, hl], fun i hi => ?_⟩
      rw [getL_set (by omega)]
      by_cases e : i = k
      · subst e
        rw [if_pos rfl, if_pos (by omega), hg i hi, if_neg (by omega)]
      · rw [if_neg e, hg i hi]
        by_cases h : i < k
        · rw [if_pos h, if_pos (by omega)]
        · rw [if_neg h, if_neg (by omega)])
    a.length 0 [x0, x1, .own (f0.map optD), x3, x4, .val (optD right), x6, x7] (by rw [hlen, Nat.zero_add]) ⟨f0, x6, x7, rfl, rfl, fun i _ => by rw [if_neg (Nat.not_lt_zero _)]⟩
  subst e2
  refine ⟨y6, y7, ?_⟩
  rw [List.drop_zero] at e
  rw [e]
  have ef : f = lower right a f0 := by
    refine ext_getL (by unfold lower; rw [List.length_zipWith, ha, Nat.min_self, hl]) fun i hi => ?_
    rw [hl] at hi
    rw [hg i hi, if_pos (by rw [hlen]; omega)]
    unfold lower
    rw [getL_zip (by omega) hi]
  rw [ef]
def heldBack (pairs : List (List La × List La)) (x : List La) : List La := pairs.foldl (fun f p => lower (sumOf p.2 x) p.1 f) x
def pairD (p : List La × List La) : D := .tuple [rowD p.1, rowD p.2]
def taskD (wide : Nat) (pairs : List (List La × List La)) : D := .tuple [.int (wide : Int), .tuple (pairs.map pairD)]
theorem lower_len {right : La} {a f : List La} (h : a.length = f.length) : (lower right a f).length = f.length := by
  unfold lower
  rw [List.length_zipWith, h, Nat.min_self]
theorem held_pair {p : List La × List La} {x f : List La} (hp : p.1.length = f.length) {x0 y3 y4 y5 y6 y7 : Sl} :
    ∃ z3 z4 z5 z6 z7, forK (.tup (.tcons (.nm 3) (.tcons (.nm 4) .tnil))) (.seq (.asg (.nm 5) (.call "sum_of" 2 f_sum_of (.cons (.var 4) (.cons (.var 1) .nil)))) (.seq (.for_ (.tup (.tcons (.nm 6) (.tcons (.nm 7) .tnil))) (.enum (.var 3)) heldB) .nil)) (pairD p) [x0, .val (rowD x), .own (f.map optD), y3, y4, y5, y6, y7] =
      ret (.nx [x0, .val (rowD x), .own ((lower (sumOf p.2 x) p.1 f).map optD), z3, z4, z5, z6, z7]) := by
  obtain ⟨w6, w7, e⟩ := held_row (right := sumOf p.2 x) hp (x0 := x0) (x1 := .val (rowD x)) (x3 := .val (rowD p.1)) (x4 := .val (rowD p.2)) y6 y7
  refine ⟨.val (rowD p.1), .val (rowD p.2), .val (optD (sumOf p.2 x)), w6, w7, ?_⟩
  unfold forK
  show denS _ [x0, .val (rowD x), .own (f.map optD), .val (rowD p.1), .val (rowD p.2), y5, y6, y7] = _
  simp -implicitDefEqProofs only [wipeE, Tg.slots, k_nx, k_rt, e_nx, e_rt, br_t, br_f, dS_nil, dS_seq, dS_nm, own_list, dS_newL, dS_par, sl_f, sl_t, dS_ite, dS_ret, dS_expr, dS_app, ap_own, dS_aug, au_val, dS_frz, fr_own, asB_bool, asI_int, items_l, items_t, dn_nil, dn_cons, dn_star, lo_l, lo_d, vk, dn_var, ok_, dn_own, dn_lit, dn_glob, dn_bin, dn_neg, dn_not, dn_cmp, dn_chain, ch_t, ch_f, dn_and, dn_or, dn_ite, an_t, an_f, or_t, or_f, it_t, it_f, dn_tup, dn_list, tup0, tup1, tup2, tup3, lst0, lst1, lst2, lst3, dn_ix, dn_slice, dn_call, call1, call2, call3, call4, call5, rk, dn_callR, dn_b1, dn_b2, dn_isI, dn_isTL, dn_range1, dn_range2, dn_zip, b1_len_l, b1_len_t, b1_tup_l, b1_tup_t, b1_list_l, b1_list_t, b1_int, not_b, neg_i, cmp_lt, cmp_le, cmp_gt, cmp_ge, cmp_is, cmp_isnot, cmp_eqi, cmp_nei, bin_add, bin_sub, zip_t, zip_l, dn_comp, dS_for, bnd_ret, bnd_bnd, fn_eq, fnR_eq, List.map_cons, List.map_nil, List.cons_append, List.nil_append, List.append_nil, List.length_cons, List.length_nil, List.replicate_succ, List.replicate_zero, Nat.sub_self, Nat.reduceAdd, Nat.reduceSub, Nat.zero_add, List.set_cons_zero, List.set_cons_succ, List.getElem?_cons_zero, List.getElem?_cons_succ, m_sum_of, dn_enum, items_row]
  rw [e]
  simp -implicitDefEqProofs only [wipeE, Tg.slots, k_nx, k_rt, e_nx, e_rt, br_t, br_f, dS_nil, dS_seq, dS_nm, own_list, dS_newL, dS_par, sl_f, sl_t, dS_ite, dS_ret, dS_expr, dS_app, ap_own, dS_aug, au_val, dS_frz, fr_own, asB_bool, asI_int, items_l, items_t, dn_nil, dn_cons, dn_star, lo_l, lo_d, vk, dn_var, ok_, dn_own, dn_lit, dn_glob, dn_bin, dn_neg, dn_not, dn_cmp, dn_chain, ch_t, ch_f, dn_and, dn_or, dn_ite, an_t, an_f, or_t, or_f, it_t, it_f, dn_tup, dn_list, tup0, tup1, tup2, tup3, lst0, lst1, lst2, lst3, dn_ix, dn_slice, dn_call, call1, call2, call3, call4, call5, rk, dn_callR, dn_b1, dn_b2, dn_isI, dn_isTL, dn_range1, dn_range2, dn_zip, b1_len_l, b1_len_t, b1_tup_l, b1_tup_t, b1_list_l, b1_list_t, b1_int, not_b, neg_i, cmp_lt, cmp_le, cmp_gt, cmp_ge, cmp_is, cmp_isnot, cmp_eqi, cmp_nei, bin_add, bin_sub, zip_t, zip_l, dn_comp, dS_for, bnd_ret, bnd_bnd, fn_eq, fnR_eq, List.map_cons, List.map_nil, List.cons_append, List.nil_append, List.append_nil, List.length_cons, List.length_nil, List.replicate_succ, List.replicate_zero, Nat.sub_self, Nat.reduceAdd, Nat.reduceSub, Nat.zero_add, List.set_cons_zero, List.set_cons_succ, List.getElem?_cons_zero, List.getElem?_cons_succ]
theorem m_held_back {wide : Nat} {pairs : List (List La × List La)} {x : List La} (hp : ∀ p ∈ pairs, p.1.length = x.length) : f_held_back [taskD wide pairs, rowD x] = ret (rowD (heldBack pairs x)) := by
  unfold f_held_back B_held_back
  have e1 : b1D .list (rowD x) = ret (.list (x.map optD)) := rfl
  have e2 : ixD (taskD wide pairs) (.int 1) = ret (.tuple (pairs.map pairD)) := rfl
  simp -implicitDefEqProofs only [wipeE, Tg.slots, k_nx, k_rt, e_nx, e_rt, br_t, br_f, dS_nil, dS_seq, dS_nm, own_list, dS_newL, dS_par, sl_f, sl_t, dS_ite, dS_ret, dS_expr, dS_app, ap_own, dS_aug, au_val, dS_frz, fr_own, asB_bool, asI_int, items_l, items_t, dn_nil, dn_cons, dn_star, lo_l, lo_d, vk, dn_var, ok_, dn_own, dn_lit, dn_glob, dn_bin, dn_neg, dn_not, dn_cmp, dn_chain, ch_t, ch_f, dn_and, dn_or, dn_ite, an_t, an_f, or_t, or_f, it_t, it_f, dn_tup, dn_list, tup0, tup1, tup2, tup3, lst0, lst1, lst2, lst3, dn_ix, dn_slice, dn_call, call1, call2, call3, call4, call5, rk, dn_callR, dn_b1, dn_b2, dn_isI, dn_isTL, dn_range1, dn_range2, dn_zip, b1_len_l, b1_len_t, b1_tup_l, b1_tup_t, b1_list_l, b1_list_t, b1_int, not_b, neg_i, cmp_lt, cmp_le, cmp_gt, cmp_ge, cmp_is, cmp_isnot, cmp_eqi, cmp_nei, bin_add, bin_sub, zip_t, zip_l, dn_comp, dS_for, bnd_ret, bnd_bnd, fn_eq, fnR_eq, List.map_cons, List.map_nil, List.cons_append, List.nil_append, List.append_nil, List.length_cons, List.length_nil, List.replicate_succ, List.replicate_zero, Nat.sub_self, Nat.reduceAdd, Nat.reduceSub, Nat.zero_add, List.set_cons_zero, List.set_cons_succ, List.getElem?_cons_zero, List.getElem?_cons_succ, e1, e2]
  obtain ⟨ρ', e, y3, y4, y5, y6, y7, hρ, hl⟩ := for_run (t := .tup (.tcons (.nm 3) (.tcons (.nm 4) .tnil))) (B := .seq (.asg (.nm 5) (.call "sum_of" 2 f_sum_of (.cons (.var 4) (.cons (.var 1) .nil)))) (.seq (.for_ (.tup (.tcons (.nm 6) (.tcons (.nm 7) .tnil))) (.enum (.var 3)) heldB) .nil)) (enc := pairD) (xs := pairs) (s := x)
    (ρ := [.val (taskD wide pairs), .val (rowD x), .own (x.map optD), .no, .no, .no, .no, .no])
    (fun (f : List La) ρ => ∃ y3 y4 y5 y6 y7, ρ = [.val (taskD wide pairs), .val (rowD x), .own (f.map optD), y3, y4, y5, y6, y7] ∧ f.length = x.length) (fun f p => lower (sumOf p.2 x) p.1 f) ⟨_, _, _, _, _, rfl, rfl⟩ (fun f p ρ hm ⟨y3, y4, y5, y6, y7, e, hl⟩ => by
      subst e
      obtain ⟨z3, z4, z5, z6, z7, e⟩ := held_pair (p := p) (x := x) (f := f) ((hp p hm).trans hl.symm) (x0 := .val (taskD wide pairs)) (y3 := y3) (y4 := y4) (y5 := y5) (y6 := y6) (y7 := y7)
      exact ⟨_, e, z3, z4, z5, z6, z7, rfl, by rw [lower_len ((hp p hm).trans hl.symm), hl]⟩)
  subst hρ
  rw [e]
  simp -implicitDefEqProofs only [wipeE, Tg.slots, k_nx, k_rt, e_nx, e_rt, br_t, br_f, dS_nil, dS_seq, dS_nm, own_list, dS_newL, dS_par, sl_f, sl_t, dS_ite, dS_ret, dS_expr, dS_app, ap_own, dS_aug, au_val, dS_frz, fr_own, asB_bool, asI_int, items_l, items_t, dn_nil, dn_cons, dn_star, lo_l, lo_d, vk, dn_var, ok_, dn_own, dn_lit, dn_glob, dn_bin, dn_neg, dn_not, dn_cmp, dn_chain, ch_t, ch_f, dn_and, dn_or, dn_ite, an_t, an_f, or_t, or_f, it_t, it_f, dn_tup, dn_list, tup0, tup1, tup2, tup3, lst0, lst1, lst2, lst3, dn_ix, dn_slice, dn_call, call1, call2, call3, call4, call5, rk, dn_callR, dn_b1, dn_b2, dn_isI, dn_isTL, dn_range1, dn_range2, dn_zip, b1_len_l, b1_len_t, b1_tup_l, b1_tup_t, b1_list_l, b1_list_t, b1_int, not_b, neg_i, cmp_lt, cmp_le, cmp_gt, cmp_ge, cmp_is, cmp_isnot, cmp_eqi, cmp_nei, bin_add, bin_sub, zip_t, zip_l, dn_comp, dS_for, bnd_ret, bnd_bnd, fn_eq, fnR_eq, List.map_cons, List.map_nil, List.cons_append, List.nil_append, List.append_nil, List.length_cons, List.length_nil, List.replicate_succ, List.replicate_zero, Nat.sub_self, Nat.reduceAdd, Nat.reduceSub, Nat.zero_add, List.set_cons_zero, List.set_cons_succ, List.getElem?_cons_zero, List.getElem?_cons_succ]
  rfl
end Dn.DL
namespace Dn.DL
open PySem
theorem b1_maxc {α : Type} (c : Int) (f : α → Int) (xs : List α) : b1D .max (.list (PyData.int c :: xs.map fun x => PyData.int (f x))) = ret (.int (maxI (c :: xs.map f))) := by
  show (match intsOf (PyData.int c :: xs.map fun x => PyData.int (f x)) with | some (n :: ns) => (ret (.int (maxI (n :: ns))) : M D) | _ => bad) = _
  rw [show intsOf (PyData.int c :: xs.map fun x => PyData.int (f x)) = some (c :: xs.map f) by rw [intsOf, ints_map]; rfl]
theorem big_two (n : Int) : (big 2 || big n) = true := by simp [big]
theorem big_small {m n : Int} (h : 0 ≤ n ∧ n ≤ 1000000) : (big m || big n) = true := by
  simp [big]
  right
  omega
def pairFar (p : List La × List La) : List Int := absRow (p.1 ++ p.2)
def farOf (pairs : List (List La × List La)) : Int := pairs.foldl (fun far p => maxI (far :: pairFar p)) 0
abbrev reachB : S := .seq (.asg (.nm 4) (.comp (.b1 .abs (.var 5)) (.nm 5) (.tup (.star (.var 2) (.star (.var 3) .nil))) (.cmp .isnot (.var 5) (.lit .none)))) (.seq (.asg (.nm 1) (.b1 .max (.list (.cons (.var 1) (.star (.var 4) .nil))))) .nil)
theorem abs_comp {r : List La} {x0 x1 x2 x3 x4 x5 : Sl} : compK (.b1 .abs (.var 5)) (.nm 5) (.cmp .isnot (.var 5) (.lit .none)) [x0, x1, x2, x3, x4, x5] (r.map optD) = ret (.list ((r.filter Option.isSome).map fun x => PyData.int (absI (x.getD 0)))) :=
  cmpFil (enc := optD) (g := fun x : La => PyData.int (absI (x.getD 0))) (p := Option.isSome) fun a _ => ⟨[x0, x1, x2, x3, x4, .val (optD a)], rfl, by
    simp -implicitDefEqProofs only [wipeE, Tg.slots, k_nx, k_rt, e_nx, e_rt, br_t, br_f, dS_nil, dS_seq, dS_nm, own_list, dS_newL, dS_par, sl_f, sl_t, dS_ite, dS_ret, dS_expr, dS_app, ap_own, dS_aug, au_val, dS_frz, fr_own, asB_bool, asI_int, items_l, items_t, dn_nil, dn_cons, dn_star, lo_l, lo_d, vk, dn_var, ok_, dn_own, dn_lit, dn_glob, dn_bin, dn_neg, dn_not, dn_cmp, dn_chain, ch_t, ch_f, dn_and, dn_or, dn_ite, an_t, an_f, or_t, or_f, it_t, it_f, dn_tup, dn_list, tup0, tup1, tup2, tup3, lst0, lst1, lst2, lst3, dn_ix, dn_slice, dn_call, call1, call2, call3, call4, call5, rk, dn_callR, dn_b1, dn_b2, dn_isI, dn_isTL, dn_range1, dn_range2, dn_zip, b1_len_l, b1_len_t, b1_tup_l, b1_tup_t, b1_list_l, b1_list_t, b1_int, not_b, neg_i, cmp_lt, cmp_le, cmp_gt, cmp_ge, cmp_is, cmp_isnot, cmp_eqi, cmp_nei, bin_add, bin_sub, zip_t, zip_l, dn_comp, dS_for, bnd_ret, bnd_bnd, fn_eq, fnR_eq, List.map_cons, List.map_nil, List.cons_append, List.nil_append, List.append_nil, List.length_cons, List.length_nil, List.replicate_succ, List.replicate_zero, Nat.sub_self, Nat.reduceAdd, Nat.reduceSub, Nat.zero_add, List.set_cons_zero, List.set_cons_succ, List.getElem?_cons_zero, List.getElem?_cons_succ, none_opt]
    cases a <;> rfl, fun h => by
    cases a with
    | none => cases h
    | some i => rfl⟩
theorem reach_one {p : List La × List La} {far : Int} (h1 : p.1.length ≤ 1000) (h2 : p.2.length ≤ 1000) {x0 y2 y3 y4 y5 : Sl} :
    ∃ z2 z3 z4, forK (.tup (.tcons (.nm 2) (.tcons (.nm 3) .tnil))) reachB (pairD p) [x0, .val (.int far), y2, y3, y4, y5] = ret (.nx [x0, .val (.int (maxI (far :: pairFar p))), z2, z3, z4, y5]) := by
  refine ⟨.val (rowD p.1), .val (rowD p.2), .val (.list (((p.1 ++ p.2).filter Option.isSome).map fun x => PyData.int (absI (x.getD 0)))), ?_⟩
  unfold forK
  show denS reachB [x0, .val (.int far), .val (rowD p.1), .val (rowD p.2), y4, y5] = _
  have l1 : ((p.1 ++ p.2).map optD).length ≤ sizeLine := by
    rw [List.length_map, List.length_append]
    exact Nat.le_trans (Nat.add_le_add h1 h2) (by decide)
  have l2 : (PyData.int far :: ((p.1 ++ p.2).filter Option.isSome).map fun x => PyData.int (absI (x.getD 0))).length ≤ sizeLine := by
    rw [List.length_cons, List.length_map]
    refine Nat.le_trans (Nat.succ_le_succ (Nat.le_trans (List.length_filter_le ..) (by rw [List.length_append]; exact Nat.add_le_add h1 h2))) (by decide)
  unfold reachB
  simp -implicitDefEqProofs only [wipeE, Tg.slots, k_nx, k_rt, e_nx, e_rt, br_t, br_f, dS_nil, dS_seq, dS_nm, own_list, dS_newL, dS_par, sl_f, sl_t, dS_ite, dS_ret, dS_expr, dS_app, ap_own, dS_aug, au_val, dS_frz, fr_own, asB_bool, asI_int, items_l, items_t, dn_nil, dn_cons, dn_star, lo_l, lo_d, vk, dn_var, ok_, dn_own, dn_lit, dn_glob, dn_bin, dn_neg, dn_not, dn_cmp, dn_chain, ch_t, ch_f, dn_and, dn_or, dn_ite, an_t, an_f, or_t, or_f, it_t, it_f, dn_tup, dn_list, tup0, tup1, tup2, tup3, lst0, lst1, lst2, lst3, dn_ix, dn_slice, dn_call, call1, call2, call3, call4, call5, rk, dn_callR, dn_b1, dn_b2, dn_isI, dn_isTL, dn_range1, dn_range2, dn_zip, b1_len_l, b1_len_t, b1_tup_l, b1_tup_t, b1_list_l, b1_list_t, b1_int, not_b, neg_i, cmp_lt, cmp_le, cmp_gt, cmp_ge, cmp_is, cmp_isnot, cmp_eqi, cmp_nei, bin_add, bin_sub, zip_t, zip_l, dn_comp, dS_for, bnd_ret, bnd_bnd, fn_eq, fnR_eq, List.map_cons, List.map_nil, List.cons_append, List.nil_append, List.append_nil, List.length_cons, List.length_nil, List.replicate_succ, List.replicate_zero, Nat.sub_self, Nat.reduceAdd, Nat.reduceSub, Nat.zero_add, List.set_cons_zero, List.set_cons_succ, List.getElem?_cons_zero, List.getElem?_cons_succ, items_row, tup_ok l1, ← List.map_append, abs_comp, lst_ok l2, b1_maxc]
  rfl
def reachOf (wide : Nat) (pairs : List (List La × List La)) : Int := 2 * farOf pairs * ((wide : Int) + 1) + 1
theorem m_reach_of {wide : Nat} {pairs : List (List La × List La)} (hw : wide ≤ 1000) (hp : ∀ p ∈ pairs, p.1.length ≤ 1000 ∧ p.2.length ≤ 1000) : f_reach_of [taskD wide pairs] = ret (.int (reachOf wide pairs)) := by
  unfold f_reach_of B_reach_of
  have e2 : ixD (taskD wide pairs) (.int 1) = ret (.tuple (pairs.map pairD)) := rfl
  have e0 : ixD (taskD wide pairs) (.int 0) = ret (.int (wide : Int)) := rfl
  simp -implicitDefEqProofs only [wipeE, Tg.slots, k_nx, k_rt, e_nx, e_rt, br_t, br_f, dS_nil, dS_seq, dS_nm, own_list, dS_newL, dS_par, sl_f, sl_t, dS_ite, dS_ret, dS_expr, dS_app, ap_own, dS_aug, au_val, dS_frz, fr_own, asB_bool, asI_int, items_l, items_t, dn_nil, dn_cons, dn_star, lo_l, lo_d, vk, dn_var, ok_, dn_own, dn_lit, dn_glob, dn_bin, dn_neg, dn_not, dn_cmp, dn_chain, ch_t, ch_f, dn_and, dn_or, dn_ite, an_t, an_f, or_t, or_f, it_t, it_f, dn_tup, dn_list, tup0, tup1, tup2, tup3, lst0, lst1, lst2, lst3, dn_ix, dn_slice, dn_call, call1, call2, call3, call4, call5, rk, dn_callR, dn_b1, dn_b2, dn_isI, dn_isTL, dn_range1, dn_range2, dn_zip, b1_len_l, b1_len_t, b1_tup_l, b1_tup_t, b1_list_l, b1_list_t, b1_int, not_b, neg_i, cmp_lt, cmp_le, cmp_gt, cmp_ge, cmp_is, cmp_isnot, cmp_eqi, cmp_nei, bin_add, bin_sub, zip_t, zip_l, dn_comp, dS_for, bnd_ret, bnd_bnd, fn_eq, fnR_eq, List.map_cons, List.map_nil, List.cons_append, List.nil_append, List.append_nil, List.length_cons, List.length_nil, List.replicate_succ, List.replicate_zero, Nat.sub_self, Nat.reduceAdd, Nat.reduceSub, Nat.zero_add, List.set_cons_zero, List.set_cons_succ, List.getElem?_cons_zero, List.getElem?_cons_succ, e2]
  obtain ⟨ρ', e, y2, y3, y4, y5, hρ⟩ := for_run (t := .tup (.tcons (.nm 2) (.tcons (.nm 3) .tnil))) (B := reachB) (enc := pairD) (xs := pairs) (s := (0 : Int)) (ρ := [.val (taskD wide pairs), .val (.int 0), .no, .no, .no, .no])
    (fun (far : Int) ρ => ∃ y2 y3 y4 y5, ρ = [.val (taskD wide pairs), .val (.int far), y2, y3, y4, y5]) (fun far p => maxI (far :: pairFar p)) ⟨_, _, _, _, rfl⟩ (fun far p ρ hm ⟨y2, y3, y4, y5, e⟩ => by
      subst e
      obtain ⟨z2, z3, z4, e⟩ := reach_one (p := p) (far := far) (hp p hm).1 (hp p hm).2 (x0 := .val (taskD wide pairs)) (y2 := y2) (y3 := y3) (y4 := y4) (y5 := y5)
      exact ⟨_, e, z2, z3, z4, y5, rfl⟩)
  subst hρ
  rw [e]
  simp -implicitDefEqProofs only [wipeE, Tg.slots, k_nx, k_rt, e_nx, e_rt, br_t, br_f, dS_nil, dS_seq, dS_nm, own_list, dS_newL, dS_par, sl_f, sl_t, dS_ite, dS_ret, dS_expr, dS_app, ap_own, dS_aug, au_val, dS_frz, fr_own, asB_bool, asI_int, items_l, items_t, dn_nil, dn_cons, dn_star, lo_l, lo_d, vk, dn_var, ok_, dn_own, dn_lit, dn_glob, dn_bin, dn_neg, dn_not, dn_cmp, dn_chain, ch_t, ch_f, dn_and, dn_or, dn_ite, an_t, an_f, or_t, or_f, it_t, it_f, dn_tup, dn_list, tup0, tup1, tup2, tup3, lst0, lst1, lst2, lst3, dn_ix, dn_slice, dn_call, call1, call2, call3, call4, call5, rk, dn_callR, dn_b1, dn_b2, dn_isI, dn_isTL, dn_range1, dn_range2, dn_zip, b1_len_l, b1_len_t, b1_tup_l, b1_tup_t, b1_list_l, b1_list_t, b1_int, not_b, neg_i, cmp_lt, cmp_le, cmp_gt, cmp_ge, cmp_is, cmp_isnot, cmp_eqi, cmp_nei, bin_add, bin_sub, zip_t, zip_l, dn_comp, dS_for, bnd_ret, bnd_bnd, fn_eq, fnR_eq, List.map_cons, List.map_nil, List.cons_append, List.nil_append, List.append_nil, List.length_cons, List.length_nil, List.replicate_succ, List.replicate_zero, Nat.sub_self, Nat.reduceAdd, Nat.reduceSub, Nat.zero_add, List.set_cons_zero, List.set_cons_succ, List.getElem?_cons_zero, List.getElem?_cons_succ, e0, bin_mul (big_two _), bin_mul (big_small (m := 2 * farOf pairs) (n := (wide : Int) + 1) (by omega))]
  have e3 : binD .mul (.int (2 * farOf pairs)) (.int ((wide : Int) + 1)) = ret (.int (2 * farOf pairs * ((wide : Int) + 1))) := bin_mul (big_small (by omega))
  show bnd (binD .mul (.int (2 * farOf pairs)) (.int ((wide : Int) + 1))) _ = _
  rw [e3]
  rfl
end Dn.DL
namespace Dn.DL
open PySem
/-! rows by their places: the order, the falling's measure -/
def leL : List La → List La → Prop
  | [], [] => True
  | y :: ys, x :: xs => isBy y x = true ∧ leL ys xs
  | _, _ => False
theorem isBy_refl (a : La) : isBy a a = true := by cases a <;> simp [isBy]
theorem isBy_trans {a b c : La} (h : isBy a b = true) (g : isBy b c = true) : isBy a c = true := by
  cases a <;> cases b <;> cases c <;> simp_all [isBy]
  omega
theorem leL_refl : ∀ x : List La, leL x x
  | [] => trivial
  | x :: xs => ⟨isBy_refl x, leL_refl xs⟩
theorem leL_trans : ∀ {a b c : List La}, leL a b → leL b c → leL a c
  | [], [], [], _, _ => trivial
  | _ :: _, _ :: _, _ :: _, h, g => ⟨isBy_trans h.1 g.1, leL_trans h.2 g.2⟩
  | [], _ :: _, _, h, _ => h.elim
  | _ :: _, [], _, h, _ => h.elim
  | [], [], _ :: _, _, g => g.elim
  | _ :: _, _ :: _, [], _, g => g.elim
theorem leL_len : ∀ {a b : List La}, leL a b → a.length = b.length
  | [], [], _ => rfl
  | _ :: _, _ :: _, h => by rw [List.length_cons, List.length_cons, leL_len h.2]
  | [], _ :: _, h => h.elim
  | _ :: _, [], h => h.elim
theorem lowEl_le (right lag v : La) : isBy (lowEl right lag v) v = true := by
  cases lag <;> cases v <;> cases right <;> simp [lowEl, isBy]
  split <;> omega
theorem lower_le (right : La) : ∀ {a f : List La}, a.length = f.length → leL (lower right a f) f
  | [], [], _ => trivial
  | l :: a, v :: f, h => ⟨lowEl_le right l v, lower_le right (by simpa using h)⟩
  | [], _ :: _, h => by cases h
  | _ :: _, [], h => by cases h
theorem fold_le {x : List La} : ∀ {pairs : List (List La × List La)} {f : List La}, (∀ p ∈ pairs, p.1.length = f.length) → leL (pairs.foldl (fun f p => lower (sumOf p.2 x) p.1 f) f) f
  | [], f, _ => leL_refl f
  | p :: pairs, f, h => by
    rw [List.foldl_cons]
    have h1 := h p (List.mem_cons_self ..)
    exact leL_trans (fold_le fun q hq => by rw [lower_len h1]; exact h q (List.mem_cons_of_mem _ hq)) (lower_le _ h1)
theorem held_le {pairs : List (List La × List La)} {x : List La} (h : ∀ p ∈ pairs, p.1.length = x.length) : leL (heldBack pairs x) x := fold_le h
def cutEl (fl : Int) : La → La
  | some v => if v < fl then none else some v
  | none => none
def cutRow (fl : Int) (r : List La) : List La := r.map (cutEl fl)
theorem cutEl_le (fl : Int) (a : La) : isBy (cutEl fl a) a = true := by
  cases a with
  | none => rfl
  | some v =>
    show isBy (if v < fl then none else some v) (some v) = true
    split <;> simp [isBy]
theorem cut_le (fl : Int) : ∀ r : List La, leL (cutRow fl r) r
  | [] => trivial
  | a :: r => ⟨cutEl_le fl a, cut_le fl r⟩
def okFl (fl : Int) : La → Prop
  | some v => fl ≤ v
  | none => True
theorem cut_ok (fl : Int) (r : List La) : ∀ a ∈ cutRow fl r, okFl fl a := fun a h => by
  obtain ⟨b, _, rfl⟩ := List.mem_map.mp h
  cases b with
  | none => trivial
  | some v =>
    show okFl fl (if v < fl then none else some v)
    split
    · trivial
    · show fl ≤ v
      omega
def emu (fl : Int) : La → Nat
  | some v => (v - fl + 1).toNat
  | none => 0
def mu (fl : Int) : List La → Nat
  | [] => 0
  | a :: r => emu fl a + mu fl r
theorem emu_le {fl : Int} {a b : La} (h : isBy a b = true) : emu fl a ≤ emu fl b := by
  cases a <;> cases b <;> simp_all [isBy, emu]
  omega
theorem emu_lt {fl : Int} {a b : La} (h : isBy a b = true) (hb : okFl fl b) (hn : a ≠ b) : emu fl a < emu fl b := by
  cases a with
  | none =>
    cases b with
    | none => exact absurd rfl hn
    | some w =>
      have hb : fl ≤ w := hb
      show 0 < (w - fl + 1).toNat
      omega
  | some v =>
    cases b with
    | none => simp [isBy] at h
    | some w =>
      have hb : fl ≤ w := hb
      have h1 : v ≤ w := by simpa [isBy] using h
      have h2 : v ≠ w := fun e => hn (by rw [e])
      show (v - fl + 1).toNat < (w - fl + 1).toNat
      omega
theorem mu_le {fl : Int} : ∀ {a b : List La}, leL a b → mu fl a ≤ mu fl b
  | [], [], _ => Nat.le_refl _
  | _ :: _, _ :: _, h => Nat.add_le_add (emu_le h.1) (mu_le h.2)
  | [], _ :: _, h => h.elim
  | _ :: _, [], h => h.elim
theorem mu_lt {fl : Int} : ∀ {a b : List La}, leL a b → (∀ x ∈ b, okFl fl x) → a ≠ b → mu fl a < mu fl b
  | [], [], _, _, hn => absurd rfl hn
  | y :: ys, x :: xs, h, hb, hn => by
    by_cases e : y = x
    · subst e
      have ih := mu_lt h.2 (fun z hz => hb z (List.mem_cons_of_mem _ hz)) fun e => hn (by rw [e])
      show emu fl y + mu fl ys < emu fl y + mu fl xs
      omega
    · have h1 := emu_lt h.1 (hb x (List.mem_cons_self ..)) e
      have h2 := mu_le (fl := fl) h.2
      show emu fl y + mu fl ys < emu fl x + mu fl xs
      omega
  | [], _ :: _, h, _, _ => h.elim
  | _ :: _, [], h, _, _ => h.elim
theorem mu_bound {fl : Int} {top : Nat} : ∀ {x : List La}, (∀ a ∈ x, emu fl a ≤ top) → mu fl x ≤ x.length * top
  | [], _ => Nat.zero_le _
  | a :: r, h => by
    have h1 := h a (List.mem_cons_self ..)
    have h2 := mu_bound (fl := fl) fun b hb => h b (List.mem_cons_of_mem _ hb)
    show emu fl a + mu fl r ≤ (r.length + 1) * top
    rw [Nat.add_mul]
    omega
/-! rows are equal as values as they are as rows -/
theorem eqv_opt (a b : La) : PyData.eqv (optD a) (optD b) = decide (a = b) := by
  cases a with
  | none => cases b <;> simp [optD, PyData.eqv]
  | some v =>
    cases b with
    | none => simp [optD, PyData.eqv]
    | some w =>
      show (v == w) = decide (some v = some w)
      by_cases e : v = w
      · subst e
        simp
      · simp [e]
theorem eqv_all : ∀ a b : List La, PyData.eqvAll (a.map optD) (b.map optD) = decide (a = b)
  | [], [] => rfl
  | [], _ :: _ => rfl
  | _ :: _, [] => rfl
  | x :: a, y :: b => by
    show (PyData.eqv (optD x) (optD y) && PyData.eqvAll (a.map optD) (b.map optD)) = _
    rw [eqv_opt, eqv_all a b]
    simp
theorem eq_row {a b : List La} (ha : a.length ≤ 1000) (hb : b.length ≤ 1000) : cmpD .eq (rowD a) (rowD b) = ret (.bool (decide (a = b))) := by
  have e : cmpD .eq (rowD a) (rowD b) = (if SeqAt.shaped (rowD a) && SeqAt.shaped (rowD b) then ret (.bool (PyData.eqv (rowD a) (rowD b))) else bad) := rfl
  rw [e, plain_shaped (plain_row 0 ha) (by decide), plain_shaped (plain_row 0 hb) (by decide), if_pos (by rfl)]
  have e2 : PyData.eqv (rowD a) (rowD b) = PyData.eqvAll (a.map optD) (b.map optD) := rfl
  rw [e2, eqv_all]
theorem ne_row {a b : List La} (ha : a.length ≤ 1000) (hb : b.length ≤ 1000) : cmpD .ne (rowD a) (rowD b) = ret (.bool (!decide (a = b))) := by
  have e : cmpD .ne (rowD a) (rowD b) = (if SeqAt.shaped (rowD a) && SeqAt.shaped (rowD b) then ret (.bool (!PyData.eqv (rowD a) (rowD b))) else bad) := rfl
  rw [e, plain_shaped (plain_row 0 ha) (by decide), plain_shaped (plain_row 0 hb) (by decide), if_pos (by rfl)]
  have e2 : PyData.eqv (rowD a) (rowD b) = PyData.eqvAll (a.map optD) (b.map optD) := rfl
  rw [e2, eqv_all]
end Dn.DL
namespace Dn.DL
open PySem
def valsOf (x : List La) : List Int := (x.filter Option.isSome).map fun a => a.getD 0
theorem some_comp {r : List La} {ρ : Ev} {i : Nat} (h : i < ρ.length) : compK (.var i) (.nm i) (.cmp .isnot (.var i) (.lit .none)) ρ (r.map optD) = ret (.list ((r.filter Option.isSome).map fun a => PyData.int (a.getD 0))) := by
  refine cmpFil (enc := optD) (g := fun a : La => PyData.int (a.getD 0)) (p := Option.isSome) fun a _ => ⟨(wipeE ρ [i]).set i (.val (optD a)), rfl, ?_, fun hp => ?_⟩
  · have e : ((wipeE ρ [i]).set i (.val (optD a)))[i]? = some (.val (optD a)) := by
      rw [List.getElem?_set_self]
      unfold wipeE
      rw [List.length_set]
      exact h
    generalize (wipeE ρ [i]).set i (.val (optD a)) = ρ' at e
    simp -implicitDefEqProofs only [wipeE, Tg.slots, k_nx, k_rt, e_nx, e_rt, br_t, br_f, dS_nil, dS_seq, dS_nm, own_list, dS_newL, dS_par, sl_f, sl_t, dS_ite, dS_ret, dS_expr, dS_app, ap_own, dS_aug, au_val, dS_frz, fr_own, asB_bool, asI_int, items_l, items_t, dn_nil, dn_cons, dn_star, lo_l, lo_d, vk, dn_var, ok_, dn_own, dn_lit, dn_glob, dn_bin, dn_neg, dn_not, dn_cmp, dn_chain, ch_t, ch_f, dn_and, dn_or, dn_ite, an_t, an_f, or_t, or_f, it_t, it_f, dn_tup, dn_list, tup0, tup1, tup2, tup3, lst0, lst1, lst2, lst3, dn_ix, dn_slice, dn_call, call1, call2, call3, call4, call5, rk, dn_callR, dn_b1, dn_b2, dn_isI, dn_isTL, dn_range1, dn_range2, dn_zip, b1_len_l, b1_len_t, b1_tup_l, b1_tup_t, b1_list_l, b1_list_t, b1_int, not_b, neg_i, cmp_lt, cmp_le, cmp_gt, cmp_ge, cmp_is, cmp_isnot, cmp_eqi, cmp_nei, bin_add, bin_sub, zip_t, zip_l, dn_comp, dS_for, bnd_ret, bnd_bnd, fn_eq, fnR_eq, List.map_cons, List.map_nil, List.cons_append, List.nil_append, List.append_nil, List.length_cons, List.length_nil, List.replicate_succ, List.replicate_zero, Nat.sub_self, Nat.reduceAdd, Nat.reduceSub, Nat.zero_add, List.set_cons_zero, List.set_cons_succ, List.getElem?_cons_zero, List.getElem?_cons_succ, e, none_opt]
    cases a <;> rfl
  · have e : ((wipeE ρ [i]).set i (.val (optD a)))[i]? = some (.val (optD a)) := by
      rw [List.getElem?_set_self]
      unfold wipeE
      rw [List.length_set]
      exact h
    generalize (wipeE ρ [i]).set i (.val (optD a)) = ρ' at e
    simp -implicitDefEqProofs only [wipeE, Tg.slots, k_nx, k_rt, e_nx, e_rt, br_t, br_f, dS_nil, dS_seq, dS_nm, own_list, dS_newL, dS_par, sl_f, sl_t, dS_ite, dS_ret, dS_expr, dS_app, ap_own, dS_aug, au_val, dS_frz, fr_own, asB_bool, asI_int, items_l, items_t, dn_nil, dn_cons, dn_star, lo_l, lo_d, vk, dn_var, ok_, dn_own, dn_lit, dn_glob, dn_bin, dn_neg, dn_not, dn_cmp, dn_chain, ch_t, ch_f, dn_and, dn_or, dn_ite, an_t, an_f, or_t, or_f, it_t, it_f, dn_tup, dn_list, tup0, tup1, tup2, tup3, lst0, lst1, lst2, lst3, dn_ix, dn_slice, dn_call, call1, call2, call3, call4, call5, rk, dn_callR, dn_b1, dn_b2, dn_isI, dn_isTL, dn_range1, dn_range2, dn_zip, b1_len_l, b1_len_t, b1_tup_l, b1_tup_t, b1_list_l, b1_list_t, b1_int, not_b, neg_i, cmp_lt, cmp_le, cmp_gt, cmp_ge, cmp_is, cmp_isnot, cmp_eqi, cmp_nei, bin_add, bin_sub, zip_t, zip_l, dn_comp, dS_for, bnd_ret, bnd_bnd, fn_eq, fnR_eq, List.map_cons, List.map_nil, List.cons_append, List.nil_append, List.append_nil, List.length_cons, List.length_nil, List.replicate_succ, List.replicate_zero, Nat.sub_self, Nat.reduceAdd, Nat.reduceSub, Nat.zero_add, List.set_cons_zero, List.set_cons_succ, List.getElem?_cons_zero, List.getElem?_cons_succ, e]
    cases a with
    | none => cases hp
    | some v => rfl
theorem some_plain {x : List La} (h : x.length ≤ 1000) : plain 1 (.list ((x.filter Option.isSome).map fun a => PyData.int (a.getD 0))) := ⟨by
  rw [List.length_map]
  exact Nat.le_trans (List.length_filter_le ..) h, fun y hy => by
  obtain ⟨_, _, rfl⟩ := List.mem_map.mp hy
  trivial⟩
theorem b1_minc {α : Type} (f : α → Int) (xs : List α) (h : xs ≠ []) : b1D .min (.list (xs.map fun x => PyData.int (f x))) = ret (.int (minI (xs.map f))) := by
  cases xs with
  | nil => exact absurd rfl h
  | cons x xs =>
    show (match intsOf ((x :: xs).map fun x => PyData.int (f x)) with | some (n :: ns) => (ret (.int (minI (n :: ns))) : M D) | _ => bad) = _
    rw [ints_map]
    rfl
theorem min_le (xs : List Int) (x : Int) : ∀ y ∈ x :: xs, minI (x :: xs) ≤ y := (minI_spec xs x).2
theorem cut_comp {r : List La} {fl : Int} {ρ : Ev} {i j : Nat} (hi : i < ρ.length) (hij : i ≠ j) (hj : ρ[j]? = some (.val (.int fl))) : compK (.ite (.and (.cmp .isnot (.var i) (.lit .none)) (.cmp .lt (.var i) (.var j))) (.lit .none) (.var i)) (.nm i) (.lit (.bool true)) ρ (r.map optD) = ret (.list (r.map fun a => optD (cutEl fl a))) := by
  refine cmpMap (g := fun a => optD (cutEl fl a)) fun a _ => ⟨(wipeE ρ [i]).set i (.val (optD a)), rfl, rfl, ?_⟩
  have e : ((wipeE ρ [i]).set i (.val (optD a)))[i]? = some (.val (optD a)) := by
    rw [List.getElem?_set_self]
    unfold wipeE
    rw [List.length_set]
    exact hi
  have e2 : ((wipeE ρ [i]).set i (.val (optD a)))[j]? = some (.val (.int fl)) := by
    unfold wipeE
    rw [List.getElem?_set_ne hij]
    show ((wipeE ρ []).set i .no)[j]? = _
    rw [List.getElem?_set_ne hij]
    exact hj
  generalize (wipeE ρ [i]).set i (.val (optD a)) = ρ' at e e2
  simp -implicitDefEqProofs only [wipeE, Tg.slots, k_nx, k_rt, e_nx, e_rt, br_t, br_f, dS_nil, dS_seq, dS_nm, own_list, dS_newL, dS_par, sl_f, sl_t, dS_ite, dS_ret, dS_expr, dS_app, ap_own, dS_aug, au_val, dS_frz, fr_own, asB_bool, asI_int, items_l, items_t, dn_nil, dn_cons, dn_star, lo_l, lo_d, vk, dn_var, ok_, dn_own, dn_lit, dn_glob, dn_bin, dn_neg, dn_not, dn_cmp, dn_chain, ch_t, ch_f, dn_and, dn_or, dn_ite, an_t, an_f, or_t, or_f, it_t, it_f, dn_tup, dn_list, tup0, tup1, tup2, tup3, lst0, lst1, lst2, lst3, dn_ix, dn_slice, dn_call, call1, call2, call3, call4, call5, rk, dn_callR, dn_b1, dn_b2, dn_isI, dn_isTL, dn_range1, dn_range2, dn_zip, b1_len_l, b1_len_t, b1_tup_l, b1_tup_t, b1_list_l, b1_list_t, b1_int, not_b, neg_i, cmp_lt, cmp_le, cmp_gt, cmp_ge, cmp_is, cmp_isnot, cmp_eqi, cmp_nei, bin_add, bin_sub, zip_t, zip_l, dn_comp, dS_for, bnd_ret, bnd_bnd, fn_eq, fnR_eq, List.map_cons, List.map_nil, List.cons_append, List.nil_append, List.append_nil, List.length_cons, List.length_nil, List.replicate_succ, List.replicate_zero, Nat.sub_self, Nat.reduceAdd, Nat.reduceSub, Nat.zero_add, List.set_cons_zero, List.set_cons_succ, List.getElem?_cons_zero, List.getElem?_cons_succ, e, e2, none_opt]
  cases a with
  | none =>
    simp -implicitDefEqProofs only [wipeE, Tg.slots, k_nx, k_rt, e_nx, e_rt, br_t, br_f, dS_nil, dS_seq, dS_nm, own_list, dS_newL, dS_par, sl_f, sl_t, dS_ite, dS_ret, dS_expr, dS_app, ap_own, dS_aug, au_val, dS_frz, fr_own, asB_bool, asI_int, items_l, items_t, dn_nil, dn_cons, dn_star, lo_l, lo_d, vk, dn_var, ok_, dn_own, dn_lit, dn_glob, dn_bin, dn_neg, dn_not, dn_cmp, dn_chain, ch_t, ch_f, dn_and, dn_or, dn_ite, an_t, an_f, or_t, or_f, it_t, it_f, dn_tup, dn_list, tup0, tup1, tup2, tup3, lst0, lst1, lst2, lst3, dn_ix, dn_slice, dn_call, call1, call2, call3, call4, call5, rk, dn_callR, dn_b1, dn_b2, dn_isI, dn_isTL, dn_range1, dn_range2, dn_zip, b1_len_l, b1_len_t, b1_tup_l, b1_tup_t, b1_list_l, b1_list_t, b1_int, not_b, neg_i, cmp_lt, cmp_le, cmp_gt, cmp_ge, cmp_is, cmp_isnot, cmp_eqi, cmp_nei, bin_add, bin_sub, zip_t, zip_l, dn_comp, dS_for, bnd_ret, bnd_bnd, fn_eq, fnR_eq, List.map_cons, List.map_nil, List.cons_append, List.nil_append, List.append_nil, List.length_cons, List.length_nil, List.replicate_succ, List.replicate_zero, Nat.sub_self, Nat.reduceAdd, Nat.reduceSub, Nat.zero_add, List.set_cons_zero, List.set_cons_succ, List.getElem?_cons_zero, List.getElem?_cons_succ, Option.isNone_none, Bool.not_true, e]
    rfl
  | some v =>
    have e : ρ'[i]? = some (.val (.int v)) := e
    simp -implicitDefEqProofs only [wipeE, Tg.slots, k_nx, k_rt, e_nx, e_rt, br_t, br_f, dS_nil, dS_seq, dS_nm, own_list, dS_newL, dS_par, sl_f, sl_t, dS_ite, dS_ret, dS_expr, dS_app, ap_own, dS_aug, au_val, dS_frz, fr_own, asB_bool, asI_int, items_l, items_t, dn_nil, dn_cons, dn_star, lo_l, lo_d, vk, dn_var, ok_, dn_own, dn_lit, dn_glob, dn_bin, dn_neg, dn_not, dn_cmp, dn_chain, ch_t, ch_f, dn_and, dn_or, dn_ite, an_t, an_f, or_t, or_f, it_t, it_f, dn_tup, dn_list, tup0, tup1, tup2, tup3, lst0, lst1, lst2, lst3, dn_ix, dn_slice, dn_call, call1, call2, call3, call4, call5, rk, dn_callR, dn_b1, dn_b2, dn_isI, dn_isTL, dn_range1, dn_range2, dn_zip, b1_len_l, b1_len_t, b1_tup_l, b1_tup_t, b1_list_l, b1_list_t, b1_int, not_b, neg_i, cmp_lt, cmp_le, cmp_gt, cmp_ge, cmp_is, cmp_isnot, cmp_eqi, cmp_nei, bin_add, bin_sub, zip_t, zip_l, dn_comp, dS_for, bnd_ret, bnd_bnd, fn_eq, fnR_eq, List.map_cons, List.map_nil, List.cons_append, List.nil_append, List.append_nil, List.length_cons, List.length_nil, List.replicate_succ, List.replicate_zero, Nat.sub_self, Nat.reduceAdd, Nat.reduceSub, Nat.zero_add, List.set_cons_zero, List.set_cons_succ, List.getElem?_cons_zero, List.getElem?_cons_succ, Option.isNone_some, Bool.not_false, e, e2]
    show _ = ret (optD (if v < fl then none else some v))
    by_cases h : v < fl
    · simp -implicitDefEqProofs only [wipeE, Tg.slots, k_nx, k_rt, e_nx, e_rt, br_t, br_f, dS_nil, dS_seq, dS_nm, own_list, dS_newL, dS_par, sl_f, sl_t, dS_ite, dS_ret, dS_expr, dS_app, ap_own, dS_aug, au_val, dS_frz, fr_own, asB_bool, asI_int, items_l, items_t, dn_nil, dn_cons, dn_star, lo_l, lo_d, vk, dn_var, ok_, dn_own, dn_lit, dn_glob, dn_bin, dn_neg, dn_not, dn_cmp, dn_chain, ch_t, ch_f, dn_and, dn_or, dn_ite, an_t, an_f, or_t, or_f, it_t, it_f, dn_tup, dn_list, tup0, tup1, tup2, tup3, lst0, lst1, lst2, lst3, dn_ix, dn_slice, dn_call, call1, call2, call3, call4, call5, rk, dn_callR, dn_b1, dn_b2, dn_isI, dn_isTL, dn_range1, dn_range2, dn_zip, b1_len_l, b1_len_t, b1_tup_l, b1_tup_t, b1_list_l, b1_list_t, b1_int, not_b, neg_i, cmp_lt, cmp_le, cmp_gt, cmp_ge, cmp_is, cmp_isnot, cmp_eqi, cmp_nei, bin_add, bin_sub, zip_t, zip_l, dn_comp, dS_for, bnd_ret, bnd_bnd, fn_eq, fnR_eq, List.map_cons, List.map_nil, List.cons_append, List.nil_append, List.append_nil, List.length_cons, List.length_nil, List.replicate_succ, List.replicate_zero, Nat.sub_self, Nat.reduceAdd, Nat.reduceSub, Nat.zero_add, List.set_cons_zero, List.set_cons_succ, List.getElem?_cons_zero, List.getElem?_cons_succ, decide_eq_true h]
      rw [if_pos h]
      rfl
    · simp -implicitDefEqProofs only [wipeE, Tg.slots, k_nx, k_rt, e_nx, e_rt, br_t, br_f, dS_nil, dS_seq, dS_nm, own_list, dS_newL, dS_par, sl_f, sl_t, dS_ite, dS_ret, dS_expr, dS_app, ap_own, dS_aug, au_val, dS_frz, fr_own, asB_bool, asI_int, items_l, items_t, dn_nil, dn_cons, dn_star, lo_l, lo_d, vk, dn_var, ok_, dn_own, dn_lit, dn_glob, dn_bin, dn_neg, dn_not, dn_cmp, dn_chain, ch_t, ch_f, dn_and, dn_or, dn_ite, an_t, an_f, or_t, or_f, it_t, it_f, dn_tup, dn_list, tup0, tup1, tup2, tup3, lst0, lst1, lst2, lst3, dn_ix, dn_slice, dn_call, call1, call2, call3, call4, call5, rk, dn_callR, dn_b1, dn_b2, dn_isI, dn_isTL, dn_range1, dn_range2, dn_zip, b1_len_l, b1_len_t, b1_tup_l, b1_tup_t, b1_list_l, b1_list_t, b1_int, not_b, neg_i, cmp_lt, cmp_le, cmp_gt, cmp_ge, cmp_is, cmp_isnot, cmp_eqi, cmp_nei, bin_add, bin_sub, zip_t, zip_l, dn_comp, dS_for, bnd_ret, bnd_bnd, fn_eq, fnR_eq, List.map_cons, List.map_nil, List.cons_append, List.nil_append, List.append_nil, List.length_cons, List.length_nil, List.replicate_succ, List.replicate_zero, Nat.sub_self, Nat.reduceAdd, Nat.reduceSub, Nat.zero_add, List.set_cons_zero, List.set_cons_succ, List.getElem?_cons_zero, List.getElem?_cons_succ, decide_eq_false h, e]
      rw [if_neg h]
      rfl
def stepB (pairs : List (List La × List La)) (fl : Int) (x : List La) : List La := cutRow fl (heldBack pairs x)
theorem step_le {pairs : List (List La × List La)} {fl : Int} {x : List La} (h : ∀ p ∈ pairs, p.1.length = x.length) : leL (stepB pairs fl x) x := leL_trans (cut_le fl _) (held_le h)
def floorB (wide : Nat) (pairs : List (List La × List La)) (x : List La) : Int := minI (valsOf x) - reachOf wide pairs
/-- below_of comes to rest: the rest lies below, and a turn leaves it -/
theorem m_below_of {wide : Nat} {pairs : List (List La × List La)} {x : List La} (hx : x.length ≤ 6) (hw : wide ≤ 1000) (hp : ∀ p ∈ pairs, p.1.length = x.length ∧ p.2.length ≤ 1000) (hv : valsOf x ≠ [])
    (hfl : ∀ a ∈ x, okFl (floorB wide pairs x) a) (hmu : ∀ a ∈ x, emu (floorB wide pairs x) a ≤ 100000) :
    ∃ y, f_below_of [taskD wide pairs, rowD x] = ret (rowD y) ∧ stepB pairs (floorB wide pairs x) y = y ∧ leL y x ∧ ∀ q, (∀ z, leL q z → leL z x → leL q (stepB pairs (floorB wide pairs x) z)) → leL q x → leL q y := by
  have x1000 : x.length ≤ 1000 := Nat.le_trans hx (by decide)
  have hne : x.filter Option.isSome ≠ [] := fun e => hv (by unfold valsOf; rw [e]; rfl)
  have hemp : ((x.filter Option.isSome).map fun a => PyData.int (a.getD 0)).isEmpty = false := by
    rw [List.isEmpty_map]
    cases e : x.filter Option.isSome with
    | nil => exact absurd e hne
    | cons _ _ => rfl
  have hpl : ∀ p ∈ pairs, p.1.length ≤ 1000 ∧ p.2.length ≤ 1000 := fun p h => ⟨by rw [(hp p h).1]; exact x1000, (hp p h).2⟩
  unfold f_below_of B_below_of
  simp -implicitDefEqProofs only [wipeE, Tg.slots, k_nx, k_rt, e_nx, e_rt, br_t, br_f, dS_nil, dS_seq, dS_nm, own_list, dS_newL, dS_par, sl_f, sl_t, dS_ite, dS_ret, dS_expr, dS_app, ap_own, dS_aug, au_val, dS_frz, fr_own, asB_bool, asI_int, items_l, items_t, dn_nil, dn_cons, dn_star, lo_l, lo_d, vk, dn_var, ok_, dn_own, dn_lit, dn_glob, dn_bin, dn_neg, dn_not, dn_cmp, dn_chain, ch_t, ch_f, dn_and, dn_or, dn_ite, an_t, an_f, or_t, or_f, it_t, it_f, dn_tup, dn_list, tup0, tup1, tup2, tup3, lst0, lst1, lst2, lst3, dn_ix, dn_slice, dn_call, call1, call2, call3, call4, call5, rk, dn_callR, dn_b1, dn_b2, dn_isI, dn_isTL, dn_range1, dn_range2, dn_zip, b1_len_l, b1_len_t, b1_tup_l, b1_tup_t, b1_list_l, b1_list_t, b1_int, not_b, neg_i, cmp_lt, cmp_le, cmp_gt, cmp_ge, cmp_is, cmp_isnot, cmp_eqi, cmp_nei, bin_add, bin_sub, zip_t, zip_l, dn_comp, dS_for, bnd_ret, bnd_bnd, fn_eq, fnR_eq, List.map_cons, List.map_nil, List.cons_append, List.nil_append, List.append_nil, List.length_cons, List.length_nil, List.replicate_succ, List.replicate_zero, Nat.sub_self, Nat.reduceAdd, Nat.reduceSub, Nat.zero_add, List.set_cons_zero, List.set_cons_succ, List.getElem?_cons_zero, List.getElem?_cons_succ, items_row]
  rw [some_comp (by simp)]
  simp -implicitDefEqProofs only [wipeE, Tg.slots, k_nx, k_rt, e_nx, e_rt, br_t, br_f, dS_nil, dS_seq, dS_nm, own_list, dS_newL, dS_par, sl_f, sl_t, dS_ite, dS_ret, dS_expr, dS_app, ap_own, dS_aug, au_val, dS_frz, fr_own, asB_bool, asI_int, items_l, items_t, dn_nil, dn_cons, dn_star, lo_l, lo_d, vk, dn_var, ok_, dn_own, dn_lit, dn_glob, dn_bin, dn_neg, dn_not, dn_cmp, dn_chain, ch_t, ch_f, dn_and, dn_or, dn_ite, an_t, an_f, or_t, or_f, it_t, it_f, dn_tup, dn_list, tup0, tup1, tup2, tup3, lst0, lst1, lst2, lst3, dn_ix, dn_slice, dn_call, call1, call2, call3, call4, call5, rk, dn_callR, dn_b1, dn_b2, dn_isI, dn_isTL, dn_range1, dn_range2, dn_zip, b1_len_l, b1_len_t, b1_tup_l, b1_tup_t, b1_list_l, b1_list_t, b1_int, not_b, neg_i, cmp_lt, cmp_le, cmp_gt, cmp_ge, cmp_is, cmp_isnot, cmp_eqi, cmp_nei, bin_add, bin_sub, zip_t, zip_l, dn_comp, dS_for, bnd_ret, bnd_bnd, fn_eq, fnR_eq, List.map_cons, List.map_nil, List.cons_append, List.nil_append, List.append_nil, List.length_cons, List.length_nil, List.replicate_succ, List.replicate_zero, Nat.sub_self, Nat.reduceAdd, Nat.reduceSub, Nat.zero_add, List.set_cons_zero, List.set_cons_succ, List.getElem?_cons_zero, List.getElem?_cons_succ, eq_empty (some_plain x1000) (by decide), hemp, b1_minc _ _ hne, m_reach_of hw hpl]
  rw [dS_while]
  have fold : ∀ (s : List La), PyData.tuple ((heldBack pairs s).map fun a => optD (cutEl (floorB wide pairs x) a)) = rowD (stepB pairs (floorB wide pairs x) s) := fun s => by
    unfold rowD stepB cutRow
    rw [List.map_map]
    rfl
  have body : ∀ (s : List La) (x5 : Sl), leL s x → denS (S.seq (S.asg (Tg.nm 5) (E.call "held_back" 2 f_held_back ((E.var 0).cons ((E.var 4).cons E.nil)))) (S.seq (S.asg (Tg.nm 5) (E.b1 B1.tuple (E.comp (E.ite (E.and (E.cmp COp.isnot (E.var 6) (E.lit PyData.none)) (E.cmp COp.lt (E.var 6) (E.var 3))) (E.lit PyData.none) (E.var 6)) (Tg.nm 6) (E.var 5) (E.lit (PyData.bool true))))) (S.seq (S.ite (E.cmp COp.eq (E.var 5) (E.var 4)) ((S.ret (E.var 4)).seq S.nil) S.nil) ((S.asg (Tg.nm 4) (E.var 5)).seq S.nil))))
      [Sl.val (taskD wide pairs), Sl.val (rowD x), Sl.val (PyData.list (List.map (fun a => PyData.int (a.getD 0)) (List.filter Option.isSome x))), Sl.val (PyData.int (floorB wide pairs x)), Sl.val (rowD s), x5, Sl.no] =
      bnd (ret (PyData.bool (decide (stepB pairs (floorB wide pairs x) s = s)))) fun d => bnd (bnd (asB d) (branchK ((S.ret (E.var 4)).seq S.nil) S.nil [Sl.val (taskD wide pairs), Sl.val (rowD x), Sl.val (PyData.list (List.map (fun a => PyData.int (a.getD 0)) (List.filter Option.isSome x))), Sl.val (PyData.int (floorB wide pairs x)), Sl.val (rowD s), Sl.val (rowD (stepB pairs (floorB wide pairs x) s)), Sl.no])) (seqK ((S.asg (Tg.nm 4) (E.var 5)).seq S.nil)) := fun s x5 hs => by
    have hls := leL_len hs
    have hps : ∀ p ∈ pairs, p.1.length = s.length := fun p h => (hp p h).1.trans hls.symm
    have l1 : (stepB pairs (floorB wide pairs x) s).length ≤ 1000 := by
      rw [leL_len (step_le hps), hls]
      exact x1000
    simp -implicitDefEqProofs only [wipeE, Tg.slots, k_nx, k_rt, e_nx, e_rt, br_t, br_f, dS_nil, dS_seq, dS_nm, own_list, dS_newL, dS_par, sl_f, sl_t, dS_ite, dS_ret, dS_expr, dS_app, ap_own, dS_aug, au_val, dS_frz, fr_own, asB_bool, asI_int, items_l, items_t, dn_nil, dn_cons, dn_star, lo_l, lo_d, vk, dn_var, ok_, dn_own, dn_lit, dn_glob, dn_bin, dn_neg, dn_not, dn_cmp, dn_chain, ch_t, ch_f, dn_and, dn_or, dn_ite, an_t, an_f, or_t, or_f, it_t, it_f, dn_tup, dn_list, tup0, tup1, tup2, tup3, lst0, lst1, lst2, lst3, dn_ix, dn_slice, dn_call, call1, call2, call3, call4, call5, rk, dn_callR, dn_b1, dn_b2, dn_isI, dn_isTL, dn_range1, dn_range2, dn_zip, b1_len_l, b1_len_t, b1_tup_l, b1_tup_t, b1_list_l, b1_list_t, b1_int, not_b, neg_i, cmp_lt, cmp_le, cmp_gt, cmp_ge, cmp_is, cmp_isnot, cmp_eqi, cmp_nei, bin_add, bin_sub, zip_t, zip_l, dn_comp, dS_for, bnd_ret, bnd_bnd, fn_eq, fnR_eq, List.map_cons, List.map_nil, List.cons_append, List.nil_append, List.append_nil, List.length_cons, List.length_nil, List.replicate_succ, List.replicate_zero, Nat.sub_self, Nat.reduceAdd, Nat.reduceSub, Nat.zero_add, List.set_cons_zero, List.set_cons_succ, List.getElem?_cons_zero, List.getElem?_cons_succ, m_held_back hps, items_row]
    rw [cut_comp (fl := floorB wide pairs x) (by simp) (by decide) rfl]
    simp -implicitDefEqProofs only [wipeE, Tg.slots, k_nx, k_rt, e_nx, e_rt, br_t, br_f, dS_nil, dS_seq, dS_nm, own_list, dS_newL, dS_par, sl_f, sl_t, dS_ite, dS_ret, dS_expr, dS_app, ap_own, dS_aug, au_val, dS_frz, fr_own, asB_bool, asI_int, items_l, items_t, dn_nil, dn_cons, dn_star, lo_l, lo_d, vk, dn_var, ok_, dn_own, dn_lit, dn_glob, dn_bin, dn_neg, dn_not, dn_cmp, dn_chain, ch_t, ch_f, dn_and, dn_or, dn_ite, an_t, an_f, or_t, or_f, it_t, it_f, dn_tup, dn_list, tup0, tup1, tup2, tup3, lst0, lst1, lst2, lst3, dn_ix, dn_slice, dn_call, call1, call2, call3, call4, call5, rk, dn_callR, dn_b1, dn_b2, dn_isI, dn_isTL, dn_range1, dn_range2, dn_zip, b1_len_l, b1_len_t, b1_tup_l, b1_tup_t, b1_list_l, b1_list_t, b1_int, not_b, neg_i, cmp_lt, cmp_le, cmp_gt, cmp_ge, cmp_is, cmp_isnot, cmp_eqi, cmp_nei, bin_add, bin_sub, zip_t, zip_l, dn_comp, dS_for, bnd_ret, bnd_bnd, fn_eq, fnR_eq, List.map_cons, List.map_nil, List.cons_append, List.nil_append, List.append_nil, List.length_cons, List.length_nil, List.replicate_succ, List.replicate_zero, Nat.sub_self, Nat.reduceAdd, Nat.reduceSub, Nat.zero_add, List.set_cons_zero, List.set_cons_succ, List.getElem?_cons_zero, List.getElem?_cons_succ, fold, eq_row l1 (show s.length ≤ 1000 by rw [hls]; exact x1000)]
  have hmu2 : mu (floorB wide pairs x) x < 1000000 := by
    have h1 := mu_bound (fl := floorB wide pairs x) (top := 100000) hmu
    have h2 : x.length * 100000 ≤ 6 * 100000 := Nat.mul_le_mul_right _ hx
    omega
  obtain ⟨y, e, e2, hy1, hy2, hy3⟩ := while_fix (c := fun ρ' => bnd (den (.lit (.bool true)) ρ') asB)
    (f := denS (S.seq (S.asg (Tg.nm 5) (E.call "held_back" 2 f_held_back ((E.var 0).cons ((E.var 4).cons E.nil)))) (S.seq (S.asg (Tg.nm 5) (E.b1 B1.tuple (E.comp (E.ite (E.and (E.cmp COp.isnot (E.var 6) (E.lit PyData.none)) (E.cmp COp.lt (E.var 6) (E.var 3))) (E.lit PyData.none) (E.var 6)) (Tg.nm 6) (E.var 5) (E.lit (PyData.bool true))))) (S.seq (S.ite (E.cmp COp.eq (E.var 5) (E.var 4)) ((S.ret (E.var 4)).seq S.nil) S.nil) ((S.asg (Tg.nm 4) (E.var 5)).seq S.nil)))))
    (fun (s : List La) ρ => ∃ x5, ρ = [Sl.val (taskD wide pairs), Sl.val (rowD x), Sl.val (PyData.list (List.map (fun a => PyData.int (a.getD 0)) (List.filter Option.isSome x))), Sl.val (PyData.int (floorB wide pairs x)), Sl.val (rowD s), x5, Sl.no])
    (fun s => leL s x ∧ (∀ a ∈ s, okFl (floorB wide pairs x) a) ∧ ∀ q, (∀ z, leL q z → leL z x → leL q (stepB pairs (floorB wide pairs x) z)) → leL q x → leL q s) (stepB pairs (floorB wide pairs x)) (mu (floorB wide pairs x)) rowD (fun ρ => rfl)
    (fun s ρ ⟨hs, ho, hq⟩ ⟨x5, er⟩ es => by
      subst er
      rw [body s x5 hs, decide_eq_true es]
      simp -implicitDefEqProofs only [wipeE, Tg.slots, k_nx, k_rt, e_nx, e_rt, br_t, br_f, dS_nil, dS_seq, dS_nm, own_list, dS_newL, dS_par, sl_f, sl_t, dS_ite, dS_ret, dS_expr, dS_app, ap_own, dS_aug, au_val, dS_frz, fr_own, asB_bool, asI_int, items_l, items_t, dn_nil, dn_cons, dn_star, lo_l, lo_d, vk, dn_var, ok_, dn_own, dn_lit, dn_glob, dn_bin, dn_neg, dn_not, dn_cmp, dn_chain, ch_t, ch_f, dn_and, dn_or, dn_ite, an_t, an_f, or_t, or_f, it_t, it_f, dn_tup, dn_list, tup0, tup1, tup2, tup3, lst0, lst1, lst2, lst3, dn_ix, dn_slice, dn_call, call1, call2, call3, call4, call5, rk, dn_callR, dn_b1, dn_b2, dn_isI, dn_isTL, dn_range1, dn_range2, dn_zip, b1_len_l, b1_len_t, b1_tup_l, b1_tup_t, b1_list_l, b1_list_t, b1_int, not_b, neg_i, cmp_lt, cmp_le, cmp_gt, cmp_ge, cmp_is, cmp_isnot, cmp_eqi, cmp_nei, bin_add, bin_sub, zip_t, zip_l, dn_comp, dS_for, bnd_ret, bnd_bnd, fn_eq, fnR_eq, List.map_cons, List.map_nil, List.cons_append, List.nil_append, List.append_nil, List.length_cons, List.length_nil, List.replicate_succ, List.replicate_zero, Nat.sub_self, Nat.reduceAdd, Nat.reduceSub, Nat.zero_add, List.set_cons_zero, List.set_cons_succ, List.getElem?_cons_zero, List.getElem?_cons_succ])
    (fun s ρ ⟨hs, ho, hq⟩ ⟨x5, er⟩ es => by
      subst er
      refine ⟨_, ?_, .val (rowD (stepB pairs (floorB wide pairs x) s)), rfl⟩
      rw [body s x5 hs, decide_eq_false es]
      simp -implicitDefEqProofs only [wipeE, Tg.slots, k_nx, k_rt, e_nx, e_rt, br_t, br_f, dS_nil, dS_seq, dS_nm, own_list, dS_newL, dS_par, sl_f, sl_t, dS_ite, dS_ret, dS_expr, dS_app, ap_own, dS_aug, au_val, dS_frz, fr_own, asB_bool, asI_int, items_l, items_t, dn_nil, dn_cons, dn_star, lo_l, lo_d, vk, dn_var, ok_, dn_own, dn_lit, dn_glob, dn_bin, dn_neg, dn_not, dn_cmp, dn_chain, ch_t, ch_f, dn_and, dn_or, dn_ite, an_t, an_f, or_t, or_f, it_t, it_f, dn_tup, dn_list, tup0, tup1, tup2, tup3, lst0, lst1, lst2, lst3, dn_ix, dn_slice, dn_call, call1, call2, call3, call4, call5, rk, dn_callR, dn_b1, dn_b2, dn_isI, dn_isTL, dn_range1, dn_range2, dn_zip, b1_len_l, b1_len_t, b1_tup_l, b1_tup_t, b1_list_l, b1_list_t, b1_int, not_b, neg_i, cmp_lt, cmp_le, cmp_gt, cmp_ge, cmp_is, cmp_isnot, cmp_eqi, cmp_nei, bin_add, bin_sub, zip_t, zip_l, dn_comp, dS_for, bnd_ret, bnd_bnd, fn_eq, fnR_eq, List.map_cons, List.map_nil, List.cons_append, List.nil_append, List.append_nil, List.length_cons, List.length_nil, List.replicate_succ, List.replicate_zero, Nat.sub_self, Nat.reduceAdd, Nat.reduceSub, Nat.zero_add, List.set_cons_zero, List.set_cons_succ, List.getElem?_cons_zero, List.getElem?_cons_succ])
    (fun s ⟨hs, ho, hq⟩ es => by
      have hps : ∀ p ∈ pairs, p.1.length = s.length := fun p h => (hp p h).1.trans (leL_len hs).symm
      exact ⟨⟨leL_trans (step_le hps) hs, cut_ok _ _, fun q k1 k2 => k1 s (hq q k1 k2) hs⟩, mu_lt (step_le hps) ho es⟩)
    1000000 x [Sl.val (taskD wide pairs), Sl.val (rowD x), Sl.val (PyData.list (List.map (fun a => PyData.int (a.getD 0)) (List.filter Option.isSome x))), Sl.val (PyData.int (floorB wide pairs x)), Sl.val (rowD x), .no, .no] ⟨leL_refl x, hfl, fun q _ k => k⟩ ⟨.no, rfl⟩ hmu2
  refine ⟨y, ?_, e2, hy1, hy3⟩
  have e3 : minI (List.map (fun x => x.getD 0) (List.filter Option.isSome x)) - reachOf wide pairs = floorB wide pairs x := rfl
  rw [e3, e]
  simp -implicitDefEqProofs only [wipeE, Tg.slots, k_nx, k_rt, e_nx, e_rt, br_t, br_f, dS_nil, dS_seq, dS_nm, own_list, dS_newL, dS_par, sl_f, sl_t, dS_ite, dS_ret, dS_expr, dS_app, ap_own, dS_aug, au_val, dS_frz, fr_own, asB_bool, asI_int, items_l, items_t, dn_nil, dn_cons, dn_star, lo_l, lo_d, vk, dn_var, ok_, dn_own, dn_lit, dn_glob, dn_bin, dn_neg, dn_not, dn_cmp, dn_chain, ch_t, ch_f, dn_and, dn_or, dn_ite, an_t, an_f, or_t, or_f, it_t, it_f, dn_tup, dn_list, tup0, tup1, tup2, tup3, lst0, lst1, lst2, lst3, dn_ix, dn_slice, dn_call, call1, call2, call3, call4, call5, rk, dn_callR, dn_b1, dn_b2, dn_isI, dn_isTL, dn_range1, dn_range2, dn_zip, b1_len_l, b1_len_t, b1_tup_l, b1_tup_t, b1_list_l, b1_list_t, b1_int, not_b, neg_i, cmp_lt, cmp_le, cmp_gt, cmp_ge, cmp_is, cmp_isnot, cmp_eqi, cmp_nei, bin_add, bin_sub, zip_t, zip_l, dn_comp, dS_for, bnd_ret, bnd_bnd, fn_eq, fnR_eq, List.map_cons, List.map_nil, List.cons_append, List.nil_append, List.append_nil, List.length_cons, List.length_nil, List.replicate_succ, List.replicate_zero, Nat.sub_self, Nat.reduceAdd, Nat.reduceSub, Nat.zero_add, List.set_cons_zero, List.set_cons_succ, List.getElem?_cons_zero, List.getElem?_cons_succ]
end Dn.DL
namespace Dn.DL
open PySem
theorem m_need_meeting {a b : List (List La)} {high wide deep : Nat} {x : List La} (ha : tabOk a high wide) (hb : tabOk b high deep) (hs : wide + deep ≤ 6) (hx : rowOk x wide) : f_need_meeting [tabD a, tabD b, rowD x] = ret .none := by
  obtain ⟨r0, e0, l0⟩ := ha.head
  obtain ⟨r1, e1, l1⟩ := hb.head
  unfold f_need_meeting B_need_meeting
  have c1 : decide ((6 : Int) < (wide : Int) + (deep : Int)) = false := decide_eq_false (by omega)
  simp -implicitDefEqProofs only [wipeE, Tg.slots, k_nx, k_rt, e_nx, e_rt, br_t, br_f, dS_nil, dS_seq, dS_nm, own_list, dS_newL, dS_par, sl_f, sl_t, dS_ite, dS_ret, dS_expr, dS_app, ap_own, dS_aug, au_val, dS_frz, fr_own, asB_bool, asI_int, items_l, items_t, dn_nil, dn_cons, dn_star, lo_l, lo_d, vk, dn_var, ok_, dn_own, dn_lit, dn_glob, dn_bin, dn_neg, dn_not, dn_cmp, dn_chain, ch_t, ch_f, dn_and, dn_or, dn_ite, an_t, an_f, or_t, or_f, it_t, it_f, dn_tup, dn_list, tup0, tup1, tup2, tup3, lst0, lst1, lst2, lst3, dn_ix, dn_slice, dn_call, call1, call2, call3, call4, call5, rk, dn_callR, dn_b1, dn_b2, dn_isI, dn_isTL, dn_range1, dn_range2, dn_zip, b1_len_l, b1_len_t, b1_tup_l, b1_tup_t, b1_list_l, b1_list_t, b1_int, not_b, neg_i, cmp_lt, cmp_le, cmp_gt, cmp_ge, cmp_is, cmp_isnot, cmp_eqi, cmp_nei, bin_add, bin_sub, zip_t, zip_l, dn_comp, dS_for, bnd_ret, bnd_bnd, fn_eq, fnR_eq, List.map_cons, List.map_nil, List.cons_append, List.nil_append, List.append_nil, List.length_cons, List.length_nil, List.replicate_succ, List.replicate_zero, Nat.sub_self, Nat.reduceAdd, Nat.reduceSub, Nat.zero_add, List.set_cons_zero, List.set_cons_succ, List.getElem?_cons_zero, List.getElem?_cons_succ, m_need_table ha, m_need_table hb, len_tab, ha.1, hb.1, decide_true, Bool.not_true, ix_tab0 e0, ix_tab0 e1, len_row, l0, l1, c1, m_need_wide hx]
theorem ix_last {l : List (List La)} {x : List La} : ixD (.list ((l ++ [x]).map rowD)) (.int (-1)) = ret (rowD x) := by
  show (match L2.atI ((l ++ [x]).map rowD) (-1) with | some d => (ret d : M D) | none => bad) = _
  rw [List.map_append, List.map_singleton, L2.atI_last]
/-- a turn of the two tables -/
def nextT (one other : List (List La)) (wide deep : Nat) (fl : Int) (x : List La) : List La :=
  cutRow fl (loweredBy one wide (applyOf other (dividedOf other deep (applyOf one x))) x)
def goalT (one other : List (List La)) (deep : Nat) (x : List La) : List La := applyOf other (dividedOf other deep (applyOf one x))
theorem minOf_le (a b : La) : isBy (minOf a b) a = true := by
  cases a <;> cases b <;> simp [minOf, isBy]
  split <;> omega
theorem zip_min_le : ∀ {x y : List La}, x.length = y.length → leL (List.zipWith minOf x y) x
  | [], [], _ => trivial
  | a :: x, b :: y, h => ⟨minOf_le a b, zip_min_le (by simpa using h)⟩
  | [], _ :: _, h => by cases h
  | _ :: _, [], h => by cases h
theorem div_len (t : List (List La)) (wide : Nat) (g : List La) : (dividedOf t wide g).length = wide := by
  unfold dividedOf turnedOf
  rw [List.length_map, List.length_map, List.length_range]
theorem next_le {one other : List (List La)} {wide deep : Nat} {fl : Int} {x : List La} (hx : x.length = wide) : leL (nextT one other wide deep fl x) x :=
  leL_trans (cut_le fl _) (zip_min_le (by rw [div_len, hx]))
abbrev turnB : S := .seq (.asg (.nm 6) (.call "apply_of" 2 f_apply_of (.cons (.var 1) (.cons (.call "divided_of" 2 f_divided_of (.cons (.var 1) (.cons (.call "apply_of" 2 f_apply_of (.cons (.var 0) (.cons (.ix (.own 5) (.neg (.lit (.int 1)))) .nil))) .nil))) .nil))))
  (.seq (.asg (.nm 7) (.call "lowered_by" 3 f_lowered_by (.cons (.var 0) (.cons (.var 6) (.cons (.ix (.own 5) (.neg (.lit (.int 1)))) .nil)))))
  (.seq (.asg (.nm 7) (.b1 .tuple (.comp (.ite (.and (.cmp .isnot (.var 8) (.lit .none)) (.cmp .lt (.var 8) (.var 4))) (.lit .none) (.var 8)) (.nm 8) (.var 7) (.lit (.bool true)))))
  (.seq (.ite (.cmp .eq (.var 7) (.ix (.own 5) (.neg (.lit (.int 1))))) (.seq (.frz 5) (.seq (.ret (.var 5)) .nil)) .nil)
  (.seq (.app 5 (.var 7)) .nil))))
theorem turn_body {one other : List (List La)} {high wide deep : Nat} {fl : Int} {pre : List (List La)} {x : List La} (ha : tabOk one high wide) (hb : tabOk other high deep) (hx : x.length = wide) (hpre : pre.length < 900000) {x2 x3 x6 x7 x8 : Sl} :
    denS turnB [.val (tabD one), .val (tabD other), x2, x3, .val (.int fl), .own ((pre ++ [x]).map rowD), x6, x7, x8] =
      (if nextT one other wide deep fl x = x then ret (.rt (.list ((pre ++ [x]).map rowD)))
       else ret (.nx [.val (tabD one), .val (tabD other), x2, x3, .val (.int fl), .own ((pre ++ [x] ++ [nextT one other wide deep fl x]).map rowD), .val (rowD (goalT one other deep x)), .val (rowD (nextT one other wide deep fl x)), x8])) := by
  have w6 : wide ≤ 1000 := Nat.le_trans ha.2.2.2.2.1 (by decide)
  have hx1 : x.length ≤ 1000 := by rw [hx]; exact w6
  have hn1 : (nextT one other wide deep fl x).length ≤ 1000 := by rw [leL_len (next_le hx)]; exact hx1
  have fold : PyData.tuple ((loweredBy one wide (goalT one other deep x) x).map fun a => optD (cutEl fl a)) = rowD (nextT one other wide deep fl x) := by
    unfold rowD nextT cutRow
    rw [List.map_map]
    rfl
  unfold turnB
  simp -implicitDefEqProofs only [wipeE, Tg.slots, k_nx, k_rt, e_nx, e_rt, br_t, br_f, dS_nil, dS_seq, dS_nm, own_list, dS_newL, dS_par, sl_f, sl_t, dS_ite, dS_ret, dS_expr, dS_app, ap_own, dS_aug, au_val, dS_frz, fr_own, asB_bool, asI_int, items_l, items_t, dn_nil, dn_cons, dn_star, lo_l, lo_d, vk, dn_var, ok_, dn_own, dn_lit, dn_glob, dn_bin, dn_neg, dn_not, dn_cmp, dn_chain, ch_t, ch_f, dn_and, dn_or, dn_ite, an_t, an_f, or_t, or_f, it_t, it_f, dn_tup, dn_list, tup0, tup1, tup2, tup3, lst0, lst1, lst2, lst3, dn_ix, dn_slice, dn_call, call1, call2, call3, call4, call5, rk, dn_callR, dn_b1, dn_b2, dn_isI, dn_isTL, dn_range1, dn_range2, dn_zip, b1_len_l, b1_len_t, b1_tup_l, b1_tup_t, b1_list_l, b1_list_t, b1_int, not_b, neg_i, cmp_lt, cmp_le, cmp_gt, cmp_ge, cmp_is, cmp_isnot, cmp_eqi, cmp_nei, bin_add, bin_sub, zip_t, zip_l, dn_comp, dS_for, bnd_ret, bnd_bnd, fn_eq, fnR_eq, List.map_cons, List.map_nil, List.cons_append, List.nil_append, List.append_nil, List.length_cons, List.length_nil, List.replicate_succ, List.replicate_zero, Nat.sub_self, Nat.reduceAdd, Nat.reduceSub, Nat.zero_add, List.set_cons_zero, List.set_cons_succ, List.getElem?_cons_zero, List.getElem?_cons_succ, ix_last, m_apply_of, m_divided_of hb, m_lowered_by ha, items_row]
  rw [cut_comp (fl := fl) (by simp) (by decide) rfl]
  have fold2 : PyData.tuple ((loweredBy one wide (applyOf other (dividedOf other deep (applyOf one x))) x).map fun a => optD (cutEl fl a)) = rowD (nextT one other wide deep fl x) := fold
  have hp : ((pre ++ [x]).map rowD).length < sizeLine := by
    rw [List.length_map, List.length_append]
    exact Nat.lt_of_lt_of_le (Nat.add_lt_add_right hpre 1) (by decide)
  simp -implicitDefEqProofs only [wipeE, Tg.slots, k_nx, k_rt, e_nx, e_rt, br_t, br_f, dS_nil, dS_seq, dS_nm, own_list, dS_newL, dS_par, sl_f, sl_t, dS_ite, dS_ret, dS_expr, dS_app, ap_own, dS_aug, au_val, dS_frz, fr_own, asB_bool, asI_int, items_l, items_t, dn_nil, dn_cons, dn_star, lo_l, lo_d, vk, dn_var, ok_, dn_own, dn_lit, dn_glob, dn_bin, dn_neg, dn_not, dn_cmp, dn_chain, ch_t, ch_f, dn_and, dn_or, dn_ite, an_t, an_f, or_t, or_f, it_t, it_f, dn_tup, dn_list, tup0, tup1, tup2, tup3, lst0, lst1, lst2, lst3, dn_ix, dn_slice, dn_call, call1, call2, call3, call4, call5, rk, dn_callR, dn_b1, dn_b2, dn_isI, dn_isTL, dn_range1, dn_range2, dn_zip, b1_len_l, b1_len_t, b1_tup_l, b1_tup_t, b1_list_l, b1_list_t, b1_int, not_b, neg_i, cmp_lt, cmp_le, cmp_gt, cmp_ge, cmp_is, cmp_isnot, cmp_eqi, cmp_nei, bin_add, bin_sub, zip_t, zip_l, dn_comp, dS_for, bnd_ret, bnd_bnd, fn_eq, fnR_eq, List.map_cons, List.map_nil, List.cons_append, List.nil_append, List.append_nil, List.length_cons, List.length_nil, List.replicate_succ, List.replicate_zero, Nat.sub_self, Nat.reduceAdd, Nat.reduceSub, Nat.zero_add, List.set_cons_zero, List.set_cons_succ, List.getElem?_cons_zero, List.getElem?_cons_succ, fold2, eq_row hn1 hx1]
  by_cases e : nextT one other wide deep fl x = x
  · rw [if_pos e, decide_eq_true e]
    simp -implicitDefEqProofs only [wipeE, Tg.slots, k_nx, k_rt, e_nx, e_rt, br_t, br_f, dS_nil, dS_seq, dS_nm, own_list, dS_newL, dS_par, sl_f, sl_t, dS_ite, dS_ret, dS_expr, dS_app, ap_own, dS_aug, au_val, dS_frz, fr_own, asB_bool, asI_int, items_l, items_t, dn_nil, dn_cons, dn_star, lo_l, lo_d, vk, dn_var, ok_, dn_own, dn_lit, dn_glob, dn_bin, dn_neg, dn_not, dn_cmp, dn_chain, ch_t, ch_f, dn_and, dn_or, dn_ite, an_t, an_f, or_t, or_f, it_t, it_f, dn_tup, dn_list, tup0, tup1, tup2, tup3, lst0, lst1, lst2, lst3, dn_ix, dn_slice, dn_call, call1, call2, call3, call4, call5, rk, dn_callR, dn_b1, dn_b2, dn_isI, dn_isTL, dn_range1, dn_range2, dn_zip, b1_len_l, b1_len_t, b1_tup_l, b1_tup_t, b1_list_l, b1_list_t, b1_int, not_b, neg_i, cmp_lt, cmp_le, cmp_gt, cmp_ge, cmp_is, cmp_isnot, cmp_eqi, cmp_nei, bin_add, bin_sub, zip_t, zip_l, dn_comp, dS_for, bnd_ret, bnd_bnd, fn_eq, fnR_eq, List.map_cons, List.map_nil, List.cons_append, List.nil_append, List.append_nil, List.length_cons, List.length_nil, List.replicate_succ, List.replicate_zero, Nat.sub_self, Nat.reduceAdd, Nat.reduceSub, Nat.zero_add, List.set_cons_zero, List.set_cons_succ, List.getElem?_cons_zero, List.getElem?_cons_succ, ix_last]
  · rw [if_neg e, decide_eq_false e]
    simp -implicitDefEqProofs only [wipeE, Tg.slots, k_nx, k_rt, e_nx, e_rt, br_t, br_f, dS_nil, dS_seq, dS_nm, own_list, dS_newL, dS_par, sl_f, sl_t, dS_ite, dS_ret, dS_expr, dS_app, ap_own, dS_aug, au_val, dS_frz, fr_own, asB_bool, asI_int, items_l, items_t, dn_nil, dn_cons, dn_star, lo_l, lo_d, vk, dn_var, ok_, dn_own, dn_lit, dn_glob, dn_bin, dn_neg, dn_not, dn_cmp, dn_chain, ch_t, ch_f, dn_and, dn_or, dn_ite, an_t, an_f, or_t, or_f, it_t, it_f, dn_tup, dn_list, tup0, tup1, tup2, tup3, lst0, lst1, lst2, lst3, dn_ix, dn_slice, dn_call, call1, call2, call3, call4, call5, rk, dn_callR, dn_b1, dn_b2, dn_isI, dn_isTL, dn_range1, dn_range2, dn_zip, b1_len_l, b1_len_t, b1_tup_l, b1_tup_t, b1_list_l, b1_list_t, b1_int, not_b, neg_i, cmp_lt, cmp_le, cmp_gt, cmp_ge, cmp_is, cmp_isnot, cmp_eqi, cmp_nei, bin_add, bin_sub, zip_t, zip_l, dn_comp, dS_for, bnd_ret, bnd_bnd, fn_eq, fnR_eq, List.map_cons, List.map_nil, List.cons_append, List.nil_append, List.append_nil, List.length_cons, List.length_nil, List.replicate_succ, List.replicate_zero, Nat.sub_self, Nat.reduceAdd, Nat.reduceSub, Nat.zero_add, List.set_cons_zero, List.set_cons_succ, List.getElem?_cons_zero, List.getElem?_cons_succ, ix_last, push_ok hp]
    rw [List.map_append (l₁ := pre ++ [x])]
    rfl
def farT (one other : List (List La)) : Int := farTab (one ++ other)
def floorT (one other : List (List La)) (wide deep : Nat) (x : List La) : Int := minI (valsOf x) - 2 * ((wide : Int) + (deep : Int)) * farT one other
/-- the rows of the turns: each the turn of the one before, and not it -/
def chainT (nx : List La → List La) (x0 : List La) (l : List (List La)) : Prop := l[0]? = some x0 ∧ ∀ (k : Nat) a b, l[k]? = some a → l[k + 1]? = some b → b = nx a ∧ b ≠ a
theorem chain_push {nx : List La → List La} {x0 : List La} {pre : List (List La)} {x : List La} (h : chainT nx x0 (pre ++ [x])) (hn : nx x ≠ x) : chainT nx x0 (pre ++ [x] ++ [nx x]) := by
  refine ⟨?_, fun k a b h1 h2 => ?_⟩
  · rw [List.getElem?_append_left (by rw [List.length_append, List.length_singleton]; omega)]
    exact h.1
  · have hl : (pre ++ [x] ++ [nx x]).length = pre.length + 2 := by simp
    have hk : k + 1 < pre.length + 2 := by rw [← hl]; exact (List.getElem?_eq_some_iff.mp h2).1
    by_cases e : k = pre.length
    · subst e
      rw [List.getElem?_append_left (by simp), List.getElem?_append_right (Nat.le_refl _), Nat.sub_self] at h1
      rw [List.getElem?_append_right (by simp)] at h2
      simp at h1 h2
      subst h1 h2
      exact ⟨rfl, hn⟩
    · rw [List.getElem?_append_left (by simp; omega)] at h1 h2
      exact h.2 k a b h1 h2
end Dn.DL
namespace Dn.DL
open PySem
theorem big_left {m n : Int} (h : 0 ≤ m ∧ m ≤ 1000000) : (big m || big n) = true := by
  simp [big]
  left
  omega
theorem m_turns {one other : List (List La)} {high wide deep : Nat} {x : List La} (ha : tabOk one high wide) (hb : tabOk other high deep) (hs : wide + deep ≤ 6) (hx : rowOk x wide)
    (fa : ∀ k, k < wide → ∃ r ∈ one, getL r k ≠ none) (fb : ∀ k, k < deep → ∃ r ∈ other, getL r k ≠ none) (hv : valsOf x ≠ [])
    (hfl : ∀ a ∈ x, okFl (floorT one other wide deep x) a) (hmu : ∀ a ∈ x, emu (floorT one other wide deep x) a ≤ 100000) :
    ∃ pre y, f_turns [tabD one, tabD other, rowD x] = ret (.list ((pre ++ [y]).map rowD)) ∧ nextT one other wide deep (floorT one other wide deep x) y = y ∧ leL y x ∧ chainT (nextT one other wide deep (floorT one other wide deep x)) x (pre ++ [y]) ∧ pre.length < 900000 := by
  obtain ⟨r0, e0, l0⟩ := ha.head
  obtain ⟨r1, e1, l1⟩ := hb.head
  have w6 : wide ≤ 6 := ha.2.2.2.2.1
  have d6 : deep ≤ 6 := hb.2.2.2.2.1
  have x1000 : x.length ≤ 1000 := by rw [hx.1]; exact Nat.le_trans w6 (by decide)
  have hne : x.filter Option.isSome ≠ [] := fun e => hv (by unfold valsOf; rw [e]; rfl)
  have hemp : ((x.filter Option.isSome).map fun a => PyData.int (a.getD 0)).isEmpty = false := by
    rw [List.isEmpty_map]
    cases e : x.filter Option.isSome with
    | nil => exact absurd e hne
    | cons _ _ => rfl
  have hmu2 : mu (floorT one other wide deep x) x < 900000 := by
    have h1 := mu_bound (fl := floorT one other wide deep x) (top := 100000) hmu
    have h2 : x.length * 100000 ≤ 6 * 100000 := Nat.mul_le_mul_right _ (by rw [hx.1]; exact w6)
    omega
  have hrows : ((one ++ other).map rowD).length ≤ sizeLine := by
    rw [List.length_map, List.length_append, ha.1, hb.1]
    exact Nat.le_trans (Nat.add_le_add ha.2.2.1 hb.2.2.1) (by decide)
  have hfar : f_farthest [tabD (one ++ other)] = ret (.int (farT one other)) := m_farthest (by rw [List.length_append, ha.1, hb.1]; exact Nat.le_trans (Nat.add_le_add ha.2.2.1 hb.2.2.1) (by decide)) fun r hr => by
    rcases List.mem_append.mp hr with h | h
    · rw [(ha.2.2.2.2.2 r h).1]; exact Nat.le_trans w6 (by decide)
    · rw [(hb.2.2.2.2.2 r h).1]; exact Nat.le_trans d6 (by decide)
  unfold f_turns B_turns
  simp -implicitDefEqProofs only [wipeE, Tg.slots, k_nx, k_rt, e_nx, e_rt, br_t, br_f, dS_nil, dS_seq, dS_nm, own_list, dS_newL, dS_par, sl_f, sl_t, dS_ite, dS_ret, dS_expr, dS_app, ap_own, dS_aug, au_val, dS_frz, fr_own, asB_bool, asI_int, items_l, items_t, dn_nil, dn_cons, dn_star, lo_l, lo_d, vk, dn_var, ok_, dn_own, dn_lit, dn_glob, dn_bin, dn_neg, dn_not, dn_cmp, dn_chain, ch_t, ch_f, dn_and, dn_or, dn_ite, an_t, an_f, or_t, or_f, it_t, it_f, dn_tup, dn_list, tup0, tup1, tup2, tup3, lst0, lst1, lst2, lst3, dn_ix, dn_slice, dn_call, call1, call2, call3, call4, call5, rk, dn_callR, dn_b1, dn_b2, dn_isI, dn_isTL, dn_range1, dn_range2, dn_zip, b1_len_l, b1_len_t, b1_tup_l, b1_tup_t, b1_list_l, b1_list_t, b1_int, not_b, neg_i, cmp_lt, cmp_le, cmp_gt, cmp_ge, cmp_is, cmp_isnot, cmp_eqi, cmp_nei, bin_add, bin_sub, zip_t, zip_l, dn_comp, dS_for, bnd_ret, bnd_bnd, fn_eq, fnR_eq, List.map_cons, List.map_nil, List.cons_append, List.nil_append, List.append_nil, List.length_cons, List.length_nil, List.replicate_succ, List.replicate_zero, Nat.sub_self, Nat.reduceAdd, Nat.reduceSub, Nat.zero_add, List.set_cons_zero, List.set_cons_succ, List.getElem?_cons_zero, List.getElem?_cons_succ, m_need_meeting ha hb hs hx, m_need_full ha fa, m_need_full hb fb, items_row]
  rw [some_comp (by simp)]
  simp -implicitDefEqProofs only [wipeE, Tg.slots, k_nx, k_rt, e_nx, e_rt, br_t, br_f, dS_nil, dS_seq, dS_nm, own_list, dS_newL, dS_par, sl_f, sl_t, dS_ite, dS_ret, dS_expr, dS_app, ap_own, dS_aug, au_val, dS_frz, fr_own, asB_bool, asI_int, items_l, items_t, dn_nil, dn_cons, dn_star, lo_l, lo_d, vk, dn_var, ok_, dn_own, dn_lit, dn_glob, dn_bin, dn_neg, dn_not, dn_cmp, dn_chain, ch_t, ch_f, dn_and, dn_or, dn_ite, an_t, an_f, or_t, or_f, it_t, it_f, dn_tup, dn_list, tup0, tup1, tup2, tup3, lst0, lst1, lst2, lst3, dn_ix, dn_slice, dn_call, call1, call2, call3, call4, call5, rk, dn_callR, dn_b1, dn_b2, dn_isI, dn_isTL, dn_range1, dn_range2, dn_zip, b1_len_l, b1_len_t, b1_tup_l, b1_tup_t, b1_list_l, b1_list_t, b1_int, not_b, neg_i, cmp_lt, cmp_le, cmp_gt, cmp_ge, cmp_is, cmp_isnot, cmp_eqi, cmp_nei, bin_add, bin_sub, zip_t, zip_l, dn_comp, dS_for, bnd_ret, bnd_bnd, fn_eq, fnR_eq, List.map_cons, List.map_nil, List.cons_append, List.nil_append, List.append_nil, List.length_cons, List.length_nil, List.replicate_succ, List.replicate_zero, Nat.sub_self, Nat.reduceAdd, Nat.reduceSub, Nat.zero_add, List.set_cons_zero, List.set_cons_succ, List.getElem?_cons_zero, List.getElem?_cons_succ, eq_empty (some_plain x1000) (by decide), hemp, b1_minc _ _ hne, ix_tab0 e0, ix_tab0 e1, len_row, l0, l1, bin_mul (big_two _), items_tab, ← List.map_append, tup_ok hrows, fold_tab, hfar]
  simp -implicitDefEqProofs only [wipeE, Tg.slots, k_nx, k_rt, e_nx, e_rt, br_t, br_f, dS_nil, dS_seq, dS_nm, own_list, dS_newL, dS_par, sl_f, sl_t, dS_ite, dS_ret, dS_expr, dS_app, ap_own, dS_aug, au_val, dS_frz, fr_own, asB_bool, asI_int, items_l, items_t, dn_nil, dn_cons, dn_star, lo_l, lo_d, vk, dn_var, ok_, dn_own, dn_lit, dn_glob, dn_bin, dn_neg, dn_not, dn_cmp, dn_chain, ch_t, ch_f, dn_and, dn_or, dn_ite, an_t, an_f, or_t, or_f, it_t, it_f, dn_tup, dn_list, tup0, tup1, tup2, tup3, lst0, lst1, lst2, lst3, dn_ix, dn_slice, dn_call, call1, call2, call3, call4, call5, rk, dn_callR, dn_b1, dn_b2, dn_isI, dn_isTL, dn_range1, dn_range2, dn_zip, b1_len_l, b1_len_t, b1_tup_l, b1_tup_t, b1_list_l, b1_list_t, b1_int, not_b, neg_i, cmp_lt, cmp_le, cmp_gt, cmp_ge, cmp_is, cmp_isnot, cmp_eqi, cmp_nei, bin_add, bin_sub, zip_t, zip_l, dn_comp, dS_for, bnd_ret, bnd_bnd, fn_eq, fnR_eq, List.map_cons, List.map_nil, List.cons_append, List.nil_append, List.append_nil, List.length_cons, List.length_nil, List.replicate_succ, List.replicate_zero, Nat.sub_self, Nat.reduceAdd, Nat.reduceSub, Nat.zero_add, List.set_cons_zero, List.set_cons_succ, List.getElem?_cons_zero, List.getElem?_cons_succ, bin_mul (big_left (m := 2 * ((wide : Int) + (deep : Int))) (n := farT one other) (by omega))]
  have efl : minI (List.map (fun x => x.getD 0) (List.filter Option.isSome x)) - 2 * ((wide : Int) + (deep : Int)) * farT one other = floorT one other wide deep x := rfl
  rw [efl, dS_while]
  generalize hfl' : floorT one other wide deep x = fl at *
  obtain ⟨⟨pre, y⟩, e, e2, hy, hch, hlen⟩ := while_fix (α := List (List La) × List La) (c := fun ρ' => bnd (den (.lit (.bool true)) ρ') asB) (f := denS turnB)
    (fun s ρ => ∃ x6 x7, ρ = [.val (tabD one), .val (tabD other), .val (rowD x), .val (.list (List.map (fun a => PyData.int (a.getD 0)) (List.filter Option.isSome x))), .val (.int fl), .own ((s.1 ++ [s.2]).map rowD), x6, x7, .no])
    (fun s => (leL s.2 x ∧ ∀ a ∈ s.2, okFl fl a) ∧ chainT (nextT one other wide deep fl) x (s.1 ++ [s.2]) ∧ s.1.length + mu fl s.2 ≤ mu fl x)
    (fun s => if nextT one other wide deep fl s.2 = s.2 then s else (s.1 ++ [s.2], nextT one other wide deep fl s.2)) (fun s => mu fl s.2) (fun s => .list ((s.1 ++ [s.2]).map rowD)) (fun ρ => rfl)
    (fun s ρ ⟨⟨hs, ho⟩, hc, hl⟩ ⟨x6, x7, er⟩ es => by
      subst er
      have en : nextT one other wide deep fl s.2 = s.2 := by
        by_cases h : nextT one other wide deep fl s.2 = s.2
        · exact h
        · rw [if_neg h] at es
          exact congrArg Prod.snd es
      rw [turn_body ha hb ((leL_len hs).trans hx.1) (by omega), if_pos en])
    (fun s ρ ⟨⟨hs, ho⟩, hc, hl⟩ ⟨x6, x7, er⟩ es => by
      subst er
      have en : nextT one other wide deep fl s.2 ≠ s.2 := fun h => es (if_pos h)
      refine ⟨_, by rw [turn_body ha hb ((leL_len hs).trans hx.1) (by omega), if_neg en], _, _, by rw [if_neg en]⟩)
    (fun s ⟨⟨hs, ho⟩, hc, hl⟩ es => by
      have en : nextT one other wide deep fl s.2 ≠ s.2 := fun h => es (if_pos h)
      have hle := next_le (one := one) (other := other) (deep := deep) (fl := fl) ((leL_len hs).trans hx.1)
      have hlt := mu_lt hle ho en
      rw [if_neg en]
      refine ⟨⟨⟨leL_trans hle hs, cut_ok _ _⟩, chain_push hc en, ?_⟩, hlt⟩
      show (s.1 ++ [s.2]).length + mu fl (nextT one other wide deep fl s.2) ≤ mu fl x
      rw [List.length_append, List.length_singleton]
      omega)
    1000000 ([], x) [.val (tabD one), .val (tabD other), .val (rowD x), .val (.list (List.map (fun a => PyData.int (a.getD 0)) (List.filter Option.isSome x))), .val (.int fl), .own [rowD x], .no, .no, .no]
    ⟨⟨leL_refl x, hfl⟩, ⟨rfl, fun k a b h1 h2 => by simp at h2⟩, by simp⟩ ⟨.no, .no, rfl⟩ (by show mu fl x < 1000000; omega)
  refine ⟨pre, y, ?_, ?_, hy.1, hch, by have hlen : pre.length + mu fl y ≤ mu fl x := hlen; omega⟩
  · rw [e]
    simp -implicitDefEqProofs only [wipeE, Tg.slots, k_nx, k_rt, e_nx, e_rt, br_t, br_f, dS_nil, dS_seq, dS_nm, own_list, dS_newL, dS_par, sl_f, sl_t, dS_ite, dS_ret, dS_expr, dS_app, ap_own, dS_aug, au_val, dS_frz, fr_own, asB_bool, asI_int, items_l, items_t, dn_nil, dn_cons, dn_star, lo_l, lo_d, vk, dn_var, ok_, dn_own, dn_lit, dn_glob, dn_bin, dn_neg, dn_not, dn_cmp, dn_chain, ch_t, ch_f, dn_and, dn_or, dn_ite, an_t, an_f, or_t, or_f, it_t, it_f, dn_tup, dn_list, tup0, tup1, tup2, tup3, lst0, lst1, lst2, lst3, dn_ix, dn_slice, dn_call, call1, call2, call3, call4, call5, rk, dn_callR, dn_b1, dn_b2, dn_isI, dn_isTL, dn_range1, dn_range2, dn_zip, b1_len_l, b1_len_t, b1_tup_l, b1_tup_t, b1_list_l, b1_list_t, b1_int, not_b, neg_i, cmp_lt, cmp_le, cmp_gt, cmp_ge, cmp_is, cmp_isnot, cmp_eqi, cmp_nei, bin_add, bin_sub, zip_t, zip_l, dn_comp, dS_for, bnd_ret, bnd_bnd, fn_eq, fnR_eq, List.map_cons, List.map_nil, List.cons_append, List.nil_append, List.append_nil, List.length_cons, List.length_nil, List.replicate_succ, List.replicate_zero, Nat.sub_self, Nat.reduceAdd, Nat.reduceSub, Nat.zero_add, List.set_cons_zero, List.set_cons_succ, List.getElem?_cons_zero, List.getElem?_cons_succ]
  · by_cases h : nextT one other wide deep fl y = y
    · exact h
    · have e2 : (if nextT one other wide deep fl y = y then (pre, y) else (pre ++ [y], nextT one other wide deep fl y)) = (pre, y) := e2
      rw [if_neg h] at e2
      exact congrArg Prod.snd e2
end Dn.DL
namespace Dn.DL
open PySem
theorem m_lleast (a b : La) : f__law_least [optD a, optD b] = ret (optD (minOf a b)) := by
  cases a <;> cases b <;> rfl
theorem m_lsums {t : List (List La)} {wide : Nat} {x : List La} (h : ∀ r ∈ t, r.length = wide) (hx : x.length = wide) (hw : wide ≤ 1000) : f__law_sums [tabD t, rowD x] = ret (rowD (applyOf t x)) := by
  unfold f__law_sums B__law_sums
  simp -implicitDefEqProofs only [wipeE, Tg.slots, k_nx, k_rt, e_nx, e_rt, br_t, br_f, dS_nil, dS_seq, dS_nm, own_list, dS_newL, dS_par, sl_f, sl_t, dS_ite, dS_ret, dS_expr, dS_app, ap_own, dS_aug, au_val, dS_frz, fr_own, asB_bool, asI_int, items_l, items_t, dn_nil, dn_cons, dn_star, lo_l, lo_d, vk, dn_var, ok_, dn_own, dn_lit, dn_glob, dn_bin, dn_neg, dn_not, dn_cmp, dn_chain, ch_t, ch_f, dn_and, dn_or, dn_ite, an_t, an_f, or_t, or_f, it_t, it_f, dn_tup, dn_list, tup0, tup1, tup2, tup3, lst0, lst1, lst2, lst3, dn_ix, dn_slice, dn_call, call1, call2, call3, call4, call5, rk, dn_callR, dn_b1, dn_b2, dn_isI, dn_isTL, dn_range1, dn_range2, dn_zip, b1_len_l, b1_len_t, b1_tup_l, b1_tup_t, b1_list_l, b1_list_t, b1_int, not_b, neg_i, cmp_lt, cmp_le, cmp_gt, cmp_ge, cmp_is, cmp_isnot, cmp_eqi, cmp_nei, bin_add, bin_sub, zip_t, zip_l, dn_comp, dS_for, bnd_ret, bnd_bnd, fn_eq, fnR_eq, List.map_cons, List.map_nil, List.cons_append, List.nil_append, List.append_nil, List.length_cons, List.length_nil, List.replicate_succ, List.replicate_zero, Nat.sub_self, Nat.reduceAdd, Nat.reduceSub, Nat.zero_add, List.set_cons_zero, List.set_cons_succ, List.getElem?_cons_zero, List.getElem?_cons_succ, items_tab]
  rw [cmpMap (g := fun r : List La => optD (sumOf r x)) fun r hr => ⟨_, rfl, rfl, by simp -implicitDefEqProofs only [wipeE, Tg.slots, k_nx, k_rt, e_nx, e_rt, br_t, br_f, dS_nil, dS_seq, dS_nm, own_list, dS_newL, dS_par, sl_f, sl_t, dS_ite, dS_ret, dS_expr, dS_app, ap_own, dS_aug, au_val, dS_frz, fr_own, asB_bool, asI_int, items_l, items_t, dn_nil, dn_cons, dn_star, lo_l, lo_d, vk, dn_var, ok_, dn_own, dn_lit, dn_glob, dn_bin, dn_neg, dn_not, dn_cmp, dn_chain, ch_t, ch_f, dn_and, dn_or, dn_ite, an_t, an_f, or_t, or_f, it_t, it_f, dn_tup, dn_list, tup0, tup1, tup2, tup3, lst0, lst1, lst2, lst3, dn_ix, dn_slice, dn_call, call1, call2, call3, call4, call5, rk, dn_callR, dn_b1, dn_b2, dn_isI, dn_isTL, dn_range1, dn_range2, dn_zip, b1_len_l, b1_len_t, b1_tup_l, b1_tup_t, b1_list_l, b1_list_t, b1_int, not_b, neg_i, cmp_lt, cmp_le, cmp_gt, cmp_ge, cmp_is, cmp_isnot, cmp_eqi, cmp_nei, bin_add, bin_sub, zip_t, zip_l, dn_comp, dS_for, bnd_ret, bnd_bnd, fn_eq, fnR_eq, List.map_cons, List.map_nil, List.cons_append, List.nil_append, List.append_nil, List.length_cons, List.length_nil, List.replicate_succ, List.replicate_zero, Nat.sub_self, Nat.reduceAdd, Nat.reduceSub, Nat.zero_add, List.set_cons_zero, List.set_cons_succ, List.getElem?_cons_zero, List.getElem?_cons_succ, m_lsum ((h r hr).trans hx.symm) (by rw [h r hr]; exact hw)]⟩]
  simp -implicitDefEqProofs only [wipeE, Tg.slots, k_nx, k_rt, e_nx, e_rt, br_t, br_f, dS_nil, dS_seq, dS_nm, own_list, dS_newL, dS_par, sl_f, sl_t, dS_ite, dS_ret, dS_expr, dS_app, ap_own, dS_aug, au_val, dS_frz, fr_own, asB_bool, asI_int, items_l, items_t, dn_nil, dn_cons, dn_star, lo_l, lo_d, vk, dn_var, ok_, dn_own, dn_lit, dn_glob, dn_bin, dn_neg, dn_not, dn_cmp, dn_chain, ch_t, ch_f, dn_and, dn_or, dn_ite, an_t, an_f, or_t, or_f, it_t, it_f, dn_tup, dn_list, tup0, tup1, tup2, tup3, lst0, lst1, lst2, lst3, dn_ix, dn_slice, dn_call, call1, call2, call3, call4, call5, rk, dn_callR, dn_b1, dn_b2, dn_isI, dn_isTL, dn_range1, dn_range2, dn_zip, b1_len_l, b1_len_t, b1_tup_l, b1_tup_t, b1_list_l, b1_list_t, b1_int, not_b, neg_i, cmp_lt, cmp_le, cmp_gt, cmp_ge, cmp_is, cmp_isnot, cmp_eqi, cmp_nei, bin_add, bin_sub, zip_t, zip_l, dn_comp, dS_for, bnd_ret, bnd_bnd, fn_eq, fnR_eq, List.map_cons, List.map_nil, List.cons_append, List.nil_append, List.append_nil, List.length_cons, List.length_nil, List.replicate_succ, List.replicate_zero, Nat.sub_self, Nat.reduceAdd, Nat.reduceSub, Nat.zero_add, List.set_cons_zero, List.set_cons_succ, List.getElem?_cons_zero, List.getElem?_cons_succ]
  unfold applyOf rowD
  rw [List.map_map]
  rfl
theorem m_meeting {one other : List (List La)} {high wide deep : Nat} {x y : List La} {pre : List (List La)} (hb : tabOk other high deep) (h : f_turns [tabD one, tabD other, rowD x] = ret (.list ((pre ++ [y]).map rowD))) :
    f_meeting [tabD one, tabD other, rowD x] = ret (.tuple [rowD y, rowD (dividedOf other deep (applyOf one y))]) := by
  unfold f_meeting B_meeting
  simp -implicitDefEqProofs only [wipeE, Tg.slots, k_nx, k_rt, e_nx, e_rt, br_t, br_f, dS_nil, dS_seq, dS_nm, own_list, dS_newL, dS_par, sl_f, sl_t, dS_ite, dS_ret, dS_expr, dS_app, ap_own, dS_aug, au_val, dS_frz, fr_own, asB_bool, asI_int, items_l, items_t, dn_nil, dn_cons, dn_star, lo_l, lo_d, vk, dn_var, ok_, dn_own, dn_lit, dn_glob, dn_bin, dn_neg, dn_not, dn_cmp, dn_chain, ch_t, ch_f, dn_and, dn_or, dn_ite, an_t, an_f, or_t, or_f, it_t, it_f, dn_tup, dn_list, tup0, tup1, tup2, tup3, lst0, lst1, lst2, lst3, dn_ix, dn_slice, dn_call, call1, call2, call3, call4, call5, rk, dn_callR, dn_b1, dn_b2, dn_isI, dn_isTL, dn_range1, dn_range2, dn_zip, b1_len_l, b1_len_t, b1_tup_l, b1_tup_t, b1_list_l, b1_list_t, b1_int, not_b, neg_i, cmp_lt, cmp_le, cmp_gt, cmp_ge, cmp_is, cmp_isnot, cmp_eqi, cmp_nei, bin_add, bin_sub, zip_t, zip_l, dn_comp, dS_for, bnd_ret, bnd_bnd, fn_eq, fnR_eq, List.map_cons, List.map_nil, List.cons_append, List.nil_append, List.append_nil, List.length_cons, List.length_nil, List.replicate_succ, List.replicate_zero, Nat.sub_self, Nat.reduceAdd, Nat.reduceSub, Nat.zero_add, List.set_cons_zero, List.set_cons_succ, List.getElem?_cons_zero, List.getElem?_cons_succ, h, ix_last, m_apply_of, m_divided_of hb]
/-! what the law works out for a column -/
def lagsGo : List (La × La) → List La
  | [] => []
  | (none, _) :: r => lagsGo r
  | (some _, none) :: r => none :: lagsGo r
  | (some a, some b) :: r => some (b - a) :: lagsGo r
theorem gap_none : ∀ {xs : List (La × La)} {s : La}, none ∈ lagsGo xs → gapGo s xs = none
  | (none, _) :: r, s, h => gap_none (xs := r) h
  | (some _, none) :: r, s, h => by cases s <;> rfl
  | (some a, some b) :: r, none, h => gap_none (xs := r) (by
      rcases List.mem_cons.mp h with h | h
      · cases h
      · exact h)
  | (some a, some b) :: r, some v, h => gap_none (xs := r) (by
      rcases List.mem_cons.mp h with h | h
      · cases h
      · exact h)
/-- without a never the gap is the least of the lags -/
theorem gap_some : ∀ {xs : List (La × La)} {s : La}, none ∉ lagsGo xs → (∀ v, gapGo s xs = some v → (s = some v ∨ some v ∈ lagsGo xs) ∧ (∀ u, s = some u → v ≤ u) ∧ ∀ u, some u ∈ lagsGo xs → v ≤ u) ∧ (gapGo s xs = none → s = none ∧ lagsGo xs = [])
  | [], s, h => ⟨fun v e => ⟨.inl e, fun u e2 => by
      have e : s = some v := e
      rw [e] at e2; cases e2; exact Int.le_refl _, fun u hu => by cases hu⟩, fun e => ⟨e, rfl⟩⟩
  | (none, _) :: r, s, h => gap_some (xs := r) (s := s) h
  | (some _, none) :: r, s, h => absurd (List.mem_cons_self ..) h
  | (some a, some b) :: r, none, h => by
    have hr : none ∉ lagsGo r := fun h2 => h (List.mem_cons_of_mem _ h2)
    obtain ⟨h1, h2⟩ := gap_some (xs := r) (s := some (b - a)) hr
    refine ⟨fun v e => ?_, fun e => ?_⟩
    · obtain ⟨g1, g2, g3⟩ := h1 v e
      refine ⟨.inr ?_, (fun u e => by cases e), fun u hu => ?_⟩
      · rcases g1 with g1 | g1
        · rw [← g1]; exact List.mem_cons_self ..
        · exact List.mem_cons_of_mem _ g1
      · rcases List.mem_cons.mp hu with hu | hu
        · cases hu; exact g2 _ rfl
        · exact g3 u hu
    · obtain ⟨e1, _⟩ := h2 e
      cases e1
  | (some a, some b) :: r, some w, h => by
    have hr : none ∉ lagsGo r := fun h2 => h (List.mem_cons_of_mem _ h2)
    obtain ⟨h1, h2⟩ := gap_some (xs := r) (s := some (if b - a < w then b - a else w)) hr
    refine ⟨fun v e => ?_, fun e => ?_⟩
    · obtain ⟨g1, g2, g3⟩ := h1 v e
      have hm := g2 _ rfl
      refine ⟨?_, fun u e => ?_, fun u hu => ?_⟩
      · rcases g1 with g1 | g1
        · by_cases c : b - a < w
          · rw [if_pos c] at g1
            rw [← g1]
            exact .inr (List.mem_cons_self ..)
          · rw [if_neg c] at g1
            exact .inl g1
        · exact .inr (List.mem_cons_of_mem _ g1)
      · cases e
        split at hm <;> omega
      · rcases List.mem_cons.mp hu with hu | hu
        · cases hu
          split at hm <;> omega
        · exact g3 u hu
    · obtain ⟨e1, _⟩ := h2 e
      cases e1
end Dn.DL
namespace Dn.DL
open PySem
theorem lags_append : ∀ (xs ys : List (La × La)), lagsGo (xs ++ ys) = lagsGo xs ++ lagsGo ys
  | [], ys => rfl
  | (none, _) :: r, ys => lags_append r ys
  | (some _, none) :: r, ys => by
    show none :: lagsGo (r ++ ys) = none :: (lagsGo r ++ lagsGo ys)
    rw [lags_append r ys]
  | (some a, some b) :: r, ys => by
    show some (b - a) :: lagsGo (r ++ ys) = some (b - a) :: (lagsGo r ++ lagsGo ys)
    rw [lags_append r ys]
theorem lags_len : ∀ xs : List (La × La), (lagsGo xs).length ≤ xs.length
  | [] => Nat.le_refl _
  | (none, _) :: r => Nat.le_succ_of_le (lags_len r)
  | (some _, none) :: r => Nat.succ_le_succ (lags_len r)
  | (some _, some _) :: r => Nat.succ_le_succ (lags_len r)
theorem lags_ne : ∀ {xs : List (La × La)}, (∃ p ∈ xs, p.1 ≠ none) → lagsGo xs ≠ []
  | (none, _) :: r, ⟨p, hp, hn⟩ => by
    rcases List.mem_cons.mp hp with rfl | hp
    · exact absurd rfl hn
    · exact lags_ne (xs := r) ⟨p, hp, hn⟩
  | (some _, none) :: r, _ => by intro e; cases e
  | (some _, some _) :: r, _ => by intro e; cases e
  | [], ⟨_, hp, _⟩ => by cases hp
theorem in_none {l : List La} (h : l.length ≤ 1000) : cmpD .in_ .none (.list (l.map optD)) = ret (.bool (l.any Option.isNone)) := by
  have hp : plain 1 (.list (l.map optD)) := ⟨by rw [List.length_map]; exact h, fun x hx => by
    obtain ⟨a, _, rfl⟩ := List.mem_map.mp hx
    exact plain_opt 0 a⟩
  have e : cmpD .in_ .none (.list (l.map optD)) = (if SeqAt.shaped .none && SeqAt.shaped (.list (l.map optD)) then ret (.bool ((l.map optD).any fun z => PyData.eqv z .none)) else bad) := rfl
  rw [e, plain_shaped hp (by decide), if_pos (by decide), List.any_map]
  have ef : ((fun z => PyData.eqv z .none) ∘ optD) = Option.isNone := by
    funext a
    cases a <;> rfl
  rw [ef]
theorem min_lags {l : List La} (h : none ∉ l) (hn : l ≠ []) : b1D .min (.list (l.map optD)) = ret (.int (minI (l.map fun a => a.getD 0))) := by
  have e : l.map optD = l.map fun a => PyData.int (a.getD 0) := List.map_congr_left fun a ha => by
    cases a with
    | none => exact absurd ha h
    | some v => rfl
  rw [e]
  exact b1_minc _ _ hn
/-- the least of the lags is the gap -/
theorem gap_min {xs : List (La × La)} (h : none ∉ lagsGo xs) (hn : lagsGo xs ≠ []) : gapGo none xs = some (minI ((lagsGo xs).map fun a => a.getD 0)) := by
  obtain ⟨g1, g2⟩ := gap_some (s := none) h
  cases e : gapGo none xs with
  | none => exact absurd (g2 e).2 hn
  | some v =>
    obtain ⟨m1, _, m3⟩ := g1 v e
    have hv : some v ∈ lagsGo xs := by
      rcases m1 with m1 | m1
      · cases m1
      · exact m1
    cases el : lagsGo xs with
    | nil => exact absurd el hn
    | cons a r =>
      have sp := minI_spec (r.map fun a => a.getD 0) (a.getD 0)
      have i1 : minI ((a :: r).map fun a => a.getD 0) ∈ (a :: r).map fun a => a.getD 0 := sp.1
      have i2 : minI ((a :: r).map fun a => a.getD 0) ≤ v := by
        refine sp.2 v ?_
        rw [el] at hv
        have hm : v ∈ (a :: r).map fun a => a.getD 0 := List.mem_map.mpr ⟨some v, hv, rfl⟩
        exact hm
      obtain ⟨b, hb, eb⟩ := List.mem_map.mp i1
      cases b with
      | none => exact absurd (by rw [el]; exact hb) h
      | some u =>
        have i3 := m3 u (by rw [el]; exact hb)
        have eb : u = minI ((a :: r).map fun a => a.getD 0) := eb
        congr 1
        omega
abbrev lagB : S := .seq (.ite (.cmp .isnot (.ix (.ix (.var 0) (.var 5)) (.var 3)) (.lit .none)) (.seq (.app 4 (.ite (.cmp .is_ (.ix (.var 1) (.var 5)) (.lit .none)) (.lit .none) (.bin .sub (.ix (.var 1) (.var 5)) (.ix (.ix (.var 0) (.var 5)) (.var 3))))) .nil) .nil) .nil
theorem lag_one {t : List (List La)} {g l r : List La} {k s : Nat} {x2 x5 : Sl} (hr : t[s]? = some r) (hk : k < r.length) (hs : s < g.length) (hl : l.length < 1000) :
    forK (.nm 5) lagB (.int (s : Int)) [.val (tabD t), .val (rowD g), x2, .val (.int (k : Int)), .own (l.map optD), x5] =
      ret (.nx [.val (tabD t), .val (rowD g), x2, .val (.int (k : Int)), .own ((l ++ lagsGo [(getL r k, getL g s)]).map optD), .val (.int (s : Int))]) := by
  unfold forK
  show denS lagB [.val (tabD t), .val (rowD g), x2, .val (.int (k : Int)), .own (l.map optD), .val (.int (s : Int))] = _
  have e1 := getD_ok hk
  have e2 := getD_ok hs
  have hp : (l.map optD).length < sizeLine := by rw [List.length_map]; exact Nat.lt_of_lt_of_le hl (by decide)
  unfold lagB getL
  generalize (r[k]?).getD none = c at e1
  generalize (g[s]?).getD none = d at e2
  cases c with
  | none =>
    simp -implicitDefEqProofs only [wipeE, Tg.slots, k_nx, k_rt, e_nx, e_rt, br_t, br_f, dS_nil, dS_seq, dS_nm, own_list, dS_newL, dS_par, sl_f, sl_t, dS_ite, dS_ret, dS_expr, dS_app, ap_own, dS_aug, au_val, dS_frz, fr_own, asB_bool, asI_int, items_l, items_t, dn_nil, dn_cons, dn_star, lo_l, lo_d, vk, dn_var, ok_, dn_own, dn_lit, dn_glob, dn_bin, dn_neg, dn_not, dn_cmp, dn_chain, ch_t, ch_f, dn_and, dn_or, dn_ite, an_t, an_f, or_t, or_f, it_t, it_f, dn_tup, dn_list, tup0, tup1, tup2, tup3, lst0, lst1, lst2, lst3, dn_ix, dn_slice, dn_call, call1, call2, call3, call4, call5, rk, dn_callR, dn_b1, dn_b2, dn_isI, dn_isTL, dn_range1, dn_range2, dn_zip, b1_len_l, b1_len_t, b1_tup_l, b1_tup_t, b1_list_l, b1_list_t, b1_int, not_b, neg_i, cmp_lt, cmp_le, cmp_gt, cmp_ge, cmp_is, cmp_isnot, cmp_eqi, cmp_nei, bin_add, bin_sub, zip_t, zip_l, dn_comp, dS_for, bnd_ret, bnd_bnd, fn_eq, fnR_eq, List.map_cons, List.map_nil, List.cons_append, List.nil_append, List.append_nil, List.length_cons, List.length_nil, List.replicate_succ, List.replicate_zero, Nat.sub_self, Nat.reduceAdd, Nat.reduceSub, Nat.zero_add, List.set_cons_zero, List.set_cons_succ, List.getElem?_cons_zero, List.getElem?_cons_succ, ix_tab hr, ix_row e1, none_opt, Option.isNone_none, Bool.not_true, lagsGo]
  | some a =>
    cases d with
    | none =>
      simp -implicitDefEqProofs only [wipeE, Tg.slots, k_nx, k_rt, e_nx, e_rt, br_t, br_f, dS_nil, dS_seq, dS_nm, own_list, dS_newL, dS_par, sl_f, sl_t, dS_ite, dS_ret, dS_expr, dS_app, ap_own, dS_aug, au_val, dS_frz, fr_own, asB_bool, asI_int, items_l, items_t, dn_nil, dn_cons, dn_star, lo_l, lo_d, vk, dn_var, ok_, dn_own, dn_lit, dn_glob, dn_bin, dn_neg, dn_not, dn_cmp, dn_chain, ch_t, ch_f, dn_and, dn_or, dn_ite, an_t, an_f, or_t, or_f, it_t, it_f, dn_tup, dn_list, tup0, tup1, tup2, tup3, lst0, lst1, lst2, lst3, dn_ix, dn_slice, dn_call, call1, call2, call3, call4, call5, rk, dn_callR, dn_b1, dn_b2, dn_isI, dn_isTL, dn_range1, dn_range2, dn_zip, b1_len_l, b1_len_t, b1_tup_l, b1_tup_t, b1_list_l, b1_list_t, b1_int, not_b, neg_i, cmp_lt, cmp_le, cmp_gt, cmp_ge, cmp_is, cmp_isnot, cmp_eqi, cmp_nei, bin_add, bin_sub, zip_t, zip_l, dn_comp, dS_for, bnd_ret, bnd_bnd, fn_eq, fnR_eq, List.map_cons, List.map_nil, List.cons_append, List.nil_append, List.append_nil, List.length_cons, List.length_nil, List.replicate_succ, List.replicate_zero, Nat.sub_self, Nat.reduceAdd, Nat.reduceSub, Nat.zero_add, List.set_cons_zero, List.set_cons_succ, List.getElem?_cons_zero, List.getElem?_cons_succ, ix_tab hr, ix_row e1, ix_row e2, none_opt, Option.isNone_some, Option.isNone_none, Bool.not_false, push_ok hp, lagsGo, List.map_append]
      rfl
    | some b =>
      simp -implicitDefEqProofs only [wipeE, Tg.slots, k_nx, k_rt, e_nx, e_rt, br_t, br_f, dS_nil, dS_seq, dS_nm, own_list, dS_newL, dS_par, sl_f, sl_t, dS_ite, dS_ret, dS_expr, dS_app, ap_own, dS_aug, au_val, dS_frz, fr_own, asB_bool, asI_int, items_l, items_t, dn_nil, dn_cons, dn_star, lo_l, lo_d, vk, dn_var, ok_, dn_own, dn_lit, dn_glob, dn_bin, dn_neg, dn_not, dn_cmp, dn_chain, ch_t, ch_f, dn_and, dn_or, dn_ite, an_t, an_f, or_t, or_f, it_t, it_f, dn_tup, dn_list, tup0, tup1, tup2, tup3, lst0, lst1, lst2, lst3, dn_ix, dn_slice, dn_call, call1, call2, call3, call4, call5, rk, dn_callR, dn_b1, dn_b2, dn_isI, dn_isTL, dn_range1, dn_range2, dn_zip, b1_len_l, b1_len_t, b1_tup_l, b1_tup_t, b1_list_l, b1_list_t, b1_int, not_b, neg_i, cmp_lt, cmp_le, cmp_gt, cmp_ge, cmp_is, cmp_isnot, cmp_eqi, cmp_nei, bin_add, bin_sub, zip_t, zip_l, dn_comp, dS_for, bnd_ret, bnd_bnd, fn_eq, fnR_eq, List.map_cons, List.map_nil, List.cons_append, List.nil_append, List.append_nil, List.length_cons, List.length_nil, List.replicate_succ, List.replicate_zero, Nat.sub_self, Nat.reduceAdd, Nat.reduceSub, Nat.zero_add, List.set_cons_zero, List.set_cons_succ, List.getElem?_cons_zero, List.getElem?_cons_succ, ix_tab hr, ix_row e1, ix_row e2, none_opt, Option.isNone_some, Bool.not_false, lagsGo, List.map_append]
      have e3 : binD .sub (optD (some b)) (optD (some a)) = ret (optD (some (b - a))) := rfl
      rw [e3]
      simp -implicitDefEqProofs only [wipeE, Tg.slots, k_nx, k_rt, e_nx, e_rt, br_t, br_f, dS_nil, dS_seq, dS_nm, own_list, dS_newL, dS_par, sl_f, sl_t, dS_ite, dS_ret, dS_expr, dS_app, ap_own, dS_aug, au_val, dS_frz, fr_own, asB_bool, asI_int, items_l, items_t, dn_nil, dn_cons, dn_star, lo_l, lo_d, vk, dn_var, ok_, dn_own, dn_lit, dn_glob, dn_bin, dn_neg, dn_not, dn_cmp, dn_chain, ch_t, ch_f, dn_and, dn_or, dn_ite, an_t, an_f, or_t, or_f, it_t, it_f, dn_tup, dn_list, tup0, tup1, tup2, tup3, lst0, lst1, lst2, lst3, dn_ix, dn_slice, dn_call, call1, call2, call3, call4, call5, rk, dn_callR, dn_b1, dn_b2, dn_isI, dn_isTL, dn_range1, dn_range2, dn_zip, b1_len_l, b1_len_t, b1_tup_l, b1_tup_t, b1_list_l, b1_list_t, b1_int, not_b, neg_i, cmp_lt, cmp_le, cmp_gt, cmp_ge, cmp_is, cmp_isnot, cmp_eqi, cmp_nei, bin_add, bin_sub, zip_t, zip_l, dn_comp, dS_for, bnd_ret, bnd_bnd, fn_eq, fnR_eq, List.map_cons, List.map_nil, List.cons_append, List.nil_append, List.append_nil, List.length_cons, List.length_nil, List.replicate_succ, List.replicate_zero, Nat.sub_self, Nat.reduceAdd, Nat.reduceSub, Nat.zero_add, List.set_cons_zero, List.set_cons_succ, List.getElem?_cons_zero, List.getElem?_cons_succ, push_ok hp]
end Dn.DL
namespace Dn.DL
open PySem
theorem zip_col {t : List (List La)} {g : List La} {k s : Nat} {r : List La} (hr : t[s]? = some r) (hs : s < g.length) : ((colOf t k).zip g)[s]? = some (getL r k, getL g s) := by
  unfold colOf
  rw [List.zip, List.getElem?_zipWith, List.getElem?_map, hr, List.getElem?_eq_getElem hs]
  unfold getL
  rw [List.getElem?_eq_getElem hs]
  rfl
theorem lag_col {t : List (List La)} {g : List La} {high wide k : Nat} (ht : t.length = high) (hr : ∀ r ∈ t, r.length = wide) (hg : g.length = high) (hk : k < wide) (hh : high ≤ 900) {x2 : Sl} (x5 : Sl) :
    ∃ y5, forE (.nm 5) lagB [.val (tabD t), .val (rowD g), x2, .val (.int (k : Int)), .own [], x5] ((List.range high).map fun (i : Nat) => PyData.int (i : Int)) =
      ret (.nx [.val (tabD t), .val (rowD g), x2, .val (.int (k : Int)), .own ((lagsGo ((colOf t k).zip g)).map optD), y5]) := by
  have hz : ((colOf t k).zip g).length = high := by
    unfold colOf
    rw [List.length_zip, List.length_map, ht, hg, Nat.min_self]
  obtain ⟨ρ', e, y5, e2⟩ := for_at (t := .nm 5) (B := lagB) (enc := fun (i : Nat) => PyData.int (i : Int)) (L := List.range high)
    (fun s ρ => ∃ y5, ρ = [.val (tabD t), .val (rowD g), x2, .val (.int (k : Int)), .own ((lagsGo (((colOf t k).zip g).take s)).map optD), y5])
    (fun s x ρ hx ⟨y5, e⟩ => by
      subst e
      have hs : s < high := by
        have := (List.getElem?_eq_some_iff.mp hx).1
        rwa [List.length_range] at this
      have ex : x = s := by
        rw [List.getElem?_range hs] at hx
        exact (Option.some.inj hx).symm
      subst ex
      obtain ⟨r, er, hm⟩ := get_lt (l := t) (k := x) (by omega)
      have hlen : (lagsGo (((colOf t k).zip g).take x)).length < 1000 := by
        have h1 := lags_len (((colOf t k).zip g).take x)
        rw [List.length_take] at h1
        omega
      refine ⟨_, lag_one er (by rw [hr r hm]; exact hk) (by omega) hlen, .val (.int (x : Int)), ?_⟩
      rw [List.take_add_one, zip_col er (by omega), lags_append]
      rfl)
    high 0 [.val (tabD t), .val (rowD g), x2, .val (.int (k : Int)), .own [], x5] (by rw [List.length_range, Nat.zero_add]) ⟨x5, by rw [List.take_zero]; rfl⟩
  subst e2
  refine ⟨y5, ?_⟩
  rw [List.drop_zero] at e
  rw [e, List.length_range, List.take_of_length_le (by rw [hz]; exact Nat.le_refl _)]
abbrev backB : S := .seq (.newL 4 (.list .nil)) (.seq (.for_ (.nm 5) (.range1 (.b1 .len (.var 0))) lagB) (.seq (.app 2 (.ite (.cmp .in_ (.lit .none) (.own 4)) (.lit .none) (.b1 .min (.own 4)))) .nil))
theorem back_one {t : List (List La)} {g l : List La} {high wide k : Nat} (ht : t.length = high) (hr : ∀ r ∈ t, r.length = wide) (hg : g.length = high) (hk : k < wide) (hh : high ≤ 900) (hf : ∃ r ∈ t, getL r k ≠ none) (hl : l.length < 1000) {x3 x4 x5 : Sl} :
    ∃ y4 y5, forK (.nm 3) backB (.int (k : Int)) [.val (tabD t), .val (rowD g), .own (l.map optD), x3, x4, x5] =
      ret (.nx [.val (tabD t), .val (rowD g), .own ((l ++ [gapOf (colOf t k) g]).map optD), .val (.int (k : Int)), y4, y5]) := by
  obtain ⟨y5, e⟩ := lag_col ht hr hg hk hh (x2 := .own (l.map optD)) x5
  refine ⟨.own ((lagsGo ((colOf t k).zip g)).map optD), y5, ?_⟩
  have hz : ((colOf t k).zip g).length = high := by
    unfold colOf
    rw [List.length_zip, List.length_map, ht, hg, Nat.min_self]
  have hll : (lagsGo ((colOf t k).zip g)).length ≤ 1000 := by
    have := lags_len ((colOf t k).zip g)
    omega
  have hp : (l.map optD).length < sizeLine := by rw [List.length_map]; exact Nat.lt_of_lt_of_le hl (by decide)
  have hne : lagsGo ((colOf t k).zip g) ≠ [] := by
    obtain ⟨r, hm, hn⟩ := hf
    obtain ⟨s, hs, es⟩ := List.getElem_of_mem hm
    have er : t[s]? = some r := by rw [List.getElem?_eq_getElem hs, es]
    exact lags_ne ⟨_, List.mem_of_getElem? (zip_col (k := k) er (by omega)), hn⟩
  unfold forK
  show denS backB [.val (tabD t), .val (rowD g), .own (l.map optD), .val (.int (k : Int)), x4, x5] = _
  unfold backB
  simp -implicitDefEqProofs only [wipeE, Tg.slots, k_nx, k_rt, e_nx, e_rt, br_t, br_f, dS_nil, dS_seq, dS_nm, own_list, dS_newL, dS_par, sl_f, sl_t, dS_ite, dS_ret, dS_expr, dS_app, ap_own, dS_aug, au_val, dS_frz, fr_own, asB_bool, asI_int, items_l, items_t, dn_nil, dn_cons, dn_star, lo_l, lo_d, vk, dn_var, ok_, dn_own, dn_lit, dn_glob, dn_bin, dn_neg, dn_not, dn_cmp, dn_chain, ch_t, ch_f, dn_and, dn_or, dn_ite, an_t, an_f, or_t, or_f, it_t, it_f, dn_tup, dn_list, tup0, tup1, tup2, tup3, lst0, lst1, lst2, lst3, dn_ix, dn_slice, dn_call, call1, call2, call3, call4, call5, rk, dn_callR, dn_b1, dn_b2, dn_isI, dn_isTL, dn_range1, dn_range2, dn_zip, b1_len_l, b1_len_t, b1_tup_l, b1_tup_t, b1_list_l, b1_list_t, b1_int, not_b, neg_i, cmp_lt, cmp_le, cmp_gt, cmp_ge, cmp_is, cmp_isnot, cmp_eqi, cmp_nei, bin_add, bin_sub, zip_t, zip_l, dn_comp, dS_for, bnd_ret, bnd_bnd, fn_eq, fnR_eq, List.map_cons, List.map_nil, List.cons_append, List.nil_append, List.append_nil, List.length_cons, List.length_nil, List.replicate_succ, List.replicate_zero, Nat.sub_self, Nat.reduceAdd, Nat.reduceSub, Nat.zero_add, List.set_cons_zero, List.set_cons_succ, List.getElem?_cons_zero, List.getElem?_cons_succ, len_tab, ht, range0 (Nat.le_trans hh (show 900 ≤ 1000 by decide)), e, in_none hll]
  cases hany : (lagsGo ((colOf t k).zip g)).any Option.isNone with
  | true =>
    obtain ⟨a, ha, hb⟩ := List.any_eq_true.mp hany
    have hn : none ∈ lagsGo ((colOf t k).zip g) := by
      cases a with
      | none => exact ha
      | some v => cases hb
    simp -implicitDefEqProofs only [wipeE, Tg.slots, k_nx, k_rt, e_nx, e_rt, br_t, br_f, dS_nil, dS_seq, dS_nm, own_list, dS_newL, dS_par, sl_f, sl_t, dS_ite, dS_ret, dS_expr, dS_app, ap_own, dS_aug, au_val, dS_frz, fr_own, asB_bool, asI_int, items_l, items_t, dn_nil, dn_cons, dn_star, lo_l, lo_d, vk, dn_var, ok_, dn_own, dn_lit, dn_glob, dn_bin, dn_neg, dn_not, dn_cmp, dn_chain, ch_t, ch_f, dn_and, dn_or, dn_ite, an_t, an_f, or_t, or_f, it_t, it_f, dn_tup, dn_list, tup0, tup1, tup2, tup3, lst0, lst1, lst2, lst3, dn_ix, dn_slice, dn_call, call1, call2, call3, call4, call5, rk, dn_callR, dn_b1, dn_b2, dn_isI, dn_isTL, dn_range1, dn_range2, dn_zip, b1_len_l, b1_len_t, b1_tup_l, b1_tup_t, b1_list_l, b1_list_t, b1_int, not_b, neg_i, cmp_lt, cmp_le, cmp_gt, cmp_ge, cmp_is, cmp_isnot, cmp_eqi, cmp_nei, bin_add, bin_sub, zip_t, zip_l, dn_comp, dS_for, bnd_ret, bnd_bnd, fn_eq, fnR_eq, List.map_cons, List.map_nil, List.cons_append, List.nil_append, List.append_nil, List.length_cons, List.length_nil, List.replicate_succ, List.replicate_zero, Nat.sub_self, Nat.reduceAdd, Nat.reduceSub, Nat.zero_add, List.set_cons_zero, List.set_cons_succ, List.getElem?_cons_zero, List.getElem?_cons_succ, push_ok hp]
    unfold gapOf
    rw [gap_none hn, List.map_append]
    rfl
  | false =>
    have hn : none ∉ lagsGo ((colOf t k).zip g) := fun h => by
      have := List.any_eq_false.mp hany none h
      exact this rfl
    simp -implicitDefEqProofs only [wipeE, Tg.slots, k_nx, k_rt, e_nx, e_rt, br_t, br_f, dS_nil, dS_seq, dS_nm, own_list, dS_newL, dS_par, sl_f, sl_t, dS_ite, dS_ret, dS_expr, dS_app, ap_own, dS_aug, au_val, dS_frz, fr_own, asB_bool, asI_int, items_l, items_t, dn_nil, dn_cons, dn_star, lo_l, lo_d, vk, dn_var, ok_, dn_own, dn_lit, dn_glob, dn_bin, dn_neg, dn_not, dn_cmp, dn_chain, ch_t, ch_f, dn_and, dn_or, dn_ite, an_t, an_f, or_t, or_f, it_t, it_f, dn_tup, dn_list, tup0, tup1, tup2, tup3, lst0, lst1, lst2, lst3, dn_ix, dn_slice, dn_call, call1, call2, call3, call4, call5, rk, dn_callR, dn_b1, dn_b2, dn_isI, dn_isTL, dn_range1, dn_range2, dn_zip, b1_len_l, b1_len_t, b1_tup_l, b1_tup_t, b1_list_l, b1_list_t, b1_int, not_b, neg_i, cmp_lt, cmp_le, cmp_gt, cmp_ge, cmp_is, cmp_isnot, cmp_eqi, cmp_nei, bin_add, bin_sub, zip_t, zip_l, dn_comp, dS_for, bnd_ret, bnd_bnd, fn_eq, fnR_eq, List.map_cons, List.map_nil, List.cons_append, List.nil_append, List.append_nil, List.length_cons, List.length_nil, List.replicate_succ, List.replicate_zero, Nat.sub_self, Nat.reduceAdd, Nat.reduceSub, Nat.zero_add, List.set_cons_zero, List.set_cons_succ, List.getElem?_cons_zero, List.getElem?_cons_succ, min_lags hn hne, push_ok hp]
    unfold gapOf
    rw [gap_min hn hne, List.map_append]
    rfl
end Dn.DL
namespace Dn.DL
open PySem
def fullT (t : List (List La)) (wide : Nat) : Prop := ∀ k, k < wide → ∃ r ∈ t, getL r k ≠ none
theorem m_lback {t : List (List La)} {g : List La} {high wide : Nat} (h1 : 1 ≤ high) (ht : t.length = high) (hr : ∀ r ∈ t, r.length = wide) (hg : g.length = high) (hh : high ≤ 900) (hw : wide ≤ 900) (hf : fullT t wide) : f__law_back [tabD t, rowD g] = ret (rowD (dividedOf t wide g)) := by
  obtain ⟨r0, e0, hm0⟩ := get_lt (l := t) (k := 0) (by omega)
  unfold f__law_back B__law_back
  simp -implicitDefEqProofs only [wipeE, Tg.slots, k_nx, k_rt, e_nx, e_rt, br_t, br_f, dS_nil, dS_seq, dS_nm, own_list, dS_newL, dS_par, sl_f, sl_t, dS_ite, dS_ret, dS_expr, dS_app, ap_own, dS_aug, au_val, dS_frz, fr_own, asB_bool, asI_int, items_l, items_t, dn_nil, dn_cons, dn_star, lo_l, lo_d, vk, dn_var, ok_, dn_own, dn_lit, dn_glob, dn_bin, dn_neg, dn_not, dn_cmp, dn_chain, ch_t, ch_f, dn_and, dn_or, dn_ite, an_t, an_f, or_t, or_f, it_t, it_f, dn_tup, dn_list, tup0, tup1, tup2, tup3, lst0, lst1, lst2, lst3, dn_ix, dn_slice, dn_call, call1, call2, call3, call4, call5, rk, dn_callR, dn_b1, dn_b2, dn_isI, dn_isTL, dn_range1, dn_range2, dn_zip, b1_len_l, b1_len_t, b1_tup_l, b1_tup_t, b1_list_l, b1_list_t, b1_int, not_b, neg_i, cmp_lt, cmp_le, cmp_gt, cmp_ge, cmp_is, cmp_isnot, cmp_eqi, cmp_nei, bin_add, bin_sub, zip_t, zip_l, dn_comp, dS_for, bnd_ret, bnd_bnd, fn_eq, fnR_eq, List.map_cons, List.map_nil, List.cons_append, List.nil_append, List.append_nil, List.length_cons, List.length_nil, List.replicate_succ, List.replicate_zero, Nat.sub_self, Nat.reduceAdd, Nat.reduceSub, Nat.zero_add, List.set_cons_zero, List.set_cons_succ, List.getElem?_cons_zero, List.getElem?_cons_succ, ix_tab0 e0, len_row, hr r0 hm0, range0 (Nat.le_trans hw (show 900 ≤ 1000 by decide))]
  obtain ⟨ρ', e, y3, y4, y5, e2⟩ := for_at (t := .nm 3) (B := backB) (enc := fun (i : Nat) => PyData.int (i : Int)) (L := List.range wide)
    (fun k ρ => ∃ y3 y4 y5, ρ = [.val (tabD t), .val (rowD g), .own (((List.range k).map fun k => gapOf (colOf t k) g).map optD), y3, y4, y5])
    (fun k x ρ hx ⟨y3, y4, y5, e⟩ => by
      subst e
      have hk : k < wide := by
        have := (List.getElem?_eq_some_iff.mp hx).1
        rwa [List.length_range] at this
      have ex : x = k := by
        rw [List.getElem?_range hk] at hx
        exact (Option.some.inj hx).symm
      subst ex
      obtain ⟨z4, z5, eb⟩ := back_one (l := (List.range x).map fun k => gapOf (colOf t k) g) ht hr hg hk hh (hf x hk) (by rw [List.length_map, List.length_range]; omega) (x3 := y3) (x4 := y4) (x5 := y5)
      refine ⟨_, eb, .val (.int (x : Int)), z4, z5, ?_⟩
      simp [List.range_succ])
    wide 0 [.val (tabD t), .val (rowD g), .own [], .no, .no, .no] (by rw [List.length_range, Nat.zero_add]) ⟨.no, .no, .no, rfl⟩
  subst e2
  rw [List.drop_zero] at e
  rw [List.length_range] at e
  rw [e]
  simp -implicitDefEqProofs only [wipeE, Tg.slots, k_nx, k_rt, e_nx, e_rt, br_t, br_f, dS_nil, dS_seq, dS_nm, own_list, dS_newL, dS_par, sl_f, sl_t, dS_ite, dS_ret, dS_expr, dS_app, ap_own, dS_aug, au_val, dS_frz, fr_own, asB_bool, asI_int, items_l, items_t, dn_nil, dn_cons, dn_star, lo_l, lo_d, vk, dn_var, ok_, dn_own, dn_lit, dn_glob, dn_bin, dn_neg, dn_not, dn_cmp, dn_chain, ch_t, ch_f, dn_and, dn_or, dn_ite, an_t, an_f, or_t, or_f, it_t, it_f, dn_tup, dn_list, tup0, tup1, tup2, tup3, lst0, lst1, lst2, lst3, dn_ix, dn_slice, dn_call, call1, call2, call3, call4, call5, rk, dn_callR, dn_b1, dn_b2, dn_isI, dn_isTL, dn_range1, dn_range2, dn_zip, b1_len_l, b1_len_t, b1_tup_l, b1_tup_t, b1_list_l, b1_list_t, b1_int, not_b, neg_i, cmp_lt, cmp_le, cmp_gt, cmp_ge, cmp_is, cmp_isnot, cmp_eqi, cmp_nei, bin_add, bin_sub, zip_t, zip_l, dn_comp, dS_for, bnd_ret, bnd_bnd, fn_eq, fnR_eq, List.map_cons, List.map_nil, List.cons_append, List.nil_append, List.append_nil, List.length_cons, List.length_nil, List.replicate_succ, List.replicate_zero, Nat.sub_self, Nat.reduceAdd, Nat.reduceSub, Nat.zero_add, List.set_cons_zero, List.set_cons_succ, List.getElem?_cons_zero, List.getElem?_cons_succ]
  unfold dividedOf turnedOf rowD
  simp only [List.map_map]
  rfl
/-! tables drawn full -/
def zeroEl (a : La) : La := some (a.getD 0)
theorem m_lfull {high wide : Nat} (h1 : 1 ≤ high) (hh : high ≤ 900) (hw : wide ≤ 900) (h2 : 1 ≤ wide) : Does (f__law_full [.int (high : Int), .int (wide : Int)]) fun d => ∃ t : List (List La), d = tabD t ∧ t.length = high ∧ (∀ r ∈ t, r.length = wide ∧ ∀ x ∈ r, within 3 x) ∧ ∃ r ∈ t, ∀ x ∈ r, x ≠ none := by
  unfold f__law_full B__law_full
  simp -implicitDefEqProofs only [wipeE, Tg.slots, k_nx, k_rt, e_nx, e_rt, br_t, br_f, dS_nil, dS_seq, dS_nm, own_list, dS_newL, dS_par, sl_f, sl_t, dS_ite, dS_ret, dS_expr, dS_app, ap_own, dS_aug, au_val, dS_frz, fr_own, asB_bool, asI_int, items_l, items_t, dn_nil, dn_cons, dn_star, lo_l, lo_d, vk, dn_var, ok_, dn_own, dn_lit, dn_glob, dn_bin, dn_neg, dn_not, dn_cmp, dn_chain, ch_t, ch_f, dn_and, dn_or, dn_ite, an_t, an_f, or_t, or_f, it_t, it_f, dn_tup, dn_list, tup0, tup1, tup2, tup3, lst0, lst1, lst2, lst3, dn_ix, dn_slice, dn_call, call1, call2, call3, call4, call5, rk, dn_callR, dn_b1, dn_b2, dn_isI, dn_isTL, dn_range1, dn_range2, dn_zip, b1_len_l, b1_len_t, b1_tup_l, b1_tup_t, b1_list_l, b1_list_t, b1_int, not_b, neg_i, cmp_lt, cmp_le, cmp_gt, cmp_ge, cmp_is, cmp_isnot, cmp_eqi, cmp_nei, bin_add, bin_sub, zip_t, zip_l, dn_comp, dS_for, bnd_ret, bnd_bnd, fn_eq, fnR_eq, List.map_cons, List.map_nil, List.cons_append, List.nil_append, List.append_nil, List.length_cons, List.length_nil, List.replicate_succ, List.replicate_zero, Nat.sub_self, Nat.reduceAdd, Nat.reduceSub, Nat.zero_add, List.set_cons_zero, List.set_cons_succ, List.getElem?_cons_zero, List.getElem?_cons_succ, range0 (Nat.le_trans hh (show 900 ≤ 1000 by decide))]
  refine (cmpDoes (Q := fun d => ∃ r : List La, d = rowD r ∧ r.length = wide ∧ ∀ x ∈ r, within 3 x) fun d _ => ⟨_, rfl, rfl, by
    simp -implicitDefEqProofs only [wipeE, Tg.slots, k_nx, k_rt, e_nx, e_rt, br_t, br_f, dS_nil, dS_seq, dS_nm, own_list, dS_newL, dS_par, sl_f, sl_t, dS_ite, dS_ret, dS_expr, dS_app, ap_own, dS_aug, au_val, dS_frz, fr_own, asB_bool, asI_int, items_l, items_t, dn_nil, dn_cons, dn_star, lo_l, lo_d, vk, dn_var, ok_, dn_own, dn_lit, dn_glob, dn_bin, dn_neg, dn_not, dn_cmp, dn_chain, ch_t, ch_f, dn_and, dn_or, dn_ite, an_t, an_f, or_t, or_f, it_t, it_f, dn_tup, dn_list, tup0, tup1, tup2, tup3, lst0, lst1, lst2, lst3, dn_ix, dn_slice, dn_call, call1, call2, call3, call4, call5, rk, dn_callR, dn_b1, dn_b2, dn_isI, dn_isTL, dn_range1, dn_range2, dn_zip, b1_len_l, b1_len_t, b1_tup_l, b1_tup_t, b1_list_l, b1_list_t, b1_int, not_b, neg_i, cmp_lt, cmp_le, cmp_gt, cmp_ge, cmp_is, cmp_isnot, cmp_eqi, cmp_nei, bin_add, bin_sub, zip_t, zip_l, dn_comp, dS_for, bnd_ret, bnd_bnd, fn_eq, fnR_eq, List.map_cons, List.map_nil, List.cons_append, List.nil_append, List.append_nil, List.length_cons, List.length_nil, List.replicate_succ, List.replicate_zero, Nat.sub_self, Nat.reduceAdd, Nat.reduceSub, Nat.zero_add, List.set_cons_zero, List.set_cons_succ, List.getElem?_cons_zero, List.getElem?_cons_succ]
    exact row_does (Nat.le_trans hw (by decide)) (by decide) (by decide)⟩).bnd fun out ⟨l, e, hl, hq⟩ => ?_
  subst e
  obtain ⟨t, rfl, ht⟩ := rows_of hq
  rw [List.length_map, List.length_map, List.length_range] at hl
  simp -implicitDefEqProofs only [wipeE, Tg.slots, k_nx, k_rt, e_nx, e_rt, br_t, br_f, dS_nil, dS_seq, dS_nm, own_list, dS_newL, dS_par, sl_f, sl_t, dS_ite, dS_ret, dS_expr, dS_app, ap_own, dS_aug, au_val, dS_frz, fr_own, asB_bool, asI_int, items_l, items_t, dn_nil, dn_cons, dn_star, lo_l, lo_d, vk, dn_var, ok_, dn_own, dn_lit, dn_glob, dn_bin, dn_neg, dn_not, dn_cmp, dn_chain, ch_t, ch_f, dn_and, dn_or, dn_ite, an_t, an_f, or_t, or_f, it_t, it_f, dn_tup, dn_list, tup0, tup1, tup2, tup3, lst0, lst1, lst2, lst3, dn_ix, dn_slice, dn_call, call1, call2, call3, call4, call5, rk, dn_callR, dn_b1, dn_b2, dn_isI, dn_isTL, dn_range1, dn_range2, dn_zip, b1_len_l, b1_len_t, b1_tup_l, b1_tup_t, b1_list_l, b1_list_t, b1_int, not_b, neg_i, cmp_lt, cmp_le, cmp_gt, cmp_ge, cmp_is, cmp_isnot, cmp_eqi, cmp_nei, bin_add, bin_sub, zip_t, zip_l, dn_comp, dS_for, bnd_ret, bnd_bnd, fn_eq, fnR_eq, List.map_cons, List.map_nil, List.cons_append, List.nil_append, List.append_nil, List.length_cons, List.length_nil, List.replicate_succ, List.replicate_zero, Nat.sub_self, Nat.reduceAdd, Nat.reduceSub, Nat.zero_add, List.set_cons_zero, List.set_cons_succ, List.getElem?_cons_zero, List.getElem?_cons_succ]
  refine (taken_does ⟨by omega, by omega⟩).bnd fun d ⟨k, e, g1, g2⟩ => ?_
  subst e
  obtain ⟨s, rfl⟩ : ∃ n : Nat, k = n := ⟨k.toNat, by omega⟩
  have hs : s < t.length := by omega
  obtain ⟨r, er, hm⟩ := get_lt hs
  have hix : ixD (.list (t.map rowD)) (.int (s : Int)) = ret (rowD r) := ix_l (by rw [List.getElem?_map, er]; rfl)
  have hcomp : ∀ ρ : Ev, 6 < ρ.length → compK (.ite (.cmp .is_ (.var 6) (.lit .none)) (.lit (.int 0)) (.var 6)) (.nm 6) (.lit (.bool true)) ρ (r.map optD) = ret (.list (r.map fun a => optD (zeroEl a))) := fun ρ hρ => by
    refine cmpMap (g := fun a => optD (zeroEl a)) fun a _ => ⟨(wipeE ρ [6]).set 6 (.val (optD a)), rfl, rfl, ?_⟩
    have e : ((wipeE ρ [6]).set 6 (.val (optD a)))[6]? = some (.val (optD a)) := by
      rw [List.getElem?_set_self]
      unfold wipeE
      rw [List.length_set]
      exact hρ
    generalize (wipeE ρ [6]).set 6 (.val (optD a)) = ρ' at e
    simp -implicitDefEqProofs only [wipeE, Tg.slots, k_nx, k_rt, e_nx, e_rt, br_t, br_f, dS_nil, dS_seq, dS_nm, own_list, dS_newL, dS_par, sl_f, sl_t, dS_ite, dS_ret, dS_expr, dS_app, ap_own, dS_aug, au_val, dS_frz, fr_own, asB_bool, asI_int, items_l, items_t, dn_nil, dn_cons, dn_star, lo_l, lo_d, vk, dn_var, ok_, dn_own, dn_lit, dn_glob, dn_bin, dn_neg, dn_not, dn_cmp, dn_chain, ch_t, ch_f, dn_and, dn_or, dn_ite, an_t, an_f, or_t, or_f, it_t, it_f, dn_tup, dn_list, tup0, tup1, tup2, tup3, lst0, lst1, lst2, lst3, dn_ix, dn_slice, dn_call, call1, call2, call3, call4, call5, rk, dn_callR, dn_b1, dn_b2, dn_isI, dn_isTL, dn_range1, dn_range2, dn_zip, b1_len_l, b1_len_t, b1_tup_l, b1_tup_t, b1_list_l, b1_list_t, b1_int, not_b, neg_i, cmp_lt, cmp_le, cmp_gt, cmp_ge, cmp_is, cmp_isnot, cmp_eqi, cmp_nei, bin_add, bin_sub, zip_t, zip_l, dn_comp, dS_for, bnd_ret, bnd_bnd, fn_eq, fnR_eq, List.map_cons, List.map_nil, List.cons_append, List.nil_append, List.append_nil, List.length_cons, List.length_nil, List.replicate_succ, List.replicate_zero, Nat.sub_self, Nat.reduceAdd, Nat.reduceSub, Nat.zero_add, List.set_cons_zero, List.set_cons_succ, List.getElem?_cons_zero, List.getElem?_cons_succ, e, none_opt]
    cases a with
    | none => rfl
    | some v =>
      simp -implicitDefEqProofs only [wipeE, Tg.slots, k_nx, k_rt, e_nx, e_rt, br_t, br_f, dS_nil, dS_seq, dS_nm, own_list, dS_newL, dS_par, sl_f, sl_t, dS_ite, dS_ret, dS_expr, dS_app, ap_own, dS_aug, au_val, dS_frz, fr_own, asB_bool, asI_int, items_l, items_t, dn_nil, dn_cons, dn_star, lo_l, lo_d, vk, dn_var, ok_, dn_own, dn_lit, dn_glob, dn_bin, dn_neg, dn_not, dn_cmp, dn_chain, ch_t, ch_f, dn_and, dn_or, dn_ite, an_t, an_f, or_t, or_f, it_t, it_f, dn_tup, dn_list, tup0, tup1, tup2, tup3, lst0, lst1, lst2, lst3, dn_ix, dn_slice, dn_call, call1, call2, call3, call4, call5, rk, dn_callR, dn_b1, dn_b2, dn_isI, dn_isTL, dn_range1, dn_range2, dn_zip, b1_len_l, b1_len_t, b1_tup_l, b1_tup_t, b1_list_l, b1_list_t, b1_int, not_b, neg_i, cmp_lt, cmp_le, cmp_gt, cmp_ge, cmp_is, cmp_isnot, cmp_eqi, cmp_nei, bin_add, bin_sub, zip_t, zip_l, dn_comp, dS_for, bnd_ret, bnd_bnd, fn_eq, fnR_eq, List.map_cons, List.map_nil, List.cons_append, List.nil_append, List.append_nil, List.length_cons, List.length_nil, List.replicate_succ, List.replicate_zero, Nat.sub_self, Nat.reduceAdd, Nat.reduceSub, Nat.zero_add, List.set_cons_zero, List.set_cons_succ, List.getElem?_cons_zero, List.getElem?_cons_succ, Option.isNone_some, e]
      rfl
  have fold : PyData.tuple (r.map fun a => optD (zeroEl a)) = rowD (r.map zeroEl) := by
    unfold rowD
    rw [List.map_map]
    rfl
  rw [setIx_ok (i := 3) (k := s) (l := t.map rowD) (d := rowD (r.map zeroEl)) (by
    simp -implicitDefEqProofs only [wipeE, Tg.slots, k_nx, k_rt, e_nx, e_rt, br_t, br_f, dS_nil, dS_seq, dS_nm, own_list, dS_newL, dS_par, sl_f, sl_t, dS_ite, dS_ret, dS_expr, dS_app, ap_own, dS_aug, au_val, dS_frz, fr_own, asB_bool, asI_int, items_l, items_t, dn_nil, dn_cons, dn_star, lo_l, lo_d, vk, dn_var, ok_, dn_own, dn_lit, dn_glob, dn_bin, dn_neg, dn_not, dn_cmp, dn_chain, ch_t, ch_f, dn_and, dn_or, dn_ite, an_t, an_f, or_t, or_f, it_t, it_f, dn_tup, dn_list, tup0, tup1, tup2, tup3, lst0, lst1, lst2, lst3, dn_ix, dn_slice, dn_call, call1, call2, call3, call4, call5, rk, dn_callR, dn_b1, dn_b2, dn_isI, dn_isTL, dn_range1, dn_range2, dn_zip, b1_len_l, b1_len_t, b1_tup_l, b1_tup_t, b1_list_l, b1_list_t, b1_int, not_b, neg_i, cmp_lt, cmp_le, cmp_gt, cmp_ge, cmp_is, cmp_isnot, cmp_eqi, cmp_nei, bin_add, bin_sub, zip_t, zip_l, dn_comp, dS_for, bnd_ret, bnd_bnd, fn_eq, fnR_eq, List.map_cons, List.map_nil, List.cons_append, List.nil_append, List.append_nil, List.length_cons, List.length_nil, List.replicate_succ, List.replicate_zero, Nat.sub_self, Nat.reduceAdd, Nat.reduceSub, Nat.zero_add, List.set_cons_zero, List.set_cons_succ, List.getElem?_cons_zero, List.getElem?_cons_succ, hix, items_row]
    rw [hcomp _ (by simp)]
    simp -implicitDefEqProofs only [wipeE, Tg.slots, k_nx, k_rt, e_nx, e_rt, br_t, br_f, dS_nil, dS_seq, dS_nm, own_list, dS_newL, dS_par, sl_f, sl_t, dS_ite, dS_ret, dS_expr, dS_app, ap_own, dS_aug, au_val, dS_frz, fr_own, asB_bool, asI_int, items_l, items_t, dn_nil, dn_cons, dn_star, lo_l, lo_d, vk, dn_var, ok_, dn_own, dn_lit, dn_glob, dn_bin, dn_neg, dn_not, dn_cmp, dn_chain, ch_t, ch_f, dn_and, dn_or, dn_ite, an_t, an_f, or_t, or_f, it_t, it_f, dn_tup, dn_list, tup0, tup1, tup2, tup3, lst0, lst1, lst2, lst3, dn_ix, dn_slice, dn_call, call1, call2, call3, call4, call5, rk, dn_callR, dn_b1, dn_b2, dn_isI, dn_isTL, dn_range1, dn_range2, dn_zip, b1_len_l, b1_len_t, b1_tup_l, b1_tup_t, b1_list_l, b1_list_t, b1_int, not_b, neg_i, cmp_lt, cmp_le, cmp_gt, cmp_ge, cmp_is, cmp_isnot, cmp_eqi, cmp_nei, bin_add, bin_sub, zip_t, zip_l, dn_comp, dS_for, bnd_ret, bnd_bnd, fn_eq, fnR_eq, List.map_cons, List.map_nil, List.cons_append, List.nil_append, List.append_nil, List.length_cons, List.length_nil, List.replicate_succ, List.replicate_zero, Nat.sub_self, Nat.reduceAdd, Nat.reduceSub, Nat.zero_add, List.set_cons_zero, List.set_cons_succ, List.getElem?_cons_zero, List.getElem?_cons_succ, fold]) rfl rfl (by rw [List.length_map]; exact hs)]
  have fold2 : (t.map rowD).set s (rowD (r.map zeroEl)) = (t.set s (r.map zeroEl)).map rowD := by rw [List.map_set]
  simp -implicitDefEqProofs only [wipeE, Tg.slots, k_nx, k_rt, e_nx, e_rt, br_t, br_f, dS_nil, dS_seq, dS_nm, own_list, dS_newL, dS_par, sl_f, sl_t, dS_ite, dS_ret, dS_expr, dS_app, ap_own, dS_aug, au_val, dS_frz, fr_own, asB_bool, asI_int, items_l, items_t, dn_nil, dn_cons, dn_star, lo_l, lo_d, vk, dn_var, ok_, dn_own, dn_lit, dn_glob, dn_bin, dn_neg, dn_not, dn_cmp, dn_chain, ch_t, ch_f, dn_and, dn_or, dn_ite, an_t, an_f, or_t, or_f, it_t, it_f, dn_tup, dn_list, tup0, tup1, tup2, tup3, lst0, lst1, lst2, lst3, dn_ix, dn_slice, dn_call, call1, call2, call3, call4, call5, rk, dn_callR, dn_b1, dn_b2, dn_isI, dn_isTL, dn_range1, dn_range2, dn_zip, b1_len_l, b1_len_t, b1_tup_l, b1_tup_t, b1_list_l, b1_list_t, b1_int, not_b, neg_i, cmp_lt, cmp_le, cmp_gt, cmp_ge, cmp_is, cmp_isnot, cmp_eqi, cmp_nei, bin_add, bin_sub, zip_t, zip_l, dn_comp, dS_for, bnd_ret, bnd_bnd, fn_eq, fnR_eq, List.map_cons, List.map_nil, List.cons_append, List.nil_append, List.append_nil, List.length_cons, List.length_nil, List.replicate_succ, List.replicate_zero, Nat.sub_self, Nat.reduceAdd, Nat.reduceSub, Nat.zero_add, List.set_cons_zero, List.set_cons_succ, List.getElem?_cons_zero, List.getElem?_cons_succ, fold2, fold_tab]
  refine .ret ⟨_, rfl, by rw [List.length_set, hl], fun q hq => ?_, r.map zeroEl, List.mem_set hs _, fun x hx => ?_⟩
  · rcases List.mem_or_eq_of_mem_set hq with hq | rfl
    · exact ht q hq
    · refine ⟨by rw [List.length_map]; exact (ht r hm).1, fun x hx => ?_⟩
      obtain ⟨a, ha, rfl⟩ := List.mem_map.mp hx
      cases a with
      | none => exact ⟨by decide, by decide⟩
      | some v => exact (ht r hm).2 _ ha
  · obtain ⟨a, ha, rfl⟩ := List.mem_map.mp hx
    intro e
    cases e
end Dn.DL
namespace Dn.DL
open PySem
def gridGo (size : Nat) : Nat → List (List La)
  | 0 => [[]]
  | n + 1 => (gridGo size n).flatMap fun told => (none :: (List.range (size + 1)).map fun (i : Nat) => some ((i : Int) - size)).map fun one => told ++ [one]
def gridOf (size wide : Nat) : List (List La) := (gridGo size wide).filter fun r => r.any fun a => a == some 0
theorem grid1 : f__law_grid [.int 1, .int 4] = ret (.list ((gridOf 4 1).map rowD)) := by
  funext w
  with_unfolding_all rfl
theorem grid2 : f__law_grid [.int 2, .int 4] = ret (.list ((gridOf 4 2).map rowD)) := by
  funext w
  with_unfolding_all rfl
theorem grid3 : f__law_grid [.int 3, .int 3] = ret (.list ((gridOf 3 3).map rowD)) := by
  funext w
  with_unfolding_all rfl
theorem grid_rows (size : Nat) : ∀ (n : Nat) (r : List La), r ∈ gridGo size n → r.length = n ∧ ∀ a ∈ r, ∀ v, a = some v → -(size : Int) ≤ v ∧ v ≤ 0
  | 0, r, h => by
    cases List.mem_singleton.mp h
    exact ⟨rfl, fun a ha => by cases ha⟩
  | n + 1, r, h => by
    obtain ⟨q, hq, h⟩ := List.mem_flatMap.mp h
    obtain ⟨a, ha, rfl⟩ := List.mem_map.mp h
    obtain ⟨h1, h2⟩ := grid_rows size n q hq
    refine ⟨by rw [List.length_append, h1]; rfl, fun b hb v e => ?_⟩
    rcases List.mem_append.mp hb with hb | hb
    · exact h2 b hb v e
    · cases List.mem_singleton.mp hb
      subst e
      rcases List.mem_cons.mp ha with ha | ha
      · cases ha
      · obtain ⟨i, hi, e⟩ := List.mem_map.mp ha
        have hi := List.mem_range.mp hi
        have e : (i : Int) - size = v := Option.some.inj e
        omega
end Dn.DL
namespace Dn.DL
open PySem
/-! residuation -/
theorem later_by (a b v : La) : isBy (later a b) v = true ↔ isBy a v = true ∧ isBy b v = true := by
  cases a <;> cases b <;> cases v <;> simp [later, isBy]
  split <;> omega
theorem latest_by (v : La) : ∀ l : List La, isBy (latestOf l) v = true ↔ ∀ a ∈ l, isBy a v = true
  | [] => ⟨(fun _ a h => by cases h), fun _ => rfl⟩
  | x :: l => by
    rw [latest_cons, later_by, latest_by v l]
    exact ⟨fun ⟨h1, h2⟩ a ha => by
      rcases List.mem_cons.mp ha with rfl | ha
      · exact h1
      · exact h2 a ha, fun h => ⟨h x (List.mem_cons_self ..), fun a ha => h a (List.mem_cons_of_mem _ ha)⟩⟩
theorem sum_by {r x : List La} {v : La} (h : r.length = x.length) : isBy (sumOf r x) v = true ↔ ∀ k, k < x.length → isBy (added (getL r k) (getL x k)) v = true := by
  unfold sumOf
  rw [latest_by]
  refine ⟨fun g k hk => ?_, fun g a ha => ?_⟩
  · refine g _ ?_
    rw [List.mem_iff_getElem?]
    refine ⟨k, ?_⟩
    rw [List.getElem?_zipWith, List.getElem?_eq_getElem (show k < r.length by omega), List.getElem?_eq_getElem hk]
    unfold getL
    rw [List.getElem?_eq_getElem (show k < r.length by omega), List.getElem?_eq_getElem hk]
    rfl
  · obtain ⟨k, hk⟩ := List.mem_iff_getElem?.mp ha
    have hk2 : k < x.length := by
      have := (List.getElem?_eq_some_iff.mp hk).1
      rw [List.length_zipWith] at this
      omega
    have e := g k hk2
    rw [List.getElem?_zipWith, List.getElem?_eq_getElem (show k < r.length by omega), List.getElem?_eq_getElem hk2] at hk
    unfold getL at e
    rw [List.getElem?_eq_getElem (show k < r.length by omega), List.getElem?_eq_getElem hk2] at e
    have hk : added (r[k]) (x[k]) = a := Option.some.inj hk
    rw [← hk]
    exact e
theorem leL_get : ∀ {a b : List La}, leL a b ↔ (a.length = b.length ∧ ∀ k, k < a.length → isBy (getL a k) (getL b k) = true)
  | [], [] => ⟨fun _ => ⟨rfl, fun k h => by cases h⟩, fun _ => trivial⟩
  | x :: a, y :: b => by
    show (isBy x y = true ∧ leL a b) ↔ _
    rw [leL_get (a := a) (b := b)]
    refine ⟨fun ⟨h1, h2, h3⟩ => ⟨by rw [List.length_cons, List.length_cons, h2], fun k hk => ?_⟩, fun ⟨h1, h2⟩ => ⟨h2 0 (Nat.succ_pos _), by simpa using h1, fun k hk => h2 (k + 1) (Nat.succ_lt_succ hk)⟩⟩
    cases k with
    | zero => exact h1
    | succ k => exact h3 k (Nat.lt_of_succ_lt_succ hk)
  | [], _ :: _ => ⟨fun h => h.elim, fun h => by have := h.1; cases this⟩
  | _ :: _, [] => ⟨fun h => h.elim, fun h => by have := h.1; cases this⟩
theorem lags_by {u : La} : ∀ (xs : List (La × La)), (∀ p ∈ xs, isBy (added p.1 u) p.2 = true) ↔ ∀ a ∈ lagsGo xs, isBy u a = true
  | [] => ⟨(fun _ a h => by cases h), (fun _ p h => by cases h)⟩
  | (none, q) :: r => by
    rw [show lagsGo ((none, q) :: r) = lagsGo r from rfl, ← lags_by r]
    exact ⟨fun h p hp => h p (List.mem_cons_of_mem _ hp), fun h p hp => by
      rcases List.mem_cons.mp hp with rfl | hp
      · cases u <;> rfl
      · exact h p hp⟩
  | (some a, none) :: r => by
    have e : isBy (added (some a) u) none = isBy u none := by cases u <;> rfl
    rw [show lagsGo ((some a, none) :: r) = none :: lagsGo r from rfl]
    simp only [List.forall_mem_cons, ← lags_by r, e]
  | (some a, some b) :: r => by
    have e : isBy (added (some a) u) (some b) = isBy u (some (b - a)) := by
      cases u with
      | none => rfl
      | some w =>
        show decide (a + w ≤ b) = decide (w ≤ b - a)
        congr 1
        exact propext ⟨fun h => by omega, fun h => by omega⟩
    rw [show lagsGo ((some a, some b) :: r) = some (b - a) :: lagsGo r from rfl]
    simp only [List.forall_mem_cons, ← lags_by r, e]
theorem gap_by {u : La} {xs : List (La × La)} (hn : lagsGo xs ≠ []) : isBy u (gapGo none xs) = true ↔ ∀ p ∈ xs, isBy (added p.1 u) p.2 = true := by
  rw [lags_by]
  by_cases h : none ∈ lagsGo xs
  · rw [gap_none h]
    refine ⟨fun hu a ha => ?_, fun g => g none h⟩
    cases u with
    | none => rfl
    | some w => cases hu
  · obtain ⟨g1, g2⟩ := gap_some (s := none) h
    cases e : gapGo none xs with
    | none => exact absurd (g2 e).2 hn
    | some v =>
      obtain ⟨m1, _, m3⟩ := g1 v e
      have hv : some v ∈ lagsGo xs := by
        rcases m1 with m1 | m1
        · cases m1
        · exact m1
      refine ⟨fun hu a ha => ?_, fun g => g _ hv⟩
      cases a with
      | none => exact absurd ha h
      | some b => exact isBy_trans hu (decide_eq_true (m3 b ha))
end Dn.DL
namespace Dn.DL
open PySem
theorem getL_apply {t : List (List La)} {x r : List La} {s : Nat} (h : t[s]? = some r) : getL (applyOf t x) s = sumOf r x := by
  unfold getL applyOf
  rw [List.getElem?_map, h]
  rfl
theorem getL_div {t : List (List La)} {wide k : Nat} {g : List La} (h : k < wide) : getL (dividedOf t wide g) k = gapOf (colOf t k) g := by
  unfold getL dividedOf turnedOf
  rw [List.getElem?_map, List.getElem?_map, List.getElem?_range h]
  rfl
theorem col_ne {t : List (List La)} {g : List La} {k : Nat} (hg : g.length = t.length) (hf : ∃ r ∈ t, getL r k ≠ none) : lagsGo ((colOf t k).zip g) ≠ [] := by
  obtain ⟨r, hm, hn⟩ := hf
  obtain ⟨s, hs, es⟩ := List.getElem_of_mem hm
  have er : t[s]? = some r := by rw [List.getElem?_eq_getElem hs, es]
  exact lags_ne ⟨_, List.mem_of_getElem? (zip_col (k := k) er (by omega)), hn⟩
theorem col_by {t : List (List La)} {g : List La} {k : Nat} {u : La} (hg : g.length = t.length) : (∀ p ∈ (colOf t k).zip g, isBy (added p.1 u) p.2 = true) ↔ ∀ (s : Nat) r, t[s]? = some r → isBy (added (getL r k) u) (getL g s) = true := by
  refine ⟨fun h s r hr => ?_, fun h p hp => ?_⟩
  · have hs : s < t.length := (List.getElem?_eq_some_iff.mp hr).1
    exact h _ (List.mem_of_getElem? (zip_col hr (by omega)))
  · obtain ⟨s, hs⟩ := List.mem_iff_getElem?.mp hp
    have hl : s < t.length := by
      have := (List.getElem?_eq_some_iff.mp hs).1
      unfold colOf at this
      rw [List.length_zip, List.length_map] at this
      omega
    have er : t[s]? = some t[s] := List.getElem?_eq_getElem hl
    rw [zip_col er (by omega)] at hs
    have e := Option.some.inj hs
    rw [← e]
    exact h s _ er
/-- x is kept by the table's goal as it is below what the goal leaves -/
theorem div_by {t : List (List La)} {wide : Nat} {x g : List La} (hr : ∀ r ∈ t, r.length = wide) (hx : x.length = wide) (hg : g.length = t.length) (hf : fullT t wide) : leL (applyOf t x) g ↔ leL x (dividedOf t wide g) := by
  rw [leL_get, leL_get, len_apply, div_len]
  refine ⟨fun ⟨_, h⟩ => ⟨hx, fun k hk => ?_⟩, fun ⟨_, h⟩ => ⟨hg.symm, fun s hs => ?_⟩⟩
  · rw [getL_div (by omega)]
    unfold gapOf
    rw [gap_by (col_ne hg (hf k (by omega))), col_by hg]
    intro s r er
    have hs : s < t.length := (List.getElem?_eq_some_iff.mp er).1
    have h2 := h s hs
    rw [getL_apply er] at h2
    exact (sum_by ((hr r (List.mem_of_getElem? er)).trans hx.symm)).mp h2 k hk
  · have er : t[s]? = some t[s] := List.getElem?_eq_getElem hs
    rw [getL_apply er, sum_by ((hr _ (List.getElem_mem hs)).trans hx.symm)]
    intro k hk
    have h2 := h k hk
    rw [getL_div (by omega)] at h2
    unfold gapOf at h2
    rw [gap_by (col_ne hg (hf k (by omega))), col_by hg] at h2
    exact h2 s _ er
theorem leL_anti : ∀ {a b : List La}, leL a b → leL b a → a = b
  | [], [], _, _ => rfl
  | x :: a, y :: b, h, g => by
    rw [leL_anti h.2 g.2]
    congr 1
    have h1 := h.1
    have h2 := g.1
    cases x <;> cases y <;> simp_all [isBy]
    omega
  | [], _ :: _, h, _ => h.elim
  | _ :: _, [], h, _ => h.elim
end Dn.DL
namespace Dn.DL
open PySem
/-! the meeting: at rest the two tables agree -/
theorem cut_fix {fl : Int} {a b : La} (h : cutEl fl (minOf a b) = a) : isBy a b = true := by
  cases a with
  | none => rfl
  | some v =>
    cases b with
    | none => cases h
    | some w =>
      have h : (if (if w < v then w else v) < fl then none else some (if w < v then w else v)) = some v := h
      show decide (v ≤ w) = true
      rw [decide_eq_true_iff]
      by_cases c : w < v
      · rw [if_pos c] at h
        by_cases d : w < fl
        · rw [if_pos d] at h
          cases h
        · rw [if_neg d] at h
          have := Option.some.inj h
          omega
      · omega
theorem next_fix {one other : List (List La)} {wide deep : Nat} {fl : Int} : ∀ {x d : List La}, x.length = d.length → cutRow fl (List.zipWith minOf x d) = x → leL x d
  | [], [], _, _ => trivial
  | a :: x, b :: d, h, e => by
    have e : cutEl fl (minOf a b) :: cutRow fl (List.zipWith minOf x d) = a :: x := e
    have e1 := List.cons.inj e
    exact ⟨cut_fix e1.1, next_fix (one := one) (other := other) (wide := wide) (deep := deep) (by simpa using h) e1.2⟩
  | [], _ :: _, h, _ => by cases h
  | _ :: _, [], h, _ => by cases h
theorem rest_agree {one other : List (List La)} {high wide deep : Nat} {fl : Int} {y : List La} (h1 : one.length = high) (h2 : other.length = high) (r1 : ∀ r ∈ one, r.length = wide) (r2 : ∀ r ∈ other, r.length = deep) (f1 : fullT one wide) (f2 : fullT other deep) (hy : y.length = wide)
    (h : nextT one other wide deep fl y = y) : applyOf one y = applyOf other (dividedOf other deep (applyOf one y)) := by
  have hg : (applyOf other (dividedOf other deep (applyOf one y))).length = one.length := by rw [len_apply, h1, h2]
  have hle : leL y (dividedOf one wide (applyOf other (dividedOf other deep (applyOf one y)))) := next_fix (one := one) (other := other) (wide := wide) (deep := deep) (by rw [div_len, hy]) h
  have a1 : leL (applyOf one y) (applyOf other (dividedOf other deep (applyOf one y))) := (div_by r1 hy hg f1).mpr hle
  have a2 : leL (applyOf other (dividedOf other deep (applyOf one y))) (applyOf one y) := (div_by r2 (div_len _ _ _) (by rw [len_apply, h1, h2]) f2).mpr (leL_refl _)
  exact leL_anti a1 a2
end Dn.DL
namespace Dn.DL
open PySem
/-! what keeps the two tables alike is below each turn -/
theorem added_mono {r a b : La} (h : isBy a b = true) : isBy (added r a) (added r b) = true := by
  cases r <;> cases a <;> cases b <;> simp_all [isBy, added]
theorem added_sum {r x : List La} {k : Nat} (h : r.length = x.length) (hk : k < x.length) : isBy (added (getL r k) (getL x k)) (sumOf r x) = true :=
  (sum_by (v := sumOf r x) h).mp (isBy_refl _) k hk
theorem sum_mono {r s x : List La} (hr : r.length = x.length) (h : leL s x) : isBy (sumOf r s) (sumOf r x) = true := by
  obtain ⟨h1, h2⟩ := leL_get.mp h
  rw [sum_by (hr.trans h1.symm)]
  intro k hk
  exact isBy_trans (added_mono (h2 k hk)) (added_sum hr (by omega))
theorem apply_mono {s x : List La} (h : leL s x) : ∀ {t : List (List La)}, (∀ r ∈ t, r.length = x.length) → leL (applyOf t s) (applyOf t x)
  | [], _ => trivial
  | r :: t, hr => ⟨sum_mono (hr r (List.mem_cons_self ..)) h, apply_mono h fun q hq => hr q (List.mem_cons_of_mem _ hq)⟩
theorem min_by {u a b : La} (h1 : isBy u a = true) (h2 : isBy u b = true) : isBy u (minOf a b) = true := by
  cases u <;> cases a <;> cases b <;> simp_all [isBy, minOf]
  split <;> omega
theorem zip_min_by : ∀ {s x d : List La}, leL s x → leL s d → leL s (List.zipWith minOf x d)
  | [], [], [], _, _ => trivial
  | _ :: _, _ :: _, _ :: _, h, g => ⟨min_by h.1 g.1, zip_min_by h.2 g.2⟩
  | [], _ :: _, _, h, _ => h.elim
  | _ :: _, [], _, h, _ => h.elim
  | [], [], _ :: _, _, g => g.elim
  | _ :: _, _ :: _, [], _, g => g.elim
theorem sol_turn {one other : List (List La)} {high wide deep : Nat} {s x w : List La} (h1 : one.length = high) (h2 : other.length = high) (r1 : ∀ r ∈ one, r.length = wide) (r2 : ∀ r ∈ other, r.length = deep) (f1 : fullT one wide) (f2 : fullT other deep)
    (hx : x.length = wide) (hw : w.length = deep) (hs : leL s x) (he : applyOf one s = applyOf other w) : leL s (loweredBy one wide (goalT one other deep x) x) := by
  have hsl := (leL_len hs).trans hx
  have a1 : leL (applyOf one s) (applyOf one x) := apply_mono hs fun r hr => (r1 r hr).trans hx.symm
  rw [he] at a1
  have a2 : leL w (dividedOf other deep (applyOf one x)) := (div_by r2 hw (by rw [len_apply, h1, h2]) f2).mp a1
  have a3 : leL (applyOf other w) (goalT one other deep x) := apply_mono a2 fun r hr => by rw [div_len]; exact r2 r hr
  rw [← he] at a3
  have a4 : leL s (dividedOf one wide (goalT one other deep x)) := (div_by r1 hsl (by unfold goalT; rw [len_apply, h1, h2]) f1).mp a3
  exact zip_min_by hs a4
end Dn.DL
/-! Plain: gaps made small. The values of a row of lags may be drawn together so that no gap is more than D, and what keeps rules of lags at most D apart keeps them still. -/
namespace Tight
def cov (D : Int) (vals : List Int) (t : Int) : Bool := vals.any fun u => decide (u < t ∧ t ≤ u + D)
/-- how many of v + 1 .. v + n are near above a value -/
def cc (D : Int) (vals : List Int) (v : Int) : Nat → Nat
  | 0 => 0
  | n + 1 => cc D vals v n + (if cov D vals (v + 1 + n) then 1 else 0)
variable {D : Int} {vals : List Int}
theorem cc_add (v : Int) (a : Nat) : ∀ b : Nat, cc D vals v (a + b) = cc D vals v a + cc D vals (v + a) b
  | 0 => rfl
  | b + 1 => by
    show cc D vals v (a + b) + (if cov D vals (v + 1 + ((a + b : Nat) : Int)) then 1 else 0) = cc D vals v a + (cc D vals (v + a) b + (if cov D vals (v + a + 1 + (b : Int)) then 1 else 0))
    rw [cc_add v a b, show v + 1 + ((a + b : Nat) : Int) = v + a + 1 + (b : Int) by omega]
    omega
theorem cov_of {u t : Int} (h : u ∈ vals) (h1 : u < t) (h2 : t ≤ u + D) : cov D vals t = true :=
  List.any_eq_true.mpr ⟨u, h, decide_eq_true ⟨h1, h2⟩⟩
/-- all of the first D above a value count -/
theorem cc_full {u : Int} (h : u ∈ vals) : ∀ n : Nat, (n : Int) ≤ D → cc D vals u n = n
  | 0, _ => rfl
  | n + 1, hn => by
    show cc D vals u n + (if cov D vals (u + 1 + (n : Int)) then 1 else 0) = n + 1
    rw [cc_full h n (by omega), cov_of (D := D) h (by omega) (by omega)]
    rfl
theorem cc_many {u : Int} (hD : 0 ≤ D) (h : u ∈ vals) {n : Nat} (hn : D ≤ n) : D ≤ cc D vals u n := by
  have e := cc_full (D := D) h D.toNat (by omega)
  have e2 := cc_add (D := D) (vals := vals) u D.toNat (n - D.toNat)
  rw [show D.toNat + (n - D.toNat) = n by omega] at e2
  omega
theorem cc_le_one {D v u : Int} (hD : 0 ≤ D) : ∀ n : Nat, (cc D [u] v n : Int) ≤ D ∧ (cc D [u] v n : Int) ≤ max 0 (v + n - u)
  | 0 => ⟨by show (0 : Int) ≤ D; exact hD, by show (0 : Int) ≤ _; omega⟩
  | n + 1 => by
    obtain ⟨h1, h2⟩ := cc_le_one (v := v) (u := u) hD n
    have e : cc D [u] v (n + 1) = cc D [u] v n + (if cov D [u] (v + 1 + (n : Int)) then 1 else 0) := rfl
    rw [e]
    by_cases hc : cov D [u] (v + 1 + (n : Int)) = true
    · rw [if_pos hc]
      simp [cov] at hc
      omega
    · rw [if_neg hc]
      omega
theorem cov_cons {u t : Int} : cov D (u :: vals) t = (cov D [u] t || cov D vals t) := by
  simp [cov]
theorem cc_cons (u v : Int) : ∀ n : Nat, cc D (u :: vals) v n ≤ cc D [u] v n + cc D vals v n
  | 0 => Nat.le_refl _
  | n + 1 => by
    have ih := cc_cons u v n
    show cc D (u :: vals) v n + (if cov D (u :: vals) (v + 1 + (n : Int)) then 1 else 0) ≤ (cc D [u] v n + (if cov D [u] (v + 1 + (n : Int)) then 1 else 0)) + (cc D vals v n + (if cov D vals (v + 1 + (n : Int)) then 1 else 0))
    rw [cov_cons]
    cases cov D [u] (v + 1 + (n : Int)) <;> cases cov D vals (v + 1 + (n : Int)) <;> simp <;> omega
theorem cc_le (hD : 0 ≤ D) (v : Int) (n : Nat) : ∀ vals : List Int, (cc D vals v n : Int) ≤ D * vals.length
  | [] => by
    have e : ∀ n, cc D [] v n = 0 := fun n => by
      induction n with
      | zero => rfl
      | succ n ih =>
        show cc D [] v n + 0 = 0
        rw [ih]
    rw [e]
    simp
  | u :: vals => by
    have h1 := cc_cons (D := D) (vals := vals) u v n
    have h2 := (cc_le_one (D := D) (v := v) (u := u) hD n).1
    have h3 := cc_le hD v n vals
    rw [List.length_cons, show ((vals.length + 1 : Nat) : Int) = (vals.length : Int) + 1 by omega, Int.mul_add]
    omega
/-- the values drawn together, all at most m -/
def phi (D M m : Int) (vals : List Int) (v : Int) : Int := m - cc D vals v (M - v).toNat
theorem phi_le {M m v : Int} : phi D M m vals v ≤ m := by unfold phi; omega
theorem phi_ge {M m v : Int} (hD : 0 ≤ D) : m - D * vals.length ≤ phi D M m vals v := by
  have := cc_le hD v (M - v).toNat vals
  unfold phi
  omega
theorem phi_diff {M m u v : Int} (h1 : u ≤ v) (h2 : v ≤ M) : phi D M m vals v - phi D M m vals u = cc D vals u (v - u).toNat := by
  have e := cc_add (D := D) (vals := vals) u (v - u).toNat (M - v).toNat
  rw [show (v - u).toNat + (M - v).toNat = (M - u).toNat by omega, show u + ((v - u).toNat : Int) = v by omega] at e
  unfold phi
  omega
/-- a rule u - v <= c with c at most D apart from 0 is kept -/
theorem phi_rule {M m u v c : Int} (hD : 0 ≤ D) (hu : u ∈ vals) (hv : v ∈ vals) (hM : u ≤ M ∧ v ≤ M) (hc : -D ≤ c ∧ c ≤ D) (h : u - v ≤ c) : phi D M m vals u - phi D M m vals v ≤ c := by
  by_cases huv : v ≤ u
  · have e := phi_diff (D := D) (vals := vals) (m := m) huv hM.1
    have e2 := cc_full (D := D) hv (u - v).toNat (by omega)
    omega
  · have e := phi_diff (D := D) (vals := vals) (m := m) (show u ≤ v by omega) hM.2
    by_cases hd : v - u ≤ D
    · have e2 := cc_full (D := D) hu (v - u).toNat (by omega)
      omega
    · have e2 := cc_many hD hu (n := (v - u).toNat) (by omega)
      omega
end Tight
namespace Dn.DL
open PySem
/-! a solution drawn together is one still -/
theorem latest_mem : ∀ {l : List La} {v : Int}, latestOf l = some v → some v ∈ l
  | [], v, h => by cases h
  | x :: l, v, h => by
    rw [latest_cons] at h
    cases x with
    | none => exact List.mem_cons_of_mem _ (latest_mem (by rw [← h]; rfl))
    | some a =>
      cases e : latestOf l with
      | none =>
        rw [e] at h
        have h : some a = some v := h
        rw [h]
        exact List.mem_cons_self ..
      | some b =>
        rw [e] at h
        have h : some (if b > a then b else a) = some v := h
        by_cases c : b > a
        · rw [if_pos c] at h
          exact List.mem_cons_of_mem _ (latest_mem (by rw [e, h]))
        · rw [if_neg c] at h
          rw [h]
          exact List.mem_cons_self ..
theorem sum_at {r x : List La} {v : Int} (h : r.length = x.length) (e : sumOf r x = some v) : ∃ k, k < x.length ∧ added (getL r k) (getL x k) = some v := by
  have hm := latest_mem e
  obtain ⟨k, hk⟩ := List.mem_iff_getElem?.mp hm
  have hk2 : k < x.length := by
    have := (List.getElem?_eq_some_iff.mp hk).1
    rw [List.length_zipWith] at this
    omega
  refine ⟨k, hk2, ?_⟩
  rw [List.getElem?_zipWith, List.getElem?_eq_getElem (show k < r.length by omega), List.getElem?_eq_getElem hk2] at hk
  unfold getL
  rw [List.getElem?_eq_getElem (show k < r.length by omega), List.getElem?_eq_getElem hk2]
  exact Option.some.inj hk
theorem getL_map {f : La → La} {x : List La} {k : Nat} (h : k < x.length) : getL (x.map f) k = f (getL x k) := by
  unfold getL
  rw [List.getElem?_map, List.getElem?_eq_getElem h]
  rfl
def phiL (D M m : Int) (vals : List Int) : La → La
  | some v => some (Tight.phi D M m vals v)
  | none => none
theorem phi_keep {far M m : Int} {vals : List Int} {a b s w : List La} (hfar : 0 ≤ far) (ha : a.length = s.length) (hb : b.length = w.length) (fa : ∀ k v, getL a k = some v → -far ≤ v ∧ v ≤ far) (fb : ∀ k v, getL b k = some v → -far ≤ v ∧ v ≤ far)
    (vs : ∀ k v, getL s k = some v → v ∈ vals ∧ v ≤ M) (vw : ∀ k v, getL w k = some v → v ∈ vals ∧ v ≤ M) (h : isBy (sumOf a s) (sumOf b w) = true) :
    isBy (sumOf a (s.map (phiL (2 * far) M m vals))) (sumOf b (w.map (phiL (2 * far) M m vals))) = true := by
  rw [sum_by (by rw [List.length_map]; exact ha)]
  intro k hk
  rw [List.length_map] at hk
  rw [getL_map hk]
  cases ea : getL a k with
  | none => cases getL s k <;> rfl
  | some α =>
    cases es : getL s k with
    | none => rfl
    | some u =>
      have h1 := (sum_by ha).mp h k hk
      rw [ea, es] at h1
      cases ew : sumOf b w with
      | none => rw [ew] at h1; cases h1
      | some t =>
        rw [ew] at h1
        obtain ⟨j, hj, ej⟩ := sum_at hb ew
        cases eb : getL b j with
        | none => rw [eb] at ej; cases ej
        | some β =>
          cases ev : getL w j with
          | none => rw [eb, ev] at ej; cases ej
          | some v =>
            rw [eb, ev] at ej
            have ej : β + v = t := Option.some.inj ej
            have h1 : α + u ≤ t := of_decide_eq_true h1
            obtain ⟨a1, a2⟩ := fa k α ea
            obtain ⟨b1, b2⟩ := fb j β eb
            have hr := Tight.phi_rule (D := 2 * far) (M := M) (m := m) (vals := vals) (u := u) (v := v) (c := β - α) (by omega) (vs k u es).1 (vw j v ev).1 ⟨(vs k u es).2, (vw j v ev).2⟩ ⟨by omega, by omega⟩ (by omega)
            have h2 := added_sum (r := b) (x := w.map (phiL (2 * far) M m vals)) (k := j) (by rw [List.length_map]; exact hb) (by rw [List.length_map]; exact hj)
            rw [getL_map hj, eb, ev] at h2
            refine isBy_trans ?_ h2
            show decide (α + Tight.phi (2 * far) M m vals u ≤ β + Tight.phi (2 * far) M m vals v) = true
            rw [decide_eq_true_iff]
            omega
end Dn.DL
namespace Dn.DL
open PySem
/-! no place that a solution needs is cut -/
/-- where t is not never, t is at least the floor and stays -/
def above (fl : Int) (t : List La) : Prop := ∀ k v, getL t k = some v → fl ≤ v
theorem cut_above {fl : Int} : ∀ {s t x : List La}, leL s x → leL t x → (∀ k v, getL s k = some v → ∃ u, getL t k = some u ∧ fl ≤ u) → leL s (cutRow fl x)
  | [], [], [], _, _, _ => trivial
  | a :: s, b :: t, c :: x, h, g, ha => by
    refine ⟨?_, cut_above h.2 g.2 fun k v e => ha (k + 1) v e⟩
    cases a with
    | none => rfl
    | some v =>
      obtain ⟨u, eu, hu⟩ := ha 0 v rfl
      have eb : b = some u := eu
      subst eb
      cases c with
      | none => exact h.1
      | some w =>
        have h2 : u ≤ w := of_decide_eq_true g.1
        show isBy (some v) (if w < fl then none else some w) = true
        rw [if_neg (by omega)]
        exact h.1
  | [], _ :: _, [], _, g, _ => g.elim
  | _ :: _, [], _ :: _, _, g, _ => g.elim
  | [], _, _ :: _, h, _, _ => h.elim
  | _ :: _, _, [], h, _, _ => h.elim
end Dn.DL
namespace Dn.DL
open PySem
theorem sol_chain {one other : List (List La)} {high wide deep : Nat} {fl : Int} {s t w z x0 : List La} {L : List (List La)} (h1 : one.length = high) (h2 : other.length = high) (r1 : ∀ r ∈ one, r.length = wide) (r2 : ∀ r ∈ other, r.length = deep) (f1 : fullT one wide) (f2 : fullT other deep)
    (hx : x0.length = wide) (hw : w.length = deep) (hz : z.length = deep) (hs : leL s x0) (ht : leL t x0) (es : applyOf one s = applyOf other w) (et : applyOf one t = applyOf other z)
    (ha : ∀ k v, getL s k = some v → ∃ u, getL t k = some u ∧ fl ≤ u) (hb : ∀ k v, getL t k = some v → fl ≤ v) (hc : chainT (nextT one other wide deep fl) x0 L) : ∀ (k : Nat) y, L[k]? = some y → leL s y ∧ leL t y
  | 0, y, e => by
    rw [hc.1] at e
    cases e
    exact ⟨hs, ht⟩
  | k + 1, y, e => by
    have hk : k + 1 < L.length := (List.getElem?_eq_some_iff.mp e).1
    have ea : L[k]? = some L[k] := List.getElem?_eq_getElem (by omega)
    obtain ⟨g1, g2⟩ := sol_chain h1 h2 r1 r2 f1 f2 hx hw hz hs ht es et ha hb hc k _ ea
    obtain ⟨ey, _⟩ := hc.2 k _ _ ea e
    have hl : (L[k]).length = wide := (leL_len g1).symm.trans ((leL_len hs).trans hx)
    have q1 := sol_turn h1 h2 r1 r2 f1 f2 hl hw g1 es
    have q2 := sol_turn h1 h2 r1 r2 f1 f2 hl hz g2 et
    rw [ey]
    exact ⟨cut_above q1 q2 ha, cut_above q2 q2 fun k v e => ⟨v, e, hb k v e⟩⟩
end Dn.DL
namespace Dn.DL
open PySem
theorem vals_mem {x : List La} {k : Nat} {v : Int} (h : getL x k = some v) : v ∈ valsOf x := by
  unfold valsOf
  have hk : k < x.length := by
    cases c : x[k]? with
    | none => unfold getL at h; rw [c] at h; cases h
    | some a => exact (List.getElem?_eq_some_iff.mp c).1
  have e : x[k] = some v := by
    unfold getL at h
    rw [List.getElem?_eq_getElem hk] at h
    exact h
  exact List.mem_map.mpr ⟨some v, List.mem_filter.mpr ⟨by rw [← e]; exact List.getElem_mem hk, rfl⟩, rfl⟩
theorem vals_len (x : List La) : (valsOf x).length ≤ x.length := by
  unfold valsOf
  rw [List.length_map]
  exact List.length_filter_le ..
theorem abs_le (i : Int) : -absI i ≤ i ∧ i ≤ absI i := by
  unfold absI
  split <;> omega
theorem far_row {r : List La} {k : Nat} {v : Int} (h : getL r k = some v) : absI v ≤ farRow r := by
  have hm := vals_mem h
  unfold valsOf at hm
  obtain ⟨a, ha, e⟩ := List.mem_map.mp hm
  refine max_ge (absRow r) 0 _ (List.mem_cons_of_mem _ (List.mem_map.mpr ⟨a, ha, ?_⟩))
  show absI (a.getD 0) = absI v
  rw [e]
theorem far_tab {t : List (List La)} {r : List La} (h : r ∈ t) : farRow r ≤ farTab t := max_ge (t.map farRow) 0 _ (List.mem_cons_of_mem _ (List.mem_map.mpr ⟨r, h, rfl⟩))
theorem far_nonneg (t : List (List La)) : 0 ≤ farTab t := max_ge (t.map farRow) 0 0 (List.mem_cons_self ..)
theorem far_lag {t : List (List La)} {r : List La} (h : r ∈ t) : ∀ k v, getL r k = some v → -farTab t ≤ v ∧ v ≤ farTab t := fun k v e => by
  have h1 := far_row e
  have h2 := far_tab h
  have h3 := abs_le v
  omega
theorem apply_eq {one other : List (List La)} {s w : List La} : ∀ {one other : List (List La)}, one.length = other.length → ((∀ (k : Nat) a b, one[k]? = some a → other[k]? = some b → isBy (sumOf a s) (sumOf b w) = true ∧ isBy (sumOf b w) (sumOf a s) = true) ↔ applyOf one s = applyOf other w)
  | [], [], _ => ⟨fun _ => rfl, fun _ k a b h => by cases h⟩
  | a :: one, b :: other, h => by
    have ih := apply_eq (one := one) (other := other) (s := s) (w := w) (by simpa using h)
    have cons : applyOf (a :: one) s = applyOf (b :: other) w ↔ sumOf a s = sumOf b w ∧ applyOf one s = applyOf other w := by
      show sumOf a s :: applyOf one s = sumOf b w :: applyOf other w ↔ _
      exact List.cons_eq_cons
    rw [cons, ← ih]
    refine ⟨fun g => ⟨?_, fun k x y e1 e2 => g (k + 1) x y e1 e2⟩, fun ⟨g1, g2⟩ k x y e1 e2 => ?_⟩
    · obtain ⟨q1, q2⟩ := g 0 a b rfl rfl
      have := leL_anti (a := [sumOf a s]) (b := [sumOf b w]) ⟨q1, trivial⟩ ⟨q2, trivial⟩
      exact (List.cons.inj this).1
    · cases k with
      | zero =>
        cases e1; cases e2
        rw [g1]
        exact ⟨isBy_refl _, isBy_refl _⟩
      | succ k => exact g2 k x y e1 e2
  | [], _ :: _, h => by cases h
  | _ :: _, [], h => by cases h
end Dn.DL
namespace Dn.DL
open PySem
theorem farT_left {one other : List (List La)} {r : List La} (h : r ∈ one) : ∀ k v, getL r k = some v → -farT one other ≤ v ∧ v ≤ farT one other := far_lag (t := one ++ other) (List.mem_append_left _ h)
theorem farT_right {one other : List (List La)} {r : List La} (h : r ∈ other) : ∀ k v, getL r k = some v → -farT one other ≤ v ∧ v ≤ farT one other := far_lag (t := one ++ other) (List.mem_append_right _ h)
/-- whatever is alike by the two tables and lies below the times lies below all turns -/
theorem sol_below {one other : List (List La)} {high wide deep : Nat} {s w x0 : List La} {L : List (List La)} (h1 : one.length = high) (h2 : other.length = high) (r1 : ∀ r ∈ one, r.length = wide) (r2 : ∀ r ∈ other, r.length = deep) (f1 : fullT one wide) (f2 : fullT other deep)
    (hx : x0.length = wide) (hw : w.length = deep) (hs : leL s x0) (es : applyOf one s = applyOf other w) (hc : chainT (nextT one other wide deep (floorT one other wide deep x0)) x0 L) : ∀ (k : Nat) y, L[k]? = some y → leL s y := by
  have hsl : s.length = wide := (leL_len hs).trans hx
  have hfar : 0 ≤ farT one other := far_nonneg _
  let vals := valsOf s ++ valsOf w
  let M := maxI (0 :: vals)
  let m := minI (valsOf x0)
  have hM : ∀ v ∈ vals, v ≤ M := fun v hv => max_ge vals 0 v (List.mem_cons_of_mem _ hv)
  have vs : ∀ k v, getL s k = some v → v ∈ vals ∧ v ≤ M := fun k v e => by
    have : v ∈ vals := List.mem_append_left _ (vals_mem e)
    exact ⟨this, hM v this⟩
  have vw : ∀ k v, getL w k = some v → v ∈ vals ∧ v ≤ M := fun k v e => by
    have : v ∈ vals := List.mem_append_right _ (vals_mem e)
    exact ⟨this, hM v this⟩
  let ph := phiL (2 * farT one other) M m vals
  have et : applyOf one (s.map ph) = applyOf other (w.map ph) := by
    have hol : one.length = other.length := h1.trans h2.symm
    rw [← apply_eq (one := []) (other := []) hol]
    intro k a b ea eb
    have ha := List.mem_of_getElem? ea
    have hb := List.mem_of_getElem? eb
    have q := (apply_eq (one := []) (other := []) (s := s) (w := w) hol).mpr es k a b ea eb
    exact ⟨phi_keep hfar ((r1 a ha).trans hsl.symm) ((r2 b hb).trans hw.symm) (farT_left ha) (farT_right hb) vs vw q.1, phi_keep hfar ((r2 b hb).trans hw.symm) ((r1 a ha).trans hsl.symm) (farT_right hb) (farT_left ha) vw vs q.2⟩
  have hlen : (vals.length : Int) ≤ (wide : Int) + deep := by
    have l1 := vals_len s
    have l2 := vals_len w
    have : vals.length = (valsOf s).length + (valsOf w).length := List.length_append ..
    omega
  have hlow : ∀ v, floorT one other wide deep x0 ≤ Tight.phi (2 * farT one other) M m vals v := fun v => by
    have q := Tight.phi_ge (D := 2 * farT one other) (M := M) (m := m) (vals := vals) (v := v) (by omega)
    have q2 : 2 * farT one other * (vals.length : Int) ≤ 2 * farT one other * ((wide : Int) + deep) := Int.mul_le_mul_of_nonneg_left hlen (by omega)
    have q3 : 2 * ((wide : Int) + (deep : Int)) * farT one other = 2 * farT one other * ((wide : Int) + deep) := by
      rw [Int.mul_assoc, Int.mul_assoc, Int.mul_comm ((wide : Int) + deep)]
    show minI (valsOf x0) - 2 * ((wide : Int) + (deep : Int)) * farT one other ≤ _
    rw [q3]
    have q4 : m = minI (valsOf x0) := rfl
    omega
  have ht : leL (s.map ph) x0 := by
    rw [leL_get]
    refine ⟨by rw [List.length_map]; exact leL_len hs, fun k hk => ?_⟩
    rw [List.length_map] at hk
    rw [getL_map hk]
    have hk2 := (leL_get.mp hs).2 k hk
    cases e : getL s k with
    | none => rfl
    | some v =>
      rw [e] at hk2
      cases e2 : getL x0 k with
      | none => rw [e2] at hk2; cases hk2
      | some u =>
        have q1 : Tight.phi (2 * farT one other) M m vals v ≤ m := Tight.phi_le
        have q2 : m ≤ u := by
          have hv := vals_mem e2
          show minI (valsOf x0) ≤ u
          cases ev : valsOf x0 with
          | nil => rw [ev] at hv; cases hv
          | cons a r => rw [ev] at hv; exact min_le r a u hv
        show decide (Tight.phi (2 * farT one other) M m vals v ≤ u) = true
        rw [decide_eq_true_iff]
        omega
  intro k y e
  refine (sol_chain h1 h2 r1 r2 f1 f2 hx hw (by rw [List.length_map]; exact hw) hs ht es et (fun k v e => ?_) (fun k v e => ?_) hc k y e).1
  · have hk : k < s.length := by
      cases c : s[k]? with
      | none => unfold getL at e; rw [c] at e; cases e
      | some a => exact (List.getElem?_eq_some_iff.mp c).1
    exact ⟨_, by rw [getL_map hk, e]; rfl, hlow v⟩
  · have hk : k < s.length := by
      cases c : (s.map ph)[k]? with
      | none => unfold getL at e; rw [c] at e; cases e
      | some a => have := (List.getElem?_eq_some_iff.mp c).1; rwa [List.length_map] at this
    rw [getL_map hk] at e
    cases e3 : getL s k with
    | none => rw [e3] at e; cases e
    | some u =>
      rw [e3] at e
      have e : Tight.phi (2 * farT one other) M m vals u = v := Option.some.inj e
      rw [← e]
      exact hlow u
end Dn.DL
namespace Dn.DL
open PySem
/-! members: what is at rest keeps all pairs, and what keeps all pairs is at rest -/
def keepsP (pairs : List (List La × List La)) (y : List La) : Prop := ∀ p ∈ pairs, isBy (sumOf p.1 y) (sumOf p.2 y) = true
theorem lowEl_fix {right lag v : La} : lowEl right lag v = v ↔ isBy (added lag v) right = true := by
  cases lag with
  | none => cases v <;> simp [lowEl, added, isBy]
  | some l =>
    cases v with
    | none => simp [lowEl, added, isBy]
    | some x =>
      cases right with
      | none => simp [lowEl, added, isBy]
      | some r =>
        simp only [lowEl, added, isBy, decide_eq_true_eq]
        constructor
        · intro h
          have h := Option.some.inj h
          split at h <;> omega
        · intro h
          rw [if_neg (by omega)]
theorem lower_fix {right : La} : ∀ {a y : List La}, a.length = y.length → (lower right a y = y ↔ isBy (sumOf a y) right = true) := by
  intro a y h
  rw [sum_by h]
  constructor
  · intro e k hk
    have e2 : getL (lower right a y) k = getL y k := by rw [e]
    unfold lower at e2
    rw [getL_zip (by omega) hk] at e2
    exact lowEl_fix.mp e2
  · intro g
    refine ext_getL (by rw [lower_len h]) fun k hk => ?_
    rw [lower_len h] at hk
    unfold lower
    rw [getL_zip (by omega) hk]
    exact lowEl_fix.mpr (g k hk)
theorem fold_fix {x : List La} : ∀ {pairs : List (List La × List La)} {f : List La}, (∀ p ∈ pairs, p.1.length = f.length) → pairs.foldl (fun f p => lower (sumOf p.2 x) p.1 f) f = f → ∀ p ∈ pairs, lower (sumOf p.2 x) p.1 f = f
  | [], f, _, _ => fun p hp => by cases hp
  | p :: pairs, f, h, e => by
    rw [List.foldl_cons] at e
    have h1 := h p (List.mem_cons_self ..)
    have h2 : ∀ q ∈ pairs, q.1.length = (lower (sumOf p.2 x) p.1 f).length := fun q hq => by rw [lower_len h1]; exact h q (List.mem_cons_of_mem _ hq)
    have l1 : leL (pairs.foldl (fun f p => lower (sumOf p.2 x) p.1 f) (lower (sumOf p.2 x) p.1 f)) (lower (sumOf p.2 x) p.1 f) := fold_le h2
    have e1 : lower (sumOf p.2 x) p.1 f = f := leL_anti (lower_le _ h1) (by rw [e] at l1; exact l1)
    rw [e1] at e
    intro q hq
    rcases List.mem_cons.mp hq with rfl | hq
    · exact e1
    · exact fold_fix (fun q hq => h q (List.mem_cons_of_mem _ hq)) e q hq
theorem fold_fix2 {x : List La} : ∀ {pairs : List (List La × List La)} {f : List La}, (∀ p ∈ pairs, lower (sumOf p.2 x) p.1 f = f) → pairs.foldl (fun f p => lower (sumOf p.2 x) p.1 f) f = f
  | [], f, _ => rfl
  | p :: pairs, f, h => by
    rw [List.foldl_cons, h p (List.mem_cons_self ..)]
    exact fold_fix2 fun q hq => h q (List.mem_cons_of_mem _ hq)
theorem cut_id {fl : Int} : ∀ {y : List La}, (∀ a ∈ y, okFl fl a) → cutRow fl y = y
  | [], _ => rfl
  | a :: y, h => by
    show cutEl fl a :: cutRow fl y = a :: y
    rw [cut_id fun b hb => h b (List.mem_cons_of_mem _ hb)]
    congr 1
    have h1 := h a (List.mem_cons_self ..)
    cases a with
    | none => rfl
    | some v =>
      have h1 : fl ≤ v := h1
      show (if v < fl then none else some v) = some v
      rw [if_neg (by omega)]
theorem rest_keeps {pairs : List (List La × List La)} {fl : Int} {y : List La} (hp : ∀ p ∈ pairs, p.1.length = y.length) (h : stepB pairs fl y = y) : keepsP pairs y := by
  have h1 : leL (stepB pairs fl y) (heldBack pairs y) := cut_le fl _
  rw [h] at h1
  have e : heldBack pairs y = y := leL_anti (held_le hp) h1
  intro p hq
  exact (lower_fix (hp p hq)).mp (fold_fix hp e p hq)
theorem keeps_rest {pairs : List (List La × List La)} {fl : Int} {y : List La} (hp : ∀ p ∈ pairs, p.1.length = y.length) (hf : ∀ a ∈ y, okFl fl a) (h : keepsP pairs y) : stepB pairs fl y = y := by
  have e : heldBack pairs y = y := fold_fix2 fun p hq => (lower_fix (hp p hq)).mpr (h p hq)
  unfold stepB
  rw [e, cut_id hf]
/-! the task of a meeting -/
def leftP (deep : Nat) (a : List La) : List La := a ++ List.replicate deep none
def rightP (wide : Nat) (b : List La) : List La := List.replicate wide none ++ b
def meetPairs (wide deep : Nat) (one other : List (List La)) : List (List La × List La) := (one.zip other).flatMap fun p => [(leftP deep p.1, rightP wide p.2), (rightP wide p.2, leftP deep p.1)]
theorem rep_none (k : Nat) : (List.replicate k [PyData.none]).flatten = (List.replicate k (none : La)).map optD := by
  induction k with
  | zero => rfl
  | succ k ih => rw [List.replicate_succ, List.flatten_cons, ih, List.replicate_succ]; rfl
theorem mul_none {k : Nat} (h : k ≤ 1000) : binD .mul (.tuple [PyData.none]) (.int (k : Int)) = ret (.tuple ((List.replicate k (none : La)).map optD)) := by
  have e : binD .mul (.tuple [PyData.none]) (.int (k : Int)) = (if 0 ≤ (k : Int) ∧ (k : Int) ≤ 1000 ∧ [PyData.none].length = 1 then ret (.tuple (List.replicate (k : Int).toNat [PyData.none]).flatten) else bad) := rfl
  rw [e, if_pos ⟨by omega, by omega, rfl⟩, show ((k : Int)).toNat = k by omega, rep_none]
abbrev meetB : S := .seq (.par 5 6 false false (.tup (.star (.var 3) (.star (.bin .mul (.tup (.cons (.lit .none) .nil)) (.b1 .len (.var 4))) .nil))) (.tup (.star (.bin .mul (.tup (.cons (.lit .none) .nil)) (.b1 .len (.var 3))) (.star (.var 4) .nil))))
  (.seq (.ext 2 (.list (.cons (.tup (.cons (.var 5) (.cons (.var 6) .nil))) (.cons (.tup (.cons (.var 6) (.cons (.var 5) .nil))) .nil))))
  .nil)
theorem meet_one {a b : List La} {wide deep : Nat} {s : List (List La × List La)} (ha : a.length = wide) (hb : b.length = deep) (hw : wide ≤ 6) (hd : deep ≤ 6) (hs : s.length ≤ 900) {x0 x1 x3 x4 x5 x6 : Sl} :
    ∃ y5 y6, forK (.tup (.tcons (.nm 3) (.tcons (.nm 4) .tnil))) meetB (PyData.tuple [rowD a, rowD b]) [x0, x1, .own (s.map pairD), x3, x4, x5, x6] = ret (.nx [x0, x1, .own ((s ++ [(leftP deep a, rightP wide b), (rightP wide b, leftP deep a)]).map pairD), .val (rowD a), .val (rowD b), y5, y6]) := by
  refine ⟨.val (rowD (leftP deep a)), .val (rowD (rightP wide b)), ?_⟩
  unfold forK
  show denS meetB [x0, x1, .own (s.map pairD), .val (rowD a), .val (rowD b), x5, x6] = _
  have l1 : (a ++ List.replicate deep none).length ≤ 12 := by rw [List.length_append, List.length_replicate]; omega
  have l2 : (List.replicate wide none ++ b).length ≤ 12 := by rw [List.length_append, List.length_replicate]; omega
  have k1 : ((a ++ List.replicate deep none).map optD).length ≤ sizeLine := by rw [List.length_map]; exact Nat.le_trans l1 (by decide)
  have k2 : ((List.replicate wide none ++ b).map optD).length ≤ sizeLine := by rw [List.length_map]; exact Nat.le_trans l2 (by decide)
  have e1 : PyData.tuple ((a ++ List.replicate deep none).map optD) = rowD (leftP deep a) := rfl
  have e2 : PyData.tuple ((List.replicate wide none ++ b).map optD) = rowD (rightP wide b) := rfl
  unfold meetB
  simp -implicitDefEqProofs only [wipeE, Tg.slots, k_nx, k_rt, e_nx, e_rt, br_t, br_f, dS_nil, dS_seq, dS_nm, own_list, dS_newL, dS_par, sl_f, sl_t, dS_ite, dS_ret, dS_expr, dS_app, ap_own, dS_aug, au_val, dS_frz, fr_own, asB_bool, asI_int, items_l, items_t, dn_nil, dn_cons, dn_star, lo_l, lo_d, vk, dn_var, ok_, dn_own, dn_lit, dn_glob, dn_bin, dn_neg, dn_not, dn_cmp, dn_chain, ch_t, ch_f, dn_and, dn_or, dn_ite, an_t, an_f, or_t, or_f, it_t, it_f, dn_tup, dn_list, tup0, tup1, tup2, tup3, lst0, lst1, lst2, lst3, dn_ix, dn_slice, dn_call, call1, call2, call3, call4, call5, rk, dn_callR, dn_b1, dn_b2, dn_isI, dn_isTL, dn_range1, dn_range2, dn_zip, b1_len_l, b1_len_t, b1_tup_l, b1_tup_t, b1_list_l, b1_list_t, b1_int, not_b, neg_i, cmp_lt, cmp_le, cmp_gt, cmp_ge, cmp_is, cmp_isnot, cmp_eqi, cmp_nei, bin_add, bin_sub, zip_t, zip_l, dn_comp, dS_for, bnd_ret, bnd_bnd, fn_eq, fnR_eq, List.map_cons, List.map_nil, List.cons_append, List.nil_append, List.append_nil, List.length_cons, List.length_nil, List.replicate_succ, List.replicate_zero, Nat.sub_self, Nat.reduceAdd, Nat.reduceSub, Nat.zero_add, List.set_cons_zero, List.set_cons_succ, List.getElem?_cons_zero, List.getElem?_cons_succ, len_row, ha, hb, mul_none (Nat.le_trans hw (show 6 ≤ 1000 by decide)), mul_none (Nat.le_trans hd (show 6 ≤ 1000 by decide)), items_row, ← List.map_append, tup_ok k1, tup_ok k2, e1, e2]
  have hl : (s.map pairD).length + 2 ≤ sizeLine := by rw [List.length_map]; exact Nat.le_trans (Nat.add_le_add_right hs 2) (by decide)
  have ext : ∀ (ρ : Ev) (e : E) (l m : List D), ρ[2]? = some (.own l) → den e ρ = ret (.list m) → l.length + m.length ≤ sizeLine → denS (.ext 2 e) ρ = (ret (O.nx (ρ.set 2 (.own (l ++ m)))) : M O) := fun ρ e l m h1 h2 h3 => by
    show (match ρ[2]? with
      | some (.own l) => bnd (den e ρ) fun d => match d with | .list m => if l.length + m.length ≤ sizeLine then (ret (O.nx (ρ.set 2 (.own (l ++ m)))) : M O) else bad | _ => bad
      | _ => bad) = _
    rw [h1]
    show bnd (den e ρ) _ = _
    rw [h2, bnd_ret]
    show (if l.length + m.length ≤ sizeLine then (ret (O.nx (ρ.set 2 (.own (l ++ m)))) : M O) else bad) = _
    rw [if_pos h3]
  rw [ext _ _ (s.map pairD) [pairD (leftP deep a, rightP wide b), pairD (rightP wide b, leftP deep a)] rfl (by simp -implicitDefEqProofs only [wipeE, Tg.slots, k_nx, k_rt, e_nx, e_rt, br_t, br_f, dS_nil, dS_seq, dS_nm, own_list, dS_newL, dS_par, sl_f, sl_t, dS_ite, dS_ret, dS_expr, dS_app, ap_own, dS_aug, au_val, dS_frz, fr_own, asB_bool, asI_int, items_l, items_t, dn_nil, dn_cons, dn_star, lo_l, lo_d, vk, dn_var, ok_, dn_own, dn_lit, dn_glob, dn_bin, dn_neg, dn_not, dn_cmp, dn_chain, ch_t, ch_f, dn_and, dn_or, dn_ite, an_t, an_f, or_t, or_f, it_t, it_f, dn_tup, dn_list, tup0, tup1, tup2, tup3, lst0, lst1, lst2, lst3, dn_ix, dn_slice, dn_call, call1, call2, call3, call4, call5, rk, dn_callR, dn_b1, dn_b2, dn_isI, dn_isTL, dn_range1, dn_range2, dn_zip, b1_len_l, b1_len_t, b1_tup_l, b1_tup_t, b1_list_l, b1_list_t, b1_int, not_b, neg_i, cmp_lt, cmp_le, cmp_gt, cmp_ge, cmp_is, cmp_isnot, cmp_eqi, cmp_nei, bin_add, bin_sub, zip_t, zip_l, dn_comp, dS_for, bnd_ret, bnd_bnd, fn_eq, fnR_eq, List.map_cons, List.map_nil, List.cons_append, List.nil_append, List.append_nil, List.length_cons, List.length_nil, List.replicate_succ, List.replicate_zero, Nat.sub_self, Nat.reduceAdd, Nat.reduceSub, Nat.zero_add, List.set_cons_zero, List.set_cons_succ, List.getElem?_cons_zero, List.getElem?_cons_succ]; rfl) hl]
  simp -implicitDefEqProofs only [wipeE, Tg.slots, k_nx, k_rt, e_nx, e_rt, br_t, br_f, dS_nil, dS_seq, dS_nm, own_list, dS_newL, dS_par, sl_f, sl_t, dS_ite, dS_ret, dS_expr, dS_app, ap_own, dS_aug, au_val, dS_frz, fr_own, asB_bool, asI_int, items_l, items_t, dn_nil, dn_cons, dn_star, lo_l, lo_d, vk, dn_var, ok_, dn_own, dn_lit, dn_glob, dn_bin, dn_neg, dn_not, dn_cmp, dn_chain, ch_t, ch_f, dn_and, dn_or, dn_ite, an_t, an_f, or_t, or_f, it_t, it_f, dn_tup, dn_list, tup0, tup1, tup2, tup3, lst0, lst1, lst2, lst3, dn_ix, dn_slice, dn_call, call1, call2, call3, call4, call5, rk, dn_callR, dn_b1, dn_b2, dn_isI, dn_isTL, dn_range1, dn_range2, dn_zip, b1_len_l, b1_len_t, b1_tup_l, b1_tup_t, b1_list_l, b1_list_t, b1_int, not_b, neg_i, cmp_lt, cmp_le, cmp_gt, cmp_ge, cmp_is, cmp_isnot, cmp_eqi, cmp_nei, bin_add, bin_sub, zip_t, zip_l, dn_comp, dS_for, bnd_ret, bnd_bnd, fn_eq, fnR_eq, List.map_cons, List.map_nil, List.cons_append, List.nil_append, List.append_nil, List.length_cons, List.length_nil, List.replicate_succ, List.replicate_zero, Nat.sub_self, Nat.reduceAdd, Nat.reduceSub, Nat.zero_add, List.set_cons_zero, List.set_cons_succ, List.getElem?_cons_zero, List.getElem?_cons_succ, List.map_append]
theorem m_meeting_of {one other : List (List La)} {high wide deep : Nat} (ha : tabOk one high wide) (hb : tabOk other high deep) : f_meeting_of [tabD one, tabD other] = ret (taskD (wide + deep) (meetPairs wide deep one other)) := by
  obtain ⟨r0, e0, l0⟩ := ha.head
  obtain ⟨r1, e1, l1⟩ := hb.head
  unfold f_meeting_of B_meeting_of
  have ez : zip2D (tabD one) (tabD other) = ret (.list ((one.zip other).map fun p => PyData.tuple [rowD p.1, rowD p.2])) := by
    unfold tabD
    rw [zip_t, zip_enc]
  simp -implicitDefEqProofs only [wipeE, Tg.slots, k_nx, k_rt, e_nx, e_rt, br_t, br_f, dS_nil, dS_seq, dS_nm, own_list, dS_newL, dS_par, sl_f, sl_t, dS_ite, dS_ret, dS_expr, dS_app, ap_own, dS_aug, au_val, dS_frz, fr_own, asB_bool, asI_int, items_l, items_t, dn_nil, dn_cons, dn_star, lo_l, lo_d, vk, dn_var, ok_, dn_own, dn_lit, dn_glob, dn_bin, dn_neg, dn_not, dn_cmp, dn_chain, ch_t, ch_f, dn_and, dn_or, dn_ite, an_t, an_f, or_t, or_f, it_t, it_f, dn_tup, dn_list, tup0, tup1, tup2, tup3, lst0, lst1, lst2, lst3, dn_ix, dn_slice, dn_call, call1, call2, call3, call4, call5, rk, dn_callR, dn_b1, dn_b2, dn_isI, dn_isTL, dn_range1, dn_range2, dn_zip, b1_len_l, b1_len_t, b1_tup_l, b1_tup_t, b1_list_l, b1_list_t, b1_int, not_b, neg_i, cmp_lt, cmp_le, cmp_gt, cmp_ge, cmp_is, cmp_isnot, cmp_eqi, cmp_nei, bin_add, bin_sub, zip_t, zip_l, dn_comp, dS_for, bnd_ret, bnd_bnd, fn_eq, fnR_eq, List.map_cons, List.map_nil, List.cons_append, List.nil_append, List.append_nil, List.length_cons, List.length_nil, List.replicate_succ, List.replicate_zero, Nat.sub_self, Nat.reduceAdd, Nat.reduceSub, Nat.zero_add, List.set_cons_zero, List.set_cons_succ, List.getElem?_cons_zero, List.getElem?_cons_succ, ez]
  have hz : (one.zip other).length ≤ 6 := by rw [List.length_zip, ha.1, hb.1, Nat.min_self]; exact ha.2.2.1
  obtain ⟨ρ', e, y3, y4, y5, y6, e2, hl⟩ := for_runK (n := (one.zip other).length) (k := 0) (t := .tup (.tcons (.nm 3) (.tcons (.nm 4) .tnil))) (B := meetB) (enc := fun p : List La × List La => PyData.tuple [rowD p.1, rowD p.2]) (xs := one.zip other) (s := ([] : List (List La × List La)))
    (ρ := [.val (tabD one), .val (tabD other), .own [], .no, .no, .no, .no])
    (fun k (s : List (List La × List La)) ρ => ∃ y3 y4 y5 y6, ρ = [.val (tabD one), .val (tabD other), .own (s.map pairD), y3, y4, y5, y6] ∧ s.length = 2 * k)
    (fun s p => s ++ [(leftP deep p.1, rightP wide p.2), (rightP wide p.2, leftP deep p.1)]) (Nat.zero_add _) ⟨_, _, _, _, rfl, rfl⟩ (fun k s p ρ hk hp ⟨y3, y4, y5, y6, e, hl⟩ => by
      subst e
      obtain ⟨m1, m2⟩ := List.of_mem_zip hp
      obtain ⟨z5, z6, e⟩ := meet_one (ha.2.2.2.2.2 _ m1).1 (hb.2.2.2.2.2 _ m2).1 ha.2.2.2.2.1 hb.2.2.2.2.1 (show s.length ≤ 900 by omega) (x0 := .val (tabD one)) (x1 := .val (tabD other)) (x3 := y3) (x4 := y4) (x5 := y5) (x6 := y6)
      exact ⟨_, e, _, _, z5, z6, rfl, by rw [List.length_append, hl]; simp; omega⟩)
  subst e2
  rw [e]
  have ef : ∀ (l : List (List La × List La)) (s : List (List La × List La)), l.foldl (fun s p => s ++ [(leftP deep p.1, rightP wide p.2), (rightP wide p.2, leftP deep p.1)]) s = s ++ l.flatMap fun p => [(leftP deep p.1, rightP wide p.2), (rightP wide p.2, leftP deep p.1)] := fun l => by
    induction l with
    | nil => intro s; simp
    | cons p l ih => intro s; rw [List.foldl_cons, ih, List.flatMap_cons, List.append_assoc]
  rw [ef]
  simp -implicitDefEqProofs only [wipeE, Tg.slots, k_nx, k_rt, e_nx, e_rt, br_t, br_f, dS_nil, dS_seq, dS_nm, own_list, dS_newL, dS_par, sl_f, sl_t, dS_ite, dS_ret, dS_expr, dS_app, ap_own, dS_aug, au_val, dS_frz, fr_own, asB_bool, asI_int, items_l, items_t, dn_nil, dn_cons, dn_star, lo_l, lo_d, vk, dn_var, ok_, dn_own, dn_lit, dn_glob, dn_bin, dn_neg, dn_not, dn_cmp, dn_chain, ch_t, ch_f, dn_and, dn_or, dn_ite, an_t, an_f, or_t, or_f, it_t, it_f, dn_tup, dn_list, tup0, tup1, tup2, tup3, lst0, lst1, lst2, lst3, dn_ix, dn_slice, dn_call, call1, call2, call3, call4, call5, rk, dn_callR, dn_b1, dn_b2, dn_isI, dn_isTL, dn_range1, dn_range2, dn_zip, b1_len_l, b1_len_t, b1_tup_l, b1_tup_t, b1_list_l, b1_list_t, b1_int, not_b, neg_i, cmp_lt, cmp_le, cmp_gt, cmp_ge, cmp_is, cmp_isnot, cmp_eqi, cmp_nei, bin_add, bin_sub, zip_t, zip_l, dn_comp, dS_for, bnd_ret, bnd_bnd, fn_eq, fnR_eq, List.map_cons, List.map_nil, List.cons_append, List.nil_append, List.append_nil, List.length_cons, List.length_nil, List.replicate_succ, List.replicate_zero, Nat.sub_self, Nat.reduceAdd, Nat.reduceSub, Nat.zero_add, List.set_cons_zero, List.set_cons_succ, List.getElem?_cons_zero, List.getElem?_cons_succ, ix_tab0 e0, ix_tab0 e1, len_row, l0, l1]
  rfl
theorem rep_get {k j : Nat} : getL (List.replicate k (none : La)) j = none := by
  unfold getL
  rw [List.getElem?_replicate]
  split <;> rfl
theorem latest_append (a b : List La) : latestOf (a ++ b) = later (latestOf a) (latestOf b) := by
  have h : ∀ v, isBy (latestOf (a ++ b)) v = true ↔ isBy (later (latestOf a) (latestOf b)) v = true := fun v => by
    rw [later_by, latest_by, latest_by, latest_by]
    exact ⟨fun h => ⟨fun x hx => h x (List.mem_append_left _ hx), fun x hx => h x (List.mem_append_right _ hx)⟩, fun ⟨h1, h2⟩ x hx => (List.mem_append.mp hx).elim (h1 x) (h2 x)⟩
  have := leL_anti (a := [latestOf (a ++ b)]) (b := [later (latestOf a) (latestOf b)]) ⟨(h _).mpr (isBy_refl _), trivial⟩ ⟨(h _).mp (isBy_refl _), trivial⟩
  exact (List.cons.inj this).1
theorem latest_nones {l : List La} (h : ∀ a ∈ l, a = none) : latestOf l = none := by
  have : isBy (latestOf l) none = true := (latest_by none l).mpr fun a ha => by rw [h a ha]; rfl
  cases e : latestOf l with
  | none => rfl
  | some v => rw [e] at this; cases this
theorem sum_left {a y z : List La} {deep : Nat} (ha : a.length = y.length) : sumOf (leftP deep a) (y ++ z) = sumOf a y := by
  unfold sumOf leftP
  rw [List.zipWith_append ha, latest_append]
  rw [latest_nones (l := List.zipWith added (List.replicate deep none) z) fun b hb => by
    obtain ⟨k, hk⟩ := List.mem_iff_getElem?.mp hb
    rw [List.getElem?_zipWith] at hk
    cases e1 : (List.replicate deep (none : La))[k]? with
    | none => rw [e1] at hk; cases hk
    | some u =>
      cases e2 : z[k]? with
      | none => rw [e1, e2] at hk; cases hk
      | some v =>
        rw [e1, e2] at hk
        have hu : u = none := List.eq_of_mem_replicate (List.mem_of_getElem? e1)
        subst hu
        exact (Option.some.inj hk).symm]
  exact later_none _
theorem sum_right {b y z : List La} {wide : Nat} (hy : y.length = wide) : sumOf (rightP wide b) (y ++ z) = sumOf b z := by
  unfold sumOf rightP
  rw [List.zipWith_append (by rw [List.length_replicate, hy]), latest_append]
  rw [latest_nones (l := List.zipWith added (List.replicate wide none) y) fun b hb => by
    obtain ⟨k, hk⟩ := List.mem_iff_getElem?.mp hb
    rw [List.getElem?_zipWith] at hk
    cases e1 : (List.replicate wide (none : La))[k]? with
    | none => rw [e1] at hk; cases hk
    | some u =>
      cases e2 : y[k]? with
      | none => rw [e1, e2] at hk; cases hk
      | some v =>
        rw [e1, e2] at hk
        have hu : u = none := List.eq_of_mem_replicate (List.mem_of_getElem? e1)
        subst hu
        exact (Option.some.inj hk).symm]
  rfl
/-- the members of the meeting's task: times of both with the same sums -/
theorem meet_keeps {one other : List (List La)} {wide deep : Nat} {y z : List La} (hl : one.length = other.length) (r1 : ∀ r ∈ one, r.length = wide) (hy : y.length = wide) : keepsP (meetPairs wide deep one other) (y ++ z) ↔ applyOf one y = applyOf other z := by
  rw [← apply_eq (one := []) (other := []) hl]
  unfold keepsP meetPairs
  constructor
  · intro h k a b ea eb
    have hm : (a, b) ∈ one.zip other := by
      refine List.mem_of_getElem? (i := k) ?_
      rw [List.zip, List.getElem?_zipWith, ea, eb]
    have ha : a.length = y.length := by rw [hy]; exact r1 a (List.mem_of_getElem? ea)
    have h1 := h (leftP deep a, rightP wide b) (List.mem_flatMap.mpr ⟨_, hm, by simp⟩)
    have h2 := h (rightP wide b, leftP deep a) (List.mem_flatMap.mpr ⟨_, hm, by simp⟩)
    rw [sum_left ha, sum_right hy] at h1 h2
    exact ⟨h1, h2⟩
  · intro h p hp
    obtain ⟨⟨a, b⟩, hm, hp⟩ := List.mem_flatMap.mp hp
    obtain ⟨k, hk⟩ := List.mem_iff_getElem?.mp hm
    rw [List.zip, List.getElem?_zipWith] at hk
    cases ea : one[k]? with
    | none => rw [ea] at hk; cases hk
    | some u =>
      cases eb : other[k]? with
      | none => rw [ea, eb] at hk; cases hk
      | some v =>
        rw [ea, eb] at hk
        have hk := Option.some.inj hk
        cases hk
        have ha : a.length = y.length := by rw [hy]; exact r1 a (List.mem_of_getElem? ea)
        obtain ⟨h1, h2⟩ := h k a b ea eb
        simp only [List.mem_cons, List.not_mem_nil, or_false] at hp
        rcases hp with rfl | rfl
        · rw [sum_left ha, sum_right hy]; exact h1
        · rw [sum_left ha, sum_right hy]; exact h2
end Dn.DL
namespace Dn.DL
open PySem
/-! the latest member below times -/
theorem lowEl_ge {right lag u v : La} (h1 : isBy u v = true) (h2 : isBy (added lag u) right = true) : isBy u (lowEl right lag v) = true := by
  cases lag with
  | none => cases v <;> exact h1
  | some l =>
    cases v with
    | none => exact h1
    | some x =>
      cases u with
      | none => rfl
      | some w =>
        cases right with
        | none => simp [added, isBy] at h2
        | some r =>
          simp only [lowEl, added, isBy, decide_eq_true_eq] at *
          split <;> omega
theorem lower_ge {right : La} {a q f : List La} (ha : a.length = q.length) (h1 : leL q f) (h2 : isBy (sumOf a q) right = true) : leL q (lower right a f) := by
  have hl := leL_len h1
  rw [leL_get, lower_len (ha.trans hl)]
  refine ⟨hl, fun k hk => ?_⟩
  unfold lower
  rw [getL_zip (by omega) (by omega)]
  exact lowEl_ge ((leL_get.mp h1).2 k hk) ((sum_by ha).mp h2 k hk)
theorem held_keeps {pairs : List (List La × List La)} {q z : List La} (hp : ∀ p ∈ pairs, p.1.length = q.length ∧ p.2.length = q.length) (hq : keepsP pairs q) (h : leL q z) : leL q (heldBack pairs z) := by
  have key : ∀ (l : List (List La × List La)) (f : List La), (∀ p ∈ l, p ∈ pairs) → leL q f → leL q (l.foldl (fun f p => lower (sumOf p.2 z) p.1 f) f) := fun l => by
    induction l with
    | nil => exact fun f _ h => h
    | cons p l ih =>
      intro f hm hf
      rw [List.foldl_cons]
      have hp1 := hm p (List.mem_cons_self ..)
      refine ih _ (fun r hr => hm r (List.mem_cons_of_mem _ hr)) (lower_ge (hp p hp1).1 hf ?_)
      exact isBy_trans (hq p hp1) (sum_mono ((hp p hp1).2.trans (leL_len h)) h)
  exact key pairs z (fun p hp => hp) h
theorem far_go {x : Int} : ∀ (pairs : List (List La × List La)) (far : Int), far ≤ pairs.foldl (fun far p => maxI (far :: pairFar p)) far ∧ ∀ p ∈ pairs, ∀ v ∈ pairFar p, v ≤ pairs.foldl (fun far p => maxI (far :: pairFar p)) far
  | [], far => ⟨Int.le_refl _, fun p hp => by cases hp⟩
  | p :: pairs, far => by
    obtain ⟨h1, h2⟩ := far_go (x := x) pairs (maxI (far :: pairFar p))
    rw [List.foldl_cons]
    have h3 := max_ge (pairFar p) far
    refine ⟨Int.le_trans (h3 far (List.mem_cons_self ..)) h1, fun q hq v hv => ?_⟩
    rcases List.mem_cons.mp hq with rfl | hq
    · exact Int.le_trans (h3 v (List.mem_cons_of_mem _ hv)) h1
    · exact h2 q hq v hv
theorem far_pos (pairs : List (List La × List La)) : 0 ≤ farOf pairs := (far_go (x := 0) pairs 0).1
theorem abs_of (v : Int) : v ≤ absI v ∧ -v ≤ absI v := by unfold absI; split <;> omega
theorem far_in_row {r : List La} {k : Nat} {v : Int} (h : getL r k = some v) : absI v ∈ absRow r := by
  obtain ⟨a, ha, e⟩ := List.mem_map.mp (show v ∈ (r.filter Option.isSome).map fun a => a.getD 0 from vals_mem h)
  exact List.mem_map.mpr ⟨a, ha, by rw [e]⟩
theorem absRow_append (a b : List La) : absRow (a ++ b) = absRow a ++ absRow b := by
  unfold absRow
  rw [List.filter_append, List.map_append]
theorem far_pair {pairs : List (List La × List La)} {p : List La × List La} (hp : p ∈ pairs) : (∀ k v, getL p.1 k = some v → -farOf pairs ≤ v ∧ v ≤ farOf pairs) ∧ ∀ k v, getL p.2 k = some v → -farOf pairs ≤ v ∧ v ≤ farOf pairs := by
  have h := (far_go (x := 0) pairs 0).2 p hp
  refine ⟨fun k v e => ?_, fun k v e => ?_⟩
  · have h1 := h (absI v) (by unfold pairFar; rw [absRow_append]; exact List.mem_append_left _ (far_in_row e))
    have h2 := abs_of v
    unfold farOf
    omega
  · have h1 := h (absI v) (by unfold pairFar; rw [absRow_append]; exact List.mem_append_right _ (far_in_row e))
    have h2 := abs_of v
    unfold farOf
    omega
theorem far_le {B : Int} : ∀ {pairs : List (List La × List La)} {far : Int}, far ≤ B → (∀ p ∈ pairs, (∀ v, some v ∈ p.1 → -B ≤ v ∧ v ≤ B) ∧ ∀ v, some v ∈ p.2 → -B ≤ v ∧ v ≤ B) → pairs.foldl (fun far p => maxI (far :: pairFar p)) far ≤ B
  | [], far, h, _ => h
  | p :: pairs, far, h, g => by
    rw [List.foldl_cons]
    refine far_le ?_ fun q hq => g q (List.mem_cons_of_mem _ hq)
    have sp : maxI (far :: pairFar p) ∈ far :: pairFar p := (maxI_spec (pairFar p) far).1
    rcases List.mem_cons.mp sp with e | e
    · rw [e]; exact h
    · obtain ⟨a, ha, e2⟩ := List.mem_map.mp e
      obtain ⟨ha1, ha2⟩ := List.mem_filter.mp ha
      rw [← e2]
      cases a with
      | none => cases ha2
      | some v =>
        have gp := g p (List.mem_cons_self ..)
        have : -B ≤ v ∧ v ≤ B := (List.mem_append.mp ha1).elim (gp.1 v) (gp.2 v)
        show (if v < 0 then -v else v) ≤ B
        split <;> omega
theorem both_leL : ∀ {a b x : List La}, leL a x → leL b x → leL (bothOf a b) x
  | [], [], [], _, _ => trivial
  | _ :: _, _ :: _, _ :: _, h, g => ⟨(later_by _ _ _).mpr ⟨h.1, g.1⟩, both_leL h.2 g.2⟩
  | [], _ :: _, _, h, g => by
    cases ‹List La› with
    | nil => exact g.elim
    | cons _ _ => exact h.elim
  | _ :: _, [], _, h, g => by
    cases ‹List La› with
    | nil => exact h.elim
    | cons _ _ => exact g.elim
  | [], [], _ :: _, h, _ => h.elim
  | _ :: _, _ :: _, [], h, _ => h.elim
theorem both_len2 (a b : List La) : (bothOf a b).length = min a.length b.length := by
  unfold bothOf
  rw [List.length_zipWith]
theorem later_ge (a b : La) : isBy a (later a b) = true ∧ isBy b (later a b) = true := (later_by a b (later a b)).mp (isBy_refl _)
theorem both_ge : ∀ {a b : List La}, a.length = b.length → leL a (bothOf a b) ∧ leL b (bothOf a b)
  | [], [], _ => ⟨trivial, trivial⟩
  | a :: as, b :: bs, h => by
    obtain ⟨h1, h2⟩ := both_ge (a := as) (b := bs) (by simpa using h)
    exact ⟨⟨(later_ge a b).1, h1⟩, ⟨(later_ge a b).2, h2⟩⟩
  | [], _ :: _, h => by cases h
  | _ :: _, [], h => by cases h
theorem later_mono {a b c d : La} (h : isBy a c = true) (g : isBy b d = true) : isBy (later a b) (later c d) = true :=
  (later_by _ _ _).mpr ⟨isBy_trans h (later_ge c d).1, isBy_trans g (later_ge c d).2⟩
theorem keeps_both {pairs : List (List La × List La)} {a b : List La} (hp : ∀ p ∈ pairs, p.1.length = a.length ∧ p.2.length = a.length) (hl : a.length = b.length) (ha : keepsP pairs a) (hb : keepsP pairs b) : keepsP pairs (bothOf a b) := fun p h => by
  rw [sum_both _ _ _ hl, sum_both _ _ _ hl]
  exact later_mono (ha p h) (hb p h)
theorem keeps_phi {pairs : List (List La × List La)} {q : List La} {M m : Int} (hp : ∀ p ∈ pairs, p.1.length = q.length ∧ p.2.length = q.length) (hq : keepsP pairs q) (hM : ∀ v ∈ valsOf q, v ≤ M) : keepsP pairs (q.map (phiL (2 * farOf pairs) M m (valsOf q))) := fun p h => by
  obtain ⟨f1, f2⟩ := far_pair h
  exact phi_keep (far_pos pairs) (hp p h).1 (hp p h).2 f1 f2 (fun k v e => ⟨vals_mem e, hM v (vals_mem e)⟩) (fun k v e => ⟨vals_mem e, hM v (vals_mem e)⟩) (hq p h)
structure Below (pairs : List (List La × List La)) (x y : List La) : Prop where
  le : leL y x
  keep : keepsP pairs y
  most : ∀ q, leL q x → keepsP pairs q → leL q y
theorem Below.uniq {pairs : List (List La × List La)} {x y z : List La} (h : Below pairs x y) (g : Below pairs x z) : y = z := leL_anti (g.most y h.le h.keep) (h.most z g.le g.keep)
theorem get_none {x : List La} (h : valsOf x = []) (k : Nat) : getL x k = none := by
  cases e : getL x k with
  | none => rfl
  | some v =>
    have := vals_mem e
    rw [h] at this
    cases this
theorem sum_nones {r x : List La} (hr : r.length = x.length) (h : valsOf x = []) : sumOf r x = none := by
  have : isBy (sumOf r x) none = true := (sum_by hr).mpr fun k hk => by
    rw [get_none h k]
    cases getL r k <;> rfl
  cases e : sumOf r x with
  | none => rfl
  | some v => rw [e] at this; cases this
theorem get_mem {x : List La} {k : Nat} {v : Int} (h : getL x k = some v) : some v ∈ x := by
  unfold getL at h
  cases e : x[k]? with
  | none => rw [e] at h; cases h
  | some a =>
    rw [e] at h
    have h : a = some v := h
    rw [← h]
    exact List.mem_of_getElem? e
theorem min_mem {x : List La} (h : valsOf x ≠ []) : some (minI (valsOf x)) ∈ x ∧ ∀ v, some v ∈ x → minI (valsOf x) ≤ v := by
  have hm : ∀ v, v ∈ valsOf x ↔ some v ∈ x := fun v => by
    unfold valsOf
    rw [List.mem_map]
    constructor
    · rintro ⟨a, ha, e⟩
      obtain ⟨h1, h2⟩ := List.mem_filter.mp ha
      cases a with
      | none => cases h2
      | some w => rw [← e]; exact h1
    · intro hv
      exact ⟨some v, List.mem_filter.mpr ⟨hv, rfl⟩, rfl⟩
  cases e : valsOf x with
  | nil => exact absurd e h
  | cons a r =>
    have sp := minI_spec r a
    rw [e] at hm
    exact ⟨(hm _).mp sp.1, fun v hv => sp.2 v ((hm v).mpr hv)⟩
/-- below_of gives the latest member below -/
theorem m_below {wide : Nat} {pairs : List (List La × List La)} {x : List La} {B : Int} (hx : x.length = wide) (h6 : wide ≤ 6) (hp : ∀ p ∈ pairs, p.1.length = wide ∧ p.2.length = wide) (hB : B ≤ 3000) (hf : farOf pairs ≤ B) (hb : ∀ v, some v ∈ x → -20000 ≤ v ∧ v ≤ 20000) :
    ∃ y, f_below_of [taskD wide pairs, rowD x] = ret (rowD y) ∧ Below pairs x y := by
  have w1000 : wide ≤ 1000 := Nat.le_trans h6 (by decide)
  have hp2 : ∀ p ∈ pairs, p.1.length = x.length ∧ p.2.length = x.length := fun p h => by rw [hx]; exact hp p h
  by_cases hv : valsOf x = []
  · refine ⟨x, ?_, leL_refl x, fun p h => by rw [sum_nones (hp2 p h).1 hv]; rfl, fun q h _ => h⟩
    have hemp : x.filter Option.isSome = [] := List.map_eq_nil_iff.mp hv
    unfold f_below_of B_below_of
    simp -implicitDefEqProofs only [wipeE, Tg.slots, k_nx, k_rt, e_nx, e_rt, br_t, br_f, dS_nil, dS_seq, dS_nm, own_list, dS_newL, dS_par, sl_f, sl_t, dS_ite, dS_ret, dS_expr, dS_app, ap_own, dS_aug, au_val, dS_frz, fr_own, asB_bool, asI_int, items_l, items_t, dn_nil, dn_cons, dn_star, lo_l, lo_d, vk, dn_var, ok_, dn_own, dn_lit, dn_glob, dn_bin, dn_neg, dn_not, dn_cmp, dn_chain, ch_t, ch_f, dn_and, dn_or, dn_ite, an_t, an_f, or_t, or_f, it_t, it_f, dn_tup, dn_list, tup0, tup1, tup2, tup3, lst0, lst1, lst2, lst3, dn_ix, dn_slice, dn_call, call1, call2, call3, call4, call5, rk, dn_callR, dn_b1, dn_b2, dn_isI, dn_isTL, dn_range1, dn_range2, dn_zip, b1_len_l, b1_len_t, b1_tup_l, b1_tup_t, b1_list_l, b1_list_t, b1_int, not_b, neg_i, cmp_lt, cmp_le, cmp_gt, cmp_ge, cmp_is, cmp_isnot, cmp_eqi, cmp_nei, bin_add, bin_sub, zip_t, zip_l, dn_comp, dS_for, bnd_ret, bnd_bnd, fn_eq, fnR_eq, List.map_cons, List.map_nil, List.cons_append, List.nil_append, List.append_nil, List.length_cons, List.length_nil, List.replicate_succ, List.replicate_zero, Nat.sub_self, Nat.reduceAdd, Nat.reduceSub, Nat.zero_add, List.set_cons_zero, List.set_cons_succ, List.getElem?_cons_zero, List.getElem?_cons_succ, items_row]
    rw [some_comp (by simp)]
    rw [hemp]
    simp -implicitDefEqProofs only [wipeE, Tg.slots, k_nx, k_rt, e_nx, e_rt, br_t, br_f, dS_nil, dS_seq, dS_nm, own_list, dS_newL, dS_par, sl_f, sl_t, dS_ite, dS_ret, dS_expr, dS_app, ap_own, dS_aug, au_val, dS_frz, fr_own, asB_bool, asI_int, items_l, items_t, dn_nil, dn_cons, dn_star, lo_l, lo_d, vk, dn_var, ok_, dn_own, dn_lit, dn_glob, dn_bin, dn_neg, dn_not, dn_cmp, dn_chain, ch_t, ch_f, dn_and, dn_or, dn_ite, an_t, an_f, or_t, or_f, it_t, it_f, dn_tup, dn_list, tup0, tup1, tup2, tup3, lst0, lst1, lst2, lst3, dn_ix, dn_slice, dn_call, call1, call2, call3, call4, call5, rk, dn_callR, dn_b1, dn_b2, dn_isI, dn_isTL, dn_range1, dn_range2, dn_zip, b1_len_l, b1_len_t, b1_tup_l, b1_tup_t, b1_list_l, b1_list_t, b1_int, not_b, neg_i, cmp_lt, cmp_le, cmp_gt, cmp_ge, cmp_is, cmp_isnot, cmp_eqi, cmp_nei, bin_add, bin_sub, zip_t, zip_l, dn_comp, dS_for, bnd_ret, bnd_bnd, fn_eq, fnR_eq, List.map_cons, List.map_nil, List.cons_append, List.nil_append, List.append_nil, List.length_cons, List.length_nil, List.replicate_succ, List.replicate_zero, Nat.sub_self, Nat.reduceAdd, Nat.reduceSub, Nat.zero_add, List.set_cons_zero, List.set_cons_succ, List.getElem?_cons_zero, List.getElem?_cons_succ, eq_nil]
  · obtain ⟨m1, m2⟩ := min_mem hv
    have hr1 : farOf pairs * 1 ≤ farOf pairs * ((wide : Int) + 1) := Int.mul_le_mul_of_nonneg_left (by omega) (far_pos pairs)
    have hr2 : farOf pairs * ((wide : Int) + 1) ≤ B * ((wide : Int) + 1) := Int.mul_le_mul_of_nonneg_right hf (by omega)
    have hr4 : B * ((wide : Int) + 1) ≤ 3000 * ((wide : Int) + 1) := Int.mul_le_mul_of_nonneg_right hB (by omega)
    have hr3 : reachOf wide pairs = 2 * (farOf pairs * ((wide : Int) + 1)) + 1 := by unfold reachOf; rw [Int.mul_assoc]
    have hfpos := far_pos pairs
    have bm := hb _ m1
    have hfl : ∀ a ∈ x, okFl (floorB wide pairs x) a := fun a ha => by
      cases a with
      | none => trivial
      | some v =>
        have := m2 v ha
        show minI (valsOf x) - reachOf wide pairs ≤ v
        omega
    have hmu : ∀ a ∈ x, emu (floorB wide pairs x) a ≤ 100000 := fun a ha => by
      cases a with
      | none => exact Nat.zero_le _
      | some v =>
        have b1 := hb v ha
        show (v - (minI (valsOf x) - reachOf wide pairs) + 1).toNat ≤ 100000
        omega
    obtain ⟨y, e, e2, hy, hq⟩ := m_below_of (wide := wide) (pairs := pairs) (by omega) w1000 (fun p h => ⟨(hp2 p h).1, by rw [(hp p h).2]; exact w1000⟩) hv hfl hmu
    have hyl := leL_len hy
    refine ⟨y, e, hy, rest_keeps (fun p h => by rw [hyl]; exact (hp2 p h).1) e2, fun q hqx hk => ?_⟩
    have hql := leL_len hqx
    let M := maxI (0 :: valsOf q)
    let m := minI (valsOf x)
    have hM : ∀ v ∈ valsOf q, v ≤ M := fun v hv => max_ge (valsOf q) 0 v (List.mem_cons_of_mem _ hv)
    let t := q.map (phiL (2 * farOf pairs) M m (valsOf q))
    have hpq : ∀ p ∈ pairs, p.1.length = q.length ∧ p.2.length = q.length := fun p h => by rw [hql]; exact hp2 p h
    have kt : keepsP pairs t := keeps_phi hpq hk hM
    have htl : t.length = q.length := List.length_map ..
    have tge : ∀ v, floorB wide pairs x ≤ Tight.phi (2 * farOf pairs) M m (valsOf q) v := fun v => by
      have q1 := Tight.phi_ge (D := 2 * farOf pairs) (M := M) (m := m) (vals := valsOf q) (v := v) (by omega)
      have hl := vals_len q
      have q2 : 2 * farOf pairs * ((valsOf q).length : Int) ≤ 2 * farOf pairs * ((wide : Int) + 1) := Int.mul_le_mul_of_nonneg_left (by omega) (by omega)
      have q3 : m = minI (valsOf x) := rfl
      show minI (valsOf x) - reachOf wide pairs ≤ _
      unfold reachOf
      omega
    have htx : leL t x := by
      rw [leL_get]
      refine ⟨by rw [htl, hql], fun k hk => ?_⟩
      rw [htl] at hk
      rw [getL_map hk]
      have hk2 := (leL_get.mp hqx).2 k hk
      cases e : getL q k with
      | none => rfl
      | some v =>
        rw [e] at hk2
        cases e2 : getL x k with
        | none => rw [e2] at hk2; cases hk2
        | some u =>
          have q1 : Tight.phi (2 * farOf pairs) M m (valsOf q) v ≤ m := Tight.phi_le
          have q2 : m ≤ u := m2 u (get_mem e2)
          show decide (Tight.phi (2 * farOf pairs) M m (valsOf q) v ≤ u) = true
          rw [decide_eq_true_iff]
          omega
    let b := bothOf q t
    have hbl : b.length = q.length := by
      show (bothOf q t).length = _
      rw [both_len2, htl, Nat.min_self]
    have kb : keepsP pairs b := keeps_both hpq htl.symm hk kt
    have hbx : leL b x := both_leL hqx htx
    obtain ⟨g1, g2⟩ := both_ge htl.symm
    have babove : ∀ k v, getL b k = some v → ∃ u, getL b k = some u ∧ floorB wide pairs x ≤ u := fun k v e => by
      refine ⟨v, e, ?_⟩
      have hk : k < q.length := by
        cases c : b[k]? with
        | none => unfold getL at e; rw [c] at e; cases e
        | some a => have := (List.getElem?_eq_some_iff.mp c).1; omega
      have h1 := (leL_get.mp g2).2 k (by omega)
      have e1 : getL t k = phiL (2 * farOf pairs) M m (valsOf q) (getL q k) := getL_map hk
      rw [e1] at h1
      have e : getL (bothOf q t) k = some v := e
      rw [e] at h1
      cases eq : getL q k with
      | none =>
        unfold bothOf at e
        rw [getL_zip hk (by omega), e1, eq] at e
        cases e
      | some w =>
        rw [eq] at h1
        have h1 : Tight.phi (2 * farOf pairs) M m (valsOf q) w ≤ v := of_decide_eq_true h1
        have := tge w
        omega
    have hby : leL b y := hq b (fun z hbz _ => by
      have h1 := held_keeps (fun p h => by rw [hbl]; exact hpq p h) kb hbz
      exact cut_above h1 h1 babove) hbx
    exact leL_trans g1 hby
end Dn.DL
namespace Dn.DL
open PySem
theorem cut_take {α : Type} {xs : List α} {k : Nat} (h : k ≤ xs.length) : cutL xs none (some (k : Int)) = xs.take k := by
  unfold cutL
  rw [HT.sIx_none, HT.sIx_nat, List.drop_zero, Nat.sub_zero, Nat.min_eq_left h]
theorem cut_drop {α : Type} {xs : List α} {k : Nat} (h : k ≤ xs.length) : cutL xs (some (k : Int)) none = xs.drop k := by
  unfold cutL
  rw [HT.sIx_none, HT.sIx_nat, Nat.min_eq_left h, List.take_of_length_le (by rw [List.length_drop]; exact Nat.le_refl _)]
theorem part_d : (partD (.dict []) : M (Option Int)) = ret none := rfl
theorem part_i {k : Int} : (partD (.int k) : M (Option Int)) = ret (some k) := rfl
theorem slice_take {r : List La} {k : Nat} (h : k ≤ r.length) : sliceD (rowD r) none (some (k : Int)) = ret (rowD (r.take k)) := by
  show ret (PyData.tuple (cutL (r.map optD) none (some (k : Int)))) = _
  rw [cut_take (by rw [List.length_map]; exact h), ← List.map_take]
  rfl
theorem slice_drop {r : List La} {k : Nat} (h : k ≤ r.length) : sliceD (rowD r) (some (k : Int)) none = ret (rowD (r.drop k)) := by
  show ret (PyData.tuple (cutL (r.map optD) (some (k : Int)) none)) = _
  rw [cut_drop (by rw [List.length_map]; exact h), ← List.map_drop]
  rfl
theorem meet_lens {one other : List (List La)} {wide deep : Nat} (r1 : ∀ r ∈ one, r.length = wide) (r2 : ∀ r ∈ other, r.length = deep) : ∀ p ∈ meetPairs wide deep one other, p.1.length = wide + deep ∧ p.2.length = wide + deep := fun p hp => by
  obtain ⟨⟨a, b⟩, hm, hp⟩ := List.mem_flatMap.mp hp
  obtain ⟨m1, m2⟩ := List.of_mem_zip hm
  have e1 := r1 a m1
  have e2 := r2 b m2
  simp only [List.mem_cons, List.not_mem_nil, or_false] at hp
  rcases hp with rfl | rfl <;> simp [leftP, rightP, e1, e2]
theorem meet_far {one other : List (List La)} {wide deep : Nat} {B : Int} (h0 : 0 ≤ B) (b1 : ∀ r ∈ one, ∀ v, some v ∈ r → -B ≤ v ∧ v ≤ B) (b2 : ∀ r ∈ other, ∀ v, some v ∈ r → -B ≤ v ∧ v ≤ B) : farOf (meetPairs wide deep one other) ≤ B := by
  refine far_le h0 fun p hp => ?_
  obtain ⟨⟨a, b⟩, hm, hp⟩ := List.mem_flatMap.mp hp
  obtain ⟨m1, m2⟩ := List.of_mem_zip hm
  have k1 : ∀ v, some v ∈ leftP deep a → -B ≤ v ∧ v ≤ B := fun v hv => (List.mem_append.mp hv).elim (b1 a m1 v) fun h => by cases List.eq_of_mem_replicate h
  have k2 : ∀ v, some v ∈ rightP wide b → -B ≤ v ∧ v ≤ B := fun v hv => (List.mem_append.mp hv).elim (fun h => by cases List.eq_of_mem_replicate h) (b2 b m2 v)
  simp only [List.mem_cons, List.not_mem_nil, or_false] at hp
  rcases hp with rfl | rfl
  · exact ⟨k1, k2⟩
  · exact ⟨k2, k1⟩
theorem row_bound {r : List La} {wide : Nat} (h : rowOk r wide) : ∀ v, some v ∈ r → -1000 ≤ v ∧ v ≤ 1000 := fun v hv => of_decide_eq_true (h.2 _ hv)
theorem m_meeting_below {one other : List (List La)} {high wide deep : Nat} {x z : List La} (ha : tabOk one high wide) (hb : tabOk other high deep) (hs : wide + deep ≤ 6) (hx : rowOk x wide) (hz : rowOk z deep) (fa : fullT one wide) (fb : fullT other deep) :
    ∃ y, f_meeting_below [tabD one, tabD other, rowD x, rowD z] = ret (.tuple [rowD (y.take wide), rowD (y.drop wide)]) ∧ Below (meetPairs wide deep one other) (x ++ z) y := by
  obtain ⟨r0, e0, l0⟩ := ha.head
  obtain ⟨r1, e1, l1⟩ := hb.head
  have hl : (x ++ z).length = wide + deep := by rw [List.length_append, hx.1, hz.1]
  obtain ⟨y, e, hy⟩ := m_below (wide := wide + deep) (pairs := meetPairs wide deep one other) (B := 1000) hl hs (meet_lens (fun r h => (ha.2.2.2.2.2 r h).1) fun r h => (hb.2.2.2.2.2 r h).1) (by omega)
    (meet_far (by omega) (fun r h => row_bound (ha.2.2.2.2.2 r h)) fun r h => row_bound (hb.2.2.2.2.2 r h))
    (fun v hv => by
      have := (List.mem_append.mp hv).elim (row_bound hx v) (row_bound hz v)
      omega)
  refine ⟨y, ?_, hy⟩
  have hyl := (leL_len hy.le).trans hl
  have hrow : ((x ++ z).map optD).length ≤ sizeLine := by rw [List.length_map, hl]; exact Nat.le_trans hs (by decide)
  have er : PyData.tuple ((x ++ z).map optD) = rowD (x ++ z) := rfl
  unfold f_meeting_below B_meeting_below
  simp -implicitDefEqProofs only [wipeE, Tg.slots, k_nx, k_rt, e_nx, e_rt, br_t, br_f, dS_nil, dS_seq, dS_nm, own_list, dS_newL, dS_par, sl_f, sl_t, dS_ite, dS_ret, dS_expr, dS_app, ap_own, dS_aug, au_val, dS_frz, fr_own, asB_bool, asI_int, items_l, items_t, dn_nil, dn_cons, dn_star, lo_l, lo_d, vk, dn_var, ok_, dn_own, dn_lit, dn_glob, dn_bin, dn_neg, dn_not, dn_cmp, dn_chain, ch_t, ch_f, dn_and, dn_or, dn_ite, an_t, an_f, or_t, or_f, it_t, it_f, dn_tup, dn_list, tup0, tup1, tup2, tup3, lst0, lst1, lst2, lst3, dn_ix, dn_slice, dn_call, call1, call2, call3, call4, call5, rk, dn_callR, dn_b1, dn_b2, dn_isI, dn_isTL, dn_range1, dn_range2, dn_zip, b1_len_l, b1_len_t, b1_tup_l, b1_tup_t, b1_list_l, b1_list_t, b1_int, not_b, neg_i, cmp_lt, cmp_le, cmp_gt, cmp_ge, cmp_is, cmp_isnot, cmp_eqi, cmp_nei, bin_add, bin_sub, zip_t, zip_l, dn_comp, dS_for, bnd_ret, bnd_bnd, fn_eq, fnR_eq, List.map_cons, List.map_nil, List.cons_append, List.nil_append, List.append_nil, List.length_cons, List.length_nil, List.replicate_succ, List.replicate_zero, Nat.sub_self, Nat.reduceAdd, Nat.reduceSub, Nat.zero_add, List.set_cons_zero, List.set_cons_succ, List.getElem?_cons_zero, List.getElem?_cons_succ, m_need_meeting ha hb hs hx, ix_tab0 e0, ix_tab0 e1, len_row, l0, l1, m_need_wide hz, m_need_full ha fa, m_need_full hb fb, m_meeting_of ha hb, items_row, ← List.map_append, tup_ok hrow, er, e, part_d, part_i, slice_take (show wide ≤ y.length by omega), slice_drop (show wide ≤ y.length by omega)]
/-- the turns of times that are all never -/
theorem m_turns_none {one other : List (List La)} {high wide deep : Nat} {x : List La} (ha : tabOk one high wide) (hb : tabOk other high deep) (hs : wide + deep ≤ 6) (hx : rowOk x wide)
    (fa : fullT one wide) (fb : fullT other deep) (hv : valsOf x = []) : f_turns [tabD one, tabD other, rowD x] = ret (.list (([] ++ [x]).map rowD)) := by
  have hemp : x.filter Option.isSome = [] := List.map_eq_nil_iff.mp hv
  unfold f_turns B_turns
  simp -implicitDefEqProofs only [wipeE, Tg.slots, k_nx, k_rt, e_nx, e_rt, br_t, br_f, dS_nil, dS_seq, dS_nm, own_list, dS_newL, dS_par, sl_f, sl_t, dS_ite, dS_ret, dS_expr, dS_app, ap_own, dS_aug, au_val, dS_frz, fr_own, asB_bool, asI_int, items_l, items_t, dn_nil, dn_cons, dn_star, lo_l, lo_d, vk, dn_var, ok_, dn_own, dn_lit, dn_glob, dn_bin, dn_neg, dn_not, dn_cmp, dn_chain, ch_t, ch_f, dn_and, dn_or, dn_ite, an_t, an_f, or_t, or_f, it_t, it_f, dn_tup, dn_list, tup0, tup1, tup2, tup3, lst0, lst1, lst2, lst3, dn_ix, dn_slice, dn_call, call1, call2, call3, call4, call5, rk, dn_callR, dn_b1, dn_b2, dn_isI, dn_isTL, dn_range1, dn_range2, dn_zip, b1_len_l, b1_len_t, b1_tup_l, b1_tup_t, b1_list_l, b1_list_t, b1_int, not_b, neg_i, cmp_lt, cmp_le, cmp_gt, cmp_ge, cmp_is, cmp_isnot, cmp_eqi, cmp_nei, bin_add, bin_sub, zip_t, zip_l, dn_comp, dS_for, bnd_ret, bnd_bnd, fn_eq, fnR_eq, List.map_cons, List.map_nil, List.cons_append, List.nil_append, List.append_nil, List.length_cons, List.length_nil, List.replicate_succ, List.replicate_zero, Nat.sub_self, Nat.reduceAdd, Nat.reduceSub, Nat.zero_add, List.set_cons_zero, List.set_cons_succ, List.getElem?_cons_zero, List.getElem?_cons_succ, m_need_meeting ha hb hs hx, m_need_full ha fa, m_need_full hb fb, items_row]
  rw [some_comp (by simp)]
  rw [hemp]
  simp -implicitDefEqProofs only [wipeE, Tg.slots, k_nx, k_rt, e_nx, e_rt, br_t, br_f, dS_nil, dS_seq, dS_nm, own_list, dS_newL, dS_par, sl_f, sl_t, dS_ite, dS_ret, dS_expr, dS_app, ap_own, dS_aug, au_val, dS_frz, fr_own, asB_bool, asI_int, items_l, items_t, dn_nil, dn_cons, dn_star, lo_l, lo_d, vk, dn_var, ok_, dn_own, dn_lit, dn_glob, dn_bin, dn_neg, dn_not, dn_cmp, dn_chain, ch_t, ch_f, dn_and, dn_or, dn_ite, an_t, an_f, or_t, or_f, it_t, it_f, dn_tup, dn_list, tup0, tup1, tup2, tup3, lst0, lst1, lst2, lst3, dn_ix, dn_slice, dn_call, call1, call2, call3, call4, call5, rk, dn_callR, dn_b1, dn_b2, dn_isI, dn_isTL, dn_range1, dn_range2, dn_zip, b1_len_l, b1_len_t, b1_tup_l, b1_tup_t, b1_list_l, b1_list_t, b1_int, not_b, neg_i, cmp_lt, cmp_le, cmp_gt, cmp_ge, cmp_is, cmp_isnot, cmp_eqi, cmp_nei, bin_add, bin_sub, zip_t, zip_l, dn_comp, dS_for, bnd_ret, bnd_bnd, fn_eq, fnR_eq, List.map_cons, List.map_nil, List.cons_append, List.nil_append, List.append_nil, List.length_cons, List.length_nil, List.replicate_succ, List.replicate_zero, Nat.sub_self, Nat.reduceAdd, Nat.reduceSub, Nat.zero_add, List.set_cons_zero, List.set_cons_succ, List.getElem?_cons_zero, List.getElem?_cons_succ, eq_nil]
theorem none_turn {t : List (List La)} {wide : Nat} {g x : List La} {fl : Int} (hx : x.length = wide) (hv : valsOf x = []) : cutRow fl (loweredBy t wide g x) = x := by
  have l1 : (loweredBy t wide g x).length = wide := by
    unfold loweredBy
    rw [List.length_zipWith, hx, div_len, Nat.min_self]
  have hn : ∀ k, getL x k = none := get_none hv
  refine ext_getL (by unfold cutRow; rw [List.length_map, l1, hx]) fun k hk => ?_
  unfold cutRow at hk ⊢
  rw [List.length_map, l1] at hk
  rw [getL_map (by omega), hn k]
  unfold loweredBy
  rw [getL_zip (by omega) (by rw [div_len]; exact hk), hn k]
  cases getL (dividedOf t wide g) k <;> rfl
/-- what the turns give, and what the law works out for them -/
theorem turns_any {one other : List (List La)} {high wide deep : Nat} {x : List La} (ha : tabOk one high wide) (hb : tabOk other high deep) (hs : wide + deep ≤ 6) (hx : rowOk x wide)
    (fa : fullT one wide) (fb : fullT other deep) (fl : Int) (hF : valsOf x ≠ [] → fl = floorT one other wide deep x) :
    ∃ pre y, f_turns [tabD one, tabD other, rowD x] = ret (.list ((pre ++ [y]).map rowD)) ∧ nextT one other wide deep fl y = y ∧ leL y x ∧ chainT (nextT one other wide deep fl) x (pre ++ [y]) ∧ pre.length < 900000 ∧
      ∀ s w, w.length = deep → leL s x → applyOf one s = applyOf other w → leL s y := by
  by_cases hv : valsOf x = []
  · refine ⟨[], x, m_turns_none ha hb hs hx fa fb hv, none_turn hx.1 hv, leL_refl x, ⟨rfl, fun k a b h1 h2 => by simp at h2⟩, by decide, fun s w _ h _ => h⟩
  · obtain ⟨m1, m2⟩ := min_mem hv
    have hF := hF hv
    subst hF
    have hfar0 : 0 ≤ farT one other := far_nonneg _
    have hfar1 : farT one other ≤ 1000 := by
      have sp := (maxI_spec ((one ++ other).map farRow) 0).1
      have sp : farT one other ∈ 0 :: (one ++ other).map farRow := sp
      rcases List.mem_cons.mp sp with e | e
      · omega
      · obtain ⟨r, hr, e⟩ := List.mem_map.mp e
        rw [← e]
        have sp2 : farRow r ∈ 0 :: absRow r := (maxI_spec (absRow r) 0).1
        rcases List.mem_cons.mp sp2 with e2 | e2
        · omega
        · obtain ⟨a, ha1, e2⟩ := List.mem_map.mp e2
          obtain ⟨ha1, ha2⟩ := List.mem_filter.mp ha1
          rw [← e2]
          cases a with
          | none => cases ha2
          | some v =>
            have : -1000 ≤ v ∧ v ≤ 1000 := (List.mem_append.mp hr).elim (fun h => row_bound (ha.2.2.2.2.2 r h) v ha1) fun h => row_bound (hb.2.2.2.2.2 r h) v ha1
            show (if v < 0 then -v else v) ≤ 1000
            split <;> omega
    have bm := row_bound hx _ m1
    have hr1 : 2 * ((wide : Int) + (deep : Int)) * farT one other ≤ 2 * ((wide : Int) + (deep : Int)) * 1000 := Int.mul_le_mul_of_nonneg_left hfar1 (by omega)
    have hr2 : 0 ≤ 2 * ((wide : Int) + (deep : Int)) * farT one other := Int.mul_nonneg (by omega) hfar0
    have hfl : ∀ a ∈ x, okFl (floorT one other wide deep x) a := fun a hm => by
      cases a with
      | none => trivial
      | some v =>
        have := m2 v hm
        show minI (valsOf x) - 2 * ((wide : Int) + (deep : Int)) * farT one other ≤ v
        omega
    have hmu : ∀ a ∈ x, emu (floorT one other wide deep x) a ≤ 100000 := fun a hm => by
      cases a with
      | none => exact Nat.zero_le _
      | some v =>
        have b1 := row_bound hx v hm
        show (v - (minI (valsOf x) - 2 * ((wide : Int) + (deep : Int)) * farT one other) + 1).toNat ≤ 100000
        omega
    obtain ⟨pre, y, e, e2, h1, h2, h3⟩ := m_turns ha hb hs hx fa fb hv hfl hmu
    refine ⟨pre, y, e, e2, h1, h2, h3, fun s w hw hs' es => ?_⟩
    exact sol_below ha.1 hb.1 (fun r h => (ha.2.2.2.2.2 r h).1) (fun r h => (hb.2.2.2.2.2 r h).1) fa fb hx.1 hw hs' es h2 pre.length y (by
      rw [List.getElem?_append_right (Nat.le_refl _), Nat.sub_self]
      rfl)
end Dn.DL
namespace Dn.DL
open PySem
theorem rowBy_le : ∀ {a b : List La}, a.length = b.length → (rowBy a b = true ↔ leL a b)
  | [], [], _ => ⟨fun _ => trivial, fun _ => rfl⟩
  | x :: a, y :: b, h => by
    have ih := rowBy_le (a := a) (b := b) (by simpa using h)
    have e : rowBy (x :: a) (y :: b) = (isBy x y && rowBy a b) := rfl
    rw [e, Bool.and_eq_true, ih]
    rfl
  | [], _ :: _, h => by cases h
  | _ :: _, [], h => by cases h
theorem rangeN {k : Nat} (h : k ≤ 1000000) : rangeD 0 (k : Int) = ret (.list ((List.range k).map fun (i : Nat) => PyData.int (i : Int))) := by
  unfold rangeD
  rw [if_pos (by omega)]
  congr 2
  rw [show ((k : Int) - 0).toNat = k by omega]
  simp
theorem ne_empty {l : List D} {n : Nat} (h : plain n (.list l)) (hn : n ≤ 64) : cmpD .ne (.list l) (.list []) = ret (.bool (!l.isEmpty)) := by
  have e : cmpD .ne (.list l) (.list []) = (if SeqAt.shaped (.list l) && SeqAt.shaped (.list []) then ret (.bool (!PyData.eqv (.list l) (.list []))) else bad) := rfl
  rw [e, plain_shaped h hn, if_pos (by decide)]
  cases l <;> rfl
def notBy (a b : List La) (wide : Nat) : List D := ((List.range wide).filter fun k => !isBy (getL a k) (getL b k)).map fun _ => PyData.int 1
theorem wipe_get1 {ρ : Ev} {i j : Nat} {v : Sl} (hij : i ≠ j) : ((wipeE ρ [i]).set i v)[j]? = ρ[j]? := by
  unfold wipeE
  rw [List.getElem?_set_ne hij]
  show ((wipeE ρ []).set i .no)[j]? = _
  rw [List.getElem?_set_ne hij]
  rfl
theorem wipe_same {ρ : Ev} {i : Nat} {v : Sl} (hi : i < ρ.length) : ((wipeE ρ [i]).set i v)[i]? = some v := by
  rw [List.getElem?_set_self]
  unfold wipeE
  rw [List.length_set]
  exact hi
theorem by_comp {A B : List La} {wide : Nat} {ρ : Ev} {a b i : Nat} (hi : i < ρ.length) (ha : i ≠ a) (hb : i ≠ b) (ea : ρ[a]? = some (.val (rowD A))) (eb : ρ[b]? = some (.val (rowD B))) (hA : A.length = wide) (hB : B.length = wide) :
    compK (.lit (.int 1)) (.nm i) (.not (.call "_law_by" 2 f__law_by (.cons (.ix (.var a) (.var i)) (.cons (.ix (.var b) (.var i)) .nil)))) ρ ((List.range wide).map fun (i : Nat) => PyData.int (i : Int)) = ret (.list (notBy A B wide)) :=
  cmpFil (xs := List.range wide) (enc := fun (i : Nat) => PyData.int (i : Int)) (g := fun _ => PyData.int 1) (p := fun k => !isBy (getL A k) (getL B k)) fun k hk =>
    ⟨(wipeE ρ [i]).set i (.val (.int k)), rfl, by
      have hk := List.mem_range.mp hk
      have e1 : ((wipeE ρ [i]).set i (.val (.int (k : Int))))[i]? = some (.val (.int k)) := wipe_same hi
      have e2 : ((wipeE ρ [i]).set i (.val (.int (k : Int))))[a]? = some (.val (rowD A)) := by rw [wipe_get1 ha, ea]
      have e3 : ((wipeE ρ [i]).set i (.val (.int (k : Int))))[b]? = some (.val (rowD B)) := by rw [wipe_get1 hb, eb]
      generalize (wipeE ρ [i]).set i (.val (.int (k : Int))) = ρ' at e1 e2 e3
      simp -implicitDefEqProofs only [wipeE, Tg.slots, k_nx, k_rt, e_nx, e_rt, br_t, br_f, dS_nil, dS_seq, dS_nm, own_list, dS_newL, dS_par, sl_f, sl_t, dS_ite, dS_ret, dS_expr, dS_app, ap_own, dS_aug, au_val, dS_frz, fr_own, asB_bool, asI_int, items_l, items_t, dn_nil, dn_cons, dn_star, lo_l, lo_d, vk, dn_var, ok_, dn_own, dn_lit, dn_glob, dn_bin, dn_neg, dn_not, dn_cmp, dn_chain, ch_t, ch_f, dn_and, dn_or, dn_ite, an_t, an_f, or_t, or_f, it_t, it_f, dn_tup, dn_list, tup0, tup1, tup2, tup3, lst0, lst1, lst2, lst3, dn_ix, dn_slice, dn_call, call1, call2, call3, call4, call5, rk, dn_callR, dn_b1, dn_b2, dn_isI, dn_isTL, dn_range1, dn_range2, dn_zip, b1_len_l, b1_len_t, b1_tup_l, b1_tup_t, b1_list_l, b1_list_t, b1_int, not_b, neg_i, cmp_lt, cmp_le, cmp_gt, cmp_ge, cmp_is, cmp_isnot, cmp_eqi, cmp_nei, bin_add, bin_sub, zip_t, zip_l, dn_comp, dS_for, bnd_ret, bnd_bnd, fn_eq, fnR_eq, List.map_cons, List.map_nil, List.cons_append, List.nil_append, List.append_nil, List.length_cons, List.length_nil, List.replicate_succ, List.replicate_zero, Nat.sub_self, Nat.reduceAdd, Nat.reduceSub, Nat.zero_add, List.set_cons_zero, List.set_cons_succ, List.getElem?_cons_zero, List.getElem?_cons_succ, e1, e2, e3, ix_row (getD_ok (show k < A.length by omega)), ix_row (getD_ok (show k < B.length by omega)), m_lby]
      rfl, fun _ => rfl⟩
theorem not_ne {A B : List La} {wide : Nat} (hA : A.length = wide) (hB : B.length = wide) (h1 : wide ≤ 1000) : cmpD .ne (.list (notBy A B wide)) (.list []) = ret (.bool (!rowBy A B)) ∧ cmpD .eq (.list (notBy A B wide)) (.list []) = ret (.bool (rowBy A B)) := by
  have hp : plain 1 (.list (notBy A B wide)) := ⟨by
    unfold notBy
    rw [List.length_map]
    exact Nat.le_trans (List.length_filter_le ..) (by rw [List.length_range]; exact h1), fun x hx => by
    obtain ⟨_, _, rfl⟩ := List.mem_map.mp hx
    trivial⟩
  have e : (notBy A B wide).isEmpty = rowBy A B := by
    unfold notBy
    rw [List.isEmpty_map, ← hA, by_all (hA.trans hB.symm)]
  exact ⟨by rw [ne_empty hp (by decide), e], by rw [eq_empty hp (by decide), e]⟩
theorem add_tt {xs ys : List D} (h : xs.length + ys.length ≤ sizeLine) : binD .add (.tuple xs) (.tuple ys) = ret (.tuple (xs ++ ys)) := if_pos h
/-! how far, as the law works it out -/
theorem far_fold : ∀ (rows : List (List La)) (f : Int), 0 ≤ f → rows.foldl (fun far r => maxI (far :: absRow r)) f = maxI (f :: rows.map farRow)
  | [], f, _ => rfl
  | r :: rows, f, h => by
    have s1 := maxI_spec (absRow r) f
    have s2 := maxI_spec (absRow r) 0
    have e1 : maxI (f :: absRow r) = (absRow r).foldl (fun a b => if b > a then b else a) f := rfl
    have e2 : farRow r = (absRow r).foldl (fun a b => if b > a then b else a) 0 := rfl
    have g0 : f ≤ maxI (f :: absRow r) := s1.2 f (List.mem_cons_self ..)
    have key : maxI (f :: absRow r) = if farRow r > f then farRow r else f := by
      have g2 : farRow r ≤ maxI (f :: absRow r) := by
        rcases List.mem_cons.mp s2.1 with e | e
        · rw [e2, e]; omega
        · rw [e2, e1]; exact s1.2 _ (List.mem_cons_of_mem _ e)
      have g3 : maxI (f :: absRow r) ≤ f ∨ maxI (f :: absRow r) ≤ farRow r := by
        rcases List.mem_cons.mp s1.1 with e | e
        · left; rw [e1, e]; omega
        · right; rw [e1, e2]; exact s2.2 _ (List.mem_cons_of_mem _ e)
      split <;> omega
    rw [List.foldl_cons, far_fold rows _ (by omega), key]
    rfl
abbrev farB : S := .seq (.asg (.nm 9) (.b1 .max (.bin .add (.list (.cons (.var 9) .nil)) (.comp (.b2 .max2 (.var 23) (.bin .sub (.lit (.int 0)) (.var 23))) (.nm 23) (.var 10) (.cmp .isnot (.var 23) (.lit .none)))))) .nil
theorem abs_max (v : Int) : (if 0 - v > v then 0 - v else v) = absI v := by
  unfold absI
  split <;> split <;> omega
theorem labs_comp {r : List La} {ρ : Ev} (hi : 23 < ρ.length) : compK (.b2 .max2 (.var 23) (.bin .sub (.lit (.int 0)) (.var 23))) (.nm 23) (.cmp .isnot (.var 23) (.lit .none)) ρ (r.map optD) = ret (.list ((r.filter Option.isSome).map fun x => PyData.int (absI (x.getD 0)))) := by
  refine cmpFil (enc := optD) (g := fun x : La => PyData.int (absI (x.getD 0))) (p := Option.isSome) fun a _ => ⟨(wipeE ρ [23]).set 23 (.val (optD a)), rfl, ?_, fun hp => ?_⟩
  · have e : ((wipeE ρ [23]).set 23 (.val (optD a)))[23]? = some (.val (optD a)) := wipe_same hi
    generalize (wipeE ρ [23]).set 23 (.val (optD a)) = ρ' at e
    simp -implicitDefEqProofs only [wipeE, Tg.slots, k_nx, k_rt, e_nx, e_rt, br_t, br_f, dS_nil, dS_seq, dS_nm, own_list, dS_newL, dS_par, sl_f, sl_t, dS_ite, dS_ret, dS_expr, dS_app, ap_own, dS_aug, au_val, dS_frz, fr_own, asB_bool, asI_int, items_l, items_t, dn_nil, dn_cons, dn_star, lo_l, lo_d, vk, dn_var, ok_, dn_own, dn_lit, dn_glob, dn_bin, dn_neg, dn_not, dn_cmp, dn_chain, ch_t, ch_f, dn_and, dn_or, dn_ite, an_t, an_f, or_t, or_f, it_t, it_f, dn_tup, dn_list, tup0, tup1, tup2, tup3, lst0, lst1, lst2, lst3, dn_ix, dn_slice, dn_call, call1, call2, call3, call4, call5, rk, dn_callR, dn_b1, dn_b2, dn_isI, dn_isTL, dn_range1, dn_range2, dn_zip, b1_len_l, b1_len_t, b1_tup_l, b1_tup_t, b1_list_l, b1_list_t, b1_int, not_b, neg_i, cmp_lt, cmp_le, cmp_gt, cmp_ge, cmp_is, cmp_isnot, cmp_eqi, cmp_nei, bin_add, bin_sub, zip_t, zip_l, dn_comp, dS_for, bnd_ret, bnd_bnd, fn_eq, fnR_eq, List.map_cons, List.map_nil, List.cons_append, List.nil_append, List.append_nil, List.length_cons, List.length_nil, List.replicate_succ, List.replicate_zero, Nat.sub_self, Nat.reduceAdd, Nat.reduceSub, Nat.zero_add, List.set_cons_zero, List.set_cons_succ, List.getElem?_cons_zero, List.getElem?_cons_succ, e, none_opt]
    cases a <;> rfl
  · have e : ((wipeE ρ [23]).set 23 (.val (optD a)))[23]? = some (.val (optD a)) := wipe_same hi
    generalize (wipeE ρ [23]).set 23 (.val (optD a)) = ρ' at e
    cases a with
    | none => cases hp
    | some v =>
      have e : ρ'[23]? = some (.val (.int v)) := e
      simp -implicitDefEqProofs only [wipeE, Tg.slots, k_nx, k_rt, e_nx, e_rt, br_t, br_f, dS_nil, dS_seq, dS_nm, own_list, dS_newL, dS_par, sl_f, sl_t, dS_ite, dS_ret, dS_expr, dS_app, ap_own, dS_aug, au_val, dS_frz, fr_own, asB_bool, asI_int, items_l, items_t, dn_nil, dn_cons, dn_star, lo_l, lo_d, vk, dn_var, ok_, dn_own, dn_lit, dn_glob, dn_bin, dn_neg, dn_not, dn_cmp, dn_chain, ch_t, ch_f, dn_and, dn_or, dn_ite, an_t, an_f, or_t, or_f, it_t, it_f, dn_tup, dn_list, tup0, tup1, tup2, tup3, lst0, lst1, lst2, lst3, dn_ix, dn_slice, dn_call, call1, call2, call3, call4, call5, rk, dn_callR, dn_b1, dn_b2, dn_isI, dn_isTL, dn_range1, dn_range2, dn_zip, b1_len_l, b1_len_t, b1_tup_l, b1_tup_t, b1_list_l, b1_list_t, b1_int, not_b, neg_i, cmp_lt, cmp_le, cmp_gt, cmp_ge, cmp_is, cmp_isnot, cmp_eqi, cmp_nei, bin_add, bin_sub, zip_t, zip_l, dn_comp, dS_for, bnd_ret, bnd_bnd, fn_eq, fnR_eq, List.map_cons, List.map_nil, List.cons_append, List.nil_append, List.append_nil, List.length_cons, List.length_nil, List.replicate_succ, List.replicate_zero, Nat.sub_self, Nat.reduceAdd, Nat.reduceSub, Nat.zero_add, List.set_cons_zero, List.set_cons_succ, List.getElem?_cons_zero, List.getElem?_cons_succ, e, dn_b2]
      show ret (PyData.int (if 0 - v > v then 0 - v else v)) = _
      rw [abs_max]
      rfl
theorem far_one {r : List La} {far : Int} {ρ : Ev} (h9 : ρ[9]? = some (.val (.int far))) (hl : 23 < ρ.length) (hr : r.length ≤ 1000) :
    forK (.nm 10) farB (rowD r) ρ = ret (.nx ((ρ.set 10 (.val (rowD r))).set 9 (.val (.int (maxI (far :: absRow r)))))) := by
  unfold forK
  show denS farB (ρ.set 10 (.val (rowD r))) = _
  have e1 : (ρ.set 10 (.val (rowD r)))[9]? = some (.val (.int far)) := by rw [List.getElem?_set_ne (by decide)]; exact h9
  have e2 : (ρ.set 10 (.val (rowD r)))[10]? = some (.val (rowD r)) := List.getElem?_set_self (by omega)
  have hl2 : 23 < (ρ.set 10 (.val (rowD r))).length := by rw [List.length_set]; exact hl
  generalize ρ.set 10 (.val (rowD r)) = ρ' at e1 e2 hl2
  have hl3 : 1 + ((r.filter Option.isSome).map fun x => PyData.int (absI (x.getD 0))).length ≤ sizeLine := by
    rw [List.length_map]
    exact small_line (Nat.le_trans (List.length_filter_le ..) hr)
  unfold farB
  simp -implicitDefEqProofs only [wipeE, Tg.slots, k_nx, k_rt, e_nx, e_rt, br_t, br_f, dS_nil, dS_seq, dS_nm, own_list, dS_newL, dS_par, sl_f, sl_t, dS_ite, dS_ret, dS_expr, dS_app, ap_own, dS_aug, au_val, dS_frz, fr_own, asB_bool, asI_int, items_l, items_t, dn_nil, dn_cons, dn_star, lo_l, lo_d, vk, dn_var, ok_, dn_own, dn_lit, dn_glob, dn_bin, dn_neg, dn_not, dn_cmp, dn_chain, ch_t, ch_f, dn_and, dn_or, dn_ite, an_t, an_f, or_t, or_f, it_t, it_f, dn_tup, dn_list, tup0, tup1, tup2, tup3, lst0, lst1, lst2, lst3, dn_ix, dn_slice, dn_call, call1, call2, call3, call4, call5, rk, dn_callR, dn_b1, dn_b2, dn_isI, dn_isTL, dn_range1, dn_range2, dn_zip, b1_len_l, b1_len_t, b1_tup_l, b1_tup_t, b1_list_l, b1_list_t, b1_int, not_b, neg_i, cmp_lt, cmp_le, cmp_gt, cmp_ge, cmp_is, cmp_isnot, cmp_eqi, cmp_nei, bin_add, bin_sub, zip_t, zip_l, dn_comp, dS_for, bnd_ret, bnd_bnd, fn_eq, fnR_eq, List.map_cons, List.map_nil, List.cons_append, List.nil_append, List.append_nil, List.length_cons, List.length_nil, List.replicate_succ, List.replicate_zero, Nat.sub_self, Nat.reduceAdd, Nat.reduceSub, Nat.zero_add, List.set_cons_zero, List.set_cons_succ, List.getElem?_cons_zero, List.getElem?_cons_succ, e1, e2, items_row, labs_comp hl2, add_ll (xs := [PyData.int far]) hl3]
  rw [b1_maxc]
  rfl
theorem lcut_comp {r : List La} {fl : Int} {ρ : Ev} {i j : Nat} (hi : i < ρ.length) (hij : i ≠ j) (hj : ρ[j]? = some (.val (.int fl))) : compK (.ite (.and (.cmp .isnot (.var i) (.lit .none)) (.cmp .ge (.var i) (.var j))) (.var i) (.lit .none)) (.nm i) (.lit (.bool true)) ρ (r.map optD) = ret (.list (r.map fun a => optD (cutEl fl a))) := by
  refine cmpMap (g := fun a => optD (cutEl fl a)) fun a _ => ⟨(wipeE ρ [i]).set i (.val (optD a)), rfl, rfl, ?_⟩
  have e : ((wipeE ρ [i]).set i (.val (optD a)))[i]? = some (.val (optD a)) := wipe_same hi
  have e2 : ((wipeE ρ [i]).set i (.val (optD a)))[j]? = some (.val (.int fl)) := by rw [wipe_get1 hij]; exact hj
  generalize (wipeE ρ [i]).set i (.val (optD a)) = ρ' at e e2
  simp -implicitDefEqProofs only [wipeE, Tg.slots, k_nx, k_rt, e_nx, e_rt, br_t, br_f, dS_nil, dS_seq, dS_nm, own_list, dS_newL, dS_par, sl_f, sl_t, dS_ite, dS_ret, dS_expr, dS_app, ap_own, dS_aug, au_val, dS_frz, fr_own, asB_bool, asI_int, items_l, items_t, dn_nil, dn_cons, dn_star, lo_l, lo_d, vk, dn_var, ok_, dn_own, dn_lit, dn_glob, dn_bin, dn_neg, dn_not, dn_cmp, dn_chain, ch_t, ch_f, dn_and, dn_or, dn_ite, an_t, an_f, or_t, or_f, it_t, it_f, dn_tup, dn_list, tup0, tup1, tup2, tup3, lst0, lst1, lst2, lst3, dn_ix, dn_slice, dn_call, call1, call2, call3, call4, call5, rk, dn_callR, dn_b1, dn_b2, dn_isI, dn_isTL, dn_range1, dn_range2, dn_zip, b1_len_l, b1_len_t, b1_tup_l, b1_tup_t, b1_list_l, b1_list_t, b1_int, not_b, neg_i, cmp_lt, cmp_le, cmp_gt, cmp_ge, cmp_is, cmp_isnot, cmp_eqi, cmp_nei, bin_add, bin_sub, zip_t, zip_l, dn_comp, dS_for, bnd_ret, bnd_bnd, fn_eq, fnR_eq, List.map_cons, List.map_nil, List.cons_append, List.nil_append, List.append_nil, List.length_cons, List.length_nil, List.replicate_succ, List.replicate_zero, Nat.sub_self, Nat.reduceAdd, Nat.reduceSub, Nat.zero_add, List.set_cons_zero, List.set_cons_succ, List.getElem?_cons_zero, List.getElem?_cons_succ, e, e2, none_opt]
  cases a with
  | none =>
    simp -implicitDefEqProofs only [wipeE, Tg.slots, k_nx, k_rt, e_nx, e_rt, br_t, br_f, dS_nil, dS_seq, dS_nm, own_list, dS_newL, dS_par, sl_f, sl_t, dS_ite, dS_ret, dS_expr, dS_app, ap_own, dS_aug, au_val, dS_frz, fr_own, asB_bool, asI_int, items_l, items_t, dn_nil, dn_cons, dn_star, lo_l, lo_d, vk, dn_var, ok_, dn_own, dn_lit, dn_glob, dn_bin, dn_neg, dn_not, dn_cmp, dn_chain, ch_t, ch_f, dn_and, dn_or, dn_ite, an_t, an_f, or_t, or_f, it_t, it_f, dn_tup, dn_list, tup0, tup1, tup2, tup3, lst0, lst1, lst2, lst3, dn_ix, dn_slice, dn_call, call1, call2, call3, call4, call5, rk, dn_callR, dn_b1, dn_b2, dn_isI, dn_isTL, dn_range1, dn_range2, dn_zip, b1_len_l, b1_len_t, b1_tup_l, b1_tup_t, b1_list_l, b1_list_t, b1_int, not_b, neg_i, cmp_lt, cmp_le, cmp_gt, cmp_ge, cmp_is, cmp_isnot, cmp_eqi, cmp_nei, bin_add, bin_sub, zip_t, zip_l, dn_comp, dS_for, bnd_ret, bnd_bnd, fn_eq, fnR_eq, List.map_cons, List.map_nil, List.cons_append, List.nil_append, List.append_nil, List.length_cons, List.length_nil, List.replicate_succ, List.replicate_zero, Nat.sub_self, Nat.reduceAdd, Nat.reduceSub, Nat.zero_add, List.set_cons_zero, List.set_cons_succ, List.getElem?_cons_zero, List.getElem?_cons_succ, Option.isNone_none, Bool.not_true]
    rfl
  | some v =>
    have e : ρ'[i]? = some (.val (.int v)) := e
    simp -implicitDefEqProofs only [wipeE, Tg.slots, k_nx, k_rt, e_nx, e_rt, br_t, br_f, dS_nil, dS_seq, dS_nm, own_list, dS_newL, dS_par, sl_f, sl_t, dS_ite, dS_ret, dS_expr, dS_app, ap_own, dS_aug, au_val, dS_frz, fr_own, asB_bool, asI_int, items_l, items_t, dn_nil, dn_cons, dn_star, lo_l, lo_d, vk, dn_var, ok_, dn_own, dn_lit, dn_glob, dn_bin, dn_neg, dn_not, dn_cmp, dn_chain, ch_t, ch_f, dn_and, dn_or, dn_ite, an_t, an_f, or_t, or_f, it_t, it_f, dn_tup, dn_list, tup0, tup1, tup2, tup3, lst0, lst1, lst2, lst3, dn_ix, dn_slice, dn_call, call1, call2, call3, call4, call5, rk, dn_callR, dn_b1, dn_b2, dn_isI, dn_isTL, dn_range1, dn_range2, dn_zip, b1_len_l, b1_len_t, b1_tup_l, b1_tup_t, b1_list_l, b1_list_t, b1_int, not_b, neg_i, cmp_lt, cmp_le, cmp_gt, cmp_ge, cmp_is, cmp_isnot, cmp_eqi, cmp_nei, bin_add, bin_sub, zip_t, zip_l, dn_comp, dS_for, bnd_ret, bnd_bnd, fn_eq, fnR_eq, List.map_cons, List.map_nil, List.cons_append, List.nil_append, List.append_nil, List.length_cons, List.length_nil, List.replicate_succ, List.replicate_zero, Nat.sub_self, Nat.reduceAdd, Nat.reduceSub, Nat.zero_add, List.set_cons_zero, List.set_cons_succ, List.getElem?_cons_zero, List.getElem?_cons_succ, Option.isNone_some, Bool.not_false, e, e2]
    show _ = ret (optD (if v < fl then none else some v))
    by_cases h : fl ≤ v
    · simp -implicitDefEqProofs only [wipeE, Tg.slots, k_nx, k_rt, e_nx, e_rt, br_t, br_f, dS_nil, dS_seq, dS_nm, own_list, dS_newL, dS_par, sl_f, sl_t, dS_ite, dS_ret, dS_expr, dS_app, ap_own, dS_aug, au_val, dS_frz, fr_own, asB_bool, asI_int, items_l, items_t, dn_nil, dn_cons, dn_star, lo_l, lo_d, vk, dn_var, ok_, dn_own, dn_lit, dn_glob, dn_bin, dn_neg, dn_not, dn_cmp, dn_chain, ch_t, ch_f, dn_and, dn_or, dn_ite, an_t, an_f, or_t, or_f, it_t, it_f, dn_tup, dn_list, tup0, tup1, tup2, tup3, lst0, lst1, lst2, lst3, dn_ix, dn_slice, dn_call, call1, call2, call3, call4, call5, rk, dn_callR, dn_b1, dn_b2, dn_isI, dn_isTL, dn_range1, dn_range2, dn_zip, b1_len_l, b1_len_t, b1_tup_l, b1_tup_t, b1_list_l, b1_list_t, b1_int, not_b, neg_i, cmp_lt, cmp_le, cmp_gt, cmp_ge, cmp_is, cmp_isnot, cmp_eqi, cmp_nei, bin_add, bin_sub, zip_t, zip_l, dn_comp, dS_for, bnd_ret, bnd_bnd, fn_eq, fnR_eq, List.map_cons, List.map_nil, List.cons_append, List.nil_append, List.append_nil, List.length_cons, List.length_nil, List.replicate_succ, List.replicate_zero, Nat.sub_self, Nat.reduceAdd, Nat.reduceSub, Nat.zero_add, List.set_cons_zero, List.set_cons_succ, List.getElem?_cons_zero, List.getElem?_cons_succ, decide_eq_true h, e]
      rw [if_neg (by omega)]
      rfl
    · simp -implicitDefEqProofs only [wipeE, Tg.slots, k_nx, k_rt, e_nx, e_rt, br_t, br_f, dS_nil, dS_seq, dS_nm, own_list, dS_newL, dS_par, sl_f, sl_t, dS_ite, dS_ret, dS_expr, dS_app, ap_own, dS_aug, au_val, dS_frz, fr_own, asB_bool, asI_int, items_l, items_t, dn_nil, dn_cons, dn_star, lo_l, lo_d, vk, dn_var, ok_, dn_own, dn_lit, dn_glob, dn_bin, dn_neg, dn_not, dn_cmp, dn_chain, ch_t, ch_f, dn_and, dn_or, dn_ite, an_t, an_f, or_t, or_f, it_t, it_f, dn_tup, dn_list, tup0, tup1, tup2, tup3, lst0, lst1, lst2, lst3, dn_ix, dn_slice, dn_call, call1, call2, call3, call4, call5, rk, dn_callR, dn_b1, dn_b2, dn_isI, dn_isTL, dn_range1, dn_range2, dn_zip, b1_len_l, b1_len_t, b1_tup_l, b1_tup_t, b1_list_l, b1_list_t, b1_int, not_b, neg_i, cmp_lt, cmp_le, cmp_gt, cmp_ge, cmp_is, cmp_isnot, cmp_eqi, cmp_nei, bin_add, bin_sub, zip_t, zip_l, dn_comp, dS_for, bnd_ret, bnd_bnd, fn_eq, fnR_eq, List.map_cons, List.map_nil, List.cons_append, List.nil_append, List.append_nil, List.length_cons, List.length_nil, List.replicate_succ, List.replicate_zero, Nat.sub_self, Nat.reduceAdd, Nat.reduceSub, Nat.zero_add, List.set_cons_zero, List.set_cons_succ, List.getElem?_cons_zero, List.getElem?_cons_succ, decide_eq_false h]
      rw [if_pos (by omega)]
      rfl
theorem min99 {x : List La} (h4 : ∀ v, some v ∈ x → v ≤ 4) (hv : valsOf x ≠ []) : minI (99 :: valsOf x) = minI (valsOf x) := by
  obtain ⟨m1, m2⟩ := min_mem hv
  have sp := minI_spec (valsOf x) 99
  have e : minI (99 :: valsOf x) = (valsOf x).foldl (fun a b => if b < a then b else a) 99 := rfl
  have h1 := h4 _ m1
  have hin : minI (valsOf x) ∈ valsOf x := by
    cases ev : valsOf x with
    | nil => exact absurd ev hv
    | cons a r => exact (minI_spec r a).1
  have g1 : minI (99 :: valsOf x) ≤ minI (valsOf x) := sp.2 _ (List.mem_cons_of_mem _ hin)
  have g2 : minI (valsOf x) ≤ minI (99 :: valsOf x) := by
    rcases List.mem_cons.mp sp.1 with q | q
    · rw [e, q]; omega
    · rw [e]
      cases ev : valsOf x with
      | nil => exact absurd ev hv
      | cons a r => rw [ev] at q; exact min_le r a _ q
  omega
theorem sum_bound {r x : List La} {v A B : Int} (h : r.length = x.length) (e : sumOf r x = some v) (hr : ∀ u, some u ∈ r → -A ≤ u ∧ u ≤ A) (hx : ∀ u, some u ∈ x → -B ≤ u ∧ u ≤ B) : -(A + B) ≤ v ∧ v ≤ A + B := by
  obtain ⟨k, hk, ek⟩ := sum_at h e
  cases e1 : getL r k with
  | none => rw [e1] at ek; cases ek
  | some a =>
    cases e2 : getL x k with
    | none => rw [e1, e2] at ek; cases ek
    | some b =>
      rw [e1, e2] at ek
      have ek : a + b = v := Option.some.inj ek
      have h1 := hr a (get_mem e1)
      have h2 := hx b (get_mem e2)
      omega
theorem lags_mem : ∀ {xs : List (La × La)} {v : Int}, some v ∈ lagsGo xs → ∃ a b, (some a, some b) ∈ xs ∧ v = b - a
  | (none, q) :: r, v, h => by
    obtain ⟨a, b, h1, h2⟩ := lags_mem (xs := r) h
    exact ⟨a, b, List.mem_cons_of_mem _ h1, h2⟩
  | (some _, none) :: r, v, h => by
    rcases List.mem_cons.mp h with h | h
    · cases h
    · obtain ⟨a, b, h1, h2⟩ := lags_mem (xs := r) h
      exact ⟨a, b, List.mem_cons_of_mem _ h1, h2⟩
  | (some c, some d) :: r, v, h => by
    rcases List.mem_cons.mp h with h | h
    · cases h
      exact ⟨c, d, List.mem_cons_self .., rfl⟩
    · obtain ⟨a, b, h1, h2⟩ := lags_mem (xs := r) h
      exact ⟨a, b, List.mem_cons_of_mem _ h1, h2⟩
theorem div_bound {t : List (List La)} {wide : Nat} {g : List La} {v A B : Int} (hv : some v ∈ dividedOf t wide g) (hr : ∀ r ∈ t, ∀ u, some u ∈ r → -A ≤ u ∧ u ≤ A) (hg : ∀ u, some u ∈ g → -B ≤ u ∧ u ≤ B) : -(A + B) ≤ v ∧ v ≤ A + B := by
  obtain ⟨c, hc, e⟩ := List.mem_map.mp hv
  obtain ⟨k, _, rfl⟩ := List.mem_map.mp hc
  unfold gapOf at e
  have hn : none ∉ lagsGo ((colOf t k).zip g) := fun h => by rw [gap_none h] at e; cases e
  have hm := ((gap_some (s := none) hn).1 v e).1
  rcases hm with hm | hm
  · cases hm
  · obtain ⟨a, b, h1, h2⟩ := lags_mem hm
    obtain ⟨q1, q2⟩ := List.of_mem_zip h1
    obtain ⟨r, hr1, e2⟩ := List.mem_map.mp q1
    have e3 := get_mem (show getL r k = some a from e2)
    have b1 := hr r hr1 a e3
    have b2 := hg b q2
    omega
end Dn.DL
namespace Dn.DL
open PySem
abbrev LB2 : S := (.seq (.asg (.nm 13) (.call "_law_sums" 2 f__law_sums (.cons (.var 6) (.cons (.call "_law_back" 2 f__law_back (.cons (.var 6) (.cons (.call "_law_sums" 2 f__law_sums (.cons (.var 5) (.cons (.ix (.var 8) (.var 12)) .nil))) .nil))) .nil)))) (.seq (.asg (.nm 14) (.call "_law_back" 2 f__law_back (.cons (.var 5) (.cons (.var 13) .nil)))) (.seq (.asg (.nm 15) (.b1 .tuple (.comp (.call "_law_least" 2 f__law_least (.cons (.ix (.ix (.var 8) (.var 12)) (.var 27)) (.cons (.ix (.var 14) (.var 27)) .nil))) (.nm 27) (.range1 (.var 3)) (.lit (.bool true))))) (.seq (.asg (.nm 16) (.ite (.cmp .lt (.bin .add (.var 12) (.lit (.int 1))) (.b1 .len (.var 8))) (.ix (.var 8) (.bin .add (.var 12) (.lit (.int 1)))) (.ix (.var 8) (.var 12)))) (.seq (.ite (.cmp .ne (.var 16) (.b1 .tuple (.comp (.ite (.and (.cmp .isnot (.var 23) (.lit .none)) (.cmp .ge (.var 23) (.var 11))) (.var 23) (.lit .none)) (.nm 23) (.var 15) (.lit (.bool true))))) (.seq (.ret (.lit (.bool false))) .nil) .nil) .nil)))))
abbrev LB4 : S := (.seq (.asg (.nm 24) (.call "_law_shift" 2 f__law_shift (.cons (.var 22) (.cons (.var 23) .nil)))) (.seq (.asg (.nm 13) (.call "_law_sums" 2 f__law_sums (.cons (.var 5) (.cons (.var 24) .nil)))) (.seq (.asg (.nm 25) (.call "_law_back" 2 f__law_back (.cons (.var 6) (.cons (.var 13) .nil)))) (.seq (.asg (.nm 26) (.cmp .eq (.comp (.lit (.int 1)) (.nm 12) (.range1 (.var 3)) (.not (.call "_law_by" 2 f__law_by (.cons (.ix (.var 24) (.var 12)) (.cons (.ix (.var 7) (.var 12)) .nil))))) (.list .nil))) (.seq (.ite (.and (.var 26) (.cmp .eq (.call "_law_sums" 2 f__law_sums (.cons (.var 6) (.cons (.var 25) .nil))) (.var 13))) (.seq (.ite (.cmp .ne (.comp (.lit (.int 1)) (.nm 12) (.range1 (.var 3)) (.not (.call "_law_by" 2 f__law_by (.cons (.ix (.var 24) (.var 12)) (.cons (.ix (.var 17) (.var 12)) .nil))))) (.list .nil)) (.seq (.ret (.lit (.bool false))) .nil) .nil) .nil) .nil) .nil)))))
abbrev LB3 : S := (.seq (.for_ (.nm 23) (.list (.cons (.neg (.lit (.int 2))) (.cons (.lit (.int 1)) (.cons (.lit (.int 4)) .nil)))) (.seq (.asg (.nm 24) (.call "_law_shift" 2 f__law_shift (.cons (.var 22) (.cons (.var 23) .nil)))) (.seq (.asg (.nm 13) (.call "_law_sums" 2 f__law_sums (.cons (.var 5) (.cons (.var 24) .nil)))) (.seq (.asg (.nm 25) (.call "_law_back" 2 f__law_back (.cons (.var 6) (.cons (.var 13) .nil)))) (.seq (.asg (.nm 26) (.cmp .eq (.comp (.lit (.int 1)) (.nm 12) (.range1 (.var 3)) (.not (.call "_law_by" 2 f__law_by (.cons (.ix (.var 24) (.var 12)) (.cons (.ix (.var 7) (.var 12)) .nil))))) (.list .nil))) (.seq (.ite (.and (.var 26) (.cmp .eq (.call "_law_sums" 2 f__law_sums (.cons (.var 6) (.cons (.var 25) .nil))) (.var 13))) (.seq (.ite (.cmp .ne (.comp (.lit (.int 1)) (.nm 12) (.range1 (.var 3)) (.not (.call "_law_by" 2 f__law_by (.cons (.ix (.var 24) (.var 12)) (.cons (.ix (.var 17) (.var 12)) .nil))))) (.list .nil)) (.seq (.ret (.lit (.bool false))) .nil) .nil) .nil) .nil) .nil)))))) .nil)

theorem turn_one {one other : List (List La)} {high wide deep : Nat} {fl : Int} {times a b y : List La} {pre : List (List La)} {k : Nat} (ha : tabOk one high wide) (hb : tabOk other high deep) (fa : fullT one wide) (fb : fullT other deep) (ea : (pre ++ [y])[k]? = some a) (hal : a.length = wide)
    (eb : b = nextT one other wide deep fl a) (en : (if k + 1 < (pre ++ [y]).length then (pre ++ [y])[k + 1]? else some a) = some b) {y10 y12 y13 y14 y15 y16 : Sl} : ∃ z12 z13 z14 z15 z16, forK (.nm 12) LB2 (.int (k : Int)) [.no, .row, .val (.int high), .val (.int wide), .val (.int deep), .val (tabD one), .val (tabD other), .val (rowD times), .val (.list ((pre ++ [y]).map rowD)), .val (.int (farT one other)), y10, .val (.int fl), y12, y13, y14, y15, y16, .no, .no, .no, .no, .no, .no, .no, .no, .no, .no, .no] = ret (.nx [.no, .row, .val (.int high), .val (.int wide), .val (.int deep), .val (tabD one), .val (tabD other), .val (rowD times), .val (.list ((pre ++ [y]).map rowD)), .val (.int (farT one other)), y10, .val (.int fl), z12, z13, z14, z15, z16, .no, .no, .no, .no, .no, .no, .no, .no, .no, .no, .no]) := by
  have w6 : wide ≤ 6 := ha.2.2.2.2.1
  have d6 : deep ≤ 6 := hb.2.2.2.2.1
  have h6 : high ≤ 6 := ha.2.2.1
  have ra : ∀ r ∈ one, r.length = wide := fun r h => (ha.2.2.2.2.2 r h).1
  have rb : ∀ r ∈ other, r.length = deep := fun r h => (hb.2.2.2.2.2 r h).1
  have ixa : ixD (.list ((pre ++ [y]).map rowD)) (.int (k : Int)) = ret (rowD a) := ix_l (by rw [List.getElem?_map, ea]; rfl)
  have s1 : f__law_sums [tabD one, rowD a] = ret (rowD (applyOf one a)) := m_lsums ra hal (by omega)
  have s2 : f__law_back [tabD other, rowD (applyOf one a)] = ret (rowD (dividedOf other deep (applyOf one a))) := m_lback hb.2.1 hb.1 rb (by rw [len_apply, ha.1]) (by omega) (by omega) fb
  have s3 : f__law_sums [tabD other, rowD (dividedOf other deep (applyOf one a))] = ret (rowD (goalT one other deep a)) := m_lsums rb (div_len _ _ _) (by omega)
  have s4 : f__law_back [tabD one, rowD (goalT one other deep a)] = ret (rowD (dividedOf one wide (goalT one other deep a))) := m_lback ha.2.1 ha.1 ra (by unfold goalT; rw [len_apply, hb.1]) (by omega) (by omega) fa
  have hd : (dividedOf one wide (goalT one other deep a)).length = wide := div_len _ _ _
  refine ⟨.val (.int (k : Int)), .val (rowD (goalT one other deep a)), .val (rowD (dividedOf one wide (goalT one other deep a))), .val (rowD (loweredBy one wide (goalT one other deep a) a)), .val (rowD b), ?_⟩
  unfold forK
  show denS LB2 [.no, .row, .val (.int high), .val (.int wide), .val (.int deep), .val (tabD one), .val (tabD other), .val (rowD times), .val (.list ((pre ++ [y]).map rowD)), .val (.int (farT one other)), y10, .val (.int fl), .val (.int (k : Int)), y13, y14, y15, y16, .no, .no, .no, .no, .no, .no, .no, .no, .no, .no, .no] = _
  unfold LB2
  have hl2 : (loweredBy one wide (goalT one other deep a) a).length = wide := by unfold loweredBy; rw [List.length_zipWith, hal, hd, Nat.min_self]
  have hbl : b.length ≤ 1000 := by rw [eb]; unfold nextT cutRow; rw [List.length_map]; have : (loweredBy one wide (applyOf other (dividedOf other deep (applyOf one a))) a).length = wide := hl2; omega
  simp -implicitDefEqProofs only [wipeE, Tg.slots, k_nx, k_rt, e_nx, e_rt, br_t, br_f, dS_nil, dS_seq, dS_nm, own_list, dS_newL, dS_par, sl_f, sl_t, dS_ite, dS_ret, dS_expr, dS_app, ap_own, dS_aug, au_val, dS_frz, fr_own, asB_bool, asI_int, items_l, items_t, dn_nil, dn_cons, dn_star, lo_l, lo_d, vk, dn_var, ok_, dn_own, dn_lit, dn_glob, dn_bin, dn_neg, dn_not, dn_cmp, dn_chain, ch_t, ch_f, dn_and, dn_or, dn_ite, an_t, an_f, or_t, or_f, it_t, it_f, dn_tup, dn_list, tup0, tup1, tup2, tup3, lst0, lst1, lst2, lst3, dn_ix, dn_slice, dn_call, call1, call2, call3, call4, call5, rk, dn_callR, dn_b1, dn_b2, dn_isI, dn_isTL, dn_range1, dn_range2, dn_zip, b1_len_l, b1_len_t, b1_tup_l, b1_tup_t, b1_list_l, b1_list_t, b1_int, not_b, neg_i, cmp_lt, cmp_le, cmp_gt, cmp_ge, cmp_is, cmp_isnot, cmp_eqi, cmp_nei, bin_add, bin_sub, zip_t, zip_l, dn_comp, dS_for, bnd_ret, bnd_bnd, fn_eq, fnR_eq, List.map_cons, List.map_nil, List.cons_append, List.nil_append, List.append_nil, List.length_cons, List.length_nil, List.replicate_succ, List.replicate_zero, Nat.sub_self, Nat.reduceAdd, Nat.reduceSub, Nat.zero_add, List.set_cons_zero, List.set_cons_succ, List.getElem?_cons_zero, List.getElem?_cons_succ, ixa, s1, s2, s3, s4, range0 (Nat.le_trans w6 (show 6 ≤ 1000 by decide))]
  rw [cmpMap (xs := List.range wide) (enc := fun (i : Nat) => PyData.int (i : Int)) (g := fun s => optD (minOf (getL a s) (getL (dividedOf one wide (goalT one other deep a)) s))) fun s hs => ⟨_, rfl, rfl, by
    have hs := List.mem_range.mp hs
    simp -implicitDefEqProofs only [wipeE, Tg.slots, k_nx, k_rt, e_nx, e_rt, br_t, br_f, dS_nil, dS_seq, dS_nm, own_list, dS_newL, dS_par, sl_f, sl_t, dS_ite, dS_ret, dS_expr, dS_app, ap_own, dS_aug, au_val, dS_frz, fr_own, asB_bool, asI_int, items_l, items_t, dn_nil, dn_cons, dn_star, lo_l, lo_d, vk, dn_var, ok_, dn_own, dn_lit, dn_glob, dn_bin, dn_neg, dn_not, dn_cmp, dn_chain, ch_t, ch_f, dn_and, dn_or, dn_ite, an_t, an_f, or_t, or_f, it_t, it_f, dn_tup, dn_list, tup0, tup1, tup2, tup3, lst0, lst1, lst2, lst3, dn_ix, dn_slice, dn_call, call1, call2, call3, call4, call5, rk, dn_callR, dn_b1, dn_b2, dn_isI, dn_isTL, dn_range1, dn_range2, dn_zip, b1_len_l, b1_len_t, b1_tup_l, b1_tup_t, b1_list_l, b1_list_t, b1_int, not_b, neg_i, cmp_lt, cmp_le, cmp_gt, cmp_ge, cmp_is, cmp_isnot, cmp_eqi, cmp_nei, bin_add, bin_sub, zip_t, zip_l, dn_comp, dS_for, bnd_ret, bnd_bnd, fn_eq, fnR_eq, List.map_cons, List.map_nil, List.cons_append, List.nil_append, List.append_nil, List.length_cons, List.length_nil, List.replicate_succ, List.replicate_zero, Nat.sub_self, Nat.reduceAdd, Nat.reduceSub, Nat.zero_add, List.set_cons_zero, List.set_cons_succ, List.getElem?_cons_zero, List.getElem?_cons_succ, ixa, ix_row (getD_ok (show s < a.length by omega)), ix_row (getD_ok (show s < (dividedOf one wide (goalT one other deep a)).length by omega)), m_lleast]
    rfl⟩]
  have fold : PyData.tuple ((List.range wide).map fun s => optD (minOf (getL a s) (getL (dividedOf one wide (goalT one other deep a)) s))) = rowD (loweredBy one wide (goalT one other deep a) a) := by
    unfold rowD loweredBy
    rw [zip_range _ _ (hal.trans hd.symm), hal, List.map_map]
    rfl
  have hlen : b1D .len (.list ((pre ++ [y]).map rowD)) = ret (.int (((pre ++ [y]).length : Nat) : Int)) := by
    show ret (PyData.int ((((pre ++ [y]).map rowD).length : Nat) : Int)) = _
    rw [List.length_map]
  have fold2 : PyData.tuple ((loweredBy one wide (goalT one other deep a) a).map fun a => optD (cutEl fl a)) = rowD b := by
    rw [eb]
    unfold rowD nextT cutRow
    rw [List.map_map]
    rfl
  simp -implicitDefEqProofs only [wipeE, Tg.slots, k_nx, k_rt, e_nx, e_rt, br_t, br_f, dS_nil, dS_seq, dS_nm, own_list, dS_newL, dS_par, sl_f, sl_t, dS_ite, dS_ret, dS_expr, dS_app, ap_own, dS_aug, au_val, dS_frz, fr_own, asB_bool, asI_int, items_l, items_t, dn_nil, dn_cons, dn_star, lo_l, lo_d, vk, dn_var, ok_, dn_own, dn_lit, dn_glob, dn_bin, dn_neg, dn_not, dn_cmp, dn_chain, ch_t, ch_f, dn_and, dn_or, dn_ite, an_t, an_f, or_t, or_f, it_t, it_f, dn_tup, dn_list, tup0, tup1, tup2, tup3, lst0, lst1, lst2, lst3, dn_ix, dn_slice, dn_call, call1, call2, call3, call4, call5, rk, dn_callR, dn_b1, dn_b2, dn_isI, dn_isTL, dn_range1, dn_range2, dn_zip, b1_len_l, b1_len_t, b1_tup_l, b1_tup_t, b1_list_l, b1_list_t, b1_int, not_b, neg_i, cmp_lt, cmp_le, cmp_gt, cmp_ge, cmp_is, cmp_isnot, cmp_eqi, cmp_nei, bin_add, bin_sub, zip_t, zip_l, dn_comp, dS_for, bnd_ret, bnd_bnd, fn_eq, fnR_eq, List.map_cons, List.map_nil, List.cons_append, List.nil_append, List.append_nil, List.length_cons, List.length_nil, List.replicate_succ, List.replicate_zero, Nat.sub_self, Nat.reduceAdd, Nat.reduceSub, Nat.zero_add, List.set_cons_zero, List.set_cons_succ, List.getElem?_cons_zero, List.getElem?_cons_succ, fold, List.length_map]
  have hk1 : ((k : Int) + 1 < (((pre ++ [y]).length : Nat) : Int)) ↔ k + 1 < (pre ++ [y]).length := by omega
  by_cases hk : k + 1 < (pre ++ [y]).length
  · rw [if_pos hk] at en
    have ixb : ixD (.list ((pre ++ [y]).map rowD)) (.int ((k : Int) + 1)) = ret (rowD b) := by
      have q : ((k : Int) + 1) = ((k + 1 : Nat) : Int) := by omega
      rw [q]
      exact ix_l (by rw [List.getElem?_map, en]; rfl)
    simp -implicitDefEqProofs only [wipeE, Tg.slots, k_nx, k_rt, e_nx, e_rt, br_t, br_f, dS_nil, dS_seq, dS_nm, own_list, dS_newL, dS_par, sl_f, sl_t, dS_ite, dS_ret, dS_expr, dS_app, ap_own, dS_aug, au_val, dS_frz, fr_own, asB_bool, asI_int, items_l, items_t, dn_nil, dn_cons, dn_star, lo_l, lo_d, vk, dn_var, ok_, dn_own, dn_lit, dn_glob, dn_bin, dn_neg, dn_not, dn_cmp, dn_chain, ch_t, ch_f, dn_and, dn_or, dn_ite, an_t, an_f, or_t, or_f, it_t, it_f, dn_tup, dn_list, tup0, tup1, tup2, tup3, lst0, lst1, lst2, lst3, dn_ix, dn_slice, dn_call, call1, call2, call3, call4, call5, rk, dn_callR, dn_b1, dn_b2, dn_isI, dn_isTL, dn_range1, dn_range2, dn_zip, b1_len_l, b1_len_t, b1_tup_l, b1_tup_t, b1_list_l, b1_list_t, b1_int, not_b, neg_i, cmp_lt, cmp_le, cmp_gt, cmp_ge, cmp_is, cmp_isnot, cmp_eqi, cmp_nei, bin_add, bin_sub, zip_t, zip_l, dn_comp, dS_for, bnd_ret, bnd_bnd, fn_eq, fnR_eq, List.map_cons, List.map_nil, List.cons_append, List.nil_append, List.append_nil, List.length_cons, List.length_nil, List.replicate_succ, List.replicate_zero, Nat.sub_self, Nat.reduceAdd, Nat.reduceSub, Nat.zero_add, List.set_cons_zero, List.set_cons_succ, List.getElem?_cons_zero, List.getElem?_cons_succ, List.length_map, decide_eq_true (hk1.mpr hk), ixb, items_row]
    rw [lcut_comp (fl := fl) (by simp) (by decide) rfl]
    simp -implicitDefEqProofs only [wipeE, Tg.slots, k_nx, k_rt, e_nx, e_rt, br_t, br_f, dS_nil, dS_seq, dS_nm, own_list, dS_newL, dS_par, sl_f, sl_t, dS_ite, dS_ret, dS_expr, dS_app, ap_own, dS_aug, au_val, dS_frz, fr_own, asB_bool, asI_int, items_l, items_t, dn_nil, dn_cons, dn_star, lo_l, lo_d, vk, dn_var, ok_, dn_own, dn_lit, dn_glob, dn_bin, dn_neg, dn_not, dn_cmp, dn_chain, ch_t, ch_f, dn_and, dn_or, dn_ite, an_t, an_f, or_t, or_f, it_t, it_f, dn_tup, dn_list, tup0, tup1, tup2, tup3, lst0, lst1, lst2, lst3, dn_ix, dn_slice, dn_call, call1, call2, call3, call4, call5, rk, dn_callR, dn_b1, dn_b2, dn_isI, dn_isTL, dn_range1, dn_range2, dn_zip, b1_len_l, b1_len_t, b1_tup_l, b1_tup_t, b1_list_l, b1_list_t, b1_int, not_b, neg_i, cmp_lt, cmp_le, cmp_gt, cmp_ge, cmp_is, cmp_isnot, cmp_eqi, cmp_nei, bin_add, bin_sub, zip_t, zip_l, dn_comp, dS_for, bnd_ret, bnd_bnd, fn_eq, fnR_eq, List.map_cons, List.map_nil, List.cons_append, List.nil_append, List.append_nil, List.length_cons, List.length_nil, List.replicate_succ, List.replicate_zero, Nat.sub_self, Nat.reduceAdd, Nat.reduceSub, Nat.zero_add, List.set_cons_zero, List.set_cons_succ, List.getElem?_cons_zero, List.getElem?_cons_succ, fold2, ne_row hbl hbl, decide_true, Bool.not_true]
  · rw [if_neg hk] at en
    have hab : a = b := Option.some.inj en
    simp -implicitDefEqProofs only [wipeE, Tg.slots, k_nx, k_rt, e_nx, e_rt, br_t, br_f, dS_nil, dS_seq, dS_nm, own_list, dS_newL, dS_par, sl_f, sl_t, dS_ite, dS_ret, dS_expr, dS_app, ap_own, dS_aug, au_val, dS_frz, fr_own, asB_bool, asI_int, items_l, items_t, dn_nil, dn_cons, dn_star, lo_l, lo_d, vk, dn_var, ok_, dn_own, dn_lit, dn_glob, dn_bin, dn_neg, dn_not, dn_cmp, dn_chain, ch_t, ch_f, dn_and, dn_or, dn_ite, an_t, an_f, or_t, or_f, it_t, it_f, dn_tup, dn_list, tup0, tup1, tup2, tup3, lst0, lst1, lst2, lst3, dn_ix, dn_slice, dn_call, call1, call2, call3, call4, call5, rk, dn_callR, dn_b1, dn_b2, dn_isI, dn_isTL, dn_range1, dn_range2, dn_zip, b1_len_l, b1_len_t, b1_tup_l, b1_tup_t, b1_list_l, b1_list_t, b1_int, not_b, neg_i, cmp_lt, cmp_le, cmp_gt, cmp_ge, cmp_is, cmp_isnot, cmp_eqi, cmp_nei, bin_add, bin_sub, zip_t, zip_l, dn_comp, dS_for, bnd_ret, bnd_bnd, fn_eq, fnR_eq, List.map_cons, List.map_nil, List.cons_append, List.nil_append, List.append_nil, List.length_cons, List.length_nil, List.replicate_succ, List.replicate_zero, Nat.sub_self, Nat.reduceAdd, Nat.reduceSub, Nat.zero_add, List.set_cons_zero, List.set_cons_succ, List.getElem?_cons_zero, List.getElem?_cons_succ, List.length_map, decide_eq_false (fun h => hk (hk1.mp h)), ixa, items_row]
    rw [lcut_comp (fl := fl) (by simp) (by decide) rfl]
    simp -implicitDefEqProofs only [wipeE, Tg.slots, k_nx, k_rt, e_nx, e_rt, br_t, br_f, dS_nil, dS_seq, dS_nm, own_list, dS_newL, dS_par, sl_f, sl_t, dS_ite, dS_ret, dS_expr, dS_app, ap_own, dS_aug, au_val, dS_frz, fr_own, asB_bool, asI_int, items_l, items_t, dn_nil, dn_cons, dn_star, lo_l, lo_d, vk, dn_var, ok_, dn_own, dn_lit, dn_glob, dn_bin, dn_neg, dn_not, dn_cmp, dn_chain, ch_t, ch_f, dn_and, dn_or, dn_ite, an_t, an_f, or_t, or_f, it_t, it_f, dn_tup, dn_list, tup0, tup1, tup2, tup3, lst0, lst1, lst2, lst3, dn_ix, dn_slice, dn_call, call1, call2, call3, call4, call5, rk, dn_callR, dn_b1, dn_b2, dn_isI, dn_isTL, dn_range1, dn_range2, dn_zip, b1_len_l, b1_len_t, b1_tup_l, b1_tup_t, b1_list_l, b1_list_t, b1_int, not_b, neg_i, cmp_lt, cmp_le, cmp_gt, cmp_ge, cmp_is, cmp_isnot, cmp_eqi, cmp_nei, bin_add, bin_sub, zip_t, zip_l, dn_comp, dS_for, bnd_ret, bnd_bnd, fn_eq, fnR_eq, List.map_cons, List.map_nil, List.cons_append, List.nil_append, List.append_nil, List.length_cons, List.length_nil, List.replicate_succ, List.replicate_zero, Nat.sub_self, Nat.reduceAdd, Nat.reduceSub, Nat.zero_add, List.set_cons_zero, List.set_cons_succ, List.getElem?_cons_zero, List.getElem?_cons_succ, fold2, ne_row (show a.length ≤ 1000 by omega) hbl, decide_eq_true hab, Bool.not_true]
    rw [← hab]

theorem grid_one {one other : List (List La)} {high wide deep : Nat} {fl lag : Int} {times y z u more g : List La} {pre : List (List La)} (ha : tabOk one high wide) (hb : tabOk other high deep) (fa : fullT one wide) (fb : fullT other deep) (ht : times.length = wide) (hy : y.length = wide) (hg : g.length = wide)
    (sol : ∀ s w, w.length = deep → leL s times → applyOf one s = applyOf other w → leL s y) {y10 y12 y13 y14 y15 y16 y23 y24 y25 y26 : Sl} :
    ∃ z13 z24 z25 z26, forK (.nm 23) LB4 (.int lag) [.no, .row, .val (.int high), .val (.int wide), .val (.int deep), .val (tabD one), .val (tabD other), .val (rowD times), .val (.list ((pre ++ [y]).map rowD)), .val (.int (farT one other)), y10, .val (.int fl), y12, y13, y14, y15, y16, .val (rowD y), .val (rowD z), .val (rowD more), .val (rowD (u.take wide)), .val (rowD (u.drop wide)), .val (rowD g), y23, y24, y25, y26, .no] = ret (.nx [.no, .row, .val (.int high), .val (.int wide), .val (.int deep), .val (tabD one), .val (tabD other), .val (rowD times), .val (.list ((pre ++ [y]).map rowD)), .val (.int (farT one other)), y10, .val (.int fl), y12, z13, y14, y15, y16, .val (rowD y), .val (rowD z), .val (rowD more), .val (rowD (u.take wide)), .val (rowD (u.drop wide)), .val (rowD g), .val (.int lag), z24, z25, z26, .no]) := by
  have w6 : wide ≤ 6 := ha.2.2.2.2.1
  have d6 : deep ≤ 6 := hb.2.2.2.2.1
  have h6 : high ≤ 6 := ha.2.2.1
  have w1000 : wide ≤ 1000 := by omega
  have ra : ∀ r ∈ one, r.length = wide := fun r h => (ha.2.2.2.2.2 r h).1
  have rb : ∀ r ∈ other, r.length = deep := fun r h => (hb.2.2.2.2.2 r h).1
  have hs : (shiftOf g lag).length = wide := by rw [len_shift, hg]
  have s1 : f__law_sums [tabD one, rowD (shiftOf g lag)] = ret (rowD (applyOf one (shiftOf g lag))) := m_lsums ra hs w1000
  have s2 : f__law_back [tabD other, rowD (applyOf one (shiftOf g lag))] = ret (rowD (dividedOf other deep (applyOf one (shiftOf g lag)))) := m_lback hb.2.1 hb.1 rb (by rw [len_apply, ha.1]) (by omega) (by omega) fb
  have s3 : f__law_sums [tabD other, rowD (dividedOf other deep (applyOf one (shiftOf g lag)))] = ret (rowD (applyOf other (dividedOf other deep (applyOf one (shiftOf g lag))))) := m_lsums rb (div_len _ _ _) (by omega)
  refine ⟨.val (rowD (applyOf one (shiftOf g lag))), .val (rowD (shiftOf g lag)), .val (rowD (dividedOf other deep (applyOf one (shiftOf g lag)))), .val (.bool (rowBy (shiftOf g lag) times)), ?_⟩
  unfold forK
  show denS LB4 [.no, .row, .val (.int high), .val (.int wide), .val (.int deep), .val (tabD one), .val (tabD other), .val (rowD times), .val (.list ((pre ++ [y]).map rowD)), .val (.int (farT one other)), y10, .val (.int fl), y12, y13, y14, y15, y16, .val (rowD y), .val (rowD z), .val (rowD more), .val (rowD (u.take wide)), .val (rowD (u.drop wide)), .val (rowD g), .val (.int lag), y24, y25, y26, .no] = _
  unfold LB4
  have n1 := not_ne hs ht w1000
  have n2 := not_ne hs hy w1000
  have l1 : (applyOf other (dividedOf other deep (applyOf one (shiftOf g lag)))).length ≤ 1000 := by rw [len_apply, hb.1]; omega
  have l2 : (applyOf one (shiftOf g lag)).length ≤ 1000 := by rw [len_apply, ha.1]; omega
  simp -implicitDefEqProofs only [wipeE, Tg.slots, k_nx, k_rt, e_nx, e_rt, br_t, br_f, dS_nil, dS_seq, dS_nm, own_list, dS_newL, dS_par, sl_f, sl_t, dS_ite, dS_ret, dS_expr, dS_app, ap_own, dS_aug, au_val, dS_frz, fr_own, asB_bool, asI_int, items_l, items_t, dn_nil, dn_cons, dn_star, lo_l, lo_d, vk, dn_var, ok_, dn_own, dn_lit, dn_glob, dn_bin, dn_neg, dn_not, dn_cmp, dn_chain, ch_t, ch_f, dn_and, dn_or, dn_ite, an_t, an_f, or_t, or_f, it_t, it_f, dn_tup, dn_list, tup0, tup1, tup2, tup3, lst0, lst1, lst2, lst3, dn_ix, dn_slice, dn_call, call1, call2, call3, call4, call5, rk, dn_callR, dn_b1, dn_b2, dn_isI, dn_isTL, dn_range1, dn_range2, dn_zip, b1_len_l, b1_len_t, b1_tup_l, b1_tup_t, b1_list_l, b1_list_t, b1_int, not_b, neg_i, cmp_lt, cmp_le, cmp_gt, cmp_ge, cmp_is, cmp_isnot, cmp_eqi, cmp_nei, bin_add, bin_sub, zip_t, zip_l, dn_comp, dS_for, bnd_ret, bnd_bnd, fn_eq, fnR_eq, List.map_cons, List.map_nil, List.cons_append, List.nil_append, List.append_nil, List.length_cons, List.length_nil, List.replicate_succ, List.replicate_zero, Nat.sub_self, Nat.reduceAdd, Nat.reduceSub, Nat.zero_add, List.set_cons_zero, List.set_cons_succ, List.getElem?_cons_zero, List.getElem?_cons_succ, m_lshift, s1, s2, range0 w1000]
  rw [by_comp (by simp) (by decide) (by decide) rfl rfl hs ht]
  simp -implicitDefEqProofs only [wipeE, Tg.slots, k_nx, k_rt, e_nx, e_rt, br_t, br_f, dS_nil, dS_seq, dS_nm, own_list, dS_newL, dS_par, sl_f, sl_t, dS_ite, dS_ret, dS_expr, dS_app, ap_own, dS_aug, au_val, dS_frz, fr_own, asB_bool, asI_int, items_l, items_t, dn_nil, dn_cons, dn_star, lo_l, lo_d, vk, dn_var, ok_, dn_own, dn_lit, dn_glob, dn_bin, dn_neg, dn_not, dn_cmp, dn_chain, ch_t, ch_f, dn_and, dn_or, dn_ite, an_t, an_f, or_t, or_f, it_t, it_f, dn_tup, dn_list, tup0, tup1, tup2, tup3, lst0, lst1, lst2, lst3, dn_ix, dn_slice, dn_call, call1, call2, call3, call4, call5, rk, dn_callR, dn_b1, dn_b2, dn_isI, dn_isTL, dn_range1, dn_range2, dn_zip, b1_len_l, b1_len_t, b1_tup_l, b1_tup_t, b1_list_l, b1_list_t, b1_int, not_b, neg_i, cmp_lt, cmp_le, cmp_gt, cmp_ge, cmp_is, cmp_isnot, cmp_eqi, cmp_nei, bin_add, bin_sub, zip_t, zip_l, dn_comp, dS_for, bnd_ret, bnd_bnd, fn_eq, fnR_eq, List.map_cons, List.map_nil, List.cons_append, List.nil_append, List.append_nil, List.length_cons, List.length_nil, List.replicate_succ, List.replicate_zero, Nat.sub_self, Nat.reduceAdd, Nat.reduceSub, Nat.zero_add, List.set_cons_zero, List.set_cons_succ, List.getElem?_cons_zero, List.getElem?_cons_succ, n1.2]
  cases e : rowBy (shiftOf g lag) times with
  | false => simp -implicitDefEqProofs only [wipeE, Tg.slots, k_nx, k_rt, e_nx, e_rt, br_t, br_f, dS_nil, dS_seq, dS_nm, own_list, dS_newL, dS_par, sl_f, sl_t, dS_ite, dS_ret, dS_expr, dS_app, ap_own, dS_aug, au_val, dS_frz, fr_own, asB_bool, asI_int, items_l, items_t, dn_nil, dn_cons, dn_star, lo_l, lo_d, vk, dn_var, ok_, dn_own, dn_lit, dn_glob, dn_bin, dn_neg, dn_not, dn_cmp, dn_chain, ch_t, ch_f, dn_and, dn_or, dn_ite, an_t, an_f, or_t, or_f, it_t, it_f, dn_tup, dn_list, tup0, tup1, tup2, tup3, lst0, lst1, lst2, lst3, dn_ix, dn_slice, dn_call, call1, call2, call3, call4, call5, rk, dn_callR, dn_b1, dn_b2, dn_isI, dn_isTL, dn_range1, dn_range2, dn_zip, b1_len_l, b1_len_t, b1_tup_l, b1_tup_t, b1_list_l, b1_list_t, b1_int, not_b, neg_i, cmp_lt, cmp_le, cmp_gt, cmp_ge, cmp_is, cmp_isnot, cmp_eqi, cmp_nei, bin_add, bin_sub, zip_t, zip_l, dn_comp, dS_for, bnd_ret, bnd_bnd, fn_eq, fnR_eq, List.map_cons, List.map_nil, List.cons_append, List.nil_append, List.append_nil, List.length_cons, List.length_nil, List.replicate_succ, List.replicate_zero, Nat.sub_self, Nat.reduceAdd, Nat.reduceSub, Nat.zero_add, List.set_cons_zero, List.set_cons_succ, List.getElem?_cons_zero, List.getElem?_cons_succ]
  | true =>
    simp -implicitDefEqProofs only [wipeE, Tg.slots, k_nx, k_rt, e_nx, e_rt, br_t, br_f, dS_nil, dS_seq, dS_nm, own_list, dS_newL, dS_par, sl_f, sl_t, dS_ite, dS_ret, dS_expr, dS_app, ap_own, dS_aug, au_val, dS_frz, fr_own, asB_bool, asI_int, items_l, items_t, dn_nil, dn_cons, dn_star, lo_l, lo_d, vk, dn_var, ok_, dn_own, dn_lit, dn_glob, dn_bin, dn_neg, dn_not, dn_cmp, dn_chain, ch_t, ch_f, dn_and, dn_or, dn_ite, an_t, an_f, or_t, or_f, it_t, it_f, dn_tup, dn_list, tup0, tup1, tup2, tup3, lst0, lst1, lst2, lst3, dn_ix, dn_slice, dn_call, call1, call2, call3, call4, call5, rk, dn_callR, dn_b1, dn_b2, dn_isI, dn_isTL, dn_range1, dn_range2, dn_zip, b1_len_l, b1_len_t, b1_tup_l, b1_tup_t, b1_list_l, b1_list_t, b1_int, not_b, neg_i, cmp_lt, cmp_le, cmp_gt, cmp_ge, cmp_is, cmp_isnot, cmp_eqi, cmp_nei, bin_add, bin_sub, zip_t, zip_l, dn_comp, dS_for, bnd_ret, bnd_bnd, fn_eq, fnR_eq, List.map_cons, List.map_nil, List.cons_append, List.nil_append, List.append_nil, List.length_cons, List.length_nil, List.replicate_succ, List.replicate_zero, Nat.sub_self, Nat.reduceAdd, Nat.reduceSub, Nat.zero_add, List.set_cons_zero, List.set_cons_succ, List.getElem?_cons_zero, List.getElem?_cons_succ, s3, eq_row l1 l2]
    by_cases h : applyOf other (dividedOf other deep (applyOf one (shiftOf g lag))) = applyOf one (shiftOf g lag)
    · simp -implicitDefEqProofs only [wipeE, Tg.slots, k_nx, k_rt, e_nx, e_rt, br_t, br_f, dS_nil, dS_seq, dS_nm, own_list, dS_newL, dS_par, sl_f, sl_t, dS_ite, dS_ret, dS_expr, dS_app, ap_own, dS_aug, au_val, dS_frz, fr_own, asB_bool, asI_int, items_l, items_t, dn_nil, dn_cons, dn_star, lo_l, lo_d, vk, dn_var, ok_, dn_own, dn_lit, dn_glob, dn_bin, dn_neg, dn_not, dn_cmp, dn_chain, ch_t, ch_f, dn_and, dn_or, dn_ite, an_t, an_f, or_t, or_f, it_t, it_f, dn_tup, dn_list, tup0, tup1, tup2, tup3, lst0, lst1, lst2, lst3, dn_ix, dn_slice, dn_call, call1, call2, call3, call4, call5, rk, dn_callR, dn_b1, dn_b2, dn_isI, dn_isTL, dn_range1, dn_range2, dn_zip, b1_len_l, b1_len_t, b1_tup_l, b1_tup_t, b1_list_l, b1_list_t, b1_int, not_b, neg_i, cmp_lt, cmp_le, cmp_gt, cmp_ge, cmp_is, cmp_isnot, cmp_eqi, cmp_nei, bin_add, bin_sub, zip_t, zip_l, dn_comp, dS_for, bnd_ret, bnd_bnd, fn_eq, fnR_eq, List.map_cons, List.map_nil, List.cons_append, List.nil_append, List.append_nil, List.length_cons, List.length_nil, List.replicate_succ, List.replicate_zero, Nat.sub_self, Nat.reduceAdd, Nat.reduceSub, Nat.zero_add, List.set_cons_zero, List.set_cons_succ, List.getElem?_cons_zero, List.getElem?_cons_succ, decide_eq_true h, range0 w1000]
      rw [by_comp (by simp) (by decide) (by decide) rfl rfl hs hy]
      have q := (rowBy_le (hs.trans hy.symm)).mpr (sol _ _ (div_len _ _ _) ((rowBy_le (hs.trans ht.symm)).mp e) h.symm)
      simp -implicitDefEqProofs only [wipeE, Tg.slots, k_nx, k_rt, e_nx, e_rt, br_t, br_f, dS_nil, dS_seq, dS_nm, own_list, dS_newL, dS_par, sl_f, sl_t, dS_ite, dS_ret, dS_expr, dS_app, ap_own, dS_aug, au_val, dS_frz, fr_own, asB_bool, asI_int, items_l, items_t, dn_nil, dn_cons, dn_star, lo_l, lo_d, vk, dn_var, ok_, dn_own, dn_lit, dn_glob, dn_bin, dn_neg, dn_not, dn_cmp, dn_chain, ch_t, ch_f, dn_and, dn_or, dn_ite, an_t, an_f, or_t, or_f, it_t, it_f, dn_tup, dn_list, tup0, tup1, tup2, tup3, lst0, lst1, lst2, lst3, dn_ix, dn_slice, dn_call, call1, call2, call3, call4, call5, rk, dn_callR, dn_b1, dn_b2, dn_isI, dn_isTL, dn_range1, dn_range2, dn_zip, b1_len_l, b1_len_t, b1_tup_l, b1_tup_t, b1_list_l, b1_list_t, b1_int, not_b, neg_i, cmp_lt, cmp_le, cmp_gt, cmp_ge, cmp_is, cmp_isnot, cmp_eqi, cmp_nei, bin_add, bin_sub, zip_t, zip_l, dn_comp, dS_for, bnd_ret, bnd_bnd, fn_eq, fnR_eq, List.map_cons, List.map_nil, List.cons_append, List.nil_append, List.append_nil, List.length_cons, List.length_nil, List.replicate_succ, List.replicate_zero, Nat.sub_self, Nat.reduceAdd, Nat.reduceSub, Nat.zero_add, List.set_cons_zero, List.set_cons_succ, List.getElem?_cons_zero, List.getElem?_cons_succ, n2.1, q, Bool.not_true]
    · simp -implicitDefEqProofs only [wipeE, Tg.slots, k_nx, k_rt, e_nx, e_rt, br_t, br_f, dS_nil, dS_seq, dS_nm, own_list, dS_newL, dS_par, sl_f, sl_t, dS_ite, dS_ret, dS_expr, dS_app, ap_own, dS_aug, au_val, dS_frz, fr_own, asB_bool, asI_int, items_l, items_t, dn_nil, dn_cons, dn_star, lo_l, lo_d, vk, dn_var, ok_, dn_own, dn_lit, dn_glob, dn_bin, dn_neg, dn_not, dn_cmp, dn_chain, ch_t, ch_f, dn_and, dn_or, dn_ite, an_t, an_f, or_t, or_f, it_t, it_f, dn_tup, dn_list, tup0, tup1, tup2, tup3, lst0, lst1, lst2, lst3, dn_ix, dn_slice, dn_call, call1, call2, call3, call4, call5, rk, dn_callR, dn_b1, dn_b2, dn_isI, dn_isTL, dn_range1, dn_range2, dn_zip, b1_len_l, b1_len_t, b1_tup_l, b1_tup_t, b1_list_l, b1_list_t, b1_int, not_b, neg_i, cmp_lt, cmp_le, cmp_gt, cmp_ge, cmp_is, cmp_isnot, cmp_eqi, cmp_nei, bin_add, bin_sub, zip_t, zip_l, dn_comp, dS_for, bnd_ret, bnd_bnd, fn_eq, fnR_eq, List.map_cons, List.map_nil, List.cons_append, List.nil_append, List.append_nil, List.length_cons, List.length_nil, List.replicate_succ, List.replicate_zero, Nat.sub_self, Nat.reduceAdd, Nat.reduceSub, Nat.zero_add, List.set_cons_zero, List.set_cons_succ, List.getElem?_cons_zero, List.getElem?_cons_succ, decide_eq_false h]

end Dn.DL
namespace Dn.DL
open PySem
theorem grid_two {one other : List (List La)} {high wide deep : Nat} {fl : Int} {times y z u more g : List La} {pre : List (List La)} (ha : tabOk one high wide) (hb : tabOk other high deep) (fa : fullT one wide) (fb : fullT other deep) (ht : times.length = wide) (hy : y.length = wide) (hg : g.length = wide)
    (sol : ∀ s w, w.length = deep → leL s times → applyOf one s = applyOf other w → leL s y) {y10 y12 y13 y14 y15 y16 y22 y23 y24 y25 y26 : Sl} :
    ∃ z13 z23 z24 z25 z26, forK (.nm 22) LB3 (rowD g) [.no, .row, .val (.int high), .val (.int wide), .val (.int deep), .val (tabD one), .val (tabD other), .val (rowD times), .val (.list ((pre ++ [y]).map rowD)), .val (.int (farT one other)), y10, .val (.int fl), y12, y13, y14, y15, y16, .val (rowD y), .val (rowD z), .val (rowD more), .val (rowD (u.take wide)), .val (rowD (u.drop wide)), y22, y23, y24, y25, y26, .no] = ret (.nx [.no, .row, .val (.int high), .val (.int wide), .val (.int deep), .val (tabD one), .val (tabD other), .val (rowD times), .val (.list ((pre ++ [y]).map rowD)), .val (.int (farT one other)), y10, .val (.int fl), y12, z13, y14, y15, y16, .val (rowD y), .val (rowD z), .val (rowD more), .val (rowD (u.take wide)), .val (rowD (u.drop wide)), .val (rowD g), z23, z24, z25, z26, .no]) := by
  obtain ⟨ρ', e, z13, z23, z24, z25, z26, e2⟩ := for_run (t := .nm 23) (B := LB4) (enc := fun (i : Int) => PyData.int i) (xs := [-2, 1, 4]) (s := ())
    (ρ := [.no, .row, .val (.int high), .val (.int wide), .val (.int deep), .val (tabD one), .val (tabD other), .val (rowD times), .val (.list ((pre ++ [y]).map rowD)), .val (.int (farT one other)), y10, .val (.int fl), y12, y13, y14, y15, y16, .val (rowD y), .val (rowD z), .val (rowD more), .val (rowD (u.take wide)), .val (rowD (u.drop wide)), .val (rowD g), y23, y24, y25, y26, .no])
    (fun (_ : Unit) ρ => ∃ z13 z23 z24 z25 z26, ρ = [.no, .row, .val (.int high), .val (.int wide), .val (.int deep), .val (tabD one), .val (tabD other), .val (rowD times), .val (.list ((pre ++ [y]).map rowD)), .val (.int (farT one other)), y10, .val (.int fl), y12, z13, y14, y15, y16, .val (rowD y), .val (rowD z), .val (rowD more), .val (rowD (u.take wide)), .val (rowD (u.drop wide)), .val (rowD g), z23, z24, z25, z26, .no]) (fun _ _ => ()) ⟨_, _, _, _, _, rfl⟩ (fun s lag ρ _ ⟨z13, z23, z24, z25, z26, e⟩ => by
      subst e
      obtain ⟨w13, w24, w25, w26, e⟩ := grid_one (lag := lag) (u := u) (more := more) (z := z) (pre := pre) (fl := fl) ha hb fa fb ht hy hg sol (y10 := y10) (y12 := y12) (y13 := z13) (y14 := y14) (y15 := y15) (y16 := y16) (y23 := z23) (y24 := z24) (y25 := z25) (y26 := z26)
      exact ⟨_, e, _, _, _, _, _, rfl⟩)
  subst e2
  refine ⟨z13, z23, z24, z25, z26, ?_⟩
  unfold forK
  show denS LB3 [.no, .row, .val (.int high), .val (.int wide), .val (.int deep), .val (tabD one), .val (tabD other), .val (rowD times), .val (.list ((pre ++ [y]).map rowD)), .val (.int (farT one other)), y10, .val (.int fl), y12, y13, y14, y15, y16, .val (rowD y), .val (rowD z), .val (rowD more), .val (rowD (u.take wide)), .val (rowD (u.drop wide)), .val (rowD g), y23, y24, y25, y26, .no] = _
  unfold LB3
  have el : ([PyData.int (-2), PyData.int 1, PyData.int 4] : List D) = [(-2 : Int), 1, 4].map fun (i : Int) => PyData.int i := rfl
  simp -implicitDefEqProofs only [wipeE, Tg.slots, k_nx, k_rt, e_nx, e_rt, br_t, br_f, dS_nil, dS_seq, dS_nm, own_list, dS_newL, dS_par, sl_f, sl_t, dS_ite, dS_ret, dS_expr, dS_app, ap_own, dS_aug, au_val, dS_frz, fr_own, asB_bool, asI_int, items_l, items_t, dn_nil, dn_cons, dn_star, lo_l, lo_d, vk, dn_var, ok_, dn_own, dn_lit, dn_glob, dn_bin, dn_neg, dn_not, dn_cmp, dn_chain, ch_t, ch_f, dn_and, dn_or, dn_ite, an_t, an_f, or_t, or_f, it_t, it_f, dn_tup, dn_list, tup0, tup1, tup2, tup3, lst0, lst1, lst2, lst3, dn_ix, dn_slice, dn_call, call1, call2, call3, call4, call5, rk, dn_callR, dn_b1, dn_b2, dn_isI, dn_isTL, dn_range1, dn_range2, dn_zip, b1_len_l, b1_len_t, b1_tup_l, b1_tup_t, b1_list_l, b1_list_t, b1_int, not_b, neg_i, cmp_lt, cmp_le, cmp_gt, cmp_ge, cmp_is, cmp_isnot, cmp_eqi, cmp_nei, bin_add, bin_sub, zip_t, zip_l, dn_comp, dS_for, bnd_ret, bnd_bnd, fn_eq, fnR_eq, List.map_cons, List.map_nil, List.cons_append, List.nil_append, List.append_nil, List.length_cons, List.length_nil, List.replicate_succ, List.replicate_zero, Nat.sub_self, Nat.reduceAdd, Nat.reduceSub, Nat.zero_add, List.set_cons_zero, List.set_cons_succ, List.getElem?_cons_zero, List.getElem?_cons_succ]
  rw [el, e]
  simp -implicitDefEqProofs only [wipeE, Tg.slots, k_nx, k_rt, e_nx, e_rt, br_t, br_f, dS_nil, dS_seq, dS_nm, own_list, dS_newL, dS_par, sl_f, sl_t, dS_ite, dS_ret, dS_expr, dS_app, ap_own, dS_aug, au_val, dS_frz, fr_own, asB_bool, asI_int, items_l, items_t, dn_nil, dn_cons, dn_star, lo_l, lo_d, vk, dn_var, ok_, dn_own, dn_lit, dn_glob, dn_bin, dn_neg, dn_not, dn_cmp, dn_chain, ch_t, ch_f, dn_and, dn_or, dn_ite, an_t, an_f, or_t, or_f, it_t, it_f, dn_tup, dn_list, tup0, tup1, tup2, tup3, lst0, lst1, lst2, lst3, dn_ix, dn_slice, dn_call, call1, call2, call3, call4, call5, rk, dn_callR, dn_b1, dn_b2, dn_isI, dn_isTL, dn_range1, dn_range2, dn_zip, b1_len_l, b1_len_t, b1_tup_l, b1_tup_t, b1_list_l, b1_list_t, b1_int, not_b, neg_i, cmp_lt, cmp_le, cmp_gt, cmp_ge, cmp_is, cmp_isnot, cmp_eqi, cmp_nei, bin_add, bin_sub, zip_t, zip_l, dn_comp, dS_for, bnd_ret, bnd_bnd, fn_eq, fnR_eq, List.map_cons, List.map_nil, List.cons_append, List.nil_append, List.append_nil, List.length_cons, List.length_nil, List.replicate_succ, List.replicate_zero, Nat.sub_self, Nat.reduceAdd, Nat.reduceSub, Nat.zero_add, List.set_cons_zero, List.set_cons_succ, List.getElem?_cons_zero, List.getElem?_cons_succ]
theorem law_does : Does (denS B_law (lawEv 26)) fun o => o = .rt (.bool true) := by
  unfold B_law lawEv
  simp -implicitDefEqProofs only [dS_seq, dS_asg, dS_nm]
  simp -implicitDefEqProofs only [wipeE, Tg.slots, k_nx, k_rt, e_nx, e_rt, br_t, br_f, dS_nil, dS_seq, dS_nm, own_list, dS_newL, dS_par, sl_f, sl_t, dS_ite, dS_ret, dS_expr, dS_app, ap_own, dS_aug, au_val, dS_frz, fr_own, asB_bool, asI_int, items_l, items_t, dn_nil, dn_cons, dn_star, lo_l, lo_d, vk, dn_var, ok_, dn_own, dn_lit, dn_glob, dn_bin, dn_neg, dn_not, dn_cmp, dn_chain, ch_t, ch_f, dn_and, dn_or, dn_ite, an_t, an_f, or_t, or_f, it_t, it_f, dn_tup, dn_list, tup0, tup1, tup2, tup3, lst0, lst1, lst2, lst3, dn_ix, dn_slice, dn_call, call1, call2, call3, call4, call5, rk, dn_callR, dn_b1, dn_b2, dn_isI, dn_isTL, dn_range1, dn_range2, dn_zip, b1_len_l, b1_len_t, b1_tup_l, b1_tup_t, b1_list_l, b1_list_t, b1_int, not_b, neg_i, cmp_lt, cmp_le, cmp_gt, cmp_ge, cmp_is, cmp_isnot, cmp_eqi, cmp_nei, bin_add, bin_sub, zip_t, zip_l, dn_comp, dS_for, bnd_ret, bnd_bnd, fn_eq, fnR_eq, List.map_cons, List.map_nil, List.cons_append, List.nil_append, List.append_nil, List.length_cons, List.length_nil, List.replicate_succ, List.replicate_zero, Nat.sub_self, Nat.reduceAdd, Nat.reduceSub, Nat.zero_add, List.set_cons_zero, List.set_cons_succ, List.getElem?_cons_zero, List.getElem?_cons_succ]
  refine (taken_does (by decide)).bnd fun d ⟨k1, e, g1, g2⟩ => ?_
  subst e
  obtain ⟨high, hh⟩ : ∃ w : Nat, 1 + k1 = (w : Int) := ⟨(1 + k1).toNat, by omega⟩
  have h1 : 1 ≤ high := by omega
  have h6 : high ≤ 3 := by omega
  simp -implicitDefEqProofs only [wipeE, Tg.slots, k_nx, k_rt, e_nx, e_rt, br_t, br_f, dS_nil, dS_seq, dS_nm, own_list, dS_newL, dS_par, sl_f, sl_t, dS_ite, dS_ret, dS_expr, dS_app, ap_own, dS_aug, au_val, dS_frz, fr_own, asB_bool, asI_int, items_l, items_t, dn_nil, dn_cons, dn_star, lo_l, lo_d, vk, dn_var, ok_, dn_own, dn_lit, dn_glob, dn_bin, dn_neg, dn_not, dn_cmp, dn_chain, ch_t, ch_f, dn_and, dn_or, dn_ite, an_t, an_f, or_t, or_f, it_t, it_f, dn_tup, dn_list, tup0, tup1, tup2, tup3, lst0, lst1, lst2, lst3, dn_ix, dn_slice, dn_call, call1, call2, call3, call4, call5, rk, dn_callR, dn_b1, dn_b2, dn_isI, dn_isTL, dn_range1, dn_range2, dn_zip, b1_len_l, b1_len_t, b1_tup_l, b1_tup_t, b1_list_l, b1_list_t, b1_int, not_b, neg_i, cmp_lt, cmp_le, cmp_gt, cmp_ge, cmp_is, cmp_isnot, cmp_eqi, cmp_nei, bin_add, bin_sub, zip_t, zip_l, dn_comp, dS_for, bnd_ret, bnd_bnd, fn_eq, fnR_eq, List.map_cons, List.map_nil, List.cons_append, List.nil_append, List.append_nil, List.length_cons, List.length_nil, List.replicate_succ, List.replicate_zero, Nat.sub_self, Nat.reduceAdd, Nat.reduceSub, Nat.zero_add, List.set_cons_zero, List.set_cons_succ, List.getElem?_cons_zero, List.getElem?_cons_succ, hh]
  refine (taken_does (by decide)).bnd fun d ⟨k2, e, g3, g4⟩ => ?_
  subst e
  obtain ⟨wide, hw⟩ : ∃ w : Nat, 1 + k2 = (w : Int) := ⟨(1 + k2).toNat, by omega⟩
  have w1 : 1 ≤ wide := by omega
  have w6 : wide ≤ 3 := by omega
  simp -implicitDefEqProofs only [wipeE, Tg.slots, k_nx, k_rt, e_nx, e_rt, br_t, br_f, dS_nil, dS_seq, dS_nm, own_list, dS_newL, dS_par, sl_f, sl_t, dS_ite, dS_ret, dS_expr, dS_app, ap_own, dS_aug, au_val, dS_frz, fr_own, asB_bool, asI_int, items_l, items_t, dn_nil, dn_cons, dn_star, lo_l, lo_d, vk, dn_var, ok_, dn_own, dn_lit, dn_glob, dn_bin, dn_neg, dn_not, dn_cmp, dn_chain, ch_t, ch_f, dn_and, dn_or, dn_ite, an_t, an_f, or_t, or_f, it_t, it_f, dn_tup, dn_list, tup0, tup1, tup2, tup3, lst0, lst1, lst2, lst3, dn_ix, dn_slice, dn_call, call1, call2, call3, call4, call5, rk, dn_callR, dn_b1, dn_b2, dn_isI, dn_isTL, dn_range1, dn_range2, dn_zip, b1_len_l, b1_len_t, b1_tup_l, b1_tup_t, b1_list_l, b1_list_t, b1_int, not_b, neg_i, cmp_lt, cmp_le, cmp_gt, cmp_ge, cmp_is, cmp_isnot, cmp_eqi, cmp_nei, bin_add, bin_sub, zip_t, zip_l, dn_comp, dS_for, bnd_ret, bnd_bnd, fn_eq, fnR_eq, List.map_cons, List.map_nil, List.cons_append, List.nil_append, List.append_nil, List.length_cons, List.length_nil, List.replicate_succ, List.replicate_zero, Nat.sub_self, Nat.reduceAdd, Nat.reduceSub, Nat.zero_add, List.set_cons_zero, List.set_cons_succ, List.getElem?_cons_zero, List.getElem?_cons_succ, hw]
  refine (taken_does (by decide)).bnd fun d ⟨k3, e, g5, g6⟩ => ?_
  subst e
  obtain ⟨deep, hd⟩ : ∃ w : Nat, 1 + k3 = (w : Int) := ⟨(1 + k3).toNat, by omega⟩
  have d1 : 1 ≤ deep := by omega
  have d6 : deep ≤ 3 := by omega
  simp -implicitDefEqProofs only [wipeE, Tg.slots, k_nx, k_rt, e_nx, e_rt, br_t, br_f, dS_nil, dS_seq, dS_nm, own_list, dS_newL, dS_par, sl_f, sl_t, dS_ite, dS_ret, dS_expr, dS_app, ap_own, dS_aug, au_val, dS_frz, fr_own, asB_bool, asI_int, items_l, items_t, dn_nil, dn_cons, dn_star, lo_l, lo_d, vk, dn_var, ok_, dn_own, dn_lit, dn_glob, dn_bin, dn_neg, dn_not, dn_cmp, dn_chain, ch_t, ch_f, dn_and, dn_or, dn_ite, an_t, an_f, or_t, or_f, it_t, it_f, dn_tup, dn_list, tup0, tup1, tup2, tup3, lst0, lst1, lst2, lst3, dn_ix, dn_slice, dn_call, call1, call2, call3, call4, call5, rk, dn_callR, dn_b1, dn_b2, dn_isI, dn_isTL, dn_range1, dn_range2, dn_zip, b1_len_l, b1_len_t, b1_tup_l, b1_tup_t, b1_list_l, b1_list_t, b1_int, not_b, neg_i, cmp_lt, cmp_le, cmp_gt, cmp_ge, cmp_is, cmp_isnot, cmp_eqi, cmp_nei, bin_add, bin_sub, zip_t, zip_l, dn_comp, dS_for, bnd_ret, bnd_bnd, fn_eq, fnR_eq, List.map_cons, List.map_nil, List.cons_append, List.nil_append, List.append_nil, List.length_cons, List.length_nil, List.replicate_succ, List.replicate_zero, Nat.sub_self, Nat.reduceAdd, Nat.reduceSub, Nat.zero_add, List.set_cons_zero, List.set_cons_succ, List.getElem?_cons_zero, List.getElem?_cons_succ, hd, dS_asg, bindT]
  refine (m_lfull h1 (by omega) (by omega) w1).bnd fun d ⟨one, e, o1, o2, o3⟩ => ?_
  subst e
  refine (m_lfull h1 (by omega) (by omega) d1).bnd fun d ⟨other, e, p1, p2, p3⟩ => ?_
  subst e
  refine (row_does (show wide ≤ 1000 by omega) (by decide) (by decide)).bnd fun d ⟨times, e, t1, t2⟩ => ?_
  subst e
  have hT : tabOk one high wide := ⟨o1, h1, by omega, w1, by omega, fun r hr => rowOk_of (o2 r hr).1 (o2 r hr).2 (by decide)⟩
  have hO : tabOk other high deep := ⟨p1, h1, by omega, d1, by omega, fun r hr => rowOk_of (p2 r hr).1 (p2 r hr).2 (by decide)⟩
  have hX : rowOk times wide := rowOk_of t1 t2 (by decide)
  have fa : fullT one wide := fun k hk => by
    obtain ⟨r, hr, hn⟩ := o3
    exact ⟨r, hr, fun e => by
      have hk2 : k < r.length := by rw [(o2 r hr).1]; exact hk
      unfold getL at e
      rw [List.getElem?_eq_getElem hk2] at e
      exact hn _ (List.getElem_mem hk2) e⟩
  have fb : fullT other deep := fun k hk => by
    obtain ⟨r, hr, hn⟩ := p3
    exact ⟨r, hr, fun e => by
      have hk2 : k < r.length := by rw [(p2 r hr).1]; exact hk
      unfold getL at e
      rw [List.getElem?_eq_getElem hk2] at e
      exact hn _ (List.getElem_mem hk2) e⟩
  have b1 : ∀ r ∈ one, ∀ v, some v ∈ r → -3 ≤ v ∧ v ≤ 3 := fun r hr v hv => (o2 r hr).2 _ hv
  have b2 : ∀ r ∈ other, ∀ v, some v ∈ r → -3 ≤ v ∧ v ≤ 3 := fun r hr v hv => (p2 r hr).2 _ hv
  have bt : ∀ v, some v ∈ times → -4 ≤ v ∧ v ≤ 4 := fun v hv => t2 _ hv
  have hfar0 : 0 ≤ farT one other := far_nonneg _
  have hfar3 : farT one other ≤ 3 := by
    have sp : farT one other ∈ 0 :: (one ++ other).map farRow := (maxI_spec ((one ++ other).map farRow) 0).1
    rcases List.mem_cons.mp sp with e | e
    · omega
    · obtain ⟨r, hr, e⟩ := List.mem_map.mp e
      rw [← e]
      have sp2 : farRow r ∈ 0 :: absRow r := (maxI_spec (absRow r) 0).1
      rcases List.mem_cons.mp sp2 with e2 | e2
      · omega
      · obtain ⟨a, ha1, e2⟩ := List.mem_map.mp e2
        obtain ⟨ha1, ha2⟩ := List.mem_filter.mp ha1
        rw [← e2]
        cases a with
        | none => cases ha2
        | some v =>
          have : -3 ≤ v ∧ v ≤ 3 := (List.mem_append.mp hr).elim (fun h => b1 r h v ha1) fun h => b2 r h v ha1
          show (if v < 0 then -v else v) ≤ 3
          split <;> omega
  have hfl : ∃ fl : Int, minI (99 :: valsOf times) - 2 * ((wide : Int) + (deep : Int)) * farT one other = fl := ⟨_, rfl⟩
  obtain ⟨fl, hfl⟩ := hfl
  have hlow : -40 ≤ fl := by
    have m1 : -4 ≤ minI (99 :: valsOf times) := by
      rcases List.mem_cons.mp (minI_spec (valsOf times) 99).1 with e | e
      · have e : minI (99 :: valsOf times) = 99 := e
        omega
      · obtain ⟨a, ha, e2⟩ := List.mem_map.mp (show minI (99 :: valsOf times) ∈ (times.filter Option.isSome).map fun a => a.getD 0 from e)
        obtain ⟨ha1, ha2⟩ := List.mem_filter.mp ha
        cases a with
        | none => cases ha2
        | some v =>
          have e2 : v = minI (99 :: valsOf times) := e2
          have := bt v ha1
          omega
    have m2 : 2 * ((wide : Int) + (deep : Int)) * farT one other ≤ 2 * ((wide : Int) + (deep : Int)) * 3 := Int.mul_le_mul_of_nonneg_left hfar3 (by omega)
    omega
  obtain ⟨pre, y, eT, yfix, yle, ych, ylen, sol⟩ := turns_any hT hO (show wide + deep ≤ 6 by omega) hX fa fb fl (fun hv => by
    rw [← hfl, min99 (fun v hv => (bt v hv).2) hv]
    rfl)
  have yl : y.length = wide := (leL_len yle).trans t1
  simp -implicitDefEqProofs only [wipeE, Tg.slots, k_nx, k_rt, e_nx, e_rt, br_t, br_f, dS_nil, dS_seq, dS_nm, own_list, dS_newL, dS_par, sl_f, sl_t, dS_ite, dS_ret, dS_expr, dS_app, ap_own, dS_aug, au_val, dS_frz, fr_own, asB_bool, asI_int, items_l, items_t, dn_nil, dn_cons, dn_star, lo_l, lo_d, vk, dn_var, ok_, dn_own, dn_lit, dn_glob, dn_bin, dn_neg, dn_not, dn_cmp, dn_chain, ch_t, ch_f, dn_and, dn_or, dn_ite, an_t, an_f, or_t, or_f, it_t, it_f, dn_tup, dn_list, tup0, tup1, tup2, tup3, lst0, lst1, lst2, lst3, dn_ix, dn_slice, dn_call, call1, call2, call3, call4, call5, rk, dn_callR, dn_b1, dn_b2, dn_isI, dn_isTL, dn_range1, dn_range2, dn_zip, b1_len_l, b1_len_t, b1_tup_l, b1_tup_t, b1_list_l, b1_list_t, b1_int, not_b, neg_i, cmp_lt, cmp_le, cmp_gt, cmp_ge, cmp_is, cmp_isnot, cmp_eqi, cmp_nei, bin_add, bin_sub, zip_t, zip_l, dn_comp, dS_for, bnd_ret, bnd_bnd, fn_eq, fnR_eq, List.map_cons, List.map_nil, List.cons_append, List.nil_append, List.append_nil, List.length_cons, List.length_nil, List.replicate_succ, List.replicate_zero, Nat.sub_self, Nat.reduceAdd, Nat.reduceSub, Nat.zero_add, List.set_cons_zero, List.set_cons_succ, List.getElem?_cons_zero, List.getElem?_cons_succ, eT]
  have hadd : binD .add (tabD one) (tabD other) = ret (.tuple ((one ++ other).map rowD)) := by
    unfold tabD
    rw [add_tt (by rw [List.length_map, List.length_map, o1, p1]; exact Nat.le_trans (Nat.add_le_add h6 h6) (by decide)), ← List.map_append]
  simp -implicitDefEqProofs only [wipeE, Tg.slots, k_nx, k_rt, e_nx, e_rt, br_t, br_f, dS_nil, dS_seq, dS_nm, own_list, dS_newL, dS_par, sl_f, sl_t, dS_ite, dS_ret, dS_expr, dS_app, ap_own, dS_aug, au_val, dS_frz, fr_own, asB_bool, asI_int, items_l, items_t, dn_nil, dn_cons, dn_star, lo_l, lo_d, vk, dn_var, ok_, dn_own, dn_lit, dn_glob, dn_bin, dn_neg, dn_not, dn_cmp, dn_chain, ch_t, ch_f, dn_and, dn_or, dn_ite, an_t, an_f, or_t, or_f, it_t, it_f, dn_tup, dn_list, tup0, tup1, tup2, tup3, lst0, lst1, lst2, lst3, dn_ix, dn_slice, dn_call, call1, call2, call3, call4, call5, rk, dn_callR, dn_b1, dn_b2, dn_isI, dn_isTL, dn_range1, dn_range2, dn_zip, b1_len_l, b1_len_t, b1_tup_l, b1_tup_t, b1_list_l, b1_list_t, b1_int, not_b, neg_i, cmp_lt, cmp_le, cmp_gt, cmp_ge, cmp_is, cmp_isnot, cmp_eqi, cmp_nei, bin_add, bin_sub, zip_t, zip_l, dn_comp, dS_for, bnd_ret, bnd_bnd, fn_eq, fnR_eq, List.map_cons, List.map_nil, List.cons_append, List.nil_append, List.append_nil, List.length_cons, List.length_nil, List.replicate_succ, List.replicate_zero, Nat.sub_self, Nat.reduceAdd, Nat.reduceSub, Nat.zero_add, List.set_cons_zero, List.set_cons_succ, List.getElem?_cons_zero, List.getElem?_cons_succ, hadd]
  obtain ⟨ρ', e1, y10, e2⟩ := for_run (t := .nm 10) (B := farB) (enc := rowD) (xs := one ++ other) (s := (0 : Int)) (ρ := [.no, .row, .val (.int high), .val (.int wide), .val (.int deep), .val (tabD one), .val (tabD other), .val (rowD times), .val (.list ((pre ++ [y]).map rowD)), .val (.int 0), .no, .no, .no, .no, .no, .no, .no, .no, .no, .no, .no, .no, .no, .no, .no, .no, .no, .no])
    (fun (far : Int) ρ => ∃ y10, ρ = [.no, .row, .val (.int high), .val (.int wide), .val (.int deep), .val (tabD one), .val (tabD other), .val (rowD times), .val (.list ((pre ++ [y]).map rowD)), .val (.int far), y10, .no, .no, .no, .no, .no, .no, .no, .no, .no, .no, .no, .no, .no, .no, .no, .no, .no]) (fun far r => maxI (far :: absRow r)) ⟨_, rfl⟩ (fun far r ρ hr ⟨y10, e⟩ => by
      subst e
      refine ⟨_, far_one rfl (by simp) ?_, _, rfl⟩
      rcases List.mem_append.mp hr with h | h
      · rw [(o2 r h).1]; omega
      · rw [(p2 r h).1]; omega)
  subst e2
  rw [e1]
  rw [far_fold _ _ (Int.le_refl 0), show maxI (0 :: (one ++ other).map farRow) = farT one other from rfl]
  simp -implicitDefEqProofs only [wipeE, Tg.slots, k_nx, k_rt, e_nx, e_rt, br_t, br_f, dS_nil, dS_seq, dS_nm, own_list, dS_newL, dS_par, sl_f, sl_t, dS_ite, dS_ret, dS_expr, dS_app, ap_own, dS_aug, au_val, dS_frz, fr_own, asB_bool, asI_int, items_l, items_t, dn_nil, dn_cons, dn_star, lo_l, lo_d, vk, dn_var, ok_, dn_own, dn_lit, dn_glob, dn_bin, dn_neg, dn_not, dn_cmp, dn_chain, ch_t, ch_f, dn_and, dn_or, dn_ite, an_t, an_f, or_t, or_f, it_t, it_f, dn_tup, dn_list, tup0, tup1, tup2, tup3, lst0, lst1, lst2, lst3, dn_ix, dn_slice, dn_call, call1, call2, call3, call4, call5, rk, dn_callR, dn_b1, dn_b2, dn_isI, dn_isTL, dn_range1, dn_range2, dn_zip, b1_len_l, b1_len_t, b1_tup_l, b1_tup_t, b1_list_l, b1_list_t, b1_int, not_b, neg_i, cmp_lt, cmp_le, cmp_gt, cmp_ge, cmp_is, cmp_isnot, cmp_eqi, cmp_nei, bin_add, bin_sub, zip_t, zip_l, dn_comp, dS_for, bnd_ret, bnd_bnd, fn_eq, fnR_eq, List.map_cons, List.map_nil, List.cons_append, List.nil_append, List.append_nil, List.length_cons, List.length_nil, List.replicate_succ, List.replicate_zero, Nat.sub_self, Nat.reduceAdd, Nat.reduceSub, Nat.zero_add, List.set_cons_zero, List.set_cons_succ, List.getElem?_cons_zero, List.getElem?_cons_succ, items_row]
  rw [some_comp (by simp)]
  have hl99 : 1 + ((times.filter Option.isSome).map fun a => PyData.int (a.getD 0)).length ≤ sizeLine := by
    rw [List.length_map]
    exact small_line (Nat.le_trans (List.length_filter_le ..) (by omega))
  have hmin : b1D .min (.list (PyData.int 99 :: (times.filter Option.isSome).map fun a => PyData.int (a.getD 0))) = ret (.int (minI (99 :: valsOf times))) := by
    show (match intsOf (PyData.int 99 :: (times.filter Option.isSome).map fun a => PyData.int (a.getD 0)) with | some (n :: ns) => (ret (.int (minI (n :: ns))) : M D) | _ => bad) = _
    rw [show intsOf (PyData.int 99 :: (times.filter Option.isSome).map fun a => PyData.int (a.getD 0)) = some (99 :: valsOf times) by rw [intsOf, ints_map]; rfl]
  have hb1 : (big 2 || big ((wide : Int) + (deep : Int))) = true := big_two _
  have hb2 : (big (2 * ((wide : Int) + (deep : Int))) || big (farT one other)) = true := big_small ⟨hfar0, by omega⟩
  have hix0 : ixD (.list ((pre ++ [y]).map rowD)) (.int 0) = ret (rowD times) := ix_l (k := 0) (by rw [List.getElem?_map, ych.1]; rfl)
  have ht1000 : times.length ≤ 1000 := by omega
  have hn1 : (((pre ++ [y]).length : Nat) : Int) - 1 = ((pre.length : Nat) : Int) := by rw [List.length_append, List.length_singleton]; omega
  simp -implicitDefEqProofs only [wipeE, Tg.slots, k_nx, k_rt, e_nx, e_rt, br_t, br_f, dS_nil, dS_seq, dS_nm, own_list, dS_newL, dS_par, sl_f, sl_t, dS_ite, dS_ret, dS_expr, dS_app, ap_own, dS_aug, au_val, dS_frz, fr_own, asB_bool, asI_int, items_l, items_t, dn_nil, dn_cons, dn_star, lo_l, lo_d, vk, dn_var, ok_, dn_own, dn_lit, dn_glob, dn_bin, dn_neg, dn_not, dn_cmp, dn_chain, ch_t, ch_f, dn_and, dn_or, dn_ite, an_t, an_f, or_t, or_f, it_t, it_f, dn_tup, dn_list, tup0, tup1, tup2, tup3, lst0, lst1, lst2, lst3, dn_ix, dn_slice, dn_call, call1, call2, call3, call4, call5, rk, dn_callR, dn_b1, dn_b2, dn_isI, dn_isTL, dn_range1, dn_range2, dn_zip, b1_len_l, b1_len_t, b1_tup_l, b1_tup_t, b1_list_l, b1_list_t, b1_int, not_b, neg_i, cmp_lt, cmp_le, cmp_gt, cmp_ge, cmp_is, cmp_isnot, cmp_eqi, cmp_nei, bin_add, bin_sub, zip_t, zip_l, dn_comp, dS_for, bnd_ret, bnd_bnd, fn_eq, fnR_eq, List.map_cons, List.map_nil, List.cons_append, List.nil_append, List.append_nil, List.length_cons, List.length_nil, List.replicate_succ, List.replicate_zero, Nat.sub_self, Nat.reduceAdd, Nat.reduceSub, Nat.zero_add, List.set_cons_zero, List.set_cons_succ, List.getElem?_cons_zero, List.getElem?_cons_succ, add_ll (xs := [PyData.int 99]) hl99, hmin, bin_mul hb1, bin_mul hb2, hfl, hix0, ne_row ht1000 ht1000, decide_true, Bool.not_true, List.length_map, hn1, rangeN (show pre.length ≤ 1000000 by omega)]
  have hlen : ∀ (k : Nat) a, (pre ++ [y])[k]? = some a → a.length = wide := fun k a e => by
    have hlt : k < (pre ++ [y]).length := (List.getElem?_eq_some_iff.mp e).1
    have go : ∀ (k : Nat) a, (pre ++ [y])[k]? = some a → a.length = wide := fun k => by
      induction k with
      | zero => intro a e; rw [ych.1] at e; cases e; exact t1
      | succ k ih =>
        intro a e
        have hk : k + 1 < (pre ++ [y]).length := (List.getElem?_eq_some_iff.mp e).1
        obtain ⟨b, eb⟩ : ∃ b, (pre ++ [y])[k]? = some b := ⟨_, List.getElem?_eq_getElem (by omega)⟩
        rw [(ych.2 k b a eb e).1, leL_len (next_le (ih b eb)), ih b eb]
    exact go k a e
  rw [cmpFil (xs := List.range pre.length) (enc := fun (i : Nat) => PyData.int (i : Int)) (g := fun k => PyData.int k) (p := fun _ => false) fun k hk => by
    have hk := List.mem_range.mp hk
    have hk1 : k + 1 < (pre ++ [y]).length := by rw [List.length_append, List.length_singleton]; omega
    obtain ⟨a, ea⟩ : ∃ b, (pre ++ [y])[k]? = some b := ⟨_, List.getElem?_eq_getElem (by omega)⟩
    obtain ⟨b, eb⟩ : ∃ b, (pre ++ [y])[k + 1]? = some b := ⟨_, List.getElem?_eq_getElem hk1⟩
    have i1 : ixD (.list ((pre ++ [y]).map rowD)) (.int (k : Int)) = ret (rowD a) := ix_l (by rw [List.getElem?_map, ea]; rfl)
    have i2 : ixD (.list ((pre ++ [y]).map rowD)) (.int ((k : Int) + 1)) = ret (rowD b) := by
      rw [show ((k : Int) + 1) = ((k + 1 : Nat) : Int) by omega]
      exact ix_l (by rw [List.getElem?_map, eb]; rfl)
    have hne : a ≠ b := fun h => (ych.2 k a b ea eb).2 h.symm
    exact ⟨_, rfl, by simp -implicitDefEqProofs only [wipeE, Tg.slots, k_nx, k_rt, e_nx, e_rt, br_t, br_f, dS_nil, dS_seq, dS_nm, own_list, dS_newL, dS_par, sl_f, sl_t, dS_ite, dS_ret, dS_expr, dS_app, ap_own, dS_aug, au_val, dS_frz, fr_own, asB_bool, asI_int, items_l, items_t, dn_nil, dn_cons, dn_star, lo_l, lo_d, vk, dn_var, ok_, dn_own, dn_lit, dn_glob, dn_bin, dn_neg, dn_not, dn_cmp, dn_chain, ch_t, ch_f, dn_and, dn_or, dn_ite, an_t, an_f, or_t, or_f, it_t, it_f, dn_tup, dn_list, tup0, tup1, tup2, tup3, lst0, lst1, lst2, lst3, dn_ix, dn_slice, dn_call, call1, call2, call3, call4, call5, rk, dn_callR, dn_b1, dn_b2, dn_isI, dn_isTL, dn_range1, dn_range2, dn_zip, b1_len_l, b1_len_t, b1_tup_l, b1_tup_t, b1_list_l, b1_list_t, b1_int, not_b, neg_i, cmp_lt, cmp_le, cmp_gt, cmp_ge, cmp_is, cmp_isnot, cmp_eqi, cmp_nei, bin_add, bin_sub, zip_t, zip_l, dn_comp, dS_for, bnd_ret, bnd_bnd, fn_eq, fnR_eq, List.map_cons, List.map_nil, List.cons_append, List.nil_append, List.append_nil, List.length_cons, List.length_nil, List.replicate_succ, List.replicate_zero, Nat.sub_self, Nat.reduceAdd, Nat.reduceSub, Nat.zero_add, List.set_cons_zero, List.set_cons_succ, List.getElem?_cons_zero, List.getElem?_cons_succ, i1, i2, eq_row (show a.length ≤ 1000 by rw [hlen k a ea]; omega) (show b.length ≤ 1000 by rw [hlen _ b eb]; omega), decide_eq_false hne], fun h => by cases h⟩]
  rw [List.filter_eq_nil_iff.mpr fun _ _ => Bool.false_ne_true]
  have hne0 : cmpD .ne (.list []) (.list []) = ret (.bool false) := ne_empty (n := 1) ⟨by decide, fun x h => by cases h⟩ (by decide)
  simp -implicitDefEqProofs only [wipeE, Tg.slots, k_nx, k_rt, e_nx, e_rt, br_t, br_f, dS_nil, dS_seq, dS_nm, own_list, dS_newL, dS_par, sl_f, sl_t, dS_ite, dS_ret, dS_expr, dS_app, ap_own, dS_aug, au_val, dS_frz, fr_own, asB_bool, asI_int, items_l, items_t, dn_nil, dn_cons, dn_star, lo_l, lo_d, vk, dn_var, ok_, dn_own, dn_lit, dn_glob, dn_bin, dn_neg, dn_not, dn_cmp, dn_chain, ch_t, ch_f, dn_and, dn_or, dn_ite, an_t, an_f, or_t, or_f, it_t, it_f, dn_tup, dn_list, tup0, tup1, tup2, tup3, lst0, lst1, lst2, lst3, dn_ix, dn_slice, dn_call, call1, call2, call3, call4, call5, rk, dn_callR, dn_b1, dn_b2, dn_isI, dn_isTL, dn_range1, dn_range2, dn_zip, b1_len_l, b1_len_t, b1_tup_l, b1_tup_t, b1_list_l, b1_list_t, b1_int, not_b, neg_i, cmp_lt, cmp_le, cmp_gt, cmp_ge, cmp_is, cmp_isnot, cmp_eqi, cmp_nei, bin_add, bin_sub, zip_t, zip_l, dn_comp, dS_for, bnd_ret, bnd_bnd, fn_eq, fnR_eq, List.map_cons, List.map_nil, List.cons_append, List.nil_append, List.append_nil, List.length_cons, List.length_nil, List.replicate_succ, List.replicate_zero, Nat.sub_self, Nat.reduceAdd, Nat.reduceSub, Nat.zero_add, List.set_cons_zero, List.set_cons_succ, List.getElem?_cons_zero, List.getElem?_cons_succ, hne0, List.length_map, rangeN (show (pre ++ [y]).length ≤ 1000000 by rw [List.length_append, List.length_singleton]; omega)]
  obtain ⟨ρ', e3, y12, y13, y14, y15, y16, e4⟩ := for_run (t := .nm 12) (B := LB2) (enc := fun (i : Nat) => PyData.int (i : Int)) (xs := List.range (pre ++ [y]).length) (s := ()) (ρ := [.no, .row, .val (.int high), .val (.int wide), .val (.int deep), .val (tabD one), .val (tabD other), .val (rowD times), .val (.list ((pre ++ [y]).map rowD)), .val (.int (farT one other)), y10, .val (.int fl), .no, .no, .no, .no, .no, .no, .no, .no, .no, .no, .no, .no, .no, .no, .no, .no])
    (fun (_ : Unit) ρ => ∃ y12 y13 y14 y15 y16, ρ = [.no, .row, .val (.int high), .val (.int wide), .val (.int deep), .val (tabD one), .val (tabD other), .val (rowD times), .val (.list ((pre ++ [y]).map rowD)), .val (.int (farT one other)), y10, .val (.int fl), y12, y13, y14, y15, y16, .no, .no, .no, .no, .no, .no, .no, .no, .no, .no, .no]) (fun _ _ => ()) ⟨_, _, _, _, _, rfl⟩ (fun s k ρ hk ⟨y12, y13, y14, y15, y16, e⟩ => by
      subst e
      have hk := List.mem_range.mp hk
      obtain ⟨a, ea⟩ : ∃ b, (pre ++ [y])[k]? = some b := ⟨_, List.getElem?_eq_getElem hk⟩
      obtain ⟨b, eb, en⟩ : ∃ b, b = nextT one other wide deep fl a ∧ (if k + 1 < (pre ++ [y]).length then (pre ++ [y])[k + 1]? else some a) = some b := by
        by_cases h : k + 1 < (pre ++ [y]).length
        · obtain ⟨b, eb⟩ : ∃ b, (pre ++ [y])[k + 1]? = some b := ⟨_, List.getElem?_eq_getElem h⟩
          exact ⟨b, (ych.2 k a b ea eb).1, by rw [if_pos h, eb]⟩
        · have hk2 : k = pre.length := by rw [List.length_append, List.length_singleton] at hk h; omega
          rw [hk2, List.getElem?_append_right (Nat.le_refl _), Nat.sub_self] at ea
          have ea : y = a := Option.some.inj ea
          exact ⟨a, by rw [← ea]; exact yfix.symm, if_neg h⟩
      obtain ⟨z12, z13, z14, z15, z16, e⟩ := turn_one hT hO fa fb ea (hlen k a ea) eb en (fl := fl) (times := times) (y10 := y10) (y12 := y12) (y13 := y13) (y14 := y14) (y15 := y15) (y16 := y16)
      exact ⟨_, e, _, _, _, _, _, rfl⟩)
  subst e4
  rw [e3]
  have ra : ∀ r ∈ one, r.length = wide := fun r h => (o2 r h).1
  have rb : ∀ r ∈ other, r.length = deep := fun r h => (p2 r h).1
  have agree : applyOf one y = applyOf other (dividedOf other deep (applyOf one y)) := rest_agree o1 p1 ra rb fa fb yl yfix
  have hzl : (dividedOf other deep (applyOf one y)).length = deep := div_len _ _ _
  have s1 : f__law_sums [tabD one, rowD y] = ret (rowD (applyOf one y)) := m_lsums ra yl (by omega)
  have s2 : f__law_back [tabD other, rowD (applyOf one y)] = ret (rowD (dividedOf other deep (applyOf one y))) := m_lback h1 p1 rb (by rw [len_apply, o1]) (by omega) (by omega) fb
  have s3 : f__law_sums [tabD other, rowD (dividedOf other deep (applyOf one y))] = ret (rowD (applyOf one y)) := by exact (m_lsums rb hzl (by omega)).trans (by rw [← agree])
  have ay : (applyOf one y).length ≤ 1000 := by rw [len_apply, o1]; omega
  obtain ⟨z, hzz⟩ : ∃ z, dividedOf other deep (applyOf one y) = z := ⟨_, rfl⟩
  rw [hzz] at agree hzl s2 s3
  have hme := m_meeting (wide := wide) hO eT
  rw [hzz] at hme
  simp -implicitDefEqProofs only [wipeE, Tg.slots, k_nx, k_rt, e_nx, e_rt, br_t, br_f, dS_nil, dS_seq, dS_nm, own_list, dS_newL, dS_par, sl_f, sl_t, dS_ite, dS_ret, dS_expr, dS_app, ap_own, dS_aug, au_val, dS_frz, fr_own, asB_bool, asI_int, items_l, items_t, dn_nil, dn_cons, dn_star, lo_l, lo_d, vk, dn_var, ok_, dn_own, dn_lit, dn_glob, dn_bin, dn_neg, dn_not, dn_cmp, dn_chain, ch_t, ch_f, dn_and, dn_or, dn_ite, an_t, an_f, or_t, or_f, it_t, it_f, dn_tup, dn_list, tup0, tup1, tup2, tup3, lst0, lst1, lst2, lst3, dn_ix, dn_slice, dn_call, call1, call2, call3, call4, call5, rk, dn_callR, dn_b1, dn_b2, dn_isI, dn_isTL, dn_range1, dn_range2, dn_zip, b1_len_l, b1_len_t, b1_tup_l, b1_tup_t, b1_list_l, b1_list_t, b1_int, not_b, neg_i, cmp_lt, cmp_le, cmp_gt, cmp_ge, cmp_is, cmp_isnot, cmp_eqi, cmp_nei, bin_add, bin_sub, zip_t, zip_l, dn_comp, dS_for, bnd_ret, bnd_bnd, fn_eq, fnR_eq, List.map_cons, List.map_nil, List.cons_append, List.nil_append, List.append_nil, List.length_cons, List.length_nil, List.replicate_succ, List.replicate_zero, Nat.sub_self, Nat.reduceAdd, Nat.reduceSub, Nat.zero_add, List.set_cons_zero, List.set_cons_succ, List.getElem?_cons_zero, List.getElem?_cons_succ, hme, dS_asg, bindT, ix_last, ne_row (show y.length ≤ 1000 by omega) (show y.length ≤ 1000 by omega), s1, s2, s3, ne_row ay ay, ne_row (show z.length ≤ 1000 by omega) (show z.length ≤ 1000 by omega), decide_true, Bool.not_true]
  refine (row_does (show deep ≤ 1000 by omega) (by decide) (by decide)).bnd fun d ⟨more, e, q1, q2⟩ => ?_
  subst e
  have hM : rowOk more deep := rowOk_of q1 q2 (by decide)
  obtain ⟨u, eu, hu⟩ := m_meeting_below hT hO (show wide + deep ≤ 6 by omega) hX hM fa fb
  have hul : u.length = wide + deep := by rw [leL_len hu.le, List.length_append, t1, q1]
  have ut : (u.take wide).length = wide := by rw [List.length_take, hul]; omega
  have ud : (u.drop wide).length = deep := by rw [List.length_drop, hul]; omega
  have hcat : u.take wide ++ u.drop wide = u := List.take_append_drop ..
  have uag : applyOf one (u.take wide) = applyOf other (u.drop wide) := (meet_keeps (wide := wide) (deep := deep) (o1.trans p1.symm) ra ut).mp (by rw [hcat]; exact hu.keep)
  have ule : leL (u.take wide) times ∧ leL (u.drop wide) more := by
    have h := leL_get.mp hu.le
    constructor
    · rw [leL_get]
      refine ⟨ut.trans t1.symm, fun k hk => ?_⟩
      have hk' : k < wide := by omega
      have g := h.2 k (by omega)
      have c1 : getL (u.take wide) k = getL u k := by unfold getL; rw [List.getElem?_take_of_lt hk']
      have c2 : getL (times ++ more) k = getL times k := by unfold getL; rw [List.getElem?_append_left (by omega)]
      rw [c1, ← c2]
      exact g
    · rw [leL_get]
      refine ⟨ud.trans q1.symm, fun k hk => ?_⟩
      have g := h.2 (wide + k) (by omega)
      have c1 : getL (u.drop wide) k = getL u (wide + k) := by unfold getL; rw [List.getElem?_drop]
      have c2 : getL (times ++ more) (wide + k) = getL more k := by unfold getL; rw [List.getElem?_append_right (by omega), t1, Nat.add_sub_cancel_left]
      rw [c1, ← c2]
      exact g
  have third : leL (u.take wide) y := sol _ _ ud ule.1 uag
  have s4 : f__law_sums [tabD one, rowD (u.take wide)] = ret (rowD (applyOf one (u.take wide))) := m_lsums ra ut (by omega)
  have s5 : f__law_sums [tabD other, rowD (u.drop wide)] = ret (rowD (applyOf one (u.take wide))) := by rw [m_lsums rb ud (by omega), uag]
  have au : (applyOf one (u.take wide)).length ≤ 1000 := by rw [len_apply, o1]; omega
  have n1 := not_ne ut yl (show wide ≤ 1000 by omega)
  have n2 := not_ne ud q1 (show deep ≤ 1000 by omega)
  simp -implicitDefEqProofs only [wipeE, Tg.slots, k_nx, k_rt, e_nx, e_rt, br_t, br_f, dS_nil, dS_seq, dS_nm, own_list, dS_newL, dS_par, sl_f, sl_t, dS_ite, dS_ret, dS_expr, dS_app, ap_own, dS_aug, au_val, dS_frz, fr_own, asB_bool, asI_int, items_l, items_t, dn_nil, dn_cons, dn_star, lo_l, lo_d, vk, dn_var, ok_, dn_own, dn_lit, dn_glob, dn_bin, dn_neg, dn_not, dn_cmp, dn_chain, ch_t, ch_f, dn_and, dn_or, dn_ite, an_t, an_f, or_t, or_f, it_t, it_f, dn_tup, dn_list, tup0, tup1, tup2, tup3, lst0, lst1, lst2, lst3, dn_ix, dn_slice, dn_call, call1, call2, call3, call4, call5, rk, dn_callR, dn_b1, dn_b2, dn_isI, dn_isTL, dn_range1, dn_range2, dn_zip, b1_len_l, b1_len_t, b1_tup_l, b1_tup_t, b1_list_l, b1_list_t, b1_int, not_b, neg_i, cmp_lt, cmp_le, cmp_gt, cmp_ge, cmp_is, cmp_isnot, cmp_eqi, cmp_nei, bin_add, bin_sub, zip_t, zip_l, dn_comp, dS_for, bnd_ret, bnd_bnd, fn_eq, fnR_eq, List.map_cons, List.map_nil, List.cons_append, List.nil_append, List.append_nil, List.length_cons, List.length_nil, List.replicate_succ, List.replicate_zero, Nat.sub_self, Nat.reduceAdd, Nat.reduceSub, Nat.zero_add, List.set_cons_zero, List.set_cons_succ, List.getElem?_cons_zero, List.getElem?_cons_succ, eu, dS_asg, bindT, s4, s5, ne_row au au, decide_true, Bool.not_true, range0 (show wide ≤ 1000 by omega), range0 (show deep ≤ 1000 by omega)]
  rw [by_comp (by simp) (by decide) (by decide) rfl rfl ut yl]
  simp -implicitDefEqProofs only [wipeE, Tg.slots, k_nx, k_rt, e_nx, e_rt, br_t, br_f, dS_nil, dS_seq, dS_nm, own_list, dS_newL, dS_par, sl_f, sl_t, dS_ite, dS_ret, dS_expr, dS_app, ap_own, dS_aug, au_val, dS_frz, fr_own, asB_bool, asI_int, items_l, items_t, dn_nil, dn_cons, dn_star, lo_l, lo_d, vk, dn_var, ok_, dn_own, dn_lit, dn_glob, dn_bin, dn_neg, dn_not, dn_cmp, dn_chain, ch_t, ch_f, dn_and, dn_or, dn_ite, an_t, an_f, or_t, or_f, it_t, it_f, dn_tup, dn_list, tup0, tup1, tup2, tup3, lst0, lst1, lst2, lst3, dn_ix, dn_slice, dn_call, call1, call2, call3, call4, call5, rk, dn_callR, dn_b1, dn_b2, dn_isI, dn_isTL, dn_range1, dn_range2, dn_zip, b1_len_l, b1_len_t, b1_tup_l, b1_tup_t, b1_list_l, b1_list_t, b1_int, not_b, neg_i, cmp_lt, cmp_le, cmp_gt, cmp_ge, cmp_is, cmp_isnot, cmp_eqi, cmp_nei, bin_add, bin_sub, zip_t, zip_l, dn_comp, dS_for, bnd_ret, bnd_bnd, fn_eq, fnR_eq, List.map_cons, List.map_nil, List.cons_append, List.nil_append, List.append_nil, List.length_cons, List.length_nil, List.replicate_succ, List.replicate_zero, Nat.sub_self, Nat.reduceAdd, Nat.reduceSub, Nat.zero_add, List.set_cons_zero, List.set_cons_succ, List.getElem?_cons_zero, List.getElem?_cons_succ, n1.1, (rowBy_le (ut.trans yl.symm)).mpr third, Bool.not_true, range0 (show deep ≤ 1000 by omega)]
  rw [by_comp (by simp) (by decide) (by decide) rfl rfl ud q1]
  simp -implicitDefEqProofs only [wipeE, Tg.slots, k_nx, k_rt, e_nx, e_rt, br_t, br_f, dS_nil, dS_seq, dS_nm, own_list, dS_newL, dS_par, sl_f, sl_t, dS_ite, dS_ret, dS_expr, dS_app, ap_own, dS_aug, au_val, dS_frz, fr_own, asB_bool, asI_int, items_l, items_t, dn_nil, dn_cons, dn_star, lo_l, lo_d, vk, dn_var, ok_, dn_own, dn_lit, dn_glob, dn_bin, dn_neg, dn_not, dn_cmp, dn_chain, ch_t, ch_f, dn_and, dn_or, dn_ite, an_t, an_f, or_t, or_f, it_t, it_f, dn_tup, dn_list, tup0, tup1, tup2, tup3, lst0, lst1, lst2, lst3, dn_ix, dn_slice, dn_call, call1, call2, call3, call4, call5, rk, dn_callR, dn_b1, dn_b2, dn_isI, dn_isTL, dn_range1, dn_range2, dn_zip, b1_len_l, b1_len_t, b1_tup_l, b1_tup_t, b1_list_l, b1_list_t, b1_int, not_b, neg_i, cmp_lt, cmp_le, cmp_gt, cmp_ge, cmp_is, cmp_isnot, cmp_eqi, cmp_nei, bin_add, bin_sub, zip_t, zip_l, dn_comp, dS_for, bnd_ret, bnd_bnd, fn_eq, fnR_eq, List.map_cons, List.map_nil, List.cons_append, List.nil_append, List.append_nil, List.length_cons, List.length_nil, List.replicate_succ, List.replicate_zero, Nat.sub_self, Nat.reduceAdd, Nat.reduceSub, Nat.zero_add, List.set_cons_zero, List.set_cons_succ, List.getElem?_cons_zero, List.getElem?_cons_succ, n2.1, (rowBy_le (ud.trans q1.symm)).mpr ule.2, Bool.not_true]
  have hgrid : ∃ G : List (List La), (bnd (iteK (.lit (.int 4)) (.lit (.int 3)) [.no, .row, .val (.int high), .val (.int wide), .val (.int deep), .val (tabD one), .val (tabD other), .val (rowD times), .val (.list ((pre ++ [y]).map rowD)), .val (.int (farT one other)), y10, .val (.int fl), y12, y13, y14, y15, y16, .val (rowD y), .val (rowD z), .val (rowD more), .val (rowD (u.take wide)), .val (rowD (u.drop wide)), .no, .no, .no, .no, .no, .no] (decide ((wide : Int) < 3))) fun x => f__law_grid [.int wide, x]) = ret (.list (G.map rowD)) ∧ ∀ g ∈ G, g.length = wide := by
    have hw3 : wide = 1 ∨ wide = 2 ∨ wide = 3 := by omega
    rcases hw3 with h | h | h <;> subst h
    · exact ⟨gridOf 4 1, grid1, fun g hg => (grid_rows 4 1 g (List.mem_filter.mp hg).1).1⟩
    · exact ⟨gridOf 4 2, grid2, fun g hg => (grid_rows 4 2 g (List.mem_filter.mp hg).1).1⟩
    · exact ⟨gridOf 3 3, grid3, fun g hg => (grid_rows 3 3 g (List.mem_filter.mp hg).1).1⟩
  obtain ⟨G, eG, hG⟩ := hgrid
  obtain ⟨ρ', e5, y13, y22, y23, y24, y25, y26, e6⟩ := for_run (t := .nm 22) (B := LB3) (enc := rowD) (xs := G) (s := ()) (ρ := [.no, .row, .val (.int high), .val (.int wide), .val (.int deep), .val (tabD one), .val (tabD other), .val (rowD times), .val (.list ((pre ++ [y]).map rowD)), .val (.int (farT one other)), y10, .val (.int fl), y12, y13, y14, y15, y16, .val (rowD y), .val (rowD z), .val (rowD more), .val (rowD (u.take wide)), .val (rowD (u.drop wide)), .no, .no, .no, .no, .no, .no])
    (fun (_ : Unit) ρ => ∃ y13 y22 y23 y24 y25 y26, ρ = [.no, .row, .val (.int high), .val (.int wide), .val (.int deep), .val (tabD one), .val (tabD other), .val (rowD times), .val (.list ((pre ++ [y]).map rowD)), .val (.int (farT one other)), y10, .val (.int fl), y12, y13, y14, y15, y16, .val (rowD y), .val (rowD z), .val (rowD more), .val (rowD (u.take wide)), .val (rowD (u.drop wide)), y22, y23, y24, y25, y26, .no]) (fun _ _ => ()) ⟨_, _, _, _, _, _, rfl⟩ (fun s g ρ hg ⟨y13, y22, y23, y24, y25, y26, e⟩ => by
      subst e
      obtain ⟨z13, z23, z24, z25, z26, e⟩ := grid_two (g := g) (u := u) (more := more) (z := z) (pre := pre) (fl := fl) hT hO fa fb t1 yl (hG g hg) sol (y10 := y10) (y12 := y12) (y13 := y13) (y14 := y14) (y15 := y15) (y16 := y16) (y22 := y22) (y23 := y23) (y24 := y24) (y25 := y25) (y26 := y26)
      exact ⟨_, e, _, _, _, _, _, _, rfl⟩)
  subst e6
  have hyb : ∀ v, some v ∈ y → -40 ≤ v ∧ v ≤ 40 := fun v hv => by
    have h2 : okFl fl (some v) := by
      rw [← yfix] at hv
      exact cut_ok fl _ _ hv
    have h2 : fl ≤ v := h2
    obtain ⟨k, hk⟩ := List.mem_iff_getElem?.mp hv
    have hk2 : k < y.length := (List.getElem?_eq_some_iff.mp hk).1
    have h3 := (leL_get.mp yle).2 k hk2
    have e1 : getL y k = some v := by unfold getL; rw [hk]; rfl
    rw [e1] at h3
    cases e : getL times k with
    | none => rw [e] at h3; cases h3
    | some w =>
      rw [e] at h3
      have h3 : v ≤ w := of_decide_eq_true h3
      have := bt w (get_mem e)
      omega
  have hzb : ∀ v, some v ∈ z → -46 ≤ v ∧ v ≤ 46 := fun v hv => by
    rw [← hzz] at hv
    refine div_bound (A := 3) (B := 43) hv b2 fun w hw => ?_
    obtain ⟨r, hr, e⟩ := List.mem_map.mp hw
    exact sum_bound (A := 3) (B := 40) ((ra r hr).trans yl.symm) e (b1 r hr) hyb
  have rY : rowOk y wide := ⟨yl, fun a ha => by
    cases a with
    | none => rfl
    | some v =>
      have := hyb v ha
      exact decide_eq_true (show -1000 ≤ v ∧ v ≤ 1000 by omega)⟩
  have rZ : rowOk z deep := ⟨hzl, fun a ha => by
    cases a with
    | none => rfl
    | some v =>
      have := hzb v ha
      exact decide_eq_true (show -1000 ≤ v ∧ v ≤ 1000 by omega)⟩
  obtain ⟨v, ev, hv⟩ := m_meeting_below hT hO (show wide + deep ≤ 6 by omega) rY rZ fa fb
  have hself : v = y ++ z := hv.uniq ⟨leL_refl _, (meet_keeps (wide := wide) (deep := deep) (o1.trans p1.symm) ra yl).mpr agree, fun q h _ => h⟩
  have v1 : v.take wide = y := by rw [hself, ← yl, List.take_left']; rfl
  have v2 : v.drop wide = z := by rw [hself, ← yl, List.drop_left']; rfl
  rw [v1, v2] at ev
  have hpl : plain 2 (.tuple [rowD y, rowD z]) := ⟨show 2 ≤ 1000 by decide, fun x hx => by
    simp only [List.mem_cons, List.not_mem_nil, or_false] at hx
    rcases hx with rfl | rfl
    · exact plain_row 0 (by omega)
    · exact plain_row 0 (by omega)⟩
  rw [← bnd_bnd, eG]
  simp -implicitDefEqProofs only [wipeE, Tg.slots, k_nx, k_rt, e_nx, e_rt, br_t, br_f, dS_nil, dS_seq, dS_nm, own_list, dS_newL, dS_par, sl_f, sl_t, dS_ite, dS_ret, dS_expr, dS_app, ap_own, dS_aug, au_val, dS_frz, fr_own, asB_bool, asI_int, items_l, items_t, dn_nil, dn_cons, dn_star, lo_l, lo_d, vk, dn_var, ok_, dn_own, dn_lit, dn_glob, dn_bin, dn_neg, dn_not, dn_cmp, dn_chain, ch_t, ch_f, dn_and, dn_or, dn_ite, an_t, an_f, or_t, or_f, it_t, it_f, dn_tup, dn_list, tup0, tup1, tup2, tup3, lst0, lst1, lst2, lst3, dn_ix, dn_slice, dn_call, call1, call2, call3, call4, call5, rk, dn_callR, dn_b1, dn_b2, dn_isI, dn_isTL, dn_range1, dn_range2, dn_zip, b1_len_l, b1_len_t, b1_tup_l, b1_tup_t, b1_list_l, b1_list_t, b1_int, not_b, neg_i, cmp_lt, cmp_le, cmp_gt, cmp_ge, cmp_is, cmp_isnot, cmp_eqi, cmp_nei, bin_add, bin_sub, zip_t, zip_l, dn_comp, dS_for, bnd_ret, bnd_bnd, fn_eq, fnR_eq, List.map_cons, List.map_nil, List.cons_append, List.nil_append, List.append_nil, List.length_cons, List.length_nil, List.replicate_succ, List.replicate_zero, Nat.sub_self, Nat.reduceAdd, Nat.reduceSub, Nat.zero_add, List.set_cons_zero, List.set_cons_succ, List.getElem?_cons_zero, List.getElem?_cons_succ]
  rw [e5]
  simp -implicitDefEqProofs only [wipeE, Tg.slots, k_nx, k_rt, e_nx, e_rt, br_t, br_f, dS_nil, dS_seq, dS_nm, own_list, dS_newL, dS_par, sl_f, sl_t, dS_ite, dS_ret, dS_expr, dS_app, ap_own, dS_aug, au_val, dS_frz, fr_own, asB_bool, asI_int, items_l, items_t, dn_nil, dn_cons, dn_star, lo_l, lo_d, vk, dn_var, ok_, dn_own, dn_lit, dn_glob, dn_bin, dn_neg, dn_not, dn_cmp, dn_chain, ch_t, ch_f, dn_and, dn_or, dn_ite, an_t, an_f, or_t, or_f, it_t, it_f, dn_tup, dn_list, tup0, tup1, tup2, tup3, lst0, lst1, lst2, lst3, dn_ix, dn_slice, dn_call, call1, call2, call3, call4, call5, rk, dn_callR, dn_b1, dn_b2, dn_isI, dn_isTL, dn_range1, dn_range2, dn_zip, b1_len_l, b1_len_t, b1_tup_l, b1_tup_t, b1_list_l, b1_list_t, b1_int, not_b, neg_i, cmp_lt, cmp_le, cmp_gt, cmp_ge, cmp_is, cmp_isnot, cmp_eqi, cmp_nei, bin_add, bin_sub, zip_t, zip_l, dn_comp, dS_for, bnd_ret, bnd_bnd, fn_eq, fnR_eq, List.map_cons, List.map_nil, List.cons_append, List.nil_append, List.append_nil, List.length_cons, List.length_nil, List.replicate_succ, List.replicate_zero, Nat.sub_self, Nat.reduceAdd, Nat.reduceSub, Nat.zero_add, List.set_cons_zero, List.set_cons_succ, List.getElem?_cons_zero, List.getElem?_cons_succ, ev, eq_self hpl (by decide)]
  exact .ret rfl
theorem pure_law (c : Int) : ∀ ns : List Int, ns.length ≤ 63 → ∃ w', denS B_law (lawEv 26) (lawW ns c) = .ok (.rt (.bool true)) w' := fun ns _ => by
  obtain ⟨a, w', e, _, rfl⟩ := law_does (lawW ns c) (Int.le_refl 0)
  exact ⟨w', e⟩
end Dn.DL
namespace Dn.DL
open PySem PySem.Spec PyProof.Rows L2
theorem fin {P : Program} {wd : World} {K : PySem.W.Frag} {mg : Str → Option Value} {fa : Addr} {h : Heap} (X : K.In h) (G : h.Ns mainGlobals mg) (T : Tops K mg) (L : TopFn K mg "law" (topS 49) ["script"]) (hfa : mg "law" = some (.ref fa)) :
    ∃ fd : FuncData, (∀ (s : Shared) (v : Value), BindsTo s fd ⟨[v], []⟩ [("script", v)]) ∧ ∀ base : Heap, K.In base → base.Ns mainGlobals mg → FnOk P wd K mg base CX0 8 fa fd ["script"] (spLaw K 63) := by
  obtain ⟨c, hc⟩ := hd_law
  exact law_fin L hfa sc_law T.bn hc hl_law ck_law (fun base => need_law T) (pure_law c)
end Dn.DL
open PySem PySem.W PyProof.Rows
set_option maxHeartbeats 0 in
theorem PySem.Challenge.cw_lagcones_k09_whole_meeting_holds : PySem.Challenge.rw_lagcones_k09_whole_meeting.Holds := by
  w_on; o_law; k_head; (case hw => w_witness2)
  k_fill
  refine L2.walk_of (l := PySem.Challenge.rw_lagcones_k09_whole_meeting) (n := 63) (k := 8) (x := "script") (CX := fun _ => L2.CX0) (sp := fun w => Dn.spLaw _ 63) rfl (by decide) rfl ⟨rfl, by decide, by decide⟩ (fun w h Y => PySem.W.kIn_of Y) ?F (fun _ _ a ns hl _ hS => ⟨a, ns, rfl, hS, hl, fun _ => rfl⟩) (fun _ _ _ _ _ h => h)
  case F =>
    intro w mg fa h KX G hmg
    refine' Dn.DL.fin KX G ⟨?bn, ?g_MOST_HIGH, ?g_MOST_LAG, ?g_MOST_WIDE, ?t_is_int, ?t_later, ?t_added, ?t_need_full, ?t_turned_of, ?t_least_gap, ?t_reach_of, ?t_meeting_of, ?t_min_of, ?t_farthest, ?t__law_taken, ?t__law_later, ?t__law_by, ?t__law_shift, ?t__law_grid, ?t__law_least, ?t__law_back, ?t_is_lag, ?t_latest_of, ?t_divided_of, ?t__law_sum, ?t__law_row, ?t_is_row, ?t_sum_of, ?t_lowered_by, ?t__law_sums, ?t__law_full, ?t_need_wide, ?t_need_table, ?t_apply_of, ?t_held_back, ?t_below_of, ?t_need_meeting, ?t_turns, ?t_meeting_below, ?t_meeting⟩ ?tl hmg <;> clear hmg
    case bn => refine' Dn.bn_of KX G ?z1 ?z2 ?z3 ?z4 ?z5 ?z6 ?z7 ?z8 ?z9 ?z10 ?z11 ?z12 ?z13 ?z14 ?z15 ?z16 ?z17 <;> k_is
    case g_MOST_HIGH =>
      refine' Dn.gl_of KX G ?a rfl ?r
      (case a => k_is); (case r => exact ⟨_, rfl⟩)
    case g_MOST_LAG =>
      refine' Dn.gl_of KX G ?a rfl ?r
      (case a => k_is); (case r => exact ⟨_, rfl⟩)
    case g_MOST_WIDE =>
      refine' Dn.gl_of KX G ?a rfl ?r
      (case a => k_is); (case r => exact ⟨_, rfl⟩)
    case t_is_int =>
      refine' Dn.top_of KX G ?a ?l ?c ?k (fun _ _ _ _ _ _ us hl => match us, hl with | [_], _ => rfl)
      (case a => k_is); (case l => k_is); (case c => k_is); (case k => k_is)
    case t_later =>
      refine' Dn.top_of KX G ?a ?l ?c ?k (fun _ _ _ _ _ _ us hl => match us, hl with | [_, _], _ => rfl)
      (case a => k_is); (case l => k_is); (case c => k_is); (case k => k_is)
    case t_added =>
      refine' Dn.top_of KX G ?a ?l ?c ?k (fun _ _ _ _ _ _ us hl => match us, hl with | [_, _], _ => rfl)
      (case a => k_is); (case l => k_is); (case c => k_is); (case k => k_is)
    case t_need_full =>
      refine' Dn.top_of KX G ?a ?l ?c ?k (fun _ _ _ _ _ _ us hl => match us, hl with | [_], _ => rfl)
      (case a => k_is); (case l => k_is); (case c => k_is); (case k => k_is)
    case t_turned_of =>
      refine' Dn.top_of KX G ?a ?l ?c ?k (fun _ _ _ _ _ _ us hl => match us, hl with | [_], _ => rfl)
      (case a => k_is); (case l => k_is); (case c => k_is); (case k => k_is)
    case t_least_gap =>
      refine' Dn.top_of KX G ?a ?l ?c ?k (fun _ _ _ _ _ _ us hl => match us, hl with | [_, _], _ => rfl)
      (case a => k_is); (case l => k_is); (case c => k_is); (case k => k_is)
    case t_reach_of =>
      refine' Dn.top_of KX G ?a ?l ?c ?k (fun _ _ _ _ _ _ us hl => match us, hl with | [_], _ => rfl)
      (case a => k_is); (case l => k_is); (case c => k_is); (case k => k_is)
    case t_meeting_of =>
      refine' Dn.top_of KX G ?a ?l ?c ?k (fun _ _ _ _ _ _ us hl => match us, hl with | [_, _], _ => rfl)
      (case a => k_is); (case l => k_is); (case c => k_is); (case k => k_is)
    case t_min_of =>
      refine' Dn.top_of KX G ?a ?l ?c ?k (fun _ _ _ _ _ _ us hl => match us, hl with | [_, _], _ => rfl)
      (case a => k_is); (case l => k_is); (case c => k_is); (case k => k_is)
    case t_farthest =>
      refine' Dn.top_of KX G ?a ?l ?c ?k (fun _ _ _ _ _ _ us hl => match us, hl with | [_], _ => rfl)
      (case a => k_is); (case l => k_is); (case c => k_is); (case k => k_is)
    case t__law_taken =>
      refine' Dn.top_of KX G ?a ?l ?c ?k (fun _ _ _ _ _ _ us hl => match us, hl with | [_, _], _ => rfl)
      (case a => k_is); (case l => k_is); (case c => k_is); (case k => k_is)
    case t__law_later =>
      refine' Dn.top_of KX G ?a ?l ?c ?k (fun _ _ _ _ _ _ us hl => match us, hl with | [_, _], _ => rfl)
      (case a => k_is); (case l => k_is); (case c => k_is); (case k => k_is)
    case t__law_by =>
      refine' Dn.top_of KX G ?a ?l ?c ?k (fun _ _ _ _ _ _ us hl => match us, hl with | [_, _], _ => rfl)
      (case a => k_is); (case l => k_is); (case c => k_is); (case k => k_is)
    case t__law_shift =>
      refine' Dn.top_of KX G ?a ?l ?c ?k (fun _ _ _ _ _ _ us hl => match us, hl with | [_, _], _ => rfl)
      (case a => k_is); (case l => k_is); (case c => k_is); (case k => k_is)
    case t__law_grid =>
      refine' Dn.top_of KX G ?a ?l ?c ?k (fun _ _ _ _ _ _ us hl => match us, hl with | [_, _], _ => rfl)
      (case a => k_is); (case l => k_is); (case c => k_is); (case k => k_is)
    case t__law_least =>
      refine' Dn.top_of KX G ?a ?l ?c ?k (fun _ _ _ _ _ _ us hl => match us, hl with | [_, _], _ => rfl)
      (case a => k_is); (case l => k_is); (case c => k_is); (case k => k_is)
    case t__law_back =>
      refine' Dn.top_of KX G ?a ?l ?c ?k (fun _ _ _ _ _ _ us hl => match us, hl with | [_, _], _ => rfl)
      (case a => k_is); (case l => k_is); (case c => k_is); (case k => k_is)
    case t_is_lag =>
      refine' Dn.top_of KX G ?a ?l ?c ?k (fun _ _ _ _ _ _ us hl => match us, hl with | [_], _ => rfl)
      (case a => k_is); (case l => k_is); (case c => k_is); (case k => k_is)
    case t_latest_of =>
      refine' Dn.top_of KX G ?a ?l ?c ?k (fun _ _ _ _ _ _ us hl => match us, hl with | [_], _ => rfl)
      (case a => k_is); (case l => k_is); (case c => k_is); (case k => k_is)
    case t_divided_of =>
      refine' Dn.top_of KX G ?a ?l ?c ?k (fun _ _ _ _ _ _ us hl => match us, hl with | [_, _], _ => rfl)
      (case a => k_is); (case l => k_is); (case c => k_is); (case k => k_is)
    case t__law_sum =>
      refine' Dn.top_of KX G ?a ?l ?c ?k (fun _ _ _ _ _ _ us hl => match us, hl with | [_, _], _ => rfl)
      (case a => k_is); (case l => k_is); (case c => k_is); (case k => k_is)
    case t__law_row =>
      refine' Dn.top_of KX G ?a ?l ?c ?k (fun _ _ _ _ _ _ us hl => match us, hl with | [_, _, _, _], _ => rfl)
      (case a => k_is); (case l => k_is); (case c => k_is); (case k => k_is)
    case t_is_row =>
      refine' Dn.top_of KX G ?a ?l ?c ?k (fun _ _ _ _ _ _ us hl => match us, hl with | [_, _], _ => rfl)
      (case a => k_is); (case l => k_is); (case c => k_is); (case k => k_is)
    case t_sum_of =>
      refine' Dn.top_of KX G ?a ?l ?c ?k (fun _ _ _ _ _ _ us hl => match us, hl with | [_, _], _ => rfl)
      (case a => k_is); (case l => k_is); (case c => k_is); (case k => k_is)
    case t_lowered_by =>
      refine' Dn.top_of KX G ?a ?l ?c ?k (fun _ _ _ _ _ _ us hl => match us, hl with | [_, _, _], _ => rfl)
      (case a => k_is); (case l => k_is); (case c => k_is); (case k => k_is)
    case t__law_sums =>
      refine' Dn.top_of KX G ?a ?l ?c ?k (fun _ _ _ _ _ _ us hl => match us, hl with | [_, _], _ => rfl)
      (case a => k_is); (case l => k_is); (case c => k_is); (case k => k_is)
    case t__law_full =>
      refine' Dn.top_of KX G ?a ?l ?c ?k (fun _ _ _ _ _ _ us hl => match us, hl with | [_, _, _], _ => rfl)
      (case a => k_is); (case l => k_is); (case c => k_is); (case k => k_is)
    case t_need_wide =>
      refine' Dn.top_of KX G ?a ?l ?c ?k (fun _ _ _ _ _ _ us hl => match us, hl with | [_, _], _ => rfl)
      (case a => k_is); (case l => k_is); (case c => k_is); (case k => k_is)
    case t_need_table =>
      refine' Dn.top_of KX G ?a ?l ?c ?k (fun _ _ _ _ _ _ us hl => match us, hl with | [_], _ => rfl)
      (case a => k_is); (case l => k_is); (case c => k_is); (case k => k_is)
    case t_apply_of =>
      refine' Dn.top_of KX G ?a ?l ?c ?k (fun _ _ _ _ _ _ us hl => match us, hl with | [_, _], _ => rfl)
      (case a => k_is); (case l => k_is); (case c => k_is); (case k => k_is)
    case t_held_back =>
      refine' Dn.top_of KX G ?a ?l ?c ?k (fun _ _ _ _ _ _ us hl => match us, hl with | [_, _], _ => rfl)
      (case a => k_is); (case l => k_is); (case c => k_is); (case k => k_is)
    case t_below_of =>
      refine' Dn.top_of KX G ?a ?l ?c ?k (fun _ _ _ _ _ _ us hl => match us, hl with | [_, _], _ => rfl)
      (case a => k_is); (case l => k_is); (case c => k_is); (case k => k_is)
    case t_need_meeting =>
      refine' Dn.top_of KX G ?a ?l ?c ?k (fun _ _ _ _ _ _ us hl => match us, hl with | [_, _, _], _ => rfl)
      (case a => k_is); (case l => k_is); (case c => k_is); (case k => k_is)
    case t_turns =>
      refine' Dn.top_of KX G ?a ?l ?c ?k (fun _ _ _ _ _ _ us hl => match us, hl with | [_, _, _], _ => rfl)
      (case a => k_is); (case l => k_is); (case c => k_is); (case k => k_is)
    case t_meeting_below =>
      refine' Dn.top_of KX G ?a ?l ?c ?k (fun _ _ _ _ _ _ us hl => match us, hl with | [_, _, _, _], _ => rfl)
      (case a => k_is); (case l => k_is); (case c => k_is); (case k => k_is)
    case t_meeting =>
      refine' Dn.top_of KX G ?a ?l ?c ?k (fun _ _ _ _ _ _ us hl => match us, hl with | [_, _, _], _ => rfl)
      (case a => k_is); (case l => k_is); (case c => k_is); (case k => k_is)
    case tl =>
      refine' Dn.top_of KX G ?a ?l ?c ?k (fun _ _ _ _ _ _ us hl => match us, hl with | [_], _ => rfl)
      (case a => k_is); (case l => k_is); (case c => k_is); (case k => k_is)
