import PyProof.Rows.All
import Wide.All
import OpenK.AllK
import Wide.FinOn
import HandS.ForMost
import HandS.ForExc
import HandS.Walk
import HandS.Flow
import HandS.Wide
import HandS.Deep
import HandS.IsInst
import HandS.Style
import HandS.TupAny
import HandS.More
import HandS.TupLen
import HandS.Conv
import HandS.ExcInit
import HandS.Defaults
import KE.SortData
import KE.SortKeyHeap
import PyProof.RulesMatch
import PyProof.RulesMatchSeq
import PyProof.Rows.MatchSeqLen
import HandS.ExcIs
import HandS.ExcField
import KE.KExcIs
import HandS.SortKw
import HandS.Head0
import HandS.Head1
import HandS.Head2
import HandS.HeadEnd
import HandS.HeadHook1
import HandS.HeadHook2
import KE.KStateDown
import PySem.Challenge.RW_formsforall_k51_right_steps
set_option Elab.async false
set_option linter.all false
set_option maxRecDepth 100000
set_option maxHeartbeats 0
/-! P0: plain data D, results R, and what Python's operators and built-ins do to them. Core Lean only. -/
namespace Dl

inductive D where
  | non | bl (b : Bool) | int (i : Int) | str (s : List Nat)
  | lst (ds : List D) | tup (ds : List D) | dct (t : Bool) (kvs : List (D × D)) | obj (c : String) (fs : List (String × D)) | scr (ns : List Int)
  deriving Inhabited

/-- an exception: its class's name, its fields -/
structure Er where
  c : String
  fs : List (String × D)

inductive R (α : Type) where
  | ok (a : α) | err (e : Er) | bad

namespace R
variable {α β γ : Type}
def bind : R α → (α → R β) → R β
  | ok a, f => f a
  | err e, _ => err e
  | bad, _ => bad
@[simp] theorem bind_ok (a : α) (f : α → R β) : (ok a).bind f = f a := rfl
@[simp] theorem bind_err (e : Er) (f : α → R β) : (err e : R α).bind f = err e := rfl
@[simp] theorem bind_bad (f : α → R β) : (bad : R α).bind f = bad := rfl
theorem bind_assoc (r : R α) (f : α → R β) (g : β → R γ) : (r.bind f).bind g = r.bind fun a => (f a).bind g := by
  cases r <;> rfl
/-- a test and its two ways -/
def iff : R Bool → R α → R α → R α
  | ok true, a, _ => a
  | ok false, _, b => b
  | err e, _, _ => err e
  | bad, _, _ => bad
@[simp] theorem iff_true (a b : R α) : (ok true).iff a b = a := rfl
@[simp] theorem iff_false (a b : R α) : (ok false).iff a b = b := rfl
@[simp] theorem iff_err (e : Er) (a b : R α) : (err e : R Bool).iff a b = err e := rfl
@[simp] theorem iff_bad (a b : R α) : (bad : R Bool).iff a b = bad := rfl
@[simp] theorem iff_dec {p : Prop} [Decidable p] (a b : R α) : (ok (decide p)).iff a b = if p then a else b := by
  by_cases h : p <;> simp [h]
@[simp] theorem iff_ndec {p : Prop} [Decidable p] (a b : R α) : (ok (!decide p)).iff a b = if p then b else a := by
  by_cases h : p <;> simp [h]
theorem iff_ok (c : Bool) (a b : R α) : (ok c).iff a b = if c = true then a else b := by cases c <;> rfl
def map (f : α → β) (r : R α) : R β := r.bind fun a => ok (f a)
@[simp] theorem map_ok (f : α → β) (a : α) : (ok a).map f = ok (f a) := rfl
/-- what may not raise: an exception is out of bounds -/
def noerr : R α → R α
  | ok a => ok a
  | _ => bad
@[simp] theorem noerr_ok (a : α) : (ok a).noerr = ok a := rfl
end R
open R

/-! ### lists of results -/
/-- expressions in a row -/
def seqR : List (R D) → R (List D)
  | [] => ok []
  | r :: rs => r.bind fun d => (seqR rs).bind fun ds => ok (d :: ds)
@[simp] theorem seqR_nil : seqR [] = ok [] := rfl
@[simp] theorem seqR_ok (d : D) (rs : List (R D)) : seqR (ok d :: rs) = (seqR rs).bind fun ds => ok (d :: ds) := rfl
def ap1 (f : D → R D) (a : R D) : R D := a.bind f
def ap2 (f : D → D → R D) (a b : R D) : R D := a.bind fun x => b.bind fun y => f x y
@[simp] theorem ap1_ok (f : D → R D) (a : D) : ap1 f (ok a) = f a := rfl
@[simp] theorem ap2_ok (f : D → D → R D) (a b : D) : ap2 f (ok a) (ok b) = f a b := rfl
/-- a call with its arguments -/
def callR (f : List D → R D) (rs : List (R D)) : R D := (seqR rs).bind f
def fn0 (f : R D) : List D → R D
  | [] => f
  | _ => bad
def fn1 (f : D → R D) : List D → R D
  | [a] => f a
  | _ => bad
def fn2 (f : D → D → R D) : List D → R D
  | [a, b] => f a b
  | _ => bad
def fn3 (f : D → D → D → R D) : List D → R D
  | [a, b, c] => f a b c
  | _ => bad
def fn4 (f : D → D → D → D → R D) : List D → R D
  | [a, b, c, d] => f a b c d
  | _ => bad
def fn5 (f : D → D → D → D → D → R D) : List D → R D
  | [a, b, c, d, e] => f a b c d e
  | _ => bad
def fn6 (f : D → D → D → D → D → D → R D) : List D → R D
  | [a, b, c, d, e, g] => f a b c d e g
  | _ => bad
@[simp] theorem callR_0 (f : R D) : callR (fn0 f) [] = f := rfl
@[simp] theorem callR_1 (f : D → R D) (a : D) : callR (fn1 f) [ok a] = f a := rfl
@[simp] theorem callR_2 (f : D → D → R D) (a b : D) : callR (fn2 f) [ok a, ok b] = f a b := rfl
@[simp] theorem callR_3 (f : D → D → D → R D) (a b c : D) : callR (fn3 f) [ok a, ok b, ok c] = f a b c := rfl
@[simp] theorem callR_4 (f : D → D → D → D → R D) (a b c d : D) : callR (fn4 f) [ok a, ok b, ok c, ok d] = f a b c d := rfl
@[simp] theorem callR_5 (f : D → D → D → D → D → R D) (a b c d e : D) : callR (fn5 f) [ok a, ok b, ok c, ok d, ok e] = f a b c d e := rfl
@[simp] theorem callR_6 (f : D → D → D → D → D → D → R D) (a b c d e g : D) : callR (fn6 f) [ok a, ok b, ok c, ok d, ok e, ok g] = f a b c d e g := rfl

/-- the longest list, text -/
def L : Nat := 16777216
theorem L_eq : L = 16777216 := rfl
def mkL (ds : List D) : R D := if ds.length ≤ L then ok (.lst ds) else bad
def mkT (ds : List D) : R D := if ds.length ≤ L then ok (.tup ds) else bad
/-- displays -/
def lstR (rs : List (R D)) : R D := (seqR rs).bind mkL
def tupR (rs : List (R D)) : R D := (seqR rs).bind mkT

/-! ### truth, tests -/
def D.truth : D → R Bool
  | .non => ok false
  | .bl b => ok b
  | .int i => ok (i != 0)
  | .str s => ok (!s.isEmpty)
  | .lst ds => ok (!ds.isEmpty)
  | .tup ds => ok (!ds.isEmpty)
  | .dct _ _ => bad
  | .obj _ _ => bad
  | .scr _ => bad
def tst (r : R D) : R Bool := r.bind D.truth
@[simp] theorem tst_bl (b : Bool) : tst (ok (.bl b)) = ok b := rfl
@[simp] theorem tst_ok (d : D) : tst (ok d) = d.truth := rfl
def notB (r : R Bool) : R Bool := r.bind fun c => ok (!c)
@[simp] theorem notB_ok (c : Bool) : notB (ok c) = ok (!c) := rfl
def andB (a b : R Bool) : R Bool := a.iff b (ok false)
def orB (a b : R Bool) : R Bool := a.iff (ok true) b
@[simp] theorem andB_true (b : R Bool) : andB (ok true) b = b := rfl
@[simp] theorem andB_false (b : R Bool) : andB (ok false) b = ok false := rfl
@[simp] theorem orB_true (b : R Bool) : orB (ok true) b = ok true := rfl
@[simp] theorem orB_false (b : R Bool) : orB (ok false) b = b := rfl
theorem andB_ok (a b : Bool) : andB (ok a) (ok b) = ok (a && b) := by cases a <;> rfl
theorem orB_ok (a b : Bool) : orB (ok a) (ok b) = ok (a || b) := by cases a <;> rfl
/-- the same as values -/
def andV (a b : R D) : R D := a.bind fun x => x.truth.iff b (ok x)
def orV (a b : R D) : R D := a.bind fun x => x.truth.iff (ok x) b
def notV (a : R D) : R D := a.bind fun x => x.truth.bind fun c => ok (.bl (!c))
@[simp] theorem andV_true (b : R D) : andV (ok (.bl true)) b = b := rfl
@[simp] theorem andV_false (b : R D) : andV (ok (.bl false)) b = ok (.bl false) := rfl
@[simp] theorem orV_true (b : R D) : orV (ok (.bl true)) b = ok (.bl true) := rfl
@[simp] theorem orV_false (b : R D) : orV (ok (.bl false)) b = b := rfl
theorem andV_bl (a b : Bool) : andV (ok (.bl a)) (ok (.bl b)) = ok (.bl (a && b)) := by cases a <;> rfl
theorem orV_bl (a b : Bool) : orV (ok (.bl a)) (ok (.bl b)) = ok (.bl (a || b)) := by cases a <;> rfl
@[simp] theorem notV_bl (b : Bool) : notV (ok (.bl b)) = ok (.bl (!b)) := rfl

/-! ### equality -/
mutual
def D.eqv : D → D → Bool
  | .non, e => match e with | .non => true | _ => false
  | .bl a, e => match e with | .bl b => a == b | .int j => (if a then 1 else 0) == j | _ => false
  | .int i, e => match e with | .bl b => i == (if b then 1 else 0) | .int j => i == j | _ => false
  | .str x, e => match e with | .str y => x == y | _ => false
  | .lst xs, e => match e with | .lst ys => eqvs xs ys | _ => false
  | .tup xs, e => match e with | .tup ys => eqvs xs ys | _ => false
  | .dct _ _, _ => false
  | .obj _ _, _ => false
  | .scr _, _ => false
termination_by structural d => d
def eqvs : List D → List D → Bool
  | [], l => match l with | [] => true | _ => false
  | x :: xs, l => match l with | y :: ys => x.eqv y && eqvs xs ys | _ => false
termination_by structural l => l
end
-- data of bounded depth without dicts and objects
mutual
def D.okd : D → Nat → Bool
  | .non, _ => true
  | .bl _, _ => true
  | .int _, _ => true
  | .str _, _ => true
  | .lst ds, n => match n with | 0 => false | n + 1 => okds ds n
  | .tup ds, n => match n with | 0 => false | n + 1 => okds ds n
  | .dct _ _, _ => false
  | .obj _ _, _ => false
  | .scr _, _ => false
termination_by structural d => d
def okds : List D → Nat → Bool
  | [], _ => true
  | d :: ds, n => d.okd n && okds ds n
termination_by structural l => l
end
def D.eq (x y : D) : R D := if x.okd 60 && y.okd 60 then ok (.bl (x.eqv y)) else bad
def D.ne (x y : D) : R D := if x.okd 60 && y.okd 60 then ok (.bl (!x.eqv y)) else bad

/-! ### is -/
def D.isNon : D → Bool
  | .non => true
  | _ => false
def D.isBl (b : Bool) : D → Bool
  | .bl a => a == b
  | _ => false
def D.is (x y : D) : R D := match y with
  | .non => ok (.bl x.isNon)
  | .bl b => ok (.bl (x.isBl b))
  | _ => bad
def D.isnt (x y : D) : R D := match y with
  | .non => ok (.bl (!x.isNon))
  | .bl b => ok (.bl (!x.isBl b))
  | _ => bad

/-! ### order -/
/-- texts by their signs -/
def lexN : List Nat → List Nat → Bool
  | _, [] => false
  | [], _ :: _ => true
  | a :: as, b :: bs => if a < b then true else if a = b then lexN as bs else false
-- x < y, where Python orders them
mutual
def D.lt? : D → D → Option Bool
  | .int i, e => match e with | .int j => some (decide (i < j)) | _ => none
  | .str x, e => match e with | .str y => some (lexN x y) | _ => none
  | .tup xs, e => match e with | .tup ys => lts? xs ys | _ => none
  | .lst xs, e => match e with | .lst ys => lts? xs ys | _ => none
  | .non, _ => none
  | .bl _, _ => none
  | .dct _ _, _ => none
  | .obj _ _, _ => none
  | .scr _, _ => none
termination_by structural d => d
def lts? : List D → List D → Option Bool
  | [], l => match l with | [] => some false | _ :: _ => some true
  | x :: xs, l => match l with
    | [] => some false
    | y :: ys => if x.eqv y then lts? xs ys else x.lt? y
termination_by structural l => l
end
def D.ltc (f : Bool → Bool) (o : Option Bool) : R D := match o with
  | some b => ok (.bl (f b))
  | none => bad
/-- ints and texts -/
def D.lt (x y : D) : R D := match x, y with
  | .int i, .int j => ok (.bl (decide (i < j)))
  | .str i, .str j => ok (.bl (lexN i j))
  | _, _ => bad
def D.le (x y : D) : R D := match x, y with
  | .int i, .int j => ok (.bl (decide (i ≤ j)))
  | .str i, .str j => ok (.bl (!lexN j i))
  | _, _ => bad
def D.gt (x y : D) : R D := match x, y with
  | .int i, .int j => ok (.bl (decide (j < i)))
  | .str i, .str j => ok (.bl (lexN j i))
  | _, _ => bad
def D.ge (x y : D) : R D := match x, y with
  | .int i, .int j => ok (.bl (decide (j ≤ i)))
  | .str i, .str j => ok (.bl (!lexN i j))
  | _, _ => bad
@[simp] theorem D.lt_int (i j : Int) : D.lt (.int i) (.int j) = ok (.bl (decide (i < j))) := rfl
@[simp] theorem D.le_int (i j : Int) : D.le (.int i) (.int j) = ok (.bl (decide (i ≤ j))) := rfl
@[simp] theorem D.gt_int (i j : Int) : D.gt (.int i) (.int j) = ok (.bl (decide (j < i))) := rfl
@[simp] theorem D.ge_int (i j : Int) : D.ge (.int i) (.int j) = ok (.bl (decide (j ≤ i))) := rfl
/-- a op1 b op2 c, each asked once -/
def chain2 (f g : D → D → R D) (a b c : R D) : R D := a.bind fun x => b.bind fun y => (f x y).bind fun k => k.truth.iff (c.bind fun z => g y z) (ok k)
def chain3 (f g h : D → D → R D) (a b c d : R D) : R D := a.bind fun x => b.bind fun y => (f x y).bind fun k => k.truth.iff (c.bind fun z => (g y z).bind fun k2 => k2.truth.iff (d.bind fun u => h z u) (ok k2)) (ok k)

/-! ### arithmetic -/
def mulOk (a b : Int) : Bool := decide (a.natAbs < 18446744073709551616) || decide (b.natAbs < 18446744073709551616) || (decide (a.natAbs < 2 ^ 4000) && decide (b.natAbs < 2 ^ 4000))
def D.add (x y : D) : R D := match x, y with
  | .int i, .int j => ok (.int (i + j))
  | .str i, .str j => if i.length + j.length ≤ L then ok (.str (i ++ j)) else bad
  | .lst i, .lst j => if i.length + j.length ≤ L then ok (.lst (i ++ j)) else bad
  | .tup i, .tup j => if i.length + j.length ≤ L then ok (.tup (i ++ j)) else bad
  | _, _ => bad
def D.sub (x y : D) : R D := match x, y with
  | .int i, .int j => ok (.int (i - j))
  | _, _ => bad
/-- xs, k times -/
def reps {α : Type} (xs : List α) : Nat → List α
  | 0 => []
  | n + 1 => xs ++ reps xs n
def D.mul (x y : D) : R D := match x, y with
  | .int i, .int j => if mulOk i j then ok (.int (i * j)) else bad
  | .str s, .int k => if 0 ≤ k ∧ k ≤ 1000000 ∧ s.length * k.toNat ≤ L then ok (.str (reps s k.toNat)) else bad
  | .lst s, .int k => if 0 ≤ k ∧ k ≤ 1000000 ∧ s.length * k.toNat ≤ L then ok (.lst (reps s k.toNat)) else bad
  | _, _ => bad
def D.fdiv (x y : D) : R D := match x, y with
  | .int i, .int j => if 0 < j ∧ j < 1073741824 then ok (.int (i / j)) else bad
  | _, _ => bad
def D.mod (x y : D) : R D := match x, y with
  | .int i, .int j => if 0 < j then ok (.int (i % j)) else bad
  | _, _ => bad
def D.pow (x y : D) : R D := match x, y with
  | .int i, .int j => if 0 ≤ j ∧ j ≤ 10000 ∧ i.natAbs < 18446744073709551616 then ok (.int (i ^ j.toNat)) else bad
  | _, _ => bad
def D.neg (x : D) : R D := match x with
  | .int i => ok (.int (-i))
  | _ => bad
@[simp] theorem D.add_int (i j : Int) : D.add (.int i) (.int j) = ok (.int (i + j)) := rfl
@[simp] theorem D.sub_int (i j : Int) : D.sub (.int i) (.int j) = ok (.int (i - j)) := rfl
@[simp] theorem D.neg_int (i : Int) : D.neg (.int i) = ok (.int (-i)) := rfl

/-! ### places -/
/-- the item at i of n, from behind if below 0 -/
def ixN (n : Nat) (i : Int) : Option Nat := if 0 ≤ i then (if i < n then some i.toNat else none) else if -(n : Int) ≤ i then some (i + n).toNat else none
def atI {α : Type} (xs : List α) (i : Int) : Option α := match ixN xs.length i with
  | some k => xs[k]?
  | none => none
def R.some? {α : Type} : Option α → R α
  | some a => ok a
  | none => bad
@[simp] theorem some?_some {α : Type} (a : α) : R.some? (some a) = ok a := rfl
/-- a key of a dict: an int, a text, a tuple of these -/
def D.flatK : D → Bool
  | .int _ => true
  | .str _ => true
  | _ => false
/-- t: the keys are tuples -/
def D.keyOk (t : Bool) : D → Bool
  | .int _ => !t
  | .str _ => !t
  | .tup ds => t && ds.all D.flatK
  | _ => false
def look (k : D) : List (D × D) → Option D
  | [] => none
  | (k', v) :: r => if k.eqv k' then some v else look k r
def putK (k v : D) : List (D × D) → List (D × D)
  | [] => [(k, v)]
  | (k', v') :: r => if k.eqv k' then (k', v) :: r else (k', v') :: putK k v r
def delK (k : D) : List (D × D) → List (D × D)
  | [] => []
  | (k', v') :: r => if k.eqv k' then r else (k', v') :: delK k r
def D.idx (x y : D) : R D := match x with
  | .lst ds => match y with | .int i => R.some? (atI ds i) | _ => bad
  | .tup ds => match y with | .int i => R.some? (atI ds i) | _ => bad
  | .str s => match y with | .int i => R.some? ((atI s i).map fun c => .str [c]) | _ => bad
  | .dct t kvs => if y.keyOk t then R.some? (look y kvs) else bad
  | .scr ns => match y with | .int i => R.some? ((atI ns i).map D.int) | _ => bad
  | _ => bad
/-- a bound of a slice -/
def sIx (n d : Nat) : Option Int → Nat
  | none => d
  | some v => if v < 0 then (v + (n : Int)).toNat else min v.toNat n
def slc {α : Type} (lo hi : Option Int) (xs : List α) : List α := (xs.drop (sIx xs.length 0 lo)).take (sIx xs.length xs.length hi - sIx xs.length 0 lo)
def optI : Option D → Option (Option Int)
  | none => some none
  | some (.int i) => some (some i)
  | some _ => none
def D.slice (x : D) (lo hi : Option D) : R D := match optI lo, optI hi with
  | some a, some b => match x with
    | .lst ds => ok (.lst (slc a b ds))
    | .tup ds => ok (.tup (slc a b ds))
    | .str s => ok (.str (slc a b s))
    | _ => bad
  | _, _ => bad
def optR : Option (R D) → R (Option D)
  | none => ok none
  | some r => r.noerr.bind fun d => ok (some d)
def sliceR (x : R D) (lo hi : Option (R D)) : R D := x.bind fun d => (optR lo).bind fun a => (optR hi).bind fun b => d.slice a b
/-- x[::-1] -/
def D.rev (x : D) : R D := match x with
  | .lst ds => ok (.lst ds.reverse)
  | .str s => ok (.str s.reverse)
  | .tup s => ok (.tup s.reverse)
  | _ => bad

/-! ### in -/
/-- one text within another -/
def isPre : List Nat → List Nat → Bool
  | [], _ => true
  | _ :: _, [] => false
  | a :: as, b :: bs => a == b && isPre as bs
def occurs (x : List Nat) : List Nat → Bool
  | [] => x.isEmpty
  | b :: bs => isPre x (b :: bs) || occurs x bs
def D.isin (x y : D) : R D := match y with
  | .lst ds => if x.okd 60 && okds ds 60 then ok (.bl (ds.any fun z => z.eqv x)) else bad
  | .tup ds => if x.okd 60 && okds ds 60 then ok (.bl (ds.any fun z => z.eqv x)) else bad
  | .str s => match x with
    | .str [c] => ok (.bl (s.contains c))
    | _ => bad
  | .dct t kvs => if x.keyOk t then ok (.bl (look x kvs).isSome) else bad
  | _ => bad
def D.notin (x y : D) : R D := (D.isin x y).bind fun k => match k with
  | .bl b => ok (.bl (!b))
  | _ => bad

/-! ### built-ins -/
def D.len (x : D) : R D := match x with
  | .str s => ok (.int s.length)
  | .lst ds => ok (.int ds.length)
  | .tup ds => ok (.int ds.length)
  | .dct _ kvs => ok (.int kvs.length)
  | .scr ns => ok (.int ns.length)
  | _ => bad
inductive Ty where
  | int | str | bool | list | tuple | dict
  deriving DecidableEq
def D.isT (x : D) : Ty → Bool
  | .int => match x with | .int _ => true | .bl _ => true | _ => false
  | .str => match x with | .str _ => true | _ => false
  | .bool => match x with | .bl _ => true | _ => false
  | .list => match x with | .lst _ => true | _ => false
  | .tuple => match x with | .tup _ => true | _ => false
  | .dict => match x with | .dct _ _ => true | _ => false
/-- isinstance(x, t) -/
def D.isi (t : Ty) (x : D) : R D := match x with
  | .obj _ _ => bad
  | .scr _ => bad
  | .dct true _ => bad
  | x => ok (.bl (x.isT t))
def isiR (t : Ty) (r : R D) : R D := r.bind (D.isi t)
@[simp] theorem isiR_ok (t : Ty) (x : D) : isiR t (ok x) = D.isi t x := rfl
/-- what iteration gives -/
def D.items (x : D) : R (List D) := match x with
  | .lst ds => ok ds
  | .tup ds => ok ds
  | .str s => ok (s.map fun c => .str [c])
  | _ => bad
/-- of a dict: its keys -/
def D.keys (x : D) : R (List D) := match x with
  | .dct _ kvs => ok (kvs.map Prod.fst)
  | _ => bad
def keysR (r : R D) : R (List D) := r.bind D.keys
def iterR (r : R D) : R (List D) := r.bind D.items
@[simp] theorem iterR_lst (ds : List D) : iterR (ok (.lst ds)) = ok ds := rfl
@[simp] theorem iterR_tup (ds : List D) : iterR (ok (.tup ds)) = ok ds := rfl
@[simp] theorem iterR_str (s : List Nat) : iterR (ok (.str s)) = ok (s.map fun c => .str [c]) := rfl
@[simp] theorem keysR_dct (t : Bool) (kvs : List (D × D)) : keysR (ok (.dct t kvs)) = ok (kvs.map Prod.fst) := rfl
def seqItems (x : D) : R (List D) := match x with
  | .lst ds => ok ds
  | _ => bad
def rngI (a b : Int) : List D := (List.range (b - a).toNat).map fun (k : Nat) => D.int (a + (k : Int))
def smallI (a : Int) : Bool := decide (-(2 ^ 62) ≤ a) && decide (a < 2 ^ 62)
def rngR1 (b : R D) : R (List D) := b.bind fun y => match y with
  | .int j => if smallI j && decide (j ≤ L) then ok (rngI 0 j) else bad
  | _ => bad
def rngR2 (a b : R D) : R (List D) := a.bind fun x => b.bind fun y => match x, y with
  | .int i, .int j => if smallI i && smallI j && decide (j - i ≤ L) then ok (rngI i j) else bad
  | _, _ => bad
def enumAt : Nat → List D → List D
  | _, [] => []
  | k, d :: ds => .tup [.int k, d] :: enumAt (k + 1) ds
/-- enumerate, zip, reversed of lists -/
def enumR (r : R D) : R (List D) := r.bind fun x => (seqItems x).bind fun ds => ok (enumAt 0 ds)
def zipL : List D → List D → List D
  | x :: xs, y :: ys => .tup [x, y] :: zipL xs ys
  | _, _ => []
def zipL3 : List D → List D → List D → List D
  | x :: xs, y :: ys, z :: zs => .tup [x, y, z] :: zipL3 xs ys zs
  | _, _, _ => []
def zipR (a b : R D) : R (List D) := a.bind fun x => b.bind fun y => (seqItems x).bind fun ds => (seqItems y).bind fun es => ok (zipL ds es)
def revR (r : R D) : R (List D) := r.bind fun x => (seqItems x).bind fun ds => ok ds.reverse
def bools? : List D → Option (List Bool)
  | [] => some []
  | d :: ds => match d with
    | .bl b => (bools? ds).map (b :: ·)
    | _ => none
def D.all (x : D) : R D := match x with
  | .lst ds => (R.some? (bools? ds)).bind fun bs => ok (.bl (bs.all id))
  | _ => bad
def D.any (x : D) : R D := match x with
  | .lst ds => (R.some? (bools? ds)).bind fun bs => ok (.bl (bs.any id))
  | _ => bad
def D.toList (x : D) : R D := match x with
  | .lst ds => ok (.lst ds)
  | .tup ds => ok (.lst ds)
  | .dct _ kvs => ok (.lst (kvs.map Prod.fst))
  | _ => bad
def D.toTuple (x : D) : R D := match x with
  | .lst ds => ok (.tup ds)
  | .tup ds => ok (.tup ds)
  | _ => bad
def D.toInt (x : D) : R D := match x with
  | .int i => ok (.int i)
  | .bl b => ok (.int (if b then 1 else 0))
  | _ => bad
/-- the figures of a number -/
def figs : Nat → Nat → List Nat
  | 0, _ => []
  | f + 1, n => if n < 10 then [48 + n] else figs f (n / 10) ++ [48 + n % 10]
def strN (n : Nat) : List Nat := figs (n + 1) n
def D.toStr (x : D) : R D := match x with
  | .int i => if 0 ≤ i ∧ i < 10000000000 then ok (.str (strN i.toNat)) else bad
  | _ => bad
def D.max2 (x y : D) : R D := match x, y with
  | .int i, .int j => ok (.int (if j > i then j else i))
  | _, _ => bad
def D.min2 (x y : D) : R D := match x, y with
  | .int i, .int j => ok (.int (if j < i then j else i))
  | _, _ => bad
def D.abs (x : D) : R D := match x with
  | .int i => ok (.int (if i < 0 then -i else i))
  | _ => bad

/-! ### sorting -/
mutual
def D.toks : D → List (Int ⊕ List Nat)
  | .non => []
  | .bl b => [.inl (if b = true then 1 else 0)]
  | .int n => [.inl n]
  | .str x => [.inr x]
  | .lst xs => tokss xs
  | .tup xs => tokss xs
  | .dct _ _ => []
  | .obj _ _ => []
  | .scr _ => []
termination_by structural d => d
def tokss : List D → List (Int ⊕ List Nat)
  | [] => [.inl 0]
  | x :: xs => .inl 1 :: (x.toks ++ tokss xs)
termination_by structural l => l
end
mutual
def D.alike : D → D → Bool
  | .non, e => match e with | .non => true | _ => false
  | .bl _, e => match e with | .bl _ => true | _ => false
  | .int _, e => match e with | .int _ => true | _ => false
  | .str _, e => match e with | .str _ => true | _ => false
  | .lst xs, e => match e with | .lst ys => alikes xs ys | _ => false
  | .tup xs, e => match e with | .tup ys => alikes xs ys | _ => false
  | .dct _ _, _ => false
  | .obj _ _, _ => false
  | .scr _, _ => false
termination_by structural d => d
def alikes : List D → List D → Bool
  | [], _ => true
  | x :: xs, l => match l with | [] => true | y :: ys => x.alike y && alikes xs ys
termination_by structural l => l
end
def itB : Int ⊕ List Nat → Int ⊕ List Nat → Bool
  | .inl a, .inl b => decide (a < b)
  | .inl _, .inr _ => true
  | .inr _, .inl _ => false
  | .inr a, .inr b => lexN a b
def lexB : List (Int ⊕ List Nat) → List (Int ⊕ List Nat) → Bool
  | [], [] => false
  | [], _ :: _ => true
  | _ :: _, [] => false
  | x :: r, y :: t => itB x y || (!itB y x && lexB r t)
def D.leT (x y : D) : Bool := !lexB y.toks x.toks
def D.tupNE : D → Bool
  | .tup (_ :: _) => true
  | _ => false
def D.atomS : D → Bool
  | .non => false
  | .tup _ => false
  | _ => true
def sortable (ds : List D) : Bool := okds ds 60 && (ds.all fun x => ds.all fun y => x.alike y) && (ds.all D.tupNE || ds.all D.atomS)
/-- of a list: stable -/
def D.sorted (x : D) : R D := match x with
  | .lst ds => if sortable ds then ok (.lst (ds.mergeSort D.leT)) else bad
  | _ => bad
/-- by a key -/
def keyVal (f : D → R D) (d : D) : D := match f d with
  | ok k => k
  | _ => .non
def R.isOk {α : Type} : R α → Bool
  | ok _ => true
  | _ => false
def D.sortedK (f : D → R D) (x : D) : R D := match x with
  | .lst ds => if (ds.all fun d => (f d).isOk) && sortable (ds.map (keyVal f)) then ok (.lst (ds.mergeSort fun a b => D.leT (keyVal f a) (keyVal f b))) else bad
  | _ => bad

/-! ### comprehensions, loops -/
def mapR {α : Type} (f : α → R D) : List α → R (List D)
  | [] => ok []
  | x :: xs => (f x).noerr.bind fun d => (mapR f xs).bind fun ds => ok (d :: ds)
def compR {α : Type} (c : α → R Bool) (f : α → R D) : List α → R (List D)
  | [] => ok []
  | x :: xs => (c x).noerr.bind fun b => if b then (f x).noerr.bind fun d => (compR c f xs).bind fun ds => ok (d :: ds) else compR c f xs
/-- [f(x) for x in l] -/
def lcR (l : R (List D)) (f : D → R D) : R D := l.bind fun xs => (mapR f xs).bind fun ds => ok (.lst ds)
def lcifR (l : R (List D)) (c : D → R Bool) (f : D → R D) : R D := l.bind fun xs => (compR c f xs).bind fun ds => ok (.lst ds)
/-- unpacking -/
def un2 {α : Type} (x : D) (f : D → D → R α) : R α := match x with
  | .tup [a, b] => f a b
  | _ => bad
def un3 {α : Type} (x : D) (f : D → D → D → R α) : R α := match x with
  | .tup [a, b, c] => f a b c
  | _ => bad
def un4 {α : Type} (x : D) (f : D → D → D → D → R α) : R α := match x with
  | .tup [a, b, c, d] => f a b c d
  | _ => bad
@[simp] theorem un2_tup {α : Type} (a b : D) (f : D → D → R α) : un2 (.tup [a, b]) f = f a b := rfl
@[simp] theorem un3_tup {α : Type} (a b c : D) (f : D → D → D → R α) : un3 (.tup [a, b, c]) f = f a b c := rfl
@[simp] theorem un4_tup {α : Type} (a b c d : D) (f : D → D → D → D → R α) : un4 (.tup [a, b, c, d]) f = f a b c d := rfl

theorem un2_none {α : Type} {x : D} {f : D → D → R α} (h : ∀ a b, x ≠ .tup [a, b]) : un2 x f = bad := by
  unfold un2
  split
  · exact absurd rfl (h _ _)
  · rfl
theorem un3_none {α : Type} {x : D} {f : D → D → D → R α} (h : ∀ a b c, x ≠ .tup [a, b, c]) : un3 x f = bad := by
  unfold un3
  split
  · exact absurd rfl (h _ _ _)
  · rfl
/-- how a block ends, over the state S -/
inductive Fl (S : Type) where
  | nx (s : S) | rt (d : D) | bk (s : S)
/-- a loop without a way out but an exception -/
def forN {S : Type} (f : D → S → R S) : List D → S → R S
  | [], s => ok s
  | x :: xs, s => (f x s).bind fun s' => forN f xs s'
@[simp] theorem forN_nil {S : Type} (f : D → S → R S) (s : S) : forN f [] s = ok s := rfl
theorem forN_cons {S : Type} (f : D → S → R S) (x : D) (xs : List D) (s : S) : forN f (x :: xs) s = (f x s).bind fun s' => forN f xs s' := rfl
/-- a loop that may be left -/
def forF {S : Type} (f : D → S → R (Fl S)) : List D → S → R (Fl S)
  | [], s => ok (.nx s)
  | x :: xs, s => (f x s).bind fun r => match r with
    | .nx s' => forF f xs s'
    | .rt d => ok (.rt d)
    | .bk s' => ok (.nx s')
@[simp] theorem forF_nil {S : Type} (f : D → S → R (Fl S)) (s : S) : forF f [] s = ok (.nx s) := rfl
theorem forF_cons {S : Type} (f : D → S → R (Fl S)) (x : D) (xs : List D) (s : S) : forF f (x :: xs) s = (f x s).bind fun r => match r with
    | .nx s' => forF f xs s'
    | .rt d => ok (.rt d)
    | .bk s' => ok (.nx s') := rfl
/-- turns enough -/
def fuel : Nat := 1000000000
/-- while, by fuel -/
def whileN {S : Type} (c : S → R Bool) (f : S → R S) : Nat → S → R S
  | 0, _ => bad
  | n + 1, s => (c s).iff ((f s).bind fun s' => whileN c f n s') (ok s)
def whileF {S : Type} (c : S → R Bool) (f : S → R (Fl S)) : Nat → S → R (Fl S)
  | 0, _ => bad
  | n + 1, s => (c s).iff ((f s).bind fun r => match r with
    | .nx s' => whileF c f n s'
    | .rt d => ok (.rt d)
    | .bk s' => ok (.nx s')) (ok (.nx s))
/-- behind a block that may have returned -/
def Fl.go {S : Type} {α : Type} (r : R (Fl S)) (k : S → R α) (ret : D → R α) : R α := r.bind fun f => match f with
  | .nx s => k s
  | .bk s => k s
  | .rt d => ret d
@[simp] theorem Fl.go_nx {S α : Type} (s : S) (k : S → R α) (ret : D → R α) : Fl.go (ok (.nx s)) k ret = k s := rfl
@[simp] theorem Fl.go_rt {S α : Type} (d : D) (k : S → R α) (ret : D → R α) : Fl.go (ok (.rt d)) k ret = ret d := rfl

/-! ### methods -/
/-- l is a list -/
def onL {α : Type} (l : D) (x : R α) : R α := match l with
  | .lst _ => x
  | _ => bad
@[simp] theorem onL_lst {α : Type} (ds : List D) (x : R α) : onL (.lst ds) x = x := rfl
def D.append (l x : D) : R D := match l with
  | .lst ds => if ds.length < L then ok (.lst (ds ++ [x])) else bad
  | _ => bad
def D.extend (l x : D) : R D := match l, x with
  | .lst ds, .lst es => if ds.length + es.length ≤ L then ok (.lst (ds ++ es)) else bad
  | _, _ => bad
def D.reversed (l : D) : R D := match l with
  | .lst ds => ok (.lst ds.reverse)
  | _ => bad
def D.cleared (l : D) : R D := match l with
  | .lst _ => ok (.lst [])
  | _ => bad
/-- pop: what is left, what comes -/
def D.pop (l : D) : R (D × D) := match l with
  | .lst ds => match ds.getLast? with
    | some x => ok (.lst ds.dropLast, x)
    | none => bad
  | _ => bad
def D.setIdx (l i x : D) : R D := match l with
  | .lst ds => match i with
    | .int k => match ixN ds.length k with
      | some j => ok (.lst (ds.set j x))
      | none => bad
    | _ => bad
  | .dct t kvs => if i.keyOk t && decide (kvs.length < L) then ok (.dct t (putK i x kvs)) else bad
  | _ => bad
def D.startswith (x y : D) : R D := match x, y with
  | .str a, .str b => ok (.bl (isPre b a))
  | _, _ => bad
/-- a text's method with one argument -/
def sM1 (g : D → D → R D) (a b : R D) : R D := a.bind fun x => match x with
  | .str s => b.bind fun y => g (.str s) y
  | _ => bad
@[simp] theorem sM1_ok (g : D → D → R D) (s : List Nat) (y : D) : sM1 g (ok (.str s)) (ok y) = g (.str s) y := rfl
/-- the place of the first equal one -/
def D.index (l x : D) : R D := match l with
  | .lst ds => if x.okd 60 && okds ds 60 then (match ds.findIdx? (fun z => z.eqv x) with | some i => ok (.int i) | none => bad) else bad
  | _ => bad
/-- what stands for itself -/
def D.flat : D → R D
  | .non => ok .non
  | .bl b => ok (.bl b)
  | .int i => ok (.int i)
  | .str s => ok (.str s)
  | _ => bad
def peekV (r : R D) : R D := r.noerr.bind D.flat
@[simp] theorem peekV_bl (b : Bool) : peekV (ok (.bl b)) = ok (.bl b) := rfl
@[simp] theorem peekV_int (b : Int) : peekV (ok (.int b)) = ok (.int b) := rfl
@[simp] theorem peekV_str (b : List Nat) : peekV (ok (.str b)) = ok (.str b) := rfl
@[simp] theorem peekV_non : peekV (ok .non) = ok .non := rfl
/-- raise -/
def raise1 {α : Type} (c f : String) (r : R D) : R α := r.bind fun d => err ⟨c, [(f, d)]⟩
def raise0 {α : Type} (c : String) : R α := err ⟨c, []⟩
/-- x.f of an object -/
def D.fld (f : String) (x : D) : R D := match x with
  | .obj _ fs => R.some? (fs.lookup f)
  | _ => bad

/-! ### match -/
def mEq (d : D) (s : List Nat) : R Bool := if d.okd 60 then ok (d.eqv (.str s)) else bad
/-- case ['s', a] -/
def seq1 {α : Type} (d : D) (s : List Nat) (f : D → R α) (g : R α) : R α := match d with
  | .tup ds => (match ds with
    | [x, a] => (mEq x s).iff (f a) g
    | _ => g)
  | _ => bad
/-- case ['s', a, b] -/
def seq2 {α : Type} (d : D) (s : List Nat) (f : D → D → R α) (g : R α) : R α := match d with
  | .tup ds => (match ds with
    | [x, a, b] => (mEq x s).iff (f a b) g
    | _ => g)
  | _ => bad

/-! ### try -/
/-- is an error of the class c one of x? (told for the classes of the program) -/
abbrev SubT := String → String → Option Bool
def subOf (tab : List (String × List String)) : SubT := fun c x => match tab.lookup c with
  | none => none
  | some l => if (tab.map Prod.fst).contains x then some (l.contains x) else none
theorem lookup_mem {β : Type} : ∀ {l : List (String × β)} {c : String} {b : β}, l.lookup c = some b → c ∈ l.map Prod.fst
  | [], _, _, h => by simp at h
  | (k, v) :: l, c, b, h => by
    rw [List.lookup_cons] at h
    cases q : c == k with
    | true => rw [List.map_cons]; exact List.mem_cons.mpr (.inl (beq_iff_eq.mp q))
    | false => rw [q] at h; rw [List.map_cons]; exact List.mem_cons.mpr (.inr (lookup_mem h))
theorem subOf_mem {tab : List (String × List String)} {c x : String} {b : Bool} (h : subOf tab c x = some b) : c ∈ tab.map Prod.fst ∧ x ∈ tab.map Prod.fst := by
  unfold subOf at h
  split at h
  · cases h
  · rename_i l q
    split at h
    · rename_i k
      exact ⟨lookup_mem q, by simpa using k⟩
    · cases h
/-- except x as e: h -/
def tryR {α : Type} (sub : SubT) (x : String) (b : R α) (h : Er → R α) : R α := match b with
  | .err er => (match sub er.c x with
    | some true => (h er).noerr
    | some false => .err er
    | none => .bad)
  | r => r
@[simp] theorem tryR_ok {α : Type} (sub : SubT) (x : String) (a : α) (h : Er → R α) : tryR sub x (ok a) h = ok a := rfl
/-- isinstance(e, x) -/
def isX (sub : SubT) (er : Er) (x : String) : R D := match sub er.c x with
  | some b => ok (.bl b)
  | none => bad
/-- e.f -/
def erF (sub : SubT) (er : Er) (f : String) : R D := match sub er.c er.c with
  | some _ => R.some? (er.fs.lookup f)
  | none => bad
/-- behind a block that may have returned -/
def orRet {α : Type} (r : R (Option D)) (c : D → α) (k : R α) : R α := r.bind fun q => match q with
  | none => k
  | some d => ok (c d)
@[simp] theorem orRet_none {α : Type} (c : D → α) (k : R α) : orRet (ok none) c k = k := rfl
@[simp] theorem orRet_some {α : Type} (d : D) (c : D → α) (k : R α) : orRet (ok (some d)) c k = ok (c d) := rfl

/-- sorted(x, key=..), told for nothing to sort -/
def D.sortK0 (x : D) : R D := match x with
  | .lst [] => ok (.lst [])
  | _ => bad
end Dl
/-! P1: plain Lean about P0's words: loops, comprehensions, sorting, the drawn numbers. -/
namespace Dl
open R
/-! ### what is wanted of a result -/
def Okp {α : Type} (r : R α) (Q : α → Prop) : Prop := ∃ a, r = ok a ∧ Q a
section
variable {α β : Type} {r : R α} {P : α → Prop} {Q : β → Prop} {k : α → R β}
theorem Okp.bind (h : Okp r P) (hk : ∀ a, P a → Okp (k a) Q) : Okp (r.bind k) Q := by
  obtain ⟨a, e, p⟩ := h
  obtain ⟨b, e2, q⟩ := hk a p
  exact ⟨b, by rw [e, bind_ok, e2], q⟩
/-- the value is known -/
theorem Okp.to {a : α} (e : r = ok a) (hk : Okp (k a) Q) : Okp (r.bind k) Q := by rw [e]; exact hk
theorem Okp.iff {c : R Bool} {b : Bool} {x y : R β} (e : c = ok b) (ht : b = true → Okp x Q) (hf : b = false → Okp y Q) : Okp (c.iff x y) Q := by
  rw [e]
  cases b with
  | true => exact ht rfl
  | false => exact hf rfl
theorem Okp.mk {b : β} (q : Q b) : Okp (ok b) Q := ⟨b, rfl, q⟩
theorem Okp.mono {Q' : β → Prop} {x : R β} (h : Okp x Q) (m : ∀ b, Q b → Q' b) : Okp x Q' := let ⟨b, e, q⟩ := h; ⟨b, e, m b q⟩
end
/-! ### loops -/
theorem forN_inv {S : Type} {f : D → S → R S} (P : Nat → S → Prop) : ∀ (xs : List D) (k : Nat) (s0 : S), P k s0 → (∀ (i : Nat) (x : D) (s : S), xs[i]? = some x → P (k + i) s → ∃ s', f x s = ok s' ∧ P (k + i + 1) s') → ∃ s, forN f xs s0 = ok s ∧ P (k + xs.length) s
  | [], k, s0, h0, hs => ⟨s0, rfl, h0⟩
  | x :: xs, k, s0, h0, hs => by
    obtain ⟨s1, e1, h1⟩ := hs 0 x s0 rfl h0
    obtain ⟨s, e, h⟩ := forN_inv P xs (k + 1) s1 h1 fun i y s hy hp => by
      have := hs (i + 1) y s (by simpa using hy) (by rw [show k + (i + 1) = k + 1 + i by omega]; exact hp)
      rw [show k + (i + 1) + 1 = k + 1 + i + 1 by omega] at this
      exact this
    refine ⟨s, by rw [forN_cons, e1, bind_ok, e], ?_⟩
    rw [List.length_cons, show k + (xs.length + 1) = k + 1 + xs.length by omega]
    exact h
/-- a loop over a range -/
theorem forN_rng {S : Type} {f : D → S → R S} (P : Nat → S → Prop) (n : Nat) (s0 : S) (h0 : P 0 s0) (hs : ∀ (i : Nat) (s : S), i < n → P i s → ∃ s', f (.int i) s = ok s' ∧ P (i + 1) s') : ∃ s, forN f (rngI 0 n) s0 = ok s ∧ P n s := by
  have hl : (rngI 0 (n : Int)).length = n := by unfold rngI; simp
  obtain ⟨s, e, h⟩ := forN_inv (f := f) P (rngI 0 n) 0 s0 h0 fun i x s hx hp => by
    rw [Nat.zero_add] at hp ⊢
    have hi : i < n := by
      have := (List.getElem?_eq_some_iff.mp hx).1
      omega
    have ex : x = .int i := by
      unfold rngI at hx
      rw [List.getElem?_map] at hx
      simp [hi] at hx
      exact hx.symm
    subst ex
    exact hs i s hi hp
  rw [hl, Nat.zero_add] at h
  exact ⟨s, e, h⟩
/-- a loop that is not left -/
theorem forF_inv {S : Type} {f : D → S → R (Fl S)} (P : Nat → S → Prop) : ∀ (xs : List D) (k : Nat) (s0 : S), P k s0 → (∀ (i : Nat) (x : D) (s : S), xs[i]? = some x → P (k + i) s → ∃ s', f x s = ok (.nx s') ∧ P (k + i + 1) s') → ∃ s, forF f xs s0 = ok (.nx s) ∧ P (k + xs.length) s
  | [], k, s0, h0, hs => ⟨s0, rfl, h0⟩
  | x :: xs, k, s0, h0, hs => by
    obtain ⟨s1, e1, h1⟩ := hs 0 x s0 rfl h0
    obtain ⟨s, e, h⟩ := forF_inv P xs (k + 1) s1 h1 fun i y s hy hp => by
      have := hs (i + 1) y s (by simpa using hy) (by rw [show k + (i + 1) = k + 1 + i by omega]; exact hp)
      rw [show k + (i + 1) + 1 = k + 1 + i + 1 by omega] at this
      exact this
    refine ⟨s, by rw [forF_cons, e1, bind_ok]; exact e, ?_⟩
    rw [List.length_cons, show k + (xs.length + 1) = k + 1 + xs.length by omega]
    exact h
theorem Okp.go {S α : Type} {f : D → S → R (Fl S)} {xs : List D} {s0 : S} {k : S → R α} {ret : D → R α} {Q : α → Prop} (P : Nat → S → Prop) (h0 : P 0 s0) (hs : ∀ (i : Nat) (x : D) (s : S), xs[i]? = some x → P i s → ∃ s', f x s = ok (.nx s') ∧ P (i + 1) s')
    (hk : ∀ s, P xs.length s → Okp (k s) Q) : Okp (Fl.go (forF f xs s0) k ret) Q := by
  obtain ⟨s, e, h⟩ := forF_inv (f := f) P xs 0 s0 h0 fun i x s hx hp => by
    rw [Nat.zero_add] at hp ⊢
    exact hs i x s hx hp
  rw [e, Fl.go_nx]
  rw [Nat.zero_add] at h
  exact hk s h
/-! ### comprehensions -/
theorem mapR_ok {α : Type} {f : α → R D} {g : α → D} : ∀ (xs : List α), (∀ x ∈ xs, f x = ok (g x)) → mapR f xs = ok (xs.map g)
  | [], _ => rfl
  | x :: xs, h => by
    show ((f x).noerr.bind fun d => (mapR f xs).bind fun ds => ok (d :: ds)) = _
    rw [h x (List.mem_cons_self ..), mapR_ok xs fun y hy => h y (List.mem_cons_of_mem _ hy)]
    rfl
theorem compR_ok {α : Type} {c : α → R Bool} {f : α → R D} {p : α → Bool} {g : α → D} : ∀ (xs : List α), (∀ x ∈ xs, c x = ok (p x)) → (∀ x ∈ xs, p x = true → f x = ok (g x)) → compR c f xs = ok ((xs.filter p).map g)
  | [], _, _ => rfl
  | x :: xs, h, h2 => by
    show ((c x).noerr.bind fun b => if b then (f x).noerr.bind fun d => (compR c f xs).bind fun ds => ok (d :: ds) else compR c f xs) = _
    rw [h x (List.mem_cons_self ..), compR_ok xs (fun y hy => h y (List.mem_cons_of_mem _ hy)) fun y hy => h2 y (List.mem_cons_of_mem _ hy)]
    cases q : p x with
    | true =>
      rw [h2 x (List.mem_cons_self ..) q, List.filter_cons_of_pos (by simpa using q)]
      rfl
    | false =>
      rw [List.filter_cons_of_neg (by simp [q])]
      rfl
/-- over a coded list -/
theorem lcR_map {α : Type} {enc : α → D} {f : D → R D} {g : α → D} (xs : List α) (h : ∀ x ∈ xs, f (enc x) = ok (g x)) : lcR (ok (xs.map enc)) f = ok (.lst (xs.map g)) := by
  show (mapR f (xs.map enc)).bind _ = _
  have : mapR f (xs.map enc) = mapR (fun x => f (enc x)) xs := by
    clear h
    induction xs with
    | nil => rfl
    | cons x xs ih =>
      show ((f (enc x)).noerr.bind fun d => (mapR f (xs.map enc)).bind fun ds => ok (d :: ds)) = _
      rw [ih]; rfl
  rw [this, mapR_ok xs h]
  rfl
theorem lcifR_map {α : Type} {enc : α → D} {c : D → R Bool} {f : D → R D} {p : α → Bool} {g : α → D} (xs : List α) (h : ∀ x ∈ xs, c (enc x) = ok (p x)) (h2 : ∀ x ∈ xs, p x = true → f (enc x) = ok (g x)) : lcifR (ok (xs.map enc)) c f = ok (.lst ((xs.filter p).map g)) := by
  show (compR c f (xs.map enc)).bind _ = _
  have : compR c f (xs.map enc) = compR (fun x => c (enc x)) (fun x => f (enc x)) xs := by
    clear h h2
    induction xs with
    | nil => rfl
    | cons x xs ih =>
      show ((c (enc x)).noerr.bind fun b => if b then (f (enc x)).noerr.bind fun d => (compR c f (xs.map enc)).bind fun ds => ok (d :: ds) else compR c f (xs.map enc)) = _
      rw [ih]; rfl
  rw [this, compR_ok xs h h2]
  rfl
/-! ### coded lists -/
/-- texts, ints -/
abbrev tl (xs : List (List Nat)) : D := .lst (xs.map D.str)
abbrev il (xs : List Int) : D := .lst (xs.map D.int)
@[simp] theorem str_eqv (a b : List Nat) : (D.str a).eqv (.str b) = (a == b) := rfl
@[simp] theorem int_eqv (a b : Int) : (D.int a).eqv (.int b) = (a == b) := rfl
@[simp] theorem okd_str (a : List Nat) (n : Nat) : (D.str a).okd n = true := by cases n <;> rfl
@[simp] theorem okd_int (a : Int) (n : Nat) : (D.int a).okd n = true := by cases n <;> rfl
@[simp] theorem okd_bl (a : Bool) (n : Nat) : (D.bl a).okd n = true := by cases n <;> rfl
@[simp] theorem okd_non (n : Nat) : D.non.okd n = true := by cases n <;> rfl
theorem okds_map {α : Type} {enc : α → D} {n : Nat} (h : ∀ x, (enc x).okd n = true) : ∀ xs : List α, okds (xs.map enc) n = true
  | [] => by cases n <;> rfl
  | x :: xs => by
    show ((enc x).okd n && okds (xs.map enc) n) = true
    rw [h x, okds_map h xs]; rfl
@[simp] theorem okds_str (xs : List (List Nat)) (n : Nat) : okds (xs.map D.str) n = true := okds_map (fun x => okd_str x n) xs
@[simp] theorem okds_int (xs : List Int) (n : Nat) : okds (xs.map D.int) n = true := okds_map (fun x => okd_int x n) xs
theorem any_str (x : List Nat) (xs : List (List Nat)) : ((xs.map D.str).any fun z => z.eqv (.str x)) = xs.contains x := by
  induction xs with
  | nil => rfl
  | cons y xs ih =>
    rw [List.map_cons, List.any_cons, ih, str_eqv, List.contains_cons]
    congr 1
    exact Bool.beq_comm
theorem isin_tl (x : List Nat) (xs : List (List Nat)) : D.isin (.str x) (tl xs) = ok (.bl (xs.contains x)) := by
  show (if ((D.str x).okd 60 && okds (xs.map D.str) 60) = true then (ok (.bl ((xs.map D.str).any fun z => z.eqv (.str x))) : R D) else bad) = _
  rw [okd_str, okds_str, any_str]; rfl
theorem notin_tl (x : List Nat) (xs : List (List Nat)) : D.notin (.str x) (tl xs) = ok (.bl (!xs.contains x)) := by
  unfold D.notin
  rw [isin_tl]; rfl
theorem ixN_nat {n i : Nat} (h : i < n) : ixN n (i : Int) = some i := by
  unfold ixN
  rw [if_pos (Int.natCast_nonneg i), if_pos (by omega)]
  rfl
theorem idx_nat {ds : List D} {i : Nat} {d : D} (h : ds[i]? = some d) : D.idx (.lst ds) (.int i) = ok d := by
  have hi := (List.getElem?_eq_some_iff.mp h).1
  show R.some? (atI ds i) = _
  unfold atI
  rw [ixN_nat hi]
  show R.some? ds[i]? = _
  rw [h]; rfl
theorem idx_last {ds : List D} {d : D} : D.idx (.lst (ds ++ [d])) (.int (-1)) = ok d := by
  show R.some? (atI (ds ++ [d]) (-1)) = _
  unfold atI ixN
  rw [List.length_append, List.length_singleton, if_neg (by omega), if_pos (by omega)]
  have e : ((-1 : Int) + ((ds.length + 1 : Nat) : Int)).toNat = ds.length := by omega
  rw [e]
  show R.some? (ds ++ [d])[ds.length]? = _
  simp
/-- a place by a rest -/
theorem idx_mod {ds : List D} {v : Int} (h : 0 < ds.length) : ∃ (i : Nat) (d : D), v % (ds.length : Int) = i ∧ ds[i]? = some d ∧ D.idx (.lst ds) (.int (v % (ds.length : Int))) = ok d := by
  have h1 := Int.emod_nonneg v (b := (ds.length : Int)) (by omega)
  have h2 := Int.emod_lt_of_pos v (b := (ds.length : Int)) (by omega)
  obtain ⟨i, hi⟩ : ∃ i : Nat, v % (ds.length : Int) = i := ⟨(v % (ds.length : Int)).toNat, by omega⟩
  rw [hi] at h1 h2 ⊢
  have h3 : i < ds.length := by omega
  exact ⟨i, ds[i], rfl, by simp [h3], idx_nat (by simp [h3])⟩
/-! ### the drawn numbers -/
/-- n numbers from 0 to 1008 -/
def Drawn (n : Nat) (vs : List Int) : Prop := vs.length = n ∧ ∀ v ∈ vs, 0 ≤ v ∧ v < 1009
theorem Drawn.at {n i : Nat} {vs : List Int} (h : Drawn n vs) (hi : i < n) : ∃ v, D.idx (il vs) (.int i) = ok (.int v) ∧ 0 ≤ v ∧ v < 1009 ∧ vs[i]? = some v := by
  have hl : i < vs.length := by rw [h.1]; exact hi
  refine ⟨vs[i], idx_nat (by simp [hl]), ?_, ?_, by simp [hl]⟩
  · exact (h.2 _ (List.getElem_mem hl)).1
  · exact (h.2 _ (List.getElem_mem hl)).2
theorem mulOk_r {a b : Int} (h : b.natAbs < 18446744073709551616) : mulOk a b = true := by
  unfold mulOk
  simp [h]
theorem mulOk_l {a b : Int} (h : a.natAbs < 18446744073709551616) : mulOk a b = true := by
  unfold mulOk
  simp [h]
theorem mul_r {a b : Int} (h : b.natAbs < 18446744073709551616) : D.mul (.int a) (.int b) = ok (.int (a * b)) := by
  show (if mulOk a b = true then (ok (.int (a * b)) : R D) else bad) = _
  rw [mulOk_r h]; rfl
theorem mul_l {a b : Int} (h : a.natAbs < 18446744073709551616) : D.mul (.int a) (.int b) = ok (.int (a * b)) := by
  show (if mulOk a b = true then (ok (.int (a * b)) : R D) else bad) = _
  rw [mulOk_l h]; rfl
theorem mod_int {a b : Int} (h : 0 < b) : D.mod (.int a) (.int b) = ok (.int (a % b)) := by
  show (if 0 < b then (ok (.int (a % b)) : R D) else bad) = _
  rw [if_pos h]
theorem fdiv_int {a b : Int} (h : 0 < b ∧ b < 1073741824) : D.fdiv (.int a) (.int b) = ok (.int (a / b)) := by
  show (if 0 < b ∧ b < 1073741824 then (ok (.int (a / b)) : R D) else bad) = _
  rw [if_pos h]
theorem append_lst {ds : List D} {d : D} (h : ds.length < L) : D.append (.lst ds) d = ok (.lst (ds ++ [d])) := by
  show (if ds.length < L then (ok (.lst (ds ++ [d])) : R D) else bad) = _
  rw [if_pos h]
theorem smallI_nat {n : Nat} (h : n ≤ 16777216) : smallI n = true := by
  unfold smallI
  rw [Bool.and_eq_true]
  constructor
  · exact decide_eq_true (Int.le_trans (by decide) (Int.natCast_nonneg n))
  · refine decide_eq_true ?_
    have : (n : Int) ≤ 16777216 := by omega
    exact Int.lt_of_le_of_lt this (by decide)
theorem rngR1_nat {n : Nat} (h : n ≤ 16777216) : rngR1 (ok (.int n)) = ok (rngI 0 n) := by
  have h2 : decide ((n : Int) ≤ (L : Int)) = true := decide_eq_true (by rw [L_eq]; omega)
  unfold rngR1
  rw [bind_ok]
  dsimp only
  rw [smallI_nat h, h2]
  rfl
end Dl
namespace Dl
open R
namespace k51
def k_LETTERS : List Nat := [97, 98, 99, 100, 101, 102, 103, 104, 105, 106, 107, 108, 109, 110, 111, 112, 113, 114, 115, 116, 117, 118, 119, 120, 121, 122]
def k_FIGURES : List Nat := [48, 49, 50, 51, 52, 53, 54, 55, 56, 57]
def k_LONGEST_NAME : Int := 12
def k_NO : List Nat := [33]
def k_MOST_FIELDS : Int := 40
def exSub : SubT := subOf [("FormError", ["FormError"]), ("BadRule", ["BadRule", "FormError"]), ("BadStep", ["BadStep", "FormError"])]
/-- has_name_signs -/
def f_has_name_signs (text_1 : D) : R D := ((tst (ap2 D.notin (ap2 D.idx (R.ok text_1) (R.ok (D.int 0))) (R.ok (D.str k_LETTERS)))).iff (R.ok (D.bl false)) (callR (fn1 D.all) [(lcR (iterR (R.ok text_1)) (fun sign_2 => (orV (ap2 D.isin (R.ok sign_2) (R.ok (D.str k_LETTERS))) (ap2 D.isin (R.ok sign_2) (R.ok (D.str k_FIGURES))))))]))
/-- is_name -/
def f_is_name (value_1 : D) : R D := ((notB (tst (isiR .str (R.ok value_1)))).iff (R.ok (D.bl false)) ((notB (tst (chain2 D.le D.le (R.ok (D.int 1)) (callR (fn1 D.len) [(R.ok value_1)]) (R.ok (D.int k_LONGEST_NAME))))).iff (R.ok (D.bl false)) (callR (fn1 f_has_name_signs) [(R.ok value_1)])))
/-- is_yes -/
def f_is_yes (answer_1 : D) : R D := (notV (sM1 D.startswith (R.ok answer_1) (R.ok (D.str k_NO))))
/-- field_of -/
def f_field_of (answer_1 : D) : R D := ((tst (callR (fn1 f_is_yes) [(R.ok answer_1)])).iff (R.ok answer_1) (sliceR (R.ok answer_1) (some (R.ok (D.int 1))) none))
/-- no_to -/
def f_no_to (field_1 : D) : R D := (ap2 D.add (R.ok (D.str k_NO)) (R.ok field_1))
/-- opposite -/
def f_opposite (answer_1 : D) : R D := ((tst (callR (fn1 f_is_yes) [(R.ok answer_1)])).iff (callR (fn1 f_no_to) [(R.ok answer_1)]) (callR (fn1 f_field_of) [(R.ok answer_1)]))
/-- answer_place -/
def f_answer_place (answer_1 : D) : R D := ((tst (callR (fn1 f_is_yes) [(R.ok answer_1)])).iff (tupR [(R.ok answer_1), (R.ok (D.int 0))]) (tupR [(callR (fn1 f_field_of) [(R.ok answer_1)]), (R.ok (D.int 1))]))
/-- sorted_answers -/
def f_sorted_answers (answers_1 : D) : R D := ((R.ok answers_1).bind D.sortK0)
/-- is_rename -/
def f_is_rename (fields_1 : D) (old_2 : D) (new_3 : D) : R D := (andV (ap2 D.isin (R.ok old_2) (R.ok fields_1)) (andV (callR (fn1 f_is_name) [(R.ok new_3)]) (ap2 D.notin (R.ok new_3) (R.ok fields_1))))
/-- is_addition -/
def f_is_addition (fields_1 : D) (field_2 : D) : R D := (andV (callR (fn1 f_is_name) [(R.ok field_2)]) (andV (ap2 D.notin (R.ok field_2) (R.ok fields_1)) (ap2 D.lt (callR (fn1 D.len) [(R.ok fields_1)]) (R.ok (D.int k_MOST_FIELDS)))))
/-- is_step -/
def f_is_step (fields_1 : D) (value_2 : D) : R D := ((orB (notB (tst (isiR .tuple (R.ok value_2)))) (notB (tst (callR (fn1 D.all) [(lcR (iterR (R.ok value_2)) (fun part_3 => (isiR .str (R.ok part_3))))])))).iff (R.ok (D.bl false)) ((R.ok value_2).bind fun d_4 => (seq2 d_4 [114, 101, 110, 97, 109, 101] (fun old_5 new_6 => (callR (fn3 f_is_rename) [(R.ok fields_1), (R.ok old_5), (R.ok new_6)])) (seq1 d_4 [116, 117, 114, 110] (fun field_7 => (ap2 D.isin (R.ok field_7) (R.ok fields_1))) (seq1 d_4 [100, 114, 111, 112] (fun field_8 => (andV (ap2 D.isin (R.ok field_8) (R.ok fields_1)) (ap2 D.gt (callR (fn1 D.len) [(R.ok fields_1)]) (R.ok (D.int 1))))) (seq1 d_4 [97, 100, 100] (fun field_9 => (callR (fn2 f_is_addition) [(R.ok fields_1), (R.ok field_9)])) (R.ok (D.bl false))))))))
/-- fields_after_one -/
def f_fields_after_one (fields_1 : D) (step_2 : D) : R D := ((R.ok step_2).bind fun d_3 => (seq2 d_3 [114, 101, 110, 97, 109, 101] (fun old_4 new_5 => (callR (fn1 D.sorted) [(lcR (iterR (R.ok fields_1)) (fun field_6 => ((tst (ap2 D.eq (R.ok field_6) (R.ok old_4))).iff (R.ok new_5) (R.ok field_6))))])) (seq1 d_3 [100, 114, 111, 112] (fun gone_7 => (lcifR (iterR (R.ok fields_1)) (fun field_8 => (tst (ap2 D.ne (R.ok field_8) (R.ok gone_7)))) (fun field_8 => (R.ok field_8)))) (seq1 d_3 [97, 100, 100] (fun more_9 => (callR (fn1 D.sorted) [(ap2 D.add (R.ok fields_1) (lstR [(R.ok more_9)]))])) (callR (fn1 D.toList) [(R.ok fields_1)])))))
/-- fields_along -/
def f_fields_along (fields_1 : D) (steps_2 : D) : R D := ((lstR [(callR (fn1 D.toList) [(R.ok fields_1)])]).bind fun found_3 => ((enumR (R.ok steps_2)).bind fun xs => (forN (fun d (s_4 : D) => un2 d fun index_5 step_6 => ((notB (tst (callR (fn2 f_is_step) [(onL s_4 (ap2 D.idx (R.ok s_4) (ap1 D.neg (R.ok (D.int 1))))), (R.ok step_6)]))).iff (raise1 "BadStep" "index" (R.ok index_5)) (onL s_4 ((callR (fn2 f_fields_after_one) [(onL s_4 (ap2 D.idx (R.ok s_4) (ap1 D.neg (R.ok (D.int 1))))), (R.ok step_6)]).bind fun d => (D.append s_4 d).bind fun found_7 => (R.ok found_7))))) xs found_3).bind fun (s_4 : D) => (R.ok s_4)))
/-- fields_after -/
def f_fields_after (fields_1 : D) (steps_2 : D) : R D := (ap2 D.idx (callR (fn2 f_fields_along) [(R.ok fields_1), (R.ok steps_2)]) (ap1 D.neg (R.ok (D.int 1))))
/-- step_back -/
def f_step_back (step_1 : D) : R D := ((R.ok step_1).bind fun d_2 => (seq2 d_2 [114, 101, 110, 97, 109, 101] (fun old_3 new_4 => (tupR [(R.ok (D.str [114, 101, 110, 97, 109, 101])), (R.ok new_4), (R.ok old_3)])) (seq1 d_2 [116, 117, 114, 110] (fun field_5 => (tupR [(R.ok (D.str [116, 117, 114, 110])), (R.ok field_5)])) (R.ok D.non))))
/-- back -/
def f_back (fields_1 : D) (steps_2 : D) : R D := ((callR (fn2 f_fields_along) [(R.ok fields_1), (R.ok steps_2)]).bind fun _ => ((lcR (revR (R.ok steps_2)) (fun step_3 => (callR (fn1 f_step_back) [(R.ok step_3)]))).bind fun found_4 => ((tst (ap2 D.isin (R.ok D.non) (R.ok found_4))).iff (R.ok D.non) (R.ok found_4))))
/-- same_to -/
def f_same_to (answer_1 : D) (field_2 : D) : R D := ((tst (callR (fn1 f_is_yes) [(R.ok answer_1)])).iff (R.ok field_2) (callR (fn1 f_opposite) [(R.ok field_2)]))
/-- carried_answer -/
def f_carried_answer (answer_1 : D) (step_2 : D) : R D := ((R.ok step_2).bind fun d_3 => (seq2 d_3 [114, 101, 110, 97, 109, 101] (fun old_4 new_5 => ((tst (ap2 D.eq (callR (fn1 f_field_of) [(R.ok answer_1)]) (R.ok old_4))).iff (callR (fn2 f_same_to) [(R.ok answer_1), (R.ok new_5)]) (R.ok answer_1))) (seq1 d_3 [116, 117, 114, 110] (fun field_6 => ((tst (ap2 D.eq (callR (fn1 f_field_of) [(R.ok answer_1)]) (R.ok field_6))).iff (callR (fn1 f_opposite) [(R.ok answer_1)]) (R.ok answer_1))) (R.ok answer_1))))
/-- carried_by_one -/
def f_carried_by_one (part_1 : D) (step_2 : D) : R D := ((R.ok part_1).bind fun kept_3 => (R.bind (R.iff (tst (ap2 D.eq (ap2 D.idx (R.ok step_2) (R.ok (D.int 0))) (R.ok (D.str [100, 114, 111, 112])))) ((lcifR (iterR (R.ok part_1)) (fun answer_5 => (tst (ap2 D.ne (callR (fn1 f_field_of) [(R.ok answer_5)]) (ap2 D.idx (R.ok step_2) (R.ok (D.int 1)))))) (fun answer_5 => (R.ok answer_5))).bind fun kept_6 => (R.ok kept_6)) (R.ok kept_3)) fun (s_4 : D) => (callR (fn1 f_sorted_answers) [(lcR (iterR (R.ok s_4)) (fun answer_7 => (callR (fn2 f_carried_answer) [(R.ok answer_7), (R.ok step_2)])))])))
/-- carried_part -/
def f_carried_part (fields_1 : D) (part_2 : D) (steps_3 : D) : R D := ((callR (fn2 f_fields_along) [(R.ok fields_1), (R.ok steps_3)]).bind fun _ => ((callR (fn1 D.toList) [(R.ok part_2)]).bind fun found_4 => ((iterR (R.ok steps_3)).bind fun xs => (forN (fun step_6 (s_5 : D) => ((callR (fn2 f_carried_by_one) [(R.ok s_5), (R.ok step_6)]).bind fun found_7 => (R.ok found_7))) xs found_4).bind fun (s_5 : D) => (R.ok s_5))))
/-- _law_numbers -/
def f__law_numbers (script_1 : D) (at_2 : D) (count_3 : D) : R D := ((ap2 D.mul (R.ok (D.int 1000003)) (ap2 D.add (R.ok at_2) (R.ok (D.int 1)))).bind fun cell_4 => (R.bind (R.iff (tst (ap2 D.lt (R.ok at_2) (callR (fn1 D.len) [(R.ok script_1)]))) ((callR (fn1 D.toInt) [(ap2 D.idx (R.ok script_1) (R.ok at_2))]).bind fun cell_6 => (R.ok cell_6)) (R.ok cell_4)) fun (s_5 : D) => (R.bind (R.iff (tst (ap2 D.lt (R.ok s_5) (R.ok (D.int 0)))) ((ap2 D.sub (R.ok (D.int 1)) (ap2 D.mul (R.ok (D.int 2)) (R.ok s_5))).bind fun cell_8 => (R.ok cell_8)) (R.ok s_5)) fun (s_7 : D) => ((lstR []).bind fun numbers_9 => ((rngR1 (R.ok count_3)).bind fun xs => (forN (fun k_11 (s_10 : D × D) => ((tst (ap2 D.ge (R.ok s_10.1) (ap2 D.pow (R.ok (D.int 10)) (R.ok (D.int 18))))).iff (onL s_10.2 ((ap2 D.mod (R.ok s_10.1) (R.ok (D.int 1009))).bind fun d => (D.append s_10.2 d).bind fun numbers_12 => ((ap2 D.fdiv (R.ok s_10.1) (R.ok (D.int 1009))).bind fun cell_13 => (R.ok (cell_13, numbers_12))))) ((ap2 D.mod (ap2 D.add (ap2 D.add (ap2 D.mul (R.ok s_10.1) (R.ok (D.int 48271))) (ap2 D.mul (ap2 D.add (R.ok k_11) (R.ok (D.int 1))) (R.ok (D.int 69621)))) (ap2 D.mul (R.ok at_2) (R.ok (D.int 4001)))) (R.ok (D.int 2147483647))).bind fun mixed_14 => ((ap2 D.mod (ap2 D.add (ap2 D.mul (R.ok mixed_14) (R.ok mixed_14)) (ap2 D.mul (R.ok (D.int 16807)) (ap2 D.add (R.ok k_11) (R.ok (D.int 3))))) (R.ok (D.int 2147483629))).bind fun mixed_15 => (onL s_10.2 ((ap2 D.mod (ap2 D.fdiv (R.ok mixed_15) (R.ok (D.int 7))) (R.ok (D.int 1009))).bind fun d => (D.append s_10.2 d).bind fun numbers_16 => (R.ok (s_10.1, numbers_16)))))))) xs (s_7, numbers_9)).bind fun (s_10 : D × D) => (R.ok s_10.2))))))
/-- _law_drawn_fields -/
def f__law_drawn_fields (script_1 : D) (most_2 : D) : R D := ((callR (fn3 f__law_numbers) [(R.ok script_1), (R.ok (D.int 0)), (R.ok (D.int 42))]).bind fun numbers_3 => ((lstR []).bind fun fields_4 => ((rngR1 (ap2 D.add (R.ok (D.int 1)) (ap2 D.mod (ap2 D.idx (R.ok numbers_3) (R.ok (D.int 0))) (R.ok most_2)))).bind fun xs => (forN (fun k_6 (s_5 : D) => (onL s_5 ((ap2 D.add (ap2 D.idx (R.ok (D.str [97, 98, 99, 100, 101, 102, 103, 104, 105, 106, 107, 108, 109, 110, 111, 112, 113, 114, 115, 116, 117, 118, 119, 120, 121, 122])) (ap2 D.mod (ap2 D.idx (R.ok numbers_3) (ap2 D.add (R.ok k_6) (R.ok (D.int 1)))) (R.ok (D.int 26)))) (callR (fn1 D.toStr) [(R.ok k_6)])).bind fun d => (D.append s_5 d).bind fun fields_7 => (R.ok fields_7)))) xs fields_4).bind fun (s_5 : D) => (callR (fn1 D.sorted) [(R.ok s_5)]))))
/-- _law_fields_after -/
def f__law_fields_after (fields_1 : D) (step_2 : D) : R D := ((tst (ap2 D.eq (ap2 D.idx (R.ok step_2) (R.ok (D.int 0))) (R.ok (D.str [114, 101, 110, 97, 109, 101])))).iff (callR (fn1 D.sorted) [(lcR (iterR (R.ok fields_1)) (fun field_3 => (ap2 D.idx (lstR [(R.ok field_3), (ap2 D.idx (R.ok step_2) (R.ok (D.int 2)))]) (callR (fn1 D.toInt) [(ap2 D.eq (R.ok field_3) (ap2 D.idx (R.ok step_2) (R.ok (D.int 1))))]))))]) ((tst (ap2 D.eq (ap2 D.idx (R.ok step_2) (R.ok (D.int 0))) (R.ok (D.str [100, 114, 111, 112])))).iff (lcifR (iterR (R.ok fields_1)) (fun field_4 => (tst (ap2 D.ne (R.ok field_4) (ap2 D.idx (R.ok step_2) (R.ok (D.int 1)))))) (fun field_4 => (R.ok field_4))) ((tst (ap2 D.eq (ap2 D.idx (R.ok step_2) (R.ok (D.int 0))) (R.ok (D.str [97, 100, 100])))).iff (callR (fn1 D.sorted) [(ap2 D.add (R.ok fields_1) (lstR [(ap2 D.idx (R.ok step_2) (R.ok (D.int 1)))]))]) (callR (fn1 D.toList) [(R.ok fields_1)]))))
/-- _law_step -/
def f__law_step (numbers_1 : D) (fields_2 : D) (kinds_3 : D) : R D := ((ap2 D.idx (R.ok kinds_3) (ap2 D.mod (ap2 D.idx (R.ok numbers_1) (R.ok (D.int 0))) (callR (fn1 D.len) [(R.ok kinds_3)]))).bind fun kind_4 => ((ap2 D.idx (R.ok fields_2) (ap2 D.mod (ap2 D.idx (R.ok numbers_1) (R.ok (D.int 1))) (callR (fn1 D.len) [(R.ok fields_2)]))).bind fun field_5 => ((ap2 D.add (ap2 D.idx (R.ok (D.str [120, 121, 122])) (ap2 D.mod (ap2 D.idx (R.ok numbers_1) (R.ok (D.int 2))) (R.ok (D.int 3)))) (callR (fn1 D.toStr) [(ap2 D.mod (ap2 D.idx (R.ok numbers_1) (R.ok (D.int 2))) (R.ok (D.int 97)))])).bind fun fresh_6 => ((orB (tst (ap2 D.isin (R.ok fresh_6) (R.ok fields_2))) (andB (tst (ap2 D.eq (R.ok kind_4) (R.ok (D.str [100, 114, 111, 112])))) (tst (ap2 D.eq (callR (fn1 D.len) [(R.ok fields_2)]) (R.ok (D.int 1)))))).iff (tupR [(R.ok (D.str [116, 117, 114, 110])), (R.ok field_5)]) ((tst (ap2 D.eq (R.ok kind_4) (R.ok (D.str [114, 101, 110, 97, 109, 101])))).iff (tupR [(R.ok (D.str [114, 101, 110, 97, 109, 101])), (R.ok field_5), (R.ok fresh_6)]) ((tst (ap2 D.eq (R.ok kind_4) (R.ok (D.str [97, 100, 100])))).iff ((tst (ap2 D.eq (callR (fn1 D.len) [(R.ok fields_2)]) (R.ok (D.int 40)))).iff (tupR [(R.ok (D.str [116, 117, 114, 110])), (R.ok field_5)]) (tupR [(R.ok (D.str [97, 100, 100])), (R.ok fresh_6)])) (tupR [(R.ok kind_4), (R.ok field_5)])))))))
/-- _law_steps -/
def f__law_steps (script_1 : D) (at_2 : D) (fields_3 : D) (many_4 : D) (kinds_5 : D) : R D := ((lstR []).bind fun steps_6 => ((rngR1 (R.ok many_4)).bind fun xs => (forN (fun k_8 (s_7 : D × D) => ((callR (fn3 f__law_step) [(callR (fn3 f__law_numbers) [(R.ok script_1), (ap2 D.add (R.ok at_2) (R.ok k_8)), (R.ok (D.int 3))]), (R.ok s_7.1), (R.ok kinds_5)]).bind fun step_9 => (onL s_7.2 ((R.ok step_9).bind fun d => (D.append s_7.2 d).bind fun steps_10 => ((callR (fn2 f__law_fields_after) [(R.ok s_7.1), (R.ok step_9)]).bind fun fields_11 => (R.ok (fields_11, steps_10))))))) xs (fields_3, steps_6)).bind fun (s_7 : D × D) => (R.ok s_7.2)))
/-- _law_is_name -/
def f__law_is_name (value_1 : D) : R D := ((orB (notB (tst (isiR .str (R.ok value_1)))) (orB (notB (tst (chain2 D.le D.le (R.ok (D.int 1)) (callR (fn1 D.len) [(R.ok value_1)]) (R.ok (D.int 12))))) (tst (ap2 D.notin (ap2 D.idx (R.ok value_1) (R.ok (D.int 0))) (R.ok (D.str [97, 98, 99, 100, 101, 102, 103, 104, 105, 106, 107, 108, 109, 110, 111, 112, 113, 114, 115, 116, 117, 118, 119, 120, 121, 122])))))).iff (R.ok (D.bl false)) (ap2 D.eq (lcifR (iterR (R.ok value_1)) (fun sign_2 => (tst (ap2 D.notin (R.ok sign_2) (R.ok (D.str [97, 98, 99, 100, 101, 102, 103, 104, 105, 106, 107, 108, 109, 110, 111, 112, 113, 114, 115, 116, 117, 118, 119, 120, 121, 122, 48, 49, 50, 51, 52, 53, 54, 55, 56, 57]))))) (fun sign_2 => (R.ok sign_2))) (lstR [])))
/-- _law_is_step -/
def f__law_is_step (fields_1 : D) (value_2 : D) : R D := ((orB (notB (tst (isiR .tuple (R.ok value_2)))) (tst (ap2 D.ne (lcifR (iterR (R.ok value_2)) (fun part_3 => (notB (tst (isiR .str (R.ok part_3))))) (fun part_3 => (R.ok part_3))) (lstR [])))).iff (R.ok (D.bl false)) ((tst (ap2 D.eq (callR (fn1 D.len) [(R.ok value_2)]) (R.ok (D.int 3)))).iff (andV (ap2 D.eq (ap2 D.idx (R.ok value_2) (R.ok (D.int 0))) (R.ok (D.str [114, 101, 110, 97, 109, 101]))) (andV (ap2 D.isin (ap2 D.idx (R.ok value_2) (R.ok (D.int 1))) (R.ok fields_1)) (andV (callR (fn1 f__law_is_name) [(ap2 D.idx (R.ok value_2) (R.ok (D.int 2)))]) (ap2 D.notin (ap2 D.idx (R.ok value_2) (R.ok (D.int 2))) (R.ok fields_1))))) ((tst (ap2 D.ne (callR (fn1 D.len) [(R.ok value_2)]) (R.ok (D.int 2)))).iff (R.ok (D.bl false)) ((tst (ap2 D.eq (ap2 D.idx (R.ok value_2) (R.ok (D.int 0))) (R.ok (D.str [116, 117, 114, 110])))).iff (ap2 D.isin (ap2 D.idx (R.ok value_2) (R.ok (D.int 1))) (R.ok fields_1)) ((tst (ap2 D.eq (ap2 D.idx (R.ok value_2) (R.ok (D.int 0))) (R.ok (D.str [100, 114, 111, 112])))).iff (andV (ap2 D.isin (ap2 D.idx (R.ok value_2) (R.ok (D.int 1))) (R.ok fields_1)) (ap2 D.gt (callR (fn1 D.len) [(R.ok fields_1)]) (R.ok (D.int 1)))) (andV (ap2 D.eq (ap2 D.idx (R.ok value_2) (R.ok (D.int 0))) (R.ok (D.str [97, 100, 100]))) (andV (callR (fn1 f__law_is_name) [(ap2 D.idx (R.ok value_2) (R.ok (D.int 1)))]) (andV (ap2 D.notin (ap2 D.idx (R.ok value_2) (R.ok (D.int 1))) (R.ok fields_1)) (ap2 D.lt (callR (fn1 D.len) [(R.ok fields_1)]) (R.ok (D.int 40)))))))))))
/-- _law_odd_steps -/
def f__law_odd_steps (fields_1 : D) (numbers_2 : D) : R D := ((ap2 D.idx (R.ok fields_1) (ap2 D.mod (ap2 D.idx (R.ok numbers_2) (R.ok (D.int 0))) (callR (fn1 D.len) [(R.ok fields_1)]))).bind fun field_3 => ((ap2 D.idx (R.ok fields_1) (ap2 D.mod (ap2 D.idx (R.ok numbers_2) (R.ok (D.int 1))) (callR (fn1 D.len) [(R.ok fields_1)]))).bind fun other_4 => ((lstR [(tupR [(R.ok (D.str [114, 101, 110, 97, 109, 101])), (R.ok field_3), (R.ok other_4)]), (tupR [(R.ok (D.str [114, 101, 110, 97, 109, 101])), (R.ok field_3), (R.ok field_3)]), (tupR [(R.ok (D.str [114, 101, 110, 97, 109, 101])), (R.ok (D.str [122, 122])), (R.ok (D.str [121, 121]))]), (tupR [(R.ok (D.str [114, 101, 110, 97, 109, 101])), (R.ok field_3), (R.ok (D.str [89]))]), (tupR [(R.ok (D.str [114, 101, 110, 97, 109, 101])), (R.ok field_3), (R.ok (D.str []))])]).bind fun found_5 => ((ap2 D.add (R.ok found_5) (lstR [(tupR [(R.ok (D.str [114, 101, 110, 97, 109, 101])), (R.ok field_3), (R.ok (D.str [33, 121, 121]))]), (tupR [(R.ok (D.str [114, 101, 110, 97, 109, 101])), (R.ok field_3)]), (tupR [(R.ok (D.str [114, 101, 110, 97, 109, 101])), (R.ok field_3), (R.ok (D.str [121, 121])), (R.ok (D.str [122, 122]))]), (tupR [(R.ok (D.str [114, 101, 110, 97, 109, 101])), (R.ok field_3), (R.ok D.non)]), (lstR [(R.ok (D.str [116, 117, 114, 110])), (R.ok field_3)])])).bind fun found_6 => ((ap2 D.add (R.ok found_6) (lstR [(tupR [(R.ok (D.str [116, 117, 114, 110])), (R.ok (D.str [122, 122]))]), (tupR [(R.ok (D.str [116, 117, 114, 110])), (ap2 D.add (R.ok (D.str [33])) (R.ok field_3))]), (tupR [(R.ok (D.str [116, 117, 114, 110]))]), (tupR [(R.ok (D.str [116, 117, 114, 110])), (R.ok field_3), (R.ok field_3)]), (tupR [(R.ok (D.str [84, 117, 114, 110])), (R.ok field_3)]), (tupR [(R.ok (D.str [100, 114, 111, 112])), (R.ok (D.str [122, 122]))]), (tupR [(R.ok (D.str [100, 114, 111, 112])), (R.ok D.non)])])).bind fun found_7 => ((ap2 D.add (R.ok found_7) (lstR [(tupR [(R.ok (D.str [97, 100, 100])), (R.ok field_3)]), (tupR [(R.ok (D.str [97, 100, 100])), (R.ok (D.str [49, 97]))]), (tupR [(R.ok (D.str [97, 100, 100])), (ap2 D.mul (R.ok (D.str [97])) (R.ok (D.int 13)))]), (tupR [(R.ok (D.str [97, 100, 100])), (R.ok (D.str [33, 97, 97]))]), (tupR [(R.ok (D.str [97, 100, 100]))]), (tupR [(R.ok (D.str [97, 100, 100])), (R.ok (D.str [121, 121])), (R.ok (D.str [122, 122]))]), (tupR []), (R.ok D.non), (R.ok (D.int 3)), (R.ok (D.str [116, 117, 114, 110])), (tupR [(R.ok D.non), (R.ok field_3)])])).bind fun found_8 => (ap2 D.add (R.ok found_8) (lstR [(tupR [(R.ok (D.str [116, 117, 114, 110])), (tupR [(R.ok field_3)])]), (tupR [(R.ok (D.str [114, 101, 110, 97, 109, 101])), (R.ok field_3), (R.ok (D.str [121, 121]))]), (tupR [(R.ok (D.str [116, 117, 114, 110])), (R.ok field_3)]), (tupR [(R.ok (D.str [100, 114, 111, 112])), (R.ok field_3)]), (tupR [(R.ok (D.str [97, 100, 100])), (R.ok (D.str [121, 121]))]), (tupR [(R.ok (D.str [97, 100, 100])), (ap2 D.mul (R.ok (D.str [97])) (R.ok (D.int 12)))])]))))))))
/-- _law_refused -/
def f__law_refused (which_1 : D) (fields_2 : D) (steps_3 : D) : R D := (orRet (tryR exSub "BadStep" ((tst (ap2 D.eq (R.ok which_1) (R.ok (D.int 0)))).iff ((callR (fn2 f_fields_after) [(R.ok fields_2), (R.ok steps_3)]).bind fun _ => (R.ok none)) ((tst (ap2 D.eq (R.ok which_1) (R.ok (D.int 1)))).iff ((callR (fn2 f_back) [(R.ok fields_2), (R.ok steps_3)]).bind fun _ => (R.ok none)) ((callR (fn3 f_carried_part) [(R.ok fields_2), (lstR []), (R.ok steps_3)]).bind fun _ => (R.ok none)))) (fun er_4 => ((orB (tst (isX exSub er_4 "BadRule")) (notB (tst (isX exSub er_4 "FormError")))).iff ((R.ok (D.str [109, 105, 120, 101, 100])).bind fun d => R.ok (some d)) ((erF exSub er_4 "index").bind fun d => R.ok (some d))))) (fun d => d) (R.ok D.non))
/-- law -/
def f_law (script_1 : D) : R D := ((callR (fn3 f__law_numbers) [(R.ok script_1), (R.ok (D.int 12)), (R.ok (D.int 6))]).bind fun numbers_2 => ((callR (fn2 f__law_drawn_fields) [(R.ok script_1), (R.ok (D.int 40))]).bind fun fields_3 => (R.bind (R.iff (tst (ap2 D.eq (ap2 D.mod (ap2 D.idx (R.ok numbers_2) (R.ok (D.int 0))) (R.ok (D.int 6))) (R.ok (D.int 0)))) ((callR (fn1 D.sorted) [(lcR (rngR1 (ap2 D.add (R.ok (D.int 39)) (ap2 D.mod (ap2 D.idx (R.ok numbers_2) (R.ok (D.int 1))) (R.ok (D.int 2))))) (fun k_6 => (ap2 D.add (R.ok (D.str [102])) (callR (fn1 D.toStr) [(R.ok k_6)]))))]).bind fun fields_5 => (R.ok fields_5)) (R.ok fields_3)) fun (s_4 : D) => ((callR (fn5 f__law_steps) [(R.ok script_1), (R.ok (D.int 13)), (R.ok s_4), (ap2 D.mod (ap2 D.idx (R.ok numbers_2) (R.ok (D.int 2))) (R.ok (D.int 9))), (lstR [(R.ok (D.str [114, 101, 110, 97, 109, 101])), (R.ok (D.str [116, 117, 114, 110])), (R.ok (D.str [100, 114, 111, 112])), (R.ok (D.str [97, 100, 100]))])]).bind fun steps_7 => ((R.ok s_4).bind fun due_8 => ((lstR [(R.ok s_4)]).bind fun rows_9 => ((iterR (R.ok steps_7)).bind fun xs => Fl.go (forF (fun step_11 (s_10 : D × D) => ((tst (ap2 D.isnt (callR (fn2 f_is_step) [(callR (fn1 D.toList) [(R.ok s_10.1)]), (R.ok step_11)]) (R.ok (D.bl true)))).iff ((R.ok (D.bl false)).bind fun d => R.ok (Fl.rt d)) ((callR (fn2 f__law_fields_after) [(R.ok s_10.1), (R.ok step_11)]).bind fun due_12 => (onL s_10.2 ((R.ok due_12).bind fun d => (D.append s_10.2 d).bind fun rows_13 => (R.ok (Fl.nx (due_12, rows_13)))))))) xs (due_8, rows_9)) (fun (s_10 : D × D) => ((lstR [(callR (fn1 D.toList) [(R.ok s_4)]), (callR (fn1 D.toList) [(R.ok steps_7)])]).bind fun given_14 => ((orB (tst (ap2 D.ne (callR (fn2 f_fields_after) [(ap2 D.idx (R.ok given_14) (R.ok (D.int 0))), (ap2 D.idx (R.ok given_14) (R.ok (D.int 1)))]) (R.ok s_10.1))) (tst (ap2 D.ne (R.ok given_14) (lstR [(R.ok s_4), (R.ok steps_7)])))).iff (R.ok (D.bl false)) ((ap2 D.mod (ap2 D.idx (R.ok numbers_2) (R.ok (D.int 3))) (callR (fn1 D.len) [(R.ok s_10.2)])).bind fun at_16 => ((iterR (callR (fn2 f__law_odd_steps) [(ap2 D.idx (R.ok s_10.2) (R.ok at_16)), (sliceR (R.ok numbers_2) (some (R.ok (D.int 4))) none)])).bind fun xs => Fl.go (forF (fun odd_18 (s_17 : Unit) => ((callR (fn2 f__law_is_step) [(ap2 D.idx (R.ok s_10.2) (R.ok at_16)), (R.ok odd_18)]).bind fun right_19 => ((callR (fn2 f_is_step) [(callR (fn1 D.toList) [(ap2 D.idx (R.ok s_10.2) (R.ok at_16))]), (R.ok odd_18)]).bind fun told_20 => ((orB (notB (tst (isiR .bool (R.ok told_20)))) (tst (ap2 D.ne (R.ok told_20) (R.ok right_19)))).iff ((R.ok (D.bl false)).bind fun d => R.ok (Fl.rt d)) ((notB (tst (R.ok right_19))).iff ((rngR1 (R.ok (D.int 3))).bind fun xs => Fl.go (forF (fun which_22 (s_21 : Unit) => ((tst (ap2 D.ne (callR (fn3 f__law_refused) [(R.ok which_22), (callR (fn1 D.toList) [(R.ok s_4)]), (ap2 D.add (ap2 D.add (ap2 D.add (sliceR (R.ok steps_7) none (some (R.ok at_16))) (lstR [(R.ok odd_18)])) (sliceR (R.ok steps_7) (some (R.ok at_16)) none)) (lstR [(R.ok D.non)]))]) (R.ok at_16))).iff ((R.ok (D.bl false)).bind fun d => R.ok (Fl.rt d)) (R.ok (Fl.nx ())))) xs ()) (fun (s_21 : Unit) => (R.ok (Fl.nx ()))) (fun d => R.ok (Fl.rt d))) (R.ok (Fl.nx ()))))))) xs ()) (fun (s_17 : Unit) => (R.ok (D.bl true))) (fun d => R.ok d)))))) (fun d => R.ok d))))))))
end k51
end Dl
namespace Dl
namespace k51
open R
theorem numbers_ok (ns : List Int) (at_ n : Nat) (hn : n ≤ 1000) : Okp (f__law_numbers (.scr ns) (.int at_) (.int n)) fun d => ∃ vs, d = il vs ∧ Drawn n vs := by
  unfold f__law_numbers
  refine Okp.to (a := .int (1000003 * ((at_ : Int) + 1))) (by rw [ap2_ok, D.add_int, ap2_ok, mul_l (by decide)]) ?_
  refine Okp.bind (P := fun d => ∃ c, d = .int c) ?_ ?_
  · refine Okp.iff (b := decide ((at_ : Int) < (ns.length : Int))) rfl (fun h => ?_) fun _ => ⟨_, rfl, _, rfl⟩
    have h1 : at_ < ns.length := by have := of_decide_eq_true h; omega
    refine Okp.to (a := .int ns[at_]) ?_ ⟨_, rfl, _, rfl⟩
    have : D.idx (.scr ns) (.int at_) = ok (.int ns[at_]) := by
      show R.some? ((atI ns at_).map D.int) = _
      unfold atI
      rw [ixN_nat h1]
      show R.some? (ns[at_]?.map D.int) = _
      simp [h1]
    rw [ap2_ok, this]
    rfl
  rintro _ ⟨c, rfl⟩
  refine Okp.bind (P := fun d => ∃ c, d = .int c) ?_ ?_
  · refine Okp.iff (b := decide (c < 0)) rfl (fun h => ?_) fun _ => ⟨_, rfl, _, rfl⟩
    exact Okp.to (a := .int (1 - 2 * c)) (by rw [ap2_ok, mul_l (by decide)]; rfl) ⟨_, rfl, _, rfl⟩
  rintro _ ⟨c, rfl⟩
  refine Okp.to (a := .lst []) rfl ?_
  refine Okp.to (rngR1_nat (by omega)) ?_
  refine Okp.bind (P := fun s => ∃ c vs, s = (D.int c, il vs) ∧ Drawn n vs) (forN_rng (fun i s => ∃ c vs, s = (D.int c, il vs) ∧ Drawn i vs) n _ ⟨c, [], rfl, rfl, fun v h => nomatch h⟩ fun i s hi hp => ?_) ?_
  · obtain ⟨c, vs, rfl, d⟩ := hp
    have push : ∀ (w : Int), Drawn (i + 1) (vs ++ [w % 1009]) := fun w => ⟨by rw [List.length_append, d.1]; rfl, fun v hv => by
      rcases List.mem_append.mp hv with h | h
      · exact d.2 v h
      · have : v = w % 1009 := by simpa using h
        rw [this]; omega⟩
    have ap : ∀ (w : Int), D.append (il vs) (.int (w % 1009)) = ok (il (vs ++ [w % 1009])) := fun w => by
      rw [append_lst (by rw [List.length_map, d.1, L_eq]; omega)]
      simp
    refine Okp.iff (b := decide (10 ^ 18 ≤ c)) rfl (fun h => ?_) fun _ => ?_
    · rw [onL_lst]
      refine Okp.to (a := .int (c % 1009)) (by rw [ap2_ok, mod_int (by decide)]) (Okp.to (ap c) ?_)
      exact Okp.to (a := .int (c / 1009)) (by rw [ap2_ok, fdiv_int (by decide)]) ⟨_, rfl, _, _, rfl, push c⟩
    · refine Okp.to (a := .int ((c * 48271 + ((i : Int) + 1) * 69621 + at_ * 4001) % 2147483647)) (by rw [ap2_ok, mul_r (by decide), ap2_ok, D.add_int, ap2_ok, mul_r (by decide), ap2_ok, D.add_int, ap2_ok, mul_r (by decide), ap2_ok, D.add_int, ap2_ok, mod_int (by decide)]) ?_
      generalize hm : (c * 48271 + ((i : Int) + 1) * 69621 + at_ * 4001) % 2147483647 = m
      have hm2 : m.natAbs < 18446744073709551616 := by omega
      refine Okp.to (a := .int ((m * m + 16807 * ((i : Int) + 3)) % 2147483629)) (by rw [ap2_ok, mul_r hm2, ap2_ok, D.add_int, ap2_ok, mul_l (by decide), ap2_ok, D.add_int, ap2_ok, mod_int (by decide)]) ?_
      rw [onL_lst]
      refine Okp.to (a := .int (((m * m + 16807 * ((i : Int) + 3)) % 2147483629) / 7 % 1009)) (by rw [ap2_ok, fdiv_int (by decide), ap2_ok, mod_int (by decide)]) (Okp.to (ap _) ?_)
      exact ⟨_, rfl, _, _, rfl, push _⟩
  · rintro _ ⟨c, vs, rfl, d⟩
    exact ⟨_, rfl, vs, rfl, d⟩
end k51
end Dl
namespace Dl
namespace k51
open R
/-! ### names -/
def isL (c : Nat) : Bool := k_LETTERS.contains c
def isLF (c : Nat) : Bool := k_LETTERS.contains c || k_FIGURES.contains c
def isNm (s : List Nat) : Bool := decide (1 ≤ s.length) && decide (s.length ≤ 12) && (match s with | [] => false | c :: _ => isL c) && s.all isLF
theorem isin_sign (c : Nat) (s : List Nat) : D.isin (.str [c]) (.str s) = ok (.bl (s.contains c)) := rfl
theorem notin_sign (c : Nat) (s : List Nat) : D.notin (.str [c]) (.str s) = ok (.bl (!s.contains c)) := rfl
theorem idx_str0 (c : Nat) (s : List Nat) : D.idx (.str (c :: s)) (.int 0) = ok (.str [c]) := by
  show R.some? ((atI (c :: s) 0).map fun c => D.str [c]) = _
  unfold atI
  rw [show ixN (c :: s).length (0 : Int) = some 0 from ixN_nat (i := 0) (by simp)]
  rfl
theorem bools_map {α : Type} (p : α → Bool) (xs : List α) : bools? (xs.map fun x => D.bl (p x)) = some (xs.map p) := by
  induction xs with
  | nil => rfl
  | cons x xs ih =>
    show (bools? (xs.map fun x => D.bl (p x))).map (p x :: ·) = _
    rw [ih]; rfl
theorem all_map {α : Type} (p : α → Bool) (xs : List α) : D.all (.lst (xs.map fun x => D.bl (p x))) = ok (.bl (xs.all p)) := by
  show (R.some? (bools? (xs.map fun x => D.bl (p x)))).bind _ = _
  rw [bools_map]
  show ok (D.bl ((xs.map p).all id)) = _
  rw [List.all_map]; rfl
theorem signs_ok (c : Nat) (s : List Nat) : f_has_name_signs (.str (c :: s)) = ok (.bl (isL c && (c :: s).all isLF)) := by
  unfold f_has_name_signs
  rw [ap2_ok, idx_str0, ap2_ok, notin_sign, tst_bl]
  show (ok (!isL c)).iff _ _ = _
  cases q : isL c with
  | false => rfl
  | true =>
    show callR (fn1 D.all) [lcR (iterR (ok (.str (c :: s)))) _] = _
    rw [iterR_str, lcR_map (g := fun c => D.bl (isLF c)) (c :: s) fun x _ => by rw [ap2_ok, isin_sign, ap2_ok, isin_sign, orV_bl]; rfl, callR_1, all_map]
    rfl
theorem is_name_ok (s : List Nat) : f_is_name (.str s) = ok (.bl (isNm s)) := by
  unfold f_is_name
  show (notB (tst (ok (.bl true)))).iff _ _ = _
  rw [tst_bl, notB_ok]
  show (notB (tst (chain2 D.le D.le (ok (.int 1)) (ok (.int (s.length : Int))) (ok (.int 12))))).iff _ _ = _
  show (notB (tst ((ok (D.bl (decide ((1 : Int) ≤ (s.length : Int))))).bind fun k => k.truth.iff (ok (D.bl (decide ((s.length : Int) ≤ 12)))) (ok k)))).iff _ _ = _
  rw [bind_ok]
  show (notB (tst ((ok (decide ((1 : Int) ≤ (s.length : Int)))).iff (ok (D.bl (decide ((s.length : Int) ≤ 12)))) (ok (D.bl (decide ((1 : Int) ≤ (s.length : Int)))))))).iff _ _ = _
  by_cases h1 : (1 : Int) ≤ (s.length : Int)
  · rw [decide_eq_true h1, R.iff_true, tst_bl, notB_ok]
    by_cases h2 : (s.length : Int) ≤ 12
    · rw [decide_eq_true h2]
      show callR (fn1 f_has_name_signs) [ok (.str s)] = _
      cases s with
      | nil => simp at h1
      | cons c s =>
        rw [callR_1, signs_ok]
        unfold isNm
        have h3 : 1 ≤ (c :: s).length := by simp
        have h4 : (c :: s).length ≤ 12 := by omega
        rw [decide_eq_true h3, decide_eq_true h4]
        rfl
    · rw [decide_eq_false h2]
      have h4 : ¬ s.length ≤ 12 := by omega
      unfold isNm
      rw [decide_eq_false h4]
      simp
  · rw [decide_eq_false h1, R.iff_false, tst_bl, notB_ok]
    have h4 : ¬ 1 ≤ s.length := by omega
    unfold isNm
    rw [decide_eq_false h4]
    simp
theorem contains_LF (c : Nat) : ([97, 98, 99, 100, 101, 102, 103, 104, 105, 106, 107, 108, 109, 110, 111, 112, 113, 114, 115, 116, 117, 118, 119, 120, 121, 122, 48, 49, 50, 51, 52, 53, 54, 55, 56, 57] : List Nat).contains c = isLF c := by
  have e : ([97, 98, 99, 100, 101, 102, 103, 104, 105, 106, 107, 108, 109, 110, 111, 112, 113, 114, 115, 116, 117, 118, 119, 120, 121, 122, 48, 49, 50, 51, 52, 53, 54, 55, 56, 57] : List Nat) = k_LETTERS ++ k_FIGURES := rfl
  rw [e]
  unfold isLF
  simp [List.contains_eq_mem]
theorem eq_nil (ds : List D) (h : okds ds 59 = true) : D.eq (.lst ds) (.lst []) = ok (.bl ds.isEmpty) := by
  show (if ((D.lst ds).okd 60 && (D.lst []).okd 60) = true then (ok (.bl ((D.lst ds).eqv (.lst []))) : R D) else bad) = _
  have e1 : (D.lst ds).okd 60 = true := h
  rw [e1]
  cases ds <;> rfl
theorem ne_nil (ds : List D) (h : okds ds 59 = true) : D.ne (.lst ds) (.lst []) = ok (.bl (!ds.isEmpty)) := by
  show (if ((D.lst ds).okd 60 && (D.lst []).okd 60) = true then (ok (.bl (!(D.lst ds).eqv (.lst []))) : R D) else bad) = _
  have e1 : (D.lst ds).okd 60 = true := h
  rw [e1]
  cases ds <;> rfl
theorem lstR_nil : lstR [] = ok (.lst []) := rfl
theorem law_is_name_ok (s : List Nat) : f__law_is_name (.str s) = ok (.bl (isNm s)) := by
  unfold f__law_is_name
  have ch : tst (chain2 D.le D.le (ok (.int 1)) (callR (fn1 D.len) [ok (.str s)]) (ok (.int 12))) = ok (decide (1 ≤ s.length) && decide (s.length ≤ 12)) := by
    show tst ((ok (D.bl (decide ((1 : Int) ≤ (s.length : Int))))).bind fun k => k.truth.iff (ok (D.bl (decide ((s.length : Int) ≤ 12)))) (ok k)) = _
    rw [bind_ok]
    show tst ((ok (decide ((1 : Int) ≤ (s.length : Int)))).iff (ok (D.bl (decide ((s.length : Int) ≤ 12)))) (ok (D.bl (decide ((1 : Int) ≤ (s.length : Int)))))) = _
    have e1 : decide ((1 : Int) ≤ (s.length : Int)) = decide (1 ≤ s.length) := by simp; omega
    have e2 : decide ((s.length : Int) ≤ 12) = decide (s.length ≤ 12) := by simp; omega
    rw [e1, e2]
    cases decide (1 ≤ s.length) <;> rfl
  rw [ch]
  show (orB (ok false) (orB (ok (!(decide (1 ≤ s.length) && decide (s.length ≤ 12)))) _)).iff _ _ = _
  rw [orB_false]
  cases hb : (decide (1 ≤ s.length) && decide (s.length ≤ 12)) with
  | false =>
    show (ok true).iff _ _ = _
    rw [R.iff_true]
    unfold isNm
    rw [hb]; rfl
  | true =>
    rw [Bool.not_true, orB_false]
    cases s with
    | nil => simp at hb
    | cons c s =>
      rw [ap2_ok, idx_str0, ap2_ok, notin_sign, tst_bl]
      have e3 : ([97, 98, 99, 100, 101, 102, 103, 104, 105, 106, 107, 108, 109, 110, 111, 112, 113, 114, 115, 116, 117, 118, 119, 120, 121, 122] : List Nat).contains c = isL c := rfl
      rw [e3]
      unfold isNm
      rw [hb]
      cases qL : isL c with
      | false =>
        show (ok true).iff _ _ = _
        rw [R.iff_true]
        simp [qL]
      | true =>
        show (ok false).iff _ _ = _
        rw [R.iff_false, iterR_str, lcifR_map (p := fun x => !isLF x) (g := fun c => D.str [c]) (c :: s) (fun x _ => by rw [ap2_ok, notin_sign, tst_bl, contains_LF]) fun x _ _ => rfl, lstR_nil, ap2_ok, eq_nil _ (okds_map (fun x => okd_str _ _) _)]
        congr 2
        simp only [Bool.true_and, qL]
        generalize c :: s = l
        induction l with
        | nil => rfl
        | cons x l ih =>
          rw [List.all_cons, ← ih]
          cases q : isLF x with
          | true => rw [List.filter_cons_of_neg (by simp [q])]; simp
          | false => rw [List.filter_cons_of_pos (by simp [q])]; simp
end k51
end Dl
namespace Dl
namespace k51
open R
abbrev kR : List Nat := [114, 101, 110, 97, 109, 101]
abbrev kT : List Nat := [116, 117, 114, 110]
abbrev kD : List Nat := [100, 114, 111, 112]
abbrev kA : List Nat := [97, 100, 100]
abbrev tt (ts : List (List Nat)) : D := .tup (ts.map D.str)
def stepB (fs : List (List Nat)) : List (List Nat) → Bool
  | [k, a, b] => k == kR && (fs.contains a && (isNm b && !fs.contains b))
  | [k, a] => if k == kT then fs.contains a else if k == kD then fs.contains a && decide (1 < fs.length) else if k == kA then isNm a && (!fs.contains a && decide (fs.length < 40)) else false
  | _ => false
theorem stepB3 (fs : List (List Nat)) (k a b : List Nat) : stepB fs [k, a, b] = (k == kR && (fs.contains a && (isNm b && !fs.contains b))) := rfl
theorem stepB2 (fs : List (List Nat)) (k a : List Nat) : stepB fs [k, a] = if k == kT then fs.contains a else if k == kD then fs.contains a && decide (1 < fs.length) else if k == kA then isNm a && (!fs.contains a && decide (fs.length < 40)) else false := rfl
theorem isi_okd {e : D} {n : Nat} (t : Ty) (h : e.okd n = true) : D.isi t e = ok (.bl (e.isT t)) := by
  cases e with
  | dct _ _ => cases n <;> cases h
  | obj _ _ => cases n <;> cases h
  | scr _ => cases n <;> cases h
  | _ => rfl
theorem okds_mem' : ∀ {ds : List D} {n : Nat}, okds ds n = true → ∀ d ∈ ds, d.okd n = true
  | [], _, _, d, h => by cases h
  | e :: ds, n, h, d, hd => by
    obtain ⟨h1, h2⟩ := Bool.and_eq_true_iff.mp (show (e.okd n && okds ds n) = true from h)
    rcases List.mem_cons.mp hd with z | z
    · rw [z]; exact h1
    · exact okds_mem' h2 d z
theorem len_tl (fs : List (List Nat)) : D.len (tl fs) = ok (.int fs.length) := by
  show ok (D.int ((fs.map D.str).length : Nat)) = _
  rw [List.length_map]
theorem mEq_str (a s : List Nat) : mEq (.str a) s = ok (a == s) := by
  unfold mEq
  rw [okd_str]; rfl
theorem is_rename_ok (fs : List (List Nat)) (a b : List Nat) : f_is_rename (tl fs) (.str a) (.str b) = ok (.bl (fs.contains a && (isNm b && !fs.contains b))) := by
  unfold f_is_rename
  rw [ap2_ok, isin_tl, callR_1, is_name_ok, ap2_ok, notin_tl, andV_bl, andV_bl]
theorem is_addition_ok (fs : List (List Nat)) (a : List Nat) : f_is_addition (tl fs) (.str a) = ok (.bl (isNm a && (!fs.contains a && decide (fs.length < 40)))) := by
  unfold f_is_addition
  have e : decide ((fs.length : Int) < k_MOST_FIELDS) = decide (fs.length < 40) := decide_eq_decide.mpr (by unfold k_MOST_FIELDS; omega)
  rw [callR_1, is_name_ok, ap2_ok, notin_tl, callR_1, len_tl, ap2_ok, D.lt_int, e, andV_bl, andV_bl]
theorem iff_okb {α : Type} (c : Bool) (a b : R α) : (ok c).iff a b = if c = true then a else b := by cases c <;> rfl
theorem is_step_tt (fs ts : List (List Nat)) : f_is_step (tl fs) (tt ts) = ok (.bl (stepB fs ts)) := by
  unfold f_is_step
  have h1 : callR (fn1 D.all) [lcR (iterR (ok (tt ts))) fun part_3 => isiR .str (ok part_3)] = ok (.bl true) := by
    rw [iterR_tup, lcR_map (enc := D.str) (g := fun _ => D.bl true) ts fun x _ => rfl, callR_1, all_map (fun _ => true)]
    simp
  rw [h1]
  show (orB (ok false) (notB (tst (ok (.bl true))))).iff _ _ = _
  rw [orB_false, tst_bl, notB_ok]
  show (ok false).iff _ _ = _
  rw [R.iff_false, bind_ok]
  match ts with
  | [] => rfl
  | [k] => rfl
  | [k, a, b] =>
    show ((mEq (.str k) kR).iff (callR (fn3 f_is_rename) [ok (tl fs), ok (.str a), ok (.str b)]) (ok (.bl false))) = _
    rw [mEq_str, callR_3, is_rename_ok, iff_okb]
    rw [stepB3]
    cases k == kR <;> rfl
  | [k, a] =>
    show ((mEq (.str k) kT).iff (ap2 D.isin (ok (.str a)) (ok (tl fs))) ((mEq (.str k) kD).iff (andV (ap2 D.isin (ok (.str a)) (ok (tl fs))) (ap2 D.gt (callR (fn1 D.len) [ok (tl fs)]) (ok (.int 1)))) ((mEq (.str k) kA).iff (callR (fn2 f_is_addition) [ok (tl fs), ok (.str a)]) (ok (.bl false))))) = _
    rw [mEq_str, mEq_str, mEq_str, callR_2, is_addition_ok, ap2_ok, isin_tl, callR_1, len_tl, ap2_ok, D.gt_int, andV_bl, iff_okb, iff_okb, iff_okb]
    have e : decide ((1 : Int) < (fs.length : Int)) = decide (1 < fs.length) := decide_eq_decide.mpr (by omega)
    rw [e]
    rw [stepB2]
    cases k == kT <;> cases k == kD <;> cases k == kA <;> rfl
  | _ :: _ :: _ :: _ :: _ => rfl
/-- any value -/
def vStep (fs : List (List Nat)) (v : D) : Prop := ∃ ts, v = tt ts ∧ stepB fs ts = true
theorem strs_of {ds : List D} (h : ds.all (fun e => e.isT .str) = true) : ∃ ts : List (List Nat), ds = ts.map D.str := by
  induction ds with
  | nil => exact ⟨[], rfl⟩
  | cons d ds ih =>
    rw [List.all_cons, Bool.and_eq_true] at h
    obtain ⟨ts, e⟩ := ih h.2
    cases d with
    | str s => exact ⟨s :: ts, by rw [e]; rfl⟩
    | _ => cases h.1
theorem is_step_odd (fs : List (List Nat)) (v : D) (hv : v.okd 59 = true) (hn : ∀ ts, v ≠ tt ts) : f_is_step (tl fs) v = ok (.bl false) := by
  unfold f_is_step
  rw [isiR_ok, isi_okd .tuple hv]
  cases v with
  | tup ds =>
    have hk : okds ds 58 = true := hv
    have h1 : callR (fn1 D.all) [lcR (iterR (ok (.tup ds))) fun part_3 => isiR .str (ok part_3)] = ok (.bl (ds.all fun e => e.isT .str)) := by
      have := lcR_map (enc := id) (f := fun part_3 => isiR .str (ok part_3)) (g := fun e => D.bl (e.isT .str)) ds fun x hx => isi_okd .str (okds_mem' hk x hx)
      rw [List.map_id] at this
      rw [iterR_tup, this, callR_1, all_map]
    rw [h1]
    cases q : ds.all fun e => e.isT .str with
    | true =>
      obtain ⟨ts, e⟩ := strs_of q
      exact absurd (by rw [e]) (hn ts)
    | false => rfl
  | dct _ _ => cases hv
  | obj _ _ => cases hv
  | scr _ => cases hv
  | _ => rfl
end k51
end Dl
namespace Dl
namespace k51
open R
theorem eq_int (a b : Int) : D.eq (.int a) (.int b) = ok (.bl (a == b)) := rfl
theorem ne_int (a b : Int) : D.ne (.int a) (.int b) = ok (.bl (!(a == b))) := rfl
theorem eq_str (a b : List Nat) : D.eq (.str a) (.str b) = ok (.bl (a == b)) := rfl
theorem ne_str (a b : List Nat) : D.ne (.str a) (.str b) = ok (.bl (!(a == b))) := rfl
theorem idx_t0 (a : List Nat) (r : List (List Nat)) : D.idx (tt (a :: r)) (.int 0) = ok (.str a) := by
  show R.some? (atI ((a :: r).map D.str) 0) = _
  unfold atI
  rw [show ixN ((a :: r).map D.str).length (0 : Int) = some 0 from ixN_nat (i := 0) (by simp)]
  rfl
theorem idx_t1 (a b : List Nat) (r : List (List Nat)) : D.idx (tt (a :: b :: r)) (.int 1) = ok (.str b) := by
  show R.some? (atI ((a :: b :: r).map D.str) 1) = _
  unfold atI
  rw [show ixN ((a :: b :: r).map D.str).length (1 : Int) = some 1 from ixN_nat (i := 1) (by simp)]
  rfl
theorem idx_t2 (a b c : List Nat) (r : List (List Nat)) : D.idx (tt (a :: b :: c :: r)) (.int 2) = ok (.str c) := by
  show R.some? (atI ((a :: b :: c :: r).map D.str) 2) = _
  unfold atI
  rw [show ixN ((a :: b :: c :: r).map D.str).length (2 : Int) = some 2 from ixN_nat (i := 2) (by simp)]
  rfl
theorem len_tt (ts : List (List Nat)) : D.len (tt ts) = ok (.int ts.length) := by
  show ok (D.int ((ts.map D.str).length : Nat)) = _
  rw [List.length_map]
theorem law_is_step_tt (fs ts : List (List Nat)) : f__law_is_step (tl fs) (tt ts) = ok (.bl (stepB fs ts)) := by
  unfold f__law_is_step
  have h1 : lcifR (iterR (ok (tt ts))) (fun part_3 => notB (tst (isiR .str (ok part_3)))) (fun part_3 => ok part_3) = ok (.lst []) := by
    rw [iterR_tup, lcifR_map (enc := D.str) (p := fun _ => false) (g := D.str) ts (fun x _ => rfl) fun x _ h => nomatch h]
    simp
  rw [h1, lstR_nil, ap2_ok, ne_nil [] rfl]
  show (orB (ok false) (ok false)).iff _ _ = _
  have e3 : ((ts.length : Int) == 3) = (ts.length == 3) := by rw [Bool.eq_iff_iff]; simp; omega
  have e2 : ((ts.length : Int) == 2) = (ts.length == 2) := by rw [Bool.eq_iff_iff]; simp; omega
  have e4 : decide ((1 : Int) < (fs.length : Int)) = decide (1 < fs.length) := decide_eq_decide.mpr (by omega)
  have e5 : decide ((fs.length : Int) < 40) = decide (fs.length < 40) := decide_eq_decide.mpr (by omega)
  simp only [orB_false, R.iff_false, callR_1, len_tt, len_tl, ap2_ok, eq_int, ne_int, tst_bl, iff_okb, e3, e2, e4, e5, D.gt_int, D.lt_int]
  match ts with
  | [] => rfl
  | [k] => rfl
  | [k, a, b] =>
    simp only [callR_1, idx_t0, idx_t1, idx_t2, ap2_ok, eq_str, isin_tl, notin_tl, law_is_name_ok, andV_bl, stepB3]
    rfl
  | [k, a] =>
    simp only [callR_1, idx_t0, idx_t1, ap2_ok, eq_str, isin_tl, notin_tl, law_is_name_ok, andV_bl, stepB2, tst_bl, iff_okb]
    cases k == kT <;> cases k == kD <;> cases k == kA <;> rfl
  | _ :: _ :: _ :: _ :: r => simp [stepB]
mutual
theorem okd_le : ∀ (d : D) (n m : Nat), n ≤ m → d.okd n = true → d.okd m = true
  | .non, n, m, _, _ => by cases m <;> rfl
  | .bl _, n, m, _, _ => by cases m <;> rfl
  | .int _, n, m, _, _ => by cases m <;> rfl
  | .str _, n, m, _, _ => by cases m <;> rfl
  | .lst ds, n, m, h, k => by
    cases n with
    | zero => cases k
    | succ n => cases m with
      | zero => omega
      | succ m => exact okds_le ds n m (by omega) k
  | .tup ds, n, m, h, k => by
    cases n with
    | zero => cases k
    | succ n => cases m with
      | zero => omega
      | succ m => exact okds_le ds n m (by omega) k
  | .dct _ _, n, m, h, k => by cases n <;> cases k
  | .obj _ _, n, m, h, k => by cases n <;> cases k
  | .scr _, n, m, h, k => by cases n <;> cases k
theorem okds_le : ∀ (ds : List D) (n m : Nat), n ≤ m → okds ds n = true → okds ds m = true
  | [], n, m, _, _ => by cases m <;> rfl
  | d :: ds, n, m, h, k => by
    obtain ⟨h1, h2⟩ := Bool.and_eq_true_iff.mp (show (d.okd n && okds ds n) = true from k)
    show (d.okd m && okds ds m) = true
    rw [okd_le d n m h h1, okds_le ds n m h h2]; rfl
end
theorem okds_of {n : Nat} : ∀ l : List D, (∀ x ∈ l, x.okd n = true) → okds l n = true
  | [], _ => by cases n <;> rfl
  | x :: l, h => by
    show (x.okd n && okds l n) = true
    rw [h x (List.mem_cons_self ..), okds_of l fun y hy => h y (List.mem_cons_of_mem _ hy)]; rfl
theorem law_is_step_odd (fs : List (List Nat)) (v : D) (hv : v.okd 59 = true) (hn : ∀ ts, v ≠ tt ts) : f__law_is_step (tl fs) v = ok (.bl false) := by
  unfold f__law_is_step
  rw [isiR_ok, isi_okd .tuple hv]
  cases v with
  | tup ds =>
    have hk : okds ds 58 = true := hv
    have h1 : lcifR (iterR (ok (.tup ds))) (fun part_3 => notB (tst (isiR .str (ok part_3)))) (fun part_3 => ok part_3) = ok (.lst (ds.filter fun e => !e.isT .str)) := by
      have := lcifR_map (enc := id) (c := fun part_3 => notB (tst (isiR .str (ok part_3)))) (f := fun part_3 => ok part_3) (p := fun e => !e.isT .str) (g := id) ds (fun x hx => by show notB (tst (D.isi .str x)) = _; rw [isi_okd .str (okds_mem' hk x hx)]; rfl) fun x _ _ => rfl
      rw [List.map_id] at this
      rw [iterR_tup, this, List.map_id]
    have hk2 : okds (ds.filter fun e => !e.isT .str) 59 = true := okds_of _ fun x hx => okd_le x 58 59 (by omega) (okds_mem' hk x (List.mem_filter.mp hx).1)
    rw [h1, lstR_nil, ap2_ok, ne_nil _ hk2]
    cases q : ds.all fun e => e.isT .str with
    | true =>
      obtain ⟨ts, e⟩ := strs_of q
      exact absurd (by rw [e]) (hn ts)
    | false =>
      have : (ds.filter fun e => !e.isT .str).isEmpty = false := by
        rw [List.all_eq_false] at q
        obtain ⟨x, hx, hq⟩ := q
        cases z : ds.filter fun e => !e.isT .str with
        | nil =>
          have hm : x ∈ ds.filter fun e => !e.isT .str := List.mem_filter.mpr ⟨hx, by simpa using hq⟩
          rw [z] at hm; cases hm
        | cons _ _ => rfl
      rw [this]; rfl
  | dct _ _ => cases hv
  | obj _ _ => cases hv
  | scr _ => cases hv
  | _ => rfl
end k51
end Dl
namespace Dl
namespace k51
open R
/-! ### sorted texts -/
def leN (a b : List Nat) : Bool := !lexN b a
def srt (xs : List (List Nat)) : List (List Nat) := xs.mergeSort leN
theorem leT_str (a b : List Nat) : D.leT (.str a) (.str b) = leN a b := by
  show (!lexB [.inr b] [.inr a]) = _
  unfold leN
  congr 1
  show (lexN b a || (!lexN a b && lexB [] [])) = _
  simp [lexB]
theorem sortable_str (xs : List (List Nat)) : sortable (xs.map D.str) = true := by
  unfold sortable
  rw [okds_str]
  have h1 : ((xs.map D.str).all fun x => (xs.map D.str).all fun y => x.alike y) = true := by
    rw [List.all_map, List.all_eq_true]
    intro a _
    show ((xs.map D.str).all fun y => (D.str a).alike y) = true
    rw [List.all_map, List.all_eq_true]
    intro b _
    rfl
  have h2 : (xs.map D.str).all D.atomS = true := by
    rw [List.all_map, List.all_eq_true]
    intro a _
    rfl
  rw [h1, h2]
  simp
theorem sorted_tl (xs : List (List Nat)) : D.sorted (tl xs) = ok (tl (srt xs)) := by
  show (if sortable (xs.map D.str) = true then (ok (.lst ((xs.map D.str).mergeSort D.leT)) : R D) else bad) = _
  rw [sortable_str, if_pos rfl, srt, ← List.map_mergeSort (r := leN) (s := D.leT) (f := D.str) fun a _ b _ => (leT_str a b).symm]
theorem srt_perm (xs : List (List Nat)) : (srt xs).Perm xs := List.mergeSort_perm xs leN
/-! ### what a step leaves -/
def aft (fs : List (List Nat)) : List (List Nat) → List (List Nat)
  | [_, a, b] => srt (fs.map fun f => if f == a then b else f)
  | [k, a] => if k == kT then fs else if k == kD then fs.filter (fun f => !(f == a)) else srt (fs ++ [a])
  | _ => fs
theorem aft3 (fs : List (List Nat)) (k a b : List Nat) : aft fs [k, a, b] = srt (fs.map fun f => if f == a then b else f) := rfl
theorem aft2 (fs : List (List Nat)) (k a : List Nat) : aft fs [k, a] = if k == kT then fs else if k == kD then fs.filter (fun f => !(f == a)) else srt (fs ++ [a]) := rfl
theorem add_tl (fs gs : List (List Nat)) (h : fs.length + gs.length ≤ 16777216) : D.add (tl fs) (tl gs) = ok (tl (fs ++ gs)) := by
  show (if (fs.map D.str).length + (gs.map D.str).length ≤ L then (ok (.lst (fs.map D.str ++ gs.map D.str)) : R D) else bad) = _
  rw [List.length_map, List.length_map, L_eq, if_pos h, ← List.map_append]
theorem lstR_one (a : List Nat) : lstR [ok (.str a)] = ok (tl [a]) := rfl
theorem toList_tl (fs : List (List Nat)) : D.toList (tl fs) = ok (tl fs) := rfl
theorem ren_map (fs : List (List Nat)) (a b : List Nat) : lcR (ok (fs.map D.str)) (fun f => (tst (ap2 D.eq (ok f) (ok (.str a)))).iff (ok (.str b)) (ok f)) = ok (tl (fs.map fun f => if f == a then b else f)) := by
  rw [lcR_map (enc := D.str) (g := fun f => D.str (if f == a then b else f)) fs fun x _ => by
    rw [ap2_ok, eq_str, tst_bl, iff_okb]
    cases x == a <;> rfl]
  show ok (D.lst _) = ok (D.lst _)
  rw [List.map_map]; rfl
theorem drop_map (fs : List (List Nat)) (a : List Nat) : lcifR (ok (fs.map D.str)) (fun f => tst (ap2 D.ne (ok f) (ok (.str a)))) (fun f => ok f) = ok (tl (fs.filter fun f => !(f == a))) := by
  rw [lcifR_map (enc := D.str) (p := fun f => !(f == a)) (g := D.str) fs (fun x _ => by rw [ap2_ok, ne_str, tst_bl]) fun x _ _ => rfl]
theorem fields_after_one_ok (fs ts : List (List Nat)) (hl : fs.length ≤ 1000) (h : stepB fs ts = true) : f_fields_after_one (tl fs) (tt ts) = ok (tl (aft fs ts)) := by
  unfold f_fields_after_one
  rw [bind_ok]
  match ts, h with
  | [k, a, b], h =>
    rw [stepB3, Bool.and_eq_true] at h
    show (mEq (.str k) kR).iff _ _ = _
    rw [mEq_str, h.1, R.iff_true, iterR_lst]
    dsimp only
    rw [ren_map, callR_1, sorted_tl, aft3]
  | [k, a], h =>
    rw [stepB2] at h
    show (mEq (.str k) kD).iff _ ((mEq (.str k) kA).iff _ _) = _
    rw [mEq_str, mEq_str, iterR_lst]
    dsimp only
    rw [drop_map, lstR_one, ap2_ok, add_tl fs [a] (by simp; omega), callR_1, sorted_tl, callR_1, toList_tl, iff_okb, iff_okb, aft2]
    by_cases h1 : k = kT
    · subst h1; rfl
    · by_cases h2 : k = kD
      · subst h2; rfl
      · by_cases h3 : k = kA
        · subst h3; rfl
        · rw [if_neg (by simpa using h1), if_neg (by simpa using h2), if_neg (by simpa using h3)] at h; cases h
  | [], h => cases h
  | [_], h => cases h
  | _ :: _ :: _ :: _ :: _, h => cases h
theorem law_fields_after_ok (fs ts : List (List Nat)) (hl : fs.length ≤ 1000) (h : stepB fs ts = true) : f__law_fields_after (tl fs) (tt ts) = ok (tl (aft fs ts)) := by
  unfold f__law_fields_after
  match ts, h with
  | [k, a, b], h =>
    rw [stepB3, Bool.and_eq_true] at h
    have pick : lcR (ok (fs.map D.str)) (fun field_3 => ap2 D.idx (lstR [ok field_3, ok (.str b)]) (callR (fn1 D.toInt) [ap2 D.eq (ok field_3) (ok (.str a))])) = ok (tl (fs.map fun f => if f == a then b else f)) := by
      rw [lcR_map (enc := D.str) (g := fun f => D.str (if f == a then b else f)) fs fun x _ => by
        rw [ap2_ok, eq_str]
        show ap2 D.idx (ok (.lst [.str x, .str b])) (ok (.int (if (x == a) = true then 1 else 0))) = _
        rw [ap2_ok]
        cases x == a
        · exact idx_nat (i := 0) rfl
        · exact idx_nat (i := 1) rfl]
      show ok (D.lst _) = ok (D.lst _)
      rw [List.map_map]; rfl
    simp only [ap2_ok, idx_t0, idx_t1, idx_t2, eq_str, tst_bl, iterR_lst] at pick ⊢
    rw [show (k == [114, 101, 110, 97, 109, 101]) = true from h.1, R.iff_true]
    rw [pick, callR_1, sorted_tl, aft3]
  | [k, a], h =>
    rw [stepB2] at h
    simp only [ap2_ok, idx_t0, idx_t1, eq_str, tst_bl, iterR_lst]
    have hd := drop_map fs a
    simp only [ap2_ok] at hd
    rw [hd, lstR_one, ap2_ok, add_tl fs [a] (by simp; omega), callR_1, sorted_tl, callR_1, toList_tl, iff_okb, iff_okb, iff_okb, aft2]
    by_cases h1 : k = kT
    · subst h1; rfl
    · by_cases h2 : k = kD
      · subst h2; rfl
      · by_cases h3 : k = kA
        · subst h3; rfl
        · rw [if_neg (by simpa using h1), if_neg (by simpa using h2), if_neg (by simpa using h3)] at h; cases h
  | [], h => cases h
  | [_], h => cases h
  | _ :: _ :: _ :: _ :: _, h => cases h
end k51
end Dl
namespace Dl
namespace k51
open R
/-- a right list of fields -/
structure FV (fs : List (List Nat)) : Prop where
  pos : 0 < fs.length
  le : fs.length ≤ 40
  nd : fs.Nodup
  nm : ∀ f ∈ fs, isNm f = true
theorem FV.perm {fs gs : List (List Nat)} (h : FV fs) (p : gs.Perm fs) : FV gs :=
  ⟨by rw [p.length_eq]; exact h.pos, by rw [p.length_eq]; exact h.le, p.nodup_iff.mpr h.nd, fun f hf => h.nm f (p.mem_iff.mp hf)⟩
theorem nodup_map {α β : Type} {f : α → β} {l : List α} (h : l.Nodup) (inj : ∀ a ∈ l, ∀ b ∈ l, f a = f b → a = b) : (l.map f).Nodup := by
  induction l with
  | nil => exact List.nodup_nil
  | cons x l ih =>
    rw [List.nodup_cons] at h
    rw [List.map_cons, List.nodup_cons]
    refine ⟨fun hm => ?_, ih h.2 fun a ha b hb => inj a (List.mem_cons_of_mem _ ha) b (List.mem_cons_of_mem _ hb)⟩
    obtain ⟨y, hy, e⟩ := List.mem_map.mp hm
    have := inj y (List.mem_cons_of_mem _ hy) x (List.mem_cons_self ..) e
    rw [this] at hy
    exact h.1 hy
theorem aft_FV {fs ts : List (List Nat)} (hf : FV fs) (h : stepB fs ts = true) : FV (aft fs ts) := by
  match ts, h with
  | [k, a, b], h =>
    rw [stepB3] at h
    simp only [Bool.and_eq_true, Bool.not_eq_true', List.contains_eq_mem, decide_eq_true_eq, decide_eq_false_iff_not] at h
    obtain ⟨_, ha, hb, hn⟩ := h
    rw [aft3]
    refine FV.perm ?_ (srt_perm _)
    refine ⟨by rw [List.length_map]; exact hf.pos, by rw [List.length_map]; exact hf.le, nodup_map hf.nd fun x hx y hy e => ?_, fun f hm => ?_⟩
    · by_cases h1 : x = a
      · by_cases h2 : y = a
        · rw [h1, h2]
        · exfalso
          simp [h1, h2] at e
          exact hn (e ▸ hy)
      · by_cases h2 : y = a
        · exfalso
          simp [h1, h2] at e
          exact hn (e ▸ hx)
        · simpa [h1, h2] using e
    · obtain ⟨x, hx, e⟩ := List.mem_map.mp hm
      subst e
      by_cases h1 : x = a
      · simp [h1, hb]
      · simp [h1, hf.nm x hx]
  | [k, a], h =>
    rw [stepB2] at h
    rw [aft2]
    by_cases h1 : k = kT
    · rw [if_pos (by simpa using h1)]; exact hf
    · rw [if_neg (by simpa using h1)] at h ⊢
      by_cases h2 : k = kD
      · rw [if_pos (by simpa using h2)] at h ⊢
        simp only [Bool.and_eq_true, List.contains_eq_mem, decide_eq_true_eq] at h
        have e : fs.filter (fun f => !(f == a)) = fs.erase a := by
          rw [hf.nd.erase_eq_filter]; rfl
        have el : (fs.erase a).length = fs.length - 1 := List.length_erase_of_mem h.1
        rw [e]
        have h1 := h.2
        have h2 := hf.le
        exact ⟨by omega, by omega, hf.nd.erase a, fun f hm => hf.nm f (List.mem_of_mem_erase hm)⟩
      · rw [if_neg (by simpa using h2)] at h ⊢
        by_cases h3 : k = kA
        · rw [if_pos (by simpa using h3)] at h
          simp only [Bool.and_eq_true, Bool.not_eq_true', List.contains_eq_mem, decide_eq_true_eq, decide_eq_false_iff_not] at h
          obtain ⟨hn, ha, hl⟩ := h
          refine FV.perm ?_ (srt_perm _)
          refine ⟨by simp, by simp; omega, ?_, fun f hm => ?_⟩
          · rw [List.nodup_append]
            refine ⟨hf.nd, by simp, fun x hx y hy e => ?_⟩
            have : y = a := by simpa using hy
            rw [e, this] at hx
            exact ha hx
          · rcases List.mem_append.mp hm with hm | hm
            · exact hf.nm f hm
            · have : f = a := by simpa using hm
              rw [this]; exact hn
        · rw [if_neg (by simpa using h3)] at h; cases h
  | [], h => cases h
  | [_], h => cases h
  | _ :: _ :: _ :: _ :: _, h => cases h
/-! ### drawn names -/
theorem nm_small : ∀ m < 100, ∀ c, isL c = true → isNm (c :: strN m) = true := by
  have h1 : ∀ m < 100, (strN m).length ≤ 11 ∧ (strN m).all isLF = true := by decide +kernel
  intro m hm c hc
  obtain ⟨h2, h3⟩ := h1 m hm
  unfold isNm
  have h4 : isLF c = true := by unfold isLF; unfold isL at hc; rw [hc]; rfl
  have h5 : 1 ≤ (c :: strN m).length := by simp
  have h6 : (c :: strN m).length ≤ 12 := by simp; omega
  rw [decide_eq_true h5, decide_eq_true h6]
  simp [hc, h4]
  simpa using h3
theorem strN_inj : ∀ m < 100, ∀ n < 100, strN m = strN n → m = n := by decide +kernel
theorem strN_len : ∀ m < 100, (strN m).length ≤ 10 := by decide +kernel
theorem toStr_nat {m : Nat} (h : m < 10000000000) : D.toStr (.int m) = ok (.str (strN m)) := by
  show (if 0 ≤ (m : Int) ∧ (m : Int) < 10000000000 then (ok (.str (strN (m : Int).toNat)) : R D) else bad) = _
  rw [if_pos (by omega)]; rfl
theorem add_str (a b : List Nat) (h : a.length + b.length ≤ 16777216) : D.add (.str a) (.str b) = ok (.str (a ++ b)) := by
  show (if a.length + b.length ≤ L then (ok (.str (a ++ b)) : R D) else bad) = _
  rw [L_eq, if_pos h]
theorem idx_strN {s : List Nat} {i : Nat} {c : Nat} (h : s[i]? = some c) : D.idx (.str s) (.int i) = ok (.str [c]) := by
  have hi := (List.getElem?_eq_some_iff.mp h).1
  show R.some? ((atI s i).map fun c => D.str [c]) = _
  unfold atI
  rw [ixN_nat hi]
  show R.some? (s[i]?.map fun c => D.str [c]) = _
  rw [h]; rfl
end k51
end Dl
namespace Dl
namespace k51
open R
/-- names whose k-th ends by k -/
def Numb (n : Nat) (xs : List (List Nat)) : Prop := xs.length = n ∧ ∀ (k : Nat) (x : List Nat), xs[k]? = some x → ∃ c, isL c = true ∧ x = c :: strN k
theorem Numb.push {n : Nat} {xs : List (List Nat)} {c : Nat} (h : Numb n xs) (hc : isL c = true) : Numb (n + 1) (xs ++ [c :: strN n]) := by
  refine ⟨by rw [List.length_append, h.1]; rfl, fun k x e => ?_⟩
  by_cases hk : k < xs.length
  · rw [List.getElem?_append_left hk] at e
    exact h.2 k x e
  · rw [List.getElem?_append_right (by omega)] at e
    have : k = n := by
      have := (List.getElem?_eq_some_iff.mp e).1
      rw [h.1] at this hk
      simp at this
      omega
    subst this
    rw [h.1, Nat.sub_self] at e
    cases e
    exact ⟨c, hc, rfl⟩
theorem Numb.fv {n : Nat} {xs : List (List Nat)} (h : Numb n xs) (h0 : 0 < n) (h1 : n ≤ 40) : FV xs := by
  refine ⟨by rw [h.1]; exact h0, by rw [h.1]; exact h1, ?_, fun f hf => ?_⟩
  · rw [List.Nodup, List.pairwise_iff_getElem]
    intro i j hi hj hij e
    obtain ⟨c, _, e1⟩ := h.2 i xs[i] (by simp [hi])
    obtain ⟨d, _, e2⟩ := h.2 j xs[j] (by simp [hj])
    rw [e1, e2] at e
    injection e with _ e3
    have := strN_inj i (by have := h.1; omega) j (by have := h.1; omega) e3
    omega
  · obtain ⟨k, hk, e⟩ := List.mem_iff_getElem.mp hf
    obtain ⟨c, hc, e1⟩ := h.2 k xs[k] (by simp [hk])
    rw [← e, e1]
    exact nm_small k (by have := h.1; omega) c hc
theorem isL_at {i : Nat} (h : i < 26) : ∃ c, k_LETTERS[i]? = some c ∧ isL c = true := by
  have : ∀ i < 26, (match k_LETTERS[i]? with | some c => isL c | none => false) = true := by decide +kernel
  have q := this i h
  cases e : k_LETTERS[i]? with
  | none => rw [e] at q; cases q
  | some c => rw [e] at q; exact ⟨c, rfl, q⟩
theorem map_concat (xs : List (List Nat)) (y : List Nat) : xs.map D.str ++ [D.str y] = (xs ++ [y]).map D.str := by simp
theorem drawn_fields_ok (ns : List Int) : Okp (f__law_drawn_fields (.scr ns) (.int 40)) fun d => ∃ fs, d = tl fs ∧ FV fs := by
  unfold f__law_drawn_fields
  obtain ⟨_, e, vs, rfl, hv⟩ := numbers_ok ns 0 42 (by omega)
  refine Okp.to (by rw [callR_3]; exact e) ?_
  refine Okp.to (a := .lst []) rfl ?_
  obtain ⟨v0, e0, h1, h2, _⟩ := hv.at (i := 0) (by omega)
  obtain ⟨n, hn⟩ : ∃ n : Nat, 1 + v0 % 40 = n := ⟨(1 + v0 % 40).toNat, by omega⟩
  have hn1 : 0 < n := by omega
  have hn2 : n ≤ 40 := by omega
  have e0' : D.idx (il vs) (.int 0) = ok (.int v0) := e0
  refine Okp.to (a := rngI 0 n) (by rw [ap2_ok, e0', ap2_ok, mod_int (by decide), ap2_ok, D.add_int, hn, rngR1_nat (by omega)]) ?_
  refine Okp.bind (P := fun s => ∃ xs, s = tl xs ∧ Numb n xs) (forN_rng (fun i s => ∃ xs, s = tl xs ∧ Numb i xs) n _ ⟨[], rfl, rfl, fun k x h => by simp at h⟩ fun i s hi hp => ?_) ?_
  · obtain ⟨xs, rfl, hx⟩ := hp
    obtain ⟨v, ev, h3, h4, _⟩ := hv.at (i := i + 1) (by omega)
    obtain ⟨j, hj⟩ : ∃ j : Nat, v % 26 = j := ⟨(v % 26).toNat, by omega⟩
    obtain ⟨c, ec, hc⟩ := isL_at (i := j) (by omega)
    have ev' : D.idx (il vs) (.int ((i : Int) + 1)) = ok (.int v) := ev
    rw [onL_lst]
    refine Okp.to (a := .str (c :: strN i)) ?_ (Okp.to (a := tl (xs ++ [c :: strN i])) ?_ ⟨_, rfl, _, rfl, hx.push hc⟩)
    · rw [ap2_ok, D.add_int, ap2_ok, ev', ap2_ok, mod_int (by decide), hj, ap2_ok]
      have := idx_strN (s := k_LETTERS) (i := j) ec
      rw [show D.idx (.str [97, 98, 99, 100, 101, 102, 103, 104, 105, 106, 107, 108, 109, 110, 111, 112, 113, 114, 115, 116, 117, 118, 119, 120, 121, 122]) (.int (j : Int)) = ok (.str [c]) from this, callR_1]
      show ap2 D.add (ok (.str [c])) (D.toStr (.int i)) = _
      rw [toStr_nat (by omega), ap2_ok, add_str _ _ (by have := strN_len i (by omega); simp; omega)]
      rfl
    · rw [append_lst (by rw [List.length_map, hx.1, L_eq]; omega), map_concat]
  · rintro _ ⟨xs, rfl, hx⟩
    rw [callR_1, sorted_tl]
    exact ⟨_, rfl, _, rfl, (hx.fv hn1 hn2).perm (srt_perm _)⟩
end k51
end Dl
namespace Dl
namespace k51
open R
theorem idx_tl_mod {fs : List (List Nat)} (v : Int) (h : 0 < fs.length) : ∃ f ∈ fs, D.idx (tl fs) (.int (v % (fs.length : Int))) = ok (.str f) := by
  obtain ⟨i, d, e1, e2, e3⟩ := idx_mod (ds := fs.map D.str) (v := v) (by rw [List.length_map]; exact h)
  rw [List.length_map] at e3
  rw [List.getElem?_map] at e2
  cases q : fs[i]? with
  | none => rw [q] at e2; cases e2
  | some f =>
    rw [q] at e2
    cases e2
    exact ⟨f, List.mem_of_getElem? q, e3⟩
def kinds : List (List Nat) := [kR, kT, kD, kA]
theorem kinds_eq : lstR [(R.ok (D.str [114, 101, 110, 97, 109, 101])), (R.ok (D.str [116, 117, 114, 110])), (R.ok (D.str [100, 114, 111, 112])), (R.ok (D.str [97, 100, 100]))] = ok (tl kinds) := rfl
theorem tup2 (a b : List Nat) : tupR [ok (.str a), ok (.str b)] = ok (tt [a, b]) := rfl
theorem tup3 (a b c : List Nat) : tupR [ok (.str a), ok (.str b), ok (.str c)] = ok (tt [a, b, c]) := rfl
theorem turn_ok {fs : List (List Nat)} {f : List Nat} (hf : f ∈ fs) : stepB fs [kT, f] = true := by
  rw [stepB2, if_pos (by decide)]
  simpa [List.contains_eq_mem] using hf
theorem law_step_ok {fs : List (List Nat)} {vs : List Int} (hf : FV fs) (hv : Drawn 3 vs) : Okp (f__law_step (il vs) (tl fs) (tl kinds)) fun d => ∃ ts, d = tt ts ∧ stepB fs ts = true := by
  unfold f__law_step
  obtain ⟨v0, e0, _, _, _⟩ := hv.at (i := 0) (by omega)
  obtain ⟨v1, e1, _, _, _⟩ := hv.at (i := 1) (by omega)
  obtain ⟨v2, e2, _, _, _⟩ := hv.at (i := 2) (by omega)
  have e0' : D.idx (il vs) (.int 0) = ok (.int v0) := e0
  have e1' : D.idx (il vs) (.int 1) = ok (.int v1) := e1
  have e2' : D.idx (il vs) (.int 2) = ok (.int v2) := e2
  have hp := hf.pos
  obtain ⟨kd, hk, ek⟩ := idx_tl_mod (fs := kinds) v0 (by decide)
  obtain ⟨f, hm, ef⟩ := idx_tl_mod v1 hp
  refine Okp.to (a := .str kd) (by rw [ap2_ok, e0', callR_1, len_tl, ap2_ok, mod_int (by decide), ap2_ok, ek]) ?_
  refine Okp.to (a := .str f) (by rw [ap2_ok, e1', callR_1, len_tl, ap2_ok, mod_int (by omega), ap2_ok, ef]) ?_
  obtain ⟨j, hj⟩ : ∃ j : Nat, v2 % 3 = j := ⟨(v2 % 3).toNat, by omega⟩
  obtain ⟨m, hm2⟩ : ∃ m : Nat, v2 % 97 = m := ⟨(v2 % 97).toNat, by omega⟩
  obtain ⟨c, ec, hc⟩ : ∃ c, ([120, 121, 122] : List Nat)[j]? = some c ∧ isL c = true := by
    match j, (show j < 3 by omega) with
    | 0, _ => exact ⟨120, rfl, by decide⟩
    | 1, _ => exact ⟨121, rfl, by decide⟩
    | 2, _ => exact ⟨122, rfl, by decide⟩
  have hn : isNm (c :: strN m) = true := nm_small m (by omega) c hc
  refine Okp.to (a := .str (c :: strN m)) ?_ ?_
  · rw [ap2_ok, e2', ap2_ok, mod_int (by decide), hj, ap2_ok, idx_strN ec, ap2_ok, mod_int (by decide), hm2, callR_1]
    show ap2 D.add (ok (.str [c])) (D.toStr (.int m)) = _
    rw [toStr_nat (by omega), ap2_ok, add_str _ _ (by have := strN_len m (by omega); simp; omega)]
    rfl
  generalize c :: strN m = fr at hn
  have e1len : ((fs.length : Int) == 1) = (fs.length == 1) := by rw [Bool.eq_iff_iff]; simp; omega
  have e40 : ((fs.length : Int) == 40) = (fs.length == 40) := by rw [Bool.eq_iff_iff]; simp; omega
  refine Okp.iff (b := fs.contains fr || (kd == kD && fs.length == 1)) ?_ (fun h => ?_) fun h => ?_
  · rw [ap2_ok, isin_tl, tst_bl, ap2_ok, eq_str, tst_bl, callR_1, len_tl, ap2_ok, eq_int, tst_bl, andB_ok, orB_ok, e1len]
  · rw [tup2]
    exact ⟨_, rfl, _, rfl, turn_ok hm⟩
  · simp only [Bool.or_eq_false_iff] at h
    obtain ⟨h1, h2⟩ := h
    refine Okp.iff (b := kd == kR) (by rw [ap2_ok, eq_str, tst_bl]) (fun h3 => ?_) fun h3 => ?_
    · rw [tup3]
      refine ⟨_, rfl, _, rfl, ?_⟩
      rw [stepB3, h1, hn, show fs.contains f = true by simpa [List.contains_eq_mem] using hm]
      rfl
    · refine Okp.iff (b := kd == kA) (by rw [ap2_ok, eq_str, tst_bl]) (fun h4 => ?_) fun h4 => ?_
      · refine Okp.iff (b := fs.length == 40) (by rw [callR_1, len_tl, ap2_ok, eq_int, tst_bl, e40]) (fun h5 => ?_) fun h5 => ?_
        · rw [tup2]
          exact ⟨_, rfl, _, rfl, turn_ok hm⟩
        · rw [tup2]
          refine ⟨_, rfl, _, rfl, ?_⟩
          have hl : fs.length < 40 := by
            have := hf.le
            have h6 : fs.length ≠ 40 := by simpa using h5
            omega
          rw [stepB2, h1, hn, decide_eq_true hl]
          rfl
      · rw [tup2]
        refine ⟨_, rfl, _, rfl, ?_⟩
        have hm3 : fs.contains f = true := by simpa [List.contains_eq_mem] using hm
        have h6 : kd = kT ∨ kd = kD := by
          unfold kinds at hk
          simp at hk h3 h4
          rcases hk with h | h | h | h
          · exact absurd h h3
          · exact .inl h
          · exact .inr h
          · exact absurd h h4
        rcases h6 with h6 | h6
        · rw [h6]; exact turn_ok hm
        · subst h6
          have h7 : fs.length ≠ 1 := by simpa using h2
          have h8 : 1 < fs.length := by omega
          rw [stepB2, hm3, decide_eq_true h8]
          rfl
end k51
end Dl
namespace Dl
namespace k51
open R
/-! ### steps one behind another -/
def endOf (fs : List (List Nat)) (sts : List (List (List Nat))) : List (List Nat) := sts.foldl aft fs
def okSteps : List (List Nat) → List (List (List Nat)) → Prop
  | _, [] => True
  | fs, s :: r => stepB fs s = true ∧ okSteps (aft fs s) r
def rowsL : List (List Nat) → List (List (List Nat)) → List (List (List Nat))
  | fs, [] => [fs]
  | fs, s :: r => fs :: rowsL (aft fs s) r
theorem ok_append {fs : List (List Nat)} {a b : List (List (List Nat))} : okSteps fs (a ++ b) ↔ okSteps fs a ∧ okSteps (endOf fs a) b := by
  induction a generalizing fs with
  | nil => simp [okSteps, endOf]
  | cons s r ih =>
    show (stepB fs s = true ∧ okSteps (aft fs s) (r ++ b)) ↔ ((stepB fs s = true ∧ okSteps (aft fs s) r) ∧ okSteps (endOf (aft fs s) r) b)
    rw [ih, and_assoc]
theorem end_append (fs : List (List Nat)) (a b : List (List (List Nat))) : endOf fs (a ++ b) = endOf (endOf fs a) b := List.foldl_append
theorem end_FV {fs : List (List Nat)} {a : List (List (List Nat))} (hf : FV fs) (h : okSteps fs a) : FV (endOf fs a) := by
  induction a generalizing fs with
  | nil => exact hf
  | cons s r ih => exact ih (aft_FV hf h.1) h.2
theorem rows_last (fs : List (List Nat)) (a : List (List (List Nat))) : ∃ pre, rowsL fs a = pre ++ [endOf fs a] ∧ pre.length = a.length := by
  induction a generalizing fs with
  | nil => exact ⟨[], rfl, rfl⟩
  | cons s r ih =>
    obtain ⟨pre, e, l⟩ := ih (aft fs s)
    exact ⟨fs :: pre, by show fs :: rowsL (aft fs s) r = _; rw [e]; rfl, by simp [l]⟩
theorem rows_len (fs : List (List Nat)) (a : List (List (List Nat))) : (rowsL fs a).length = a.length + 1 := by
  obtain ⟨pre, e, l⟩ := rows_last fs a
  rw [e, List.length_append, l]; rfl
theorem rows_get {fs : List (List Nat)} {a : List (List (List Nat))} {i : Nat} (h : i ≤ a.length) : (rowsL fs a)[i]? = some (endOf fs (a.take i)) := by
  induction a generalizing fs i with
  | nil => have : i = 0 := by simpa using h
           subst this; rfl
  | cons s r ih =>
    cases i with
    | zero => rfl
    | succ i => exact ih (fs := aft fs s) (by simpa using h)
theorem rows_push (fs : List (List Nat)) (a : List (List (List Nat))) (s : List (List Nat)) : rowsL fs (a ++ [s]) = rowsL fs a ++ [aft (endOf fs a) s] := by
  induction a generalizing fs with
  | nil => rfl
  | cons t r ih => show fs :: rowsL (aft fs t) (r ++ [s]) = _; rw [ih]; rfl
/-! ### fields_along -/
def alongF : D → D → R D := (fun d (s_4 : D) => un2 d fun index_5 step_6 => ((notB (tst (callR (fn2 f_is_step) [(onL s_4 (ap2 D.idx (R.ok s_4) (ap1 D.neg (R.ok (D.int 1))))), (R.ok step_6)]))).iff (raise1 "BadStep" "index" (R.ok index_5)) (onL s_4 ((callR (fn2 f_fields_after_one) [(onL s_4 (ap2 D.idx (R.ok s_4) (ap1 D.neg (R.ok (D.int 1))))), (R.ok step_6)]).bind fun d => (D.append s_4 d).bind fun found_7 => (R.ok found_7)))))
theorem along_eq (fs : D) (steps : D) : f_fields_along fs steps = ((lstR [callR (fn1 D.toList) [ok fs]]).bind fun found => (enumR (ok steps)).bind fun xs => (forN alongF xs found).bind fun s => ok s) := rfl
abbrev rl (rows : List (List (List Nat))) : D := .lst (rows.map tl)
theorem idx_rl (pre : List (List (List Nat))) (g : List (List Nat)) : D.idx (rl (pre ++ [g])) (.int (-1)) = ok (tl g) := by
  rw [rl, List.map_append]
  exact idx_last
theorem along_step {pre : List (List (List Nat))} {g s : List (List Nat)} {k : Nat} (hg : FV g) (hs : stepB g s = true) (hl : pre.length < 1000) : alongF (.tup [.int k, tt s]) (rl (pre ++ [g])) = ok (rl (pre ++ [g] ++ [aft g s])) := by
  unfold alongF
  rw [un2_tup]
  have e1 : ap2 D.idx (ok (rl (pre ++ [g]))) (ap1 D.neg (ok (.int 1))) = ok (tl g) := idx_rl pre g
  rw [onL_lst, e1, callR_2, is_step_tt, hs]
  show (ok false).iff _ _ = _
  rw [R.iff_false, onL_lst, callR_2, fields_after_one_ok g s (by have := hg.le; omega) hs, bind_ok, append_lst (by rw [List.length_map, List.length_append, L_eq]; simp; omega), bind_ok]
  show ok (D.lst _) = ok (D.lst _)
  rw [List.map_append (l₁ := pre ++ [g])]; rfl
theorem along_bad {pre : List (List (List Nat))} {g : List (List Nat)} {v : D} {k : Nat} (hv : f_is_step (tl g) v = ok (.bl false)) : alongF (.tup [.int k, v]) (rl (pre ++ [g])) = err ⟨"BadStep", [("index", .int k)]⟩ := by
  unfold alongF
  rw [un2_tup]
  have e1 : ap2 D.idx (ok (rl (pre ++ [g]))) (ap1 D.neg (ok (.int 1))) = ok (tl g) := idx_rl pre g
  rw [onL_lst, e1, callR_2, hv]
  rfl
theorem along_loop : ∀ (a : List (List (List Nat))) (pre : List (List (List Nat))) (g : List (List Nat)) (k : Nat) (rest : List D), FV g → okSteps g a → pre.length + a.length < 1000 →
    forN alongF (enumAt k (a.map tt ++ rest)) (rl (pre ++ [g])) = forN alongF (enumAt (k + a.length) rest) (rl (pre ++ rowsL g a))
  | [], pre, g, k, rest, _, _, _ => rfl
  | s :: a, pre, g, k, rest, hg, hs, hl => by
    show forN alongF (.tup [.int k, tt s] :: enumAt (k + 1) (a.map tt ++ rest)) _ = _
    rw [forN_cons, along_step hg hs.1 (by simp at hl; omega), bind_ok, along_loop a (pre ++ [g]) (aft g s) (k + 1) rest (aft_FV hg hs.1) hs.2 (by simp at hl ⊢; omega)]
    rw [show k + 1 + a.length = k + (s :: a).length by simp; omega]
    congr 2
    rw [List.append_assoc]; rfl
theorem along_ok {fs : List (List Nat)} {a : List (List (List Nat))} (hf : FV fs) (hs : okSteps fs a) (hl : a.length < 1000) : f_fields_along (tl fs) (.lst (a.map tt)) = ok (rl (rowsL fs a)) := by
  rw [along_eq]
  have e := along_loop a [] fs 0 [] hf hs (by simpa using hl)
  rw [List.append_nil] at e
  show (forN alongF (enumAt 0 (a.map tt)) (rl ([] ++ [fs]))).bind _ = _
  rw [e]; rfl
theorem along_err {fs : List (List Nat)} {a : List (List (List Nat))} {v : D} {rest : List D} (hf : FV fs) (hs : okSteps fs a) (hl : a.length < 1000) (hv : f_is_step (tl (endOf fs a)) v = ok (.bl false)) :
    f_fields_along (tl fs) (.lst (a.map tt ++ v :: rest)) = err ⟨"BadStep", [("index", .int a.length)]⟩ := by
  rw [along_eq]
  show (forN alongF (enumAt 0 (a.map tt ++ v :: rest)) (rl ([] ++ [fs]))).bind _ = _
  rw [along_loop a [] fs 0 (v :: rest) hf hs (by simpa using hl)]
  obtain ⟨pre, e, _⟩ := rows_last fs a
  rw [e]
  show (forN alongF (.tup [.int ((0 + a.length : Nat) : Int), v] :: enumAt _ rest) (rl ([] ++ (pre ++ [endOf fs a])))).bind _ = _
  rw [forN_cons, Nat.zero_add]
  show ((alongF _ (rl (pre ++ [endOf fs a]))).bind _).bind _ = _
  rw [along_bad hv]
  rfl
end k51
end Dl
namespace Dl
namespace k51
open R
theorem law_steps_ok (ns : List Int) {fs : List (List Nat)} {m : Nat} (hf : FV fs) (hm : m ≤ 100) : Okp (f__law_steps (.scr ns) (.int 13) (tl fs) (.int m) (tl kinds)) fun d => ∃ sts : List (List (List Nat)), d = .lst (sts.map tt) ∧ sts.length = m ∧ okSteps fs sts := by
  unfold f__law_steps
  refine Okp.to (a := .lst []) rfl ?_
  refine Okp.to (rngR1_nat (by omega)) ?_
  refine Okp.bind (P := fun s => ∃ sts : List (List (List Nat)), s = (tl (endOf fs sts), D.lst (sts.map tt)) ∧ sts.length = m ∧ okSteps fs sts) (forN_rng (fun i s => ∃ sts : List (List (List Nat)), s = (tl (endOf fs sts), D.lst (sts.map tt)) ∧ sts.length = i ∧ okSteps fs sts) m _ ⟨[], rfl, rfl, trivial⟩ fun i s hi hp => ?_) ?_
  · obtain ⟨sts, rfl, hl, hs⟩ := hp
    have hg := end_FV hf hs
    obtain ⟨_, e, vs, rfl, hv⟩ := numbers_ok ns (13 + i) 3 (by omega)
    obtain ⟨_, e2, ts, rfl, h2⟩ := law_step_ok hg hv
    have e3 : callR (fn3 f__law_numbers) [ok (.scr ns), ap2 D.add (ok (.int 13)) (ok (.int i)), ok (.int 3)] = ok (il vs) := by
      rw [ap2_ok, D.add_int, callR_3]
      exact e
    refine Okp.to (a := tt ts) (by rw [e3, callR_3]; exact e2) ?_
    rw [onL_lst, bind_ok]
    refine Okp.to (a := .lst ((sts ++ [ts]).map tt)) (by rw [append_lst (by rw [List.length_map, hl, L_eq]; omega)]; simp) ?_
    refine Okp.to (a := tl (aft (endOf fs sts) ts)) (by rw [callR_2, law_fields_after_ok _ _ (by have := hg.le; omega) h2]) ?_
    refine ⟨_, rfl, sts ++ [ts], ?_, by simp [hl], ok_append.mpr ⟨hs, h2, trivial⟩⟩
    rw [end_append]; rfl
  · rintro _ ⟨sts, rfl, hl, hs⟩
    exact ⟨_, rfl, sts, rfl, hl, hs⟩
mutual
theorem eqv_refl : ∀ (d : D) (n : Nat), d.okd n = true → d.eqv d = true
  | .non, _, _ => rfl
  | .bl b, _, _ => by show (b == b) = true; simp
  | .int b, _, _ => by show (b == b) = true; simp
  | .str b, _, _ => by show (b == b) = true; simp
  | .lst ds, n, h => by
    cases n with
    | zero => cases h
    | succ n => exact eqvs_refl ds n h
  | .tup ds, n, h => by
    cases n with
    | zero => cases h
    | succ n => exact eqvs_refl ds n h
  | .dct _ _, n, h => by cases n <;> cases h
  | .obj _ _, n, h => by cases n <;> cases h
  | .scr _, n, h => by cases n <;> cases h
theorem eqvs_refl : ∀ (ds : List D) (n : Nat), okds ds n = true → eqvs ds ds = true
  | [], _, _ => rfl
  | d :: ds, n, h => by
    obtain ⟨h1, h2⟩ := Bool.and_eq_true_iff.mp (show (d.okd n && okds ds n) = true from h)
    show (d.eqv d && eqvs ds ds) = true
    rw [eqv_refl d n h1, eqvs_refl ds n h2]; rfl
end
theorem ne_self {d : D} (h : d.okd 60 = true) : D.ne d d = ok (.bl false) := by
  show (if (d.okd 60 && d.okd 60) = true then (ok (.bl (!d.eqv d)) : R D) else bad) = _
  rw [h, eqv_refl d 60 h]; rfl
theorem okd_tl (fs : List (List Nat)) (n : Nat) : (tl fs).okd (n + 1) = true := okds_str fs n
theorem okd_tt (ts : List (List Nat)) (n : Nat) : (tt ts).okd (n + 1) = true := okds_str ts n
theorem slc_to {α : Type} (xs : List α) {i : Nat} (h : i ≤ xs.length) : slc none (some (i : Int)) xs = xs.take i := by
  unfold slc sIx
  dsimp only
  rw [if_neg (by omega)]
  simp
theorem slc_from {α : Type} (xs : List α) {i : Nat} (h : i ≤ xs.length) : slc (some (i : Int)) none xs = xs.drop i := by
  unfold slc sIx
  dsimp only
  rw [if_neg (by omega)]
  have : min (i : Int).toNat xs.length = i := by omega
  rw [this]
  rw [List.take_of_length_le (by rw [List.length_drop]; omega)]
theorem odd_steps_ok {gs : List (List Nat)} {ws : List Int} (hg : FV gs) (hw : 2 ≤ ws.length) : Okp (f__law_odd_steps (tl gs) (il ws)) fun d => ∃ ds, d = .lst ds ∧ okds ds 59 = true := by
  unfold f__law_odd_steps
  have e0 : D.idx (il ws) (.int 0) = ok (.int (ws[0]'(by omega))) := idx_nat (i := 0) (by simp)
  have e1 : D.idx (il ws) (.int 1) = ok (.int (ws[1]'(by omega))) := idx_nat (i := 1) (by simp)
  have hp := hg.pos
  obtain ⟨f, hf, ef⟩ := idx_tl_mod (ws[0]'(by omega)) hp
  obtain ⟨o, ho, eo⟩ := idx_tl_mod (ws[1]'(by omega)) hp
  have hl : f.length ≤ 12 := by
    have := hg.nm f hf
    unfold isNm at this
    simp only [Bool.and_eq_true, decide_eq_true_eq] at this
    exact this.1.1.2
  have e33 : D.add (.str [33]) (.str f) = ok (.str ([33] ++ f)) := add_str _ _ (by simp; omega)
  refine Okp.to (a := .str f) (by rw [ap2_ok, e0, callR_1, len_tl, ap2_ok, mod_int (by omega), ap2_ok, ef]) ?_
  refine Okp.to (a := .str o) (by rw [ap2_ok, e1, callR_1, len_tl, ap2_ok, mod_int (by omega), ap2_ok, eo]) ?_
  simp only [ap2_ok, e33]
  exact ⟨_, rfl, _, rfl, rfl⟩
end k51
end Dl
namespace Dl
namespace k51
open R
theorem sub_self : exSub "BadStep" "BadStep" = some true := by decide
theorem sub_rule : exSub "BadStep" "BadRule" = some false := by decide
theorem sub_form : exSub "BadStep" "FormError" = some true := by decide
theorem refused_ok {fs : List (List Nat)} {a : List (List (List Nat))} {v : D} {rest : List D} (w : Int) (hf : FV fs) (hs : okSteps fs a) (hl : a.length < 1000) (hv : f_is_step (tl (endOf fs a)) v = ok (.bl false)) :
    f__law_refused (.int w) (tl fs) (.lst (a.map tt ++ v :: rest)) = ok (.int a.length) := by
  unfold f__law_refused
  have e := along_err (rest := rest) hf hs hl hv
  have e1 : callR (fn2 f_fields_after) [ok (tl fs), ok (.lst (a.map tt ++ v :: rest))] = err ⟨"BadStep", [("index", .int a.length)]⟩ := by
    rw [callR_2]; unfold f_fields_after; rw [callR_2, e]; rfl
  have e2 : callR (fn2 f_back) [ok (tl fs), ok (.lst (a.map tt ++ v :: rest))] = err ⟨"BadStep", [("index", .int a.length)]⟩ := by
    rw [callR_2]; unfold f_back; rw [callR_2, e]; rfl
  have e3 : callR (fn3 f_carried_part) [ok (tl fs), lstR [], ok (.lst (a.map tt ++ v :: rest))] = err ⟨"BadStep", [("index", .int a.length)]⟩ := by
    rw [lstR_nil, callR_3]; unfold f_carried_part; rw [callR_2, e]; rfl
  rw [e1, e2, e3, bind_err, ap2_ok, eq_int, ap2_ok, eq_int, tst_bl, tst_bl, iff_okb, iff_okb]
  have e4 : (if (w == 0) = true then (err ⟨"BadStep", [("index", .int a.length)]⟩ : R (Option D)) else if (w == 1) = true then err ⟨"BadStep", [("index", .int a.length)]⟩ else err ⟨"BadStep", [("index", .int a.length)]⟩) = err ⟨"BadStep", [("index", .int a.length)]⟩ := by
    split
    · rfl
    · split <;> rfl
  rw [e4]
  unfold tryR isX erF
  dsimp only
  rw [sub_self, sub_rule, sub_form]
  rfl
theorem plain (ns : List Int) (hl : ns.length ≤ 63) : f_law (.scr ns) = .ok (.bl true) := by
  suffices h : Okp (f_law (.scr ns)) fun d => d = .bl true by
    obtain ⟨d, e, rfl⟩ := h
    exact e
  unfold f_law
  obtain ⟨_, en, vs, rfl, hv⟩ := numbers_ok ns 12 6 (by omega)
  refine Okp.to (a := il vs) (by rw [callR_3]; exact en) ?_
  obtain ⟨_, ef, fs0, rfl, hf0⟩ := drawn_fields_ok ns
  refine Okp.to (a := tl fs0) (by rw [callR_2]; exact ef) ?_
  obtain ⟨v0, e0, _, _, _⟩ := hv.at (i := 0) (by omega)
  obtain ⟨v1, e1, _, _, _⟩ := hv.at (i := 1) (by omega)
  obtain ⟨v2, e2, _, _, _⟩ := hv.at (i := 2) (by omega)
  obtain ⟨v3, e3, _, _, _⟩ := hv.at (i := 3) (by omega)
  have e0 : D.idx (il vs) (.int 0) = ok (.int v0) := e0
  have e1 : D.idx (il vs) (.int 1) = ok (.int v1) := e1
  have e2 : D.idx (il vs) (.int 2) = ok (.int v2) := e2
  have e3 : D.idx (il vs) (.int 3) = ok (.int v3) := e3
  refine Okp.bind (P := fun d => ∃ fs, d = tl fs ∧ FV fs) ?_ ?_
  · refine Okp.iff (b := v0 % 6 == 0) (by rw [ap2_ok, e0, ap2_ok, mod_int (by decide), ap2_ok, eq_int, tst_bl]) (fun _ => ?_) fun _ => ⟨_, rfl, _, rfl, hf0⟩
    obtain ⟨n, hn⟩ : ∃ n : Nat, 39 + v1 % 2 = n := ⟨(39 + v1 % 2).toNat, by omega⟩
    have nb : Numb n ((List.range n).map fun k => 102 :: strN k) := by
      refine ⟨by simp, fun k x e => ⟨102, by decide, ?_⟩⟩
      rw [List.getElem?_map] at e
      cases q : (List.range n)[k]? with
      | none => rw [q] at e; cases e
      | some j =>
        rw [q] at e
        cases e
        have hk := (List.getElem?_eq_some_iff.mp q)
        obtain ⟨_, h⟩ := hk
        simp at h
        rw [h]
    have em : lcR (rngR1 (ap2 D.add (ok (.int 39)) (ap2 D.mod (ap2 D.idx (ok (il vs)) (ok (.int 1))) (ok (.int 2))))) (fun k_6 => ap2 D.add (ok (.str [102])) (callR (fn1 D.toStr) [ok k_6])) = ok (tl ((List.range n).map fun k => 102 :: strN k)) := by
      rw [ap2_ok, e1, ap2_ok, mod_int (by decide), ap2_ok, D.add_int, hn, rngR1_nat (by omega)]
      have er : rngI 0 (n : Int) = (List.range n).map fun (k : Nat) => D.int k := by unfold rngI; simp
      rw [er, lcR_map (enc := fun (k : Nat) => D.int k) (g := fun k => D.str (102 :: strN k)) (List.range n) fun k hk => by
        have hk' : k < n := by simpa using hk
        rw [callR_1, toStr_nat (by omega), ap2_ok, add_str _ _ (by have := strN_len k (by omega); simp; omega)]; rfl]
      show ok (D.lst _) = ok (D.lst _)
      rw [List.map_map]; rfl
    rw [em, callR_1, sorted_tl]
    exact ⟨_, rfl, _, rfl, (nb.fv (by omega) (by omega)).perm (srt_perm _)⟩
  rintro _ ⟨fs, rfl, hf⟩
  obtain ⟨m, hm⟩ : ∃ m : Nat, v2 % 9 = m := ⟨(v2 % 9).toNat, by omega⟩
  obtain ⟨_, es, sts, rfl, hsl, hss⟩ := law_steps_ok ns (m := m) hf (by omega)
  refine Okp.to (a := .lst (sts.map tt)) (by rw [ap2_ok, e2, ap2_ok, mod_int (by decide), hm, kinds_eq, callR_5]; exact es) ?_
  rw [bind_ok]
  refine Okp.to (a := rl [fs]) rfl ?_
  rw [iterR_lst, bind_ok]
  refine Okp.go (fun i s => s = (tl (endOf fs (sts.take i)), rl (rowsL fs (sts.take i)))) rfl (fun i x s hx hp => ?_) ?_
  · subst hp
    rw [List.getElem?_map] at hx
    cases q : sts[i]? with
    | none => rw [q] at hx; cases hx
    | some ts =>
      rw [q] at hx
      cases hx
      have hi := (List.getElem?_eq_some_iff.mp q).1
      have et : sts.take (i + 1) = sts.take i ++ [ts] := by rw [List.take_add_one, q]; rfl
      have h1 : okSteps fs (sts.take i ++ [ts]) := by
        have : okSteps fs (sts.take (i + 1) ++ sts.drop (i + 1)) := by rw [List.take_append_drop]; exact hss
        rw [et] at this
        exact (ok_append.mp this).1
      obtain ⟨h2, h3, _⟩ := ok_append.mp h1
      have hg := end_FV hf h2
      refine ⟨_, ?_, rfl⟩
      rw [et, end_append, rows_push]
      dsimp only
      rw [callR_1, toList_tl, callR_2, is_step_tt, h3]
      show (ok false).iff _ _ = _
      rw [R.iff_false, callR_2, law_fields_after_ok _ _ (by have := hg.le; omega) h3, bind_ok, onL_lst, bind_ok, append_lst (by rw [List.length_map, rows_len, List.length_take, L_eq]; omega), bind_ok]
      show ok (Fl.nx (_, D.lst _)) = ok (Fl.nx (_, D.lst _))
      rw [List.map_append (l₁ := rowsL fs (sts.take i))]; rfl
  · rintro _ rfl
    rw [List.length_map, List.take_length]
    dsimp only
    have hge := end_FV hf hss
    have hk1 : okds [tl fs, D.lst (sts.map tt)] 59 = true := by
      show ((tl fs).okd 59 && ((D.lst (sts.map tt)).okd 59 && true)) = true
      have h1 : (D.lst (sts.map tt)).okd 59 = true := okds_map (n := 58) (fun ts => okd_tt ts 57) sts
      rw [h1, okd_tl fs 58]; rfl
    refine Okp.to (a := .lst [tl fs, .lst (sts.map tt)]) rfl ?_
    have hfa : f_fields_after (tl fs) (.lst (sts.map tt)) = ok (tl (endOf fs sts)) := by
      unfold f_fields_after
      obtain ⟨pre, e, _⟩ := rows_last fs sts
      rw [callR_2, along_ok hf hss (by omega), e]
      exact idx_rl pre _
    have hg0 : ap2 D.idx (ok (.lst [tl fs, .lst (sts.map tt)])) (ok (.int 0)) = ok (tl fs) := by
      rw [ap2_ok]; exact idx_nat (i := 0) rfl
    have hg1 : ap2 D.idx (ok (.lst [tl fs, .lst (sts.map tt)])) (ok (.int 1)) = ok (.lst (sts.map tt)) := by
      rw [ap2_ok]; exact idx_nat (i := 1) rfl
    have hl2 : lstR [ok (tl fs), ok (.lst (sts.map tt))] = ok (.lst [tl fs, .lst (sts.map tt)]) := rfl
    refine Okp.iff (b := false) ?_ (fun h => nomatch h) fun _ => ?_
    · rw [hg0, hg1, callR_2, hfa, ap2_ok, ne_self (okd_tl _ 59), hl2, ap2_ok, ne_self (d := .lst [tl fs, .lst (sts.map tt)]) hk1]; rfl
    have hrl : D.len (rl (rowsL fs sts)) = ok (.int ((sts.length + 1 : Nat) : Int)) := by
      show ok (D.int (((rowsL fs sts).map tl).length : Nat)) = _
      rw [List.length_map, rows_len]
    obtain ⟨at_, hat⟩ : ∃ a : Nat, v3 % ((sts.length + 1 : Nat) : Int) = a := ⟨(v3 % ((sts.length + 1 : Nat) : Int)).toNat, by have := Int.emod_nonneg v3 (b := ((sts.length + 1 : Nat) : Int)) (by omega); omega⟩
    have hat2 : at_ ≤ sts.length := by
      have := Int.emod_lt_of_pos v3 (b := ((sts.length + 1 : Nat) : Int)) (by omega)
      omega
    refine Okp.to (a := .int at_) (by rw [ap2_ok, e3, callR_1, hrl, ap2_ok, mod_int (by omega), hat]) ?_
    have hpre : okSteps fs (sts.take at_) := by
      have : okSteps fs (sts.take at_ ++ sts.drop at_) := by rw [List.take_append_drop]; exact hss
      exact (ok_append.mp this).1
    have hrow : D.idx (rl (rowsL fs sts)) (.int at_) = ok (tl (endOf fs (sts.take at_))) := by
      refine idx_nat ?_
      rw [List.getElem?_map, rows_get hat2]; rfl
    have hgr := end_FV hf hpre
    have hsl4 : sliceR (ok (il vs)) (some (ok (.int 4))) none = ok (il (vs.drop 4)) := by
      show D.slice (il vs) (some (.int 4)) none = _
      show ok (D.lst (slc (some (4 : Nat)) none (vs.map D.int))) = _
      rw [slc_from _ (by rw [List.length_map, hv.1]; omega)]
      rw [← List.map_drop]
    obtain ⟨_, eo, ds, rfl, hds⟩ := odd_steps_ok (gs := endOf fs (sts.take at_)) (ws := vs.drop 4) hgr (by rw [List.length_drop, hv.1]; omega)
    refine Okp.to (a := ds) (by rw [ap2_ok, hrow, hsl4, callR_2, eo]; rfl) ?_
    refine Okp.go (fun _ _ => True) trivial (fun i x s hx _ => ?_) fun _ _ => ⟨_, rfl, rfl⟩
    have hxk : x.okd 59 = true := okds_mem' hds x (List.mem_of_getElem? hx)
    generalize hG : endOf fs (sts.take at_) = G at *
    -- both judge alike
    obtain ⟨b, hb1, hb2⟩ : ∃ b, f_is_step (tl G) x = ok (.bl b) ∧ f__law_is_step (tl G) x = ok (.bl b) := by
      by_cases h : ∃ ts, x = tt ts
      · obtain ⟨ts, rfl⟩ := h
        exact ⟨_, is_step_tt G ts, law_is_step_tt G ts⟩
      · have h' : ∀ ts, x ≠ tt ts := fun ts e => h ⟨ts, e⟩
        exact ⟨_, is_step_odd G x hxk h', law_is_step_odd G x hxk h'⟩
    refine ⟨(), ?_, trivial⟩
    rw [ap2_ok, hrow, callR_2, hb2, bind_ok, callR_1, toList_tl, callR_2, hb1, bind_ok]
    have hnb : orB (notB (tst (isiR .bool (ok (.bl b))))) (tst (ap2 D.ne (ok (.bl b)) (ok (.bl b)))) = ok false := by
      rw [ap2_ok, ne_self (okd_bl b 60)]; rfl
    rw [hnb, R.iff_false]
    cases b with
    | true => rfl
    | false =>
      show (ok true).iff _ _ = _
      rw [R.iff_true]
      have h3 : rngR1 (ok (.int 3)) = ok (rngI 0 (3 : Nat)) := rngR1_nat (n := 3) (by omega)
      rw [h3, bind_ok]
      have hcat : ap2 D.add (ap2 D.add (ap2 D.add (sliceR (ok (.lst (sts.map tt))) none (some (ok (.int at_)))) (lstR [ok x])) (sliceR (ok (.lst (sts.map tt))) (some (ok (.int at_))) none)) (lstR [ok .non]) = ok (.lst ((sts.take at_).map tt ++ x :: ((sts.drop at_).map tt ++ [.non]))) := by
        have s1 : sliceR (ok (.lst (sts.map tt))) none (some (ok (.int at_))) = ok (.lst ((sts.take at_).map tt)) := by
          show ok (D.lst (slc none (some (at_ : Int)) (sts.map tt))) = _
          rw [slc_to _ (by rw [List.length_map]; exact hat2), List.map_take]
        have s2 : sliceR (ok (.lst (sts.map tt))) (some (ok (.int at_))) none = ok (.lst ((sts.drop at_).map tt)) := by
          show ok (D.lst (slc (some (at_ : Int)) none (sts.map tt))) = _
          rw [slc_from _ (by rw [List.length_map]; exact hat2), List.map_drop]
        have add_l : ∀ (p q : List D), p.length + q.length ≤ 16777216 → D.add (.lst p) (.lst q) = ok (.lst (p ++ q)) := fun p q h => by
          show (if p.length + q.length ≤ L then (ok (.lst (p ++ q)) : R D) else bad) = _
          rw [L_eq, if_pos h]
        have l1 : lstR [ok x] = ok (.lst [x]) := rfl
        have l2 : lstR [ok D.non] = ok (.lst [.non]) := rfl
        have hm9 : m < 9 := by omega
        rw [s1, s2, l1, l2, ap2_ok, add_l _ _ (by simp; omega), ap2_ok, add_l _ _ (by simp; omega), ap2_ok, add_l _ _ (by simp; omega)]
        simp
      have hlt : (sts.take at_).length = at_ := by rw [List.length_take]; omega
      obtain ⟨s', e, _⟩ := forF_inv (f := fun which_22 (s_21 : Unit) => ((tst (ap2 D.ne (callR (fn3 f__law_refused) [(R.ok which_22), (callR (fn1 D.toList) [(R.ok (tl fs))]), (ap2 D.add (ap2 D.add (ap2 D.add (sliceR (R.ok (D.lst (sts.map tt))) none (some (R.ok (D.int at_)))) (lstR [(R.ok x)])) (sliceR (R.ok (D.lst (sts.map tt))) (some (R.ok (D.int at_))) none)) (lstR [(R.ok D.non)]))]) (R.ok (D.int at_)))).iff ((R.ok (D.bl false)).bind fun d => R.ok (Fl.rt d)) (R.ok (Fl.nx ())))) (fun _ _ => True) (rngI 0 (3 : Nat)) 0 () trivial fun i y s hy _ => by
        refine ⟨(), ?_, trivial⟩
        obtain ⟨w, rfl⟩ : ∃ w : Int, y = .int w := by
          unfold rngI at hy
          rw [List.getElem?_map] at hy
          cases q : (List.range (((3 : Nat) : Int) - 0).toNat)[i]? with
          | none => rw [q] at hy; cases hy
          | some j => rw [q] at hy; cases hy; exact ⟨_, rfl⟩
        have hr := refused_ok (rest := (sts.drop at_).map tt ++ [.non]) w hf hpre (by omega) (by rw [hG]; exact hb1)
        rw [hcat, callR_1, toList_tl, callR_3, hr, hlt, ap2_ok, ne_self (okd_int _ 60)]
        rfl
      rw [e]
      rfl
end k51
end Dl
/-! DlA: plain data on the abstract heap; the state of a body over plain data; the judgements. -/
namespace Dl
open PySem PySem.Spec L2
open PyProof.Rows hiding St
set_option autoImplicit false

structure Gx where
  K : PySem.W.Frag
  mg : Str → Option Value
abbrev gx (X : Cx) : Gx := ⟨X.K, X.mg⟩
abbrev toS (s : List Nat) : Str := ⟨s.toArray⟩
def keyD : Key → D
  | .inl i => .int i
  | .inr x => .str x.cps.toList
/-- a key's text is of lawful signs -/
def KeyV : Key → Prop
  | .inl _ => True
  | .inr x => x.cps.toList.length ≤ L ∧ ∀ c ∈ x.cps.toList, c < 1114112
def cnm (c : String) : Str := Str.ofString c

mutual
def DR (G : Gx) (P : Hp) : D → V → Prop
  | .non, v => v = .non
  | .bl b, v => v = .bl b
  | .int i, v => v = .int i
  | .str s, v => v = .str (toS s) ∧ s.length ≤ L ∧ ∀ c ∈ s, c < 1114112
  | .lst ds, v => ∃ a vs, v = .ref a ∧ Rd P a (.lst vs) ∧ DRs G P ds vs
  | .tup ds, v => ∃ a vs, v = .ref a ∧ P a = some (.tup vs) ∧ DRs G P ds vs
  | .dct t kvs, v => ∃ a, v = .ref a ∧ ((t = false ∧ ∃ ws, Rd P a (.dK ws) ∧ DRk G P kvs ws) ∨ (t = true ∧ ∃ ws, Rd P a (.dT ws) ∧ DRt G P kvs ws))
  | .obj c fs, v => ∃ a C dx ws, v = .ref a ∧ P a = some (.ins C dx ws) ∧ G.mg (cnm c) = some (.ref C) ∧ DRf G P fs ws
  | .scr ns, v => ∃ a, v = .ref a ∧ SqL G.K P a (ns.map V.int)
termination_by structural d => d
def DRs (G : Gx) (P : Hp) : List D → List V → Prop
  | [], vs => vs = []
  | d :: ds, vs => ∃ v r, vs = v :: r ∧ DR G P d v ∧ DRs G P ds r
termination_by structural l => l
def DRk (G : Gx) (P : Hp) : List (D × D) → List (Key × V) → Prop
  | [], ws => ws = []
  | p :: r, ws => ∃ w t, ws = w :: t ∧ DRp G P p w ∧ DRk G P r t
termination_by structural l => l
def DRp (G : Gx) (P : Hp) : D × D → Key × V → Prop
  | (k, d), w => (k = keyD w.1 ∧ KeyV w.1) ∧ DR G P d w.2
termination_by structural l => l
def DRt (G : Gx) (P : Hp) : List (D × D) → List (List Key × V) → Prop
  | [], ws => ws = []
  | p :: r, ws => ∃ w t, ws = w :: t ∧ DRu G P p w ∧ DRt G P r t
termination_by structural l => l
def DRu (G : Gx) (P : Hp) : D × D → List Key × V → Prop
  | (k, d), w => (k = .tup (w.1.map keyD) ∧ ∀ q ∈ w.1, KeyV q) ∧ DR G P d w.2
termination_by structural l => l
def DRf (G : Gx) (P : Hp) : List (String × D) → List (Str × V) → Prop
  | [], ws => ws = []
  | p :: r, ws => ∃ w t, ws = w :: t ∧ DRq G P p w ∧ DRf G P r t
termination_by structural l => l
def DRq (G : Gx) (P : Hp) : String × D → Str × V → Prop
  | (f, d), w => w.1 = cnm f ∧ DR G P d w.2
termination_by structural l => l
end

/-! ### heaps -/
/-- all that may be read stays -/
structure Le (P P' : Hp) : Prop where
  rd : ∀ a u, Rd P a u → Rd P' a u
  ins : ∀ a C dx fs, P a = some (.ins C dx fs) → P' a = some (.ins C dx fs)
  tup : ∀ a vs, P a = some (.tup vs) → P' a = some (.tup vs)
  xd : ∀ a ws, P a = some (.xd ws) → P' a = some (.xd ws)
theorem Le.refl (P : Hp) : Le P P := ⟨fun _ _ h => h, fun _ _ _ _ h => h, fun _ _ h => h, fun _ _ h => h⟩
theorem Le.trans {P Q R : Hp} (a : Le P Q) (b : Le Q R) : Le P R := ⟨fun x u h => b.rd x u (a.rd x u h), fun x C d f h => b.ins x C d f (a.ins x C d f h), fun x v h => b.tup x v (a.tup x v h), fun x v h => b.xd x v (a.xd x v h)⟩
theorem Le.of {P P' : Hp} (s : ∀ a o, P a = some o → P' a = some o) : Le P P' :=
  ⟨fun a u h => h.elim (fun h => .inl (s _ _ h)) fun ⟨o, h⟩ => .inr ⟨o, s _ _ h⟩, fun a C dx fs h => s _ _ h, fun a vs h => s _ _ h, fun a vs h => s _ _ h⟩
section
variable {G : Gx} {P P' : Hp}
mutual
theorem DR.mono (l : Le P P') : ∀ (d : D) (v : V), DR G P d v → DR G P' d v
  | .non, v, h => h
  | .bl b, v, h => h
  | .int i, v, h => h
  | .str s, v, h => h
  | .lst ds, v, h => let ⟨a, vs, e, q, r⟩ := h; ⟨a, vs, e, l.rd _ _ q, DRs.mono l ds vs r⟩
  | .tup ds, v, h => let ⟨a, vs, e, q, r⟩ := h; ⟨a, vs, e, l.tup _ _ q, DRs.mono l ds vs r⟩
  | .dct t kvs, v, h => by
    obtain ⟨a, e, h⟩ := h
    refine ⟨a, e, h.imp (fun ⟨t', ws, q, r⟩ => ⟨t', ws, l.rd _ _ q, DRk.mono l kvs ws r⟩) fun ⟨t', ws, q, r⟩ => ⟨t', ws, l.rd _ _ q, DRt.mono l kvs ws r⟩⟩
  | .obj c fs, v, h => let ⟨a, C, dx, ws, e, q, m, r⟩ := h; ⟨a, C, dx, ws, e, l.ins _ _ _ _ q, m, DRf.mono l fs ws r⟩
  | .scr ns, v, h => let ⟨a, e, q⟩ := h; ⟨a, e, q.elim (fun q => .inl (l.rd _ _ q)) .inr⟩
theorem DRs.mono (l : Le P P') : ∀ (ds : List D) (vs : List V), DRs G P ds vs → DRs G P' ds vs
  | [], vs, h => h
  | d :: ds, vs, h => let ⟨v, r, e, h1, h2⟩ := h; ⟨v, r, e, DR.mono l d v h1, DRs.mono l ds r h2⟩
theorem DRk.mono (l : Le P P') : ∀ (ds : List (D × D)) (vs : List (Key × V)), DRk G P ds vs → DRk G P' ds vs
  | [], vs, h => h
  | (k, d) :: ds, vs, h => let ⟨v, r, e, h1, h2⟩ := h; ⟨v, r, e, ⟨h1.1, DR.mono l d v.2 h1.2⟩, DRk.mono l ds r h2⟩
theorem DRt.mono (l : Le P P') : ∀ (ds : List (D × D)) (vs : List (List Key × V)), DRt G P ds vs → DRt G P' ds vs
  | [], vs, h => h
  | (k, d) :: ds, vs, h => let ⟨v, r, e, h1, h2⟩ := h; ⟨v, r, e, ⟨h1.1, DR.mono l d v.2 h1.2⟩, DRt.mono l ds r h2⟩
theorem DRf.mono (l : Le P P') : ∀ (ds : List (String × D)) (vs : List (Str × V)), DRf G P ds vs → DRf G P' ds vs
  | [], vs, h => h
  | (k, d) :: ds, vs, h => let ⟨v, r, e, h1, h2⟩ := h; ⟨v, r, e, ⟨h1.1, DR.mono l d v.2 h1.2⟩, DRf.mono l ds r h2⟩
end
theorem DRs.length : ∀ {ds : List D} {vs : List V}, DRs G P ds vs → vs.length = ds.length
  | [], vs, h => by cases (show vs = [] from h); rfl
  | d :: ds, vs, h => by
    obtain ⟨v, r, e, _, h2⟩ := h
    subst e
    simp [DRs.length h2]
theorem DRs.get : ∀ {ds : List D} {vs : List V} {i : Nat} {d : D}, DRs G P ds vs → ds[i]? = some d → ∃ v, vs[i]? = some v ∧ DR G P d v
  | [], vs, i, d, h, e => by simp at e
  | d' :: ds, vs, 0, d, h, e => by
    obtain ⟨v, r, ev, h1, _⟩ := h
    simp at e; subst e; subst ev
    exact ⟨v, rfl, h1⟩
  | d' :: ds, vs, i + 1, d, h, e => by
    obtain ⟨v, r, ev, _, h2⟩ := h
    subst ev
    obtain ⟨u, h3, h4⟩ := DRs.get (i := i) h2 (by simpa using e)
    exact ⟨u, by simpa using h3, h4⟩
theorem DRs.get' : ∀ {ds : List D} {vs : List V} {i : Nat} {v : V}, DRs G P ds vs → vs[i]? = some v → ∃ d, ds[i]? = some d ∧ DR G P d v
  | [], vs, i, v, h, e => by cases (show vs = [] from h); simp at e
  | d' :: ds, vs, 0, v, h, e => by
    obtain ⟨v', r, ev, h1, _⟩ := h
    subst ev
    simp at e; subst e
    exact ⟨d', rfl, h1⟩
  | d' :: ds, vs, i + 1, v, h, e => by
    obtain ⟨v', r, ev, _, h2⟩ := h
    subst ev
    obtain ⟨u, h3, h4⟩ := DRs.get' (i := i) h2 (by simpa using e)
    exact ⟨u, by simpa using h3, h4⟩
theorem DRs.append : ∀ {ds es : List D} {vs us : List V}, DRs G P ds vs → DRs G P es us → DRs G P (ds ++ es) (vs ++ us)
  | [], es, vs, us, h, h' => by cases (show vs = [] from h); exact h'
  | d :: ds, es, vs, us, h, h' => by
    obtain ⟨v, r, ev, h1, h2⟩ := h
    subst ev
    exact ⟨v, _, rfl, h1, DRs.append h2 h'⟩
theorem DRs.one {d : D} {v : V} (h : DR G P d v) : DRs G P [d] [v] := ⟨v, [], rfl, h, rfl⟩
theorem DRs.take : ∀ {ds : List D} {vs : List V} (n : Nat), DRs G P ds vs → DRs G P (ds.take n) (vs.take n)
  | [], vs, n, h => by cases (show vs = [] from h); simp [DRs]
  | d :: ds, vs, 0, h => rfl
  | d :: ds, vs, n + 1, h => by
    obtain ⟨v, r, ev, h1, h2⟩ := h
    subst ev
    exact ⟨v, _, rfl, h1, DRs.take n h2⟩
theorem DRs.drop : ∀ {ds : List D} {vs : List V} (n : Nat), DRs G P ds vs → DRs G P (ds.drop n) (vs.drop n)
  | [], vs, n, h => by cases (show vs = [] from h); simp [DRs]
  | d :: ds, vs, 0, h => h
  | d :: ds, vs, n + 1, h => by
    obtain ⟨v, r, ev, h1, h2⟩ := h
    subst ev
    exact DRs.drop n h2
theorem DRs.reverse : ∀ {ds : List D} {vs : List V}, DRs G P ds vs → DRs G P ds.reverse vs.reverse
  | [], vs, h => by cases (show vs = [] from h); rfl
  | d :: ds, vs, h => by
    obtain ⟨v, r, ev, h1, h2⟩ := h
    subst ev
    rw [List.reverse_cons, List.reverse_cons]
    exact DRs.append (DRs.reverse h2) (DRs.one h1)
theorem DRs.set : ∀ {ds : List D} {vs : List V} {d : D} {v : V} (n : Nat), DRs G P ds vs → DR G P d v → DRs G P (ds.set n d) (vs.set n v)
  | [], vs, d, v, n, h, h' => by cases (show vs = [] from h); rfl
  | d :: ds, vs, d', v', 0, h, h' => by
    obtain ⟨v, r, ev, h1, h2⟩ := h
    subst ev
    exact ⟨v', r, rfl, h', h2⟩
  | d :: ds, vs, d', v', n + 1, h, h' => by
    obtain ⟨v, r, ev, h1, h2⟩ := h
    subst ev
    exact ⟨v, _, rfl, h1, DRs.set n h2 h'⟩
theorem DRs.ints : ∀ (ns : List Int), DRs G P (ns.map D.int) (ns.map V.int)
  | [] => rfl
  | n :: ns => ⟨.int n, _, rfl, rfl, DRs.ints ns⟩
theorem DRk.length : ∀ {ds : List (D × D)} {vs : List (Key × V)}, DRk G P ds vs → vs.length = ds.length
  | [], vs, h => by cases (show vs = [] from h); rfl
  | d :: ds, vs, h => by
    obtain ⟨v, r, e, _, h2⟩ := h
    subst e
    simp [DRk.length h2]
theorem DRt.length : ∀ {ds : List (D × D)} {vs : List (List Key × V)}, DRt G P ds vs → vs.length = ds.length
  | [], vs, h => by cases (show vs = [] from h); rfl
  | d :: ds, vs, h => by
    obtain ⟨v, r, e, _, h2⟩ := h
    subst e
    simp [DRt.length h2]
end

/-! ### what is owned -/
def hid (O : Addr → Bool) (H : Hp) : Hp := fun a => if O a = true then none else H a
def orO (O O' : Addr → Bool) : Addr → Bool := fun a => O a || O' a
theorem hid_some {O : Addr → Bool} {H : Hp} {a : Addr} {o : HO} : hid O H a = some o ↔ O a = false ∧ H a = some o := by
  unfold hid
  cases e : O a with
  | true => simp
  | false => simp
theorem hid_le {O : Addr → Bool} {H : Hp} : Le (hid O H) H := .of fun a o h => (hid_some.mp h).2
theorem hid_same {O : Addr → Bool} {H H' : Hp} (s : Same H H') : Le (hid O H) (hid O H') := .of fun a o h => hid_some.mpr ⟨(hid_some.mp h).1, s _ _ (hid_some.mp h).2⟩
theorem same_upd {H : Hp} {p : Addr} {o : HO} (h : H p = none) : Same H (upd H p o) := fun b u e => by
  rw [upd_ne (ne_of_none e h)]; exact e
/-- an own list, an own dict, an own instance, as it stands -/
def OwR (G : Gx) (P : Hp) : D → Option HO → Prop
  | .lst ds, o => ∃ vs, o = some (.lst vs) ∧ DRs G P ds vs
  | .dct t kvs, o => (t = false ∧ ∃ ws, o = some (.dK ws) ∧ DRk G P kvs ws) ∨ (t = true ∧ ∃ ws, o = some (.dT ws) ∧ DRt G P kvs ws)
  | .obj c fs, o => ∃ C dx ws, o = some (.ins C dx ws) ∧ G.mg (cnm c) = some (.ref C) ∧ DRf G P fs ws
  | _, _ => False
theorem OwR.mono {G : Gx} {P P' : Hp} (l : Le P P') : ∀ {d : D} {o : Option HO}, OwR G P d o → OwR G P' d o
  | .lst ds, o, h => let ⟨vs, e, r⟩ := h; ⟨vs, e, r.mono l⟩
  | .dct t kvs, o, h => h.imp (fun ⟨t', ws, e, r⟩ => ⟨t', ws, e, r.mono l⟩) fun ⟨t', ws, e, r⟩ => ⟨t', ws, e, r.mono l⟩
  | .obj c fs, o, h => let ⟨C, dx, ws, e, m, r⟩ := h; ⟨C, dx, ws, e, m, r.mono l⟩
  | .non, _, h => h.elim
  | .bl _, _, h => h.elim
  | .int _, _, h => h.elim
  | .str _, _, h => h.elim
  | .tup _, _, h => h.elim
  | .scr _, _, h => h.elim
/-- an own thing that no one else holds is plain data -/
theorem OwR.free {G : Gx} {P : Hp} {p : Addr} : ∀ {d : D} {o : Option HO}, OwR G P d o → P p = o → DR G P d (.ref p)
  | .lst ds, o, h, e => by obtain ⟨vs, e2, r⟩ := h; exact ⟨p, vs, rfl, Or.inl (e.trans e2), r⟩
  | .dct t kvs, o, h, e => by
    refine ⟨p, rfl, ?_⟩
    rcases h with ⟨t', ws, e2, r⟩ | ⟨t', ws, e2, r⟩
    · exact .inl ⟨t', ws, .inl (e.trans e2), r⟩
    · exact .inr ⟨t', ws, .inl (e.trans e2), r⟩
  | .obj c fs, o, h, e => by obtain ⟨C, dx, ws, e2, m, r⟩ := h; exact ⟨p, C, dx, ws, rfl, e.trans e2, m, r⟩
  | .non, _, h, _ => h.elim
  | .bl _, _, h, _ => h.elim
  | .int _, _, h, _ => h.elim
  | .str _, _, h, _ => h.elim
  | .tup _, _, h, _ => h.elim
  | .scr _, _, h, _ => h.elim
theorem OwR.some {G : Gx} {P : Hp} : ∀ {d : D} {o : Option HO}, OwR G P d o → o ≠ none
  | .lst ds, o, h => by obtain ⟨vs, e2, r⟩ := h; simp [e2]
  | .dct t kvs, o, h => by
    rcases h with ⟨_, ws, e2, r⟩ | ⟨_, ws, e2, r⟩ <;> simp [e2]
  | .obj c fs, o, h => by obtain ⟨C, dx, ws, e2, m, r⟩ := h; simp [e2]
  | .non, _, h => h.elim
  | .bl _, _, h => h.elim
  | .int _, _, h => h.elim
  | .str _, _, h => h.elim
  | .tup _, _, h => h.elim
  | .scr _, _, h => h.elim

/-- what may be owned: anything but a tuple -/
def Ownable (o : Option HO) : Prop := o ≠ none ∧ ∀ vs, o ≠ some (.tup vs)
theorem Ownable.same {H H' : Hp} (s : Same H H') {a : Addr} (h : Ownable (H a)) : Ownable (H' a) := by
  cases q : H a with
  | none => exact absurd q h.1
  | some o => rw [s a o q]; rw [q] at h; exact h
theorem OwR.ownable {G : Gx} {P : Hp} : ∀ {d : D} {o : Option HO}, OwR G P d o → Ownable o
  | .lst ds, o, h => by obtain ⟨vs, e2, r⟩ := h; subst e2; exact ⟨fun z => (nomatch z), fun _ z => nomatch z⟩
  | .dct t kvs, o, h => by
    rcases h with ⟨_, ws, e2, r⟩ | ⟨_, ws, e2, r⟩ <;> subst e2 <;> exact ⟨fun z => (nomatch z), fun _ z => nomatch z⟩
  | .obj c fs, o, h => by obtain ⟨C, dx, ws, e2, m, r⟩ := h; subst e2; exact ⟨fun z => (nomatch z), fun _ z => nomatch z⟩
  | .non, _, h => h.elim
  | .bl _, _, h => h.elim
  | .int _, _, h => h.elim
  | .str _, _, h => h.elim
  | .tup _, _, h => h.elim
  | .scr _, _, h => h.elim

/-! ### exceptions -/
/-- an exception as it lies: its class, its own dict -/
def ErR (G : Gx) (P : Hp) (er : Er) (c : Value) (dd : Option Addr) : Prop := ∃ C, c = .ref C ∧ G.mg (cnm er.c) = some (.ref C) ∧
  match er.fs with
  | [] => dd = none
  | fs => ∃ a ws, dd = some a ∧ P a = some (.xd ws) ∧ DRf G P fs ws
theorem ErR.mono {G : Gx} {P P' : Hp} (l : Le P P') {er : Er} {c : Value} {dd : Option Addr} (h : ErR G P er c dd) : ErR G P' er c dd := by
  obtain ⟨C, e, m, h⟩ := h
  refine ⟨C, e, m, ?_⟩
  cases q : er.fs with
  | nil => rw [q] at h; exact h
  | cons f fs =>
    rw [q] at h
    obtain ⟨a, ws, e1, e2, r⟩ := h
    exact ⟨a, ws, e1, l.xd _ _ e2, r.mono l⟩

/-! ### the state of a body over plain data -/
inductive Sl where
  | un | d (x : D) | ow (x : D) | ex (a : Addr) (er : Er) (c : Value) (dd : Option Addr)
/-- what stands behind the body: P is to stay, O is another's own -/
structure Bs where
  P : Hp
  O : Addr → Bool
structure Mt (G : Gx) (b : Bs) (O : Addr → Bool) (ρ : List Sl) (σ : St) (H : Hp) : Prop where
  prot : ∀ a o, b.P a = some o → H a = some o
  bo : ∀ a, b.O a = true → Ownable (b.P a)
  disj : ∀ a, O a = true → b.P a = none
  trk : ∀ a, O a = true → Ownable (H a)
  len : ρ.length = σ.length
  pure : ∀ (i : Nat) (x : D), ρ[i]? = some (Sl.d x) → ∃ v : V, σ[i]? = some (some v) ∧ DR G (hid (orO O b.O) H) x v
  own : ∀ (i : Nat) (x : D), ρ[i]? = some (Sl.ow x) → ∃ p : Addr, σ[i]? = some (some (V.ref p)) ∧ O p = true ∧ OwR G (hid (orO O b.O) H) x (H p)
  dis : ∀ (i j : Nat) (x y : D) (p : Addr), ρ[i]? = some (Sl.ow x) → ρ[j]? = some (Sl.ow y) → σ[i]? = some (some (V.ref p)) → σ[j]? = some (some (V.ref p)) → i = j
  ex : ∀ (i : Nat) (a : Addr) (er : Er) (c : Value) (dd : Option Addr), ρ[i]? = some (Sl.ex a er c dd) → σ[i]? = some (some (V.ref a)) ∧ ErR G (hid (orO O b.O) H) er c dd
section
variable {G : Gx} {b : Bs} {O O' : Addr → Bool} {ρ ρ' : List Sl} {σ σ' : St} {H H' : Hp}
/-- the heap has grown -/
theorem Mt.same (m : Mt G b O ρ σ H) (s : Same H H') : Mt G b O ρ σ H' where
  prot := fun a o e => s _ _ (m.prot a o e)
  bo := m.bo
  disj := m.disj
  trk := fun a h => (m.trk a h).same s
  len := m.len
  pure := fun i x h => let ⟨v, e, r⟩ := m.pure i x h; ⟨v, e, DR.mono (hid_same s) x v r⟩
  own := fun i x h => by
    obtain ⟨p, e, o, r⟩ := m.own i x h
    refine ⟨p, e, o, ?_⟩
    cases q : H p with
    | none => exact absurd q (m.trk p o).1
    | some u => rw [s _ _ q]; rw [q] at r; exact r.mono (hid_same s)
  dis := m.dis
  ex := fun i a er c dd h => let ⟨e, r⟩ := m.ex i a er c dd h; ⟨e, r.mono (hid_same s)⟩
/-- names forgotten -/
theorem Mt.weak (m : Mt G b O ρ σ H) (hl : ρ'.length = ρ.length) (w : ∀ i : Nat, ρ'[i]? = some Sl.un ∨ ρ'[i]? = ρ[i]?) : Mt G b O ρ' σ H where
  prot := m.prot
  bo := m.bo
  disj := m.disj
  trk := m.trk
  len := hl.trans m.len
  pure := fun i x h => (w i).elim (fun z => by rw [z] at h; cases h) fun z => m.pure i x (z ▸ h)
  own := fun i x h => (w i).elim (fun z => by rw [z] at h; cases h) fun z => m.own i x (z ▸ h)
  dis := fun i j x y p h1 h2 => (w i).elim (fun z => by rw [z] at h1; cases h1) fun z => (w j).elim (fun z => by rw [z] at h2; cases h2) fun z2 => m.dis i j x y p (z ▸ h1) (z2 ▸ h2)
  ex := fun i a er c dd h => (w i).elim (fun z => by rw [z] at h; cases h) fun z => m.ex i a er c dd (z ▸ h)
/-- a fresh address is nobody's own -/
theorem Mt.fresh (m : Mt G b O ρ σ H) {p : Addr} (h : H p = none) : orO O b.O p = false := by
  unfold orO
  cases e : O p with
  | true => exact absurd h (m.trk p e).1
  | false =>
    cases e2 : b.O p with
    | true =>
      exfalso
      cases q : b.P p with
      | none => exact (m.bo p e2).1 q
      | some o => rw [m.prot p o q] at h; cases h
    | false => rfl
/-- a value is stored at a name -/
theorem Mt.set (m : Mt G b O ρ σ H) {i : Nat} {x : D} {v : V} (hi : i < ρ.length) (r : DR G (hid (orO O b.O) H) x v) : Mt G b O (ρ.set i (.d x)) (σ.set i (some v)) H where
  prot := m.prot
  bo := m.bo
  disj := m.disj
  trk := m.trk
  len := by simp [m.len]
  pure := fun j y h => by
    by_cases e : i = j
    · subst e
      rw [List.getElem?_set_self hi] at h
      cases h
      exact ⟨v, List.getElem?_set_self (m.len ▸ hi), r⟩
    · rw [List.getElem?_set_ne e] at h
      rw [List.getElem?_set_ne e]
      exact m.pure j y h
  own := fun j y h => by
    by_cases e : i = j
    · subst e
      rw [List.getElem?_set_self hi] at h
      cases h
    · rw [List.getElem?_set_ne e] at h
      rw [List.getElem?_set_ne e]
      exact m.own j y h
  dis := fun j k y z p h1 h2 e1 e2 => by
    have n1 : i ≠ j := fun e => by subst e; rw [List.getElem?_set_self hi] at h1; cases h1
    have n2 : i ≠ k := fun e => by subst e; rw [List.getElem?_set_self hi] at h2; cases h2
    rw [List.getElem?_set_ne n1] at h1 e1
    rw [List.getElem?_set_ne n2] at h2 e2
    exact m.dis j k y z p h1 h2 e1 e2
  ex := fun j a er c dd h => by
    by_cases e : i = j
    · subst e
      rw [List.getElem?_set_self hi] at h
      cases h
    · rw [List.getElem?_set_ne e] at h
      rw [List.getElem?_set_ne e]
      exact m.ex j a er c dd h
/-- a name's slot is emptied or holds anything -/
theorem Mt.setUn (m : Mt G b O ρ σ H) {i : Nat} {u : Option V} (hi : i < ρ.length) : Mt G b O (ρ.set i .un) (σ.set i u) H where
  prot := m.prot
  bo := m.bo
  disj := m.disj
  trk := m.trk
  len := by simp [m.len]
  pure := fun j y h => by
    by_cases e : i = j
    · subst e
      rw [List.getElem?_set_self hi] at h
      cases h
    · rw [List.getElem?_set_ne e] at h
      rw [List.getElem?_set_ne e]
      exact m.pure j y h
  own := fun j y h => by
    by_cases e : i = j
    · subst e
      rw [List.getElem?_set_self hi] at h
      cases h
    · rw [List.getElem?_set_ne e] at h
      rw [List.getElem?_set_ne e]
      exact m.own j y h
  dis := fun j k y z p h1 h2 e1 e2 => by
    have n1 : i ≠ j := fun e => by subst e; rw [List.getElem?_set_self hi] at h1; cases h1
    have n2 : i ≠ k := fun e => by subst e; rw [List.getElem?_set_self hi] at h2; cases h2
    rw [List.getElem?_set_ne n1] at h1 e1
    rw [List.getElem?_set_ne n2] at h2 e2
    exact m.dis j k y z p h1 h2 e1 e2
  ex := fun j a er c dd h => by
    by_cases e : i = j
    · subst e
      rw [List.getElem?_set_self hi] at h
      cases h
    · rw [List.getElem?_set_ne e] at h
      rw [List.getElem?_set_ne e]
      exact m.ex j a er c dd h
def rmO (O : Addr → Bool) (p : Addr) : Addr → Bool := fun a => O a && !decide (a = p)
def adO (O : Addr → Bool) (p : Addr) : Addr → Bool := fun a => O a || decide (a = p)
theorem le_or {O O' O2 : Addr → Bool} {H : Hp} (h : ∀ a, O' a = true → O a = true) : Le (hid (orO O O2) H) (hid (orO O' O2) H) := .of fun a o e => by
  obtain ⟨e1, e2⟩ := hid_some.mp e
  refine hid_some.mpr ⟨?_, e2⟩
  unfold orO at e1 ⊢
  rw [Bool.or_eq_false_iff] at e1 ⊢
  refine ⟨?_, e1.2⟩
  cases q : O' a with
  | true => rw [h a q] at e1; cases e1.1
  | false => rfl
theorem le_drop {O O2 : Addr → Bool} {H : Hp} : Le (hid (orO O O2) H) (hid O2 H) := .of fun a o e => by
  obtain ⟨e1, e2⟩ := hid_some.mp e
  refine hid_some.mpr ⟨?_, e2⟩
  unfold orO at e1
  rw [Bool.or_eq_false_iff] at e1
  exact e1.2
/-- an own thing is given up: it is plain data from here on -/
theorem Mt.release (m : Mt G b O ρ σ H) {i : Nat} {x : D} (h : ρ[i]? = some (.ow x)) : ∃ O', Mt G b O' (ρ.set i (.d x)) σ H := by
  obtain ⟨p, e, o, r⟩ := m.own i x h
  have hi : i < ρ.length := (List.getElem?_eq_some_iff.mp h).1
  have sub : ∀ a, rmO O p a = true → O a = true := fun a q => by unfold rmO at q; exact (Bool.and_eq_true_iff.mp q).1
  have l : Le (hid (orO O b.O) H) (hid (orO (rmO O p) b.O) H) := le_or sub
  refine ⟨rmO O p, m.prot, m.bo, fun a q => m.disj a (sub a q), fun a q => m.trk a (sub a q), by simp [m.len], fun j y q => ?_, fun j y q => ?_, fun j k y z p' h1 h2 e1 e2 => ?_, fun j a er c dd q => ?_⟩
  · by_cases ej : i = j
    · subst ej
      rw [List.getElem?_set_self hi] at q
      cases q
      refine ⟨.ref p, e, OwR.free (r.mono l) ?_⟩
      have nb : b.O p = false := by
        cases q : b.O p with
        | true => exact absurd (m.disj p o) (m.bo p q).1
        | false => rfl
      unfold hid orO rmO
      simp [nb]
    · rw [List.getElem?_set_ne ej] at q
      obtain ⟨v, e', r'⟩ := m.pure j y q
      exact ⟨v, e', DR.mono l y v r'⟩
  · by_cases ej : i = j
    · subst ej
      rw [List.getElem?_set_self hi] at q
      cases q
    · rw [List.getElem?_set_ne ej] at q
      obtain ⟨p', e', o', r'⟩ := m.own j y q
      refine ⟨p', e', ?_, r'.mono l⟩
      have ne : p' ≠ p := fun z => ej (m.dis i j x y p h q e (z ▸ e'))
      unfold rmO
      simp [o', ne]
  · have n1 : i ≠ j := fun z => by subst z; rw [List.getElem?_set_self hi] at h1; cases h1
    have n2 : i ≠ k := fun z => by subst z; rw [List.getElem?_set_self hi] at h2; cases h2
    rw [List.getElem?_set_ne n1] at h1
    rw [List.getElem?_set_ne n2] at h2
    exact m.dis j k y z p' h1 h2 e1 e2
  · have n1 : i ≠ j := fun z => by subst z; rw [List.getElem?_set_self hi] at q; cases q
    rw [List.getElem?_set_ne n1] at q
    obtain ⟨e', r'⟩ := m.ex j a er c dd q
    exact ⟨e', r'.mono l⟩
/-- a new thing, stored at a name, its own -/
theorem Mt.setOw (m : Mt G b O ρ σ H) {i : Nat} {x : D} {p : Addr} {o : HO} (hi : i < ρ.length) (hp : H p = none) (r : OwR G (hid (orO O b.O) H) x (some o)) :
    Mt G b (adO O p) (ρ.set i (.ow x)) (σ.set i (some (.ref p))) (upd H p o) := by
  have np : orO O b.O p = false := m.fresh hp
  have nbP : b.P p = none := by
    cases q : b.P p with
    | none => rfl
    | some u => rw [m.prot p u q] at hp; cases hp
  have l : Le (hid (orO O b.O) H) (hid (orO (adO O p) b.O) (upd H p o)) := .of fun a u e => by
    obtain ⟨e1, e2⟩ := hid_some.mp e
    have ne : a ≠ p := ne_of_none e2 hp
    refine hid_some.mpr ⟨?_, by rw [upd_ne ne]; exact e2⟩
    unfold orO at e1 ⊢
    unfold adO
    rw [Bool.or_eq_false_iff] at e1
    simp [e1.1, e1.2, ne]
  refine ⟨fun a u e => by rw [upd_ne (ne_of_none (m.prot a u e) hp)]; exact m.prot a u e, m.bo, fun a q => ?_, fun a q => ?_, by simp [m.len], fun j y q => ?_, fun j y q => ?_, fun j k y z p' h1 h2 e1 e2 => ?_, fun j a er c dd q => ?_⟩
  · unfold adO at q
    rcases Bool.or_eq_true_iff.mp q with q | q
    · exact m.disj a q
    · rw [of_decide_eq_true q]; exact nbP
  · unfold adO at q
    rcases Bool.or_eq_true_iff.mp q with q | q
    · have := m.trk a q
      by_cases ea : a = p
      · rw [ea, upd_same]; exact r.ownable
      · rw [upd_ne ea]; exact this
    · rw [of_decide_eq_true q, upd_same]; exact r.ownable
  · by_cases ej : i = j
    · subst ej
      rw [List.getElem?_set_self hi] at q
      cases q
    · rw [List.getElem?_set_ne ej] at q
      rw [List.getElem?_set_ne ej]
      obtain ⟨v, e', r'⟩ := m.pure j y q
      exact ⟨v, e', DR.mono l y v r'⟩
  · by_cases ej : i = j
    · subst ej
      rw [List.getElem?_set_self hi] at q
      cases q
      exact ⟨p, List.getElem?_set_self (m.len ▸ hi), by unfold adO; simp, by rw [upd_same]; exact r.mono l⟩
    · rw [List.getElem?_set_ne ej] at q
      rw [List.getElem?_set_ne ej]
      obtain ⟨p', e', o', r'⟩ := m.own j y q
      have ne : p' ≠ p := fun z => by rw [z] at o'; exact (m.trk p o').1 hp
      exact ⟨p', e', by unfold adO; simp [o'], by rw [upd_ne ne]; exact r'.mono l⟩
  · by_cases e3 : i = j
    · by_cases e4 : i = k
      · exact e3.symm.trans e4
      · exfalso
        subst e3
        rw [List.getElem?_set_ne e4] at h2 e2
        rw [List.getElem?_set_self (m.len ▸ hi)] at e1
        cases e1
        obtain ⟨p', e', o', _⟩ := m.own k z h2
        rw [e'] at e2; cases e2
        exact (m.trk _ o').1 hp
    · by_cases e4 : i = k
      · exfalso
        subst e4
        rw [List.getElem?_set_ne e3] at h1 e1
        rw [List.getElem?_set_self (m.len ▸ hi)] at e2
        cases e2
        obtain ⟨p', e', o', _⟩ := m.own j y h1
        rw [e'] at e1; cases e1
        exact (m.trk _ o').1 hp
      · rw [List.getElem?_set_ne e3] at h1 e1
        rw [List.getElem?_set_ne e4] at h2 e2
        exact m.dis j k y z p' h1 h2 e1 e2
  · have n1 : i ≠ j := fun z => by subst z; rw [List.getElem?_set_self hi] at q; cases q
    rw [List.getElem?_set_ne n1] at q ⊢
    obtain ⟨e', r'⟩ := m.ex j a er c dd q
    exact ⟨e', r'.mono l⟩
/-- an own thing is changed -/
theorem Mt.write (m : Mt G b O ρ σ H) {i : Nat} {x y : D} {p : Addr} {o : HO} (h : ρ[i]? = some (.ow x)) (hp : σ[i]? = some (some (.ref p))) (r : OwR G (hid (orO O b.O) H) y (some o)) : Mt G b O (ρ.set i (.ow y)) σ (upd H p o) := by
  have hi : i < ρ.length := (List.getElem?_eq_some_iff.mp h).1
  obtain ⟨p', e, op, _⟩ := m.own i x h
  rw [hp] at e
  cases e
  have hop : orO O b.O p = true := by unfold orO; rw [op]; rfl
  have l : Le (hid (orO O b.O) H) (hid (orO O b.O) (upd H p o)) := .of fun a u e => by
    obtain ⟨e1, e2⟩ := hid_some.mp e
    have ne : a ≠ p := fun z => by rw [z, hop] at e1; cases e1
    exact hid_some.mpr ⟨e1, by rw [upd_ne ne]; exact e2⟩
  refine ⟨fun a u e => ?_, m.bo, m.disj, fun a q => ?_, by simp [m.len], fun j z q => ?_, fun j z q => ?_, fun j k z1 z2 p2 h1 h2 e1 e2 => ?_, fun j a er c dd q => ?_⟩
  · have ne : a ≠ p := fun z => by rw [z, m.disj p op] at e; cases e
    rw [upd_ne ne]; exact m.prot a u e
  · by_cases ea : a = p
    · rw [ea, upd_same]; exact r.ownable
    · rw [upd_ne ea]; exact m.trk a q
  · by_cases ej : i = j
    · subst ej
      rw [List.getElem?_set_self hi] at q
      cases q
    · rw [List.getElem?_set_ne ej] at q
      obtain ⟨v, e', r'⟩ := m.pure j z q
      exact ⟨v, e', DR.mono l z v r'⟩
  · by_cases ej : i = j
    · subst ej
      rw [List.getElem?_set_self hi] at q
      cases q
      exact ⟨p, hp, op, by rw [upd_same]; exact r.mono l⟩
    · rw [List.getElem?_set_ne ej] at q
      obtain ⟨p', e', o', r'⟩ := m.own j z q
      have ne : p' ≠ p := fun z' => ej (m.dis i j x z p h q hp (z' ▸ e'))
      exact ⟨p', e', o', by rw [upd_ne ne]; exact r'.mono l⟩
  · have n1 : ∃ x1, ρ[j]? = some (.ow x1) := by
      by_cases e3 : i = j
      · subst e3; exact ⟨x, h⟩
      · rw [List.getElem?_set_ne e3] at h1; exact ⟨z1, h1⟩
    have n2 : ∃ x2, ρ[k]? = some (.ow x2) := by
      by_cases e3 : i = k
      · subst e3; exact ⟨x, h⟩
      · rw [List.getElem?_set_ne e3] at h2; exact ⟨z2, h2⟩
    obtain ⟨x1, n1⟩ := n1
    obtain ⟨x2, n2⟩ := n2
    exact m.dis j k x1 x2 p2 n1 n2 e1 e2
  · have n1 : i ≠ j := fun z => by subst z; rw [List.getElem?_set_self hi] at q; cases q
    rw [List.getElem?_set_ne n1] at q
    obtain ⟨e', r'⟩ := m.ex j a er c dd q
    exact ⟨e', r'.mono l⟩
/-- the ground of a loop's turn: all that is plain now is to stay -/
def Bs.now (b : Bs) (O : Addr → Bool) (H : Hp) : Bs := ⟨hid O H, b.O⟩
theorem Mt.toNow (m : Mt G b O ρ σ H) : Mt G (b.now O H) O ρ σ H where
  prot := fun a o e => (hid_some.mp e).2
  bo := fun a h => by
    show Ownable (hid O H a)
    cases q2 : b.P a with
    | none => exact absurd q2 (m.bo a h).1
    | some o =>
      have z : hid O H a = some o := hid_some.mpr ⟨by
        cases q : O a with
        | true => exact absurd (m.disj a q) (m.bo a h).1
        | false => rfl, m.prot a o q2⟩
      have k := m.bo a h
      rw [q2] at k
      rw [z]
      exact k
  disj := fun a h => by
    show hid O H a = none
    unfold hid; rw [h, if_pos rfl]
  trk := m.trk
  len := m.len
  pure := m.pure
  own := m.own
  dis := m.dis
  ex := m.ex
theorem Mt.ofNow (m : Mt G b O ρ σ H) (m' : Mt G (b.now O H) O' ρ' σ' H') : Mt G b O' ρ' σ' H' where
  prot := fun a o e => m'.prot a o (hid_some.mpr ⟨by
    cases q : O a with
    | true => rw [m.disj a q] at e; cases e
    | false => rfl, m.prot a o e⟩)
  bo := m.bo
  disj := fun a h => by
    cases q : b.P a with
    | none => rfl
    | some o =>
      have z : hid O H a = some o := hid_some.mpr ⟨by
        cases q' : O a with
        | true => rw [m.disj a q'] at q; cases q
        | false => rfl, m.prot a o q⟩
      have := m'.disj a h
      rw [show (b.now O H).P a = some o from z] at this
      cases this
  trk := m'.trk
  len := m'.len
  pure := m'.pure
  own := m'.own
  dis := m'.dis
  ex := m'.ex
/-- what was plain at the turn's ground is plain now -/
theorem Mt.leNow (m : Mt G b O ρ σ H) (m' : Mt G (b.now O H) O' ρ' σ' H') : Le (hid (orO O b.O) H) (hid (orO O' b.O) H') := .of fun a o e => by
  obtain ⟨e1, e2⟩ := hid_some.mp e
  unfold orO at e1
  rw [Bool.or_eq_false_iff] at e1
  have z : (b.now O H).P a = some o := hid_some.mpr ⟨e1.1, e2⟩
  refine hid_some.mpr ⟨?_, m'.prot a o z⟩
  unfold orO
  rw [e1.2, Bool.or_false]
  cases q : O' a with
  | true => rw [m'.disj a q] at z; cases z
  | false => rfl
end

/-! ### judgements -/
section
variable (G : Gx) (W : WX) (ρ : List Sl)
/-- what is asked of an exception -/
def ErrOk (b : Bs) (ρe : List Sl) (er : Er) : Prop := ∀ c dd σ' H' O', Mt G b O' ρe σ' H' → ErR G (hid (orO O' b.O) H') er c dd → W c dd σ' H'
/-- an expression's reading, its value r over plain data -/
def tE (r : R D) : TE := fun σ H Q => ∃ b O, Mt G b O ρ σ H ∧ r ≠ .bad ∧ (∀ d, r = .ok d → ∀ v H', Same H H' → DR G (hid (orO O b.O) H') d v → Q v H') ∧
  ∀ er, r = .err er → ErrOk G W b ρ er
def tT (r : R Bool) : TT := fun σ H Q => ∃ b O, Mt G b O ρ σ H ∧ r ≠ .bad ∧ (∀ d, r = .ok d → ∀ H', Same H H' → Q d H') ∧
  ∀ er, r = .err er → ErrOk G W b ρ er
def tA (r : R (List D)) : TA := fun σ H Q => ∃ b O, Mt G b O ρ σ H ∧ r ≠ .bad ∧ (∀ d, r = .ok d → ∀ v H', Same H H' → DRs G (hid (orO O b.O) H') d v → Q v H') ∧
  ∀ er, r = .err er → ErrOk G W b ρ er
end
/-- e is worth r at ρ -/
def EE (X : Cx) (ρ : List Sl) (e : Expr) (r : R D) : Prop := ∀ W, Takes X W → PE X e (tE (gx X) W ρ r)
def ET (X : Cx) (ρ : List Sl) (e : Expr) (r : R Bool) : Prop := ∀ W, Takes X W → PT X e (tT (gx X) W ρ r)
def EW (X : Cx) (ρ : List Sl) (e : Expr) (r : R Bool) : Prop := ∀ W, Takes X W → PW X e (tT (gx X) W ρ r)
def EA (X : Cx) (ρ : List Sl) (es : List Expr) (r : R (List D)) : Prop := ∀ W, Takes X W → PA X es (tA (gx X) W ρ r)

theorem PE_imp {X : Cx} {e : Expr} {t t' : TE} (h : PE X e t) (k : ∀ σ H Q, t' σ H Q → t σ H Q) : PE X e t' := ⟨fun pins s σ H Q I q => h.run pins s σ H Q I (k _ _ _ q)⟩
theorem PT_imp {X : Cx} {e : Expr} {t t' : TT} (h : PT X e t) (k : ∀ σ H Q, t' σ H Q → t σ H Q) : PT X e t' := ⟨fun pins s σ H Q I q => h.run pins s σ H Q I (k _ _ _ q)⟩
theorem PW_imp {X : Cx} {e : Expr} {t t' : TT} (h : PW X e t) (k : ∀ σ H Q, t' σ H Q → t σ H Q) : PW X e t' := ⟨fun wh pins s σ H Q I q => h.run wh pins s σ H Q I (k _ _ _ q)⟩
theorem PA_imp {X : Cx} {e : List Expr} {t t' : TA} (h : PA X e t) (k : ∀ σ H Q, t' σ H Q → t σ H Q) : PA X e t' := ⟨fun pos pins s σ H Q I q => h.run pos pins s σ H Q I (k _ _ _ q)⟩
theorem PSs_imp {X : Cx} {e : List Stmt} {t t' : TS} (h : PSs X e t) (k : ∀ D σ H, t' D σ H → t D σ H) : PSs X e t' := ⟨fun pins s σ H D I q => h.run pins s σ H D I (k _ _ _ q)⟩
theorem PS_imp {X : Cx} {e : Stmt} {t t' : TS} (h : PS X e t) (k : ∀ D σ H, t' D σ H → t D σ H) : PS X e t' := ⟨fun pins s σ H D I q => h.run pins s σ H D I (k _ _ _ q)⟩

section
variable {G : Gx} {W : WX} {ρ : List Sl} {b : Bs} {O : Addr → Bool} {σ : St} {H : Hp} {α : Type}
/-- the reading of r.bind f, by that of r -/
theorem tE.bind {r : R D} {f : D → R α} {Q : VK} (m : Mt G b O ρ σ H) (nb : r.bind f ≠ .bad) (er : ∀ e, r.bind f = .err e → ErrOk G W b ρ e)
    (k : ∀ d, r = .ok d → f d ≠ .bad → (∀ e, f d = .err e → ErrOk G W b ρ e) → ∀ v H', Same H H' → Mt G b O ρ σ H' → DR G (hid (orO O b.O) H') d v → Q v H') : tE G W ρ r σ H Q := by
  refine ⟨b, O, m, fun e => nb (by rw [e]; rfl), fun d e v H' s dr => k d e (fun z => nb (by rw [e]; exact z)) (fun x z => er x (by rw [e]; exact z)) v H' s (m.same s) dr, fun x e => er x (by rw [e]; rfl)⟩
theorem tT.bind {r : R Bool} {f : Bool → R α} {Q : Bool → Hp → Prop} (m : Mt G b O ρ σ H) (nb : r.bind f ≠ .bad) (er : ∀ e, r.bind f = .err e → ErrOk G W b ρ e)
    (k : ∀ d, r = .ok d → f d ≠ .bad → (∀ e, f d = .err e → ErrOk G W b ρ e) → ∀ H', Same H H' → Mt G b O ρ σ H' → Q d H') : tT G W ρ r σ H Q := by
  refine ⟨b, O, m, fun e => nb (by rw [e]; rfl), fun d e H' s => k d e (fun z => nb (by rw [e]; exact z)) (fun x z => er x (by rw [e]; exact z)) H' s (m.same s), fun x e => er x (by rw [e]; rfl)⟩
theorem tA.bind {r : R (List D)} {f : List D → R α} {Q : List V → Hp → Prop} (m : Mt G b O ρ σ H) (nb : r.bind f ≠ .bad) (er : ∀ e, r.bind f = .err e → ErrOk G W b ρ e)
    (k : ∀ d, r = .ok d → f d ≠ .bad → (∀ e, f d = .err e → ErrOk G W b ρ e) → ∀ v H', Same H H' → Mt G b O ρ σ H' → DRs G (hid (orO O b.O) H') d v → Q v H') : tA G W ρ r σ H Q := by
  refine ⟨b, O, m, fun e => nb (by rw [e]; rfl), fun d e v H' s dr => k d e (fun z => nb (by rw [e]; exact z)) (fun x z => er x (by rw [e]; exact z)) v H' s (m.same s) dr, fun x e => er x (by rw [e]; rfl)⟩
end
end Dl
/-! DlB: names, constants, operators, comparisons, tests. -/
namespace Dl
open PySem PySem.Spec L2
open PyProof.Rows hiding St
set_option autoImplicit false

theorem L_line : L = sizeLine := by rw [sizeLine_eq]; rfl
/-- what is owned is tracked -/
def Trk (O : Addr → Bool) (H : Hp) : Prop := ∀ a, O a = true → Ownable (H a)
theorem Mt.trk' {G : Gx} {b : Bs} {O : Addr → Bool} {ρ : List Sl} {σ : L2.St} {H : Hp} (m : Mt G b O ρ σ H) : Trk (orO O b.O) H := fun a h => by
  unfold orO at h
  rcases Bool.or_eq_true_iff.mp h with h | h
  · exact m.trk a h
  · have k := m.bo a h
    cases q : b.P a with
    | none => exact absurd q k.1
    | some o => rw [m.prot a o q]; rw [q] at k; exact k
theorem Trk.new {O : Addr → Bool} {H : Hp} (t : Trk O H) {p : Addr} (h : H p = none) : O p = false := by
  cases q : O p with
  | true => exact absurd h (t p q).1
  | false => rfl
theorem Trk.same {O : Addr → Bool} {H H' : Hp} (t : Trk O H) (s : Same H H') : Trk O H' := fun a h => (t a h).same s
theorem Trk.tup {O : Addr → Bool} {H : Hp} (t : Trk O H) {a : Addr} {vs : List V} (h : H a = some (.tup vs)) : hid O H a = some (.tup vs) := hid_some.mpr ⟨by
  cases q : O a with
  | true => exact absurd h ((t a q).2 vs)
  | false => rfl, h⟩
theorem hid_new {O : Addr → Bool} {H : Hp} (t : Trk O H) {p : Addr} {o : HO} (h : H p = none) : hid O (upd H p o) p = some o := hid_some.mpr ⟨t.new h, upd_same⟩
theorem hid_upd {O : Addr → Bool} {H : Hp} {p : Addr} {o : HO} (h : H p = none) : Le (hid O H) (hid O (upd H p o)) := hid_same (same_upd h)
section
variable {G : Gx} {O : Addr → Bool} {H : Hp}
theorem DR.real {d : D} {v : V} (h : DR G (hid O H) d v) : DR G H d v := h.mono hid_le
theorem DRs.real {d : List D} {v : List V} (h : DRs G (hid O H) d v) : DRs G H d v := h.mono hid_le
theorem DR.newLst (t : Trk O H) {p : Addr} (hp : H p = none) {ds : List D} {vs : List V} (r : DRs G (hid O H) ds vs) : DR G (hid O (upd H p (.lst vs))) (.lst ds) (.ref p) :=
  ⟨p, vs, rfl, .inl (hid_new t hp), r.mono (hid_upd hp)⟩
theorem DR.newTup (t : Trk O H) {p : Addr} (hp : H p = none) {ds : List D} {vs : List V} (r : DRs G (hid O H) ds vs) : DR G (hid O (upd H p (.tup vs))) (.tup ds) (.ref p) :=
  ⟨p, vs, rfl, hid_new t hp, r.mono (hid_upd hp)⟩
end

/-! ### names, constants -/
section
variable {X : Cx} {ρ : List Sl} {pos : Pos}
theorem e_var {i : Nat} {x : Str} {d : D} (hN : X.N[i]? = some x) (hv : Vis X.env.scope x) (hd : ρ[i]? = some (.d d)) (h1 : (x == ("__debug__" : Str)) = false := by decide) (h2 : (x == ("__classdict__" : Str)) = false := by decide) : EE X ρ (.Name x pos) (.ok d) :=
  fun W tk => PE_imp (pe_var hN hv h1 h2) fun σ H Q ⟨b, O, m, _, k, _⟩ => by
    obtain ⟨v, e, r⟩ := m.pure i d hd
    exact ⟨v, e, k d rfl v H (Same.refl H) r⟩
theorem e_of {e : Expr} {v : V} {d : D} (h : PE X e (tC v)) (r : ∀ P, DR (gx X) P d v) : EE X ρ e (.ok d) :=
  fun W tk => PE_imp h fun σ H Q ⟨b, O, m, _, k, _⟩ => k d rfl v H (Same.refl H) (r _)
theorem e_int {i : Int} {j : Nat} : EE X ρ (.Constant (.int i) j pos) (.ok (.int i)) := e_of pe_int fun _ => rfl
theorem e_bl {i : Bool} {j : Nat} : EE X ρ (.Constant (.bool i) j pos) (.ok (.bl i)) := e_of pe_bl fun _ => rfl
theorem e_non {j : Nat} : EE X ρ (.Constant .none j pos) (.ok .non) := e_of pe_non fun _ => rfl
/-- a written text and its signs -/
def isLit (x : Str) (s : List Nat) : Bool := decide (x = toS s) && (decide (s.length ≤ L) && s.all fun c => decide (c < 1114112))
theorem isLit_dr {x : Str} {s : List Nat} (h : isLit x s = true) (G : Gx) (P : Hp) : DR G P (.str s) (.str x) := by
  obtain ⟨h1, h2⟩ := Bool.and_eq_true_iff.mp h
  obtain ⟨h2, h3⟩ := Bool.and_eq_true_iff.mp h2
  exact ⟨by rw [of_decide_eq_true h1], of_decide_eq_true h2, fun c hc => of_decide_eq_true (List.all_eq_true.mp h3 c hc)⟩
theorem e_str {x : Str} {s : List Nat} {j : Nat} (h : isLit x s = true) : EE X ρ (.Constant (.str x) j pos) (.ok (.str s)) :=
  e_of pe_str fun _ => isLit_dr h _ _
theorem e_gint {x : Str} {i : Int} (hg : Gl X x) (hm : ∃ t, X.mg x = some (.int i t)) (hd : (x == ("__debug__" : Str)) = false := by decide) : EE X ρ (.Name x pos) (.ok (.int i)) := by
  obtain ⟨t, hm⟩ := hm
  exact e_of (pe_glob hg hm (v := .int i) ⟨t, rfl⟩ hd) fun _ => rfl
theorem e_gstr {x z : Str} {s : List Nat} (hg : Gl X x) (hm : ∃ t, X.mg x = some (.str z t)) (h : isLit z s = true) (hd : (x == ("__debug__" : Str)) = false := by decide) : EE X ρ (.Name x pos) (.ok (.str s)) := by
  obtain ⟨t, hm⟩ := hm
  exact e_of (pe_glob hg hm (v := .str z) ⟨t, rfl⟩ hd) fun _ => isLit_dr h _ _
end

/-! ### operations on values -/
/-- what an operation on values leaves -/
def EQ (X : Cx) (pins : List (Addr × Obj)) (σ : L2.St) (O : Addr → Bool) (H : Hp) (d : D) (u : Value) (s' : Shared) : Prop := EP X pins σ (fun z H' => Same H H' ∧ DR (gx X) (hid O H') d z) u s'
/-- an operation on two values, over plain data -/
def Op2 (X : Cx) (f : Value → Value → Sem Value) (g : D → D → R D) : Prop :=
  (∀ a b e, g a b ≠ .err e) ∧ ∀ (pins : List (Addr × Obj)) (s : Shared) (σ : L2.St) (H : Hp) (O : Addr → Bool) (x y : V) (v u : Value) (a b d : D), Inv X pins σ H s → Trk O H → RelV x v → RelV y u →
    DR (gx X) (hid O H) a x → DR (gx X) (hid O H) b y → g a b = .ok d → wpAny (model X.prog X.w) X.A (f v u) (EQ X pins σ O H d) X.xe s
def Op1 (X : Cx) (f : Value → Sem Value) (g : D → R D) : Prop :=
  (∀ a e, g a ≠ .err e) ∧ ∀ (pins : List (Addr × Obj)) (s : Shared) (σ : L2.St) (H : Hp) (O : Addr → Bool) (x : V) (v : Value) (a d : D), Inv X pins σ H s → Trk O H → RelV x v →
    DR (gx X) (hid O H) a x → g a = .ok d → wpAny (model X.prog X.w) X.A (f v) (EQ X pins σ O H d) X.xe s
section
variable {X : Cx} {ρ : List Sl} {pos : Pos} {a b : Expr} {ra rb : R D}
/-- from a rule by values -/
theorem Op2.of {f : Value → Value → Sem Value} {g : D → D → R D} {r : R2} (h : OpR X f r) (ne : ∀ a b e, g a b ≠ .err e)
    (k : ∀ (H : Hp) (O : Addr → Bool) (x y : V) (a b d : D) (Q : VK), Trk O H → DR (gx X) (hid O H) a x → DR (gx X) (hid O H) b y → g a b = .ok d → (∀ z H', Same H H' → DR (gx X) (hid O H') d z → Q z H') → r x y H Q) : Op2 X f g :=
  ⟨ne, fun pins s σ H O x y v u a b d I t rx ry da db e => h pins s σ H x y v u _ I rx ry (k H O x y a b d _ t da db e fun z H' s' dr => ⟨s', dr⟩)⟩
/-- two expressions and what is done with their values -/
theorem bin2 {W : WX} {g : D → D → R D} (ha : PE X a (tE (gx X) W ρ ra)) (hb : PE X b (tE (gx X) W ρ rb)) (ne : ∀ a b e, g a b ≠ .err e) {pins : List (Addr × Obj)} {s : Shared} {σ : L2.St} {H : Hp} {Q : VK} (I : Inv X pins σ H s)
    (h : tE (gx X) W ρ (ap2 g ra rb) σ H Q) {f : Value → Value → Sem Value}
    (hf : ∀ v u s2 x y H2 O da db d, Inv X pins σ H2 s2 → Trk O H2 → RelV x v → RelV y u → DR (gx X) (hid O H2) da x → DR (gx X) (hid O H2) db y → g da db = .ok d → (∀ z H', Same H2 H' → DR (gx X) (hid O H') d z → Q z H') → wpAny (model X.prog X.w) X.A (f v u) (EP X pins σ Q) X.xe s2) :
    wpAny (model X.prog X.w) X.A (eval a X.env) (fun v s₁ => wpAny (model X.prog X.w) X.A (eval b X.env) (fun u s₂ => wpAny (model X.prog X.w) X.A (f v u) (EP X pins σ Q) X.xe s₂) X.xe s₁) X.xe s := by
  obtain ⟨bs, O, m, nb, kq, ke⟩ := h
  refine bin ha hb (R := fun x y H2 => ∃ da db d, DR (gx X) (hid (orO O bs.O) H2) da x ∧ DR (gx X) (hid (orO O bs.O) H2) db y ∧ g da db = .ok d ∧ Trk (orO O bs.O) H2 ∧ ∀ z H', Same H2 H' → DR (gx X) (hid (orO O bs.O) H') d z → Q z H') I ?_ fun v u s2 x y H2 I2 rx ry ⟨da, db, d, h1, h2, h3, t, k⟩ => hf v u s2 x y H2 _ da db d I2 t rx ry h1 h2 h3 k
  refine tE.bind (f := fun x => rb.bind fun y => g x y) m nb ke fun da ea nb1 ke1 x H1 s1 m1 dx => ?_
  refine tE.bind (f := fun y => g da y) m1 nb1 ke1 fun db eb nb2 ke2 y H2 s2 m2 dy => ?_
  cases q : g da db with
  | bad => exact absurd q nb2
  | err e => exact absurd q (ne _ _ _)
  | ok d =>
    refine ⟨da, db, d, dx.mono (hid_same s2), dy, q, m2.trk', fun z H' s3 dz => kq d ?_ z H' ((s1.trans s2).trans s3) dz⟩
    unfold ap2
    rw [ea, R.bind_ok, eb, R.bind_ok, q]
theorem e_bin {op : Operator} {g : D → D → R D} (o : Op2 X (binaryOp op) g) (ha : EE X ρ a ra) (hb : EE X ρ b rb) : EE X ρ (.BinOp a op b pos) (ap2 g ra rb) := fun W tk =>
  ⟨fun pins s σ H Q I h => wpAny_BinOp (bin2 (ha W tk) (hb W tk) o.1 I h fun v u s2 x y H2 O da db d I2 t rx ry h1 h2 h3 k =>
    thn (o.2 pins s2 σ H2 O x y v u da db d I2 t rx ry h1 h2 h3) fun w s3 ⟨z, H3, I3, r3, s', q⟩ => ⟨z, H3, I3, r3, k z H3 s' q⟩)⟩
theorem e_cmp {op : CmpOp} {g : D → D → R D} (o : Op2 X (compareOp op) g) (ha : EE X ρ a ra) (hb : EE X ρ b rb) (hm : behindInMarks op b = false := by rfl) : EE X ρ (.Compare a [op] [b] pos) (ap2 g ra rb) := fun W tk =>
  ⟨fun pins s σ H Q I h => wpAny_Compare1 (bin2 (ha W tk) (hb W tk) o.1 I h fun v u s2 x y H2 O da db d I2 t rx ry h1 h2 h3 k =>
    thn (o.2 pins s2 σ H2 O x y v u da db d I2 t rx ry h1 h2 h3) fun w s3 ⟨z, H3, I3, r3, s', q⟩ => ⟨z, H3, I3, r3, k z H3 s' q⟩) hm⟩
theorem e_un {op : UnaryOp} {g : D → R D} (o : Op1 X (unaryOp op) g) (ha : EE X ρ a ra) : EE X ρ (.UnaryOp op a pos) (ap1 g ra) := fun W tk => by
  refine ⟨fun pins s σ H Q I h => ?_⟩
  obtain ⟨bs, O, m, nb, kq, ke⟩ := h
  refine UnaryOp_ (thn ((ha W tk).run pins s σ H (fun x H1 => ∃ da d, DR (gx X) (hid (orO O bs.O) H1) da x ∧ g da = .ok d ∧ Trk (orO O bs.O) H1 ∧ ∀ z H', Same H1 H' → DR (gx X) (hid (orO O bs.O) H') d z → Q z H') I ?_) fun v s1 ⟨x, H1, I1, r1, da, d, h1, h2, t, k⟩ => ?_)
  · refine tE.bind (f := fun x => g x) m nb ke fun da ea nb1 ke1 x H1 s1 m1 dx => ?_
    cases q : g da with
    | bad => exact absurd q nb1
    | err e => exact absurd q (o.1 _ _)
    | ok d => exact ⟨da, d, dx, q, m1.trk', fun z H' s3 dz => kq d (by unfold ap1; rw [ea, R.bind_ok, q]) z H' (s1.trans s3) dz⟩
  · exact thn (o.2 pins s1 σ H1 _ x v da d I1 t r1 h1 h2) fun w s3 ⟨z, H3, I3, r3, s', q⟩ => ⟨z, H3, I3, r3, k z H3 s' q⟩
end

/-! ### the operators -/
section
variable {X : Cx}
theorem str_len {s : List Nat} : (toS s).length = s.length := by simp [toS, Str.length]
theorem str_app {s t : List Nat} : toS s ++ toS t = toS (s ++ t) := by
  show Str.append _ _ = _
  simp [toS, Str.append]
theorem o_add : Op2 X (binaryOp .Add) D.add := by
  refine ⟨fun a b e h => ?_, fun pins s σ H O x y v u a b d I t rx ry da db e => ?_⟩
  · unfold D.add at h
    split at h <;> (try split at h) <;> cases h
  · unfold D.add at e
    split at e
    · cases e
      cases (show x = _ from da); cases (show y = _ from db)
      exact op_add pins s σ H _ _ v u _ I rx ry ⟨_, _, rfl, rfl, Same.refl H, rfl⟩
    · rename_i i j
      split at e
      · rename_i hl
        cases e
        obtain ⟨ex, lx, cx⟩ := da
        obtain ⟨ey, ly, cy⟩ := db
        cases ex; cases ey
        exact op_add_str pins s σ H _ _ v u _ I rx ry ⟨_, _, rfl, rfl, by rw [str_len, str_len, ← L_line]; exact hl, Same.refl H, by rw [str_app]; exact ⟨rfl, by rw [List.length_append]; exact hl, fun c hc => (List.mem_append.mp hc).elim (cx c) (cy c)⟩⟩
      · cases e
    · rename_i i j
      split at e
      · rename_i hl
        cases e
        obtain ⟨p, xs, ex, hx, dx⟩ := da
        obtain ⟨q, ys, ey, hy, dy⟩ := db
        cases ex; cases ey
        cases (show v = .ref p from rx); cases (show u = .ref q from ry)
        obtain ⟨z1, its, n, r1, e1⟩ := (hid_le.rd _ _ hx).ok I.hok
        obtain ⟨z2, its2, n2, r2, e2⟩ := (hid_le.rd _ _ hy).ok I.hok
        have l1 := dx.length
        have l2 := dy.length
        have l3 := r1.length
        have l4 := r2.length
        refine PySem.P.add_list e1 e2 ?_ (by rw [List.size_toArray, List.size_toArray, ← L_line]; omega)
        have ea : its.toArray ++ its2.toArray = (its ++ its2).toArray := by simp
        rw [ea]
        refine ⟨.ref _, _, I.lnew (t' := s.toks) (r1.append r2) (by rw [List.length_append, ← L_line]; omega), rfl, same_upd I.fresh, DR.newLst t I.fresh (dx.append dy)⟩
      · cases e
    · rename_i i j
      split at e
      · rename_i hl
        cases e
        obtain ⟨p, xs, ex, hx, dx⟩ := da
        obtain ⟨q, ys, ey, hy, dy⟩ := db
        cases ex; cases ey
        have l1 := dx.length
        have l2 := dy.length
        refine op_catA pins s σ H _ _ v u _ I rx ry ⟨p, q, xs, ys, rfl, rfl, SqT.of (hid_le.tup _ _ hx), SqT.of (hid_le.tup _ _ hy), by rw [← L_line]; omega, fun h => ?_, fun h0 h => ?_, fun h0 h1 a ha => ?_⟩
        · subst h
          cases i with
          | nil => exact ⟨Same.refl H, q, ys, rfl, hy, dy⟩
          | cons _ _ => simp at l1
        · subst h
          cases j with
          | nil => exact ⟨Same.refl H, p, xs, rfl, hx, by rw [List.append_nil]; exact dx⟩
          | cons _ _ => simp at l2
        · exact ⟨same_upd ha, DR.newTup t ha (dx.append dy)⟩
      · cases e
    · cases e
theorem o_sub : Op2 X (binaryOp .Sub) D.sub := by
  refine .of op_sub (fun a b e h => ?_) fun H O x y a b d Q t da db e k => ?_
  · unfold D.sub at h
    split at h <;> cases h
  · unfold D.sub at e
    split at e
    · cases e
      cases (show x = _ from da); cases (show y = _ from db)
      exact ⟨_, _, rfl, rfl, k _ _ (Same.refl H) rfl⟩
    · cases e
theorem o_fdiv : Op2 X (binaryOp .FloorDiv) D.fdiv := by
  refine .of op_fdiv (fun a b e h => ?_) fun H O x y a b d Q t da db e k => ?_
  · unfold D.fdiv at h
    split at h <;> (try split at h) <;> cases h
  · unfold D.fdiv at e
    split at e
    · split at e
      · rename_i hc
        cases e
        cases (show x = _ from da); cases (show y = _ from db)
        exact ⟨_, _, rfl, rfl, hc, k _ _ (Same.refl H) rfl⟩
      · cases e
    · cases e
theorem o_mod : Op2 X (binaryOp .Mod) D.mod := by
  refine .of op_mod (fun a b e h => ?_) fun H O x y a b d Q t da db e k => ?_
  · unfold D.mod at h
    split at h <;> (try split at h) <;> cases h
  · unfold D.mod at e
    split at e
    · split at e
      · rename_i hc
        cases e
        cases (show x = _ from da); cases (show y = _ from db)
        exact ⟨_, _, rfl, rfl, hc, k _ _ (Same.refl H) rfl⟩
      · cases e
    · cases e
theorem o_pow : Op2 X (binaryOp .Pow) D.pow := by
  refine .of op_pow (fun a b e h => ?_) fun H O x y a b d Q t da db e k => ?_
  · unfold D.pow at h
    split at h <;> (try split at h) <;> cases h
  · unfold D.pow at e
    split at e
    · split at e
      · rename_i hc
        cases e
        cases (show x = _ from da); cases (show y = _ from db)
        exact ⟨_, _, rfl, rfl, ⟨hc.1, by omega, by have := hc.2.2; omega⟩, k _ _ (Same.refl H) rfl⟩
      · cases e
    · cases e
theorem o_neg : Op1 X (unaryOp .USub) D.neg := by
  refine ⟨fun a e h => ?_, fun pins s σ H O x v a d I t rx da e => ?_⟩
  · unfold D.neg at h
    split at h <;> cases h
  · unfold D.neg at e
    split at e
    · cases e
      cases (show x = _ from da)
      exact un_neg pins s σ H _ v _ I rx ⟨_, rfl, Same.refl H, rfl⟩
    · cases e
end
end Dl
/-! DlC: products, comparisons, equality, in, tests, and, or, not. -/
namespace Dl
open PySem PySem.Spec L2
open PyProof.Rows hiding St
set_option autoImplicit false

section
variable {X : Cx}
/-! ### products -/
theorem log2_4000 {a : Int} (h : a.natAbs < 2 ^ 4000) : a.natAbs.log2 < 4000 := PySem.Flt.log2_lt_of (by decide) h
theorem mulOk_ok {i j : Int} (h : mulOk i j = true) : PySem.IntMulOk i j := by
  unfold mulOk at h
  rcases Bool.or_eq_true_iff.mp h with h | h
  · rcases Bool.or_eq_true_iff.mp h with h | h
    · exact CMul.ok (.inl (by have := of_decide_eq_true h; omega))
    · exact CMul.ok (.inr (by have := of_decide_eq_true h; omega))
  · obtain ⟨h1, h2⟩ := Bool.and_eq_true_iff.mp h
    refine CMulW.ok (show _ < 1000000 from ?_)
    have := log2_4000 (of_decide_eq_true h1)
    have := log2_4000 (of_decide_eq_true h2)
    omega
theorem reps_eq {α : Type} (xs : List α) : ∀ n, reps xs n = (List.replicate n xs).flatten
  | 0 => rfl
  | n + 1 => by
    show xs ++ reps xs n = _
    rw [reps_eq xs n, List.replicate_succ, List.flatten_cons]
theorem reps_len {α : Type} (xs : List α) (n : Nat) : (reps xs n).length = xs.length * n := by
  rw [reps_eq, PyProof.Rows.lm_len_rep_flat, Nat.mul_comm]
theorem reps_nil {α : Type} : ∀ n, reps ([] : List α) n = []
  | 0 => rfl
  | n + 1 => reps_nil n
theorem reps_mem {α : Type} {xs : List α} : ∀ {n : Nat} {c : α}, c ∈ reps xs n → c ∈ xs
  | 0, c, h => nomatch h
  | n + 1, c, h => (List.mem_append.mp h).elim id reps_mem
theorem DRs.reps {G : Gx} {P : Hp} {ds : List D} {vs : List V} (h : DRs G P ds vs) : ∀ n, DRs G P (reps ds n) (reps vs n)
  | 0 => rfl
  | n + 1 => h.append (h.reps n)
theorem foldl_arr (xs : List Nat) : ∀ (n : Nat) (acc : List Nat), (List.replicate n xs.toArray).foldl (· ++ ·) acc.toArray = (acc ++ reps xs n).toArray
  | 0, acc => by simp [Dl.reps]
  | n + 1, acc => by
    rw [List.replicate_succ, List.foldl_cons, show acc.toArray ++ xs.toArray = (acc ++ xs).toArray from by simp, foldl_arr xs n]
    show _ = (acc ++ (xs ++ reps xs n)).toArray
    rw [List.append_assoc]
theorem Vals.reps {xs : List V} {its : List Value} (h : Vals xs its) : ∀ n, Vals (reps xs n) (reps its n)
  | 0 => .nil
  | n + 1 => h.append (Vals.reps h n)
theorem o_mul : Op2 X (binaryOp .Mult) D.mul := by
  refine ⟨fun a b e h => ?_, fun pins s σ H O x y v u a b d I t rx ry da db e => ?_⟩
  · unfold D.mul at h
    split at h <;> (try split at h) <;> cases h
  · unfold D.mul at e
    split at e
    · split at e
      · rename_i hc
        cases e
        cases (show x = _ from da); cases (show y = _ from db)
        obtain ⟨t1, rfl⟩ := rx
        obtain ⟨t2, rfl⟩ := ry
        exact mul_int ⟨.int _, H, I.tok _, ⟨_, rfl⟩, Same.refl H, rfl⟩ (mulOk_ok hc)
      · cases e
    · rename_i z k
      split at e
      · rename_i hc
        cases e
        obtain ⟨ex, lx, cx⟩ := da
        cases ex; cases (show y = _ from db)
        obtain ⟨t1, rfl⟩ := rx
        obtain ⟨t2, rfl⟩ := ry
        have hlen : (toS z).length = z.length := str_len
        have hL := L_eq
        have rl := reps_len z k.toNat
        have fin : ∀ (tk : Nat) (tt : Tok), EQ X pins σ O H (.str (reps z k.toNat)) (.str (toS (reps z k.toNat)) tt) { s with toks := tk } := fun tk tt =>
          ⟨.str _, H, I.tok _, ⟨_, rfl⟩, Same.refl H, rfl, by rw [rl]; exact hc.2.2, fun c hc => cx c (reps_mem hc)⟩
        have h20 : z.length < 2 ^ 24 + 1 := by omega
        refine PySem.P.mul_str (by simp; omega) (fun h1 _ => ?_) (fun h1 _ => ?_) ?_
        · have h2 : (9000000000000 : Int) ≤ (2 ^ 63 - 1) / k := Int.le_ediv_of_mul_le (by omega) (by omega)
          omega
        · show decide (_ > sizeLine) = false
          rw [hlen, ← L_line]
          exact decide_eq_false (by omega)
        · split
          · have e0 : k.toNat = 0 := by omega
            have := fin (s.toks + 1) s.toks
            rw [e0] at this
            refine ⟨Nat.zero_le _, ?_⟩
            rw [e0]
            exact this
          · split
            · rename_i h1 h2
              rcases Bool.or_eq_true_iff.mp h2 with h2 | h2
              · have e1 : k.toNat = 1 := by have := eq_of_beq h2; omega
                have := fin s.toks t1
                rw [e1, show reps z 1 = z from List.append_nil z] at this
                rw [e1, show reps z 1 = z from List.append_nil z]
                exact this
              · have e1 : z = [] := List.length_eq_zero_iff.mp (by have := eq_of_beq h2; omega)
                have := fin s.toks t1
                subst e1
                rw [reps_nil] at this
                rw [reps_nil]
                exact this
            · have ef := foldl_arr z k.toNat []
              rw [List.nil_append] at ef
              refine ⟨?_, ?_⟩
              · show Array.size _ ≤ _
                rw [ef, List.size_toArray, rl, ← L_line]
                exact hc.2.2
              · have := fin (s.toks + 1) s.toks
                unfold toS at this ⊢
                rw [ef]
                exact this
      · cases e
    · rename_i z k
      split at e
      · rename_i hc
        cases e
        obtain ⟨p, xs, ex, hx, dx⟩ := da
        cases ex; cases (show y = _ from db)
        cases (show v = .ref p from rx)
        obtain ⟨t2, rfl⟩ := ry
        obtain ⟨hz, its, n, r1, e1⟩ := (hid_le.rd _ _ hx).ok I.hok
        have l1 := dx.length
        have l3 := r1.length
        have hL := L_line
        have rl := reps_len xs k.toNat
        have hlen : its.toArray.size * k.toNat ≤ sizeLine := by rw [List.size_toArray, ← l3, l1, ← hL]; exact hc.2.2
        have hcap : ¬ its.toArray.size * k.toNat > (2 ^ 63 - 1) / 8 := by
          have : (sizeLine : Nat) ≤ (2 ^ 63 - 1) / 8 := by decide
          omega
        have hfit : ¬ (!Builtin.List.listFitsIndex k) = true := by
          rw [fitsIndex_both (by omega) (by omega)]
          exact Bool.false_ne_true
        have hlong : ¬ Builtin.List.listTooLong (its.toArray.size * k.toNat) = true := by
          rw [notLongL hlen]
          exact Bool.false_ne_true
        have hnew : List.foldl (fun x1 x2 => x1 ++ x2) #[] (List.replicate (if its.toArray.isEmpty = true then 0 else k.toNat) its.toArray) = (reps its k.toNat).toArray := by
          have f0 : ∀ m : Nat, List.foldl (fun x1 x2 => x1 ++ x2) #[] (List.replicate m its.toArray) = (List.replicate m its).flatten.toArray := fun m => by
            have := foldl_rep its m []
            rw [List.nil_append] at this
            exact this
          rw [f0, reps_eq]
          cases its with
          | nil => simp
          | cons a r' => rw [if_neg (by simp)]
        refine wpAny_binaryOp_repeat_ref (T := "list") (U := "int") (by decide) ⟨_, e1, rfl⟩ (fun s' => typeIs_int s' k t2) noFill_list_mul F.fills_int_mul F.slot_int_rmul repeat_list F.slot_int_index.lookup
          (call_meets F.slot_int_rmul (typeIs_int s k t2) F.entry_int_rmul (F.args_int_rmul_2 _ _) (int___rmul___int_list k t2 p its.toArray n)
            ⟨e1, rfl, ⟨_, e1, rfl⟩, call_meets F.slot_list_mul ⟨_, e1, rfl⟩ F.entry_list_mul (F.args_list_mul_2 _ _) (AutoListH.list___mul___list_int_3 p its.toArray n k t2 hfit hcap hlong) ⟨e1, ?_⟩⟩)
        rw [hnew]
        exact ⟨.ref _, _, I.lnew (t' := s.toks) (Vals.reps r1 k.toNat) (by rw [rl, l1, ← hL]; exact hc.2.2), rfl, same_upd I.fresh, DR.newLst t I.fresh (dx.reps _)⟩
      · cases e
    · cases e

/-! ### order -/
theorem lexN_lt : ∀ x y : List Nat, lexN x y = decide (x < y)
  | _, [] => by
    unfold lexN
    exact (decide_eq_false (List.not_lt_nil _)).symm
  | [], b :: bs => by
    unfold lexN
    exact (decide_eq_true (List.nil_lt_cons _ _)).symm
  | a :: as, b :: bs => by
    unfold lexN
    rw [lexN_lt as bs]
    by_cases h : a < b
    · rw [if_pos h]
      exact (decide_eq_true (List.cons_lt_cons_iff.mpr (.inl h))).symm
    · rw [if_neg h]
      by_cases e : a = b
      · rw [if_pos e]
        by_cases q : as < bs
        · rw [decide_eq_true q]
          exact (decide_eq_true (List.cons_lt_cons_iff.mpr (.inr ⟨e, q⟩))).symm
        · rw [decide_eq_false q]
          refine (decide_eq_false fun z => ?_).symm
          rcases List.cons_lt_cons_iff.mp z with z | z
          · exact h z
          · exact q z.2
      · rw [if_neg e]
        refine (decide_eq_false fun z => ?_).symm
        rcases List.cons_lt_cons_iff.mp z with z | z
        · exact h z
        · exact e z.1
theorem o_lt : Op2 X (compareOp .Lt) D.lt := by
  refine ⟨fun a b e h => ?_, fun pins s σ H O x y v u a b d I t rx ry da db e => ?_⟩
  · unfold D.lt at h
    split at h <;> cases h
  · unfold D.lt at e
    split at e
    · cases e
      cases (show x = _ from da); cases (show y = _ from db)
      exact op_lt pins s σ H _ _ v u _ I rx ry ⟨_, _, rfl, rfl, Same.refl H, rfl⟩
    · cases e
      obtain ⟨ex, _⟩ := da
      obtain ⟨ey, _⟩ := db
      cases ex; cases ey
      exact op_lt_str pins s σ H _ _ v u _ I rx ry ⟨_, _, rfl, rfl, Same.refl H, by rw [lexN_lt]; rfl⟩
    · cases e
theorem o_le : Op2 X (compareOp .LtE) D.le := by
  refine ⟨fun a b e h => ?_, fun pins s σ H O x y v u a b d I t rx ry da db e => ?_⟩
  · unfold D.le at h
    split at h <;> cases h
  · unfold D.le at e
    split at e
    · cases e
      cases (show x = _ from da); cases (show y = _ from db)
      exact op_le pins s σ H _ _ v u _ I rx ry ⟨_, _, rfl, rfl, Same.refl H, rfl⟩
    · cases e
      obtain ⟨ex, _⟩ := da
      obtain ⟨ey, _⟩ := db
      cases ex; cases ey
      exact op_le_str pins s σ H _ _ v u _ I rx ry ⟨_, _, rfl, rfl, Same.refl H, by rw [lexN_lt]; rfl⟩
    · cases e
theorem o_gt : Op2 X (compareOp .Gt) D.gt := by
  refine ⟨fun a b e h => ?_, fun pins s σ H O x y v u a b d I t rx ry da db e => ?_⟩
  · unfold D.gt at h
    split at h <;> cases h
  · unfold D.gt at e
    split at e
    · cases e
      cases (show x = _ from da); cases (show y = _ from db)
      exact op_gt pins s σ H _ _ v u _ I rx ry ⟨_, _, rfl, rfl, Same.refl H, rfl⟩
    · cases e
      obtain ⟨ex, _⟩ := da
      obtain ⟨ey, _⟩ := db
      cases ex; cases ey
      exact op_gt_str pins s σ H _ _ v u _ I rx ry ⟨_, _, rfl, rfl, Same.refl H, by rw [lexN_lt]; rfl⟩
    · cases e
theorem o_ge : Op2 X (compareOp .GtE) D.ge := by
  refine ⟨fun a b e h => ?_, fun pins s σ H O x y v u a b d I t rx ry da db e => ?_⟩
  · unfold D.ge at h
    split at h <;> cases h
  · unfold D.ge at e
    split at e
    · cases e
      cases (show x = _ from da); cases (show y = _ from db)
      exact op_ge pins s σ H _ _ v u _ I rx ry ⟨_, _, rfl, rfl, Same.refl H, rfl⟩
    · cases e
      obtain ⟨ex, _⟩ := da
      obtain ⟨ey, _⟩ := db
      cases ex; cases ey
      exact op_ge_str pins s σ H _ _ v u _ I rx ry ⟨_, _, rfl, rfl, Same.refl H, by rw [lexN_lt]; rfl⟩
    · cases e

/-! ### equality -/
mutual
def D.py : D → PyData
  | .non => .none
  | .bl b => .bool b
  | .int i => .int i
  | .str s => .str (toS s)
  | .lst ds => .list (pys ds)
  | .tup ds => .tuple (pys ds)
  | .dct _ _ => .none
  | .obj _ _ => .none
  | .scr _ => .none
termination_by structural d => d
def pys : List D → List PyData
  | [] => []
  | d :: ds => d.py :: pys ds
termination_by structural l => l
end
theorem toS_inj {x y : List Nat} : toS x = toS y ↔ x = y := ⟨fun h => by
  have := congrArg (fun z : Str => z.cps.toList) h
  simpa [toS] using this, fun h => by rw [h]⟩
mutual
theorem py_eqv : ∀ (x y : D) (n m : Nat), x.okd n = true → y.okd m = true → PyData.eqv x.py y.py = x.eqv y
  | .non, y, n, m, hx, hy => by cases y <;> first | rfl | (simp [D.okd] at hy)
  | .bl _, y, n, m, hx, hy => by cases y <;> first | rfl | (simp [D.okd] at hy)
  | .int _, y, n, m, hx, hy => by cases y <;> first | rfl | (simp [D.okd] at hy)
  | .str a, y, n, m, hx, hy => by
    cases y <;> first | rfl | (simp [D.okd] at hy) | skip
    rename_i b
    show (toS a == toS b) = (a == b)
    by_cases e : a = b
    · subst e; simp
    · rw [beq_eq_false_iff_ne.mpr e, beq_eq_false_iff_ne.mpr fun z => e (toS_inj.mp z)]
  | .lst xs, y, n, m, hx, hy => by
    cases y <;> first | rfl | (simp [D.okd] at hy) | skip
    rename_i ys
    cases n with
    | zero => simp [D.okd] at hx
    | succ n =>
      cases m with
      | zero => simp [D.okd] at hy
      | succ m => exact pys_eqv xs ys n m hx hy
  | .tup xs, y, n, m, hx, hy => by
    cases y <;> first | rfl | (simp [D.okd] at hy) | skip
    rename_i ys
    cases n with
    | zero => simp [D.okd] at hx
    | succ n =>
      cases m with
      | zero => simp [D.okd] at hy
      | succ m => exact pys_eqv xs ys n m hx hy
  | .dct _ _, y, n, m, hx, hy => by simp [D.okd] at hx
  | .obj _ _, y, n, m, hx, hy => by simp [D.okd] at hx
  | .scr _, y, n, m, hx, hy => by simp [D.okd] at hx
theorem pys_eqv : ∀ (xs ys : List D) (n m : Nat), okds xs n = true → okds ys m = true → PyData.eqvAll (pys xs) (pys ys) = eqvs xs ys
  | [], ys, n, m, hx, hy => by cases ys <;> rfl
  | x :: xs, [], n, m, hx, hy => rfl
  | x :: xs, y :: ys, n, m, hx, hy => by
    obtain ⟨h1, h2⟩ := Bool.and_eq_true_iff.mp (show (x.okd n && okds xs n) = true from hx)
    obtain ⟨h3, h4⟩ := Bool.and_eq_true_iff.mp (show (y.okd m && okds ys m) = true from hy)
    show (PyData.eqv x.py y.py && PyData.eqvAll (pys xs) (pys ys)) = (x.eqv y && eqvs xs ys)
    rw [py_eqv x y n m h1 h3, pys_eqv xs ys n m h2 h4]
end
section
variable {G : Gx} {P : Hp}
mutual
theorem DR.dp : ∀ (d : D) (v : V) (n : Nat), DR G P d v → d.okd n = true → Dp G.K P v d.py
  | .non, v, n, h, k => by cases (show v = _ from h); exact .non
  | .bl b, v, n, h, k => by cases (show v = _ from h); exact .bl b
  | .int i, v, n, h, k => by cases (show v = _ from h); exact .int i
  | .str s, v, n, h, k => by cases h.1; exact .str _
  | .lst ds, v, n, h, k => by
    obtain ⟨a, vs, e, q, r⟩ := h
    cases n with
    | zero => simp [D.okd] at k
    | succ n => rw [e]; exact .lst (.inl q) (DRs.dp ds vs n r k)
  | .tup ds, v, n, h, k => by
    obtain ⟨a, vs, e, q, r⟩ := h
    cases n with
    | zero => simp [D.okd] at k
    | succ n => rw [e]; exact .tup (SqT.of q) (DRs.dp ds vs n r k)
  | .dct _ _, v, n, h, k => by simp [D.okd] at k
  | .obj _ _, v, n, h, k => by simp [D.okd] at k
  | .scr _, v, n, h, k => by simp [D.okd] at k
theorem DRs.dp : ∀ (ds : List D) (vs : List V) (n : Nat), DRs G P ds vs → okds ds n = true → DpAll G.K P vs (pys ds)
  | [], vs, n, h, k => by cases (show vs = [] from h); exact .nil
  | d :: ds, vs, n, h, k => by
    obtain ⟨v, r, e, h1, h2⟩ := h
    obtain ⟨k1, k2⟩ := Bool.and_eq_true_iff.mp (show (d.okd n && okds ds n) = true from k)
    rw [e]
    exact .cons (DR.dp d v n h1 k1) (DRs.dp ds r n h2 k2)
end
mutual
theorem DR.lay : ∀ (d : D) (v : V) (n : Nat), DR G P d v → d.okd n = true → d.py.canLay0 = true ∧ d.py.depth ≤ n
  | .non, v, n, h, k => ⟨rfl, Nat.zero_le _⟩
  | .bl b, v, n, h, k => ⟨rfl, Nat.zero_le _⟩
  | .int i, v, n, h, k => ⟨rfl, Nat.zero_le _⟩
  | .str s, v, n, h, k => ⟨by
    show PyData.strOk (toS s) = true
    unfold PyData.strOk toS
    rw [List.all_toArray]
    exact List.all_eq_true.mpr fun c hc => decide_eq_true (h.2.2 c hc), Nat.zero_le _⟩
  | .lst ds, v, n, h, k => by
    obtain ⟨a, vs, e, q, r⟩ := h
    cases n with
    | zero => simp [D.okd] at k
    | succ n =>
      obtain ⟨h1, h2⟩ := DRs.lay ds vs n r k
      exact ⟨h1, Nat.succ_le_succ h2⟩
  | .tup ds, v, n, h, k => by
    obtain ⟨a, vs, e, q, r⟩ := h
    cases n with
    | zero => simp [D.okd] at k
    | succ n =>
      obtain ⟨h1, h2⟩ := DRs.lay ds vs n r k
      exact ⟨h1, Nat.succ_le_succ h2⟩
  | .dct _ _, v, n, h, k => by simp [D.okd] at k
  | .obj _ _, v, n, h, k => by simp [D.okd] at k
  | .scr _, v, n, h, k => by simp [D.okd] at k
theorem DRs.lay : ∀ (ds : List D) (vs : List V) (n : Nat), DRs G P ds vs → okds ds n = true → PyData.canLayAll0 (pys ds) = true ∧ PyData.depthAll (pys ds) ≤ n
  | [], vs, n, h, k => ⟨rfl, Nat.zero_le _⟩
  | d :: ds, vs, n, h, k => by
    obtain ⟨v, r, e, h1, h2⟩ := h
    obtain ⟨k1, k2⟩ := Bool.and_eq_true_iff.mp (show (d.okd n && okds ds n) = true from k)
    obtain ⟨l1, l2⟩ := DR.lay d v n h1 k1
    obtain ⟨m1, m2⟩ := DRs.lay ds r n h2 k2
    exact ⟨Bool.and_eq_true_iff.mpr ⟨l1, m1⟩, Nat.max_le.mpr ⟨l2, m2⟩⟩
end
theorem DR.shaped {d : D} {v : V} (h : DR G P d v) (k : d.okd 60 = true) : SeqAt.shaped d.py = true := by
  obtain ⟨h1, h2⟩ := DR.lay d v 60 h k
  exact Bool.and_eq_true_iff.mpr ⟨h1, decide_eq_true (by omega)⟩
theorem DRs.shapedL {ds : List D} {vs : List V} (h : DRs G P ds vs) (k : okds ds 60 = true) : SeqAt.shaped (.list (pys ds)) = true := by
  obtain ⟨h1, h2⟩ := DRs.lay ds vs 60 h k
  exact Bool.and_eq_true_iff.mpr ⟨h1, decide_eq_true (by show PyData.depthAll _ + 1 ≤ 64; omega)⟩
theorem pys_any {x : D} (kx : x.okd 60 = true) : ∀ (ds : List D), okds ds 60 = true → ((pys ds).any fun z => PyData.eqv z x.py) = ds.any fun z => z.eqv x
  | [], _ => rfl
  | d :: ds, k => by
    obtain ⟨k1, k2⟩ := Bool.and_eq_true_iff.mp (show (d.okd 60 && okds ds 60) = true from k)
    show (PyData.eqv d.py x.py || (pys ds).any fun z => PyData.eqv z x.py) = _
    rw [List.any_cons, py_eqv d x 60 60 k1 kx, pys_any kx ds k2]
end
theorem o_eq (hu : X.A.units + 65 < cLine) : Op2 X (compareOp .Eq) D.eq := by
  refine .of (op_eqD (by omega)) (fun a b e h => ?_) fun H O x y a b d Q t da db e k => ?_
  · unfold D.eq at h
    split at h <;> cases h
  · unfold D.eq at e
    split at e
    · rename_i hc
      cases e
      obtain ⟨h1, h2⟩ := Bool.and_eq_true_iff.mp hc
      refine ⟨_, _, DR.dp a x 60 da.real h1, DR.dp b y 60 db.real h2, da.shaped h1, db.shaped h2, k _ _ (Same.refl H) ?_⟩
      rw [py_eqv a b 60 60 h1 h2]
      rfl
    · cases e
theorem o_ne (hu : X.A.units + 65 < cLine) : Op2 X (compareOp .NotEq) D.ne := by
  refine .of (op_neD (by omega)) (fun a b e h => ?_) fun H O x y a b d Q t da db e k => ?_
  · unfold D.ne at h
    split at h <;> cases h
  · unfold D.ne at e
    split at e
    · rename_i hc
      cases e
      obtain ⟨h1, h2⟩ := Bool.and_eq_true_iff.mp hc
      refine ⟨_, _, DR.dp a x 60 da.real h1, DR.dp b y 60 db.real h2, da.shaped h1, db.shaped h2, k _ _ (Same.refl H) ?_⟩
      rw [py_eqv a b 60 60 h1 h2]
      rfl
    · cases e

/-! ### is -/
theorem is_bool_gen {M : Model} {A : Around} {E : Value → Shared → Prop} {s : Shared} {Q : Value → Shared → Prop} {v : Value} {b : Bool} (hv : ∀ id, v ≠ .builtin id) (h : Q (.bool (v == .bool b)) s) : wpAny M A (compareOp .Is v (.bool b)) Q E s := by
  cases v <;> first | exact wpAny_pure h | exact absurd rfl (hv _)
theorem isnot_bool_gen {M : Model} {A : Around} {E : Value → Shared → Prop} {s : Shared} {Q : Value → Shared → Prop} {v : Value} {b : Bool} (hv : ∀ id, v ≠ .builtin id) (h : Q (.bool (!(v == .bool b))) s) : wpAny M A (compareOp .IsNot v (.bool b)) Q E s := by
  cases v <;> first | exact wpAny_pure h | exact absurd rfl (hv _)
theorem relV_noBuiltin {x : V} {v : Value} (r : RelV x v) : ∀ id, v ≠ .builtin id := fun id e => by
  subst e
  cases x <;> first | exact nomatch r | (obtain ⟨t, h⟩ := r; exact nomatch h)
theorem DR.is_non {G : Gx} {P : Hp} {a : D} {x : V} (h : DR G P a x) : decide (x = V.non) = a.isNon := by
  have k : ∀ p, decide (V.ref p = V.non) = false := fun p => decide_eq_false fun z => nomatch z
  cases a with
  | non => cases (show x = _ from h); rfl
  | bl b => cases (show x = _ from h); rfl
  | int i => cases (show x = _ from h); rfl
  | str s => cases h.1; rfl
  | lst ds => obtain ⟨p, _, e, _⟩ := h; subst e; exact k p
  | tup ds => obtain ⟨p, _, e, _⟩ := h; subst e; exact k p
  | dct t ds => obtain ⟨p, e, _⟩ := h; subst e; exact k p
  | obj c ds => obtain ⟨p, _, _, _, e, _⟩ := h; subst e; exact k p
  | scr ns => obtain ⟨p, e, _⟩ := h; subst e; exact k p
theorem DR.is_bl {G : Gx} {P : Hp} {a : D} {x : V} {v : Value} {b : Bool} (h : DR G P a x) (r : RelV x v) : (v == Value.bool b) = a.isBl b := by
  cases a with
  | non => cases (show x = _ from h); cases (show v = _ from r); rfl
  | bl c => cases (show x = _ from h); cases (show v = _ from r); cases c <;> cases b <;> rfl
  | int i => cases (show x = _ from h); obtain ⟨t, rfl⟩ := r; rfl
  | str s => cases h.1; obtain ⟨t, rfl⟩ := r; rfl
  | lst ds => obtain ⟨p, _, e, _⟩ := h; subst e; cases (show v = _ from r); rfl
  | tup ds => obtain ⟨p, _, e, _⟩ := h; subst e; cases (show v = _ from r); rfl
  | dct t ds => obtain ⟨p, e, _⟩ := h; subst e; cases (show v = _ from r); rfl
  | obj c ds => obtain ⟨p, _, _, _, e, _⟩ := h; subst e; cases (show v = _ from r); rfl
  | scr ds => obtain ⟨p, e, _⟩ := h; subst e; cases (show v = _ from r); rfl
theorem o_is : Op2 X (compareOp .Is) D.is := by
  refine ⟨fun a b e h => ?_, fun pins s σ H O x y v u a b d I t rx ry da db e => ?_⟩
  · unfold D.is at h
    split at h <;> cases h
  · unfold D.is at e
    split at e
    · cases e
      cases (show y = _ from db)
      exact op_isN pins s σ H _ _ v u _ I rx ry ⟨rfl, Same.refl H, by rw [da.is_non]; rfl⟩
    · cases e
      cases (show y = _ from db)
      cases (show u = _ from ry)
      exact is_bool_gen (relV_noBuiltin rx) ⟨.bl _, H, I, rfl, Same.refl H, by rw [da.is_bl rx]; rfl⟩
    · cases e
theorem o_isnt : Op2 X (compareOp .IsNot) D.isnt := by
  refine ⟨fun a b e h => ?_, fun pins s σ H O x y v u a b d I t rx ry da db e => ?_⟩
  · unfold D.isnt at h
    split at h <;> cases h
  · unfold D.isnt at e
    split at e
    · cases e
      cases (show y = _ from db)
      refine op_notN pins s σ H _ _ v u _ I rx ry ⟨rfl, Same.refl H, ?_⟩
      rw [da.is_non]
      cases a <;> rfl
    · cases e
      cases (show y = _ from db)
      cases (show u = _ from ry)
      refine isnot_bool_gen (relV_noBuiltin rx) ⟨.bl _, H, I, rfl, Same.refl H, ?_⟩
      rw [da.is_bl rx]
      cases a <;> rfl
    · cases e

/-! ### in -/
theorem contains_mem {s : List Nat} {c : Nat} : s.contains c = decide (c ∈ s) := by
  by_cases h : c ∈ s
  · rw [decide_eq_true h]; simpa using h
  · rw [decide_eq_false h]
    cases q : s.contains c with
    | false => rfl
    | true => exact absurd (by simpa using q) h
end
end Dl
/-! DlD: in, truth, tests, chains, displays, calls of built-ins, places, slices. -/
namespace Dl
open PySem PySem.Spec L2
open PyProof.Rows hiding St
set_option autoImplicit false

section
variable {X : Cx}
theorem Op2.orr {f : Value → Value → Sem Value} {g : D → D → R D} (h1 : ∀ a b e, g a b ≠ .err e) (h2 : ∀ (pins : List (Addr × Obj)) (s : Shared) (σ : L2.St) (H : Hp) (O : Addr → Bool) (x y : V) (v u : Value) (a b d : D), L2.Inv X pins σ H s → Trk O H → RelV x v → RelV y u →
    DR (gx X) (hid O H) a x → DR (gx X) (hid O H) b y → g a b = .ok d → wpAny (model X.prog X.w) X.A (f v u) (EQ X pins σ O H d) X.xe s) : Op2 X f g := ⟨h1, h2⟩
/-- as a rule by values -/
def rD (X : Cx) (g : D → D → R D) : R2 := fun x y H Q => ∃ (O : Addr → Bool) (a b d : D), Trk O H ∧ DR (gx X) (hid O H) a x ∧ DR (gx X) (hid O H) b y ∧ g a b = .ok d ∧ ∀ z H', Same H H' → DR (gx X) (hid O H') d z → Q z H'
theorem Op2.opR {f : Value → Value → Sem Value} {g : D → D → R D} (o : Op2 X f g) : OpR X f (rD X g) := fun pins s σ H x y v u Q I rx ry ⟨O, a, b, d, t, da, db, e, k⟩ =>
  thn (o.2 pins s σ H O x y v u a b d I t rx ry da db e) fun w s3 ⟨z, H3, I3, r3, s', q⟩ => ⟨z, H3, I3, r3, k z H3 s' q⟩

/-! ### in -/
theorem op_inT (hu : X.A.units + 65 < cLine) : OpR X (compareOp .In) (fun x y H Q => ∃ d ds, Dp X.K H x d ∧ Dp X.K H y (.tuple ds) ∧ SeqAt.shaped d = true ∧ SeqAt.shaped (.list ds) = true ∧ Q (.bl (ds.any fun z => PyData.eqv z d)) H) := by
  intro pins s σ H x y v u Q I rx ry h
  obtain ⟨d, ds, hd, he, sd, se, q⟩ := h
  obtain ⟨as, r1⟩ := Dp.reads I d x v hd rx
  obtain ⟨bs, r2⟩ := Dp.reads I (.tuple ds) y u he ry
  have se' : PyData.canLayAll0 ds = true := SeqAt.canLay_of_shaped (d := .list ds) se
  exact SeqAt.in_tuple_reads r2 r1 se' (SeqAt.canLay_of_shaped sd) (room_in_shaped sd hu) ⟨.bl _, H, I, rfl, q⟩
theorem op_notInT (hu : X.A.units + 65 < cLine) : OpR X (compareOp .NotIn) (fun x y H Q => ∃ d ds, Dp X.K H x d ∧ Dp X.K H y (.tuple ds) ∧ SeqAt.shaped d = true ∧ SeqAt.shaped (.list ds) = true ∧ Q (.bl (!ds.any fun z => PyData.eqv z d)) H) := by
  intro pins s σ H x y v u Q I rx ry h
  obtain ⟨d, ds, hd, he, sd, se, q⟩ := h
  obtain ⟨as, r1⟩ := Dp.reads I d x v hd rx
  obtain ⟨bs, r2⟩ := Dp.reads I (.tuple ds) y u he ry
  have se' : PyData.canLayAll0 ds = true := SeqAt.canLay_of_shaped (d := .list ds) se
  exact SeqAt.notIn_tuple_reads r2 r1 se' (SeqAt.canLay_of_shaped sd) (room_in_shaped sd hu) ⟨.bl _, H, I, rfl, q⟩
theorem isin_noerr : ∀ a b e, D.isin a b ≠ .err e := fun a b e h => by
  unfold D.isin at h
  split at h <;> (try split at h) <;> (try split at h) <;> cases h
theorem isin_bl : ∀ a b d, D.isin a b = .ok d → ∃ k, d = .bl k := fun a b d h => by
  unfold D.isin at h
  split at h <;> (try split at h) <;> (try split at h) <;> cases h <;> exact ⟨_, rfl⟩
theorem beq_dec {α : Type} [BEq α] [LawfulBEq α] [DecidableEq α] (a b : α) : (a == b) = decide (a = b) := by
  by_cases e : a = b
  · subst e; simp
  · rw [decide_eq_false e, beq_eq_false_iff_ne.mpr e]
theorem keyD_eqv (k k' : Key) : (keyD k).eqv (keyD k') = decide (k = k') := by
  cases k with
  | inl i => cases k' with
    | inl j => exact (key_ll i j).symm
    | inr y => exact (key_lr i y).symm
  | inr x => cases k' with
    | inl j => exact (key_rl x j).symm
    | inr y =>
      rw [key_rr]
      show (x.cps.toList == y.cps.toList) = _
      rw [beq_dec]
      refine decide_eq_decide.mpr ⟨fun e => ?_, fun e => by rw [e]⟩
      obtain ⟨⟨x⟩⟩ := x
      obtain ⟨⟨y⟩⟩ := y
      have e2 : x = y := e
      rw [e2]
theorem keysD_eqv : ∀ (k k' : List Key), eqvs (k.map keyD) (k'.map keyD) = decide (k = k')
  | [], [] => rfl
  | [], _ :: _ => rfl
  | _ :: _, [] => rfl
  | a :: k, b :: k' => by
    show ((keyD a).eqv (keyD b) && eqvs (k.map keyD) (k'.map keyD)) = _
    rw [keyD_eqv, keysD_eqv k k', ← Bool.decide_and]
    exact decide_eq_decide.mpr (by simp)
theorem kV_keyD {G : Gx} {P : Hp} {a : D} {x : V} (h : DR G P a x) (k : a.keyOk false = true) : ∃ q : Key, a = keyD q ∧ x = kV q ∧ KeyV q := by
  cases a with
  | int i => cases (show x = _ from h); exact ⟨.inl i, rfl, rfl, trivial⟩
  | str s => cases h.1; exact ⟨.inr (toS s), rfl, rfl, h.2⟩
  | _ => cases k
theorem kVs_keyD {G : Gx} {P : Hp} : ∀ {ds : List D} {vs : List V}, DRs G P ds vs → ds.all D.flatK = true → ∃ q : List Key, ds = q.map keyD ∧ vs = q.map kV ∧ ∀ k ∈ q, KeyV k
  | [], vs, h, k => by cases (show vs = [] from h); exact ⟨[], rfl, rfl, fun _ h => nomatch h⟩
  | d :: ds, vs, h, k => by
    obtain ⟨v, r, e, h1, h2⟩ := h
    obtain ⟨k1, k2⟩ := Bool.and_eq_true_iff.mp (show (d.flatK && ds.all D.flatK) = true from k)
    obtain ⟨q, e1, e2, e5⟩ := kV_keyD h1 (by cases d <;> first | rfl | cases k1)
    obtain ⟨qs, e3, e4, e6⟩ := kVs_keyD h2 k2
    exact ⟨q :: qs, by rw [e1, e3]; rfl, by rw [e, e2, e4]; rfl, fun k hk => (List.mem_cons.mp hk).elim (fun z => z ▸ e5) (e6 k)⟩
theorem look_k {G : Gx} {P : Hp} (q : Key) : ∀ {kvs : List (D × D)} {ws : List (Key × V)}, DRk G P kvs ws → match look (keyD q) kvs with
    | some d => ∃ v, valV ws q = some v ∧ DR G P d v
    | none => valV ws q = none
  | [], ws, h => by cases (show ws = [] from h); rfl
  | (k, d) :: r, ws, h => by
    obtain ⟨⟨k', v⟩, t, e, ⟨⟨h1, _⟩, h2⟩, h3⟩ := h
    subst e
    have h1 : k = keyD k' := h1
    subst h1
    have ih := look_k q h3
    unfold look
    rw [keyD_eqv]
    by_cases e : q = k'
    · subst e
      rw [decide_eq_true rfl, if_pos rfl]
      exact ⟨v, by unfold valV; simp, h2⟩
    · rw [decide_eq_false e, if_neg Bool.false_ne_true]
      have ev : valV ((k', v) :: t) q = valV t q := by unfold valV; simp [Ne.symm e]
      rw [ev]
      exact ih
theorem look_t {G : Gx} {P : Hp} (q : List Key) : ∀ {kvs : List (D × D)} {ws : List (List Key × V)}, DRt G P kvs ws → match look (.tup (q.map keyD)) kvs with
    | some d => ∃ v, valV ws q = some v ∧ DR G P d v
    | none => valV ws q = none
  | [], ws, h => by cases (show ws = [] from h); rfl
  | (k, d) :: r, ws, h => by
    obtain ⟨⟨k', v⟩, t, e, ⟨⟨h1, _⟩, h2⟩, h3⟩ := h
    subst e
    have h1 : k = .tup (k'.map keyD) := h1
    subst h1
    have ih := look_t q h3
    unfold look
    rw [show (D.tup (q.map keyD)).eqv (.tup (k'.map keyD)) = decide (q = k') from keysD_eqv q k']
    by_cases e : q = k'
    · subst e
      rw [decide_eq_true rfl, if_pos rfl]
      exact ⟨v, by unfold valV; simp, h2⟩
    · rw [decide_eq_false e, if_neg Bool.false_ne_true]
      have ev : valV ((k', v) :: t) q = valV t q := by unfold valV; simp [Ne.symm e]
      rw [ev]
      exact ih
/-- a dict asked by a key -/
theorem dget_of {G : Gx} {O : Addr → Bool} {H : Hp} {t : Bool} {kvs : List (D × D)} {k : D} {x y : V} (hd : DR G (hid O H) (.dct t kvs) x) (hk : DR G (hid O H) k y) (ok : k.keyOk t = true) :
    ∃ a o, x = .ref a ∧ DGet H a y o ∧ (o.isSome = (look k kvs).isSome) ∧ ∀ d, look k kvs = some d → ∃ v, o = some v ∧ DR G (hid O H) d v := by
  obtain ⟨a, ex, h⟩ := hd
  rcases h with ⟨e, ws, h1, h2⟩ | ⟨e, ws, h1, h2⟩
  · subst e
    obtain ⟨q, e1, e2, _⟩ := kV_keyD hk ok
    subst e1
    have l := look_k q h2
    refine ⟨a, valV ws q, ex, .inl ⟨ws, q, hid_le.rd _ _ h1, e2, rfl⟩, ?_, fun d e => ?_⟩
    · cases e : look (keyD q) kvs with
      | none => rw [e] at l; rw [show valV ws q = none from l]; rfl
      | some d => rw [e] at l; obtain ⟨v, e3, _⟩ := l; rw [e3]; rfl
    · rw [e] at l
      exact l
  · subst e
    cases k with
    | tup ds =>
      obtain ⟨p, vs, e1, h3, h4⟩ := hk
      obtain ⟨q, e2, e3, _⟩ := kVs_keyD h4 (Bool.and_eq_true_iff.mp (show (true && ds.all D.flatK) = true from ok)).2
      subst e2
      have l := look_t q h2
      subst e3
      refine ⟨a, valV ws q, ex, .inr ⟨ws, q, p, hid_le.rd _ _ h1, e1, hid_le.tup _ _ h3, rfl⟩, ?_, fun d e => ?_⟩
      · cases e : look (.tup (q.map keyD)) kvs with
        | none => rw [e] at l; rw [show valV ws q = none from l]; rfl
        | some d => rw [e] at l; obtain ⟨v, e3, _⟩ := l; rw [e3]; rfl
      · rw [e] at l
        exact l
    | _ => cases ok
theorem in_all (hu : X.A.units + 65 < cLine) {pins : List (Addr × Obj)} {s : Shared} {σ : L2.St} {H : Hp} {O : Addr → Bool} {x y : V} {v u : Value} {a b : D} {k : Bool} (I : L2.Inv X pins σ H s) (rx : RelV x v) (ry : RelV y u)
    (da : DR (gx X) (hid O H) a x) (db : DR (gx X) (hid O H) b y) (e : D.isin a b = .ok (.bl k)) :
    wpAny (model X.prog X.w) X.A (compareOp .In v u) (EP X pins σ (fun z H' => z = .bl k ∧ H' = H)) X.xe s ∧ wpAny (model X.prog X.w) X.A (compareOp .NotIn v u) (EP X pins σ (fun z H' => z = .bl (!k) ∧ H' = H)) X.xe s := by
  cases b with
  | lst ds =>
    replace e : (if (a.okd 60 && okds ds 60) = true then R.ok (D.bl (ds.any fun z => z.eqv a)) else R.bad) = .ok (.bl k) := e
    split at e
    · rename_i hc
      cases e
      obtain ⟨h1, h2⟩ := Bool.and_eq_true_iff.mp hc
      obtain ⟨p, vs, ey, hp, dv⟩ := db
      subst ey
      rw [← pys_any h1 ds h2]
      exact ⟨op_inD hu pins s σ H _ _ v u _ I rx ry ⟨a.py, pys ds, DR.dp a x 60 da.real h1, .lst (.inl (hid_le.rd _ _ hp)) (DRs.dp ds vs 60 dv.real h2), da.shaped h1, dv.shapedL h2, rfl, rfl⟩,
        op_notInD hu pins s σ H _ _ v u _ I rx ry ⟨a.py, pys ds, DR.dp a x 60 da.real h1, .lst (.inl (hid_le.rd _ _ hp)) (DRs.dp ds vs 60 dv.real h2), da.shaped h1, dv.shapedL h2, rfl, rfl⟩⟩
    · cases e
  | tup ds =>
    replace e : (if (a.okd 60 && okds ds 60) = true then R.ok (D.bl (ds.any fun z => z.eqv a)) else R.bad) = .ok (.bl k) := e
    split at e
    · rename_i hc
      cases e
      obtain ⟨h1, h2⟩ := Bool.and_eq_true_iff.mp hc
      obtain ⟨p, vs, ey, hp, dv⟩ := db
      subst ey
      rw [← pys_any h1 ds h2]
      exact ⟨op_inT hu pins s σ H _ _ v u _ I rx ry ⟨a.py, pys ds, DR.dp a x 60 da.real h1, .tup (SqT.of (hid_le.tup _ _ hp)) (DRs.dp ds vs 60 dv.real h2), da.shaped h1, dv.shapedL h2, rfl, rfl⟩,
        op_notInT hu pins s σ H _ _ v u _ I rx ry ⟨a.py, pys ds, DR.dp a x 60 da.real h1, .tup (SqT.of (hid_le.tup _ _ hp)) (DRs.dp ds vs 60 dv.real h2), da.shaped h1, dv.shapedL h2, rfl, rfl⟩⟩
    · cases e
  | str z =>
    unfold D.isin at e
    cases a with
    | str w =>
      cases w with
      | nil => cases e
      | cons c w =>
        cases w with
        | cons _ _ => cases e
        | nil =>
          cases e
          obtain ⟨ex, _⟩ := da
          obtain ⟨ey, _⟩ := db
          subst ex ey
          rw [contains_mem]
          exact ⟨op_in_sign pins s σ H _ _ v u _ I rx ry ⟨c, toS z, rfl, rfl, rfl, rfl⟩, op_notIn_sign pins s σ H _ _ v u _ I rx ry ⟨c, toS z, rfl, rfl, rfl, rfl⟩⟩
    | _ => cases e
  | dct t kvs =>
    replace e : (if a.keyOk t = true then R.ok (D.bl (look a kvs).isSome) else R.bad) = .ok (.bl k) := e
    split at e
    · rename_i hc
      cases e
      obtain ⟨p, o, ey, g, ho, _⟩ := dget_of db da hc
      subst ey
      cases (show u = .ref p from ry)
      rw [← ho]
      exact ⟨d_in (by omega) I g rx fun s3 I3 => ⟨.bl o.isSome, H, I3, rfl, rfl, rfl⟩, d_notIn (by omega) I g rx fun s3 I3 => ⟨.bl (!o.isSome), H, I3, rfl, rfl, rfl⟩⟩
    · cases e
  | _ => cases e
theorem o_in (hu : X.A.units + 65 < cLine) : Op2 X (compareOp .In) D.isin := by
  refine ⟨isin_noerr, fun pins s σ H O x y v u a b d I t rx ry da db e => ?_⟩
  obtain ⟨k, rfl⟩ := isin_bl _ _ _ e
  exact thn (in_all hu I rx ry da db e).1 fun w s1 ⟨z, H1, I1, r1, e1, e2⟩ => ⟨z, H1, I1, r1, e2 ▸ Same.refl _, e1⟩
theorem notin_isin {a b d : D} (h : D.notin a b = .ok d) : ∃ k, D.isin a b = .ok (.bl k) ∧ d = .bl (!k) := by
  unfold D.notin at h
  cases q : D.isin a b with
  | bad => rw [q] at h; cases h
  | err e => rw [q] at h; cases h
  | ok k =>
    rw [q, R.bind_ok] at h
    cases k with
    | bl b => cases h; exact ⟨b, rfl, rfl⟩
    | _ => cases h
theorem notin_noerr : ∀ a b e, D.notin a b ≠ .err e := fun a b e h => by
  unfold D.notin at h
  cases q : D.isin a b with
  | bad => rw [q] at h; cases h
  | err e => exact isin_noerr _ _ _ q
  | ok k =>
    rw [q, R.bind_ok] at h
    cases k <;> cases h
theorem o_notin (hu : X.A.units + 65 < cLine) : Op2 X (compareOp .NotIn) D.notin := by
  refine ⟨notin_noerr, fun pins s σ H O x y v u a b d I t rx ry da db e => ?_⟩
  obtain ⟨k, e', rfl⟩ := notin_isin e
  exact thn (in_all hu I rx ry da db e').2 fun w s1 ⟨z, H1, I1, r1, e1, e2⟩ => ⟨z, H1, I1, r1, e2 ▸ Same.refl _, e1⟩

/-! ### truth, tests -/
theorem truth_ok {pins : List (Addr × Obj)} {s : Shared} {σ : L2.St} {H : Hp} {O : Addr → Bool} {x : V} {v : Value} {a : D} {k : Bool} (I : L2.Inv X pins σ H s) (rx : RelV x v) (da : DR (gx X) (hid O H) a x) (e : a.truth = .ok k) :
    wpAny (model X.prog X.w) X.A (truthy v) (TP X pins σ (fun c H' => c = k ∧ H' = H)) X.xe s := by
  refine tru_ok pins s σ H x v _ I rx ⟨k, ?_, rfl, rfl⟩
  unfold D.truth at e
  split at e
  · cases e
    cases (show x = _ from da)
    rfl
  · cases e
    cases (show x = _ from da)
    rfl
  · cases e
    cases (show x = _ from da)
    rfl
  · rename_i z
    cases e
    obtain ⟨ex, hl, _⟩ := da
    subst ex
    refine ⟨by rw [str_len, ← L_line]; exact hl, ?_⟩
    rw [str_len]
    cases z with
    | nil => rfl
    | cons c z => simp <;> omega
  · rename_i ds
    cases e
    obtain ⟨p, vs, ex, hp, dv⟩ := da
    subst ex
    refine .inl ⟨vs, .inl (hid_le.rd _ _ hp), ?_⟩
    cases ds with
    | nil => cases (show vs = [] from dv); rfl
    | cons d ds => obtain ⟨_, _, ev, _⟩ := dv; rw [ev]; rfl
  · rename_i ds
    cases e
    obtain ⟨p, vs, ex, hp, dv⟩ := da
    subst ex
    refine .inr (.inl ⟨vs, SqT.of (hid_le.tup _ _ hp), ?_⟩)
    cases ds with
    | nil => cases (show vs = [] from dv); rfl
    | cons d ds => obtain ⟨_, _, ev, _⟩ := dv; rw [ev]; rfl
  · cases e
  · cases e
  · cases e
theorem truth_noerr : ∀ (a : D) e, a.truth ≠ .err e := fun a e h => by cases a <;> cases h
end
section
variable {X : Cx} {ρ : List Sl} {pos : Pos} {a b c : Expr} {ra rb rc : R D} {ta tb : R Bool} {rest : List Expr}
/-- behind a value: its truth -/
theorem tst_run {W : WX} {r : R D} {σ : L2.St} {H : Hp} {Q : Bool → Hp → Prop} (h : tT (gx X) W ρ (tst r) σ H Q) :
    tE (gx X) W ρ r σ H fun x H1 => ∃ O a k, DR (gx X) (hid O H1) a x ∧ a.truth = .ok k ∧ Q k H1 := by
  obtain ⟨bs, O, m, nb, kq, ke⟩ := h
  refine tE.bind (f := D.truth) m nb ke fun d e nb1 _ v H' s' m' dr => ?_
  cases q : d.truth with
  | bad => exact absurd q nb1
  | err e => exact absurd q (truth_noerr _ _)
  | ok k => exact ⟨_, d, k, dr, q, kq k (by unfold tst; rw [e, R.bind_ok, q]) H' s'⟩
/-- any expression but a comparison, and, or, not -/
theorem t_val {e : Expr} {r : R D} (h : EE X ρ e r) (he : ∀ whole, isTrue e X.env whole = (do let v ← whole; standAt e.pos; holding [v] (truthy v)) := by intro _; rfl) : ET X ρ e (tst r) := fun W tk =>
  ⟨fun pins s σ H Q I hw => isTrue_plain (thn ((h W tk).run pins s σ H _ I (tst_run hw)) fun v s1 ⟨x, H1, I1, r1, O, a, k, da, e, q⟩ =>
    thn (truth_ok I1 r1 da e) fun c s2 ⟨H2, I2, e1, e2⟩ => ⟨H1, e2 ▸ I2, e1 ▸ q⟩) (he _)⟩
theorem t_cmp {op : CmpOp} {g : D → D → R D} (o : Op2 X (compareOp op) g) (ha : EE X ρ a ra) (hb : EE X ρ b rb) (hm : behindInMarks op b = false := by rfl) : ET X ρ (.Compare a [op] [b] pos) (tst (ap2 g ra rb)) := fun W tk => by
  refine ⟨fun pins s σ H Q I hw => ?_⟩
  refine wpAny_isTrue_Compare1 ?_ hm
  have k := bin2 (ha W tk) (hb W tk) o.1 I (tst_run hw) (f := compareOp op) fun v u s2 x y H2 O da db d I2 t rx ry h1 h2 h3 k =>
    thn (o.2 pins s2 σ H2 O x y v u da db d I2 t rx ry h1 h2 h3) fun w s3 ⟨z, H3, I3, r3, s', q⟩ => ⟨z, H3, I3, r3, k z H3 s' q⟩
  refine thn k fun v s1 k1 => thn k1 fun u s2 k2 => thn k2 fun w s3 ⟨x, H1, I1, r1, O, a, k, da, e, q⟩ => ?_
  exact thn (truth_ok I1 r1 da e) fun c s2 ⟨H2, I2, e1, e2⟩ => ⟨H1, e2 ▸ I2, e1 ▸ q⟩
/-- the two ways of a test -/
theorem tT.iff {W : WX} {α : Type} {r : R Bool} {A B : R α} {b : Bs} {O : Addr → Bool} {σ : L2.St} {H : Hp} {Q : Bool → Hp → Prop} (m : Mt (gx X) b O ρ σ H) (nb : r.iff A B ≠ .bad) (er : ∀ e, r.iff A B = .err e → ErrOk (gx X) W b ρ e)
    (k : ∀ c, r = .ok c → (bif c then A else B) ≠ .bad → (∀ e, (bif c then A else B) = .err e → ErrOk (gx X) W b ρ e) → ∀ H', Same H H' → Mt (gx X) b O ρ σ H' → Q c H') : tT (gx X) W ρ r σ H Q := by
  refine ⟨b, O, m, fun e => nb (by rw [e]; rfl), fun d e H' s => ?_, fun x e => er x (by rw [e]; rfl)⟩
  subst e
  cases d with
  | true => exact k true rfl nb er H' s (m.same s)
  | false => exact k false rfl nb er H' s (m.same s)
theorem t_not (ha : ET X ρ a ta) : ET X ρ (.UnaryOp .Not a pos) (notB ta) := fun W tk => PT_imp (pt_not (ha W tk)) fun σ H Q ⟨b, O, m, nb, kq, ke⟩ =>
  tT.bind (f := fun c => .ok (!c)) m nb ke fun d e _ _ H' s' _ => kq (!d) (by unfold notB; rw [e]; rfl) H' s'
theorem w_and1 (ha : ET X ρ a ta) : EW X ρ (.BoolOp .And [a] pos) ta := fun W tk => pw_and1 (ha W tk)
theorem w_or1 (ha : ET X ρ a ta) : EW X ρ (.BoolOp .Or [a] pos) ta := fun W tk => pw_or1 (ha W tk)
theorem w_and (ha : ET X ρ a ta) (hb : EW X ρ (.BoolOp .And (b :: rest) pos) tb) : EW X ρ (.BoolOp .And (a :: b :: rest) pos) (andB ta tb) := fun W tk => PW_imp (pw_and (ha W tk) (hb W tk)) fun σ H Q ⟨bs, O, m, nb, kq, ke⟩ => by
  refine tT.iff (A := tb) (B := .ok false) m nb ke fun c e nb1 ke1 H' s' m' => ?_
  cases c with
  | true =>
    rw [if_pos rfl]
    exact ⟨bs, O, m', nb1, fun d e' H'' s'' => kq d (by unfold andB; rw [e]; exact e') H'' (s'.trans s''), ke1⟩
  | false =>
    rw [if_neg Bool.false_ne_true]
    exact kq false (by unfold andB; rw [e]; rfl) H' s'
theorem w_or (ha : ET X ρ a ta) (hb : EW X ρ (.BoolOp .Or (b :: rest) pos) tb) : EW X ρ (.BoolOp .Or (a :: b :: rest) pos) (orB ta tb) := fun W tk => PW_imp (pw_or (ha W tk) (hb W tk)) fun σ H Q ⟨bs, O, m, nb, kq, ke⟩ => by
  refine tT.iff (A := .ok true) (B := tb) m nb ke fun c e nb1 ke1 H' s' m' => ?_
  cases c with
  | true =>
    rw [if_pos rfl]
    exact kq true (by unfold orB; rw [e]; rfl) H' s'
  | false =>
    rw [if_neg Bool.false_ne_true]
    exact ⟨bs, O, m', nb1, fun d e' H'' s'' => kq d (by unfold orB; rw [e]; exact e') H'' (s'.trans s''), ke1⟩
theorem w_t {e : Expr} {r : R Bool} (h : EW X ρ e r) : ET X ρ e r := fun W tk => (h W tk).pt
/-- a if t else b -/
theorem e_if (hc : ET X ρ c ta) (ha : EE X ρ a ra) (hb : EE X ρ b rb) : EE X ρ (.IfExp c a b pos) (ta.iff ra rb) := fun W tk => PE_imp (pe_ifExp (hc W tk) (ha W tk) (hb W tk)) fun σ H Q ⟨bs, O, m, nb, kq, ke⟩ => by
  refine tT.iff (A := ra) (B := rb) m nb ke fun c e nb1 ke1 H' s' m' => ?_
  cases c with
  | true =>
    rw [if_pos rfl]
    exact ⟨bs, O, m', nb1, fun d e' v H'' s'' dr => kq d (by rw [e]; exact e') v H'' (s'.trans s'') dr, ke1⟩
  | false =>
    rw [if_neg Bool.false_ne_true]
    exact ⟨bs, O, m', nb1, fun d e' v H'' s'' dr => kq d (by rw [e]; exact e') v H'' (s'.trans s'') dr, ke1⟩
/-- and, or, not as values -/
theorem e_one {op : BoolOp} (h : EE X ρ a ra) : EE X ρ (.BoolOp op [a] pos) ra := fun W tk => pe_one (h W tk)
theorem e_and (ha : EE X ρ a ra) (hb : EE X ρ (.BoolOp .And (b :: rest) pos) rb) : EE X ρ (.BoolOp .And (a :: b :: rest) pos) (andV ra rb) := fun W tk => by
  refine ⟨fun pins s σ H Q I h => ?_⟩
  obtain ⟨bs, O, m, nb, kq, ke⟩ := h
  refine BoolOp_and (thn ((ha W tk).run pins s σ H (fun x H1 => ∃ da k, ra = .ok da ∧ da.truth = .ok k ∧ DR (gx X) (hid (orO O bs.O) H1) da x ∧ Same H H1 ∧ Mt (gx X) bs O ρ σ H1) I ?_) fun v s1 ⟨x, H1, I1, r1, da, k, e1, e2, dx, s', m1⟩ => ?_)
  · refine tE.bind (f := fun x => x.truth.iff rb (.ok x)) m nb ke fun d e nb1 _ v H' s' m' dr => ?_
    cases q : d.truth with
    | bad => rw [q] at nb1; exact absurd rfl nb1
    | err e => exact absurd q (truth_noerr _ _)
    | ok k => exact ⟨d, k, e, q, dr, s', m'⟩
  · refine thn (truth_ok I1 r1 dx e2) fun c s2 ⟨H2, I2, e3, e4⟩ => ?_
    subst e3
    subst e4
    subst e1
    cases c with
    | true =>
      have ev : andV (.ok da) rb = rb := by unfold andV; rw [R.bind_ok, e2]; rfl
      rw [ev] at nb kq ke
      exact (hb W tk).run pins s2 σ H2 Q I2 ⟨bs, O, m1, nb, fun d e' v H'' s'' dr => kq d e' v H'' (s'.trans s'') dr, ke⟩
    | false =>
      have ev : andV (.ok da) rb = .ok da := by unfold andV; rw [R.bind_ok, e2]; rfl
      exact ⟨x, H2, I2, r1, kq da ev x H2 s' dx⟩
theorem e_or (ha : EE X ρ a ra) (hb : EE X ρ (.BoolOp .Or (b :: rest) pos) rb) : EE X ρ (.BoolOp .Or (a :: b :: rest) pos) (orV ra rb) := fun W tk => by
  refine ⟨fun pins s σ H Q I h => ?_⟩
  obtain ⟨bs, O, m, nb, kq, ke⟩ := h
  refine BoolOp_or (thn ((ha W tk).run pins s σ H (fun x H1 => ∃ da k, ra = .ok da ∧ da.truth = .ok k ∧ DR (gx X) (hid (orO O bs.O) H1) da x ∧ Same H H1 ∧ Mt (gx X) bs O ρ σ H1) I ?_) fun v s1 ⟨x, H1, I1, r1, da, k, e1, e2, dx, s', m1⟩ => ?_)
  · refine tE.bind (f := fun x => x.truth.iff (.ok x) rb) m nb ke fun d e nb1 _ v H' s' m' dr => ?_
    cases q : d.truth with
    | bad => rw [q] at nb1; exact absurd rfl nb1
    | err e => exact absurd q (truth_noerr _ _)
    | ok k => exact ⟨d, k, e, q, dr, s', m'⟩
  · refine thn (truth_ok I1 r1 dx e2) fun c s2 ⟨H2, I2, e3, e4⟩ => ?_
    subst e3
    subst e4
    subst e1
    cases c with
    | false =>
      have ev : orV (.ok da) rb = rb := by unfold orV; rw [R.bind_ok, e2]; rfl
      rw [ev] at nb kq ke
      exact (hb W tk).run pins s2 σ H2 Q I2 ⟨bs, O, m1, nb, fun d e' v H'' s'' dr => kq d e' v H'' (s'.trans s'') dr, ke⟩
    | true =>
      have ev : orV (.ok da) rb = .ok da := by unfold orV; rw [R.bind_ok, e2]; rfl
      exact ⟨x, H2, I2, r1, kq da ev x H2 s' dx⟩
theorem e_not (ha : EE X ρ a ra) : EE X ρ (.UnaryOp .Not a pos) (notV ra) := fun W tk => by
  refine ⟨fun pins s σ H Q I h => ?_⟩
  obtain ⟨bs, O, m, nb, kq, ke⟩ := h
  refine UnaryOp_ (thn ((ha W tk).run pins s σ H (fun x H1 => ∃ da k, ra = .ok da ∧ da.truth = .ok k ∧ DR (gx X) (hid (orO O bs.O) H1) da x ∧ Same H H1) I ?_) fun v s1 ⟨x, H1, I1, r1, da, k, e1, e2, dx, s'⟩ => ?_)
  · refine tE.bind (f := fun x => x.truth.bind fun c => R.ok (D.bl (!c))) m nb ke fun d e nb1 _ v H' s' m' dr => ?_
    cases q : d.truth with
    | bad => rw [q] at nb1; exact absurd rfl nb1
    | err e => exact absurd q (truth_noerr _ _)
    | ok k => exact ⟨d, k, e, q, dr, s'⟩
  · refine not_of (thn (truth_ok I1 r1 dx e2) fun c s2 ⟨H2, I2, e3, e4⟩ => ?_)
    subst e3
    subst e4
    subst e1
    exact ⟨.bl (!c), H2, I2, rfl, kq (.bl (!c)) (by unfold notV; rw [R.bind_ok, e2]; rfl) _ H2 s' rfl⟩

/-! ### chains of comparisons -/
theorem e_chain2 {op op' : CmpOp} {f g : D → D → R D} (o : Op2 X (compareOp op) f) (o' : Op2 X (compareOp op') g) (of : ∀ a b d, f a b = .ok d → ∃ k, d = .bl k) (ha : EE X ρ a ra) (hb : EE X ρ b rb) (hc : EE X ρ c rc)
    (hm : lastMarks [op, op'] [b, c] = false := by with_unfolding_all rfl) : EE X ρ (.Compare a [op, op'] [b, c] pos) (chain2 f g ra rb rc) := fun W tk => PE_imp (pe_chain o.opR o'.opR (ha W tk) (hb W tk) (hc W tk) hm) fun σ H Q ⟨bs, O, m, nb, kq, ke⟩ => by
  refine tE.bind (f := fun x => rb.bind fun y => (f x y).bind fun k => k.truth.iff (rc.bind fun z => g y z) (.ok k)) m nb ke fun da ea nb1 ke1 x H1 s1 m1 dx => ?_
  refine tE.bind (f := fun y => (f da y).bind fun k => k.truth.iff (rc.bind fun z => g y z) (.ok k)) m1 nb1 ke1 fun db eb nb2 ke2 y H2 s2 m2 dy => ?_
  cases q : f da db with
  | bad => rw [q] at nb2; exact absurd rfl nb2
  | err e => exact absurd q (o.1 _ _ _)
  | ok k =>
    obtain ⟨k, rfl⟩ := of _ _ _ q
    rw [q] at nb2 ke2
    refine ⟨orO O bs.O, da, db, .bl k, m2.trk', dx.mono (hid_same s2), dy, q, fun z H3 s3 dz => ⟨k, dz, ?_⟩⟩
    have s13 := (s1.trans s2).trans s3
    have ev : chain2 f g ra rb rc = (R.ok k).iff (rc.bind fun z => g db z) (.ok (.bl k)) := by unfold chain2; rw [ea, R.bind_ok, eb, R.bind_ok, q]; rfl
    rw [ev] at kq
    cases k with
    | false =>
      rw [if_neg Bool.false_ne_true]
      exact kq _ rfl _ _ s13 rfl
    | true =>
      rw [if_pos rfl]
      have m3 := m2.same s3
      refine tE.bind (f := fun z => g db z) m3 nb2 ke2 fun dc ec nb4 ke4 z' H4 s4 m4 dz' => ?_
      cases q4 : g db dc with
      | bad => exact absurd q4 nb4
      | err e => exact absurd q4 (o'.1 _ _ _)
      | ok k4 => exact ⟨orO O bs.O, db, dc, k4, m4.trk', dy.mono (hid_same (s3.trans s4)), dz', q4, fun z5 H5 s5 d5 => kq k4 (by show (rc.bind fun z => g db z) = _; rw [ec]; exact q4) _ _ ((s13.trans s4).trans s5) d5⟩
theorem t_chain2 {op op' : CmpOp} {f g : D → D → R D} (o : Op2 X (compareOp op) f) (o' : Op2 X (compareOp op') g) (of : ∀ a b d, f a b = .ok d → ∃ k, d = .bl k) (og : ∀ a b d, g a b = .ok d → ∃ k, d = .bl k) (ha : EE X ρ a ra) (hb : EE X ρ b rb) (hc : EE X ρ c rc)
    (hm : lastMarks [op, op'] [b, c] = false := by with_unfolding_all rfl) : ET X ρ (.Compare a [op, op'] [b, c] pos) (tst (chain2 f g ra rb rc)) := fun W tk => PT_imp (pt_chain o.opR o'.opR (ha W tk) (hb W tk) (hc W tk) hm) fun σ H Q hw => by
  obtain ⟨bs, O, m, nb, kq, ke⟩ := tst_run hw
  refine tE.bind (f := fun x => rb.bind fun y => (f x y).bind fun k => k.truth.iff (rc.bind fun z => g y z) (.ok k)) m nb ke fun da ea nb1 ke1 x H1 s1 m1 dx => ?_
  refine tE.bind (f := fun y => (f da y).bind fun k => k.truth.iff (rc.bind fun z => g y z) (.ok k)) m1 nb1 ke1 fun db eb nb2 ke2 y H2 s2 m2 dy => ?_
  have fin : ∀ {d : D} {k : Bool} {H' : Hp}, chain2 f g ra rb rc = .ok d → d = .bl k → Same H H' → Q k H' := fun {d k H'} e ed s' => by
    subst ed
    obtain ⟨O', a', k', d', t', q'⟩ := kq _ e (.bl k) H' s' rfl
    cases a' with
    | bl b' => cases (show V.bl k = V.bl b' from d'); cases t'; exact q'
    | non => cases d'
    | int _ => cases d'
    | str _ => cases d'.1
    | lst _ => obtain ⟨_, _, z, _⟩ := d'; cases z
    | tup _ => obtain ⟨_, _, z, _⟩ := d'; cases z
    | dct _ _ => obtain ⟨_, z, _⟩ := d'; cases z
    | obj _ _ => obtain ⟨_, _, _, _, z, _⟩ := d'; cases z
    | scr _ => obtain ⟨_, z, _⟩ := d'; cases z
  cases q : f da db with
  | bad => rw [q] at nb2; exact absurd rfl nb2
  | err e => exact absurd q (o.1 _ _ _)
  | ok k =>
    obtain ⟨k, rfl⟩ := of _ _ _ q
    rw [q] at nb2 ke2
    refine ⟨orO O bs.O, da, db, .bl k, m2.trk', dx.mono (hid_same s2), dy, q, fun z H3 s3 dz => ⟨k, dz, ?_⟩⟩
    have s13 := (s1.trans s2).trans s3
    have ev : chain2 f g ra rb rc = (R.ok k).iff (rc.bind fun z => g db z) (.ok (.bl k)) := by unfold chain2; rw [ea, R.bind_ok, eb, R.bind_ok, q]; rfl
    cases k with
    | false =>
      rw [if_neg Bool.false_ne_true]
      exact ⟨false, rfl, fin ev rfl s13⟩
    | true =>
      rw [if_pos rfl]
      have m3 := m2.same s3
      refine tE.bind (f := fun z => g db z) m3 nb2 ke2 fun dc ec nb4 ke4 z' H4 s4 m4 dz' => ?_
      cases q4 : g db dc with
      | bad => exact absurd q4 nb4
      | err e => exact absurd q4 (o'.1 _ _ _)
      | ok k4 =>
        obtain ⟨k4, rfl⟩ := og _ _ _ q4
        exact ⟨orO O bs.O, db, dc, .bl k4, m4.trk', dy.mono (hid_same (s3.trans s4)), dz', q4, fun z5 H5 s5 d5 => ⟨k4, d5, fin (ev.trans (show (rc.bind fun z => g db z) = _ by rw [ec]; exact q4)) rfl ((s13.trans s4).trans s5)⟩⟩
theorem le_bl : ∀ a b d, D.le a b = .ok d → ∃ k, d = .bl k := fun a b d h => by
  unfold D.le at h
  split at h <;> cases h <;> exact ⟨_, rfl⟩
theorem lt_bl : ∀ a b d, D.lt a b = .ok d → ∃ k, d = .bl k := fun a b d h => by
  unfold D.lt at h
  split at h <;> cases h <;> exact ⟨_, rfl⟩
end
end Dl
/-! DlE: arguments, displays, calls of built-ins, places, slices, what is walked, comprehensions. -/
namespace Dl
open PySem PySem.Spec L2
open PyProof.Rows hiding St
set_option autoImplicit false

/-! ### arguments, displays -/
section
variable {X : Cx} {ρ : List Sl} {pos : Pos} {e : Expr} {es : List Expr} {r : R D} {rs : List (R D)}
theorem a_nil : EA X ρ [] (seqR []) := fun W tk => PA_imp pa_nil fun σ H Q ⟨b, O, m, _, k, _⟩ => k [] rfl [] H (Same.refl H) rfl
theorem a_cons (he : EE X ρ e r) (hr : EA X ρ es (seqR rs)) (hs : starEach (e :: es) X.env = (false, eval e X.env) :: starEach es X.env := by rfl) : EA X ρ (e :: es) (seqR (r :: rs)) := fun W tk =>
  PA_imp (pa_cons (he W tk) (hr W tk) hs) fun σ H Q ⟨b, O, m, nb, k, ke⟩ => by
    refine tE.bind (f := fun d => (seqR rs).bind fun ds => .ok (d :: ds)) m nb ke fun d ed nb1 ke1 v H1 s1 m1 dr => ?_
    refine tA.bind (f := fun ds => .ok (d :: ds)) m1 nb1 ke1 fun ds eds nb2 ke2 vs H2 s2 m2 drs => ?_
    exact k (d :: ds) (by show r.bind _ = _; rw [ed, R.bind_ok, eds, R.bind_ok]) (v :: vs) H2 (s1.trans s2) ⟨v, vs, rfl, dr.mono (hid_same s2), drs⟩
theorem mkL_ok {ds : List D} {d : D} (h : mkL ds = .ok d) : d = .lst ds ∧ ds.length ≤ L := by
  unfold mkL at h
  split at h
  · rename_i q; cases h; exact ⟨rfl, q⟩
  · cases h
theorem mkT_ok {ds : List D} {d : D} (h : mkT ds = .ok d) : d = .tup ds ∧ ds.length ≤ L := by
  unfold mkT at h
  split at h
  · rename_i q; cases h; exact ⟨rfl, q⟩
  · cases h
theorem e_lst (h : EA X ρ es (seqR rs)) : EE X ρ (.List es pos) (lstR rs) := fun W tk => PE_imp (pe_lst (h W tk)) fun σ H Q ⟨b, O, m, nb, k, ke⟩ => by
  refine tA.bind (f := mkL) m nb ke fun ds eds nb1 ke1 vs H1 s1 m1 drs => ?_
  cases q : mkL ds with
  | bad => exact absurd q nb1
  | err x => unfold mkL at q; split at q <;> cases q
  | ok d =>
    obtain ⟨rfl, hl⟩ := mkL_ok q
    refine ⟨by rw [drs.length, ← L_line]; exact hl, fun p hp => k _ (by show (seqR rs).bind mkL = _; rw [eds]; exact q) _ _ (s1.trans (same_upd hp)) (DR.newLst m1.trk' hp drs)⟩
theorem e_tup {n : Nat} (h : EA X ρ es (seqR rs)) : EE X ρ (.Tuple es n pos) (tupR rs) := fun W tk => PE_imp (pe_tup (h W tk)) fun σ H Q ⟨b, O, m, nb, k, ke⟩ => by
  refine tA.bind (f := mkT) m nb ke fun ds eds nb1 ke1 vs H1 s1 m1 drs => ?_
  cases q : mkT ds with
  | bad => exact absurd q nb1
  | err x => unfold mkT at q; split at q <;> cases q
  | ok d =>
    obtain ⟨rfl, hl⟩ := mkT_ok q
    refine ⟨by rw [drs.length, ← L_line]; exact hl, fun p hp => k _ (by show (seqR rs).bind mkT = _; rw [eds]; exact q) _ _ (s1.trans (same_upd hp)) (DR.newTup m1.trk' hp drs)⟩
end

/-! ### calls of built-ins with values -/
def CalD (X : Cx) (f : Value) (g : List D → R D) : Prop :=
  (∀ ds e, g ds ≠ .err e) ∧ ∀ (pins : List (Addr × Obj)) (s : Shared) (σ : L2.St) (H : Hp) (O : Addr → Bool) (vs : List V) (us : List Value) (ds : List D) (d : D), L2.Inv X pins σ H s → Trk O H → Vals vs us →
    DRs (gx X) (hid O H) ds vs → g ds = .ok d → wpAny (model X.prog X.w) X.A (call f us) (EQ X pins σ O H d) X.xe s
def rC (X : Cx) (g : List D → R D) : List V → Hp → VK → Prop := fun vs H Q => ∃ (O : Addr → Bool) (ds : List D) (d : D), Trk O H ∧ DRs (gx X) (hid O H) ds vs ∧ g ds = .ok d ∧ ∀ z H', Same H H' → DR (gx X) (hid O H') d z → Q z H'
section
variable {X : Cx} {ρ : List Sl} {p pos : Pos} {x : Str} {id T : String} {e : Expr} {es : List Expr} {r : R D} {rs : List (R D)} {g : List D → R D}
theorem CalD.callR {f : Value} (c : CalD X f g) : CallR X f (rC X g) := fun pins s σ H xs us Q I rs ⟨O, ds, d, t, dr, eq, k⟩ =>
  thn (c.2 pins s σ H O xs us ds d I t rs dr eq) fun w s3 ⟨z, H3, I3, r3, s', q⟩ => ⟨z, H3, I3, r3, k z H3 s' q⟩
theorem CalD.of {f : Value} {r : List V → Hp → VK → Prop} (h : CallR X f r) (ne : ∀ ds e, g ds ≠ .err e)
    (k : ∀ (H : Hp) (O : Addr → Bool) (vs : List V) (ds : List D) (d : D) (Q : VK), Trk O H → DRs (gx X) (hid O H) ds vs → g ds = .ok d → (∀ z H', Same H H' → DR (gx X) (hid O H') d z → Q z H') → r vs H Q) : CalD X f g :=
  ⟨ne, fun pins s σ H O vs us ds d I t r dr eq => h pins s σ H vs us _ I r (k H O vs ds d _ t dr eq fun z H' s' dz => ⟨s', dz⟩)⟩
theorem call_imp {W : WX} {f : Value} (c : CalD X f g) {σ : L2.St} {H : Hp} {Q : VK} (h : tE (gx X) W ρ (Dl.callR g rs) σ H Q) : tCB (rC X g) (tA (gx X) W ρ (seqR rs)) σ H Q := by
  obtain ⟨b, O, m, nb, k, ke⟩ := h
  refine tA.bind (f := g) m nb ke fun ds eds nb1 ke1 vs H1 s1 m1 drs => ?_
  cases q : g ds with
  | bad => exact absurd q nb1
  | err x => exact absurd q (c.1 _ _)
  | ok d => exact ⟨orO O b.O, ds, d, m1.trk', drs, q, fun z H' s' dz => k d (by show (seqR rs).bind g = _; rw [eds]; exact q) z H' (s1.trans s') dz⟩
theorem e_callB (c : CalD X (.builtin id) g) (hg : Gl X x) (hm : X.mg x = none) (hv : bootBuiltins x = some (.builtin id)) (ha : EA X ρ (e :: es) (seqR rs)) (hn : x ≠ "__name__" := by decide) (hdb : (x == ("__debug__" : Str)) = false := by decide)
    (he : starEach (e :: es) X.env = (false, eval e X.env) :: starEach es X.env := by rfl) (hpl : (backTo pos (starEach es X.env)).any (·.1) = false := by rfl) : EE X ρ (.Call (.Name x p) (e :: es) [] pos) (Dl.callR g rs) := fun W tk =>
  PE_imp (pe_callB c.callR hg hm hv (ha W tk) hn hdb he hpl) fun σ H Q h => call_imp c h
theorem e_callT (c : CalD X (.type T) g) (hg : Gl X x) (hm : X.mg x = none) (hv : bootBuiltins x = some (.type T)) (ha : EA X ρ (e :: es) (seqR rs)) (hn : x ≠ "__name__" := by decide) (hdb : (x == ("__debug__" : Str)) = false := by decide)
    (he : starEach (e :: es) X.env = (false, eval e X.env) :: starEach es X.env := by rfl) (hpl : (backTo pos (starEach es X.env)).any (·.1) = false := by rfl) : EE X ρ (.Call (.Name x p) (e :: es) [] pos) (Dl.callR g rs) := fun W tk =>
  PE_imp (pe_callTy c.callR hg hm hv (ha W tk) hn hdb he hpl) fun σ H Q h => call_imp c h
end
/-- the keys as items -/
theorem keyD_dr {G : Gx} {P : Hp} : ∀ {q : Key}, KeyV q → DR G P (keyD q) (kV q)
  | .inl i, _ => rfl
  | .inr x, h => ⟨by unfold toS; rfl, h⟩
theorem keysD_dr {G : Gx} {P : Hp} : ∀ {q : List Key}, (∀ k ∈ q, KeyV k) → DRs G P (q.map keyD) (q.map kV)
  | [], _ => rfl
  | k :: q, h => ⟨_, _, rfl, keyD_dr (h k List.mem_cons_self), keysD_dr fun k' hk => h k' (List.mem_cons_of_mem _ hk)⟩
theorem DRk.keys {G : Gx} {P : Hp} : ∀ {kvs : List (D × D)} {ws : List (Key × V)}, DRk G P kvs ws → DRs G P (kvs.map Prod.fst) (ws.map fun kv => kV kv.1)
  | [], ws, h => by cases (show ws = [] from h); rfl
  | (k, d) :: r, ws, h => by
    obtain ⟨⟨k', v⟩, t, e, ⟨⟨h1, h4⟩, h2⟩, h3⟩ := h
    subst e
    have h1 : k = keyD k' := h1
    subst h1
    exact ⟨_, _, rfl, keyD_dr h4, DRk.keys h3⟩
theorem DRt.keys {G : Gx} {O : Addr → Bool} {H : Hp} (t : Trk O H) : ∀ {kvs : List (D × D)} {ws : List (List Key × V)} {bs : List Addr}, DRt G (hid O H) kvs ws → IsKeys H ws bs → DRs G (hid O H) (kvs.map Prod.fst) (bs.map V.ref)
  | [], ws, bs, h, hk => by
    cases (show ws = [] from h)
    cases (show Paired _ [] bs from hk)
    rfl
  | (k, d) :: r, ws, bs, h, hk => by
    obtain ⟨⟨k', v⟩, t', e, ⟨⟨h1, h4⟩, h2⟩, h3⟩ := h
    subst e
    have h1 : k = .tup (k'.map keyD) := h1
    subst h1
    cases (show Paired _ ((k', v) :: t') bs from hk) with
    | cons h5 h6 => exact ⟨_, _, rfl, ⟨_, _, rfl, t.tup h5, keysD_dr h4⟩, DRt.keys t h3 h6⟩
section
variable {X : Cx}
theorem fn1_ok {f : D → R D} {ds : List D} {d : D} (h : fn1 f ds = .ok d) : ∃ a, ds = [a] ∧ f a = .ok d := by
  match ds, h with
  | [a], h => exact ⟨a, rfl, h⟩
theorem fn2_ok {f : D → D → R D} {ds : List D} {d : D} (h : fn2 f ds = .ok d) : ∃ a b, ds = [a, b] ∧ f a b = .ok d := by
  match ds, h with
  | [a, b], h => exact ⟨a, b, rfl, h⟩
theorem fn1_ne {f : D → R D} (h : ∀ a e, f a ≠ .err e) (ds : List D) (e : Er) : fn1 f ds ≠ .err e := fun q => by
  match ds, q with
  | [a], q => exact h a e q
theorem fn2_ne {f : D → D → R D} (h : ∀ a b e, f a b ≠ .err e) (ds : List D) (e : Er) : fn2 f ds ≠ .err e := fun q => by
  match ds, q with
  | [a, b], q => exact h a b e q
theorem DRs.of1 {G : Gx} {P : Hp} {a : D} {vs : List V} (h : DRs G P [a] vs) : ∃ v, vs = [v] ∧ DR G P a v := by
  obtain ⟨v, r, e, h1, h2⟩ := h
  cases (show r = [] from h2)
  exact ⟨v, e, h1⟩
theorem DRs.of2 {G : Gx} {P : Hp} {a b : D} {vs : List V} (h : DRs G P [a, b] vs) : ∃ v w, vs = [v, w] ∧ DR G P a v ∧ DR G P b w := by
  obtain ⟨v, r, e, h1, h2⟩ := h
  obtain ⟨w, e2, h3⟩ := DRs.of1 h2
  exact ⟨v, w, by rw [e, e2], h1, h3⟩
/-- one argument -/
theorem CalD.one {f : Value} {r : List V → Hp → VK → Prop} {g : D → R D} (h : CallR X f r) (ne : ∀ a e, g a ≠ .err e)
    (k : ∀ (H : Hp) (O : Addr → Bool) (v : V) (a d : D) (Q : VK), Trk O H → DR (gx X) (hid O H) a v → g a = .ok d → (∀ z H', Same H H' → DR (gx X) (hid O H') d z → Q z H') → r [v] H Q) : CalD X f (fn1 g) :=
  .of h (fn1_ne ne) fun H O vs ds d Q t dr e kq => by
    obtain ⟨a, rfl, e⟩ := fn1_ok e
    obtain ⟨v, rfl, dv⟩ := dr.of1
    exact k H O v a d Q t dv e kq
theorem CalD.two {f : Value} {r : List V → Hp → VK → Prop} {g : D → D → R D} (h : CallR X f r) (ne : ∀ a b e, g a b ≠ .err e)
    (k : ∀ (H : Hp) (O : Addr → Bool) (v w : V) (a b d : D) (Q : VK), Trk O H → DR (gx X) (hid O H) a v → DR (gx X) (hid O H) b w → g a b = .ok d → (∀ z H', Same H H' → DR (gx X) (hid O H') d z → Q z H') → r [v, w] H Q) : CalD X f (fn2 g) :=
  .of h (fn2_ne ne) fun H O vs ds d Q t dr e kq => by
    obtain ⟨a, b, rfl, e⟩ := fn2_ok e
    obtain ⟨v, w, rfl, dv, dw⟩ := dr.of2
    exact k H O v w a b d Q t dv dw e kq
theorem call_lenDD : CallR X (.builtin "len") (fun xs H Q => ∃ a, xs = [V.ref a] ∧ ((∃ kvs, Rd H a (.dK kvs) ∧ Q (.int kvs.length) H) ∨ ∃ kvs, Rd H a (.dT kvs) ∧ Q (.int kvs.length) H)) := by
  intro pins s σ H xs us Q I r h
  obtain ⟨p, rfl, h⟩ := h
  obtain ⟨u, rfl, rx⟩ := vals1 r
  obtain rfl : u = .ref p := rx
  rcases h with ⟨kvs, hp, q⟩ | ⟨kvs, hp, q⟩
  · obtain ⟨z, hd, vs, rel, dd⟩ := dk_rd I.hok hp
    have hl : kvs.length = vs.length := Paired.length rel
    refine call_len_dict hd dd (by rw [← hl]; rw [sizeLine_eq] at z; omega) ?_
    rw [← hl]
    exact ⟨.int ((kvs.length : Nat) : Int), H, I.tok _, ⟨_, rfl⟩, q⟩
  · obtain ⟨z, hd, ys, rel, dd⟩ := dt_rd I.hok hp
    have hl : kvs.length = ys.length := Paired.length rel
    refine call_len_dictH hd dd (by rw [← hl]; rw [sizeLine_eq] at z; omega) ?_
    rw [← hl]
    exact ⟨.int ((kvs.length : Nat) : Int), H, I.tok _, ⟨_, rfl⟩, q⟩
theorem c_len : CalD X (.builtin "len") (fn1 D.len) := by
  refine .one (CallR.or call_len_seq (CallR.or call_len_str call_lenDD)) (fun a e h => by unfold D.len at h; split at h <;> cases h) fun H O v a d Q t dv e k => ?_
  unfold D.len at e
  split at e
  · cases e
    obtain ⟨ex, hl, _⟩ := dv
    subst ex
    exact .inr (.inl ⟨_, rfl, by rw [str_len, ← L_line]; exact hl, k _ _ (Same.refl H) (by rw [str_len]; rfl)⟩)
  · cases e
    obtain ⟨p, vs, ex, hp, dvs⟩ := dv
    subst ex
    exact .inl ⟨p, vs, rfl, .inl (.inl (hid_le.rd _ _ hp)), k _ _ (Same.refl H) (by rw [dvs.length]; rfl)⟩
  · cases e
    obtain ⟨p, vs, ex, hp, dvs⟩ := dv
    subst ex
    exact .inl ⟨p, vs, rfl, .inr (SqT.of (hid_le.tup _ _ hp)), k _ _ (Same.refl H) (by rw [dvs.length]; rfl)⟩
  · cases e
    obtain ⟨p, ex, h⟩ := dv
    subst ex
    rcases h with ⟨_, ws, h1, h2⟩ | ⟨_, ws, h1, h2⟩
    · exact .inr (.inr ⟨p, rfl, .inl ⟨ws, hid_le.rd _ _ h1, k _ _ (Same.refl H) (by rw [h2.length]; rfl)⟩⟩)
    · exact .inr (.inr ⟨p, rfl, .inr ⟨ws, hid_le.rd _ _ h1, k _ _ (Same.refl H) (by rw [h2.length]; rfl)⟩⟩)
  · cases e
    obtain ⟨p, ex, hp⟩ := dv
    subst ex
    exact .inl ⟨p, _, rfl, .inl (hp.elim (fun q => .inl (hid_le.rd _ _ q)) .inr), k _ _ (Same.refl H) (by rw [List.length_map]; rfl)⟩
  · cases e
theorem bools_of {G : Gx} {P : Hp} : ∀ {ds : List D} {vs : List V} {bs : List Bool}, DRs G P ds vs → bools? ds = some bs → vs = bs.map V.bl
  | [], vs, bs, h, e => by cases (show vs = [] from h); cases e; rfl
  | d :: ds, vs, bs, h, e => by
    obtain ⟨v, r, ev, h1, h2⟩ := h
    unfold bools? at e
    split at e
    · rename_i b
      cases q : bools? ds with
      | none => rw [q] at e; cases e
      | some bs' =>
        rw [q] at e
        cases e
        cases (show v = _ from h1)
        rw [ev, bools_of h2 q]
        rfl
    · cases e
theorem c_all (hc : X.calm = true) : CalD X (.builtin "all") (fn1 D.all) := by
  refine .one (cr_all hc) (fun a e h => by unfold D.all at h; split at h <;> (try (cases q : bools? _ <;> rw [q] at h)) <;> cases h) fun H O v a d Q t dv e k => ?_
  unfold D.all at e
  split at e
  · rename_i ds
    cases q : bools? ds with
    | none => rw [q] at e; cases e
    | some bs =>
      rw [q] at e
      cases e
      obtain ⟨p, vs, ex, hp, dvs⟩ := dv
      subst ex
      refine ⟨p, bs, rfl, ?_, k _ _ (Same.refl H) rfl⟩
      rw [← bools_of dvs q]
      exact .inl (hid_le.rd _ _ hp)
  · cases e
theorem c_any (hc : X.calm = true) : CalD X (.builtin "any") (fn1 D.any) := by
  refine .one (cr_any hc) (fun a e h => by unfold D.any at h; split at h <;> (try (cases q : bools? _ <;> rw [q] at h)) <;> cases h) fun H O v a d Q t dv e k => ?_
  unfold D.any at e
  split at e
  · rename_i ds
    cases q : bools? ds with
    | none => rw [q] at e; cases e
    | some bs =>
      rw [q] at e
      cases e
      obtain ⟨p, vs, ex, hp, dvs⟩ := dv
      subst ex
      refine ⟨p, bs, rfl, ?_, k _ _ (Same.refl H) rfl⟩
      rw [← bools_of dvs q]
      exact .inl (hid_le.rd _ _ hp)
  · cases e
theorem c_int : CalD X (.type "int") (fn1 D.toInt) := by
  refine .one call_int1 (fun a e h => by unfold D.toInt at h; split at h <;> cases h) fun H O v a d Q t dv e k => ?_
  unfold D.toInt at e
  split at e
  · cases e
    cases (show v = _ from dv)
    exact .inl ⟨_, rfl, k _ _ (Same.refl H) rfl⟩
  · rename_i b
    cases e
    cases (show v = _ from dv)
    exact .inr ⟨_, rfl, k _ _ (Same.refl H) (by cases b <;> rfl)⟩
  · cases e
theorem c_list (hc : X.calm = true) : CalD X (.type "list") (fn1 D.toList) := by
  refine .one (CallR.or call_list_of (CallR.or (call_listD hc) (call_list_dT hc))) (fun a e h => by unfold D.toList at h; split at h <;> cases h) fun H O v a d Q t dv e k => ?_
  unfold D.toList at e
  split at e
  · cases e
    obtain ⟨p, vs, ex, hp, dvs⟩ := dv
    subst ex
    exact .inl ⟨p, vs, rfl, .inl (.inl (hid_le.rd _ _ hp)), fun l hl => k _ _ (same_upd hl) (DR.newLst t hl dvs)⟩
  · cases e
    obtain ⟨p, vs, ex, hp, dvs⟩ := dv
    subst ex
    exact .inl ⟨p, vs, rfl, .inr (SqT.of (hid_le.tup _ _ hp)), fun l hl => k _ _ (same_upd hl) (DR.newLst t hl dvs)⟩
  · cases e
    obtain ⟨p, ex, h⟩ := dv
    subst ex
    rcases h with ⟨_, ws, h1, h2⟩ | ⟨_, ws, h1, h2⟩
    · exact .inr (.inl ⟨p, ws, rfl, hid_le.rd _ _ h1, fun l hl => k _ _ (same_upd hl) (DR.newLst t hl (DRk.keys h2))⟩)
    · exact .inr (.inr ⟨p, ws, rfl, hid_le.rd _ _ h1, fun l bs hl hk => k _ _ (same_upd hl) (DR.newLst t hl (DRt.keys t h2 hk))⟩)
  · cases e
theorem c_tuple : CalD X (.type "tuple") (fn1 D.toTuple) := by
  refine .one call_tuple_of (fun a e h => by unfold D.toTuple at h; split at h <;> cases h) fun H O v a d Q t dv e k => ?_
  unfold D.toTuple at e
  split at e
  · cases e
    obtain ⟨p, vs, ex, hp, dvs⟩ := dv
    subst ex
    exact ⟨p, vs, rfl, .inl ⟨.inl (hid_le.rd _ _ hp), fun l hl => k _ _ (same_upd hl) (DR.newTup t hl dvs)⟩⟩
  · cases e
    obtain ⟨p, vs, ex, hp, dvs⟩ := dv
    subst ex
    exact ⟨p, vs, rfl, .inr ⟨SqT.of (hid_le.tup _ _ hp), k _ _ (Same.refl H) ⟨p, vs, rfl, hp, dvs⟩⟩⟩
  · cases e
theorem c_abs : CalD X (.builtin "abs") (fn1 D.abs) := by
  refine .one call_abs (fun a e h => by unfold D.abs at h; split at h <;> cases h) fun H O v a d Q t dv e k => ?_
  unfold D.abs at e
  split at e
  · cases e
    cases (show v = _ from dv)
    exact ⟨_, rfl, k _ _ (Same.refl H) rfl⟩
  · cases e
theorem c_max2 (hc : X.calm = true) : CalD X (.builtin "max") (fn2 D.max2) := by
  refine .two (call_max2 hc) (fun a b e h => by unfold D.max2 at h; split at h <;> cases h) fun H O v w a b d Q t dv dw e k => ?_
  unfold D.max2 at e
  split at e
  · cases e
    cases (show v = _ from dv); cases (show w = _ from dw)
    exact ⟨_, _, rfl, k _ _ (Same.refl H) rfl⟩
  · cases e
theorem c_min2 (hc : X.calm = true) : CalD X (.builtin "min") (fn2 D.min2) := by
  refine .two (call_min2 hc) (fun a b e h => by unfold D.min2 at h; split at h <;> cases h) fun H O v w a b d Q t dv dw e k => ?_
  unfold D.min2 at e
  split at e
  · cases e
    cases (show v = _ from dv); cases (show w = _ from dw)
    exact ⟨_, _, rfl, k _ _ (Same.refl H) rfl⟩
  · cases e
end

/-! ### places -/
section
variable {X : Cx} {ρ : List Sl} {pos p2 : Pos} {a b : Expr} {ra rb : R D}
theorem ix_eq {n : Nat} {i : Int} : Dl.ixN n i = L2.ixN n i := rfl
theorem at_get {G : Gx} {P : Hp} {ds : List D} {vs : List V} {i : Int} {d : D} (h : DRs G P ds vs) (e : Dl.atI ds i = some d) : ∃ v, L2.atI vs i = some v ∧ DR G P d v := by
  unfold Dl.atI at e
  unfold L2.atI
  rw [h.length]
  rw [ix_eq] at e
  cases q : L2.ixN ds.length i with
  | none => rw [q] at e; cases e
  | some k => rw [q] at e; exact h.get e
theorem idx_noerr : ∀ a b e, D.idx a b ≠ .err e := fun a b e h => by
  have k : ∀ {α : Type} (o : Option α) (e : Er), R.some? o ≠ .err e := fun o e q => by cases o <;> cases q
  unfold D.idx at h
  split at h <;> (try split at h) <;> first | exact k _ _ h | cases h
theorem some?_ok {α : Type} {o : Option α} {a : α} (h : R.some? o = .ok a) : o = some a := by
  cases o with
  | none => cases h
  | some b => cases h; rfl
/-- a value at a place, a dict's value by a key -/
theorem e_idx (hu : X.A.units + 65 < cLine) (ha : EE X ρ a ra) (hb : EE X ρ b rb) (hs : PlainIx b := by exact fun _ _ => rfl) : EE X ρ (.Subscript a b pos) (ap2 D.idx ra rb) := fun W tk => by
  refine ⟨fun pins s σ H Q I h => ?_⟩
  refine Subscript_ (bin2 (ha W tk) (hb W tk) idx_noerr I h (f := subscriptTail a b) fun v u s2 x y H2 O da db d I2 t rx ry h1 h2 h3 k => ?_)
  unfold D.idx at h3
  cases da with
  | lst ds =>
    cases db with
    | int i =>
      obtain ⟨p, vs, ex, hp, dvs⟩ := h1
      cases (show y = _ from h2)
      subst ex
      obtain ⟨z, ez, dz⟩ := at_get dvs (some?_ok h3)
      exact ix_list a b pins s2 σ H2 _ _ v u Q I2 rx ry ⟨p, vs, i, z, rfl, rfl, .inl (hid_le.rd _ _ hp), ez, k z H2 (Same.refl _) dz⟩ (hs _ _)
    | _ => cases h3
  | tup ds =>
    cases db with
    | int i =>
      obtain ⟨p, vs, ex, hp, dvs⟩ := h1
      cases (show y = _ from h2)
      subst ex
      obtain ⟨z, ez, dz⟩ := at_get dvs (some?_ok h3)
      exact ix_tup a b pins s2 σ H2 _ _ v u Q I2 rx ry ⟨p, vs, i, z, rfl, rfl, SqT.of (hid_le.tup _ _ hp), ez, k z H2 (Same.refl _) dz⟩ (hs _ _)
    | _ => cases h3
  | str z =>
    cases db with
    | int i =>
      obtain ⟨ex, hl, hc⟩ := h1
      cases (show y = _ from h2)
      subst ex
      have e := some?_ok h3
      cases q : Dl.atI z i with
      | none => rw [q] at e; cases e
      | some c =>
        rw [q] at e
        cases e
        refine ix_str a b pins s2 σ H2 _ _ v u Q I2 rx ry ⟨toS z, i, c, rfl, rfl, by rw [str_len, ← L_line]; exact hl, ?_, k _ H2 (Same.refl _) ⟨rfl, by rw [L_eq]; exact (by decide : 1 ≤ 16777216), fun c' hc' => ?_⟩⟩ (hs _ _)
        · unfold L2.atI
          unfold Dl.atI at q
          rw [show (toS z).cps.toList = z from rfl]
          rw [ix_eq] at q
          cases qq : L2.ixN z.length i with
          | none => rw [qq] at q; cases q
          | some k => rw [qq] at q; exact q
        · have e1 : c' = c := by simpa using hc'
          subst e1
          unfold Dl.atI at q
          split at q
          · exact hc _ (List.mem_of_getElem? q)
          · cases q
    | _ => cases h3
  | dct t' kvs =>
    replace h3 : (if db.keyOk t' = true then R.some? (look db kvs) else R.bad) = .ok d := h3
    split at h3
    · rename_i hk
      obtain ⟨p, o, ex, g, _, ho⟩ := dget_of h1 h2 hk
      obtain ⟨z, ez, dz⟩ := ho d (some?_ok h3)
      subst ex
      subst ez
      cases (show v = .ref p from rx)
      exact tail_any (ops := [Value.ref p, u]) (dict_typeIs I2 g) PySem.F.slot_dict_getitem.lookup (d_getItem (by omega) I2 g ry fun w' s3 I3 rw' => ⟨z, H2, I3, rw', k z H2 (Same.refl _) dz⟩) (hs _ _)
    · cases h3
  | scr ns =>
    cases db with
    | int i =>
      obtain ⟨p, ex, hp⟩ := h1
      cases (show y = _ from h2)
      subst ex
      have e := some?_ok h3
      cases q : Dl.atI ns i with
      | none => rw [q] at e; cases e
      | some n =>
        rw [q] at e
        cases e
        have hl : (ns.map V.int).length = ns.length := by simp
        have ez : L2.atI (ns.map V.int) i = some (V.int n) := by
          unfold Dl.atI at q
          unfold L2.atI
          rw [hl, ← ix_eq]
          cases qq : Dl.ixN ns.length i with
          | none => rw [qq] at q; cases q
          | some k => rw [qq] at q; show (ns.map V.int)[k]? = _; rw [List.getElem?_map]; replace q : ns[k]? = some n := q; rw [q]; rfl
        exact ix_list a b pins s2 σ H2 _ _ v u Q I2 rx ry ⟨p, ns.map V.int, i, V.int n, rfl, rfl, hp.elim (fun q => .inl (hid_le.rd _ _ q)) .inr, ez, k _ H2 (Same.refl _) rfl⟩ (hs _ _)
    | _ => cases h3
  | _ => cases h3

/-! ### slices -/
theorem sIx_eq {n d : Nat} {o : Option Int} : Dl.sIx n d o = HT.sIx n d o := by cases o <;> rfl
theorem slc_cut {G : Gx} {P : Hp} {ds : List D} {vs : List V} {lo hi : Option Int} (h : DRs G P ds vs) : DRs G P (slc lo hi ds) (cutV vs lo hi) := by
  unfold slc cutV
  rw [h.length, sIx_eq, sIx_eq]
  exact (h.drop _).take _
theorem slc_whole {ds : List D} {lo hi : Option Int} (h : HT.sIx ds.length 0 lo = 0 ∧ HT.sIx ds.length ds.length hi = ds.length) : slc lo hi ds = ds := by
  unfold slc
  rw [sIx_eq, sIx_eq, h.1, h.2, List.drop_zero, Nat.sub_zero, List.take_length]
theorem slc_str {s : List Nat} {lo hi : Option Int} : cutS (toS s) lo hi = toS (slc lo hi s) := by
  unfold cutS slc
  rw [show (toS s).cps.toList = s from rfl, str_len, sIx_eq, sIx_eq]
theorem slc_mem {α : Type} {xs : List α} {lo hi : Option Int} {c : α} (h : c ∈ slc lo hi xs) : c ∈ xs := by
  unfold slc at h
  exact List.mem_of_mem_drop (List.mem_of_mem_take h)
theorem slc_len {α : Type} {xs : List α} {lo hi : Option Int} : (slc lo hi xs).length ≤ xs.length := by
  unfold slc
  rw [List.length_take, List.length_drop]
  omega
/-- a part of a slice -/
def EO (X : Cx) (ρ : List Sl) (e : Option Expr) (r : Option (R D)) : Prop := match e, r with
  | none, none => True
  | some e, some r => EE X ρ e r
  | _, _ => False
theorem eo_none : EO X ρ none none := trivial
theorem eo_some {e : Expr} {r : R D} (h : EE X ρ e r) : EO X ρ (some e) (some r) := h
theorem optI_some {o : Option D} {i : Option Int} (h : optI o = some i) : o = i.map D.int := by
  cases o with
  | none => cases h; rfl
  | some d => cases d <;> first | (cases h; rfl) | cases h
theorem slice_noerr (x : D) (lo hi : Option D) (e : Er) : D.slice x lo hi ≠ .err e := fun h => by
  unfold D.slice at h
  split at h
  · split at h <;> cases h
  · cases h
theorem optR_noerr {r : Option (R D)} {e : Er} : optR r ≠ .err e := fun h => by
  cases r with
  | none => cases h
  | some r => cases r <;> cases h
/-- the reading of a part -/
def tO (G : Gx) (W : WX) (ρ : List Sl) (r : Option (R D)) : TO := fun σ H Q => ∃ b O, Mt G b O ρ σ H ∧ ∃ o i, optR r = .ok o ∧ optI o = some i ∧ ∀ H', Same H H' → Q i H'
theorem po_of {X : Cx} {ρ : List Sl} {W : WX} {lo : Option Expr} {r : Option (R D)} (h : EO X ρ lo r) (tk : Takes X W) : PO X lo (tO (gx X) W ρ r) := by
  cases lo with
  | none =>
    cases r with
    | none => exact ⟨fun pins s σ H Q I ⟨b, O, m, o, i, e1, e2, k⟩ => by
        cases e1
        cases e2
        exact po_none.run pins s σ H Q I (k H (Same.refl _))⟩
    | some r => exact h.elim
  | some e =>
    cases r with
    | none => exact h.elim
    | some r =>
      refine ⟨fun pins s σ H Q I ⟨b, O, m, o, i, e1, e2, k⟩ => (po_some (h W tk)).run pins s σ H Q I ?_⟩
      cases r with
      | bad => cases e1
      | err x => cases e1
      | ok d =>
        cases e1
        refine ⟨b, O, m, fun z => (nomatch z), fun d' e' v H' s' dr => ?_, fun x z => (nomatch z)⟩
        cases e'
        cases d with
        | int j =>
          cases e2
          cases (show v = _ from dr)
          exact ⟨j, rfl, k H' s'⟩
        | _ => cases e2
theorem e_slice {lo hi : Option Expr} {rl rh : Option (R D)} (ha : EE X ρ a ra) (hl : EO X ρ lo rl) (hh : EO X ρ hi rh) : EE X ρ (.Subscript a (.Slice lo hi none p2) pos) (sliceR ra rl rh) := fun W tk => by
  refine PE_imp (pe_slice (SlR.or sl_list (SlR.or sl_tupA sl_str)) (ha W tk) (po_of hl tk) (po_of hh tk)) fun σ H Q ⟨bs, O, m, nb, kq, ke⟩ => ?_
  refine tE.bind (f := fun d => (optR rl).bind fun a => (optR rh).bind fun b => d.slice a b) m nb ke fun d ed nb1 ke1 v H1 s1 m1 dr => ?_
  cases ql : optR rl with
  | bad => rw [ql] at nb1; exact absurd rfl nb1
  | err x => exact absurd ql optR_noerr
  | ok ol =>
    cases qh : optR rh with
    | bad => rw [ql, qh] at nb1; exact absurd rfl nb1
    | err x => exact absurd qh optR_noerr
    | ok oh =>
      rw [ql, R.bind_ok, qh, R.bind_ok] at nb1
      have kq' : ∀ z, d.slice ol oh = .ok z → ∀ v H', Same H H' → DR (gx X) (hid (orO O bs.O) H') z v → Q v H' := fun z e => kq z (by show (ra.bind fun d => (optR rl).bind fun a => (optR rh).bind fun b => d.slice a b) = _; rw [ed, R.bind_ok, ql, R.bind_ok, qh, R.bind_ok]; exact e)
      unfold D.slice at nb1 kq'
      cases q1 : optI ol with
      | none => rw [q1] at nb1; exact absurd rfl nb1
      | some i =>
        cases q2 : optI oh with
        | none => rw [q1, q2] at nb1; exact absurd rfl nb1
        | some j =>
          rw [q1, q2] at nb1 kq'
          refine ⟨bs, O, m1, ol, i, by first | exact ql | rfl, q1, fun H2 s2 => ⟨bs, O, m1.same s2, oh, j, by first | exact qh | rfl, q2, fun H3 s3 => ?_⟩⟩
          have s13 := (s1.trans s2).trans s3
          have dr3 := dr.mono (hid_same (O := orO O bs.O) (s2.trans s3))
          have m3 := (m1.same s2).same s3
          cases d with
          | lst ds =>
            obtain ⟨p, vs, ex, hp, dvs⟩ := dr3
            exact .inl ⟨p, vs, ex, .inl (hid_le.rd _ _ hp), fun l hl => kq' _ rfl _ _ (s13.trans (same_upd hl)) (DR.newLst m3.trk' hl (slc_cut dvs))⟩
          | tup ds =>
            obtain ⟨p, vs, ex, hp, dvs⟩ := dr3
            refine .inr (.inl ⟨p, vs, ex, SqT.of (hid_le.tup _ _ hp), fun hw => ?_, fun hw l hl => kq' _ rfl _ _ (s13.trans (same_upd hl)) (DR.newTup m3.trk' hl (slc_cut dvs))⟩)
            rw [dvs.length] at hw
            exact kq' _ rfl _ _ s13 (by rw [slc_whole hw]; exact ⟨p, vs, rfl, hp, dvs⟩)
          | str z =>
            obtain ⟨ex, hl, hc⟩ := dr3
            exact .inr (.inr ⟨toS z, ex, by rw [str_len, ← L_line]; exact hl, kq' _ rfl _ _ s13 (by rw [slc_str]; exact ⟨rfl, Nat.le_trans slc_len hl, fun c h => hc c (slc_mem h)⟩)⟩)
          | _ => exact absurd rfl nb1
end
end Dl
/-! DlF: calls of defs, what is walked, comprehensions. -/
namespace Dl
open PySem PySem.Spec L2
open PyProof.Rows hiding St
set_option autoImplicit false

/-! ### a def's promise -/
def SpF (G : Gx) (f : List D → R D) : Sp := fun vs H Q E => ∃ ds O, Trk O H ∧ DRs G (hid O H) ds vs ∧ f ds ≠ .bad ∧ (∀ d, f ds = .ok d → ∀ v H', Same H H' → DR G (hid O H') d v → Q v H') ∧
  ∀ er, f ds = .err er → ∀ c dd H', Same H H' → ErR G (hid O H') er c dd → E c dd H'
section
variable {X : Cx} {ρ : List Sl} {p pos : Pos} {x : Str} {e : Expr} {es : List Expr} {rs : List (R D)} {g : List D → R D} {k : Nat} {f : Addr} {fd : FuncData} {ps : List Str}
theorem call_read {W : WX} {ρ : List Sl} {σ : L2.St} {H : Hp} {Q : VK} (h : tE (gx X) W ρ (Dl.callR g rs) σ H Q) : tCallS (SpF (gx X) g) (WE W) (tA (gx X) W ρ (seqR rs)) σ H Q := by
  obtain ⟨b, O, m, nb, kq, ke⟩ := h
  refine tA.bind (f := g) m nb ke fun ds eds nb1 ke1 vs H1 s1 m1 drs => ?_
  refine ⟨ds, orO O b.O, m1.trk', drs, nb1, fun d ed v H' s' dr => kq d (by show (seqR rs).bind g = _; rw [eds]; exact ed) v H' (s1.trans s') dr, fun er ee c dd H' s' er' => ?_⟩
  exact ke1 er ee c dd σ H' O (m1.same s') er'
theorem e_call (F : FnOk X.prog X.w X.K X.mg X.base (L2.CX X.prog X.w) k f fd ps (SpF (gx X) g)) (hr : Room k X.A) (hg : Gl X x) (hm : X.mg x = some (.ref f)) (hk : PySem.W.keepIn X.K (.ref f) = true) (hb : Binds X.K fd ps []) (ha : EA X ρ (e :: es) (seqR rs))
    (hdb : (x == ("__debug__" : Str)) = false := by decide) (he : starEach (e :: es) X.env = (false, eval e X.env) :: starEach es X.env := by rfl) (hpl : (backTo pos (starEach es X.env)).any (·.1) = false := by rfl) :
    EE X ρ (.Call (.Name x p) (e :: es) [] pos) (Dl.callR g rs) := fun W tk =>
  PE_imp (pe_callS F hr hg hm hk hb (fun σ => passAt tk σ) (ha W tk) hdb he hpl) fun σ H Q h => call_read h
end

/-! ### what is walked -/
/-- a walk over the items ds that are to be read in P -/
def WalkD (G : Gx) (P : Hp) (J : It) (ds : List D) : Prop := ∃ Y, Walk J ds.length (fun H => Le P H) Y ∧ ∀ i H x H', i < ds.length → Le P H → Y i H x H' →
  Same H H' ∧ ∃ d, ds[i]? = some d ∧ ∀ O2, Trk O2 H → Le P (hid O2 H) → DR G (hid O2 H') d x
def tI (G : Gx) (W : WX) (ρ : List Sl) (r : R (List D)) : TI := fun σ H Rr => ∃ b O, Mt G b O ρ σ H ∧ r ≠ .bad ∧ (∀ ds, r = .ok ds → ∀ J H1, Same H H1 → ds.length ≤ L → WalkD G (hid (orO O b.O) H1) J ds → Rr J H1) ∧ ∀ er, r = .err er → ErrOk G W b ρ er
def EI (X : Cx) (ρ : List Sl) (tg e : Expr) (r : R (List D)) : Prop := ∀ W, Takes X W → PI X tg e (tI (gx X) W ρ r)
theorem PI_imp {X : Cx} {tg e : Expr} {t t' : TI} (h : PI X tg e t) (k : ∀ σ H Q, t' σ H Q → t σ H Q) : PI X tg e t' := ⟨fun pins s σ H Q I q => h.run pins s σ H Q I (k _ _ _ q)⟩
section
variable {G : Gx} {P : Hp}
theorem walkD_list {K : PySem.W.Frag} {a : Addr} {vs : List V} {ds : List D} (h : Rd P a (.lst vs)) (r : DRs G P ds vs) : WalkD G P (Itl K a) ds := by
  refine ⟨YAt vs, ?_, fun i H x H' hi l y => ?_⟩
  · have w : Walk (Itl K a) vs.length (fun H => SqL K H a vs) (YAt vs) := walk_list
    rw [r.length] at w
    exact w.mono (fun H l => .inl (l.rd _ _ h)) fun i H x H' _ _ y => y
  · obtain ⟨rfl, e⟩ := y
    obtain ⟨d, e', dr⟩ := r.get' e
    exact ⟨Same.refl _, d, e', fun O2 _ l2 => dr.mono l2⟩
theorem walkD_tup {K : PySem.W.Frag} {a : Addr} {vs : List V} {ds : List D} (h : P a = some (.tup vs)) (r : DRs G P ds vs) : WalkD G P (Itt K a) ds := by
  refine ⟨YAt vs, ?_, fun i H x H' hi l y => ?_⟩
  · have w : Walk (Itt K a) vs.length (fun H => SqT K H a vs) (YAt vs) := walk_tup
    rw [r.length] at w
    exact w.mono (fun H l => SqT.of (l.tup _ _ h)) fun i H x H' _ _ y => y
  · obtain ⟨rfl, e⟩ := y
    obtain ⟨d, e', dr⟩ := r.get' e
    exact ⟨Same.refl _, d, e', fun O2 _ l2 => dr.mono l2⟩
theorem walkD_str {s : List Nat} (hs : ∀ c ∈ s, c < 1114112) : WalkD G P (Its (toS s)) (s.map fun c => D.str [c]) := by
  refine ⟨fun i H v H' => H' = H ∧ ∃ c, (toS s).cps[i]? = some c ∧ v = .str ⟨#[c]⟩, ?_, fun i H x H' hi l y => ?_⟩
  · have w := walk_str (z := toS s)
    rw [show (toS s).cps.size = (s.map fun c => D.str [c]).length by simp [toS]] at w
    exact w.mono (fun _ _ => trivial) fun i H x H' _ _ y => y
  · obtain ⟨rfl, c, e, rfl⟩ := y
    have e' : s[i]? = some c := by simpa [toS] using e
    refine ⟨Same.refl _, .str [c], by rw [List.getElem?_map, e']; rfl, fun O2 _ _ => ⟨rfl, by rw [L_eq]; exact (by decide : 1 ≤ 16777216), fun c' hc => ?_⟩⟩
    have : c' = c := by simpa using hc
    subst this
    exact hs _ (List.mem_of_getElem? e')
theorem walkD_range {lo : Int} {n : Nat} : WalkD G P (Itr lo n) ((List.range n).map fun (k : Nat) => D.int (lo + (k : Int))) := by
  refine ⟨YFn fun i => .int (lo + (i : Nat)), ?_, fun i H x H' hi l y => ?_⟩
  · have w := walk_range (lo := lo) (n := n)
    rw [show n = ((List.range n).map fun (k : Nat) => D.int (lo + (k : Int))).length by simp] at w
    simp only [List.length_map, List.length_range] at w ⊢
    exact w.mono (fun _ _ => trivial) fun i H x H' _ _ y => y
  · obtain ⟨rfl, rfl⟩ := y
    have hi' : i < n := by simpa using hi
    exact ⟨Same.refl _, .int (lo + (i : Int)), by simp [hi'], fun O2 _ _ => rfl⟩
theorem enumAt_length : ∀ (k : Nat) (ds : List D), (enumAt k ds).length = ds.length
  | _, [] => rfl
  | k, d :: ds => by show (enumAt (k + 1) ds).length + 1 = _; rw [enumAt_length]; rfl
theorem enumAt_get : ∀ (k : Nat) (ds : List D) (i : Nat), (enumAt k ds)[i]? = ds[i]?.map fun d => .tup [.int ((k + i : Nat) : Int), d]
  | _, [], i => by simp [enumAt]
  | k, d :: ds, 0 => rfl
  | k, d :: ds, i + 1 => by
    show (enumAt (k + 1) ds)[i]? = _
    rw [enumAt_get (k + 1) ds i, List.getElem?_cons_succ]
    rw [show k + 1 + i = k + (i + 1) by omega]
theorem DRs.pair {O2 : Addr → Bool} {H : Hp} {T : Addr} {x y : V} {a b : D} (t : Trk O2 H) (hT : H T = none) (ha : DR G (hid O2 H) a x) (hb : DR G (hid O2 H) b y) : DR G (hid O2 (upd H T (.tup [x, y]))) (.tup [a, b]) (.ref T) :=
  DR.newTup t hT ⟨x, _, rfl, ha, y, _, rfl, hb, rfl⟩
theorem walkD_enum {K : PySem.W.Frag} {a : Addr} {vs : List V} {ds : List D} (h : Rd P a (.lst vs)) (r : DRs G P ds vs) : WalkD G P (Ite K a) (enumAt 0 ds) := by
  refine ⟨YPair (fun i => some (.int (i : Nat))) (fun i => vs[i]?), ?_, fun i H x H' hi l y => ?_⟩
  · have w := walk_enum (K := K) (a := a) (xs := vs)
    rw [r.length, ← enumAt_length 0 ds] at w
    exact w.mono (fun H l => .inl (l.rd _ _ h)) fun i H x H' _ _ y => y
  · obtain ⟨T, u, v, rfl, hT, rfl, e1, e2⟩ := y
    cases e1
    obtain ⟨d, e', dr⟩ := r.get' e2
    refine ⟨same_upd hT, .tup [.int (i : Nat), d], by rw [enumAt_get, e']; simp, fun O2 t l2 => DRs.pair t hT rfl (dr.mono l2)⟩
theorem zipL_length : ∀ (as bs : List D), (zipL as bs).length = min as.length bs.length
  | [], _ => by simp [zipL]
  | _ :: _, [] => by simp [zipL]
  | a :: as, b :: bs => by
    show (zipL as bs).length + 1 = _
    rw [zipL_length, List.length_cons, List.length_cons]
    omega
theorem zipL_get : ∀ (as bs : List D) (i : Nat) (a b : D), as[i]? = some a → bs[i]? = some b → (zipL as bs)[i]? = some (.tup [a, b])
  | [], _, i, a, b, h, _ => by simp at h
  | _ :: _, [], i, a, b, _, h => by simp at h
  | a :: as, b :: bs, 0, a', b', h1, h2 => by cases h1; cases h2; rfl
  | a :: as, b :: bs, i + 1, a', b', h1, h2 => zipL_get as bs i a' b' (by simpa using h1) (by simpa using h2)
theorem walkD_zip {K : PySem.W.Frag} {a b : Addr} {vs us : List V} {ds es : List D} (h : Rd P a (.lst vs)) (h' : Rd P b (.lst us)) (r : DRs G P ds vs) (r' : DRs G P es us) : WalkD G P (Itz K a b) (zipL ds es) := by
  refine ⟨YPair (fun i => vs[i]?) (fun i => us[i]?), ?_, fun i H x H' hi l y => ?_⟩
  · have w := walk_zip (K := K) (a := a) (b := b) (xs := vs) (ys := us) rfl
    rw [r.length, r'.length, ← zipL_length ds es] at w
    exact w.mono (fun H l => ⟨.inl (l.rd _ _ h), .inl (l.rd _ _ h')⟩) fun i H x H' _ _ y => y
  · obtain ⟨T, u, v, rfl, hT, rfl, e1, e2⟩ := y
    obtain ⟨d, e', dr⟩ := r.get' e1
    obtain ⟨d', e'', dr'⟩ := r'.get' e2
    exact ⟨same_upd hT, .tup [d, d'], zipL_get _ _ _ _ _ e' e'', fun O2 t l2 => DRs.pair t hT (dr.mono l2) (dr'.mono l2)⟩
theorem walkD_rev {K : PySem.W.Frag} {a : Addr} {vs : List V} {ds : List D} (h : Rd P a (.lst vs)) (r : DRs G P ds vs) : WalkD G P (Itv K a vs.length) ds.reverse := by
  refine ⟨fun i H x H' => H' = H ∧ vs[vs.length - 1 - i]? = some x, ?_, fun i H x H' hi l y => ?_⟩
  · have w := walk_rev (K := K) (a := a) (xs := vs)
    have e : vs.length = ds.reverse.length := by rw [r.length, List.length_reverse]
    rw [← e]
    exact w.mono (fun H l => .inl (l.rd _ _ h)) fun i H x H' _ _ y => y
  · obtain ⟨rfl, e⟩ := y
    obtain ⟨d, e', dr⟩ := r.get' e
    have hi' : i < ds.length := by simpa using hi
    refine ⟨Same.refl _, d, ?_, fun O2 _ l2 => dr.mono l2⟩
    rw [List.getElem?_reverse hi', ← r.length]
    exact e'
end
section
variable {X : Cx} {ρ : List Sl} {p pos tpos : Pos} {tg e e2 : Expr} {r r2 : R D} {elts : List Expr} {kk : Nat}
theorem len_ok {pins : List (Addr × Obj)} {s : Shared} {σ : L2.St} {H : Hp} {a : Addr} {vs : List V} (I : L2.Inv X pins σ H s) (h : Rd H a (.lst vs)) : vs.length ≤ L := by
  obtain ⟨z, _⟩ := h.ok I.hok
  rw [L_line]; exact z
theorem tup_ok {pins : List (Addr × Obj)} {s : Shared} {σ : L2.St} {H : Hp} {a : Addr} {vs : List V} (I : L2.Inv X pins σ H s) (h : H a = some (.tup vs)) : vs.length ≤ L := by
  obtain ⟨z, _⟩ := I.hok _ _ h
  rw [L_line]; exact z
/-- a list, a tuple, a text -/
theorem i_val (he : EE X ρ e r) : EI X ρ tg e (iterR r) := fun W tk => by
  refine ⟨fun pins s σ H Rr I ⟨bs, O, m, nb, k, ke⟩ => ?_⟩
  refine thn ((he W tk).run pins s σ H (fun x H1 => ∃ d, r = .ok d ∧ DR (gx X) (hid (orO O bs.O) H1) d x ∧ Same H H1 ∧ Mt (gx X) bs O ρ σ H1 ∧ ∃ ds, d.items = .ok ds) I ?_) fun v s1 ⟨x, H1, I1, r1, d, ed, dr, s', m1, ds, eds⟩ => ?_
  · refine tE.bind (f := D.items) m nb ke fun d ed nb1 _ v H' s' m' dr => ⟨d, ed, dr, s', m', ?_⟩
    cases q : d.items with
    | bad => exact absurd q nb1
    | err x => unfold D.items at q; split at q <;> cases q
    | ok ds => exact ⟨ds, rfl⟩
  · have kk := k ds (by unfold iterR; rw [ed]; exact eds)
    cases d with
    | lst es =>
      cases eds
      obtain ⟨a, vs, ex, hp, dvs⟩ := dr
      subst ex
      cases (show v = .ref a from r1)
      have hq : SqL X.K H1 a vs := .inl (hid_le.rd _ _ hp)
      have hl := len_ok I1 (hid_le.rd _ _ hp)
      obtain ⟨its, rv, pl, hz⟩ := I1.list hq
      refine wpAny_pyIter_list pl.isList ?_
      refine ⟨s1.heap.objs.size, [s1.heap.objs.size], _, _, H1, rfl, I1.kept (t' := s1.toks) fun b o e => Heap.get?_push_of_some _ e, turn_list a _, ⟨_, Heap.get?_push_size _ rfl, rfl, rfl⟩, fun b hb => ?_, kk _ H1 s' (by rw [← dvs.length]; exact hl) (walkD_list hp dvs)⟩
      have e : b = s1.heap.objs.size := by simpa using hb
      subst e
      exact I1.fpOk (Nat.le_refl _) (I1.hok.fresh (Nat.le_refl _))
    | tup es =>
      cases eds
      obtain ⟨a, vs, ex, hp, dvs⟩ := dr
      subst ex
      cases (show v = .ref a from r1)
      have hq : SqT X.K H1 a vs := SqT.of (hid_le.tup _ _ hp)
      have hl := tup_ok I1 (hid_le.tup _ _ hp)
      obtain ⟨its, rv, pl, hz⟩ := I1.tuple hq
      refine wpAny_pyIter_tuple (show s1.heap.IsTuple a its.toArray from pl) ?_
      refine ⟨s1.heap.objs.size, [s1.heap.objs.size], _, _, H1, rfl, I1.kept (t' := s1.toks) fun b o e => Heap.get?_push_of_some _ e, turn_tuple a _, ⟨_, Heap.get?_push_size _ rfl, rfl, rfl⟩, fun b hb => ?_, kk _ H1 s' (by rw [← dvs.length]; exact hl) (walkD_tup hp dvs)⟩
      have e : b = s1.heap.objs.size := by simpa using hb
      subst e
      exact I1.fpOk (Nat.le_refl _) (I1.hok.fresh (Nat.le_refl _))
    | str z =>
      cases eds
      obtain ⟨ex, hl, hc⟩ := dr
      subst ex
      obtain ⟨t, rfl⟩ := r1
      have q := kk (Its (toS z)) H1 s' (by rw [List.length_map]; exact hl) (walkD_str hc)
      cases ha : (toS z).cps.all (· < 128)
      · exact wpAny_pyIter_wide ha (pi_one (tk := s1.toks) I1 _ (turn_str _ (toS z) t "str_iterator" (.inr rfl)) ⟨_, Heap.get?_push_size _ rfl, rfl, rfl⟩ q)
      · exact wpAny_pyIter_ascii ha (pi_one (tk := s1.toks) I1 _ (turn_str _ (toS z) t "str_ascii_iterator" (.inl rfl)) ⟨_, Heap.get?_push_size _ rfl, rfl, rfl⟩ q)
    | _ => cases eds
theorem i_range1 (hg : Gl X "range") (hm : X.mg "range" = none) (he : EE X ρ e r) (hs : starEach [e] X.env = (false, eval e X.env) :: starEach [] X.env := by rfl) : EI X ρ tg (.Call (.Name "range" p) [e] [] pos) (rngR1 r) := fun W tk => by
  refine PI_imp (pi_range1 hg hm (pa_cons (he W tk) pa_nil hs) hs) fun σ H Rr ⟨bs, O, m, nb, k, ke⟩ => ?_
  refine tE.bind (f := fun y => match y with | .int j => if smallI j && decide (j ≤ L) then .ok (rngI 0 j) else .bad | _ => .bad) m nb ke fun d ed nb1 _ v H' s' m' dr => ?_
  cases d with
  | int j =>
    cases (show v = _ from dr)
    replace nb1 : (if (smallI j && decide (j ≤ L)) = true then R.ok (rngI 0 j) else R.bad) ≠ .bad := nb1
    cases q : (smallI j && decide (j ≤ L)) with
    | false => rw [q] at nb1; exact absurd rfl nb1
    | true =>
      obtain ⟨q1, q2⟩ := Bool.and_eq_true_iff.mp q
      obtain ⟨h1, h2⟩ := Bool.and_eq_true_iff.mp (show (decide (-(2 ^ 62) ≤ j) && decide (j < 2 ^ 62)) = true from q1)
      have q2 := of_decide_eq_true q2
      refine ⟨j, rfl, of_decide_eq_true h1, of_decide_eq_true h2, k (rngI 0 j) ?_ _ _ s' ?_ ?_⟩
      · unfold rngR1
        rw [ed, R.bind_ok]
        show (if (smallI j && decide (j ≤ L)) = true then _ else _) = _
        rw [q, if_pos rfl]
      · unfold rngI
        rw [List.length_map, List.length_range]
        omega
      · have w := walkD_range (G := gx X) (P := hid (orO O bs.O) H') (lo := 0) (n := j.toNat)
        unfold rngI
        rw [Int.sub_zero]
        exact w
  | _ => exact absurd rfl nb1
theorem i_range2 (hg : Gl X "range") (hm : X.mg "range" = none) (he : EE X ρ e r) (he2 : EE X ρ e2 r2) (hs : starEach [e, e2] X.env = (false, eval e X.env) :: starEach [e2] X.env := by rfl) (hs2 : starEach [e2] X.env = (false, eval e2 X.env) :: starEach [] X.env := by rfl) :
    EI X ρ tg (.Call (.Name "range" p) [e, e2] [] pos) (rngR2 r r2) := fun W tk => by
  refine PI_imp (pi_range2 hg hm (pa_cons (he W tk) (pa_cons (he2 W tk) pa_nil hs2) hs) (by rw [hs, hs2]; rfl) hs2) fun σ H Rr ⟨bs, O, m, nb, k, ke⟩ => ?_
  refine tE.bind (f := fun x => r2.bind fun y => match x, y with | .int i, .int j => if smallI i && smallI j && decide (j - i ≤ L) then .ok (rngI i j) else .bad | _, _ => .bad) m nb ke fun d ed nb1 ke1 v H1 s1 m1 dr => ?_
  refine tE.bind (f := fun y => match d, y with | .int i, .int j => if smallI i && smallI j && decide (j - i ≤ L) then .ok (rngI i j) else .bad | _, _ => .bad) m1 nb1 ke1 fun d2 ed2 nb2 ke2 v2 H2 s2 m2 dr2 => ?_
  cases d with
  | int i =>
    cases d2 with
    | int j =>
      cases (show v = _ from dr); cases (show v2 = _ from dr2)
      replace nb2 : (if (smallI i && smallI j && decide (j - i ≤ L)) = true then R.ok (rngI i j) else R.bad) ≠ .bad := nb2
      cases q : (smallI i && smallI j && decide (j - i ≤ L)) with
      | false => rw [q] at nb2; exact absurd rfl nb2
      | true =>
        obtain ⟨q0, q2⟩ := Bool.and_eq_true_iff.mp q
        obtain ⟨q1, q3⟩ := Bool.and_eq_true_iff.mp q0
        obtain ⟨h1, h2⟩ := Bool.and_eq_true_iff.mp (show (decide (-(2 ^ 62) ≤ i) && decide (i < 2 ^ 62)) = true from q1)
        obtain ⟨h3, h4⟩ := Bool.and_eq_true_iff.mp (show (decide (-(2 ^ 62) ≤ j) && decide (j < 2 ^ 62)) = true from q3)
        have q2 := of_decide_eq_true q2
        refine ⟨i, j, rfl, ⟨of_decide_eq_true h1, of_decide_eq_true h2, of_decide_eq_true h3, of_decide_eq_true h4⟩, k (rngI i j) ?_ _ _ (s1.trans s2) ?_ walkD_range⟩
        · unfold rngR2
          rw [ed, R.bind_ok, ed2, R.bind_ok]
          show (if (smallI i && smallI j && decide (j - i ≤ L)) = true then _ else _) = _
          rw [q, if_pos rfl]
        · unfold rngI
          rw [List.length_map, List.length_range]
          omega
    | _ => exact absurd rfl nb2
  | _ => cases d2 <;> exact absurd rfl nb2
theorem seqItems_ok {d : D} {ds : List D} (h : seqItems d = .ok ds) : d = .lst ds := by
  cases d <;> first | (cases h; rfl) | cases h
theorem seqItems_cases {d : D} (h : seqItems d ≠ .bad) : ∃ ds, d = .lst ds := by
  cases d <;> first | exact ⟨_, rfl⟩ | exact absurd rfl h
/-- over lists: the length's bound is the list's own -/
theorem PI_len {t t' : TI} (h : PI X tg e t) (k : ∀ σ H (Q : It → Hp → Prop), t' σ H Q → t σ H fun J H1 => ∃ (a : Addr) (vs : List V) (n : Nat), Rd H1 a (.lst vs) ∧ n ≤ vs.length ∧ (n ≤ L → Q J H1)) : PI X tg e t' :=
  ⟨fun pins s σ H Q I q => thn (h.run pins s σ H _ I (k _ _ _ q)) fun v s1 h1 => thn h1 fun itv s2 ⟨it, fp, tn, J, H', e, I2, T, st, f, a, vs, n, hp, hn, hq⟩ => ⟨it, fp, tn, J, H', e, I2, T, st, f, hq (Nat.le_trans hn (len_ok I2 hp))⟩⟩
theorem i_enum (hg : Gl X "enumerate") (hm : X.mg "enumerate" = none) (he : EE X ρ e r) (hs : starEach [e] X.env = (false, eval e X.env) :: starEach [] X.env := by rfl) : EI X ρ (.Tuple elts kk tpos) (.Call (.Name "enumerate" p) [e] [] pos) (enumR r) := fun W tk => by
  refine PI_len (pi_enum hg hm (pa_cons (he W tk) pa_nil hs) hs) fun σ H Rr ⟨bs, O, m, nb, k, ke⟩ => ?_
  refine tE.bind (f := fun x => (seqItems x).bind fun ds => .ok (enumAt 0 ds)) m nb ke fun d ed nb1 _ v H' s' m' dr => ?_
  obtain ⟨ds, rfl⟩ := seqItems_cases (d := d) fun z => nb1 (by rw [z]; rfl)
  obtain ⟨a, vs, ex, hp, dvs⟩ := dr
  refine ⟨a, vs, by rw [ex], .inl (hid_le.rd _ _ hp), a, vs, (enumAt 0 ds).length, hid_le.rd _ _ hp, by rw [enumAt_length, dvs.length]; exact Nat.le_refl _, fun hl => k _ ?_ _ _ s' hl (walkD_enum hp dvs)⟩
  unfold enumR
  rw [ed]; rfl
theorem i_zip (hg : Gl X "zip") (hm : X.mg "zip" = none) (he : EE X ρ e r) (he2 : EE X ρ e2 r2) (hs : starEach [e, e2] X.env = (false, eval e X.env) :: starEach [e2] X.env := by rfl) (hs2 : starEach [e2] X.env = (false, eval e2 X.env) :: starEach [] X.env := by rfl)
    (hpl : (backTo pos (starEach [e2] X.env)).any (·.1) = false := by rfl) : EI X ρ (.Tuple elts kk tpos) (.Call (.Name "zip" p) [e, e2] [] pos) (zipR r r2) := fun W tk => by
  refine PI_len (pi_zip hg hm (pa_cons (he W tk) (pa_cons (he2 W tk) pa_nil hs2) hs) hs hpl) fun σ H Rr ⟨bs, O, m, nb, k, ke⟩ => ?_
  refine tE.bind (f := fun x => r2.bind fun y => (seqItems x).bind fun ds => (seqItems y).bind fun es => .ok (zipL ds es)) m nb ke fun d ed nb1 ke1 v H1 s1 m1 dr => ?_
  refine tE.bind (f := fun y => (seqItems d).bind fun ds => (seqItems y).bind fun es => .ok (zipL ds es)) m1 nb1 ke1 fun d2 ed2 nb2 ke2 v2 H2 s2 m2 dr2 => ?_
  obtain ⟨ds, rfl⟩ := seqItems_cases (d := d) fun z => nb2 (by rw [z]; rfl)
  obtain ⟨es, rfl⟩ := seqItems_cases (d := d2) fun z => nb2 (by show (seqItems (.lst ds)).bind _ = _; rw [show seqItems (.lst ds) = .ok ds from rfl, R.bind_ok, z]; rfl)
  have dr := dr.mono (hid_same (O := orO O bs.O) s2)
  obtain ⟨a, vs, ex, hp, dvs⟩ := dr
  obtain ⟨a2, vs2, ex2, hp2, dvs2⟩ := dr2
  refine ⟨a, a2, vs, vs2, by rw [ex, ex2], .inl (hid_le.rd _ _ hp), .inl (hid_le.rd _ _ hp2), a, vs, (zipL ds es).length, hid_le.rd _ _ hp, by rw [zipL_length, dvs.length]; exact Nat.min_le_left _ _, fun hl => k _ ?_ _ _ (s1.trans s2) hl (walkD_zip hp hp2 dvs dvs2)⟩
  unfold zipR
  rw [ed, R.bind_ok, ed2]; rfl
theorem i_rev (hg : Gl X "reversed") (hm : X.mg "reversed" = none) (he : EE X ρ e r) (hs : starEach [e] X.env = (false, eval e X.env) :: starEach [] X.env := by rfl) : EI X ρ tg (.Call (.Name "reversed" p) [e] [] pos) (revR r) := fun W tk => by
  refine PI_len (pi_reversed hg hm (pa_cons (he W tk) pa_nil hs) hs) fun σ H Rr ⟨bs, O, m, nb, k, ke⟩ => ?_
  refine tE.bind (f := fun x => (seqItems x).bind fun ds => .ok ds.reverse) m nb ke fun d ed nb1 _ v H' s' m' dr => ?_
  obtain ⟨ds, rfl⟩ := seqItems_cases (d := d) fun z => nb1 (by rw [z]; rfl)
  obtain ⟨a, vs, ex, hp, dvs⟩ := dr
  refine ⟨a, vs, by rw [ex], .inl (hid_le.rd _ _ hp), a, vs, ds.reverse.length, hid_le.rd _ _ hp, by rw [List.length_reverse, dvs.length]; exact Nat.le_refl _, fun hl => k _ ?_ _ _ s' hl (walkD_rev hp dvs)⟩
  unfold revR
  rw [ed]; rfl
end

/-! ### comprehensions -/
/-- the slots of a block's own names are forgotten -/
def wipeL (ρ : List Sl) : List Nat → List Sl
  | [] => ρ
  | v :: vs => (wipeL ρ vs).set v .un
theorem wipeL_length (ρ : List Sl) : ∀ vs : List Nat, (wipeL ρ vs).length = ρ.length
  | [] => rfl
  | v :: vs => by unfold wipeL; rw [List.length_set, wipeL_length ρ vs]
theorem Mt.wipe {G : Gx} {b : Bs} {O : Addr → Bool} {ρ : List Sl} {σ : L2.St} {H : Hp} (m : Mt G b O ρ σ H) : ∀ {vs : List Nat}, (∀ v ∈ vs, v < ρ.length) → Mt G b O (wipeL ρ vs) (L2.wipe σ vs) H
  | [], _ => m
  | v :: vs, h => (Mt.wipe m (vs := vs) fun u hu => h u (List.mem_cons_of_mem _ hu)).setUn (by rw [wipeL_length]; exact h v List.mem_cons_self)
/-- how an item is bound to the target's names: at vs, into a state over plain data -/
def GB (G : Gx) (g : TG) (vs : List Nat) (ρw : List Sl) (bd : D → Option (List Sl)) : Prop := ∀ (b : Bs) (O : Addr → Bool) (σ : L2.St) (H : Hp) (d : D) (v : V) (ρ' : List Sl), Mt G b O ρw (L2.wipe σ vs) H → DR G (hid (orO O b.O) H) d v → bd d = some ρ' →
  ∀ Q : L2.St → Hp → Prop, (∀ σ2, L2.wipe σ2 vs = L2.wipe σ vs → Mt G b O ρ' σ2 H → Q σ2 H) → g v (L2.wipe σ vs) H Q
abbrev W0 : WX := fun _ _ _ _ => False
section
variable {X : Cx} {ρ : List Sl} {pos : Pos} {elt tg iter : Expr} {ifs : List Expr} {scope : Scope} {own : List (Str × Nat)} {rl : R (List D)} {g : TG} {bd : D → Option (List Sl)} {c : D → R Bool} {f : D → R D}
theorem adO_new {O : Addr → Bool} {p : Addr} : adO O p p = true := by unfold adO; simp
theorem le_ad {O O2 : Addr → Bool} {H H' : Hp} {D : Addr} (hD : H D = none) (s : Same H H') : Le (hid (orO O O2) H) (hid (orO (adO O D) O2) H') := .of fun a u z => by
  obtain ⟨z1, z2⟩ := hid_some.mp z
  have ne : a ≠ D := ne_of_none z2 hD
  refine hid_some.mpr ⟨?_, s _ _ z2⟩
  unfold orO adO at *
  rw [Bool.or_eq_false_iff] at z1
  simp [z1.1, z1.2, ne]
theorem Mt.grow {G : Gx} {b : Bs} {O : Addr → Bool} {ρ : List Sl} {σ : L2.St} {H H' : Hp} {D : Addr} (m : Mt G b O ρ σ H) (hD : H D = none) (s : Same H H') (ho : Ownable (H' D)) : Mt G b (adO O D) ρ σ H' := by
  have mD := m.same s
  refine ⟨mD.prot, mD.bo, fun a q => ?_, fun a q => ?_, mD.len, fun i x q => ?_, fun i x q => ?_, mD.dis, fun i a er c dd q => (m.ex i a er c dd q).imp id fun r => r.mono (le_ad hD s)⟩
  · unfold adO at q
    rcases Bool.or_eq_true_iff.mp q with q | q
    · exact mD.disj a q
    · rw [of_decide_eq_true q]
      cases z : b.P D with
      | none => rfl
      | some u => rw [m.prot D u z] at hD; cases hD
  · unfold adO at q
    rcases Bool.or_eq_true_iff.mp q with q | q
    · exact mD.trk a q
    · rw [of_decide_eq_true q]; exact ho
  · obtain ⟨v, e, r⟩ := m.pure i x q
    exact ⟨v, e, r.mono (le_ad hD s)⟩
  · obtain ⟨p, e, o', r⟩ := m.own i x q
    refine ⟨p, e, by unfold adO; simp [o'], ?_⟩
    cases z : H p with
    | none => exact absurd z (m.trk p o').1
    | some u =>
      rw [s p u z]
      rw [z] at r
      exact r.mono (le_ad hD s)
theorem Mt.addOwn {G : Gx} {b : Bs} {O : Addr → Bool} {ρ : List Sl} {σ : L2.St} {H : Hp} {D : Addr} {o : HO} (m : Mt G b O ρ σ H) (hD : H D = none) (ho : Ownable (some o)) : Mt G b (adO O D) ρ σ (upd H D o) :=
  m.grow hD (same_upd hD) (by rw [upd_same]; exact ho)
/-- an own thing that no name holds is changed -/
theorem hid_write {O : Addr → Bool} {H : Hp} {D : Addr} {o : HO} (h : O D = true) : hid O (upd H D o) = hid O H := by
  funext a
  unfold hid
  by_cases e : a = D
  · subst e; rw [if_pos h, if_pos h]
  · rw [upd_ne e]
theorem Mt.writeX {G : Gx} {b : Bs} {O : Addr → Bool} {ρ : List Sl} {σ : L2.St} {H : Hp} {D : Addr} {o : HO} (m : Mt G b O ρ σ H) (hD : O D = true) (ho : Ownable (some o)) (hn : ∀ (i : Nat) (x : Dl.D), ρ[i]? = some (Sl.ow x) → σ[i]? ≠ some (some (V.ref D))) : Mt G b O ρ σ (upd H D o) := by
  have e0 : hid (orO O b.O) (upd H D o) = hid (orO O b.O) H := hid_write (by unfold orO; rw [hD]; rfl)
  refine ⟨fun a u e => ?_, m.bo, m.disj, fun a q => ?_, m.len, fun i x q => ?_, fun i x q => ?_, m.dis, fun i a er c dd q => by rw [e0]; exact m.ex i a er c dd q⟩
  · have ne : a ≠ D := fun z => by rw [z, m.disj D hD] at e; cases e
    rw [upd_ne ne]; exact m.prot a u e
  · by_cases ea : a = D
    · rw [ea, upd_same]; exact ho
    · rw [upd_ne ea]; exact m.trk a q
  · rw [e0]; exact m.pure i x q
  · obtain ⟨p, e, o', r⟩ := m.own i x q
    have ne : p ≠ D := fun z => hn i x q (z ▸ e)
    rw [e0]
    exact ⟨p, e, o', by rw [upd_ne ne]; exact r⟩
/-- a reading whose value is new: a list, a dict, an instance that no one else holds -/
def tF (G : Gx) (W : WX) (ρ : List Sl) (r : R Dl.D) : TE := fun σ H Q => ∃ b O, Mt G b O ρ σ H ∧ r ≠ .bad ∧ (∀ d, r = .ok d → ∀ p H2, Same H H2 → H p = none → Mt G b (adO O p) ρ σ H2 → OwR G (hid (orO (adO O p) b.O) H2) d (H2 p) → Q (.ref p) H2) ∧
  ∀ er, r = .err er → ErrOk G W b ρ er
def EF (X : Cx) (ρ : List Sl) (e : Expr) (r : R Dl.D) : Prop := ∀ W, Takes X W → PE X e (tF (gx X) W ρ r)
theorem tF_of {G : Gx} {W : WX} {ρ : List Sl} {r : R Dl.D} {σ : L2.St} {H : Hp} {Q : VK} (h : tE G W ρ r σ H Q) : tF G W ρ r σ H Q := by
  obtain ⟨b, O, m, nb, k, ke⟩ := h
  refine ⟨b, O, m, nb, fun d ed p H2 s hp m2 ow => k d ed _ H2 s ?_, ke⟩
  have l : Le (hid (orO (adO O p) b.O) H2) (hid (orO O b.O) H2) := le_or fun a h => by unfold adO; rw [h]; rfl
  refine OwR.free (ow.mono l) ?_
  unfold hid
  rw [m.fresh hp, if_neg Bool.false_ne_true]
theorem EF.ee {X : Cx} {ρ : List Sl} {e : Expr} {r : R Dl.D} (h : EF X ρ e r) : EE X ρ e r := fun W tk => PE_imp (h W tk) fun σ H Q q => tF_of q
/-- the reading of a comprehension -/
theorem lc_read {W : WX} {tt : TT} {te : TE} (hb : GB (gx X) g (own.map (·.2)) (wipeL ρ (own.map (·.2))) bd) (hlt : ∀ v ∈ own.map (·.2), v < ρ.length) (hnb : ∀ d, bd d = none → c d = .bad ∨ (c d = .ok true ∧ f d = .bad))
    (ht : ∀ d ρ', bd d = some ρ' → ∀ σ H Q, tT (gx X) W0 ρ' (c d) σ H Q → tt σ H Q) (hte : ∀ d ρ', bd d = some ρ' → ∀ σ H Q, tE (gx X) W0 ρ' (f d) σ H Q → te σ H Q) {σ : L2.St} {H : Hp} {Q : VK}
    (h : tF (gx X) W ρ (lcifR rl c f) σ H Q) : tLc (tI (gx X) W ρ rl) g tt te (own.map (·.2)) σ H Q := by
  obtain ⟨b, O, m, nb, kq, ke⟩ := h
  refine ⟨b, O, m, fun e => nb (by unfold lcifR; rw [e]; rfl), fun ds eds J H1 s1 hL ⟨Y, w, hy⟩ => ?_, fun x e => ke x (by unfold lcifR; rw [e]; rfl)⟩
  intro D hD
  have ev : lcifR rl c f = (compR c f ds).bind fun es => .ok (.lst es) := by unfold lcifR; rw [eds]; rfl
  rw [ev] at nb kq
  have nb' : compR c f ds ≠ .bad := fun e => nb (by rw [e]; rfl)
  have m1 := m.same s1
  have mw := m1.wipe hlt
  have noD : orO O b.O D = false := m1.fresh hD
  have sD : Same H1 (upd H1 D (.lst [])) := same_upd hD
  have hOD : orO (adO O D) b.O D = true := by unfold orO; rw [adO_new]; rfl
  have hn : ∀ (i : Nat) (x : Dl.D), (wipeL ρ (own.map (·.2)))[i]? = some (Sl.ow x) → (L2.wipe σ (own.map (·.2)))[i]? ≠ some (some (V.ref D)) := fun i x q z => by
    obtain ⟨p, e, o, _⟩ := mw.own i x q
    rw [z] at e
    cases e
    exact (m1.trk D o).1 hD
  have lst_ok : ∀ acc : List V, Ownable (some (HO.lst acc)) := fun acc => ⟨fun z => (nomatch z), fun _ z => nomatch z⟩
  refine lc_it w (fun i H' => ∃ (acc : List V) (done : List Dl.D), H' D = some (.lst acc) ∧ acc.length ≤ i ∧ (compR c f ds = (compR c f (ds.drop i)).bind fun es => .ok (done ++ es)) ∧ compR c f (ds.drop i) ≠ .bad ∧ Same H1 H' ∧ Mt (gx X) b (adO O D) (wipeL ρ (own.map (·.2))) (L2.wipe σ (own.map (·.2))) H' ∧
    DRs (gx X) (hid (orO (adO O D) b.O) H') done acc) ⟨[], [], upd_same, Nat.le_refl _, by rw [List.drop_zero]; cases compR c f ds <;> rfl, by rw [List.drop_zero]; exact nb', sD, mw.addOwn hD (lst_ok _), rfl⟩ ?_ ?_ ?_
  · rintro i H' _ ⟨acc, done, _, _, _, _, s', _, _⟩
    exact (hid_le (O := orO O b.O)).trans (.of s')
  · rintro i x H' H'' hi ⟨acc, done, hDl, hlen, hcomp, hnbad, s', m', dr⟩ y
    obtain ⟨s2, d, ed, dd⟩ := hy i H' x H'' hi ((hid_le (O := orO O b.O)).trans (.of s')) y
    have dx := dd (orO (adO O D) b.O) m'.trk' (le_ad hD s')
    have edrop : ds.drop i = d :: ds.drop (i + 1) := by
      obtain ⟨hl, hg⟩ := List.getElem?_eq_some_iff.mp ed
      rw [← hg]
      exact List.drop_eq_getElem_cons hl
    rw [edrop] at hcomp hnbad
    cases qb : bd d with
    | none =>
      exfalso
      apply hnbad
      show ((c d).noerr.bind _) = _
      rcases hnb d qb with z | ⟨z1, z2⟩
      · rw [z]; rfl
      · rw [z1]
        show ((f d).noerr.bind _) = _
        rw [z2]; rfl
    | some ρ' =>
      cases qc : c d with
      | bad => exact absurd (show ((c d).noerr.bind _) = .bad by rw [qc]; rfl) hnbad
      | err e => exact absurd (show ((c d).noerr.bind _) = .bad by rw [qc]; rfl) hnbad
      | ok k =>
        have e1 : compR c f (d :: ds.drop (i + 1)) = if k then (f d).noerr.bind fun d => (compR c f (ds.drop (i + 1))).bind fun ds => .ok (d :: ds) else compR c f (ds.drop (i + 1)) := by
          show ((c d).noerr.bind _) = _
          rw [qc]; rfl
        rw [e1] at hcomp hnbad
        have m2 := m'.same s2
        refine hb b (adO O D) σ H'' d x ρ' m2 dx qb _ fun σ2 hw m3 => ⟨hw, ht d ρ' qb _ _ _ ⟨b, adO O D, m3, by rw [qc]; exact fun z => (nomatch z), fun k' ek H3 s3 => ?_, fun e z => by rw [qc] at z; cases z⟩⟩
        rw [qc] at ek
        cases ek
        cases k with
        | false =>
          rw [if_neg Bool.false_ne_true] at hcomp hnbad ⊢
          have s13 := s2.trans s3
          exact ⟨acc, done, s13 _ _ hDl, Nat.le_succ_of_le hlen, hcomp, hnbad, s'.trans s13, m'.same s13, dr.mono (hid_same s13)⟩
        | true =>
          rw [if_pos rfl] at hcomp hnbad
          rw [if_pos rfl]
          cases qf : f d with
          | bad => rw [qf] at hnbad; exact absurd rfl hnbad
          | err e => rw [qf] at hnbad; exact absurd rfl hnbad
          | ok y0 =>
            rw [qf] at hcomp hnbad
            replace hnbad : ((compR c f (ds.drop (i + 1))).bind fun ds => R.ok (y0 :: ds)) ≠ .bad := hnbad
            refine hte d ρ' qb _ _ _ ⟨b, adO O D, m3.same s3, by rw [qf]; exact fun z => (nomatch z), fun y1 ey v H4 s4 dv => ?_, fun e z => by rw [qf] at z; cases z⟩
            rw [qf] at ey
            cases ey
            have s14 := (s2.trans s3).trans s4
            have m4 := m'.same s14
            refine ⟨acc, s14 _ _ hDl, by rw [← L_line]; omega, acc ++ [v], done ++ [y0], upd_same, by rw [List.length_append]; exact Nat.succ_le_succ hlen, ?_, fun e => hnbad (by rw [e]; rfl), ?_, m4.writeX adO_new (lst_ok _) hn, ?_⟩
            · rw [hcomp]
              show ((compR c f (ds.drop (i + 1))).bind fun ds => R.ok (y0 :: ds)).bind _ = _
              rw [R.bind_assoc]
              congr 1
              funext es
              show R.ok (done ++ y0 :: es) = _
              rw [List.append_assoc]; rfl
            · intro a u e
              have ne : a ≠ D := ne_of_none e hD
              rw [upd_ne ne]
              exact (s'.trans s14) _ _ e
            · rw [hid_write hOD]
              exact (dr.mono (hid_same s14)).append (DRs.one dv)
  · rintro H' ⟨acc, done, hDl, hlen, hcomp, hnbad, s', m', dr⟩
    rw [List.drop_length] at hcomp
    have e2 : compR c f ds = .ok done := by rw [hcomp]; show R.ok (done ++ []) = _; rw [List.append_nil]
    have HD : H D = none := s1.free hD
    have mD : Mt (gx X) b (adO O D) ρ σ H' := m1.grow hD s' (by rw [hDl]; exact lst_ok _)
    refine kq (.lst done) (by rw [e2]; rfl) _ _ (s1.trans s') HD mD ⟨acc, hDl, dr⟩
theorem mapR_comp {f : D → R D} : ∀ ds, mapR f ds = compR (fun _ => .ok true) f ds
  | [] => rfl
  | d :: ds => by
    show ((f d).noerr.bind fun d => (mapR f ds).bind fun ds => .ok (d :: ds)) = _
    rw [mapR_comp ds]
    rfl
theorem lcR_if {f : D → R D} : lcR rl f = lcifR rl (fun _ => .ok true) f := by
  unfold lcR lcifR
  congr 1
  funext xs
  rw [mapR_comp]
/-- the tests of a clause -/
def EC (X : Cx) (ρ : List Sl) (ifs : List Expr) (r : R Bool) : Prop := ∀ W, Takes X W → PTs X ifs (tT (gx X) W ρ r)
theorem c_none {ρ : List Sl} : EC X ρ [] (.ok true) := fun W tk => ⟨fun pins s σ H Q I ⟨b, O, m, _, k, _⟩ => pts_nil.run pins s σ H Q I (k true rfl H (Same.refl _))⟩
theorem c_one {ρ : List Sl} {e : Expr} {r : R Bool} (h : ET X ρ e r) : EC X ρ [e] r := fun W tk => pts_one (h W tk)
/-- a name as the target -/
theorem gb_name {G : Gx} {ρw : List Sl} {i : Nat} (hi : i < ρw.length) : GB G (gName i) [i] ρw (fun d => some (ρw.set i (.d d))) := fun b O σ H d v ρ' m dr e Q k => by
  cases e
  refine k _ ?_ (m.set hi dr)
  unfold L2.wipe
  show ((σ.set i none).set i (some v)).set i none = σ.set i none
  rw [List.set_set, List.set_set]
def bd2 (ρ : List Sl) (i j : Nat) : D → Option (List Sl)
  | .tup [a, b] => some ((ρ.set i (.d a)).set j (.d b))
  | _ => none
def bd3 (ρ : List Sl) (i j k : Nat) : D → Option (List Sl)
  | .tup [a, b, c] => some (((ρ.set i (.d a)).set j (.d b)).set k (.d c))
  | _ => none
theorem bd2_inv {ρ ρ' : List Sl} {i j : Nat} {d : D} (h : bd2 ρ i j d = some ρ') : ∃ a b, d = .tup [a, b] ∧ ρ' = (ρ.set i (.d a)).set j (.d b) := by
  unfold bd2 at h
  split at h
  · cases h; exact ⟨_, _, rfl, rfl⟩
  · cases h
theorem bd3_inv {ρ ρ' : List Sl} {i j k : Nat} {d : D} (h : bd3 ρ i j k d = some ρ') : ∃ a b c, d = .tup [a, b, c] ∧ ρ' = ((ρ.set i (.d a)).set j (.d b)).set k (.d c) := by
  unfold bd3 at h
  split at h
  · cases h; exact ⟨_, _, _, rfl, rfl⟩
  · cases h
theorem gb_tup2 {K : PySem.W.Frag} {mg : Str → Option Value} {ρw : List Sl} {i j : Nat} (hi : i < ρw.length) (hj : j < ρw.length) (hij : i ≠ j) : GB ⟨K, mg⟩ (gTup K 2 (gCons (gName i) (gCons (gName j) gNil))) [i, j] ρw
    (bd2 ρw i j) := fun b O σ H d v ρ' m dr e Q k => by
  obtain ⟨a, c, rfl, rfl⟩ := bd2_inv e
  obtain ⟨p, vs, ex, hp, dvs⟩ := dr
  obtain ⟨x, y, ev, dx, dy⟩ := dvs.of2
  subst ev
  refine ⟨p, [x, y], ex, SqT.of (hid_le.tup _ _ hp), rfl, x, [y], rfl, y, [], rfl, rfl, k _ ?_ ((m.set hi dx).set (by simpa using hj) dy)⟩
  unfold L2.wipe
  show ((((((σ.set j none).set i none).set i (some x)).set j (some y)).set j none).set i none) = (σ.set j none).set i none
  rw [List.set_set, List.set_set, List.set_comm _ _ hij, List.set_set, List.set_comm _ _ (Ne.symm hij), List.set_comm _ _ hij, List.set_set]
/-- [f for x in l if c] -/
theorem f_lcg {tgp : ∀ (s : Shared) (H : Hp) (C : Addr) (cl : List (Str × Addr)) (fp : List Addr), PG (X.blk s H scope (compEnvC scope cl C X.env) fp) tg g} (hc : X.calm = true) (hN : X.N.Nodup) (ok : BlkOk X.N X.env.scope scope own) (hi : EI X ρ tg iter rl)
    (hb : GB (gx X) g (own.map (·.2)) (wipeL ρ (own.map (·.2))) bd) (hlt : ∀ v ∈ own.map (·.2), v < ρ.length) (hnb : ∀ d, bd d = none → c d = .bad ∨ (c d = .ok true ∧ f d = .bad))
    (ht : ∀ d ρ', bd d = some ρ' → ∀ (s : Shared) (H : Hp) (C : Addr) (cl : List (Str × Addr)) (fp : List Addr), EC (X.blk s H scope (compEnvC scope cl C X.env) fp) ρ' ifs (c d))
    (he : ∀ d ρ', bd d = some ρ' → ∀ (s : Shared) (H : Hp) (C : Addr) (cl : List (Str × Addr)) (fp : List Addr), EE (X.blk s H scope (compEnvC scope cl C X.env) fp) ρ' elt (f d)) (hs : ∀ x, foldedSetIterable iter X.env x = pure x := by intro _; rfl) :
    EF X ρ (.ListComp elt [⟨tg, iter, ifs, 0⟩] scope pos) (lcifR rl c f) := fun W tk => by
  have key := pe_lc (X := X) (g := g) (pos := pos) (tt := fun σ H Q => ∃ d ρ', bd d = some ρ' ∧ tT (gx X) W0 ρ' (c d) σ H Q) (te := fun σ H Q => ∃ d ρ', bd d = some ρ' ∧ tE (gx X) W0 ρ' (f d) σ H Q) hc hN (hi W tk) ok tgp
    (fun s H C cl fp => ⟨fun pins s' σ H' Q I ⟨d, ρ', e, h⟩ => (ht d ρ' e s H C cl fp W0 takes0).run pins s' σ H' Q I h⟩)
    (fun s H C cl fp => ⟨fun pins s' σ H' Q I ⟨d, ρ', e, h⟩ => (he d ρ' e s H C cl fp W0 takes0).run pins s' σ H' Q I h⟩) hs
  exact PE_imp key fun σ H Q h => lc_read hb hlt hnb (fun d ρ' e σ H Q q => ⟨d, ρ', e, q⟩) (fun d ρ' e σ H Q q => ⟨d, ρ', e, q⟩) h
end
end Dl
/-! DlG: statements over plain data. -/
namespace Dl
open PySem PySem.Spec L2
open PyProof.Rows hiding St
set_option autoImplicit false

/-! ### names forgotten -/
inductive Wk : List Sl → List Sl → Prop
  | nil : Wk [] []
  | un {a : Sl} {l m : List Sl} : Wk l m → Wk (.un :: l) (a :: m)
  | eq {a : Sl} {l m : List Sl} : Wk l m → Wk (a :: l) (a :: m)
theorem Wk.refl : ∀ {l : List Sl}, Wk l l
  | [] => .nil
  | _ :: _ => .eq .refl
theorem Wk.len {l m : List Sl} (h : Wk l m) : l.length = m.length := by
  induction h with
  | nil => rfl
  | un _ ih => simp [ih]
  | eq _ ih => simp [ih]
theorem Wk.get {l m : List Sl} (h : Wk l m) : ∀ i : Nat, l[i]? = some Sl.un ∨ l[i]? = m[i]? := by
  induction h with
  | nil => exact fun i => .inr rfl
  | un _ ih => exact fun i => by cases i with
    | zero => exact .inl rfl
    | succ i => simpa using ih i
  | eq _ ih => exact fun i => by cases i with
    | zero => exact .inr rfl
    | succ i => simpa using ih i
theorem Wk.mt {G : Gx} {b : Bs} {O : Addr → Bool} {ρ ρ' : List Sl} {σ : L2.St} {H : Hp} (w : Wk ρ' ρ) (m : Mt G b O ρ σ H) : Mt G b O ρ' σ H := m.weak w.len w.get

/-! ### how a block ends -/
inductive OK where
  | nx (ρ : List Sl) | ct (ρ : List Sl) | nc (ρ : List Sl) | bk (ρ : List Sl) | rt (d : D) | re (d : D) | cu
def RtOk (G : Gx) (b : Bs) (d : D) (v : V) (H : Hp) : Prop := (∀ a o, b.P a = some o → H a = some o) ∧ DR G (hid b.O H) d v
def tOut (G : Gx) (b : Bs) (Dn : Ends) : OK → Prop
  | .nx ρ => ∀ O σ H, Mt G b O ρ σ H → Dn.nx σ H
  | .ct ρ => ∀ O σ H, Mt G b O ρ σ H → Dn.ct σ H
  | .nc ρ => ∀ O σ H, Mt G b O ρ σ H → Dn.nx σ H ∧ Dn.ct σ H
  | .bk ρ => ∀ O σ H, Mt G b O ρ σ H → Dn.bk σ H
  | .rt d => ∀ v H, RtOk G b d v H → Dn.rt v H
  | .re d => (∀ v H, RtOk G b d v H → Dn.rt v H) ∧ (d = .non → ∀ O ρ σ H, Mt G b O ρ σ H → Dn.nx σ H)
  | .cu => True
def OK.ret? : OK → Option D
  | .rt d => some d
  | .re d => some d
  | _ => none
def OK.cut : OK → OK
  | .nc ρ => .ct ρ
  | .nx _ => .cu
  | .re d => .rt d
  | x => x
/-- the end of a block is reached at ρ -/
def OK.fallsTo : OK → List Sl → Prop
  | .nx ρ', ρ => Wk ρ' ρ
  | .nc ρ', ρ => Wk ρ' ρ
  | .re d, _ => d = .non
  | _, _ => False
def OK.contTo : OK → List Sl → Prop
  | .ct ρ', ρ => Wk ρ' ρ
  | .nc ρ', ρ => Wk ρ' ρ
  | _, _ => False
def OK.brkTo : OK → List Sl → Prop
  | .bk ρ', ρ => Wk ρ' ρ
  | _, _ => False
theorem tOut_cut {G : Gx} {b : Bs} {Dn : Ends} {N : L2.St → Hp → Prop} {x : OK} (h : tOut G b Dn x) : tOut G b { Dn with nx := N } x.cut := by
  cases x with
  | nx ρ => trivial
  | ct ρ => exact h
  | nc ρ => exact fun O σ H m => (h O σ H m).2
  | bk ρ => exact h
  | rt d => exact h
  | re d => exact h.1
  | cu => trivial
theorem tOut_ret {G : Gx} {b : Bs} {Dn : Ends} {x : OK} {d : D} (h : tOut G b Dn x) (e : x.ret? = some d) {v : V} {H : Hp} (r : RtOk G b d v H) : Dn.rt v H := by
  cases x with
  | rt d' => cases e; exact h v H r
  | re d' => cases e; exact h.1 v H r
  | _ => cases e

def ErrO (G : Gx) (W : WX) (b : Bs) (ρe : Option (List Sl)) (er : Er) : Prop := match ρe with
  | none => ∀ ρ, ErrOk G W b ρ er
  | some ρ => ErrOk G W b ρ er
def Wko (ρe : Option (List Sl)) (ρ : List Sl) : Prop := match ρe with
  | none => True
  | some ρ' => Wk ρ' ρ
theorem ErrO.to {G : Gx} {W : WX} {b : Bs} {ρe : Option (List Sl)} {er : Er} {ρ : List Sl} (h : ErrO G W b ρe er) (w : Wko ρe ρ) : ErrOk G W b ρ er := by
  cases ρe with
  | none => exact h ρ
  | some ρ' => exact fun c dd σ H O m r => h c dd σ H O ((show Wk ρ' ρ from w).mt m) r
section
variable {α β : Type}
/-- a block's reading: r its result, o how that ends -/
def tB (G : Gx) (W : WX) (ρ : List Sl) (ρe : Option (List Sl)) (r : R α) (o : α → OK) : TS := fun Dn σ H => ∃ b O, Mt G b O ρ σ H ∧ r ≠ .bad ∧ (∀ a, r = .ok a → tOut G b Dn (o a)) ∧ ∀ er, r = .err er → ErrO G W b ρe er
def SB (X : Cx) (ρ : List Sl) (ρe : Option (List Sl)) (ss : List Stmt) (r : R α) (o : α → OK) : Prop := ∀ W, Takes X W → PSs X ss (tB (gx X) W ρ ρe r o)
theorem PSs_ex {ι : Type} {X : Cx} {ss : List Stmt} {t : ι → TS} (h : ∀ i, PSs X ss (t i)) : PSs X ss (fun Dn σ H => ∃ i, t i Dn σ H) := ⟨fun pins s σ H Dn I ⟨i, q⟩ => (h i).run pins s σ H Dn I q⟩
theorem PSs_ex2 {ι κ : Type} {X : Cx} {ss : List Stmt} {t : ι → κ → TS} (h : ∀ i j, PSs X ss (t i j)) : PSs X ss (fun Dn σ H => ∃ i j, t i j Dn σ H) := ⟨fun pins s σ H Dn I ⟨i, j, q⟩ => (h i j).run pins s σ H Dn I q⟩
end

section
variable {α β S : Type} {G : Gx} {W : WX} {ρ ρ' : List Sl} {ρe : Option (List Sl)} {b : Bs} {O : Addr → Bool} {σ : L2.St} {H : Hp} {Dn : Ends} {o : α → OK}
/-- on to what follows an expression's value -/
theorem tB.expr {r : R D} {k : D → R α} {Q : VK} (h : tB G W ρ ρe (r.bind k) o Dn σ H) (w : Wko ρe ρ)
    (q : ∀ b O d v H', r = .ok d → Same H H' → Mt G b O ρ σ H' → DR G (hid (orO O b.O) H') d v → k d ≠ .bad → (∀ a, k d = .ok a → tOut G b Dn (o a)) → (∀ er, k d = .err er → ErrO G W b ρe er) → Q v H') : tE G W ρ r σ H Q := by
  obtain ⟨b, O, m, nb, ko, ke⟩ := h
  refine tE.bind m nb (fun e z => (ke e z).to w) fun d ed nb1 _ v H' s m' dr => q b O d v H' ed s m' dr nb1 (fun a z => ko a (by rw [ed]; exact z)) fun er z => ke er (by rw [ed]; exact z)
theorem tB.test {r : R Bool} {k : Bool → R α} {Q : Bool → Hp → Prop} (h : tB G W ρ ρe (r.bind k) o Dn σ H) (w : Wko ρe ρ)
    (q : ∀ b O c H', r = .ok c → Same H H' → Mt G b O ρ σ H' → k c ≠ .bad → (∀ a, k c = .ok a → tOut G b Dn (o a)) → (∀ er, k c = .err er → ErrO G W b ρe er) → Q c H') : tT G W ρ r σ H Q := by
  obtain ⟨b, O, m, nb, ko, ke⟩ := h
  refine tT.bind m nb (fun e z => (ke e z).to w) fun d ed nb1 _ H' s m' => q b O d H' ed s m' nb1 (fun a z => ko a (by rw [ed]; exact z)) fun er z => ke er (by rw [ed]; exact z)
theorem iff_bind (r : R Bool) (x y : R α) : r.iff x y = r.bind fun c => if c = true then x else y := by
  cases r with
  | ok c => cases c <;> rfl
  | err e => rfl
  | bad => rfl
end

section
variable {α β S : Type} {X : Cx} {ρ ρ' : List Sl} {ρe : Option (List Sl)} {o : α → OK} {ss rest A B : List Stmt} {e : Expr} {r : R D} {k : D → R α} {pos p p' : Pos} {i j : Nat} {x y : Str} {rc : R Bool} {rA rB : R α}
theorem b_nil {a : α} (h : (o a).fallsTo ρ) : SB X ρ ρe [] (.ok a) o := fun W tk => PSs_imp pss_nil fun Dn σ H ⟨b, O, m, _, ko, _⟩ => by
  have q := ko a rfl
  show Dn.nx σ H
  cases z : o a with
  | nx ρ' => rw [z] at q h; exact q O σ H ((show Wk ρ' ρ from h).mt m)
  | nc ρ' => rw [z] at q h; exact (q O σ H ((show Wk ρ' ρ from h).mt m)).1
  | re d => rw [z] at q h; exact q.2 h O ρ σ H m
  | ct _ => rw [z] at h; exact h.elim
  | bk _ => rw [z] at h; exact h.elim
  | rt _ => rw [z] at h; exact h.elim
  | cu => rw [z] at h; exact h.elim
theorem b_cont {a : α} (h : (o a).contTo ρ) : SB X ρ ρe (.Continue p :: rest) (.ok a) o := fun W tk => PSs_imp (pss_cons ps_continue pss_never) fun Dn σ H ⟨b, O, m, _, ko, _⟩ => by
  have q := ko a rfl
  show Dn.ct σ H
  cases z : o a with
  | ct ρ' => rw [z] at q h; exact q O σ H ((show Wk ρ' ρ from h).mt m)
  | nc ρ' => rw [z] at q h; exact (q O σ H ((show Wk ρ' ρ from h).mt m)).2
  | _ => rw [z] at h; exact h.elim
theorem b_brk {a : α} (h : (o a).brkTo ρ) : SB X ρ ρe (.Break p :: rest) (.ok a) o := fun W tk => PSs_imp (pss_cons ps_break pss_never) fun Dn σ H ⟨b, O, m, _, ko, _⟩ => by
  have q := ko a rfl
  show Dn.bk σ H
  cases z : o a with
  | bk ρ' => rw [z] at q h; exact q O σ H ((show Wk ρ' ρ from h).mt m)
  | _ => rw [z] at h; exact h.elim
theorem b_pass (h : SB X ρ ρe rest rA o) : SB X ρ ρe (.Pass p :: rest) rA o := fun W tk => PSs_imp (pss_cons ps_pass (h W tk)) fun Dn σ H q => q
theorem b_doc {jj} (h : SB X ρ ρe rest rA o) : SB X ρ ρe (.Expr (.Constant (.str x) jj p) p' :: rest) rA o := fun W tk => PSs_imp (pss_cons ps_doc (h W tk)) fun Dn σ H q => q
/-- return e -/
theorem b_ret {c : D → α} (he : EE X ρ e r) (h : ∀ d, (o (c d)).ret? = some d) (w : Wko ρe ρ := by trivial) : SB X ρ ρe (.Return (some e) p :: rest) (r.bind fun d => .ok (c d)) o := fun W tk =>
  PSs_imp (pss_cons (ps_ret (he W tk)) pss_never) fun Dn σ H q => q.expr w fun b O d v H' ed s m dr nb ko ke => tOut_ret (ko (c d) rfl) (h d) ⟨m.prot, dr.mono le_drop⟩
theorem b_retD {r : R D} {o : D → OK} (he : EE X ρ e r) (h : ∀ d, (o d).ret? = some d) (w : Wko ρe ρ := by trivial) : SB X ρ ρe (.Return (some e) p :: rest) r o := fun W tk =>
  PSs_imp (pss_cons (ps_ret (he W tk)) pss_never) fun Dn σ H q => tB.expr (k := R.ok) (Dn := Dn) (by rw [show r.bind R.ok = r by cases r <;> rfl]; exact q) w fun b O d v H' ed s m dr nb ko ke => tOut_ret (ko d rfl) (h d) ⟨m.prot, dr.mono le_drop⟩
theorem b_retN {a : α} (h : (o a).ret? = some .non) : SB X ρ ρe (.Return none p :: rest) (.ok a) o := fun W tk =>
  PSs_imp (pss_cons ps_retN pss_never) fun Dn σ H ⟨b, O, m, _, ko, _⟩ => tOut_ret (ko a rfl) h ⟨m.prot, (show DR (gx X) (hid b.O H) .non .non from rfl)⟩
/-- x = e -/
theorem b_asg {g : TG} {tg : Expr} {st : Stmt} {ρk : D → List Sl} (hst : ∀ te, PE X e te → PS X st (tAsg te g)) (he : EE X ρ e r) (hg : ∀ b O σ H d v (Q : L2.St → Hp → Prop), Mt (gx X) b O ρ σ H → DR (gx X) (hid (orO O b.O) H) d v → k d ≠ .bad → (∀ σ2, Mt (gx X) b O (ρk d) σ2 H → Q σ2 H) → g v σ H Q)
    (h : ∀ d, SB X (ρk d) ρe rest (k d) o) (w : Wko ρe ρ := by trivial) : SB X ρ ρe (st :: rest) (r.bind k) o := fun W tk =>
  PSs_imp (pss_cons (hst _ (he W tk)) (PSs_ex fun d => h d W tk)) fun Dn σ H q => q.expr w fun b O d v H' ed s m dr nb ko ke => hg b O σ H' d v _ m dr nb fun σ2 m2 => ⟨d, b, O, m2, nb, ko, ke⟩
theorem lt_of_blt {a b : Nat} (h : Nat.blt a b = true) : a < b := Nat.le_of_ble_eq_true h
theorem b_set (hx : Loc X.env.scope x) (he : EE X ρ e r) (h : ∀ d, SB X (ρ.set i (.d d)) ρe rest (k d) o) (w : Wko ρe ρ := by trivial) (hN : X.N.Nodup) (hi : X.N[i]? = some x := by rfl) (hl : Nat.blt i ρ.length = true := by rfl)
    (hs : swapsWith e (some (.Name x p')) pos.line X.env = pure false := by rfl) (hf : X.fn x = true ∨ X.env.scope.names.lookup x = some .local := by first | exact .inl rfl | exact .inr rfl | assumption) :
    SB X ρ ρe (.Assign [.Name x p'] e pos :: rest) (r.bind k) o :=
  b_asg (tg := e) (fun te h => ps_set hN hi hx h hs hf) he (fun b O σ H d v Q m dr _ q => q _ (m.set (lt_of_blt hl) dr)) h w
/-- if c: A (A does not fall through) -/
theorem b_if {rB : R α} (hc : ET X ρ e rc) (hA : SB X ρ ρe A rA fun a => (o a).cut) (hB : SB X ρ ρe rest rB o) (w : Wko ρe ρ := by trivial) : SB X ρ ρe (.If e A [] p :: rest) (rc.iff rA rB) o := fun W tk =>
  PSs_imp (pss_cons (ps_if (hc W tk) (hA W tk) pss_nil) (hB W tk)) fun Dn σ H q => by
    rw [iff_bind] at q
    refine q.test w fun b O c H' ec s m nb ko ke => ?_
    cases c with
    | true => exact ⟨b, O, m, nb, fun a z => tOut_cut (ko a z), ke⟩
    | false => exact ⟨b, O, m, nb, ko, ke⟩
/-- if c: A else: B, at the end of a block -/
theorem b_ifE {rB : R α} (hc : ET X ρ e rc) (hA : SB X ρ ρe A rA o) (hB : SB X ρ ρe B rB o) (w : Wko ρe ρ := by trivial) : SB X ρ ρe [.If e A B p] (rc.iff rA rB) o := fun W tk =>
  PSs_imp (pss_cons (ps_if (hc W tk) (hA W tk) (hB W tk)) pss_nil) fun Dn σ H q => by
    rw [iff_bind] at q
    refine q.test w fun b O c H' ec s m nb ko ke => ?_
    cases c with
    | true => exact ⟨b, O, m, nb, ko, ke⟩
    | false => exact ⟨b, O, m, nb, ko, ke⟩
/-- a block that only falls, then the rest -/
theorem tB.seqN {rS : R S} {emb : S → List Sl} {kS : S → R α} {G : Gx} {W : WX} {Dn : Ends} {σ : L2.St} {H : Hp} (q : tB G W ρ ρe (rS.bind kS) o Dn σ H) :
    tB G W ρ ρe rS (fun s => OK.nx (emb s)) { Dn with nx := fun σ' H' => ∃ s, tB G W (emb s) ρe (kS s) o Dn σ' H' } σ H := by
  obtain ⟨b, O, m, nb, ko, ke⟩ := q
  refine ⟨b, O, m, fun z => nb (by rw [z]; rfl), fun s es O' σ' H' m' => ⟨s, b, O', m', fun z => nb (by rw [es]; exact z), fun a z => ko a (by rw [es]; exact z), fun er z => ke er (by rw [es]; exact z)⟩, fun er z => ke er (by rw [z]; rfl)⟩
/-- .. that may also return -/
def oJ {S : Type} (emb : S → List Sl) : Fl S → OK
  | .nx s => .nx (emb s)
  | .rt d => .rt d
  | .bk s => .bk (emb s)
theorem oJ_ret {S : Type} {emb : S → List Sl} : ∀ d, (oJ emb (.rt d)).ret? = some d := fun _ => rfl
theorem tB.seqF {rS : R (Fl S)} {emb : S → List Sl} {kS : S → R α} {c : D → α} {G : Gx} {W : WX} {Dn : Ends} {σ : L2.St} {H : Hp} (q : tB G W ρ ρe (Fl.go rS kS fun d => .ok (c d)) o Dn σ H) (hr : ∀ d, (o (c d)).ret? = some d) :
    tB G W ρ ρe rS (oJ emb) { Dn with nx := fun σ' H' => ∃ s, tB G W (emb s) ρe (kS s) o Dn σ' H', bk := fun σ' H' => ∃ s, tB G W (emb s) ρe (kS s) o Dn σ' H' } σ H := by
  obtain ⟨b, O, m, nb, ko, ke⟩ := q
  refine ⟨b, O, m, fun z => nb (by rw [z]; rfl), fun s es => ?_, fun er z => ke er (by rw [z]; rfl)⟩
  cases s with
  | nx s => exact fun O' σ' H' m' => ⟨s, b, O', m', fun z => nb (by rw [es]; exact z), fun a z => ko a (by rw [es]; exact z), fun er z => ke er (by rw [es]; exact z)⟩
  | bk s => exact fun O' σ' H' m' => ⟨s, b, O', m', fun z => nb (by rw [es]; exact z), fun a z => ko a (by rw [es]; exact z), fun er z => ke er (by rw [es]; exact z)⟩
  | rt d => exact fun v H' r => tOut_ret (ko (c d) (by rw [es]; rfl)) (hr d) r
/-- if c: A else: B, both fall through -/
theorem b_join {rA rB : R S} {emb : S → List Sl} {kS : S → R α} (hc : ET X ρ e rc) (hA : SB X ρ ρe A rA fun s => OK.nx (emb s)) (hB : SB X ρ ρe B rB fun s => OK.nx (emb s)) (h : ∀ s, SB X (emb s) ρe rest (kS s) o) (w : Wko ρe ρ := by trivial) :
    SB X ρ ρe (.If e A B p :: rest) ((rc.iff rA rB).bind kS) o := fun W tk =>
  PSs_imp (pss_cons (ps_if (hc W tk) (hA W tk) (hB W tk)) (PSs_ex fun s => h s W tk)) fun Dn σ H q => by
    have q := q.seqN (emb := emb)
    rw [iff_bind] at q
    refine q.test w fun b O c H' ec s m nb ko ke => ?_
    cases c with
    | true => exact ⟨b, O, m, nb, ko, ke⟩
    | false => exact ⟨b, O, m, nb, ko, ke⟩
/-- e -/
theorem b_expr (he : EE X ρ e r) (h : SB X ρ ρe rest rA o) (w : Wko ρe ρ := by trivial) (hs : swapsWith e none pos.line X.env = pure false := by rfl) : SB X ρ ρe (.Expr e pos :: rest) (r.bind fun _ => rA) o := fun W tk =>
  PSs_imp (pss_cons (ps_expr (he W tk) hs) (h W tk)) fun Dn σ H q => q.expr w fun b O d v H' ed s m dr nb ko ke => ⟨b, O, m, nb, ko, ke⟩
/-- an own thing is plain from here on -/
theorem b_rel {x : D} (hi : ρ[i]? = some (.ow x)) (h : SB X (ρ.set i (.d x)) ρe ss rA o) : SB X ρ ρe ss rA o := fun W tk => PSs_imp (h W tk) fun Dn σ H ⟨b, O, m, nb, ko, ke⟩ => by
  obtain ⟨O', m'⟩ := m.release hi
  exact ⟨b, O', m', nb, ko, ke⟩
/-- names that are not used any more -/
theorem b_weak (hw : Wk ρ' ρ) (h : SB X ρ' ρe ss rA o) : SB X ρ ρe ss rA o := fun W tk => PSs_imp (h W tk) fun Dn σ H ⟨b, O, m, nb, ko, ke⟩ => ⟨b, O, hw.mt m, nb, ko, ke⟩
end
end Dl
/-! DlH: loops, own lists, raise. -/
namespace Dl
open PySem PySem.Spec L2
open PyProof.Rows hiding St
set_option autoImplicit false

/-- how an item is bound to a loop's target, from ρ -/
def GL (G : Gx) (g : TG) (ρ : List Sl) (bd : D → Option (List Sl)) : Prop := ∀ (b : Bs) (O : Addr → Bool) (σ : L2.St) (H : Hp) (d : D) (v : V) (ρ' : List Sl), Mt G b O ρ σ H → DR G (hid (orO O b.O) H) d v → bd d = some ρ' →
  ∀ Q : L2.St → Hp → Prop, (∀ σ2, Mt G b O ρ' σ2 H → Q σ2 H) → g v σ H Q
def bd1 (ρ : List Sl) (i : Nat) : D → Option (List Sl) := fun d => some (ρ.set i (.d d))
theorem gl_name {G : Gx} {ρ : List Sl} {i : Nat} (hi : Nat.blt i ρ.length = true) : GL G (gName i) ρ (bd1 ρ i) := fun b O σ H d v ρ' m dr e Q k => by
  cases e
  exact k _ (m.set (lt_of_blt hi) dr)
theorem gl_tup2 {K : PySem.W.Frag} {mg : Str → Option Value} {ρ : List Sl} {i j : Nat} (hi : Nat.blt i ρ.length = true) (hj : Nat.blt j ρ.length = true) : GL ⟨K, mg⟩ (gTup K 2 (gCons (gName i) (gCons (gName j) gNil))) ρ (bd2 ρ i j) := fun b O σ H d v ρ' m dr e Q k => by
  obtain ⟨a, c, rfl, rfl⟩ := bd2_inv e
  obtain ⟨p, vs, ex, hp, dvs⟩ := dr
  obtain ⟨x, y, ev, dx, dy⟩ := dvs.of2
  subst ev
  exact ⟨p, [x, y], ex, SqT.of (hid_le.tup _ _ hp), rfl, x, [y], rfl, y, [], rfl, rfl, k _ ((m.set (lt_of_blt hi) dx).set (by simpa using lt_of_blt hj) dy)⟩
theorem DRs.of3 {G : Gx} {P : Hp} {a b c : D} {vs : List V} (h : DRs G P [a, b, c] vs) : ∃ x y z, vs = [x, y, z] ∧ DR G P a x ∧ DR G P b y ∧ DR G P c z := by
  obtain ⟨x, r, e, h1, h2⟩ := h
  obtain ⟨y, z, e2, h3, h4⟩ := DRs.of2 h2
  subst e2
  exact ⟨x, y, z, e, h1, h3, h4⟩
theorem gl_tup3 {K : PySem.W.Frag} {mg : Str → Option Value} {ρ : List Sl} {i j l : Nat} (hi : Nat.blt i ρ.length = true) (hj : Nat.blt j ρ.length = true) (hl : Nat.blt l ρ.length = true) :
    GL ⟨K, mg⟩ (gTup K 3 (gCons (gName i) (gCons (gName j) (gCons (gName l) gNil)))) ρ (bd3 ρ i j l) := fun b O σ H d v ρ' m dr e Q k => by
  obtain ⟨a, c, d3, rfl, rfl⟩ := bd3_inv e
  obtain ⟨p, vs, ex, hp, dvs⟩ := dr
  obtain ⟨x, y, z, ev, dx, dy, dz⟩ := dvs.of3
  subst ev
  exact ⟨p, [x, y, z], ex, SqT.of (hid_le.tup _ _ hp), rfl, x, [y, z], rfl, y, [z], rfl, z, [], rfl, rfl, k _ (((m.set (lt_of_blt hi) dx).set (by simpa using lt_of_blt hj) dy).set (by simpa using lt_of_blt hl) dz)⟩

section
variable {G : Gx} {W : WX} {b : Bs} {O : Addr → Bool} {ρ : List Sl} {ρe : Option (List Sl)} {σ : L2.St} {H : Hp} {er : Er}
theorem ErrOk.now (m : Mt G b O ρ σ H) {ρ' : List Sl} (h : ErrOk G W b ρ' er) : ErrOk G W (b.now O H) ρ' er := fun c dd σ' H' O' m' r => h c dd σ' H' O' (m.ofNow m') r
theorem ErrO.now (m : Mt G b O ρ σ H) (h : ErrO G W b ρe er) : ErrO G W (b.now O H) ρe er := by
  cases ρe with
  | none => exact fun ρ' => (h ρ').now m
  | some ρ' => exact ErrOk.now m h
theorem RtOk.now (m : Mt G b O ρ σ H) {d : D} {v : V} {H' : Hp} (h : RtOk G (b.now O H) d v H') : RtOk G b d v H' := ⟨fun a o e => h.1 a o (hid_some.mpr ⟨by
    cases q : O a with
    | true => rw [m.disj a q] at e; cases e
    | false => rfl, m.prot a o e⟩), h.2⟩
theorem drop_cons {α : Type} {ds : List α} {i : Nat} {d : α} (ed : ds[i]? = some d) : ds.drop i = d :: ds.drop (i + 1) := by
  obtain ⟨hl, hg⟩ := List.getElem?_eq_some_iff.mp ed
  rw [← hg]
  exact List.drop_eq_getElem_cons hl
end

section
variable {α S : Type} {X : Cx} {ρ ρ' : List Sl} {ρe : Option (List Sl)} {o : α → OK} {ss rest body : List Stmt} {e iter tg : Expr} {r : R D} {pos p p' : Pos} {i j : Nat} {x y : Str} {rc : R Bool} {rl : R (List D)} {g : TG} {emb : S → List Sl} {bd : S → D → Option (List Sl)} {s0 : S} {kS : S → R α}
/-- the end of a loop's turn -/
def oF {S : Type} (emb : S → List Sl) : Fl S → OK
  | .nx s => .nc (emb s)
  | .rt d => .rt d
  | .bk s => .bk (emb s)
/-- a loop over items that may be left -/
theorem b_forF {f : D → S → R (Fl S)} {c : D → α} (hp : PassesOwn (model X.prog X.w) X.A X.env X.xe) (hc : X.calm = true) (hi : EI X ρ tg iter rl) (hg : PG X tg g) (hgl : ∀ s, GL (gx X) g (emb s) (bd s)) (hnb : ∀ s d, bd s d = none → f d s = .bad)
    (hb : ∀ s d ρ', bd s d = some ρ' → SB X ρ' ρe body (f d s) (oF emb)) (h : ∀ s, SB X (emb s) ρe rest (kS s) o) (w0 : Wk (emb s0) ρ) (hr : ∀ d, (o (c d)).ret? = some d) (w : Wko ρe ρ := by trivial) (hs : ∀ x, foldedSetIterable iter X.env x = pure x := by intro _; rfl) :
    SB X ρ ρe (.For tg iter body [] pos :: rest) (rl.bind fun xs => Fl.go (forF f xs s0) kS fun d => .ok (c d)) o := fun W tk => by
  have key := ps_for (pos := pos) (tb := fun Dn σ H => ∃ s d, ∃ (ρ' : List Sl), bd s d = some ρ' ∧ tB (gx X) W ρ' ρe (f d s) (oF emb) Dn σ H) hp hc (hi W tk) hg ⟨fun pins s' σ H Dn I ⟨s, d, ρ', e, q⟩ => (hb s d ρ' e W tk).run pins s' σ H Dn I q⟩ hs
  refine PSs_imp (pss_cons key (PSs_ex fun s => h s W tk)) fun Dn σ H q => ?_
  obtain ⟨b, O, m, nb, ko, ke⟩ := q
  refine ⟨b, O, m, fun z => nb (by rw [z]; rfl), fun ds eds J H1 s1 hL ⟨Y, wk, hy⟩ => ?_, fun er z => (ke er (by rw [z]; rfl)).to w⟩
  rw [eds] at nb ko ke
  replace nb : Fl.go (forF f ds s0) kS (fun d => .ok (c d)) ≠ .bad := nb
  replace ko : ∀ a, Fl.go (forF f ds s0) kS (fun d => .ok (c d)) = .ok a → tOut (gx X) b Dn (o a) := ko
  replace ke : ∀ er, Fl.go (forF f ds s0) kS (fun d => .ok (c d)) = .err er → ErrO (gx X) W b ρe er := ke
  have m1 := m.same s1
  have le1 : ∀ {O' : Addr → Bool} {ρ' : List Sl} {σ' : L2.St} {H' : Hp}, Mt (gx X) (b.now O H1) O' ρ' σ' H' → Le (hid (orO O b.O) H1) H' := fun m' => .of fun a u z => by
    obtain ⟨z1, z2⟩ := hid_some.mp z
    unfold orO at z1
    rw [Bool.or_eq_false_iff] at z1
    exact m'.prot a u (hid_some.mpr ⟨z1.1, z2⟩)
  refine for_it (g := g) (tb := fun Dn σ H => ∃ s d, ∃ (ρ' : List Sl), bd s d = some ρ' ∧ tB (gx X) W ρ' ρe (f d s) (oF emb) Dn σ H) (D := { Dn with nx := fun σ H => ∃ i, tB (gx X) W (emb i) ρe (kS i) o Dn σ H }) wk (fun i σ' H' => ∃ (s : S) (O' : Addr → Bool), Mt (gx X) (b.now O H1) O' (emb s) σ' H' ∧ forF f ds s0 = forF f (ds.drop i) s) ⟨s0, O, w0.mt m1.toNow, by rw [List.drop_zero]⟩ (fun i σ' H' _ ⟨s, O', m', _⟩ => le1 m') ?_ ?_
  · rintro i x σ' H' H'' hi ⟨s, O', m', eq⟩ y
    obtain ⟨s2, d, ed, dd⟩ := hy i H' x H'' hi (le1 m') y
    have dx := dd (orO O' b.O) m'.trk' (m1.leNow m')
    rw [drop_cons ed, forF_cons] at eq
    have m2 := m'.same s2
    cases qb : bd s d with
    | none => rw [hnb s d qb] at eq; rw [eq] at nb; exact absurd rfl nb
    | some ρ' =>
      refine hgl s (b.now O H1) O' σ' H'' d x ρ' m2 dx qb _ fun σ2 m3 => ⟨s, d, ρ', qb, b.now O H1, O', m3, fun z => by rw [z] at eq; rw [eq] at nb; exact nb rfl, fun a z => ?_, fun er z => ?_⟩
      · rw [z] at eq
        cases a with
        | nx s' => exact fun O3 σ3 H3 m3 => ⟨⟨s', O3, m3, eq⟩, ⟨s', O3, m3, eq⟩⟩
        | rt d' =>
          replace eq : forF f ds s0 = .ok (.rt d') := eq
          exact fun v H3 rt => tOut_ret (ko (c d') (by rw [eq]; rfl)) (hr d') (rt.now m1)
        | bk s' =>
          replace eq : forF f ds s0 = .ok (.nx s') := eq
          rw [eq] at nb ko ke
          exact fun O3 σ3 H3 m3 => ⟨s', b, O3, m1.ofNow m3, nb, ko, ke⟩
      · rw [z] at eq
        replace eq : forF f ds s0 = .err er := eq
        exact (ke er (by rw [eq]; rfl)).now m1
  · rintro σ' H' ⟨s, O', m', eq⟩
    rw [List.drop_length] at eq
    replace eq : forF f ds s0 = .ok (.nx s) := eq
    rw [eq] at nb ko ke
    exact ⟨s, b, O', m1.ofNow m', nb, ko, ke⟩
/-- .. that may not -/
theorem b_forN {f : D → S → R S} (hp : PassesOwn (model X.prog X.w) X.A X.env X.xe) (hc : X.calm = true) (hi : EI X ρ tg iter rl) (hg : PG X tg g) (hgl : ∀ s, GL (gx X) g (emb s) (bd s)) (hnb : ∀ s d, bd s d = none → f d s = .bad)
    (hb : ∀ s d ρ', bd s d = some ρ' → SB X ρ' ρe body (f d s) fun s => OK.nc (emb s)) (h : ∀ s, SB X (emb s) ρe rest (kS s) o) (w0 : Wk (emb s0) ρ) (w : Wko ρe ρ := by trivial) (hs : ∀ x, foldedSetIterable iter X.env x = pure x := by intro _; rfl) :
    SB X ρ ρe (.For tg iter body [] pos :: rest) (rl.bind fun xs => (forN f xs s0).bind kS) o := fun W tk => by
  have key := ps_for (pos := pos) (tb := fun Dn σ H => ∃ s d, ∃ (ρ' : List Sl), bd s d = some ρ' ∧ tB (gx X) W ρ' ρe (f d s) (fun s => OK.nc (emb s)) Dn σ H) hp hc (hi W tk) hg ⟨fun pins s' σ H Dn I ⟨s, d, ρ', e, q⟩ => (hb s d ρ' e W tk).run pins s' σ H Dn I q⟩ hs
  refine PSs_imp (pss_cons key (PSs_ex fun s => h s W tk)) fun Dn σ H q => ?_
  obtain ⟨b, O, m, nb, ko, ke⟩ := q
  refine ⟨b, O, m, fun z => nb (by rw [z]; rfl), fun ds eds J H1 s1 hL ⟨Y, wk, hy⟩ => ?_, fun er z => (ke er (by rw [z]; rfl)).to w⟩
  rw [eds] at nb ko ke
  replace nb : (forN f ds s0).bind kS ≠ .bad := nb
  replace ko : ∀ a, (forN f ds s0).bind kS = .ok a → tOut (gx X) b Dn (o a) := ko
  replace ke : ∀ er, (forN f ds s0).bind kS = .err er → ErrO (gx X) W b ρe er := ke
  have m1 := m.same s1
  have le1 : ∀ {O' : Addr → Bool} {ρ' : List Sl} {σ' : L2.St} {H' : Hp}, Mt (gx X) (b.now O H1) O' ρ' σ' H' → Le (hid (orO O b.O) H1) H' := fun m' => .of fun a u z => by
    obtain ⟨z1, z2⟩ := hid_some.mp z
    unfold orO at z1
    rw [Bool.or_eq_false_iff] at z1
    exact m'.prot a u (hid_some.mpr ⟨z1.1, z2⟩)
  refine for_it (g := g) (tb := fun Dn σ H => ∃ s d, ∃ (ρ' : List Sl), bd s d = some ρ' ∧ tB (gx X) W ρ' ρe (f d s) (fun s => OK.nc (emb s)) Dn σ H) (D := { Dn with nx := fun σ H => ∃ i, tB (gx X) W (emb i) ρe (kS i) o Dn σ H }) wk (fun i σ' H' => ∃ (s : S) (O' : Addr → Bool), Mt (gx X) (b.now O H1) O' (emb s) σ' H' ∧ forN f ds s0 = forN f (ds.drop i) s) ⟨s0, O, w0.mt m1.toNow, by rw [List.drop_zero]⟩ (fun i σ' H' _ ⟨s, O', m', _⟩ => le1 m') ?_ ?_
  · rintro i x σ' H' H'' hi ⟨s, O', m', eq⟩ y
    obtain ⟨s2, d, ed, dd⟩ := hy i H' x H'' hi (le1 m') y
    have dx := dd (orO O' b.O) m'.trk' (m1.leNow m')
    rw [drop_cons ed, forN_cons] at eq
    have m2 := m'.same s2
    cases qb : bd s d with
    | none => rw [hnb s d qb] at eq; rw [eq] at nb; exact absurd rfl nb
    | some ρ' =>
      refine hgl s (b.now O H1) O' σ' H'' d x ρ' m2 dx qb _ fun σ2 m3 => ⟨s, d, ρ', qb, b.now O H1, O', m3, fun z => by rw [z] at eq; rw [eq] at nb; exact nb rfl, fun a z => ?_, fun er z => ?_⟩
      · rw [z] at eq
        exact fun O3 σ3 H3 m3 => ⟨⟨a, O3, m3, eq⟩, ⟨a, O3, m3, eq⟩⟩
      · rw [z] at eq
        replace eq : forN f ds s0 = .err er := eq
        exact (ke er (by rw [eq]; rfl)).now m1
  · rintro σ' H' ⟨s, O', m', eq⟩
    rw [List.drop_length] at eq
    replace eq : forN f ds s0 = .ok s := eq
    rw [eq] at nb ko ke
    exact ⟨s, b, O', m1.ofNow m', nb, ko, ke⟩
/-- while -/
theorem b_whileN {cF : S → R Bool} {f : S → R S} {n : Nat} (hp : PassesOwn (model X.prog X.w) X.A X.env X.xe) (hc : ∀ s, ET X (emb s) e (cF s)) (hb : ∀ s, SB X (emb s) ρe body (f s) fun s => OK.nc (emb s)) (h : ∀ s, SB X (emb s) ρe rest (kS s) o) (w0 : Wk (emb s0) ρ)
    (w : ∀ s, Wko ρe (emb s) := by intro _; trivial) : SB X ρ ρe (.While e body [] pos :: rest) ((whileN cF f n s0).bind kS) o := fun W tk => by
  have key := ps_while (pos := pos) (tc := fun σ H Q => ∃ s, tT (gx X) W (emb s) (cF s) σ H Q) (tb := fun Dn σ H => ∃ s, tB (gx X) W (emb s) ρe (f s) (fun s => OK.nc (emb s)) Dn σ H) hp ⟨fun pins s' σ H Q I ⟨s, q⟩ => (hc s W tk).run pins s' σ H Q I q⟩ (PSs_ex fun s => hb s W tk)
  refine PSs_imp (pss_cons key (PSs_ex fun s => h s W tk)) fun Dn σ H q => ?_
  obtain ⟨b, O, m, nb, ko, ke⟩ := q
  refine ⟨fun n' σ' H' => ∃ (s : S) (O' : Addr → Bool), Mt (gx X) b O' (emb s) σ' H' ∧ whileN cF f n s0 = whileN cF f n' s, ⟨n, s0, O, w0.mt m, rfl⟩, ?_⟩
  rintro n' σ' H' ⟨s, O', m', eq⟩
  cases n' with
  | zero => rw [eq] at nb; exact absurd rfl nb
  | succ n' =>
    replace eq : whileN cF f n s0 = (cF s).iff ((f s).bind fun s' => whileN cF f n' s') (.ok s) := eq
    rw [eq] at nb ko ke
    refine ⟨s, b, O', m', fun z => nb (by rw [z]; rfl), fun c ec H2 s2 => ?_, fun er z => (ke er (by rw [z]; rfl)).to (w s)⟩
    have m2 := m'.same s2
    rw [ec] at nb ko ke
    cases c with
    | false => exact ⟨s, b, O', m2, nb, ko, ke⟩
    | true =>
      replace nb : ((f s).bind fun s' => whileN cF f n' s').bind kS ≠ .bad := nb
      replace ke : ∀ er, ((f s).bind fun s' => whileN cF f n' s').bind kS = .err er → ErrO (gx X) W b ρe er := ke
      rw [ec] at eq
      replace eq : whileN cF f n s0 = (f s).bind fun s' => whileN cF f n' s' := eq
      refine ⟨fun σ3 H3 => ∃ (s' : S) (O3 : Addr → Bool), Mt (gx X) b O3 (emb s') σ3 H3 ∧ whileN cF f n s0 = whileN cF f n' s', fun σ3 H3 ⟨s', O3, m3, e3⟩ => ⟨n', Nat.lt_succ_self _, s', O3, m3, e3⟩, s, b, O', m2, fun z => nb (by rw [z]; rfl), fun a z => ?_, fun er z => ke er (by rw [z]; rfl)⟩
      rw [z] at eq
      exact fun O3 σ3 H3 m3 => ⟨⟨a, O3, m3, eq⟩, ⟨a, O3, m3, eq⟩⟩
end
end Dl
/-! DlI: own lists; defs. -/
namespace Dl
open PySem PySem.Spec L2
open PyProof.Rows hiding St
set_option autoImplicit false
theorem lst_ok (vs : List V) : Ownable (some (HO.lst vs)) := ⟨fun z => (nomatch z), fun _ z => nomatch z⟩
section
variable {X : Cx} {ρ : List Sl} {pos p : Pos} {es : List Expr} {rs : List (R D)} {e : Expr} {r : R D}
/-- a display -/
theorem f_lst (h : EA X ρ es (seqR rs)) : EF X ρ (.List es pos) (lstR rs) := fun W tk => PE_imp (pe_lst (h W tk)) fun σ H Q ⟨b, O, m, nb, k, ke⟩ => by
  refine tA.bind (f := mkL) m nb ke fun ds eds nb1 ke1 vs H1 s1 m1 drs => ?_
  cases q : mkL ds with
  | bad => exact absurd q nb1
  | err x => unfold mkL at q; split at q <;> cases q
  | ok d =>
    obtain ⟨rfl, hl⟩ := mkL_ok q
    exact ⟨by rw [drs.length, ← L_line]; exact hl, fun p hp => k _ (by show (seqR rs).bind mkL = _; rw [eds]; exact q) _ _ (s1.trans (same_upd hp)) (s1.free hp) (m1.addOwn hp (lst_ok _)) (show OwR _ _ (.lst ds) _ from ⟨vs, upd_same, drs.mono (le_ad hp (same_upd hp))⟩)⟩
end
section
variable {G : Gx} {b : Bs} {O : Addr → Bool} {ρ : List Sl} {σ : L2.St} {H H2 : Hp}
/-- a new thing comes under a name -/
theorem Mt.name {p : Addr} {i : Nat} {d : D} (m : Mt G b O ρ σ H) (hp : H p = none) (m2 : Mt G b (adO O p) ρ σ H2) (hi : i < ρ.length) (ow : OwR G (hid (orO (adO O p) b.O) H2) d (H2 p)) : Mt G b (adO O p) (ρ.set i (.ow d)) (σ.set i (some (.ref p))) H2 := by
  have hn : ∀ (j : Nat) (y : D), ρ[j]? = some (Sl.ow y) → σ[j]? ≠ some (some (V.ref p)) := fun j y h z => by
    obtain ⟨p', e, o, _⟩ := m.own j y h
    rw [z] at e
    cases e
    exact (m.trk p o).1 hp
  have hs : i < σ.length := m.len ▸ hi
  refine ⟨m2.prot, m2.bo, m2.disj, m2.trk, by simp [m2.len], fun j y q => ?_, fun j y q => ?_, fun j k y z q h1 h2 e1 e2 => ?_, fun j a er c dd q => ?_⟩
  · by_cases ej : i = j
    · subst ej; rw [List.getElem?_set_self hi] at q; cases q
    · rw [List.getElem?_set_ne ej] at q ⊢; exact m2.pure j y q
  · by_cases ej : i = j
    · subst ej
      rw [List.getElem?_set_self hi] at q
      cases q
      exact ⟨p, List.getElem?_set_self hs, adO_new, ow⟩
    · rw [List.getElem?_set_ne ej] at q ⊢; exact m2.own j y q
  · by_cases e3 : i = j
    · by_cases e4 : i = k
      · exact e3.symm.trans e4
      · subst e3
        rw [List.getElem?_set_self hs] at e1
        cases e1
        rw [List.getElem?_set_ne e4] at h2 e2
        exact absurd e2 (hn k z h2)
    · by_cases e4 : i = k
      · subst e4
        rw [List.getElem?_set_self hs] at e2
        cases e2
        rw [List.getElem?_set_ne e3] at h1 e1
        exact absurd e1 (hn j y h1)
      · rw [List.getElem?_set_ne e3] at h1 e1
        rw [List.getElem?_set_ne e4] at h2 e2
        exact m2.dis j k y z q h1 h2 e1 e2
  · have n1 : i ≠ j := fun z => by subst z; rw [List.getElem?_set_self hi] at q; cases q
    rw [List.getElem?_set_ne n1] at q ⊢
    exact m2.ex j a er c dd q
end
section
variable {α : Type} {X : Cx} {ρ : List Sl} {ρe : Option (List Sl)} {o : α → OK} {rest : List Stmt} {e e2 : Expr} {r r2 : R D} {k : D → R α} {pos p p' p2 p3 : Pos} {i : Nat} {x : Str} {l : D}
theorem tB.fresh {W : WX} {σ : L2.St} {H : Hp} {Dn : Ends} {Q : VK} (h : tB (gx X) W ρ ρe (r.bind k) o Dn σ H) (w : Wko ρe ρ)
    (q : ∀ b O d p H2, r = .ok d → Same H H2 → Mt (gx X) b O ρ σ H → H p = none → Mt (gx X) b (adO O p) ρ σ H2 → OwR (gx X) (hid (orO (adO O p) b.O) H2) d (H2 p) → k d ≠ .bad → (∀ a, k d = .ok a → tOut (gx X) b Dn (o a)) → (∀ er, k d = .err er → ErrO (gx X) W b ρe er) → Q (.ref p) H2) : tF (gx X) W ρ r σ H Q := by
  obtain ⟨b, O, m, nb, ko, ke⟩ := h
  exact ⟨b, O, m, fun z => nb (by rw [z]; rfl), fun d ed p H2 s hp m2 ow => q b O d p H2 ed s m hp m2 ow (fun z => nb (by rw [ed]; exact z)) (fun a z => ko a (by rw [ed]; exact z)) fun er z => ke er (by rw [ed]; exact z), fun er z => (ke er (by rw [z]; rfl)).to w⟩
/-- x = a new thing, x's own from here on -/
theorem b_own {st : Stmt} (hst : ∀ te, PE X e te → PS X st (tAsg te (gName i))) (he : EF X ρ e r) (h : ∀ d, SB X (ρ.set i (.ow d)) ρe rest (k d) o) (hl : Nat.blt i ρ.length = true := by rfl) (w : Wko ρe ρ := by trivial) : SB X ρ ρe (st :: rest) (r.bind k) o := fun W tk =>
  PSs_imp (pss_cons (hst _ (he W tk)) (PSs_ex fun d => h d W tk)) fun Dn σ H q => show tF (gx X) W ρ r σ H (fun x H1 => ∃ d, tB (gx X) W (ρ.set i (.ow d)) ρe (k d) o Dn (σ.set i (some x)) H1) from tB.fresh q w fun b O d p H2 ed s m hp m2 ow nb ko ke => ⟨d, b, adO O p, m.name hp m2 (lt_of_blt hl) ow, nb, ko, ke⟩
theorem b_setOw (hx : Loc X.env.scope x) (he : EF X ρ e r) (h : ∀ d, SB X (ρ.set i (.ow d)) ρe rest (k d) o) (hN : X.N.Nodup) (hi : X.N[i]? = some x := by rfl) (hl : Nat.blt i ρ.length = true := by rfl) (w : Wko ρe ρ := by trivial)
    (hs : swapsWith e (some (.Name x p')) pos.line X.env = pure false := by rfl) (hf : X.fn x = true ∨ X.env.scope.names.lookup x = some .local := by first | exact .inl rfl | exact .inr rfl | assumption) :
    SB X ρ ρe (.Assign [.Name x p'] e pos :: rest) (r.bind k) o := b_own (fun te h => ps_set hN hi hx h hs hf) he h hl w
/-- an own list: where it lies -/
theorem own_lst {G : Gx} {b : Bs} {O : Addr → Bool} {σ : L2.St} {H : Hp} {ds : List D} (m : Mt G b O ρ σ H) (hi : ρ[i]? = some (.ow (.lst ds))) : ∃ q vs, σ[i]? = some (some (.ref q)) ∧ H q = some (.lst vs) ∧ DRs G (hid (orO O b.O) H) ds vs := by
  obtain ⟨q, e, _, vs, ev, dr⟩ := m.own i _ hi
  exact ⟨q, vs, e, ev, dr⟩
/-- x.append(e) -/
theorem b_app (hv : Vis X.env.scope x) (hi : ρ[i]? = some (.ow l)) (he : EE X ρ e r) (h : ∀ l', SB X (ρ.set i (.ow l')) ρe rest (k l') o) (hx : X.N[i]? = some x := by rfl) (w : Wko ρe ρ := by trivial) (h1 : (x == ("__debug__" : Str)) = false := by decide) (h2 : (x == ("__classdict__" : Str)) = false := by decide)
    (hs0 : swapsWith (.Call (.Attribute (.Name x p) "append" p2) [e] [] p3) none pos.line X.env = pure false := by rfl) (hbase : attributeBase (.Name x p) "append" X.env (eval (.Name x p) X.env) = eval (.Name x p) X.env := by rfl)
    (hfew : ((backTo p3 (starEach [e] X.env)).all (fun x => !x.1) && (backToKw p3 (keywordEach [] X.env)).all (fun x => x.1.isSome) && decide (([e] : List Expr).length + ([] : List Keyword).length + (if ([] : List Keyword).isEmpty then 0 else 1) < 30)) = true := by rfl)
    (hline : (p2.endLine == p3.line) = true := by rfl) (hs : starEach [e] X.env = (false, eval e X.env) :: starEach [] X.env := by rfl) (hplain : (backTo p3 (starEach [] X.env)).any (·.1) = false := by rfl) :
    SB X ρ ρe (.Expr (.Call (.Attribute (.Name x p) "append" p2) [e] [] p3) pos :: rest) (onL l (r.bind fun d => (D.append l d).bind k)) o := fun W tk =>
  PSs_imp (pss_cons (ps_expr (pe_bm F.plainAttrs_list F.slot_list_append F.type_list_append mt_append (pe_var hx hv h1 h2) (pa_cons (he W tk) pa_nil hs) hbase hfew hline hs hplain) hs0) (PSs_ex fun d => h d W tk)) fun Dn σ H q => by
    obtain ⟨b, O, m, nb, ko, ke⟩ := q
    cases l with
    | lst ds =>
      obtain ⟨a, vs0, ea, ha, _⟩ := own_lst m hi
      refine ⟨_, ea, .inl ⟨rfl, vs0, .inl (.inl ha)⟩, tE.bind m nb (fun e z => (ke e z).to w) fun d ed nb1 _ v H1 s1 m1 dr => ?_⟩
      obtain ⟨a', vs, ea', ha', dvs⟩ := own_lst m1 hi
      rw [ea] at ea'
      cases ea'
      rw [ed] at ko ke
      replace nb1 : (D.append (.lst ds) d).bind k ≠ .bad := nb1
      replace ko : ∀ a, (D.append (.lst ds) d).bind k = .ok a → _ := ko
      replace ke : ∀ a, (D.append (.lst ds) d).bind k = .err a → _ := ke
      by_cases hl : ds.length < L
      · have e3 : D.append (.lst ds) d = .ok (.lst (ds ++ [d])) := by show (if ds.length < L then _ else _) = _; rw [if_pos hl]
        rw [e3] at nb1 ko ke
        exact ⟨a, vs, v, rfl, rfl, ha', by rw [dvs.length, ← L_line]; exact hl, .lst (ds ++ [d]), b, O, m1.write hi ea ⟨_, rfl, dvs.append (DRs.one dr)⟩, nb1, ko, ke⟩
      · rw [show D.append (.lst ds) d = .bad by show (if ds.length < L then _ else _) = _; rw [if_neg hl]] at nb1
        exact absurd rfl nb1
    | _ => exact absurd rfl nb
end
end Dl
/-! DlJ: defs, raise. -/
namespace Dl
open PySem PySem.Spec L2
open PyProof.Rows hiding St
set_option autoImplicit false
theorem orO_none {O : Addr → Bool} : orO (fun _ => false) O = O := rfl
theorem hid_sub {O O2 : Addr → Bool} {H : Hp} : ∀ a o, hid (orO O O2) H a = some o → hid O2 H a = some o := fun a o e => by
  obtain ⟨e1, e2⟩ := hid_some.mp e
  unfold orO at e1
  rw [Bool.or_eq_false_iff] at e1
  exact hid_some.mpr ⟨e1.2, e2⟩
section
variable {P : Program} {w : World} {K : PySem.W.Frag} {mg : Str → Option Value} {base : Heap} {x qual : Str} {params : Arguments} {body : List Stmt} {scope : Scope} {dvs : List V} {kws : List (Str × V)} {f : Addr} {fd : FuncData} {N ps : List Str} {k : Nat}
/-- a def keeps its promise, by its body -/
theorem fn_ok {f0 : List D → R D} (F : FunD K x qual params body scope dvs kws f fd) (S : FnScope N ps scope) (hlen : ∀ ds, f0 ds ≠ .bad → ds.length = ps.length)
    (hbody : ∀ (cdv : Value) (A : Around) (outer : List Env) (s : Shared) (H : Hp) (E : XK), Room k (A.deeper (envOfC qual scope s.heap.objs.size f cdv)) → ∀ ds : List D, ds.length = ps.length →
      SB (cxOf (L2.CX P w) P w K mg base N qual scope f cdv A outer s H E) (ds.map Sl.d ++ List.replicate (N.length - ds.length) Sl.un) none body (f0 ds) OK.re) : FnOk P w K mg base (L2.CX P w) (k + 1) f fd ps (SpF ⟨K, mg⟩ f0) := by
  refine FunD.ok F S (fun vs H Q E ⟨ds, O, t, drs, nb, _⟩ => by rw [drs.length]; exact hlen ds nb) fun cdv A outer s H vs Q E hr ⟨ds, O, t, drs, nb, kq, ke⟩ => ?_
  have hl := hlen ds nb
  have hN : ps.length ≤ N.length := by have := congrArg List.length S.pre; rw [List.length_take] at this; omega
  refine ⟨_, hbody cdv A outer s H E hr ds hl (fun cls d _ H' => E cls d H') (takes_of rfl rfl rfl rfl), ⟨H, O⟩, fun _ => false, ?_, nb, fun d ed => ⟨fun v H' ⟨pr, dr⟩ => kq d ed v H' pr dr, fun e O' ρ σ H' m => kq d ed .non H' m.prot (by subst e; rfl)⟩, fun er ee ρ c dd σ' H' O' m' er' => ke er ee c dd H' m'.prot (er'.mono le_drop)⟩
  refine ⟨fun a o e => e, t, fun a h => (nomatch h), fun a h => (nomatch h), ?_, fun i y e => ?_, fun i y e => ?_, fun i j y z p e => ?_, fun i a er c dd e => ?_⟩
  · unfold L2.start
    rw [List.length_append, List.length_map, List.length_replicate, List.length_append, List.length_map, List.length_replicate, drs.length]
  · by_cases hi : i < ds.length
    · rw [List.getElem?_append_left (by simpa using hi), List.getElem?_map] at e
      cases q : ds[i]? with
      | none => rw [q] at e; cases e
      | some d =>
        rw [q] at e
        cases e
        obtain ⟨v, ev, dv⟩ := drs.get q
        refine ⟨v, ?_, dv⟩
        unfold L2.start
        rw [List.getElem?_append_left (by rw [List.length_map, drs.length]; exact hi), List.getElem?_map, ev]
        rfl
    · rw [List.getElem?_append_right (by simpa using hi), List.getElem?_replicate] at e
      split at e <;> cases e
  · by_cases hi : i < ds.length
    · rw [List.getElem?_append_left (by simpa using hi), List.getElem?_map] at e
      cases q : ds[i]? with
      | none => rw [q] at e; cases e
      | some d => rw [q] at e; cases e
    · rw [List.getElem?_append_right (by simpa using hi), List.getElem?_replicate] at e
      split at e <;> cases e
  · by_cases hi : i < ds.length
    · rw [List.getElem?_append_left (by simpa using hi), List.getElem?_map] at e
      cases q : ds[i]? with
      | none => rw [q] at e; cases e
      | some d => rw [q] at e; cases e
    · rw [List.getElem?_append_right (by simpa using hi), List.getElem?_replicate] at e
      split at e <;> cases e
  · by_cases hi : i < ds.length
    · rw [List.getElem?_append_left (by simpa using hi), List.getElem?_map] at e
      cases q : ds[i]? with
      | none => rw [q] at e; cases e
      | some d => rw [q] at e; cases e
    · rw [List.getElem?_append_right (by simpa using hi), List.getElem?_replicate] at e
      split at e <;> cases e
theorem fn_ok0 {n : Nat} {g : R D} (F : FunD K x qual params body scope dvs kws f fd) (S : FnScope N [] scope) (hn : N.length = n) (hbody : ∀ (cdv : Value) (A : Around) (outer : List Env) (s : Shared) (H : Hp) (E : XK), Room k (A.deeper (envOfC qual scope s.heap.objs.size f cdv)) →
      SB (cxOf (L2.CX P w) P w K mg base N qual scope f cdv A outer s H E) (List.replicate n Sl.un) none body g OK.re) : FnOk P w K mg base (L2.CX P w) (k + 1) f fd [] (SpF ⟨K, mg⟩ (fn0 g)) :=
  fn_ok F S (fun ds h => by match ds, h with | [], _ => rfl | _ :: _, h => exact absurd rfl h) fun cdv A outer s H E hr ds hl => by
    match ds, hl with
    | [], _ => rw [hn]; exact hbody cdv A outer s H E hr
theorem fn_ok1 {n : Nat} {p1 : Str} {g : D → R D} (F : FunD K x qual params body scope dvs kws f fd) (S : FnScope N [p1] scope) (hn : N.length = n + 1) (hbody : ∀ (cdv : Value) (A : Around) (outer : List Env) (s : Shared) (H : Hp) (E : XK), Room k (A.deeper (envOfC qual scope s.heap.objs.size f cdv)) → ∀ a,
      SB (cxOf (L2.CX P w) P w K mg base N qual scope f cdv A outer s H E) (.d a :: List.replicate n Sl.un) none body (g a) OK.re) : FnOk P w K mg base (L2.CX P w) (k + 1) f fd [p1] (SpF ⟨K, mg⟩ (fn1 g)) :=
  fn_ok F S (fun ds h => by match ds, h with | [a], _ => rfl | [], h => exact absurd rfl h | _ :: _ :: _, h => exact absurd rfl h) fun cdv A outer s H E hr ds hl => by
    match ds, hl with
    | [a], _ => rw [hn]; exact hbody cdv A outer s H E hr a
theorem fn_ok2 {n : Nat} {p1 p2 : Str} {g : D → D → R D} (F : FunD K x qual params body scope dvs kws f fd) (S : FnScope N [p1, p2] scope) (hn : N.length = n + 2) (hbody : ∀ (cdv : Value) (A : Around) (outer : List Env) (s : Shared) (H : Hp) (E : XK), Room k (A.deeper (envOfC qual scope s.heap.objs.size f cdv)) → ∀ a b,
      SB (cxOf (L2.CX P w) P w K mg base N qual scope f cdv A outer s H E) (.d a :: .d b :: List.replicate n Sl.un) none body (g a b) OK.re) : FnOk P w K mg base (L2.CX P w) (k + 1) f fd [p1, p2] (SpF ⟨K, mg⟩ (fn2 g)) :=
  fn_ok F S (fun ds h => by match ds, h with | [a, b], _ => rfl | [], h => exact absurd rfl h | [_], h => exact absurd rfl h | _ :: _ :: _ :: _, h => exact absurd rfl h) fun cdv A outer s H E hr ds hl => by
    match ds, hl with
    | [a, b], _ => rw [hn]; exact hbody cdv A outer s H E hr a b
theorem fn_ok3 {n : Nat} {p1 p2 p3 : Str} {g : D → D → D → R D} (F : FunD K x qual params body scope dvs kws f fd) (S : FnScope N [p1, p2, p3] scope) (hn : N.length = n + 3) (hbody : ∀ (cdv : Value) (A : Around) (outer : List Env) (s : Shared) (H : Hp) (E : XK), Room k (A.deeper (envOfC qual scope s.heap.objs.size f cdv)) → ∀ a b c,
      SB (cxOf (L2.CX P w) P w K mg base N qual scope f cdv A outer s H E) (.d a :: .d b :: .d c :: List.replicate n Sl.un) none body (g a b c) OK.re) : FnOk P w K mg base (L2.CX P w) (k + 1) f fd [p1, p2, p3] (SpF ⟨K, mg⟩ (fn3 g)) :=
  fn_ok F S (fun ds h => by match ds, h with | [a, b, c], _ => rfl | [], h => exact absurd rfl h | [_], h => exact absurd rfl h | [_, _], h => exact absurd rfl h | _ :: _ :: _ :: _ :: _, h => exact absurd rfl h) fun cdv A outer s H E hr ds hl => by
    match ds, hl with
    | [a, b, c], _ => rw [hn]; exact hbody cdv A outer s H E hr a b c
theorem fn_ok4 {n : Nat} {p1 p2 p3 p4 : Str} {g : D → D → D → D → R D} (F : FunD K x qual params body scope dvs kws f fd) (S : FnScope N [p1, p2, p3, p4] scope) (hn : N.length = n + 4) (hbody : ∀ (cdv : Value) (A : Around) (outer : List Env) (s : Shared) (H : Hp) (E : XK), Room k (A.deeper (envOfC qual scope s.heap.objs.size f cdv)) → ∀ a b c d,
      SB (cxOf (L2.CX P w) P w K mg base N qual scope f cdv A outer s H E) (.d a :: .d b :: .d c :: .d d :: List.replicate n Sl.un) none body (g a b c d) OK.re) : FnOk P w K mg base (L2.CX P w) (k + 1) f fd [p1, p2, p3, p4] (SpF ⟨K, mg⟩ (fn4 g)) :=
  fn_ok F S (fun ds h => by match ds, h with | [a, b, c, d], _ => rfl | [], h => exact absurd rfl h | [_], h => exact absurd rfl h | [_, _], h => exact absurd rfl h | [_, _, _], h => exact absurd rfl h | _ :: _ :: _ :: _ :: _ :: _, h => exact absurd rfl h) fun cdv A outer s H E hr ds hl => by
    match ds, hl with
    | [a, b, c, d], _ => rw [hn]; exact hbody cdv A outer s H E hr a b c d
theorem fn_ok5 {n : Nat} {p1 p2 p3 p4 p5 : Str} {g : D → D → D → D → D → R D} (F : FunD K x qual params body scope dvs kws f fd) (S : FnScope N [p1, p2, p3, p4, p5] scope) (hn : N.length = n + 5) (hbody : ∀ (cdv : Value) (A : Around) (outer : List Env) (s : Shared) (H : Hp) (E : XK), Room k (A.deeper (envOfC qual scope s.heap.objs.size f cdv)) → ∀ a b c d e,
      SB (cxOf (L2.CX P w) P w K mg base N qual scope f cdv A outer s H E) (.d a :: .d b :: .d c :: .d d :: .d e :: List.replicate n Sl.un) none body (g a b c d e) OK.re) : FnOk P w K mg base (L2.CX P w) (k + 1) f fd [p1, p2, p3, p4, p5] (SpF ⟨K, mg⟩ (fn5 g)) :=
  fn_ok F S (fun ds h => by match ds, h with | [a, b, c, d, e], _ => rfl | [], h => exact absurd rfl h | [_], h => exact absurd rfl h | [_, _], h => exact absurd rfl h | [_, _, _], h => exact absurd rfl h | [_, _, _, _], h => exact absurd rfl h | _ :: _ :: _ :: _ :: _ :: _ :: _, h => exact absurd rfl h) fun cdv A outer s H E hr ds hl => by
    match ds, hl with
    | [a, b, c, d, e], _ => rw [hn]; exact hbody cdv A outer s H E hr a b c d e
theorem fn_ok6 {n : Nat} {p1 p2 p3 p4 p5 p6 : Str} {g : D → D → D → D → D → D → R D} (F : FunD K x qual params body scope dvs kws f fd) (S : FnScope N [p1, p2, p3, p4, p5, p6] scope) (hn : N.length = n + 6) (hbody : ∀ (cdv : Value) (A : Around) (outer : List Env) (s : Shared) (H : Hp) (E : XK), Room k (A.deeper (envOfC qual scope s.heap.objs.size f cdv)) → ∀ a b c d e u,
      SB (cxOf (L2.CX P w) P w K mg base N qual scope f cdv A outer s H E) (.d a :: .d b :: .d c :: .d d :: .d e :: .d u :: List.replicate n Sl.un) none body (g a b c d e u) OK.re) : FnOk P w K mg base (L2.CX P w) (k + 1) f fd [p1, p2, p3, p4, p5, p6] (SpF ⟨K, mg⟩ (fn6 g)) :=
  fn_ok F S (fun ds h => by match ds, h with | [a, b, c, d, e, u], _ => rfl | [], h => exact absurd rfl h | [_], h => exact absurd rfl h | [_, _], h => exact absurd rfl h | [_, _, _], h => exact absurd rfl h | [_, _, _, _], h => exact absurd rfl h | [_, _, _, _, _], h => exact absurd rfl h | _ :: _ :: _ :: _ :: _ :: _ :: _ :: _, h => exact absurd rfl h) fun cdv A outer s H E hr ds hl => by
    match ds, hl with
    | [a, b, c, d, e, u], _ => rw [hn]; exact hbody cdv A outer s H E hr a b c d e u
end

/-! ### own exceptions -/
/-- C's __init__: self.f = its argument -/
def SpI (C : Addr) (f : Str) : Sp := fun vs H Q _ => ∃ a v, vs = [.ref a, v] ∧ H a = some (exo a C none) ∧ ∀ dx, H dx = none → dx ≠ a → Q .non (upd (upd H dx (exd dx [(f, v)])) a (exo a C (some dx)))
structure OwnEx (P : Program) (w : World) (K : PySem.W.Frag) (mg : Str → Option Value) (base : Heap) (c f : Str) (C : Addr) : Prop where
  gC : mg c = some (.ref C)
  T : OexC K C
  no : PySem.W.findIn K (.ref C) f = some none
  ini : ∃ fI fd ps, PySem.W.findIn K (.ref C) "__init__" = some (some (.ref fI)) ∧ PySem.W.typeIn K (.ref fI) = some (.type "function") ∧ FnOk P w K mg base (L2.CX P w) 1 fI fd ps (SpI C f) ∧ Binds K fd ps []
theorem init_ok {P : Program} {w : World} {K : PySem.W.Frag} {mg : Str → Option Value} {base : Heap} {x qual : Str} {params : Arguments} {scope : Scope} {dvs : List V} {kws : List (Str × V)} {fI C : Addr} {fd : FuncData} {fl : Str} {p1 p2 p3 p4 : Pos}
    (F : FunD K x qual params [.Assign [.Attribute (.Name "self" p1) fl p2] (.Name fl p3) p4] scope dvs kws fI fd) (S : FnScope ["self", fl] ["self", fl] scope) (T : OexC K C) (no : PySem.W.findIn K (.ref C) fl = some none) (h1 : (fl == ("__debug__" : Str)) = false := by decide) (h2 : (fl == ("__classdict__" : Str)) = false := by decide) :
    FnOk P w K mg base (L2.CX P w) 1 fI fd ["self", fl] (SpI C fl) := by
  refine FunD.ok F S (fun vs H Q E ⟨a, v, e, _⟩ => by rw [e]; rfl) fun cdv A outer s H vs Q E hr ⟨a, v, ev, ha, q⟩ => ?_
  have vs0 := S.par "self" (List.mem_cons_self ..)
  have vs1 := S.par fl (List.mem_cons_of_mem _ (List.mem_cons_self ..))
  refine ⟨_, pss_one (ps_ost (pe_var (i := 0) rfl (vs0.elim .inl fun z => .inr (.inl z))) (pe_var (i := 1) rfl (vs1.elim .inl fun z => .inr (.inl z)) h1 h2)), ?_⟩
  subst ev
  exact ⟨v, rfl, .ref a, rfl, a, C, rfl, T, no, .inl ⟨ha, fun dx hd hne => q dx hd hne⟩⟩
section
variable {α : Type} {X : Cx} {ρ : List Sl} {ρe : Option (List Sl)} {o : α → OK} {rest : List Stmt} {e : Expr} {r : R D} {pos p p' : Pos} {C : Addr}
/-- raise x(e) -/
theorem b_raise1 {c f : String} (hc : X.calm = true) (hr : Room 2 X.A) (M : OwnEx X.prog X.w X.K X.mg X.base (cnm c) (cnm f) C) (hg : Gl X (cnm c)) (he : EE X ρ e r) (w : Wko ρe ρ := by trivial) (hdb : (cnm c == ("__debug__" : Str)) = false := by decide)
    (hs : starEach [e] X.env = (false, eval e X.env) :: starEach [] X.env := by rfl) (hpl : (backTo pos (starEach [] X.env)).any (·.1) = false := by rfl) : SB X ρ ρe (.Raise (some (.Call (.Name (cnm c) p) [e] [] pos)) none p' :: rest) (raise1 (α := α) c f r) o := fun W tk => by
  obtain ⟨fI, fd, ps, i1, i2, i3, i4⟩ := M.ini
  refine PSs_imp (pss_cons (ps_raise hc tk (pmk_oex (dvs := []) M.T i1 i2 i3 hr i4 .nil passL hg M.gC (pa_cons (he W tk) pa_nil hs) hdb hs hpl)) pss_never) fun Dn σ H q => ?_
  refine tB.expr (Dn := Dn) (k := fun d => R.err ⟨c, [(f, d)]⟩) q w fun b O d v H1 ed s1 m1 dr nb ko ke => ?_
  refine ⟨by simp, fun a ha => ⟨a, v, rfl, upd_same, fun dx hd hne => ⟨rfl, dx, [(cnm f, v)], upd_same, by rw [upd_ne hne, upd_same], ?_, ?_⟩⟩⟩
  · rw [upd_ne hne] at hd; exact hd
  · have hd1 : H1 dx = none := by rw [upd_ne hne] at hd; exact hd
    have s3 : Same H1 (upd (del (upd (upd (upd H1 a (exo a C none)) dx (exd dx [(cnm f, v)])) a (exo a C (some dx))) a) dx (.xd [(cnm f, v)])) := fun y u z => by
      have n1 : y ≠ a := ne_of_none z ha
      have n2 : y ≠ dx := ne_of_none z hd1
      rw [upd_ne n2, del_ne n1, upd_ne n1, upd_ne n2, upd_ne n1]
      exact z
    refine (ke _ rfl).to w (.ref C) (some dx) σ _ O (m1.same s3) ⟨C, rfl, M.gC, dx, [(cnm f, v)], rfl, hid_some.mpr ⟨m1.fresh hd1, upd_same⟩, ?_⟩
    exact ⟨_, [], rfl, ⟨rfl, dr.mono (hid_same s3)⟩, rfl⟩
end
end Dl
/-! DlK: sorted, texts, isinstance, comprehensions, loops in short. -/
namespace Dl
open PySem PySem.Spec L2
open PyProof.Rows hiding St
set_option autoImplicit false
theorem lexN_dec (a b : List Nat) : lexN a b = decide (a < b) := by
  induction a generalizing b with
  | nil => cases b <;> simp [lexN]
  | cons x a ih =>
    cases b with
    | nil => simp [lexN]
    | cons y b =>
      show (if x < y then true else if x = y then lexN a b else false) = _
      rw [ih]
      by_cases h1 : x < y
      · simp [h1, List.cons_lt_cons_iff]
      · by_cases h2 : x = y
        · simp [h2, List.cons_lt_cons_iff]
        · simp [h1, h2, List.cons_lt_cons_iff]
mutual
theorem toks_py : ∀ d : D, d.toks = PySem.W.keyToks d.py
  | .non => rfl
  | .bl b => rfl
  | .int n => rfl
  | .str x => rfl
  | .lst xs => tokss_py xs
  | .tup xs => tokss_py xs
  | .dct _ _ => rfl
  | .obj _ _ => rfl
  | .scr _ => rfl
theorem tokss_py : ∀ ds : List D, tokss ds = PySem.W.keyToksAll (pys ds)
  | [] => rfl
  | d :: ds => by
    show Sum.inl 1 :: (d.toks ++ tokss ds) = Sum.inl 1 :: (PySem.W.keyToks d.py ++ PySem.W.keyToksAll (pys ds))
    rw [toks_py d, tokss_py ds]
end
theorem itB_eq (a b : Int ⊕ List Nat) : itB a b = PyProof.Rows.itemLt a b := by
  cases a <;> cases b <;> first | rfl | exact lexN_dec _ _
theorem lexB_eq : ∀ (a b : List (Int ⊕ List Nat)), lexB a b = PyProof.Rows.lexLt PyProof.Rows.itemOrd a b
  | [], [] => rfl
  | [], _ :: _ => rfl
  | _ :: _, [] => rfl
  | x :: r, y :: t => by
    show (itB x y || (!itB y x && lexB r t)) = _
    rw [itB_eq, itB_eq, lexB_eq r t]
    exact (PyProof.Rows.lex_cons (O := PyProof.Rows.itemOrd) x y r t).symm
theorem leT_eq : D.leT = PySem.W.dataLe false D.py := by
  funext a b
  show (!lexB b.toks a.toks) = _
  rw [lexB_eq, toks_py, toks_py]
  rfl
mutual
theorem alike_py : ∀ x y : D, x.alike y = true → PySem.W.alike x.py y.py = true
  | .non, y, h => by cases y <;> first | rfl | cases h
  | .bl _, y, h => by cases y <;> first | rfl | cases h
  | .int _, y, h => by cases y <;> first | rfl | cases h
  | .str _, y, h => by cases y <;> first | rfl | cases h
  | .lst xs, y, h => by
    cases y with
    | lst ys => exact alikes_py xs ys h
    | _ => cases h
  | .tup xs, y, h => by
    cases y with
    | tup ys => exact alikes_py xs ys h
    | _ => cases h
  | .dct _ _, y, h => by cases h
  | .obj _ _, y, h => by cases h
  | .scr _, y, h => by cases h
theorem alikes_py : ∀ xs ys : List D, alikes xs ys = true → PySem.W.alikeAll (pys xs) (pys ys) = true
  | [], ys, h => by cases ys <;> rfl
  | x :: xs, [], h => rfl
  | x :: xs, y :: ys, h => by
    obtain ⟨h1, h2⟩ := Bool.and_eq_true_iff.mp (show (x.alike y && alikes xs ys) = true from h)
    show (PySem.W.alike x.py y.py && PySem.W.alikeAll (pys xs) (pys ys)) = true
    rw [alike_py x y h1, alikes_py xs ys h2]; rfl
end
theorem okds_mem : ∀ {ds : List D} {n : Nat}, okds ds n = true → ∀ d ∈ ds, d.okd n = true
  | [], _, _, d, h => by cases h
  | e :: ds, n, h, d, hd => by
    obtain ⟨h1, h2⟩ := Bool.and_eq_true_iff.mp (show (e.okd n && okds ds n) = true from h)
    rcases List.mem_cons.mp hd with z | z
    · rw [z]; exact h1
    · exact okds_mem h2 d z
theorem sortable_of {ds : List D} (h : sortable ds = true) : okds ds 60 = true ∧ PySem.W.AllAlike (ds.map D.py) ∧ PySem.W.Sortable (ds.map D.py) := by
  obtain ⟨h1, h3⟩ := Bool.and_eq_true_iff.mp (show ((okds ds 60 && (ds.all fun x => ds.all fun y => x.alike y)) && (ds.all D.tupNE || ds.all D.atomS)) = true from h)
  obtain ⟨h1, h2⟩ := Bool.and_eq_true_iff.mp h1
  refine ⟨h1, fun d hd d' hd' => ?_, ?_⟩
  · obtain ⟨x, hx, rfl⟩ := List.mem_map.mp hd
    obtain ⟨y, hy, rfl⟩ := List.mem_map.mp hd'
    exact alike_py x y (List.all_eq_true.mp (List.all_eq_true.mp h2 x hx) y hy)
  · rcases Bool.or_eq_true_iff.mp h3 with h3 | h3
    · refine .inl fun d hd => ?_
      obtain ⟨x, hx, rfl⟩ := List.mem_map.mp hd
      have q := List.all_eq_true.mp h3 x hx
      unfold D.tupNE at q
      split at q
      · exact ⟨_, _, rfl⟩
      · cases q
    · refine .inr fun d hd => ?_
      obtain ⟨x, hx, rfl⟩ := List.mem_map.mp hd
      have q := List.all_eq_true.mp h3 x hx
      have k := okds_mem h1 x hx
      cases x with
      | non => cases q
      | tup _ => cases q
      | dct _ _ => cases k
      | obj _ _ => cases k
      | scr _ => cases k
      | _ => exact ⟨fun z => (nomatch z), fun _ z => nomatch z⟩
section
variable {X : Cx} {σ : L2.St} {H : Hp} {s : Shared} {pins : List (Addr × Obj)} {P : Hp}
/-- values by what they stand for -/
theorem each_of : ∀ {ds : List D} {vs : List V} {us : List Value}, DRs (gx X) P ds vs → Vals vs us → PySem.W.EachIs (fun u d => ∃ x, RelV x u ∧ DR (gx X) P d x) us ds
  | [], vs, us, h, r => by cases (show vs = [] from h); cases r; exact .nil
  | d :: ds, vs, us, h, r => by
    obtain ⟨v, t, e, h1, h2⟩ := h
    subst e
    cases r with
    | cons r1 r2 => exact .cons ⟨v, r1, h1⟩ (each_of h2 r2)
theorem of_each : ∀ {ds : List D} {us : List Value}, PySem.W.EachIs (fun u d => ∃ x, RelV x u ∧ DR (gx X) P d x) us ds → ∃ vs, Vals vs us ∧ DRs (gx X) P ds vs
  | _, _, .nil => ⟨[], .nil, rfl⟩
  | _, _, .cons ⟨x, r, d⟩ t => by
    obtain ⟨vs, r2, d2⟩ := of_each t
    exact ⟨x :: vs, .cons r r2, x, vs, rfl, d, d2⟩
theorem each_reads (I : L2.Inv X pins σ H s) (l : Le P H) : ∀ {ds : List D} {us : List Value}, okds ds 60 = true → PySem.W.EachIs (fun u d => ∃ x, RelV x u ∧ DR (gx X) P d x) us ds → PySem.W.EachIs (fun u d => ∃ as, Reads s.heap u d.py as) us ds
  | _, _, _, .nil => .nil
  | d :: ds, _, h, .cons ⟨x, r, dr⟩ t => by
    obtain ⟨h1, h2⟩ := Bool.and_eq_true_iff.mp (show (d.okd 60 && okds ds 60) = true from h)
    exact .cons (Dp.reads I _ _ _ ((dr.mono l).dp d x 60 h1) r) (each_reads I l h2 t)
theorem c_sorted (hu : X.A.units + 65 < cLine) : CalD X (.builtin "sorted") (fn1 D.sorted) := by
  refine ⟨fun ds e h => ?_, fun pins s σ H O vs us ds d I t r dr e => ?_⟩
  · unfold fn1 D.sorted at h
    split at h
    · split at h
      · split at h <;> cases h
      · cases h
    · cases h
  · match ds, e with
    | [a], e =>
      cases a with
      | lst es =>
        replace e : (if sortable es = true then R.ok (.lst (es.mergeSort D.leT)) else R.bad) = .ok d := e
        cases q : sortable es with
        | false => rw [q] at e; cases e
        | true =>
          rw [q, if_pos rfl] at e
          cases e
          obtain ⟨k1, k2, k3⟩ := sortable_of q
          obtain ⟨v, vr, ev, dv, hn⟩ := dr
          cases (show vr = [] from hn)
          subst ev
          obtain ⟨p, xs, ex, hp, dxs⟩ := dv
          subst ex
          rw [Vals.ref1 r]
          obtain ⟨its, rv, hl, hz⟩ := I.list (show SqL X.K H p xs from .inl (hid_le.rd _ _ hp))
          have E := each_of (X := X) dxs rv
          refine PySem.W.sorted_data (enc := D.py) hl.isList E (each_reads I hid_le k1 E) k2 k3 (by rw [← E.length, ← rv.length]; exact hz) (fun b hb => ?_) fun out hlen hout => ?_
          · have z := ((dxs.lay _ _ 60 k1).2)
            have z2 : b.py.depth ≤ 60 := by
              obtain ⟨i, hi, e⟩ := List.mem_iff_getElem.mp hb
              obtain ⟨v, _, dv⟩ := dxs.get (i := i) (d := b) (by rw [← e]; exact List.getElem?_eq_getElem hi)
              exact (dv.lay b v 60 (okds_mem k1 b hb)).2
            omega
          · rw [← leT_eq] at hout
            obtain ⟨ys, ry, dys⟩ := of_each hout
            obtain ⟨ep, he'⟩ := PyProof.Rows.sortedAll_at s.heap its out.toArray
            have hl2 : ys.length ≤ sizeLine := by
              rw [dys.length, List.length_mergeSort, ← dxs.length]
              exact hz
            have hf := I.hok.fresh (Nat.le_succ s.heap.objs.size)
            refine ⟨.ref _, upd H (s.heap.objs.size + 1) (.lst ys), I.laid (t' := s.toks) (fun _ _ => PyProof.Rows.sortedAll_old) (Nat.le_succ _) ⟨hl2, out, ep, ry, he'⟩, rfl, same_upd hf, DR.newLst t hf dys⟩
      | _ => cases e
    | [], e => cases e
    | _ :: _ :: _, e => cases e
end

/-! ### isinstance -/
def Ty.nm : Ty → String
  | .int => "int"
  | .str => "str"
  | .bool => "bool"
  | .list => "list"
  | .tuple => "tuple"
  | .dict => "dict"
def D.tyN : D → String
  | .non => "NoneType"
  | .bl _ => "bool"
  | .int _ => "int"
  | .str _ => "str"
  | .lst _ => "list"
  | .tup _ => "tuple"
  | .dct _ _ => "dict"
  | .obj _ _ => ""
  | .scr _ => ""
theorem kit_non (t : Ty) : kitB "NoneType" t.nm = some (match t with | .int => false | .str => false | .bool => false | .list => false | .tuple => false | .dict => false) := by cases t <;> decide +kernel
theorem kit_bl (t : Ty) : kitB "bool" t.nm = some (match t with | .int => true | .str => false | .bool => true | .list => false | .tuple => false | .dict => false) := by cases t <;> decide +kernel
theorem kit_int (t : Ty) : kitB "int" t.nm = some (match t with | .int => true | .str => false | .bool => false | .list => false | .tuple => false | .dict => false) := by cases t <;> decide +kernel
theorem kit_str (t : Ty) : kitB "str" t.nm = some (match t with | .int => false | .str => true | .bool => false | .list => false | .tuple => false | .dict => false) := by cases t <;> decide +kernel
theorem kit_lst (t : Ty) : kitB "list" t.nm = some (match t with | .int => false | .str => false | .bool => false | .list => true | .tuple => false | .dict => false) := by cases t <;> decide +kernel
theorem kit_tup (t : Ty) : kitB "tuple" t.nm = some (match t with | .int => false | .str => false | .bool => false | .list => false | .tuple => true | .dict => false) := by cases t <;> decide +kernel
theorem kit_dct (t : Ty) : kitB "dict" t.nm = some (match t with | .int => false | .str => false | .bool => false | .list => false | .tuple => false | .dict => true) := by cases t <;> decide +kernel
theorem kitB_all (d : D) (t : Ty) (h : ∀ c fs, d ≠ .obj c fs) (h' : ∀ ns, d ≠ .scr ns) : kitB d.tyN t.nm = some (d.isT t) := by
  cases d with
  | obj c fs => exact absurd rfl (h c fs)
  | scr ns => exact absurd rfl (h' ns)
  | non => exact (kit_non t).trans (by cases t <;> rfl)
  | bl _ => exact (kit_bl t).trans (by cases t <;> rfl)
  | int _ => exact (kit_int t).trans (by cases t <;> rfl)
  | str _ => exact (kit_str t).trans (by cases t <;> rfl)
  | lst _ => exact (kit_lst t).trans (by cases t <;> rfl)
  | tup _ => exact (kit_tup t).trans (by cases t <;> rfl)
  | dct _ _ => exact (kit_dct t).trans (by cases t <;> rfl)
section
variable {X : Cx} {ρ : List Sl} {p p2 pos : Pos} {e : Expr} {r : R D} {G : Gx} {P H : Hp}
theorem DR.tyX {K : PySem.W.Frag} (l : Le P H) {d : D} {v : V} {z : D} {t : Ty} (h : DR G P d v) (e : D.isi t d = .ok z) : TyX K H v (.type d.tyN) ∧ z = .bl (d.isT t) ∧ (∀ c fs, d ≠ .obj c fs) ∧ ∀ ns, d ≠ .scr ns := by
  cases d with
  | non => cases (show v = _ from h); cases e; exact ⟨.base .non, rfl, (fun _ _ z => nomatch z), fun _ z => nomatch z⟩
  | bl b => cases (show v = _ from h); cases e; exact ⟨.base (.bl b), rfl, (fun _ _ z => nomatch z), fun _ z => nomatch z⟩
  | int b => cases (show v = _ from h); cases e; exact ⟨.base (.int b), rfl, (fun _ _ z => nomatch z), fun _ z => nomatch z⟩
  | str b => obtain ⟨h, _⟩ := h; subst h; cases e; exact ⟨.base (.str _), rfl, (fun _ _ z => nomatch z), fun _ z => nomatch z⟩
  | lst ds =>
    obtain ⟨a, vs, rfl, hp, _⟩ := h
    cases e
    rcases l.rd _ _ hp with q | ⟨o, q⟩
    · exact ⟨.base (.lst q), rfl, (fun _ _ z => nomatch z), fun _ z => nomatch z⟩
    · exact ⟨.base (.frz q), rfl, (fun _ _ z => nomatch z), fun _ z => nomatch z⟩
  | tup ds =>
    obtain ⟨a, vs, rfl, hp, _⟩ := h
    cases e
    exact ⟨.base (.tup (l.tup _ _ hp)), rfl, (fun _ _ z => nomatch z), fun _ z => nomatch z⟩
  | dct t kvs =>
    cases t with
    | true => cases e
    | false =>
      obtain ⟨a, rfl, ⟨_, ws, hp, _⟩ | ⟨z, _⟩⟩ := h
      · cases e
        rcases l.rd _ _ hp with q | ⟨o, q⟩
        · exact ⟨.base (.dK q), rfl, (fun _ _ z => nomatch z), fun _ z => nomatch z⟩
        · exact ⟨.fDict q, rfl, (fun _ _ z => nomatch z), fun _ z => nomatch z⟩
      · cases z
  | obj c fs => cases e
  | scr ns => cases e
theorem pe_tyName {x : Str} {n : String} (hg : Gl X x) (hm : X.mg x = none) (hv : bootBuiltins x = some (.type n)) (hn : x ≠ "__name__" := by decide) (hd : (x == ("__debug__" : Str)) = false := by decide) : PE X (.Name x pos) (tC (.ty n)) :=
  ⟨fun pins s σ H Q I h => ld_blt I hg hm hv ⟨.ty n, H, I, rfl, h⟩ hn hd⟩
theorem e_isi (t : Ty) {x : Str} (hg : Gl X "isinstance") (hm : X.mg "isinstance" = none) (he : EE X ρ e r) (hgx : Gl X x) (hmx : X.mg x = none) (hv : bootBuiltins x = some (.type t.nm)) (hn : x ≠ "__name__" := by decide) (hd : (x == ("__debug__" : Str)) = false := by decide)
    (hs : starEach [e, .Name x p2] X.env = (false, eval e X.env) :: starEach [.Name x p2] X.env := by rfl) (hs2 : starEach [.Name x p2] X.env = (false, eval (.Name x p2) X.env) :: starEach [] X.env := by rfl) (hpl : (backTo pos (starEach [.Name x p2] X.env)).any (·.1) = false := by rfl) :
    EE X ρ (.Call (.Name "isinstance" p) [e, .Name x p2] [] pos) (isiR t r) := fun W tk =>
  PE_imp (pe_callB call_isi hg hm (by decide +kernel) (pa_cons (he W tk) (pa_cons (pe_tyName hgx hmx hv hn hd) pa_nil hs2) hs) (by decide) (by decide) hs hpl) fun σ H Q ⟨b, O, m, nb, k, ke⟩ => by
    refine tE.bind (f := D.isi t) m nb ke fun d ed nb1 ke1 v H1 s1 m1 dr => ?_
    cases q : D.isi t d with
    | bad => exact absurd q nb1
    | err er => unfold D.isi at q; split at q <;> cases q
    | ok z =>
      obtain ⟨ty, ez, no⟩ := dr.tyX (K := X.K) (t := t) hid_le q
      exact ⟨v, .ty t.nm, .type d.tyN, .type t.nm, d.isT t, rfl, .ty _, ty, kit_ty (kitB_all d t no.1 no.2), k (.bl (d.isT t)) (by unfold isiR; rw [ed, R.bind_ok, q, ez]) _ _ s1 rfl⟩
end

/-! ### str(n), startswith -/
theorem digits_core : ∀ (f n : Nat) (ds : List Char), Nat.toDigitsCore 10 f n ds = (figs f n).map Char.ofNat ++ ds
  | 0, n, ds => rfl
  | f + 1, n, ds => by
    have hd : Nat.digitChar (n % 10) = Char.ofNat (48 + n % 10) := by
      have : n % 10 < 10 := Nat.mod_lt _ (by decide)
      generalize n % 10 = k at this
      match k, this with
      | 0, _ => decide
      | 1, _ => decide
      | 2, _ => decide
      | 3, _ => decide
      | 4, _ => decide
      | 5, _ => decide
      | 6, _ => decide
      | 7, _ => decide
      | 8, _ => decide
      | 9, _ => decide
      | k + 10, h => exact absurd h (by omega)
    unfold Nat.toDigitsCore figs
    by_cases h : n < 10
    · have h0 : n / 10 = 0 := by omega
      have h1 : n % 10 = n := by omega
      simp [h, h0, h1, hd]
      rw [h1] at hd
      exact hd
    · have h0 : n / 10 ≠ 0 := by omega
      simp only [h0, h, if_false]
      rw [digits_core f (n / 10), hd, List.map_append, List.append_assoc]
      rfl
theorem toS_str (n : Nat) : Str.ofString (toString (n : Int)) = toS (strN n) := by
  rw [Str.ofString_eq_toList]
  have e : (toString (n : Int)).toList = (strN n).map Char.ofNat := by
    show (Nat.repr n).toList = _
    unfold Nat.repr
    rw [String.toList_ofList]
    show Nat.toDigitsCore 10 (n + 1) n [] = _
    rw [digits_core]
    simp [strN]
  rw [e, List.map_map]
  unfold toS
  congr 2
  have : ∀ c ∈ strN n, (Char.toNat ∘ Char.ofNat) c = c := fun c hc => by
    have h : ∀ (f m : Nat), ∀ c ∈ figs f m, 48 ≤ c ∧ c < 58 := by
      intro f
      induction f with
      | zero => intro m c h; cases h
      | succ f ih =>
        intro m c h
        unfold figs at h
        split at h
        · have : c = 48 + m := by simpa using h
          omega
        · rcases List.mem_append.mp h with h | h
          · exact ih _ _ h
          · have : c = 48 + m % 10 := by simpa using h
            omega
    obtain ⟨h1, h2⟩ := h _ _ c hc
    show (Char.ofNat c).toNat = c
    have v : c.isValidChar := by unfold Nat.isValidChar; omega
    unfold Char.ofNat
    rw [dif_pos v]
    rfl
  conv => rhs; rw [← List.map_id (strN n)]
  exact List.map_congr_left this

section
variable {X : Cx} {ρ : List Sl} {p p2 pos : Pos} {a b : Expr} {ra rb : R D}
theorem c_str : CalD X (.type "str") (fn1 D.toStr) := by
  refine .one call_str_int (fun a e h => ?_) fun H O v a d Q t dv e k => ?_
  · unfold D.toStr at h
    split at h
    · split at h <;> cases h
    · cases h
  unfold D.toStr at e
  split at e
  · split at e
    · rename_i i hi
      cases e
      cases (show v = _ from dv)
      refine ⟨i, rfl, ?_, ?_⟩
      · have : i.natAbs < 2 ^ 1920 := Nat.lt_of_lt_of_le (show i.natAbs < 10000000000 by omega) (by decide)
        by_cases z : i.natAbs = 0
        · rw [z]; decide
        · exact (Nat.log2_lt z).mpr this
      · have e1 : ((toString i : String) : Str) = toS (strN i.toNat) := by
          have e2 : (i.toNat : Int) = i := by omega
          have e3 := toS_str i.toNat
          rw [e2] at e3
          exact e3
        have dg : ∀ (f m : Nat), ∀ c ∈ figs f m, c < 58 := by
          intro f
          induction f with
          | zero => intro m c h; cases h
          | succ f ih =>
            intro m c h
            unfold figs at h
            split at h
            · have : c = 48 + m := by simpa using h
              omega
            · rcases List.mem_append.mp h with h | h
              · exact ih _ _ h
              · have : c = 48 + m % 10 := by simpa using h
                omega
        have ln : ∀ (f m : Nat), (figs f m).length ≤ f := by
          intro f
          induction f with
          | zero => intro m; exact Nat.le_refl _
          | succ f ih =>
            intro m
            unfold figs
            split
            · simp
            · rw [List.length_append]; have := ih (m / 10); simp; omega
        have l2 : ∀ (k f m : Nat), m < 10 ^ k → 0 < k → (figs f m).length ≤ k := by
          intro k
          induction k with
          | zero => intro f m _ h; omega
          | succ k ih =>
            intro f m hm _
            cases f with
            | zero => exact Nat.zero_le _
            | succ f =>
              unfold figs
              split
              · simp
              · rename_i h10
                cases k with
                | zero => omega
                | succ k =>
                  rw [List.length_append]
                  have := ih f (m / 10) (by rw [Nat.pow_succ] at hm; omega) (by omega)
                  simp; omega
        refine k _ _ (Same.refl _) ⟨by rw [e1], ?_, fun c hc => Nat.lt_trans (dg _ _ c hc) (by decide)⟩
        have := l2 10 (i.toNat + 1) i.toNat (by omega) (by decide)
        rw [L_eq]
        exact Nat.le_trans this (by decide)
    · cases e
  · cases e
end
end Dl
/-! DlL: defs by name, methods of texts, looks at own things, comprehensions and loops in short. -/
namespace Dl
open PySem PySem.Spec L2
open PyProof.Rows hiding St
set_option autoImplicit false

/-! ### defs by name -/
structure FnG (P : Program) (w : World) (K : PySem.W.Frag) (mg : Str → Option Value) (base : Heap) (k : Nat) (x : Str) (g : List D → R D) : Prop where
  ex : ∃ f fd ps, FnOk P w K mg base (L2.CX P w) k f fd ps (SpF ⟨K, mg⟩ g) ∧ mg x = some (.ref f) ∧ PySem.W.keepIn K (.ref f) = true ∧ Binds K fd ps []
section
variable {X : Cx} {ρ : List Sl} {p p2 p3 pos : Pos} {x : Str} {e a b : Expr} {es : List Expr} {r ra rb : R D} {rs : List (R D)} {g : List D → R D} {j k : Nat}
theorem e_fn (F : FnG X.prog X.w X.K X.mg X.base j x g) (hr : Room k X.A) (hg : Gl X x) (ha : EA X ρ (e :: es) (seqR rs)) (hj : Nat.ble j k = true := by rfl) (hdb : (x == ("__debug__" : Str)) = false := by decide)
    (he : starEach (e :: es) X.env = (false, eval e X.env) :: starEach es X.env := by rfl) (hpl : (backTo pos (starEach es X.env)).any (·.1) = false := by rfl) : EE X ρ (.Call (.Name x p) (e :: es) [] pos) (Dl.callR g rs) := by
  obtain ⟨f, fd, ps, h1, h2, h3, h4⟩ := F.ex
  exact e_call (h1.mono (Nat.le_of_ble_eq_true hj)) hr hg h2 h3 h4 ha hdb he hpl
/-- a def without parameters -/
theorem e_fn0 (F : FnG X.prog X.w X.K X.mg X.base j x g) (hr : Room k X.A) (hg : Gl X x) (hj : Nat.ble j k = true := by rfl) (hdb : (x == ("__debug__" : Str)) = false := by decide) : EE X ρ (.Call (.Name x p) [] [] pos) (Dl.callR g []) := fun W tk => by
  obtain ⟨f, fd, ps, h1, h2, h3, h4⟩ := F.ex
  refine ⟨fun pins s σ H Q I ⟨b, O, m, nb, kq, ke⟩ => ?_⟩
  refine wpAny_Call_Name_kw (ld_glob I hg h2 ?_ hdb)
  refine PySem.W.callWith_K0 I.kIn h3 (run_fnS (us := []) (vs := []) (E := WE W) (h1.mono (Nat.le_of_ble_eq_true hj)) hr h4 (passAt tk σ) I .nil ?_)
  exact ⟨[], orO O b.O, m.trk', rfl, nb, fun d ed v H' s' dr => kq d ed v H' s' dr, fun er ee c dd H' s' er' => ke er ee c dd σ H' O (m.same s') er'⟩
theorem startswith_eq : ∀ (a b : List Nat), isPre b a = Txt.startswith (toS a) (toS b) := fun a b => by
  unfold Txt.startswith Builtin.Str.subAt Str.length
  have h : ((toS a).cps.extract 0 (0 + (toS b).cps.size) == (toS b).cps) = decide (a.take b.length = b) := by
    have e1 : (toS a).cps.extract 0 (0 + (toS b).cps.size) = (a.take b.length).toArray := by
      apply Array.toList_inj.mp
      simp [toS]
    rw [e1]
    show ((a.take b.length).toArray == b.toArray) = _
    by_cases h : a.take b.length = b
    · simp [h]
    · simp [h]
  rw [h]
  have h2 : ∀ (b a : List Nat), isPre b a = decide (a.take b.length = b) := by
    intro b
    induction b with
    | nil => intro a; simp [isPre]
    | cons y b ih =>
      intro a
      cases a with
      | nil => simp [isPre]
      | cons x a =>
        show (y == x && isPre b a) = _
        rw [ih a]
        by_cases e : y = x
        · simp [e]
        · have e2 : ¬ x = y := fun z => e z.symm
          simp [e, e2]
  rw [h2 b a]
  by_cases h3 : a.take b.length = b
  · have : b.length ≤ a.length := by
      have := congrArg List.length h3
      rw [List.length_take] at this
      omega
    simp [h3, toS, this]
  · simp [h3]
/-- s.startswith(t) -/
theorem m_startswith (ha : EE X ρ a ra) (hb : EE X ρ b rb) (hs : starEach [b] X.env = [(false, eval b X.env)] := by rfl) (hbase : attributeBase a "startswith" X.env (eval a X.env) = eval a X.env := by rfl) (hline : (p.endLine == pos.line) = true := by rfl) :
    EE X ρ (.Call (.Attribute a "startswith" p) [b] [] pos) (sM1 D.startswith ra rb) := fun W tk =>
  PE_imp (pe_m1 F.slot_str_startswith F.type_str_startswith mt_startswith (ha W tk) (hb W tk) hs hbase hline) fun σ H Q ⟨bs, O, m, nb, kq, ke⟩ => by
    refine tE.bind (f := fun x => match x with | .str s => rb.bind fun y => D.startswith (.str s) y | _ => .bad) m nb ke fun d ed nb1 ke1 v H1 s1 m1 dr => ?_
    cases d with
    | str z =>
      obtain ⟨ez, _⟩ := dr
      refine ⟨⟨_, ez⟩, tE.bind (f := fun y => D.startswith (.str z) y) m1 nb1 ke1 fun d2 ed2 nb2 ke2 v2 H2 s2 m2 dr2 => ?_⟩
      cases d2 with
      | str u =>
        obtain ⟨eu, _⟩ := dr2
        refine ⟨toS z, toS u, ez, by rw [eu], ?_⟩
        rw [← startswith_eq]
        exact kq (.bl (isPre u z)) (by show ra.bind _ = _; rw [ed, R.bind_ok]; show rb.bind _ = _; rw [ed2]; rfl) (.bl (isPre u z)) _ (s1.trans s2) rfl
      | _ => exact absurd rfl nb2
    | _ => exact absurd rfl nb1
end

/-! ### looks at own things -/
section
variable {X : Cx} {ρ : List Sl} {p pos : Pos} {x : Str} {e a b : Expr} {r ra rb : R D} {i : Nat} {l : D}
theorem DR.flat {G : Gx} {P P' : Hp} {d z : D} {v : V} (h : DR G P d v) (e : d.flat = .ok z) : z = d ∧ DR G P' d v := by
  cases d <;> first | (cases e; exact ⟨rfl, h⟩) | cases e
theorem e_peek (hi : ρ[i]? = some (.ow l)) (he : EE X (ρ.set i (.d l)) e r) : EE X ρ e (peekV r) := fun W tk => PE_imp (he W tk) fun σ H Q ⟨b, O, m, nb, kq, ke⟩ => by
  obtain ⟨O', m'⟩ := m.release hi
  refine ⟨b, O', m', fun z => nb (by rw [z]; rfl), fun d ed v H' s dr => ?_, fun er z => absurd (by rw [z]; rfl) nb⟩
  cases q : d.flat with
  | bad => exact absurd (by rw [ed]; exact q) nb
  | err er => exact absurd q (by cases d <;> exact fun z => nomatch z)
  | ok z =>
    obtain ⟨e1, dr'⟩ := dr.flat (P' := hid (orO O b.O) H') q
    subst e1
    exact kq z (by rw [ed]; exact q) v H' s dr'
theorem t_peek {r : R Bool} (hi : ρ[i]? = some (.ow l)) (he : ET X (ρ.set i (.d l)) e r) : ET X ρ e r.noerr := fun W tk => PT_imp (he W tk) fun σ H Q ⟨b, O, m, nb, kq, ke⟩ => by
  obtain ⟨O', m'⟩ := m.release hi
  exact ⟨b, O', m', fun z => nb (by rw [z]; rfl), fun d ed H' s => kq d (by rw [ed]; rfl) H' s, fun er z => absurd (by rw [z]; rfl) nb⟩
/-- x[k] of an own list -/
theorem e_idxOw (hv : Vis X.env.scope x) (hi : ρ[i]? = some (.ow l)) (hb : EE X ρ b rb) (hx : X.N[i]? = some x := by rfl) (hs : PlainIx b := by exact fun _ _ => rfl) (h1 : (x == ("__debug__" : Str)) = false := by decide) (h2 : (x == ("__classdict__" : Str)) = false := by decide) :
    EE X ρ (.Subscript (.Name x p) b pos) (onL l (ap2 D.idx (.ok l) rb)) := fun W tk => by
  refine ⟨fun pins s σ H Q I ⟨bs, O, m, nb, kq, ke⟩ => ?_⟩
  cases l with
  | lst ds =>
    obtain ⟨q, vs0, ea, _, _⟩ := own_lst m hi
    refine Subscript_ (L2.bin (pe_var hx hv h1 h2) (hb W tk) I (R := fun x y H2 => ∃ (vs : List V) (j : Int) (z : V), x = .ref q ∧ y = .int j ∧ H2 q = some (.lst vs) ∧ L2.atI vs j = some z ∧ Q z H2) ⟨.ref q, ea, ?_⟩ (f := subscriptTail (.Name x p) b) fun v u s2 x1 y1 H2 I2 rx ry h => ?_)
    · refine tE.bind (f := fun y => D.idx (.lst ds) y) m nb ke fun d ed nb1 ke1 v H1 s1 m1 dr => ?_
      obtain ⟨q', vs, ea', hq, dvs⟩ := own_lst m1 hi
      rw [ea] at ea'
      cases ea'
      cases d with
      | int j =>
        cases z : D.idx (.lst ds) (.int j) with
        | bad => exact absurd z nb1
        | err er =>
          have z' : R.some? (Dl.atI ds j) = .err er := z
          cases z2 : Dl.atI ds j <;> rw [z2] at z' <;> cases z'
        | ok y =>
          obtain ⟨w, ez, dz⟩ := at_get dvs (some?_ok (show R.some? (Dl.atI ds j) = .ok y from z))
          exact ⟨vs, j, w, rfl, dr, hq, ez, kq y (by show rb.bind _ = _; rw [ed]; exact z) w H1 s1 dz⟩
      | _ => exact absurd rfl nb1
    · obtain ⟨vs, j, z, ex, ey, hq, ez, kz⟩ := h
      exact ix_list (.Name x p) b pins s2 σ H2 _ _ v u Q I2 rx ry ⟨q, vs, j, z, ex, ey, .inl (.inl hq), ez, kz⟩ (hs _ _)
  | _ => exact absurd rfl nb
end
end Dl
/-! DlM: loops and comprehensions in short. -/
namespace Dl
open PySem PySem.Spec L2
open PyProof.Rows hiding St
set_option autoImplicit false

theorem hu65 {k : Nat} {A : Around} (r : Room k A) : A.units + 65 < cLine := by have := r.un; omega
/-! ### loops in short -/
section
variable {α S : Type} {X : Cx} {ρ : List Sl} {ρe : Option (List Sl)} {o : α → OK} {rest body : List Stmt} {iter : Expr} {pos p p1 p2 p3 : Pos} {i j l : Nat} {x y z : Str} {rl : R (List D)} {emb : S → List Sl} {s0 : S} {kS : S → R α} {c : D → α} {kk : Nat}
theorem b_for1F {f : D → S → R (Fl S)} (hp : PassesOwn (model X.prog X.w) X.A X.env X.xe) (hc : X.calm = true) (hN : X.N.Nodup) (hx : Loc X.env.scope x) (hi : EI X ρ (.Name x p) iter rl) (w0 : Wk (emb s0) ρ) (hl : ∀ s, Nat.blt i (emb s).length = true) (hb : ∀ s d, SB X ((emb s).set i (.d d)) ρe body (f d s) (oF emb)) (h : ∀ s, SB X (emb s) ρe rest (kS s) o)
    (hr : ∀ d, (o (c d)).ret? = some d) (w : Wko ρe ρ := by trivial) (hxi : X.N[i]? = some x := by rfl) (hf : X.fn x = true ∨ X.env.scope.names.lookup x = some .local := by first | exact .inl rfl | exact .inr rfl | assumption) (hs : ∀ x, foldedSetIterable iter X.env x = pure x := by intro _; rfl) :
    SB X ρ ρe (.For (.Name x p) iter body [] pos :: rest) (rl.bind fun xs => Fl.go (forF f xs s0) kS fun d => .ok (c d)) o :=
  b_forF (bd := fun s => bd1 (emb s) i) hp hc hi (pg_name hN hxi hx hf) (fun s => gl_name (hl s)) (fun s d e => nomatch e) (fun s d ρ' e => by cases e; exact hb s d) h w0 hr w hs
theorem b_for1N {f : D → S → R S} (hp : PassesOwn (model X.prog X.w) X.A X.env X.xe) (hc : X.calm = true) (hN : X.N.Nodup) (hx : Loc X.env.scope x) (hi : EI X ρ (.Name x p) iter rl) (w0 : Wk (emb s0) ρ) (hl : ∀ s, Nat.blt i (emb s).length = true) (hb : ∀ s d, SB X ((emb s).set i (.d d)) ρe body (f d s) fun s => OK.nc (emb s)) (h : ∀ s, SB X (emb s) ρe rest (kS s) o)
    (w : Wko ρe ρ := by trivial) (hxi : X.N[i]? = some x := by rfl) (hf : X.fn x = true ∨ X.env.scope.names.lookup x = some .local := by first | exact .inl rfl | exact .inr rfl | assumption) (hs : ∀ x, foldedSetIterable iter X.env x = pure x := by intro _; rfl) :
    SB X ρ ρe (.For (.Name x p) iter body [] pos :: rest) (rl.bind fun xs => (forN f xs s0).bind kS) o :=
  b_forN (bd := fun s => bd1 (emb s) i) hp hc hi (pg_name hN hxi hx hf) (fun s => gl_name (hl s)) (fun s d e => nomatch e) (fun s d ρ' e => by cases e; exact hb s d) h w0 w hs
theorem bd2_no {ρ : List Sl} {i j : Nat} {d : D} (h : bd2 ρ i j d = none) : ∀ a b, d ≠ .tup [a, b] := fun a b e => by subst e; cases h
theorem bd3_no {ρ : List Sl} {i j k : Nat} {d : D} (h : bd3 ρ i j k d = none) : ∀ a b c, d ≠ .tup [a, b, c] := fun a b c e => by subst e; cases h
theorem pg_tup2 {k : Nat} (hc : X.calm = true) (hN : X.N.Nodup) (hx : Loc X.env.scope x) (hy : Loc X.env.scope y) (hxi : X.N[i]? = some x := by rfl) (hyi : X.N[j]? = some y := by rfl) (hf : X.fn x = true ∨ X.env.scope.names.lookup x = some .local := by first | exact .inl rfl | exact .inr rfl | assumption)
    (hf2 : X.fn y = true ∨ X.env.scope.names.lookup y = some .local := by first | exact .inl rfl | exact .inr rfl | assumption) : PG X (.Tuple [.Name x p1, .Name y p2] k p) (gTup X.K 2 (gCons (gName i) (gCons (gName j) gNil))) :=
  pg_tup hc (pgs_cons (pg_name hN hxi hx hf) (pgs_cons (pg_name hN hyi hy hf2) pgs_nil))
theorem pg_tup3 {k : Nat} (hc : X.calm = true) (hN : X.N.Nodup) (hx : Loc X.env.scope x) (hy : Loc X.env.scope y) (hz : Loc X.env.scope z) (hxi : X.N[i]? = some x := by rfl) (hyi : X.N[j]? = some y := by rfl) (hzi : X.N[l]? = some z := by rfl) (hf : X.fn x = true ∨ X.env.scope.names.lookup x = some .local := by first | exact .inl rfl | exact .inr rfl | assumption)
    (hf2 : X.fn y = true ∨ X.env.scope.names.lookup y = some .local := by first | exact .inl rfl | exact .inr rfl | assumption) (hf3 : X.fn z = true ∨ X.env.scope.names.lookup z = some .local := by first | exact .inl rfl | exact .inr rfl | assumption) :
    PG X (.Tuple [.Name x p1, .Name y p2, .Name z p3] k p) (gTup X.K 3 (gCons (gName i) (gCons (gName j) (gCons (gName l) gNil)))) :=
  pg_tup hc (pgs_cons (pg_name hN hxi hx hf) (pgs_cons (pg_name hN hyi hy hf2) (pgs_cons (pg_name hN hzi hz hf3) pgs_nil)))
theorem b_for2F {f : D → D → S → R (Fl S)} (hp : PassesOwn (model X.prog X.w) X.A X.env X.xe) (hc : X.calm = true) (hN : X.N.Nodup) (hx : Loc X.env.scope x) (hy : Loc X.env.scope y) (hi : EI X ρ (.Tuple [.Name x p1, .Name y p2] kk p) iter rl) (w0 : Wk (emb s0) ρ) (hl : ∀ s, Nat.blt i (emb s).length = true ∧ Nat.blt j (emb s).length = true)
    (hb : ∀ s a b, SB X (((emb s).set i (.d a)).set j (.d b)) ρe body (f a b s) (oF emb)) (h : ∀ s, SB X (emb s) ρe rest (kS s) o) (hr : ∀ d, (o (c d)).ret? = some d) (w : Wko ρe ρ := by trivial) (hxi : X.N[i]? = some x := by rfl) (hyi : X.N[j]? = some y := by rfl)
    (hf : X.fn x = true ∨ X.env.scope.names.lookup x = some .local := by first | exact .inl rfl | exact .inr rfl | assumption) (hf2 : X.fn y = true ∨ X.env.scope.names.lookup y = some .local := by first | exact .inl rfl | exact .inr rfl | assumption) (hs : ∀ x, foldedSetIterable iter X.env x = pure x := by intro _; rfl) :
    SB X ρ ρe (.For (.Tuple [.Name x p1, .Name y p2] kk p) iter body [] pos :: rest) (rl.bind fun xs => Fl.go (forF (fun d s => un2 d fun a b => f a b s) xs s0) kS fun d => .ok (c d)) o :=
  b_forF (bd := fun s => bd2 (emb s) i j) hp hc hi (pg_tup2 hc hN hx hy hxi hyi hf hf2) (fun s => gl_tup2 (hl s).1 (hl s).2) (fun s d e => un2_none (bd2_no e)) (fun s d ρ' e => by obtain ⟨a, b, rfl, rfl⟩ := bd2_inv e; exact hb s a b) h w0 hr w hs
theorem b_for2N {f : D → D → S → R S} (hp : PassesOwn (model X.prog X.w) X.A X.env X.xe) (hc : X.calm = true) (hN : X.N.Nodup) (hx : Loc X.env.scope x) (hy : Loc X.env.scope y) (hi : EI X ρ (.Tuple [.Name x p1, .Name y p2] kk p) iter rl) (w0 : Wk (emb s0) ρ) (hl : ∀ s, Nat.blt i (emb s).length = true ∧ Nat.blt j (emb s).length = true)
    (hb : ∀ s a b, SB X (((emb s).set i (.d a)).set j (.d b)) ρe body (f a b s) fun s => OK.nc (emb s)) (h : ∀ s, SB X (emb s) ρe rest (kS s) o) (w : Wko ρe ρ := by trivial) (hxi : X.N[i]? = some x := by rfl) (hyi : X.N[j]? = some y := by rfl)
    (hf : X.fn x = true ∨ X.env.scope.names.lookup x = some .local := by first | exact .inl rfl | exact .inr rfl | assumption) (hf2 : X.fn y = true ∨ X.env.scope.names.lookup y = some .local := by first | exact .inl rfl | exact .inr rfl | assumption) (hs : ∀ x, foldedSetIterable iter X.env x = pure x := by intro _; rfl) :
    SB X ρ ρe (.For (.Tuple [.Name x p1, .Name y p2] kk p) iter body [] pos :: rest) (rl.bind fun xs => (forN (fun d s => un2 d fun a b => f a b s) xs s0).bind kS) o :=
  b_forN (bd := fun s => bd2 (emb s) i j) hp hc hi (pg_tup2 hc hN hx hy hxi hyi hf hf2) (fun s => gl_tup2 (hl s).1 (hl s).2) (fun s d e => un2_none (bd2_no e)) (fun s d ρ' e => by obtain ⟨a, b, rfl, rfl⟩ := bd2_inv e; exact hb s a b) h w0 w hs
theorem b_for3F {f : D → D → D → S → R (Fl S)} (hp : PassesOwn (model X.prog X.w) X.A X.env X.xe) (hc : X.calm = true) (hN : X.N.Nodup) (hx : Loc X.env.scope x) (hy : Loc X.env.scope y) (hz : Loc X.env.scope z) (hi : EI X ρ (.Tuple [.Name x p1, .Name y p2, .Name z p3] kk p) iter rl) (w0 : Wk (emb s0) ρ)
    (hl : ∀ s, Nat.blt i (emb s).length = true ∧ Nat.blt j (emb s).length = true ∧ Nat.blt l (emb s).length = true) (hb : ∀ s a b d, SB X ((((emb s).set i (.d a)).set j (.d b)).set l (.d d)) ρe body (f a b d s) (oF emb)) (h : ∀ s, SB X (emb s) ρe rest (kS s) o) (hr : ∀ d, (o (c d)).ret? = some d) (w : Wko ρe ρ := by trivial)
    (hxi : X.N[i]? = some x := by rfl) (hyi : X.N[j]? = some y := by rfl) (hzi : X.N[l]? = some z := by rfl) (hf : X.fn x = true ∨ X.env.scope.names.lookup x = some .local := by first | exact .inl rfl | exact .inr rfl | assumption) (hf2 : X.fn y = true ∨ X.env.scope.names.lookup y = some .local := by first | exact .inl rfl | exact .inr rfl | assumption)
    (hf3 : X.fn z = true ∨ X.env.scope.names.lookup z = some .local := by first | exact .inl rfl | exact .inr rfl | assumption) (hs : ∀ x, foldedSetIterable iter X.env x = pure x := by intro _; rfl) :
    SB X ρ ρe (.For (.Tuple [.Name x p1, .Name y p2, .Name z p3] kk p) iter body [] pos :: rest) (rl.bind fun xs => Fl.go (forF (fun d s => un3 d fun a b u => f a b u s) xs s0) kS fun d => .ok (c d)) o :=
  b_forF (bd := fun s => bd3 (emb s) i j l) hp hc hi (pg_tup3 hc hN hx hy hz hxi hyi hzi hf hf2 hf3) (fun s => gl_tup3 (hl s).1 (hl s).2.1 (hl s).2.2) (fun s d e => un3_none (bd3_no e)) (fun s d ρ' e => by obtain ⟨a, b, u, rfl, rfl⟩ := bd3_inv e; exact hb s a b u) h w0 hr w hs
theorem b_for3N {f : D → D → D → S → R S} (hp : PassesOwn (model X.prog X.w) X.A X.env X.xe) (hc : X.calm = true) (hN : X.N.Nodup) (hx : Loc X.env.scope x) (hy : Loc X.env.scope y) (hz : Loc X.env.scope z) (hi : EI X ρ (.Tuple [.Name x p1, .Name y p2, .Name z p3] kk p) iter rl) (w0 : Wk (emb s0) ρ)
    (hl : ∀ s, Nat.blt i (emb s).length = true ∧ Nat.blt j (emb s).length = true ∧ Nat.blt l (emb s).length = true) (hb : ∀ s a b d, SB X ((((emb s).set i (.d a)).set j (.d b)).set l (.d d)) ρe body (f a b d s) fun s => OK.nc (emb s)) (h : ∀ s, SB X (emb s) ρe rest (kS s) o) (w : Wko ρe ρ := by trivial)
    (hxi : X.N[i]? = some x := by rfl) (hyi : X.N[j]? = some y := by rfl) (hzi : X.N[l]? = some z := by rfl) (hf : X.fn x = true ∨ X.env.scope.names.lookup x = some .local := by first | exact .inl rfl | exact .inr rfl | assumption) (hf2 : X.fn y = true ∨ X.env.scope.names.lookup y = some .local := by first | exact .inl rfl | exact .inr rfl | assumption)
    (hf3 : X.fn z = true ∨ X.env.scope.names.lookup z = some .local := by first | exact .inl rfl | exact .inr rfl | assumption) (hs : ∀ x, foldedSetIterable iter X.env x = pure x := by intro _; rfl) :
    SB X ρ ρe (.For (.Tuple [.Name x p1, .Name y p2, .Name z p3] kk p) iter body [] pos :: rest) (rl.bind fun xs => (forN (fun d s => un3 d fun a b u => f a b u s) xs s0).bind kS) o :=
  b_forN (bd := fun s => bd3 (emb s) i j l) hp hc hi (pg_tup3 hc hN hx hy hz hxi hyi hzi hf hf2 hf3) (fun s => gl_tup3 (hl s).1 (hl s).2.1 (hl s).2.2) (fun s d e => un3_none (bd3_no e)) (fun s d ρ' e => by obtain ⟨a, b, u, rfl, rfl⟩ := bd3_inv e; exact hb s a b u) h w0 w hs
/-- (x, y) = e -/
theorem b_un2 {e : Expr} {r : R D} {k : D → D → R α} (hc : X.calm = true) (hN : X.N.Nodup) (hx : Loc X.env.scope x) (hy : Loc X.env.scope y) (he : EE X ρ e r) (h : ∀ a b, SB X ((ρ.set i (.d a)).set j (.d b)) ρe rest (k a b) o) (hl : Nat.blt i ρ.length = true ∧ Nat.blt j ρ.length = true) (w : Wko ρe ρ := by trivial) (hxi : X.N[i]? = some x := by rfl) (hyi : X.N[j]? = some y := by rfl)
    (hf : X.fn x = true ∨ X.env.scope.names.lookup x = some .local := by first | exact .inl rfl | exact .inr rfl | assumption) (hf2 : X.fn y = true ∨ X.env.scope.names.lookup y = some .local := by first | exact .inl rfl | exact .inr rfl | assumption)
    (hs : swapsWithSole [.Tuple [.Name x p1, .Name y p2] kk p] e pos.line X.env = pure false := by rfl) (hw : swappedStores [.Tuple [.Name x p1, .Name y p2] kk p] e X.env = pure none := by rfl) (h1 : (assignEach [.Tuple [.Name x p1, .Name y p2] kk p] X.env).map (·.2) = [assign (.Tuple [.Name x p1, .Name y p2] kk p) X.env] := by rfl) :
    SB X ρ ρe (.Assign [.Tuple [.Name x p1, .Name y p2] kk p] e pos :: rest) (r.bind fun d => un2 d k) o := fun W tk =>
  PSs_imp (pss_cons (ps_asg (he W tk) (pg_tup2 hc hN hx hy hxi hyi hf hf2) hs hw h1) (PSs_ex2 fun a b => h a b W tk)) fun Dn σ H q => q.expr w fun b O d v H' ed s m dr nb ko ke => by
    cases q2 : bd2 ρ i j d with
    | none => exact absurd (un2_none (bd2_no q2)) nb
    | some ρ' =>
      have q3 := q2
      obtain ⟨a, c, rfl, rfl⟩ := bd2_inv q2
      exact gl_tup2 (ρ := ρ) hl.1 hl.2 b O σ H' _ v _ m dr q3 _ fun σ2 m2 => ⟨a, c, b, O, m2, nb, ko, ke⟩
end

/-! ### comprehensions -/
/-- the parts of [elt for tg in iter if ..] -/
def LC (X : Cx) (ρ : List Sl) (elt tg iter : Expr) (ifs : List Expr) (scope : Scope) (own : List (Str × Nat)) (r : R D) : Prop := ∀ W, Takes X W → ∃ wi g tt te, PI X tg iter wi ∧ (∀ (s : Shared) (H : Hp) (C : Addr) (cl : List (Str × Addr)) (fp : List Addr), PG (X.blk s H scope (compEnvC scope cl C X.env) fp) tg g) ∧
  (∀ (s : Shared) (H : Hp) (C : Addr) (cl : List (Str × Addr)) (fp : List Addr), PTs (X.blk s H scope (compEnvC scope cl C X.env) fp) ifs tt) ∧ (∀ (s : Shared) (H : Hp) (C : Addr) (cl : List (Str × Addr)) (fp : List Addr), PE (X.blk s H scope (compEnvC scope cl C X.env) fp) elt te) ∧
  ∀ σ H Q, tF (gx X) W ρ r σ H Q → tLc wi g tt te (own.map (·.2)) σ H Q
section
variable {α : Type} {X : Cx} {ρ : List Sl} {ρe : Option (List Sl)} {o : α → OK} {rest : List Stmt} {pos spos py : Pos} {elt tg iter : Expr} {ifs : List Expr} {scope : Scope} {own : List (Str × Nat)} {rl : R (List D)} {g : TG} {bd : D → Option (List Sl)} {c : D → R Bool} {f : D → R D} {r : R D} {y : Str} {i : Nat} {k : D → R α}
theorem LC.fr (h : LC X ρ elt tg iter ifs scope own r) (hc : X.calm = true) (hN : X.N.Nodup) (ok : BlkOk X.N X.env.scope scope own) (hs : ∀ x, foldedSetIterable iter X.env x = pure x := by intro _; rfl) : EF X ρ (.ListComp elt [⟨tg, iter, ifs, 0⟩] scope pos) r := fun W tk => by
  obtain ⟨wi, g, tt, te, h1, h2, h3, h4, h5⟩ := h W tk
  exact PE_imp (pe_lc hc hN h1 ok h2 h3 h4 hs) h5
theorem LC.ee (h : LC X ρ elt tg iter ifs scope own r) (hc : X.calm = true) (hN : X.N.Nodup) (ok : BlkOk X.N X.env.scope scope own) (hs : ∀ x, foldedSetIterable iter X.env x = pure x := by intro _; rfl) : EE X ρ (.ListComp elt [⟨tg, iter, ifs, 0⟩] scope pos) r := (h.fr hc hN ok hs).ee
/-- y = [..] on one line, y a local -/
theorem b_setLcOw (h : LC X ρ elt tg iter ifs scope own r) (hc : X.calm = true) (hN : X.N.Nodup) (ok : BlkOk X.N X.env.scope scope own) (hyl : X.env.scope.names.lookup y = some .local) (hsw : swapsWith (.ListComp elt [⟨tg, iter, ifs, 0⟩] scope pos) (some (.Name y py)) spos.line X.env = pure true)
    (hr : ∀ d, SB X (ρ.set i (.ow d)) ρe rest (k d) o) (hl : Nat.blt i ρ.length = true := by rfl) (w : Wko ρe ρ := by trivial) (hy : X.N[i]? = some y := by rfl) (hs : ∀ x, foldedSetIterable iter X.env x = pure x := by intro _; rfl) :
    SB X ρ ρe (.Assign [.Name y py] (.ListComp elt [⟨tg, iter, ifs, 0⟩] scope pos) spos :: rest) (r.bind k) o := fun W tk => by
  obtain ⟨wi, g, tt, te, h1, h2, h3, h4, h5⟩ := h W tk
  refine PSs_imp (pss_cons (ps_setLc hc hN hy hyl hsw h1 ok h2 h3 h4 hs) (PSs_ex fun d => hr d W tk)) fun Dn σ H q => h5 σ H (fun x H1 => ∃ d, tB (gx X) W (ρ.set i (.ow d)) ρe (k d) o Dn (σ.set i (some x)) H1) ?_
  exact tB.fresh q w fun b O d p H2 ed s m hp m2 ow nb ko ke => ⟨d, b, adO O p, m.name hp m2 (lt_of_blt hl) ow, nb, ko, ke⟩
theorem b_setLc (h : LC X ρ elt tg iter ifs scope own r) (hc : X.calm = true) (hN : X.N.Nodup) (ok : BlkOk X.N X.env.scope scope own) (hyl : X.env.scope.names.lookup y = some .local) (hsw : swapsWith (.ListComp elt [⟨tg, iter, ifs, 0⟩] scope pos) (some (.Name y py)) spos.line X.env = pure true)
    (hr : ∀ d, SB X (ρ.set i (.d d)) ρe rest (k d) o) (hl : Nat.blt i ρ.length = true := by rfl) (w : Wko ρe ρ := by trivial) (hy : X.N[i]? = some y := by rfl) (hs : ∀ x, foldedSetIterable iter X.env x = pure x := by intro _; rfl) :
    SB X ρ ρe (.Assign [.Name y py] (.ListComp elt [⟨tg, iter, ifs, 0⟩] scope pos) spos :: rest) (r.bind k) o := fun W tk => by
  obtain ⟨wi, g, tt, te, h1, h2, h3, h4, h5⟩ := h W tk
  refine PSs_imp (pss_cons (ps_setLc hc hN hy hyl hsw h1 ok h2 h3 h4 hs) (PSs_ex fun d => hr d W tk)) fun Dn σ H q => h5 σ H (fun x H1 => ∃ d, tB (gx X) W (ρ.set i (.d d)) ρe (k d) o Dn (σ.set i (some x)) H1) (tF_of ?_)
  exact q.expr w fun b O d v H' ed s m dr nb ko ke => ⟨d, b, O, m.set (lt_of_blt hl) dr, nb, ko, ke⟩
theorem lcg (hi : EI X ρ tg iter rl) (hpg : ∀ (s : Shared) (H : Hp) (C : Addr) (cl : List (Str × Addr)) (fp : List Addr), PG (X.blk s H scope (compEnvC scope cl C X.env) fp) tg g)
    (hb : GB (gx X) g (own.map (·.2)) (wipeL ρ (own.map (·.2))) bd) (hlt : ∀ v ∈ own.map (·.2), v < ρ.length) (hnb : ∀ d, bd d = none → c d = .bad ∨ (c d = .ok true ∧ f d = .bad))
    (ht : ∀ d ρ', bd d = some ρ' → ∀ (s : Shared) (H : Hp) (C : Addr) (cl : List (Str × Addr)) (fp : List Addr), EC (X.blk s H scope (compEnvC scope cl C X.env) fp) ρ' ifs (c d))
    (he : ∀ d ρ', bd d = some ρ' → ∀ (s : Shared) (H : Hp) (C : Addr) (cl : List (Str × Addr)) (fp : List Addr), EE (X.blk s H scope (compEnvC scope cl C X.env) fp) ρ' elt (f d)) : LC X ρ elt tg iter ifs scope own (lcifR rl c f) := fun W tk =>
  ⟨_, g, fun σ H Q => ∃ d ρ', bd d = some ρ' ∧ tT (gx X) W0 ρ' (c d) σ H Q, fun σ H Q => ∃ d ρ', bd d = some ρ' ∧ tE (gx X) W0 ρ' (f d) σ H Q, hi W tk, hpg,
    (fun s H C cl fp => ⟨fun pins s' σ H' Q I ⟨d, ρ', e, h⟩ => (ht d ρ' e s H C cl fp W0 takes0).run pins s' σ H' Q I h⟩), (fun s H C cl fp => ⟨fun pins s' σ H' Q I ⟨d, ρ', e, h⟩ => (he d ρ' e s H C cl fp W0 takes0).run pins s' σ H' Q I h⟩),
    fun σ H Q h => lc_read hb hlt hnb (fun d ρ' e σ H Q q => ⟨d, ρ', e, q⟩) (fun d ρ' e σ H Q q => ⟨d, ρ', e, q⟩) h⟩
end
section
variable {X : Cx} {ρ : List Sl} {p p1 p2 : Pos} {elt iter e : Expr} {scope : Scope} {rl : R (List D)} {c : D → R Bool} {f : D → R D} {c2 : D → D → R Bool} {f2 : D → D → R D} {x y : Str} {i j kk : Nat}
theorem blt_own {n : Nat} (hl : Nat.blt i n = true) : ∀ v ∈ ([(x, i)] : List (Str × Nat)).map (·.2), v < n := fun v hv => by
  have : v = i := by simpa using hv
  rw [this]; exact lt_of_blt hl
theorem blt_own2 {n : Nat} (hl : Nat.blt i n = true) (hl2 : Nat.blt j n = true) : ∀ v ∈ ([(x, i), (y, j)] : List (Str × Nat)).map (·.2), v < n := fun v hv => by
  have : v = i ∨ v = j := by simpa using hv
  rcases this with h | h <;> rw [h]
  · exact lt_of_blt hl
  · exact lt_of_blt hl2
/-- [elt for x in iter] -/
theorem lc1 (i : Nat) (hN : X.N.Nodup) (hi : EI X ρ (.Name x p) iter rl) (hx : Loc (relabel scope X.env) x) (he : ∀ d (s : Shared) (H : Hp) (C : Addr) (cl : List (Str × Addr)) (fp : List Addr), EE (X.blk s H scope (compEnvC scope cl C X.env) fp) ((ρ.set i .un).set i (.d d)) elt (f d)) (hl : Nat.blt i ρ.length = true := by rfl) (hxi : X.N[i]? = some x := by rfl)
    (hf : (scope.names.lookup x == some .cell) = true ∨ (relabel scope X.env).names.lookup x = some .local := by first | exact .inr rfl | exact .inl rfl) : LC X ρ elt (.Name x p) iter [] scope [(x, i)] (lcR rl f) := by
  rw [lcR_if]
  exact lcg (bd := fun d => some ((ρ.set i .un).set i (.d d))) hi (fun s H C cl fp => pg_name hN hxi hx hf) (gb_name (by rw [wipeL_length]; exact lt_of_blt hl)) (blt_own hl) (fun d e => nomatch e) (fun d ρ' e s H C cl fp => c_none) (fun d ρ' e s H C cl fp => by cases e; exact he d s H C cl fp)
/-- .. if e -/
theorem lc1if (i : Nat) (hN : X.N.Nodup) (hi : EI X ρ (.Name x p) iter rl) (hx : Loc (relabel scope X.env) x) (ht : ∀ d (s : Shared) (H : Hp) (C : Addr) (cl : List (Str × Addr)) (fp : List Addr), ET (X.blk s H scope (compEnvC scope cl C X.env) fp) ((ρ.set i .un).set i (.d d)) e (c d))
    (he : ∀ d (s : Shared) (H : Hp) (C : Addr) (cl : List (Str × Addr)) (fp : List Addr), EE (X.blk s H scope (compEnvC scope cl C X.env) fp) ((ρ.set i .un).set i (.d d)) elt (f d)) (hl : Nat.blt i ρ.length = true := by rfl) (hxi : X.N[i]? = some x := by rfl)
    (hf : (scope.names.lookup x == some .cell) = true ∨ (relabel scope X.env).names.lookup x = some .local := by first | exact .inr rfl | exact .inl rfl) : LC X ρ elt (.Name x p) iter [e] scope [(x, i)] (lcifR rl c f) :=
  lcg (bd := fun d => some ((ρ.set i .un).set i (.d d))) hi (fun s H C cl fp => pg_name hN hxi hx hf) (gb_name (by rw [wipeL_length]; exact lt_of_blt hl)) (blt_own hl) (fun d e => nomatch e) (fun d ρ' e s H C cl fp => by cases e; exact c_one (ht d s H C cl fp)) (fun d ρ' e s H C cl fp => by cases e; exact he d s H C cl fp)
/-- [elt for x, y in iter] -/
theorem lc2 (i j : Nat) (hc : X.calm = true) (hN : X.N.Nodup) (hij : i ≠ j) (hi : EI X ρ (.Tuple [.Name x p1, .Name y p2] kk p) iter rl) (hx : Loc (relabel scope X.env) x) (hy : Loc (relabel scope X.env) y)
    (he : ∀ a b (s : Shared) (H : Hp) (C : Addr) (cl : List (Str × Addr)) (fp : List Addr), EE (X.blk s H scope (compEnvC scope cl C X.env) fp) ((((ρ.set j .un).set i .un).set i (.d a)).set j (.d b)) elt (f2 a b)) (hl : Nat.blt i ρ.length = true := by rfl) (hl2 : Nat.blt j ρ.length = true := by rfl) (hxi : X.N[i]? = some x := by rfl) (hyi : X.N[j]? = some y := by rfl)
    (hf : (scope.names.lookup x == some .cell) = true ∨ (relabel scope X.env).names.lookup x = some .local := by first | exact .inr rfl | exact .inl rfl) (hf2 : (scope.names.lookup y == some .cell) = true ∨ (relabel scope X.env).names.lookup y = some .local := by first | exact .inr rfl | exact .inl rfl) :
    LC X ρ elt (.Tuple [.Name x p1, .Name y p2] kk p) iter [] scope [(x, i), (y, j)] (lcR rl fun d => un2 d f2) := by
  rw [lcR_if]
  exact lcg (bd := bd2 ((ρ.set j .un).set i .un) i j) hi (fun s H C cl fp => pg_tup2 (X := X.blk s H scope (compEnvC scope cl C X.env) fp) hc hN hx hy hxi hyi hf hf2) (gb_tup2 (by rw [wipeL_length]; exact lt_of_blt hl) (by rw [wipeL_length]; exact lt_of_blt hl2) hij) (blt_own2 hl hl2) (fun d e => .inr ⟨rfl, un2_none (bd2_no e)⟩) (fun d ρ' e s H C cl fp => c_none)
    (fun d ρ' e s H C cl fp => by obtain ⟨a, b, rfl, rfl⟩ := bd2_inv e; exact he a b s H C cl fp)
theorem lc2if (i j : Nat) (hc : X.calm = true) (hN : X.N.Nodup) (hij : i ≠ j) (hi : EI X ρ (.Tuple [.Name x p1, .Name y p2] kk p) iter rl) (hx : Loc (relabel scope X.env) x) (hy : Loc (relabel scope X.env) y)
    (ht : ∀ a b (s : Shared) (H : Hp) (C : Addr) (cl : List (Str × Addr)) (fp : List Addr), ET (X.blk s H scope (compEnvC scope cl C X.env) fp) ((((ρ.set j .un).set i .un).set i (.d a)).set j (.d b)) e (c2 a b))
    (he : ∀ a b (s : Shared) (H : Hp) (C : Addr) (cl : List (Str × Addr)) (fp : List Addr), EE (X.blk s H scope (compEnvC scope cl C X.env) fp) ((((ρ.set j .un).set i .un).set i (.d a)).set j (.d b)) elt (f2 a b)) (hl : Nat.blt i ρ.length = true := by rfl) (hl2 : Nat.blt j ρ.length = true := by rfl) (hxi : X.N[i]? = some x := by rfl) (hyi : X.N[j]? = some y := by rfl)
    (hf : (scope.names.lookup x == some .cell) = true ∨ (relabel scope X.env).names.lookup x = some .local := by first | exact .inr rfl | exact .inl rfl) (hf2 : (scope.names.lookup y == some .cell) = true ∨ (relabel scope X.env).names.lookup y = some .local := by first | exact .inr rfl | exact .inl rfl) :
    LC X ρ elt (.Tuple [.Name x p1, .Name y p2] kk p) iter [e] scope [(x, i), (y, j)] (lcifR rl (fun d => un2 d c2) fun d => un2 d f2) :=
  lcg (bd := bd2 ((ρ.set j .un).set i .un) i j) hi (fun s H C cl fp => pg_tup2 (X := X.blk s H scope (compEnvC scope cl C X.env) fp) hc hN hx hy hxi hyi hf hf2) (gb_tup2 (by rw [wipeL_length]; exact lt_of_blt hl) (by rw [wipeL_length]; exact lt_of_blt hl2) hij) (blt_own2 hl hl2) (fun d e => .inl (un2_none (bd2_no e))) (fun d ρ' e s H C cl fp => by obtain ⟨a, b, rfl, rfl⟩ := bd2_inv e; exact c_one (ht a b s H C cl fp))
    (fun d ρ' e s H C cl fp => by obtain ⟨a, b, rfl, rfl⟩ := bd2_inv e; exact he a b s H C cl fp)
end
end Dl
/-! DlN: match. -/
namespace Dl
open PySem PySem.Spec L2
open PyProof.Rows hiding St
set_option autoImplicit false
section
variable {α : Type}
/-- the cases for a subject that stands for d -/
def MB (X : Cx) (ρ : List Sl) (ρe : Option (List Sl)) (cs : List MatchCase) (d : D) (r : R α) (o : α → OK) : Prop := ∀ W, Takes X W → ∀ (first : Bool) (pins : List (Addr × Obj)) (s : Shared) (σ : L2.St) (H : Hp) (Dn : Ends) (v : V) (u : Value) (b : Bs) (O : Addr → Bool),
  L2.Inv X pins σ H s → RelV v u → Mt (gx X) b O ρ σ H → DR (gx X) (hid (orO O b.O) H) d v → r ≠ .bad → (∀ a, r = .ok a → tOut (gx X) b Dn (o a)) → (∀ er, r = .err er → ErrO (gx X) W b ρe er) →
    wpAny (model X.prog X.w) X.A (matchCases cs X.env u first) (SP X pins Dn) X.xe s
variable {X : Cx} {ρ : List Sl} {ρe : Option (List Sl)} {o : α → OK} {rest : List MatchCase} {body : List Stmt} {e : Expr} {rs : R D} {k : D → R α} {d : D} {r rB rR : R α} {pos p p2 p3 p4 p5 : Pos}
theorem b_match {cs : List MatchCase} (he : EE X ρ e rs) (h : ∀ d, MB X ρ ρe cs d (k d) o) (w : Wko ρe ρ := by trivial) : SB X ρ ρe [.Match e cs pos] (rs.bind k) o := fun W tk => by
  have key : PS X (.Match e cs pos) (fun Dn σ H => tE (gx X) W ρ rs σ H fun v H1 => ∃ d b O, Mt (gx X) b O ρ σ H1 ∧ DR (gx X) (hid (orO O b.O) H1) d v ∧ k d ≠ .bad ∧ (∀ a, k d = .ok a → tOut (gx X) b Dn (o a)) ∧ ∀ er, k d = .err er → ErrO (gx X) W b ρe er) :=
    ⟨fun pins s σ H Dn I q => wpAny_Match (thn ((he W tk).run pins s σ H _ I q) fun u s1 ⟨v, H1, I1, rv, d, b, O, m, dr, nb, ko, ke⟩ => h d W tk true pins s1 σ H1 Dn v u b O I1 rv m dr nb ko ke)⟩
  exact PSs_imp (pss_cons key pss_nil) fun Dn σ H q => q.expr w fun b O d v H' ed s m dr nb ko ke => ⟨d, b, O, m, dr, nb, ko, ke⟩
theorem mb_nil {a : α} (h : (o a).fallsTo ρ) : MB X ρ ρe [] d (.ok a) o := fun W tk first pins s σ H Dn v u b O I rv m dr nb ko ke => wpAny_matchCases_nil (by
  have q := ko a rfl
  show ∃ σ' H', _
  refine ⟨σ, H, I, ?_⟩
  cases z : o a with
  | nx ρ' => rw [z] at q h; exact q O σ H ((show Wk ρ' ρ from h).mt m)
  | nc ρ' => rw [z] at q h; exact (q O σ H ((show Wk ρ' ρ from h).mt m)).1
  | re d => rw [z] at q h; exact q.2 h O ρ σ H m
  | ct _ => rw [z] at h; exact h.elim
  | bk _ => rw [z] at h; exact h.elim
  | rt _ => rw [z] at h; exact h.elim
  | cu => rw [z] at h; exact h.elim)
/-- case _ -/
theorem mb_any (h : SB X ρ ρe body r o) : MB X ρ ρe (⟨.MatchAs none none p, none, body⟩ :: rest) d r o := fun W tk first pins s σ H Dn v u b O I rv m dr nb ko ke =>
  wpAny_matchCases_cons (wpAny_matchPattern_Capture (wpAny_assignInOrder_none ((h W tk).run pins s σ H Dn I ⟨b, O, m, nb, ko, ke⟩)))
theorem mEq_ok {s : List Nat} (h : mEq d s ≠ .bad) : mEq d s = .ok (d.eqv (.str s)) ∧ D.eq d (.str s) = .ok (.bl (d.eqv (.str s))) := by
  unfold mEq at h ⊢
  unfold D.eq
  cases q : d.okd 60 with
  | false => rw [q] at h; exact absurd rfl h
  | true => exact ⟨rfl, rfl⟩
theorem iff_nb {c : R Bool} {a b : R α} (h : c.iff a b ≠ .bad) : c ≠ .bad := fun z => h (by rw [z]; rfl)
/-- the literal within a pattern -/
theorem pat_lit {x : Str} {sl : List Nat} {j : Nat} {pins : List (Addr × Obj)} {s : Shared} {σ : L2.St} {H : Hp} {v : V} {u : Value} {b : Bs} {O : Addr → Bool} {Q : Option (List (Str × Value)) → Shared → Prop} (hu : X.A.units + 65 < cLine) (hl : isLit x sl = true) (I : L2.Inv X pins σ H s) (rv : RelV v u)
    (m : Mt (gx X) b O ρ σ H) (dr : DR (gx X) (hid (orO O b.O) H) d v) (hb : mEq d sl ≠ .bad) (hQ : ∀ s' H', L2.Inv X pins σ H' s' → Same H H' → Q (if d.eqv (.str sl) = true then some [] else none) s') :
    wpAny (model X.prog X.w) X.A (matchPattern (.MatchValue (.Constant (.str x) j p) p2) X.env u) Q X.xe s := by
  obtain ⟨_, e2⟩ := mEq_ok hb
  refine wpAny_matchPattern_Value (Calls.Constant_str ?_)
  have I1 := I.tok (s.toks + 1)
  refine thn ((o_eq hu).2 pins _ σ H (orO O b.O) v (.str x) u _ d (.str sl) _ I1 m.trk' rv ⟨_, rfl⟩ dr (isLit_dr hl _ _) e2) fun w s3 ⟨z, H3, I3, r3, s', q⟩ => ?_
  cases (show z = _ from q)
  cases (show w = _ from r3)
  refine wpAny_truthy_bool ?_
  have := hQ s3 H3 I3 s'
  cases qq : d.eqv (.str sl) with
  | true => rw [qq, if_pos rfl] at this; exact this
  | false => rw [qq, if_neg Bool.false_ne_true] at this; exact this
/-- case 's' -/
theorem mb_val {x : Str} {sl : List Nat} {j : Nat} (hu : X.A.units + 65 < cLine) (hl : isLit x sl = true) (hB : SB X ρ ρe body rB o) (hR : MB X ρ ρe rest d rR o) : MB X ρ ρe (⟨.MatchValue (.Constant (.str x) j p) p2, none, body⟩ :: rest) d ((mEq d sl).iff rB rR) o := fun W tk first pins s σ H Dn v u b O I rv m dr nb ko ke => by
  have hb := iff_nb nb
  obtain ⟨e1, _⟩ := mEq_ok hb
  rw [e1, R.iff_ok] at nb ko ke
  refine wpAny_matchCases_cons (pat_lit hu hl I rv m dr hb fun s' H' I' s1 => ?_)
  cases q : d.eqv (.str sl) with
  | true =>
    rw [q, if_pos rfl] at nb ko ke
    exact wpAny_assignInOrder_none ((hB W tk).run pins s' σ H' Dn I' ⟨b, O, m.same s1, nb, ko, ke⟩)
  | false =>
    rw [q, if_neg Bool.false_ne_true] at nb ko ke
    exact hR W tk false pins s' σ H' Dn v u b O I' rv (m.same s1) (dr.mono (hid_same s1)) nb ko ke
/-- a tuple as a subject -/
theorem tup_at {ds : List D} {pins : List (Addr × Obj)} {s : Shared} {σ : L2.St} {H : Hp} {O : Addr → Bool} {v : V} {u : Value} (I : L2.Inv X pins σ H s) (rv : RelV v u) (dr : DR (gx X) (hid O H) (.tup ds) v) :
    ∃ a vs its, v = .ref a ∧ u = .ref a ∧ DRs (gx X) (hid O H) ds vs ∧ Vals vs its ∧ IsTup s.heap a its.toArray ∧ (its.toArray.size : Int) < 2 ^ 63 ∧ its.length = ds.length := by
  obtain ⟨a, vs, ev, hp, dvs⟩ := dr
  subst ev
  obtain ⟨its, rv', pl, hz⟩ := I.tuple (SqT.of (hid_le.tup _ _ hp))
  have e1 := rv'.length
  have e2 := dvs.length
  refine ⟨a, vs, its, rfl, rv, dvs, rv', pl, ?_, by omega⟩
  have hl := tup_ok I (hid_le.tup _ _ hp)
  rw [L_eq] at hl
  have : (its.toArray.size : Int) ≤ 16777216 := by rw [List.size_toArray]; omega
  exact Int.lt_of_le_of_lt this (by decide)
/-- case ['s', y] -/
theorem mb_seq1 {x y : Str} {sl : List Nat} {j i : Nat} {f : D → R α} (hc : X.calm = true) (hu : X.A.units + 65 < cLine) (hl : isLit x sl = true) (hN : X.N.Nodup) (hy : Loc X.env.scope y) (hB : ∀ a, SB X (ρ.set i (.d a)) ρe body (f a) o) (hR : MB X ρ ρe rest d rR o) (hlt : Nat.blt i ρ.length = true := by rfl) (hyi : X.N[i]? = some y := by rfl)
    (hf : X.fn y = true ∨ X.env.scope.names.lookup y = some .local := by first | exact .inl rfl | exact .inr rfl | assumption) :
    MB X ρ ρe (⟨.MatchSequence [.MatchValue (.Constant (.str x) j p) p2, .MatchAs none (some y) p3] p4, none, body⟩ :: rest) d (seq1 d sl f rR) o := fun W tk first pins s σ H Dn v u b O I rv m dr nb ko ke => by
  cases d with
  | tup ds =>
    obtain ⟨a, vs, its, ev, eu, dvs, rvs, pl, hz, hlen⟩ := tup_at I rv dr
    subst eu
    have miss : ds.length ≠ 2 → seq1 (.tup ds) sl f rR = rR := fun h => by
      match ds, h with
      | [], _ => rfl
      | [_], _ => rfl
      | [_, _], h => exact absurd rfl h
      | _ :: _ :: _ :: _, _ => rfl
    by_cases h2 : ds.length = 2
    · match ds, h2, dvs, hlen, nb, ko, ke, dr with
      | [d1, d2], _, dvs, hlen, nb, ko, ke, dr =>
        obtain ⟨x1, x2, ev2, r1, r2⟩ := dvs.of2
        subst ev2
        obtain ⟨u1, u2, eits, q1, q2⟩ := rvs.two
        subst eits
        replace nb : (mEq d1 sl).iff (f d2) rR ≠ .bad := nb
        replace ko : ∀ a, (mEq d1 sl).iff (f d2) rR = .ok a → _ := ko
        replace ke : ∀ a, (mEq d1 sl).iff (f d2) rR = .err a → _ := ke
        have hb := iff_nb nb
        obtain ⟨e1, _⟩ := mEq_ok hb
        rw [e1, R.iff_ok] at nb ko ke
        refine wpAny_matchCases_cons (matchSeq_tuple_hit pl hz rfl (unpackItems_tuple (items := #[u1, u2]) (I.ok.hd hc) pl fun h' hx => ?_))
        have I1 := (I.tok (s.toks + 1 + 1)).kept (h' := h') (t' := s.toks + 1 + 1) fun b o e => hx b o (Nat.ne_of_lt (Heap.lt_size e)) e
        refine wpAny_matchEach_cons (pat_lit hu hl I1 q1 m r1 hb fun s' H' I' s1 => ?_)
        cases q : d1.eqv (.str sl) with
        | false =>
          rw [q, if_neg Bool.false_ne_true] at nb ko ke
          exact hR W tk false pins s' σ H' Dn v _ b O I' rv (m.same s1) (dr.mono (hid_same s1)) nb ko ke
        | true =>
          rw [q, if_pos rfl] at nb ko ke
          refine wpAny_matchEach_cons (wpAny_matchPattern_Capture (wpAny_matchEach_nil ?_))
          refine wpAny_assignInOrder_more (wpAny_bindName (store_ok I' hN hyi hy q2 (fun s2 I2 => wpAny_assignInOrder_none ?_) hf))
          exact (hB d2 W tk).run pins s2 _ H' Dn I2 ⟨b, O, (m.same s1).set (lt_of_blt hlt) (r2.mono (hid_same s1)), nb, ko, ke⟩
    · refine wpAny_matchCases_cons (matchSeq_tuple_miss pl hz (by rw [List.size_toArray, hlen]; exact h2) ?_)
      rw [miss h2] at nb ko ke
      exact hR W tk false pins _ σ H Dn v _ b O (I.tok _) rv m dr nb ko ke
  | _ => exact absurd rfl nb
theorem vals3' : ∀ {x y z : V} {us : List Value}, Vals [x, y, z] us → ∃ u v w, us = [u, v, w] ∧ RelV x u ∧ RelV y v ∧ RelV z w
  | _, _, _, _, .cons r (.cons q (.cons t .nil)) => ⟨_, _, _, rfl, r, q, t⟩
/-- case ['s', y, z] -/
theorem mb_seq2 {x y z : Str} {sl : List Nat} {j i i2 : Nat} {f : D → D → R α} (hc : X.calm = true) (hu : X.A.units + 65 < cLine) (hl : isLit x sl = true) (hN : X.N.Nodup) (hy : Loc X.env.scope y) (hz2 : Loc X.env.scope z) (hB : ∀ a c, SB X ((ρ.set i (.d a)).set i2 (.d c)) ρe body (f a c) o) (hR : MB X ρ ρe rest d rR o) (hlt : Nat.blt i ρ.length = true := by rfl) (hlt2 : Nat.blt i2 ρ.length = true := by rfl) (hyi : X.N[i]? = some y := by rfl) (hzi : X.N[i2]? = some z := by rfl)
    (hf : X.fn y = true ∨ X.env.scope.names.lookup y = some .local := by first | exact .inl rfl | exact .inr rfl | assumption) (hf2 : X.fn z = true ∨ X.env.scope.names.lookup z = some .local := by first | exact .inl rfl | exact .inr rfl | assumption) :
    MB X ρ ρe (⟨.MatchSequence [.MatchValue (.Constant (.str x) j p) p2, .MatchAs none (some y) p3, .MatchAs none (some z) p5] p4, none, body⟩ :: rest) d (seq2 d sl f rR) o := fun W tk first pins s σ H Dn v u b O I rv m dr nb ko ke => by
  cases d with
  | tup ds =>
    obtain ⟨a, vs, its, ev, eu, dvs, rvs, pl, hz, hlen⟩ := tup_at I rv dr
    subst eu
    have miss : ds.length ≠ 3 → seq2 (.tup ds) sl f rR = rR := fun h => by
      match ds, h with
      | [], _ => rfl
      | [_], _ => rfl
      | [_, _], _ => rfl
      | [_, _, _], h => exact absurd rfl h
      | _ :: _ :: _ :: _ :: _, _ => rfl
    by_cases h2 : ds.length = 3
    · match ds, h2, dvs, hlen, nb, ko, ke, dr with
      | [d1, d2, d3], _, dvs, hlen, nb, ko, ke, dr =>
        obtain ⟨x1, x2, x3, ev2, r1, r2, r3⟩ := dvs.of3
        subst ev2
        obtain ⟨u1, u2, u3, eits, q1, q2, q3⟩ := vals3' rvs
        subst eits
        replace nb : (mEq d1 sl).iff (f d2 d3) rR ≠ .bad := nb
        replace ko : ∀ a, (mEq d1 sl).iff (f d2 d3) rR = .ok a → _ := ko
        replace ke : ∀ a, (mEq d1 sl).iff (f d2 d3) rR = .err a → _ := ke
        have hb := iff_nb nb
        obtain ⟨e1, _⟩ := mEq_ok hb
        rw [e1, R.iff_ok] at nb ko ke
        refine wpAny_matchCases_cons (matchSeq_tuple_hit pl hz rfl (unpackItems_tuple (items := #[u1, u2, u3]) (I.ok.hd hc) pl fun h' hx => ?_))
        have I1 := (I.tok (s.toks + 1 + 1)).kept (h' := h') (t' := s.toks + 1 + 1) fun b o e => hx b o (Nat.ne_of_lt (Heap.lt_size e)) e
        refine wpAny_matchEach_cons (pat_lit hu hl I1 q1 m r1 hb fun s' H' I' s1 => ?_)
        cases q : d1.eqv (.str sl) with
        | false =>
          rw [q, if_neg Bool.false_ne_true] at nb ko ke
          exact hR W tk false pins s' σ H' Dn v _ b O I' rv (m.same s1) (dr.mono (hid_same s1)) nb ko ke
        | true =>
          rw [q, if_pos rfl] at nb ko ke
          refine wpAny_matchEach_cons (wpAny_matchPattern_Capture (wpAny_matchEach_cons (wpAny_matchPattern_Capture (wpAny_matchEach_nil ?_))))
          refine wpAny_assignInOrder_more (wpAny_bindName (store_ok I' hN hyi hy q2 (fun s2 I2 => wpAny_assignInOrder_more (wpAny_bindName (store_ok I2 hN hzi hz2 q3 (fun s3 I3 => wpAny_assignInOrder_none ?_) hf2))) hf))
          exact (hB d2 d3 W tk).run pins s3 _ H' Dn I3 ⟨b, O, ((m.same s1).set (lt_of_blt hlt) (r2.mono (hid_same s1))).set (by simpa using lt_of_blt hlt2) (r3.mono (hid_same s1)), nb, ko, ke⟩
    · refine wpAny_matchCases_cons (matchSeq_tuple_miss pl hz (by rw [List.size_toArray, hlen]; exact h2) ?_)
      rw [miss h2] at nb ko ke
      exact hR W tk false pins _ σ H Dn v _ b O (I.tok _) rv m dr nb ko ke
  | _ => exact absurd rfl nb
end
end Dl
/-! DlO: try. -/
namespace Dl
open PySem PySem.Spec L2
open PyProof.Rows hiding St
set_option autoImplicit false
/-- what the written part says of the program's own errors -/
structure ErT (K : PySem.W.Frag) (mg : Str → Option Value) (sub : SubT) (flds : List String) : Prop where
  ok : ∀ c x b, sub c x = some b → ∃ C Cx, mg (cnm c) = some (.ref C) ∧ mg (cnm x) = some (.ref Cx) ∧ PySem.W.kitOne K (.ref C) (.ref Cx) = some b ∧ PySem.W.exmOne K (.ref C) (.ref Cx) = some b ∧ ExcC K C ∧ XfC K C ∧ ∀ f ∈ flds, PySem.W.findIn K (.ref C) (cnm f) = some none
section
variable {α : Type} {X : Cx} {ρ : List Sl} {ρe : Option (List Sl)} {o : α → OK} {rest body suite : List Stmt} {sub : SubT} {flds : List String} {i : Nat} {n x : Str} {p p1 p2 p3 pos pos' : Pos}
theorem Mt.setEx {G : Gx} {b : Bs} {O : Addr → Bool} {σ : L2.St} {H : Hp} {a : Addr} {er : Er} {c : Value} {dd : Option Addr} (m : Mt G b O ρ σ H) (hi : i < ρ.length) (r : ErR G (hid (orO O b.O) H) er c dd) : Mt G b O (ρ.set i (.ex a er c dd)) (σ.set i (some (.ref a))) H where
  prot := m.prot
  bo := m.bo
  disj := m.disj
  trk := m.trk
  len := by simp [m.len]
  pure := fun j y h => by
    by_cases e : i = j
    · subst e
      rw [List.getElem?_set_self hi] at h
      cases h
    · rw [List.getElem?_set_ne e] at h
      rw [List.getElem?_set_ne e]
      exact m.pure j y h
  own := fun j y h => by
    by_cases e : i = j
    · subst e
      rw [List.getElem?_set_self hi] at h
      cases h
    · rw [List.getElem?_set_ne e] at h
      rw [List.getElem?_set_ne e]
      exact m.own j y h
  dis := fun j k y z p h1 h2 e1 e2 => by
    have n1 : i ≠ j := fun e => by subst e; rw [List.getElem?_set_self hi] at h1; cases h1
    have n2 : i ≠ k := fun e => by subst e; rw [List.getElem?_set_self hi] at h2; cases h2
    rw [List.getElem?_set_ne n1] at h1 e1
    rw [List.getElem?_set_ne n2] at h2 e2
    exact m.dis j k y z p h1 h2 e1 e2
  ex := fun j a' er' c' dd' h => by
    by_cases e : i = j
    · subst e
      rw [List.getElem?_set_self hi] at h
      cases h
      exact ⟨List.getElem?_set_self (m.len ▸ hi), r⟩
    · rw [List.getElem?_set_ne e] at h
      rw [List.getElem?_set_ne e]
      exact m.ex j a' er' c' dd' h
/-- how the body and the suite end -/
def oT (ρ : List Sl) : Option D → OK
  | none => .nx ρ
  | some d => .rt d
theorem set_un_eq (h : ρ[i]? = some Sl.un) : ρ.set i .un = ρ := by
  obtain ⟨hi, e⟩ := List.getElem?_eq_some_iff.mp h
  rw [← e]; exact List.set_getElem_self hi
/-- try: body; except x as n: suite -/
theorem b_try {xc : String} {rb : R (Option D)} {h : Er → R (Option D)} {rR : R α} {c : D → α} {b₀ : Stmt} (hs : X.stack = X.env :: X.outer) (hf : X.env.frame = some X.env.locals) (hN : X.N.Nodup) (hln : X.env.kindOf n = some .local) (T : ErT X.K X.mg sub flds) (hg : Gl X (cnm xc)) (hsx : ∃ b, sub xc xc = some b) (hu : ρ[i]? = some .un)
    (hb : ∀ (pn : List (Addr × Obj)) (xe : Value → Shared → Prop), PassesOwn (model X.prog X.w) X.A X.env xe → SB (X.tr pn xe) ρ (some ρ) body rb (oT ρ))
    (hsu : ∀ (a : Addr) (oe : Obj) (cls : Value) (d : Option Addr) (pn : List (Addr × Obj)) (er : Er), Zc cls d oe → (∃ vs, oe.data = .fields vs) → SB (X.suite a ((a, oe) :: pn)) (ρ.set i (.ex a er cls d)) none (b₀ :: suite) (h er) (oT ρ)) (hR : SB X ρ ρe rest rR o)
    (hr : ∀ d, (o (c d)).ret? = some d) (w : Wko ρe ρ := by trivial) (hi : X.N[i]? = some n := by rfl) (hdb : (cnm xc == ("__debug__" : Str)) = false := by decide) :
    SB X ρ ρe (.Try body [.ExceptHandler (some (.Name (cnm xc) p)) (some n) (b₀ :: suite) pos'] [] [] pos :: rest) (orRet (tryR sub xc rb h) c rR) o := fun W tk => by
  obtain ⟨bb, hsx⟩ := hsx
  obtain ⟨Cx, _, gx1, _, _, _, _, _, _⟩ := T.ok xc xc bb hsx
  have key := ps_try_as (X := X) (x := cnm xc) (n := n) (c := .ref Cx) (i := i) (body := body) (suite := suite) (b₀ := b₀) (np := p) (pos := pos) (pos' := pos') (tb := fun W' => tB (gx X) W' ρ (some ρ) rb (oT ρ)) (ts := fun a cls d Dn σ H => ∃ er, tB (gx X) W0 (ρ.set i (.ex a er cls d)) none (h er) (oT ρ) Dn σ H) (Wout := W) hs hf hN hi hln ⟨hg, hdb, .inl gx1⟩ tk
    (fun W' pn xe tk' hp => hb pn xe hp W' tk') (fun a oe cls d pn hz hd => PSs_ex fun er => hsu a oe cls d pn er hz hd W0 takes0)
  refine PSs_imp (pss_cons key (hR W tk)) fun Dn σ H q => ?_
  obtain ⟨b, O, m, nb, ko, ke⟩ := q
  show tB (gx X) (wAs X.K (.ref Cx) i _ W { Dn with nx := tB (gx X) W ρ ρe rR o Dn }) ρ (some ρ) rb (oT ρ) { Dn with nx := tB (gx X) W ρ ρe rR o Dn } σ H
  refine ⟨b, O, m, fun z => nb (by rw [z]; rfl), fun a z => ?_, fun er z => ?_⟩
  · rw [z] at nb ko ke
    cases a with
    | none => exact fun O' σ' H' m' => ⟨b, O', m', nb, ko, ke⟩
    | some d => exact fun v H' r => tOut_ret (ko (c d) rfl) (hr d) r
  · rw [z] at nb ko ke
    intro cls dd σ' H' O' m' er'
    obtain ⟨C, ec, gC, rs⟩ := id er'
    cases qs : sub er.c xc with
    | none =>
      have e2 : tryR sub xc (.err er : R (Option D)) h = .bad := by show (match sub er.c xc with | some true => (h er).noerr | some false => R.err er | none => R.bad) = _; rw [qs]
      rw [e2] at nb; exact absurd rfl nb
    | some bv =>
      obtain ⟨C', Cx', g1, g2, k1, k2, x1, x2, x3⟩ := T.ok er.c xc bv qs
      have e1 : C' = C := by rw [show X.mg (cnm er.c) = some (.ref C) from gC] at g1; cases g1; rfl
      have e2 : Cx' = Cx := by rw [gx1] at g2; cases g2; rfl
      subst e1; subst e2; subst ec
      refine ⟨bv, k2, fun eb a ha => ?_, fun eb => ?_⟩
      · subst eb
        have e3 : tryR sub xc (.err er : R (Option D)) h = (h er).noerr := by show (match sub er.c xc with | some true => (h er).noerr | some false => R.err er | none => R.bad) = _; rw [qs]
        rw [e3] at nb ko ke
        have hi' : i < ρ.length := (List.getElem?_eq_some_iff.mp hu).1
        have back : ∀ {O3 : Addr → Bool} {σ3 : L2.St} {H3 : Hp}, Mt (gx X) b O3 ρ σ3 H3 → Mt (gx X) b O3 ρ (σ3.set i none) H3 := fun m3 => by
          have q := m3.setUn (i := i) (u := none) hi'
          rw [set_un_eq hu] at q
          exact q
        refine ⟨er, b, O', m'.setEx hi' er', fun z2 => nb (by rw [z2]; rfl), fun a2 z2 => ?_, fun e2 z2 => absurd (by rw [z2]; rfl) nb⟩
        rw [z2] at nb ko ke
        cases a2 with
        | none => exact fun O3 σ3 H3 m3 => ⟨b, O3, back m3, nb, ko, ke⟩
        | some d => exact fun v H3 r => tOut_ret (ko (c d) rfl) (hr d) r
      · subst eb
        have e3 : tryR sub xc (.err er : R (Option D)) h = .err er := by show (match sub er.c xc with | some true => (h er).noerr | some false => R.err er | none => R.bad) = _; rw [qs]
        rw [e3] at ke
        exact (ke er rfl).to w _ _ _ _ _ m' er'
/-! ### in a suite -/
variable {a : Addr} {oe : Obj} {cls : Value} {d : Option Addr} {pn : List (Addr × Obj)} {er : Er}
def rIsX (K : PySem.W.Frag) (a : Addr) (cls : Value) (d : Option Addr) : List V → Hp → VK → Prop := fun xs H Q => ∃ (C Cx : Addr) (b : Bool), xs = [.ref a, .ref Cx] ∧ cls = .ref C ∧ ExcC K C ∧ PySem.W.kitOne K (.ref C) (.ref Cx) = some b ∧ (d = none ∨ ∃ dd ws, d = some dd ∧ H dd = some (.xd ws)) ∧ Q (.bl b) H
theorem call_isX (hz : Zc cls d oe) (hf : ∃ vs, oe.data = .fields vs) : CallR (X.suite a ((a, oe) :: pn)) (.builtin "isinstance") (rIsX X.K a cls d) := by
  intro pins s σ H xs us Q I r h
  obtain ⟨C, Cx, b, rfl, ec, T, k, hd, q⟩ := h
  cases r with
  | cons rx rr =>
    cases rr with
    | cons rt rr =>
      cases rr
      cases rx
      cases (show _ = Value.ref Cx from rt)
      obtain ⟨hget, _⟩ := I.pin (a, oe) (List.mem_append.mpr (.inl List.mem_cons_self))
      obtain ⟨vs, hv⟩ := hf
      have hcl : (PySem.W.clsIn X.K C).isSome = true := by
        obtain ⟨cd, hc, _⟩ := PySem.W.any_some T.hd
        rw [hc]; rfl
      have J : ∃ od, PySem.W.InstAt s.heap a oe C od := by
        rcases hd with hd | ⟨dd, ws, hd, hx⟩
        · refine ⟨none, hget, by rw [hz.1, ec], by unfold PySem.W.notCls; rw [hv] <;> rfl, by rw [hz.2, hd]; trivial⟩
        · have hx' : ObjOk X.prog X.w H s.heap dd (.xd ws) := I.hok dd _ hx
          obtain ⟨mA, hns, hr⟩ := hx'
          obtain ⟨od, ho, hl⟩ := lookIn_ns hns
          exact ⟨some od, hget, by rw [hz.1, ec], by unfold PySem.W.notCls; rw [hv] <;> rfl, by rw [hz.2, hd]; exact ho⟩
      obtain ⟨od, J⟩ := J
      exact PySem.W.kia_one (PySem.W.kitx_exc hcl T.hg T.hk T.hs T.ha T.hn T.ht T.hm) I.kIn J k (fun z => nomatch z) fun tk => ⟨.bl b, H, I.kept (t' := tk) fun _ _ z => z, rfl, q⟩
theorem e_isX {xc : String} (hz : Zc cls d oe) (hf : ∃ vs, oe.data = .fields vs) (T : ErT X.K X.mg sub flds) (hi : ρ[i]? = some (.ex a er cls d)) (hv : Vis X.env.scope n) (hg : Gl X "isinstance") (hm : X.mg "isinstance" = none) (hgx : Gl X (cnm xc)) (hxi : X.N[i]? = some n := by rfl)
    (h1 : (n == ("__debug__" : Str)) = false := by decide) (h2 : (n == ("__classdict__" : Str)) = false := by decide) (hdb : (cnm xc == ("__debug__" : Str)) = false := by decide) :
    EE (X.suite a ((a, oe) :: pn)) ρ (.Call (.Name "isinstance" p) [.Name n p1, .Name (cnm xc) p2] [] pos) (isX sub er xc) := fun W tk => by
  cases qs : sub er.c xc with
  | none => exact ⟨fun pins s σ H Q I ⟨b, O, m, nb, _, _⟩ => absurd (by unfold isX; rw [qs]) nb⟩
  | some bv =>
    obtain ⟨C, Cx, g1, g2, k1, k2, x1, x2, x3⟩ := T.ok er.c xc bv qs
    refine PE_imp (pe_callB (X := X.suite a ((a, oe) :: pn)) (e := .Name n p1) (es := [.Name (cnm xc) p2]) (call_isX hz hf) hg hm (by decide +kernel) (pa_cons (pe_var (X := X.suite a ((a, oe) :: pn)) hxi hv h1 h2) (pa_cons (pe_glob (X := X.suite a ((a, oe) :: pn)) (v := .ref Cx) hgx g2 rfl hdb) pa_nil))) fun σ H Q ⟨b, O, m, nb, kq, ke⟩ => ?_
    obtain ⟨es, C', ec, gC, rs⟩ := m.ex i a er cls d hi
    have e1 : C' = C := by rw [show X.mg (cnm er.c) = some (.ref C') from gC] at g1; cases g1; rfl
    subst e1
    refine ⟨.ref a, es, C', Cx, bv, rfl, ec, x1, k1, ?_, kq (.bl bv) (by unfold isX; rw [qs]) _ _ (Same.refl _) rfl⟩
    cases qf : er.fs with
    | nil => rw [qf] at rs; exact .inl rs
    | cons f fs =>
      rw [qf] at rs
      obtain ⟨dd, ws, ed, hd, _⟩ := rs
      exact .inr ⟨dd, ws, ed, hid_le.xd _ _ hd⟩
theorem DRf.look {G : Gx} {P : Hp} : ∀ {fs : List (String × D)} {ws : List (Str × V)} {f : String} {d : D}, DRf G P fs ws → fs.lookup f = some d → (∀ g ∈ fs.map Prod.fst, (f == g) = (cnm f == cnm g)) → ∃ v, ws.lookup (cnm f) = some v ∧ DR G P d v
  | [], ws, f, d, h, e, _ => by simp at e
  | (g, d') :: fs, ws, f, d, h, e, inj => by
    obtain ⟨w, t, ew, ⟨h1, h2⟩, h3⟩ := h
    subst ew
    have i1 := inj g (by simp)
    rw [List.lookup_cons] at e
    cases q : f == g with
    | true =>
      rw [q] at e
      cases e
      refine ⟨w.2, ?_, h2⟩
      obtain ⟨w1, w2⟩ := w
      dsimp only at h1
      subst h1
      rw [List.lookup_cons, ← i1, q]
    | false =>
      rw [q] at e
      obtain ⟨v, e1, dv⟩ := DRf.look h3 e fun g hg => inj g (by simp [hg])
      refine ⟨v, ?_, dv⟩
      obtain ⟨w1, w2⟩ := w
      dsimp only at h1
      subst h1
      rw [List.lookup_cons, ← i1, q]
      exact e1
theorem ofString_inj {a b : String} (h : Str.ofString a = Str.ofString b) : a = b := by
  rw [Str.ofString_eq_toList, Str.ofString_eq_toList] at h
  have h1 : a.toList.map Char.toNat = b.toList.map Char.toNat := by
    have := congrArg (fun s : Str => s.cps.toList) h
    simpa using this
  have h2 : a.toList = b.toList := by
    have inj : ∀ (l m : List Char), l.map Char.toNat = m.map Char.toNat → l = m := by
      intro l
      induction l with
      | nil => intro m e; cases m with
        | nil => rfl
        | cons _ _ => cases e
      | cons x l ih =>
        intro m e
        cases m with
        | nil => cases e
        | cons y m =>
          rw [List.map_cons, List.map_cons] at e
          injection e with e1 e2
          rw [ih m e2, show x = y from Char.ext (UInt32.toNat_inj.mp e1)]
    exact inj _ _ h1
  exact String.toList_inj.mp h2
theorem cnm_beq (a b : String) : (a == b) = (cnm a == cnm b) := by
  by_cases h : a = b
  · subst h; simp
  · have : cnm a ≠ cnm b := fun z => h (ofString_inj z)
    rw [beq_eq_false_iff_ne.mpr h, beq_eq_false_iff_ne.mpr this]
/-- n.f -/
theorem e_erF {f : String} (hz : Zc cls d oe) (hf : ∃ vs, oe.data = .fields vs) (T : ErT X.K X.mg sub flds) (hfl : f ∈ flds) (hi : ρ[i]? = some (.ex a er cls d)) (hv : Vis X.env.scope n) (hxi : X.N[i]? = some n := by rfl) (h1 : (n == ("__debug__" : Str)) = false := by decide) (h2 : (n == ("__classdict__" : Str)) = false := by decide)
    (hb : attributeBase (.Name n p) (cnm f) X.env (eval (.Name n p) X.env) = eval (.Name n p) X.env := by rfl) : EE (X.suite a ((a, oe) :: pn)) ρ (.Attribute (.Name n p) (cnm f) pos) (erF sub er f) := fun W tk => by
  cases qs : sub er.c er.c with
  | none => exact ⟨fun pins s σ H Q I ⟨b, O, m, nb, _, _⟩ => absurd (by unfold erF; rw [qs]) nb⟩
  | some bv =>
    obtain ⟨C, Cx, g1, g2, k1, k2, x1, x2, x3⟩ := T.ok er.c er.c bv qs
    refine PE_imp (pe_xf (pos := pos) x2 (x3 f hfl) hz hf (pe_var (X := X.suite a ((a, oe) :: pn)) (pos := p) hxi hv h1 h2) hb) fun σ H Q ⟨b, O, m, nb, kq, ke⟩ => ?_
    obtain ⟨es, C', ec, gC, rs⟩ := m.ex i a er cls d hi
    have e1 : C' = C := by rw [show X.mg (cnm er.c) = some (.ref C') from gC] at g1; cases g1; rfl
    subst e1
    have ev : erF sub er f = R.some? (er.fs.lookup f) := by unfold erF; rw [qs]
    rw [ev] at nb kq
    cases ql : er.fs.lookup f with
    | none => rw [ql] at nb; exact absurd rfl nb
    | some y =>
      cases qf : er.fs with
      | nil => rw [qf] at ql; simp at ql
      | cons f0 fs =>
        rw [qf] at rs ql
        obtain ⟨dd, ws, ed, hd, df⟩ := rs
        obtain ⟨v, lv, dv⟩ := DRf.look df ql fun g _ => cnm_beq f g
        exact ⟨.ref a, es, rfl, ec, dd, ws, v, ed, hid_le.xd _ _ hd, lv, kq y (by rw [qf, ql]; rfl) v H (Same.refl H) dv⟩
end
end Dl
/-! DlP: more calls of built-ins. -/
namespace Dl
open PySem PySem.Spec L2
open PyProof.Rows hiding St
set_option autoImplicit false
section
variable {X : Cx} {ρ : List Sl} {p p2 pos kp : Pos} {x : Str} {e : Expr} {r : R D}
def rSK0 (K : PySem.W.Frag) : List V → List V → Hp → VK → Prop := fun vs zs H Q => ∃ (a f : Addr), vs = [V.ref a] ∧ zs = [V.ref f] ∧ SqL K H a [] ∧ ∀ p, H p = none → Q (.ref p) (upd H p (.lst []))
theorem cr_sk0 : CallRK X (.builtin "sorted") [Str.ofString "key"] (rSK0 X.K) := by
  intro pins s σ H vs zs us ws Q I r rz h
  obtain ⟨a, f, rfl, rfl, hs, q⟩ := h
  obtain rfl := Vals.ref1 r
  obtain ⟨w1, rfl, e1⟩ := vals1 rz
  obtain rfl : w1 = Value.ref f := e1
  obtain ⟨its, rv, hl, hz⟩ := I.list hs
  cases rv
  have nobs : ∀ (k : D → PyData), ([] : List D).map k = [] := fun _ => rfl
  refine PySem.W.sorted_key_data (vs := []) (bs := ([] : List D)) (R := fun _ _ => True) (b := false) (f := .ref f) (fun d => d.py) hl.isList .nil (fun d hd => nomatch hd) (.inr fun d hd => nomatch hd) (Nat.zero_le _) (fun x hx => nomatch hx) (ksk_s1 _ _) (fun _ => ksk_l1 _ _) (fun _ => rfl) (fun v x _ hx => nomatch hx) fun out c h' tk kp hn he hlen _ => ?_
  have eo : out = [] := List.length_eq_zero_iff.mp hlen
  subst eo
  have hf := I.hok.fresh (Nat.le_succ s.heap.objs.size)
  exact ⟨.ref _, upd H (s.heap.objs.size + 1) (.lst []), I.laid (t' := tk) kp (Nat.le_succ _) ⟨Nat.zero_le _, [], c, .nil, he⟩, rfl, q _ hf⟩
/-- sorted(e, key=x), e empty -/
theorem e_sortK0 {f : Addr} (hg : Gl X "sorted") (hm : X.mg "sorted" = none) (he : EE X ρ e r) (hgx : Gl X x) (hmx : X.mg x = some (.ref f)) (hdb : (x == ("__debug__" : Str)) = false := by decide)
    (hs : starEach [e] X.env = (false, eval e X.env) :: starEach [] X.env := by rfl) (hb : backTo pos (starEach [e] X.env) = (false, eval e X.env) :: backTo pos (starEach [] X.env) := by rfl) (hpl : (backTo pos (starEach [e] X.env)).any (·.1) = false := by rfl)
    (hall : (backToKw pos (keywordEach [⟨some "key", .Name x p2, kp⟩] X.env)).all (·.1.isSome) = true := by rfl) (hnone : (backToKw pos (keywordEach [⟨some "key", .Name x p2, kp⟩] X.env)).any (·.1.isNone) = false := by rfl) (hks : (backToKw pos (keywordEach [⟨some "key", .Name x p2, kp⟩] X.env)).filterMap (·.1) = [Str.ofString "key"] := by rfl) :
    EE X ρ (.Call (.Name "sorted" p) [e] [⟨some "key", .Name x p2, kp⟩] pos) (r.bind D.sortK0) := fun W tk =>
  PE_imp (pe_callBK cr_sk0 hg hm (by decide +kernel) (pa_cons (he W tk) pa_nil hs) (pk_cons (pe_glob (v := .ref f) hgx hmx rfl hdb) pk_nil) (by decide) (by decide) hb hpl hall hnone hks) fun σ H Q ⟨b, O, m, nb, k, ke⟩ => by
    refine tE.bind (f := D.sortK0) m nb ke fun d ed nb1 ke1 v H1 s1 m1 dr => ?_
    have hd : d = .lst [] := by
      unfold D.sortK0 at nb1
      split at nb1
      · rfl
      · exact absurd rfl nb1
    subst hd
    obtain ⟨a, vs, ev, hp, dvs⟩ := dr
    cases (show vs = [] from dvs)
    exact ⟨a, f, by rw [ev], rfl, .inl (hid_le.rd _ _ hp), fun p hp => k (.lst []) (by rw [ed]; rfl) _ _ (s1.trans (same_upd hp)) (DR.newLst m1.trk' hp rfl)⟩
end
end Dl
/-! DlQ: the head's facts, of the program's own errors too. -/
namespace Dl
open PySem PySem.Spec L2
open PyProof.Rows hiding St
set_option autoImplicit false
def obsE (fa : List He.Fa) (fn : List He.DefD) (ex : PySem.W.Frag → Bool) (K : PySem.W.Frag) : He.AlD × Bool := (He.obsD fa fn K, ex K)
def obsEG (n : Nat) (fa : List He.Fa) (fn : List He.DefD) (ex : PySem.W.Frag → Bool) (g : Addr → Option Obj) : He.AlD × Bool := obsE fa fn ex (He.frG g (He.asD g n))
def hookE (n : Nat) (fa : List He.Fa) (fn : List He.DefD) (ex : PySem.W.Frag → Bool) : PySem.W.Hook where
  α := He.AlD × Bool
  obs := fun s => obsEG n fa fn ex s.heap.get?
  val := fun _ => (He.valD fn, true)
  says := fun _ h => ∃ K : PySem.W.Frag, K.In h ∧ He.SaysD fa fn K ∧ ex K = true
  of := fun _ _ e => ⟨_, He.frG_in, congrArg Prod.fst e, congrArg Prod.snd e⟩
  keeps := fun _ _ _ ⟨K, hK, c⟩ k => ⟨K, PySem.W.Frag.In.keeps hK k, c⟩
theorem obsEG_eq {n : Nat} {fa : List He.Fa} {fn : List He.DefD} {ex : PySem.W.Frag → Bool} {g : Addr → Option Obj} {s : Shared} (h : ∀ a, g a = s.heap.get? a) : obsEG n fa fn ex g = (hookE n fa fn ex).obs s := by
  have e : g = s.heap.get? := funext h
  rw [e] <;> rfl
/-! ### an own error -/
def oexB (K : PySem.W.Frag) (C : Addr) : Bool := match K.lookup C with
  | some ⟨.type "type", _, .cls cd, sl⟩ => (match cd.mro, sl.toList with
    | .ref C' :: bm, [_, _, _, _, some (.builtin n), _] => C' == C && n == "ValueError.__new__" && !cd.hasDel && cd.hasDict && PySem.HandSPX.refsVE bm
    | _, _ => false)
  | _ => false
theorem oexB_ok {K : PySem.W.Frag} {C : Addr} (q : oexB K C = true) : ∃ nm q N bs bm sn sub ab col dd k0 k1 k2 k3 k5, K.lookup C = some (excClassObj nm q C N bs bm true sn sub ab col dd k0 k1 k2 k3 k5 "ValueError.__new__") ∧ PySem.HandSPX.refsVE bm = true := by
  unfold oexB at q
  split at q
  · rename_i dd cd sl ho
    split at q
    · rename_i C' bm k0 k1 k2 k3 n k5 hm hs
      simp only [Bool.and_eq_true, beq_iff_eq, Bool.not_eq_true'] at q
      obtain ⟨⟨⟨⟨rfl, rfl⟩, hdel⟩, hdct⟩, ht⟩ := q
      obtain ⟨nm, bs, mro, ns, qn, hd, sn, sub, ab, col, del⟩ := cd
      dsimp only at hm hdel hdct
      subst hm hdel hdct
      have hsl : sl = #[k0, k1, k2, k3, some (.builtin "ValueError.__new__"), k5] := by
        obtain ⟨l⟩ := sl
        simp only at hs
        rw [hs]
      subst hsl
      exact ⟨nm, qn, ns, bs, bm, sn, sub, ab, col, dd, k0, k1, k2, k3, k5, ho, ht⟩
    · cases q
  · cases q
/-- an error class: its name; the field that its own __init__ sets -/
abbrev ExD := String × Option String
def exOne (K : PySem.W.Frag) (flds : List String) (x : ExD) : Bool :=
  let C := He.ga K (cnm x.1)
  He.eqO (PySem.W.nsIn K mainGlobals (cnm x.1)) (some (some (.ref C))) && (PySem.W.keepIn K (.ref C) && (PySem.W.hasDictIn K C && (
  decide (PySem.W.subIn K (.ref C) (.type "BaseException") = some true) && (decide (PySem.W.typeIn K (.ref C) = some (.type "type")) && (
  He.eqO (PySem.W.findIn K (.ref C) "__getattribute__") (some (some (.builtin "BaseException.__getattribute__"))) && (He.eqO (PySem.W.findIn K (.ref C) "__getattr__") (some none) && (
  He.eqO (PySem.W.findIn K (.ref C) "__class__") (some (some (.builtin "object.__class__"))) && (He.eqO (PySem.W.specialIn K (.builtin "object.__class__") "__get__") (some (some (.builtin "getset_descriptor.__get__"))) && (
  decide (PySem.W.takesIn K (.builtin "object.__class__") = some true) && (decide (PySem.W.mroIn K C (.type "object") = some true) && (
  (flds.all fun f => He.eqO (PySem.W.findIn K (.ref C) (cnm f)) (some none)) && (match x.2 with
    | none => true
    | some f => oexB K C && (He.eqO (PySem.W.findIn K (.ref C) "__setattr__") (some (some (.builtin "object.__setattr__"))) && (He.eqO (PySem.W.findIn K (.ref C) "__init__") (some (some (.ref (He.ma K C "__init__")))) && (decide (PySem.W.typeIn K (.ref (He.ma K C "__init__")) = some (.type "function")) && flds.contains f)))))))))))))))
def exB (sub : SubT) (xs : List ExD) (flds : List String) (K : PySem.W.Frag) : Bool := (xs.all fun x => exOne K flds x) && (xs.all fun x => xs.all fun y => match sub x.1 y.1 with
  | none => true
  | some b => decide (PySem.W.kitOne K (.ref (He.ga K (cnm x.1))) (.ref (He.ga K (cnm y.1))) = some b) && decide (PySem.W.exmOne K (.ref (He.ga K (cnm x.1))) (.ref (He.ga K (cnm y.1))) = some b))
section
variable {K : PySem.W.Frag} {h : Heap} {mg : Str → Option Value} {sub : SubT} {xs : List ExD} {flds : List String}
theorem ba {a b : Bool} (h : (a && b) = true) : a = true ∧ b = true := Bool.and_eq_true_iff.mp h
structure ExOne (K : PySem.W.Frag) (mg : Str → Option Value) (flds : List String) (x : ExD) (C : Addr) : Prop where
  g : mg (cnm x.1) = some (.ref C)
  kp : PySem.W.keepIn K (.ref C) = true
  e : ExcC K C
  f : XfC K C
  ty : PySem.W.typeIn K (.ref C) = some (.type "type")
  no : ∀ f ∈ flds, PySem.W.findIn K (.ref C) (cnm f) = some none
  ini : ∀ f, x.2 = some f → OexC K C ∧ PySem.W.findIn K (.ref C) "__init__" = some (some (.ref (He.ma K C "__init__"))) ∧ PySem.W.typeIn K (.ref (He.ma K C "__init__")) = some (.type "function") ∧ f ∈ flds
theorem exOne_ok (X : K.In h) (G : h.Ns mainGlobals mg) {x : ExD} (q : exOne K flds x = true) : ExOne K mg flds x (He.ga K (cnm x.1)) := by
  unfold exOne at q
  dsimp only at q
  obtain ⟨q1, q⟩ := ba q
  obtain ⟨q2, q⟩ := ba q
  obtain ⟨q3, q⟩ := ba q
  obtain ⟨q4, q⟩ := ba q
  obtain ⟨q5, q⟩ := ba q
  obtain ⟨q6, q⟩ := ba q
  obtain ⟨q7, q⟩ := ba q
  obtain ⟨q8, q⟩ := ba q
  obtain ⟨q9, q⟩ := ba q
  obtain ⟨q10, q⟩ := ba q
  obtain ⟨q11, q⟩ := ba q
  obtain ⟨q12, q⟩ := ba q
  have s := of_decide_eq_true q4
  refine ⟨PySem.W.mg_of X G (He.eqO_ok q1), q2, ⟨He.eqO_ok q6, He.eqO_ok q7, s, q3, He.eqO_ok q8, He.eqO_ok q9, of_decide_eq_true q10, of_decide_eq_true q11⟩, ⟨He.eqO_ok q6, He.eqO_ok q7, s, q3⟩, of_decide_eq_true q5, fun f hf => He.eqO_ok (List.all_eq_true.mp q12 f hf), fun f hf => ?_⟩
  rw [hf] at q
  obtain ⟨r1, q⟩ := ba q
  obtain ⟨r2, q⟩ := ba q
  obtain ⟨r3, q⟩ := ba q
  obtain ⟨r4, r5⟩ := ba q
  exact ⟨⟨oexB_ok r1, He.eqO_ok r2, s, of_decide_eq_true q5, q2⟩, He.eqO_ok r3, of_decide_eq_true r4, by simpa using r5⟩
theorem exB_one (q : exB sub xs flds K = true) {x : ExD} (hx : x ∈ xs) : exOne K flds x = true := List.all_eq_true.mp (ba q).1 x hx
theorem exT_of (X : K.In h) (G : h.Ns mainGlobals mg) (q : exB sub xs flds K = true) (hs : ∀ c x b, sub c x = some b → c ∈ xs.map Prod.fst ∧ x ∈ xs.map Prod.fst) : ErT K mg sub flds := by
  refine ⟨fun c x b e => ?_⟩
  obtain ⟨h1, h2⟩ := hs c x b e
  obtain ⟨a, ha, rfl⟩ := List.mem_map.mp h1
  obtain ⟨d, hd, rfl⟩ := List.mem_map.mp h2
  have oa := exOne_ok X G (exB_one q ha)
  have od := exOne_ok X G (exB_one q hd)
  have p := List.all_eq_true.mp (List.all_eq_true.mp (ba q).2 a ha) d hd
  rw [e] at p
  obtain ⟨p1, p2⟩ := ba p
  exact ⟨_, _, oa.g, od.g, of_decide_eq_true p1, of_decide_eq_true p2, oa.e, oa.f, oa.no⟩
/-- the class whose __init__ is the def d -/
theorem ownEx_of {P : Program} {w : World} {base : Heap} {c f : String} {C : Addr} {qual : Str} {params : Arguments} {scope : Scope} {dvs : List V} {kws : List (Str × V)} {fd : FuncData} {p1 p2 p3 p4 : Pos} (o : ExOne K mg flds (c, some f) C)
    (F : FunD K "__init__" qual params [.Assign [.Attribute (.Name "self" p1) (cnm f) p2] (.Name (cnm f) p3) p4] scope dvs kws (He.ma K C "__init__") fd) (S : FnScope ["self", cnm f] ["self", cnm f] scope) (hb : Binds K fd ["self", cnm f] []) (h1 : (cnm f == ("__debug__" : Str)) = false := by decide) (h2 : (cnm f == ("__classdict__" : Str)) = false := by decide) :
    OwnEx P w K mg base (cnm c) (cnm f) C := by
  obtain ⟨T, i1, i2, hf⟩ := o.ini f rfl
  exact ⟨o.g, T, o.no f hf, _, _, _, i1, i2, init_ok F S T (o.no f hf) h1 h2, hb⟩
end
/-! ### the end -/
/-- a def that lets nothing out -/
theorem fn_top {P : Program} {w : World} {K : PySem.W.Frag} {mg : Str → Option Value} {base : Heap} {k : Nat} {f : Addr} {fd : FuncData} {ps : List Str} {sp : Sp} (F : FnOk P w K mg base (L2.CX P w) k f fd ps sp) : FnOk P w K mg base CX0 k f fd ps (fun vs H Q _ => sp vs H Q E0) :=
  ⟨fun vs H Q E h => F.len vs H Q E0 h, fun A outer s H args us vs Q E hr e0 hb hv h => codeAny_mono (F.run A outer s H args us vs Q E0 hr e0 hb hv h) fun r s' hq => by
    cases r with
    | ok fl => cases fl <;> exact hq
    | error e =>
      obtain ⟨_, _, _, _, _, _, _, _, _, _, _, _, z⟩ := hq
      exact z.elim⟩
theorem sp_top {K : PySem.W.Frag} {mg : Str → Option Value} {f : D → R D} {ns : List Int} {H : Hp} {a : Addr} (hf : f (.scr ns) = .ok (.bl true)) (hS : SqL K H a (ns.map V.int)) : SpF ⟨K, mg⟩ (fn1 f) [.ref a] H (fun v _ => v = .bl true) E0 := by
  refine ⟨[.scr ns], fun _ => false, fun b h => (nomatch h), ⟨.ref a, [], rfl, ⟨a, rfl, ?_⟩, rfl⟩, ?_, fun d e v H' s dr => ?_, fun er e => ?_⟩
  · rcases hS with h | h
    · refine .inl ?_
      unfold hid
      exact h
    · exact .inr h
  · show f (.scr ns) ≠ .bad
    rw [hf]; exact fun z => nomatch z
  · have e2 : f (.scr ns) = .ok d := e
    rw [hf] at e2
    cases e2
    exact dr
  · have e2 : f (.scr ns) = .err er := e
    rw [hf] at e2
    cases e2
end Dl
namespace Dl
namespace k51
open PySem PySem.Spec L2
open PyProof.Rows hiding St
set_option autoImplicit false
def top (i : Nat) : Stmt := PySem.Challenge.pw_formsforall_k51_right_steps.main.body.getD i (.Pass ⟨0, 0, 0, 0⟩)
def d0 : He.DefD := ⟨("has_name_signs", none), "has_name_signs", "has_name_signs", defArgs (top 5), defBody (top 5), defScope (top 5), [], []⟩
def d1 : He.DefD := ⟨("is_name", none), "is_name", "is_name", defArgs (top 6), defBody (top 6), defScope (top 6), [], []⟩
def d2 : He.DefD := ⟨("is_yes", none), "is_yes", "is_yes", defArgs (top 7), defBody (top 7), defScope (top 7), [], []⟩
def d3 : He.DefD := ⟨("field_of", none), "field_of", "field_of", defArgs (top 8), defBody (top 8), defScope (top 8), [], []⟩
def d4 : He.DefD := ⟨("no_to", none), "no_to", "no_to", defArgs (top 9), defBody (top 9), defScope (top 9), [], []⟩
def d5 : He.DefD := ⟨("opposite", none), "opposite", "opposite", defArgs (top 10), defBody (top 10), defScope (top 10), [], []⟩
def d6 : He.DefD := ⟨("answer_place", none), "answer_place", "answer_place", defArgs (top 11), defBody (top 11), defScope (top 11), [], []⟩
def d7 : He.DefD := ⟨("sorted_answers", none), "sorted_answers", "sorted_answers", defArgs (top 12), defBody (top 12), defScope (top 12), [], []⟩
def d8 : He.DefD := ⟨("BadRule", some "__init__"), "__init__", "BadRule.__init__", defArgs (inClass (top 15) 0), defBody (inClass (top 15) 0), defScope (inClass (top 15) 0), [], []⟩
def d9 : He.DefD := ⟨("BadStep", some "__init__"), "__init__", "BadStep.__init__", defArgs (inClass (top 16) 0), defBody (inClass (top 16) 0), defScope (inClass (top 16) 0), [], []⟩
def d10 : He.DefD := ⟨("is_rename", none), "is_rename", "is_rename", defArgs (top 19), defBody (top 19), defScope (top 19), [], []⟩
def d11 : He.DefD := ⟨("is_addition", none), "is_addition", "is_addition", defArgs (top 20), defBody (top 20), defScope (top 20), [], []⟩
def d12 : He.DefD := ⟨("is_step", none), "is_step", "is_step", defArgs (top 21), defBody (top 21), defScope (top 21), [], []⟩
def d13 : He.DefD := ⟨("fields_after_one", none), "fields_after_one", "fields_after_one", defArgs (top 22), defBody (top 22), defScope (top 22), [], []⟩
def d14 : He.DefD := ⟨("fields_along", none), "fields_along", "fields_along", defArgs (top 23), defBody (top 23), defScope (top 23), [], []⟩
def d15 : He.DefD := ⟨("fields_after", none), "fields_after", "fields_after", defArgs (top 24), defBody (top 24), defScope (top 24), [], []⟩
def d16 : He.DefD := ⟨("step_back", none), "step_back", "step_back", defArgs (top 25), defBody (top 25), defScope (top 25), [], []⟩
def d17 : He.DefD := ⟨("back", none), "back", "back", defArgs (top 26), defBody (top 26), defScope (top 26), [], []⟩
def d18 : He.DefD := ⟨("same_to", none), "same_to", "same_to", defArgs (top 28), defBody (top 28), defScope (top 28), [], []⟩
def d19 : He.DefD := ⟨("carried_answer", none), "carried_answer", "carried_answer", defArgs (top 29), defBody (top 29), defScope (top 29), [], []⟩
def d20 : He.DefD := ⟨("carried_by_one", none), "carried_by_one", "carried_by_one", defArgs (top 30), defBody (top 30), defScope (top 30), [], []⟩
def d21 : He.DefD := ⟨("carried_part", none), "carried_part", "carried_part", defArgs (top 31), defBody (top 31), defScope (top 31), [], []⟩
def d22 : He.DefD := ⟨("_law_numbers", none), "_law_numbers", "_law_numbers", defArgs (top 33), defBody (top 33), defScope (top 33), [], []⟩
def d23 : He.DefD := ⟨("_law_drawn_fields", none), "_law_drawn_fields", "_law_drawn_fields", defArgs (top 34), defBody (top 34), defScope (top 34), [], []⟩
def d24 : He.DefD := ⟨("_law_fields_after", none), "_law_fields_after", "_law_fields_after", defArgs (top 35), defBody (top 35), defScope (top 35), [], []⟩
def d25 : He.DefD := ⟨("_law_step", none), "_law_step", "_law_step", defArgs (top 36), defBody (top 36), defScope (top 36), [], []⟩
def d26 : He.DefD := ⟨("_law_steps", none), "_law_steps", "_law_steps", defArgs (top 37), defBody (top 37), defScope (top 37), [], []⟩
def d27 : He.DefD := ⟨("_law_is_name", none), "_law_is_name", "_law_is_name", defArgs (top 38), defBody (top 38), defScope (top 38), [], []⟩
def d28 : He.DefD := ⟨("_law_is_step", none), "_law_is_step", "_law_is_step", defArgs (top 39), defBody (top 39), defScope (top 39), [], []⟩
def d29 : He.DefD := ⟨("_law_odd_steps", none), "_law_odd_steps", "_law_odd_steps", defArgs (top 40), defBody (top 40), defScope (top 40), [], []⟩
def d30 : He.DefD := ⟨("_law_refused", none), "_law_refused", "_law_refused", defArgs (top 41), defBody (top 41), defScope (top 41), [], []⟩
def d31 : He.DefD := ⟨("law", none), "law", "law", defArgs (top 42), defBody (top 42), defScope (top 42), [], []⟩
def fn : List He.DefD := [d0, d1, d2, d3, d4, d5, d6, d7, d8, d9, d10, d11, d12, d13, d14, d15, d16, d17, d18, d19, d20, d21, d22, d23, d24, d25, d26, d27, d28, d29, d30, d31]
def fa : List He.Fa := [.glo "has_name_signs", .glo "is_name", .glo "is_yes", .glo "field_of", .glo "no_to", .glo "opposite", .glo "answer_place", .glo "sorted_answers", .glo "is_rename", .glo "is_addition", .glo "is_step", .glo "fields_after_one", .glo "fields_along", .glo "fields_after", .glo "step_back", .glo "back", .glo "same_to", .glo "carried_answer", .glo "carried_by_one", .glo "carried_part", .glo "_law_numbers", .glo "_law_drawn_fields", .glo "_law_fields_after", .glo "_law_step", .glo "_law_steps", .glo "_law_is_name", .glo "_law_is_step", .glo "_law_odd_steps", .glo "_law_refused", .glo "law", .free "all", .free "isinstance", .free "str", .free "len", .free "sorted", .free "tuple", .free "list", .free "enumerate", .free "reversed", .free "int", .free "range", .free "bool", .str "LETTERS" "abcdefghijklmnopqrstuvwxyz", .str "FIGURES" "0123456789", .int "LONGEST_NAME" 12, .str "NO" "!", .int "MOST_FIELDS" 40]
def exs : List ExD := [("FormError", none), ("BadRule", some "index"), ("BadStep", some "index")]
def flds : List String := ["index"]
structure Ba (K : PySem.W.Frag) (mg : Str → Option Value) : Prop where
  ex : ∃ h : Heap, K.In h ∧ h.Ns mainGlobals mg ∧ He.SaysD fa fn K ∧ exB exSub exs flds K = true
section
variable {P : Program} {w : World} {K : PySem.W.Frag} {mg : Str → Option Value} {base : Heap} (B : Ba K mg)
include B
theorem m_all : mg "all" = none := by
  obtain ⟨h, KX, G, c, cx⟩ := B.ex
  exact He.free_ok KX G (c.fact 30 (f := .free "all") rfl)
theorem m_isinstance : mg "isinstance" = none := by
  obtain ⟨h, KX, G, c, cx⟩ := B.ex
  exact He.free_ok KX G (c.fact 31 (f := .free "isinstance") rfl)
theorem m_str : mg "str" = none := by
  obtain ⟨h, KX, G, c, cx⟩ := B.ex
  exact He.free_ok KX G (c.fact 32 (f := .free "str") rfl)
theorem m_len : mg "len" = none := by
  obtain ⟨h, KX, G, c, cx⟩ := B.ex
  exact He.free_ok KX G (c.fact 33 (f := .free "len") rfl)
theorem m_sorted : mg "sorted" = none := by
  obtain ⟨h, KX, G, c, cx⟩ := B.ex
  exact He.free_ok KX G (c.fact 34 (f := .free "sorted") rfl)
theorem m_tuple : mg "tuple" = none := by
  obtain ⟨h, KX, G, c, cx⟩ := B.ex
  exact He.free_ok KX G (c.fact 35 (f := .free "tuple") rfl)
theorem m_list : mg "list" = none := by
  obtain ⟨h, KX, G, c, cx⟩ := B.ex
  exact He.free_ok KX G (c.fact 36 (f := .free "list") rfl)
theorem m_enumerate : mg "enumerate" = none := by
  obtain ⟨h, KX, G, c, cx⟩ := B.ex
  exact He.free_ok KX G (c.fact 37 (f := .free "enumerate") rfl)
theorem m_reversed : mg "reversed" = none := by
  obtain ⟨h, KX, G, c, cx⟩ := B.ex
  exact He.free_ok KX G (c.fact 38 (f := .free "reversed") rfl)
theorem m_int : mg "int" = none := by
  obtain ⟨h, KX, G, c, cx⟩ := B.ex
  exact He.free_ok KX G (c.fact 39 (f := .free "int") rfl)
theorem m_range : mg "range" = none := by
  obtain ⟨h, KX, G, c, cx⟩ := B.ex
  exact He.free_ok KX G (c.fact 40 (f := .free "range") rfl)
theorem m_bool : mg "bool" = none := by
  obtain ⟨h, KX, G, c, cx⟩ := B.ex
  exact He.free_ok KX G (c.fact 41 (f := .free "bool") rfl)
theorem m_LETTERS : ∃ t, mg "LETTERS" = some (.str "abcdefghijklmnopqrstuvwxyz" t) := by
  obtain ⟨h, KX, G, c, cx⟩ := B.ex
  exact He.str_ok KX G (c.fact 42 (f := .str "LETTERS" "abcdefghijklmnopqrstuvwxyz") rfl)
theorem m_FIGURES : ∃ t, mg "FIGURES" = some (.str "0123456789" t) := by
  obtain ⟨h, KX, G, c, cx⟩ := B.ex
  exact He.str_ok KX G (c.fact 43 (f := .str "FIGURES" "0123456789") rfl)
theorem m_LONGEST_NAME : ∃ t, mg "LONGEST_NAME" = some (.int k_LONGEST_NAME t) := by
  obtain ⟨h, KX, G, c, cx⟩ := B.ex
  exact He.int_ok KX G (c.fact 44 (f := .int "LONGEST_NAME" 12) rfl)
theorem m_NO : ∃ t, mg "NO" = some (.str "!" t) := by
  obtain ⟨h, KX, G, c, cx⟩ := B.ex
  exact He.str_ok KX G (c.fact 45 (f := .str "NO" "!") rfl)
theorem m_MOST_FIELDS : ∃ t, mg "MOST_FIELDS" = some (.int k_MOST_FIELDS t) := by
  obtain ⟨h, KX, G, c, cx⟩ := B.ex
  exact He.int_ok KX G (c.fact 46 (f := .int "MOST_FIELDS" 40) rfl)
theorem exT : ErT K mg exSub flds := by
  obtain ⟨h, KX, G, c, cx⟩ := B.ex
  exact exT_of KX G cx fun c x b e => subOf_mem e
omit B in
theorem sc_BadRule : FnScope ["self", cnm "index"] ["self", cnm "index"] d8.scope := ⟨rfl, rfl, rfl, by decide +kernel, rfl, by decide +kernel, by decide +kernel⟩
theorem x_BadRule : OwnEx P w K mg base (cnm "BadRule") (cnm "index") (He.ga K (cnm "BadRule")) := by
  obtain ⟨h, KX, G, c, cx⟩ := B.ex
  obtain ⟨fd, F⟩ := c.def_ 8 (d := d8) rfl
  exact ownEx_of (exOne_ok KX G (exB_one cx (x := ("BadRule", some "index")) (by decide))) F sc_BadRule (FunD.bindsN F fun _ _ _ _ _ _ us hl => match us, hl with | [_, _], _ => rfl)
omit B in
theorem sc_BadStep : FnScope ["self", cnm "index"] ["self", cnm "index"] d9.scope := ⟨rfl, rfl, rfl, by decide +kernel, rfl, by decide +kernel, by decide +kernel⟩
theorem x_BadStep : OwnEx P w K mg base (cnm "BadStep") (cnm "index") (He.ga K (cnm "BadStep")) := by
  obtain ⟨h, KX, G, c, cx⟩ := B.ex
  obtain ⟨fd, F⟩ := c.def_ 9 (d := d9) rfl
  exact ownEx_of (exOne_ok KX G (exB_one cx (x := ("BadStep", some "index")) (by decide))) F sc_BadStep (FunD.bindsN F fun _ _ _ _ _ _ us hl => match us, hl with | [_, _], _ => rfl)
theorem g_answer_place : mg "answer_place" = some (.ref (He.ga K "answer_place")) := by
  obtain ⟨h, KX, G, c, cx⟩ := B.ex
  exact He.glo_ok KX G (c.fact 6 (f := .glo "answer_place") rfl)
omit B in
theorem sc_has_name_signs : FnScope ["text", "sign"] ["text"] (defScope (top 5)) := ⟨rfl, rfl, rfl, by decide +kernel, rfl, by decide +kernel, by decide +kernel⟩
theorem okF_has_name_signs {fd : FuncData} (F : FunD K d0.name d0.qual d0.params d0.body d0.scope (d0.dvs K) (d0.kws K) (He.fAd K d0.at_) fd) : FnOk P w K mg base (L2.CX P w) 1 (He.fAd K d0.at_) fd ["text"] (SpF ⟨K, mg⟩ (fn1 f_has_name_signs)) := by
  refine fn_ok1 (k := 0) (n := 1) (g := f_has_name_signs) F sc_has_name_signs rfl ?_
  intro cdv A outer s H E hr text_1
  have hu := hu65 hr
  have nd := sc_has_name_signs.nd
  have hp := passes_of (X := cxOf (L2.CX P w) P w K mg base ["text", "sign"] d0.qual d0.scope (He.fAd K d0.at_) cdv A outer s H E) rfl
  exact (b_if (t_cmp (o_notin hu) (e_idx hu (e_var (i := 0) rfl (.inl rfl) rfl) e_int) (e_gstr rfl (m_LETTERS B) (by decide +kernel))) (b_retD e_bl (fun _ => rfl)) (b_retD (e_callB (c_all rfl) rfl (m_all B) (by decide +kernel) (a_cons (LC.ee (lc1 1 nd (i_val (e_var (i := 0) rfl (.inl rfl) rfl)) (.inl rfl) (fun sign_2 _ _ _ _ _ => (e_or (e_cmp (o_in hu) (e_var (i := 1) rfl (.inl rfl) rfl) (e_gstr rfl (m_LETTERS B) (by decide +kernel))) (e_one (e_cmp (o_in hu) (e_var (i := 1) rfl (.inl rfl) rfl) (e_gstr rfl (m_FIGURES B) (by decide +kernel))))))) rfl nd (blkOk_by (by kernel_rfl))) a_nil)) (fun _ => rfl)))
theorem ok_has_name_signs : FnG P w K mg base 1 "has_name_signs" (fn1 f_has_name_signs) := by
  obtain ⟨h, KX, G, c, cx⟩ := B.ex
  obtain ⟨fd, F⟩ := c.def_ 0 (d := d0) rfl
  exact ⟨_, fd, ["text"], okF_has_name_signs B F, He.glo_ok KX G (c.fact 0 (f := .glo "has_name_signs") rfl), F.kp, FunD.bindsN F fun _ _ _ _ _ _ us hl => match us, hl with | [_], _ => rfl⟩
omit B in
theorem sc_is_name : FnScope ["value"] ["value"] (defScope (top 6)) := ⟨rfl, rfl, rfl, by decide +kernel, rfl, by decide +kernel, by decide +kernel⟩
theorem okF_is_name {fd : FuncData} (F : FunD K d1.name d1.qual d1.params d1.body d1.scope (d1.dvs K) (d1.kws K) (He.fAd K d1.at_) fd) : FnOk P w K mg base (L2.CX P w) 2 (He.fAd K d1.at_) fd ["value"] (SpF ⟨K, mg⟩ (fn1 f_is_name)) := by
  refine fn_ok1 (k := 1) (n := 0) (g := f_is_name) F sc_is_name rfl ?_
  intro cdv A outer s H E hr value_1
  have hu := hu65 hr
  have nd := sc_is_name.nd
  have hp := passes_of (X := cxOf (L2.CX P w) P w K mg base ["value"] d1.qual d1.scope (He.fAd K d1.at_) cdv A outer s H E) rfl
  exact (b_if (t_not (t_val (e_isi .str rfl (m_isinstance B) (e_var (i := 0) rfl (.inl rfl) rfl) rfl (m_str B) (by decide +kernel)))) (b_retD e_bl (fun _ => rfl)) (b_if (t_not (t_chain2 o_le o_le le_bl le_bl e_int (e_callB c_len rfl (m_len B) (by decide +kernel) (a_cons (e_var (i := 0) rfl (.inl rfl) rfl) a_nil)) (e_gint rfl (m_LONGEST_NAME B)))) (b_retD e_bl (fun _ => rfl)) (b_retD (e_fn (ok_has_name_signs B) hr rfl (a_cons (e_var (i := 0) rfl (.inl rfl) rfl) a_nil)) (fun _ => rfl))))
theorem ok_is_name : FnG P w K mg base 2 "is_name" (fn1 f_is_name) := by
  obtain ⟨h, KX, G, c, cx⟩ := B.ex
  obtain ⟨fd, F⟩ := c.def_ 1 (d := d1) rfl
  exact ⟨_, fd, ["value"], okF_is_name B F, He.glo_ok KX G (c.fact 1 (f := .glo "is_name") rfl), F.kp, FunD.bindsN F fun _ _ _ _ _ _ us hl => match us, hl with | [_], _ => rfl⟩
omit B in
theorem sc_is_yes : FnScope ["answer"] ["answer"] (defScope (top 7)) := ⟨rfl, rfl, rfl, by decide +kernel, rfl, by decide +kernel, by decide +kernel⟩
theorem okF_is_yes {fd : FuncData} (F : FunD K d2.name d2.qual d2.params d2.body d2.scope (d2.dvs K) (d2.kws K) (He.fAd K d2.at_) fd) : FnOk P w K mg base (L2.CX P w) 1 (He.fAd K d2.at_) fd ["answer"] (SpF ⟨K, mg⟩ (fn1 f_is_yes)) := by
  refine fn_ok1 (k := 0) (n := 0) (g := f_is_yes) F sc_is_yes rfl ?_
  intro cdv A outer s H E hr answer_1
  have hu := hu65 hr
  have nd := sc_is_yes.nd
  have hp := passes_of (X := cxOf (L2.CX P w) P w K mg base ["answer"] d2.qual d2.scope (He.fAd K d2.at_) cdv A outer s H E) rfl
  exact (b_retD (e_not (m_startswith (e_var (i := 0) rfl (.inl rfl) rfl) (e_gstr rfl (m_NO B) (by decide +kernel)))) (fun _ => rfl))
theorem ok_is_yes : FnG P w K mg base 1 "is_yes" (fn1 f_is_yes) := by
  obtain ⟨h, KX, G, c, cx⟩ := B.ex
  obtain ⟨fd, F⟩ := c.def_ 2 (d := d2) rfl
  exact ⟨_, fd, ["answer"], okF_is_yes B F, He.glo_ok KX G (c.fact 2 (f := .glo "is_yes") rfl), F.kp, FunD.bindsN F fun _ _ _ _ _ _ us hl => match us, hl with | [_], _ => rfl⟩
omit B in
theorem sc_field_of : FnScope ["answer"] ["answer"] (defScope (top 8)) := ⟨rfl, rfl, rfl, by decide +kernel, rfl, by decide +kernel, by decide +kernel⟩
theorem okF_field_of {fd : FuncData} (F : FunD K d3.name d3.qual d3.params d3.body d3.scope (d3.dvs K) (d3.kws K) (He.fAd K d3.at_) fd) : FnOk P w K mg base (L2.CX P w) 2 (He.fAd K d3.at_) fd ["answer"] (SpF ⟨K, mg⟩ (fn1 f_field_of)) := by
  refine fn_ok1 (k := 1) (n := 0) (g := f_field_of) F sc_field_of rfl ?_
  intro cdv A outer s H E hr answer_1
  have hu := hu65 hr
  have nd := sc_field_of.nd
  have hp := passes_of (X := cxOf (L2.CX P w) P w K mg base ["answer"] d3.qual d3.scope (He.fAd K d3.at_) cdv A outer s H E) rfl
  exact (b_if (t_val (e_fn (ok_is_yes B) hr rfl (a_cons (e_var (i := 0) rfl (.inl rfl) rfl) a_nil))) (b_retD (e_var (i := 0) rfl (.inl rfl) rfl) (fun _ => rfl)) (b_retD (e_slice (e_var (i := 0) rfl (.inl rfl) rfl) (eo_some e_int) eo_none) (fun _ => rfl)))
theorem ok_field_of : FnG P w K mg base 2 "field_of" (fn1 f_field_of) := by
  obtain ⟨h, KX, G, c, cx⟩ := B.ex
  obtain ⟨fd, F⟩ := c.def_ 3 (d := d3) rfl
  exact ⟨_, fd, ["answer"], okF_field_of B F, He.glo_ok KX G (c.fact 3 (f := .glo "field_of") rfl), F.kp, FunD.bindsN F fun _ _ _ _ _ _ us hl => match us, hl with | [_], _ => rfl⟩
omit B in
theorem sc_no_to : FnScope ["field"] ["field"] (defScope (top 9)) := ⟨rfl, rfl, rfl, by decide +kernel, rfl, by decide +kernel, by decide +kernel⟩
theorem okF_no_to {fd : FuncData} (F : FunD K d4.name d4.qual d4.params d4.body d4.scope (d4.dvs K) (d4.kws K) (He.fAd K d4.at_) fd) : FnOk P w K mg base (L2.CX P w) 1 (He.fAd K d4.at_) fd ["field"] (SpF ⟨K, mg⟩ (fn1 f_no_to)) := by
  refine fn_ok1 (k := 0) (n := 0) (g := f_no_to) F sc_no_to rfl ?_
  intro cdv A outer s H E hr field_1
  have hu := hu65 hr
  have nd := sc_no_to.nd
  have hp := passes_of (X := cxOf (L2.CX P w) P w K mg base ["field"] d4.qual d4.scope (He.fAd K d4.at_) cdv A outer s H E) rfl
  exact (b_retD (e_bin o_add (e_gstr rfl (m_NO B) (by decide +kernel)) (e_var (i := 0) rfl (.inl rfl) rfl)) (fun _ => rfl))
theorem ok_no_to : FnG P w K mg base 1 "no_to" (fn1 f_no_to) := by
  obtain ⟨h, KX, G, c, cx⟩ := B.ex
  obtain ⟨fd, F⟩ := c.def_ 4 (d := d4) rfl
  exact ⟨_, fd, ["field"], okF_no_to B F, He.glo_ok KX G (c.fact 4 (f := .glo "no_to") rfl), F.kp, FunD.bindsN F fun _ _ _ _ _ _ us hl => match us, hl with | [_], _ => rfl⟩
omit B in
theorem sc_opposite : FnScope ["answer"] ["answer"] (defScope (top 10)) := ⟨rfl, rfl, rfl, by decide +kernel, rfl, by decide +kernel, by decide +kernel⟩
theorem okF_opposite {fd : FuncData} (F : FunD K d5.name d5.qual d5.params d5.body d5.scope (d5.dvs K) (d5.kws K) (He.fAd K d5.at_) fd) : FnOk P w K mg base (L2.CX P w) 3 (He.fAd K d5.at_) fd ["answer"] (SpF ⟨K, mg⟩ (fn1 f_opposite)) := by
  refine fn_ok1 (k := 2) (n := 0) (g := f_opposite) F sc_opposite rfl ?_
  intro cdv A outer s H E hr answer_1
  have hu := hu65 hr
  have nd := sc_opposite.nd
  have hp := passes_of (X := cxOf (L2.CX P w) P w K mg base ["answer"] d5.qual d5.scope (He.fAd K d5.at_) cdv A outer s H E) rfl
  exact (b_if (t_val (e_fn (ok_is_yes B) hr rfl (a_cons (e_var (i := 0) rfl (.inl rfl) rfl) a_nil))) (b_retD (e_fn (ok_no_to B) hr rfl (a_cons (e_var (i := 0) rfl (.inl rfl) rfl) a_nil)) (fun _ => rfl)) (b_retD (e_fn (ok_field_of B) hr rfl (a_cons (e_var (i := 0) rfl (.inl rfl) rfl) a_nil)) (fun _ => rfl)))
theorem ok_opposite : FnG P w K mg base 3 "opposite" (fn1 f_opposite) := by
  obtain ⟨h, KX, G, c, cx⟩ := B.ex
  obtain ⟨fd, F⟩ := c.def_ 5 (d := d5) rfl
  exact ⟨_, fd, ["answer"], okF_opposite B F, He.glo_ok KX G (c.fact 5 (f := .glo "opposite") rfl), F.kp, FunD.bindsN F fun _ _ _ _ _ _ us hl => match us, hl with | [_], _ => rfl⟩
omit B in
theorem sc_answer_place : FnScope ["answer"] ["answer"] (defScope (top 11)) := ⟨rfl, rfl, rfl, by decide +kernel, rfl, by decide +kernel, by decide +kernel⟩
theorem okF_answer_place {fd : FuncData} (F : FunD K d6.name d6.qual d6.params d6.body d6.scope (d6.dvs K) (d6.kws K) (He.fAd K d6.at_) fd) : FnOk P w K mg base (L2.CX P w) 3 (He.fAd K d6.at_) fd ["answer"] (SpF ⟨K, mg⟩ (fn1 f_answer_place)) := by
  refine fn_ok1 (k := 2) (n := 0) (g := f_answer_place) F sc_answer_place rfl ?_
  intro cdv A outer s H E hr answer_1
  have hu := hu65 hr
  have nd := sc_answer_place.nd
  have hp := passes_of (X := cxOf (L2.CX P w) P w K mg base ["answer"] d6.qual d6.scope (He.fAd K d6.at_) cdv A outer s H E) rfl
  exact (b_if (t_val (e_fn (ok_is_yes B) hr rfl (a_cons (e_var (i := 0) rfl (.inl rfl) rfl) a_nil))) (b_retD (e_tup (a_cons (e_var (i := 0) rfl (.inl rfl) rfl) (a_cons e_int a_nil))) (fun _ => rfl)) (b_retD (e_tup (a_cons (e_fn (ok_field_of B) hr rfl (a_cons (e_var (i := 0) rfl (.inl rfl) rfl) a_nil)) (a_cons e_int a_nil))) (fun _ => rfl)))
theorem ok_answer_place : FnG P w K mg base 3 "answer_place" (fn1 f_answer_place) := by
  obtain ⟨h, KX, G, c, cx⟩ := B.ex
  obtain ⟨fd, F⟩ := c.def_ 6 (d := d6) rfl
  exact ⟨_, fd, ["answer"], okF_answer_place B F, He.glo_ok KX G (c.fact 6 (f := .glo "answer_place") rfl), F.kp, FunD.bindsN F fun _ _ _ _ _ _ us hl => match us, hl with | [_], _ => rfl⟩
omit B in
theorem sc_sorted_answers : FnScope ["answers"] ["answers"] (defScope (top 12)) := ⟨rfl, rfl, rfl, by decide +kernel, rfl, by decide +kernel, by decide +kernel⟩
theorem okF_sorted_answers {fd : FuncData} (F : FunD K d7.name d7.qual d7.params d7.body d7.scope (d7.dvs K) (d7.kws K) (He.fAd K d7.at_) fd) : FnOk P w K mg base (L2.CX P w) 1 (He.fAd K d7.at_) fd ["answers"] (SpF ⟨K, mg⟩ (fn1 f_sorted_answers)) := by
  refine fn_ok1 (k := 0) (n := 0) (g := f_sorted_answers) F sc_sorted_answers rfl ?_
  intro cdv A outer s H E hr answers_1
  have hu := hu65 hr
  have nd := sc_sorted_answers.nd
  have hp := passes_of (X := cxOf (L2.CX P w) P w K mg base ["answers"] d7.qual d7.scope (He.fAd K d7.at_) cdv A outer s H E) rfl
  exact (b_retD (e_sortK0 rfl (m_sorted B) (e_var (i := 0) rfl (.inl rfl) rfl) rfl (g_answer_place B)) (fun _ => rfl))
theorem ok_sorted_answers : FnG P w K mg base 1 "sorted_answers" (fn1 f_sorted_answers) := by
  obtain ⟨h, KX, G, c, cx⟩ := B.ex
  obtain ⟨fd, F⟩ := c.def_ 7 (d := d7) rfl
  exact ⟨_, fd, ["answers"], okF_sorted_answers B F, He.glo_ok KX G (c.fact 7 (f := .glo "sorted_answers") rfl), F.kp, FunD.bindsN F fun _ _ _ _ _ _ us hl => match us, hl with | [_], _ => rfl⟩
omit B in
theorem sc_is_rename : FnScope ["fields", "old", "new"] ["fields", "old", "new"] (defScope (top 19)) := ⟨rfl, rfl, rfl, by decide +kernel, rfl, by decide +kernel, by decide +kernel⟩
theorem okF_is_rename {fd : FuncData} (F : FunD K d10.name d10.qual d10.params d10.body d10.scope (d10.dvs K) (d10.kws K) (He.fAd K d10.at_) fd) : FnOk P w K mg base (L2.CX P w) 3 (He.fAd K d10.at_) fd ["fields", "old", "new"] (SpF ⟨K, mg⟩ (fn3 f_is_rename)) := by
  refine fn_ok3 (k := 2) (n := 0) (g := f_is_rename) F sc_is_rename rfl ?_
  intro cdv A outer s H E hr fields_1 old_2 new_3
  have hu := hu65 hr
  have nd := sc_is_rename.nd
  have hp := passes_of (X := cxOf (L2.CX P w) P w K mg base ["fields", "old", "new"] d10.qual d10.scope (He.fAd K d10.at_) cdv A outer s H E) rfl
  exact (b_retD (e_and (e_cmp (o_in hu) (e_var (i := 1) rfl (.inl rfl) rfl) (e_var (i := 0) rfl (.inl rfl) rfl)) (e_and (e_fn (ok_is_name B) hr rfl (a_cons (e_var (i := 2) rfl (.inl rfl) rfl) a_nil)) (e_one (e_cmp (o_notin hu) (e_var (i := 2) rfl (.inl rfl) rfl) (e_var (i := 0) rfl (.inl rfl) rfl))))) (fun _ => rfl))
theorem ok_is_rename : FnG P w K mg base 3 "is_rename" (fn3 f_is_rename) := by
  obtain ⟨h, KX, G, c, cx⟩ := B.ex
  obtain ⟨fd, F⟩ := c.def_ 10 (d := d10) rfl
  exact ⟨_, fd, ["fields", "old", "new"], okF_is_rename B F, He.glo_ok KX G (c.fact 8 (f := .glo "is_rename") rfl), F.kp, FunD.bindsN F fun _ _ _ _ _ _ us hl => match us, hl with | [_, _, _], _ => rfl⟩
omit B in
theorem sc_is_addition : FnScope ["fields", "field"] ["fields", "field"] (defScope (top 20)) := ⟨rfl, rfl, rfl, by decide +kernel, rfl, by decide +kernel, by decide +kernel⟩
theorem okF_is_addition {fd : FuncData} (F : FunD K d11.name d11.qual d11.params d11.body d11.scope (d11.dvs K) (d11.kws K) (He.fAd K d11.at_) fd) : FnOk P w K mg base (L2.CX P w) 3 (He.fAd K d11.at_) fd ["fields", "field"] (SpF ⟨K, mg⟩ (fn2 f_is_addition)) := by
  refine fn_ok2 (k := 2) (n := 0) (g := f_is_addition) F sc_is_addition rfl ?_
  intro cdv A outer s H E hr fields_1 field_2
  have hu := hu65 hr
  have nd := sc_is_addition.nd
  have hp := passes_of (X := cxOf (L2.CX P w) P w K mg base ["fields", "field"] d11.qual d11.scope (He.fAd K d11.at_) cdv A outer s H E) rfl
  exact (b_retD (e_and (e_fn (ok_is_name B) hr rfl (a_cons (e_var (i := 1) rfl (.inl rfl) rfl) a_nil)) (e_and (e_cmp (o_notin hu) (e_var (i := 1) rfl (.inl rfl) rfl) (e_var (i := 0) rfl (.inl rfl) rfl)) (e_one (e_cmp o_lt (e_callB c_len rfl (m_len B) (by decide +kernel) (a_cons (e_var (i := 0) rfl (.inl rfl) rfl) a_nil)) (e_gint rfl (m_MOST_FIELDS B)))))) (fun _ => rfl))
theorem ok_is_addition : FnG P w K mg base 3 "is_addition" (fn2 f_is_addition) := by
  obtain ⟨h, KX, G, c, cx⟩ := B.ex
  obtain ⟨fd, F⟩ := c.def_ 11 (d := d11) rfl
  exact ⟨_, fd, ["fields", "field"], okF_is_addition B F, He.glo_ok KX G (c.fact 9 (f := .glo "is_addition") rfl), F.kp, FunD.bindsN F fun _ _ _ _ _ _ us hl => match us, hl with | [_, _], _ => rfl⟩
omit B in
theorem sc_is_step : FnScope ["fields", "value", "field", "new", "old", "part"] ["fields", "value"] (defScope (top 21)) := ⟨rfl, rfl, rfl, by decide +kernel, rfl, by decide +kernel, by decide +kernel⟩
theorem okF_is_step {fd : FuncData} (F : FunD K d12.name d12.qual d12.params d12.body d12.scope (d12.dvs K) (d12.kws K) (He.fAd K d12.at_) fd) : FnOk P w K mg base (L2.CX P w) 4 (He.fAd K d12.at_) fd ["fields", "value"] (SpF ⟨K, mg⟩ (fn2 f_is_step)) := by
  refine fn_ok2 (k := 3) (n := 4) (g := f_is_step) F sc_is_step rfl ?_
  intro cdv A outer s H E hr fields_1 value_2
  have hu := hu65 hr
  have nd := sc_is_step.nd
  have hp := passes_of (X := cxOf (L2.CX P w) P w K mg base ["fields", "value", "field", "new", "old", "part"] d12.qual d12.scope (He.fAd K d12.at_) cdv A outer s H E) rfl
  exact (b_if (w_t (w_or (t_not (t_val (e_isi .tuple rfl (m_isinstance B) (e_var (i := 1) rfl (.inl rfl) rfl) rfl (m_tuple B) (by decide +kernel)))) (w_or1 (t_not (t_val (e_callB (c_all rfl) rfl (m_all B) (by decide +kernel) (a_cons (LC.ee (lc1 5 nd (i_val (e_var (i := 1) rfl (.inl rfl) rfl)) (.inl rfl) (fun part_3 _ _ _ _ _ => (e_isi .str rfl (m_isinstance B) (e_var (i := 5) rfl (.inl rfl) rfl) rfl (m_str B) (by decide +kernel)))) rfl nd (blkOk_by (by kernel_rfl))) a_nil))))))) (b_retD e_bl (fun _ => rfl)) (b_match (e_var (i := 1) rfl (.inl rfl) rfl) (fun d_4 => (mb_seq2 (i := 4) (i2 := 3) rfl hu (by decide +kernel) nd (.inl rfl) (.inl rfl) (fun old_5 new_6 => (b_retD (e_fn (ok_is_rename B) hr rfl (a_cons (e_var (i := 0) rfl (.inl rfl) rfl) (a_cons (e_var (i := 4) rfl (.inl rfl) rfl) (a_cons (e_var (i := 3) rfl (.inl rfl) rfl) a_nil)))) (fun _ => rfl))) (mb_seq1 (i := 2) rfl hu (by decide +kernel) nd (.inl rfl) (fun field_7 => (b_retD (e_cmp (o_in hu) (e_var (i := 2) rfl (.inl rfl) rfl) (e_var (i := 0) rfl (.inl rfl) rfl)) (fun _ => rfl))) (mb_seq1 (i := 2) rfl hu (by decide +kernel) nd (.inl rfl) (fun field_8 => (b_retD (e_and (e_cmp (o_in hu) (e_var (i := 2) rfl (.inl rfl) rfl) (e_var (i := 0) rfl (.inl rfl) rfl)) (e_one (e_cmp o_gt (e_callB c_len rfl (m_len B) (by decide +kernel) (a_cons (e_var (i := 0) rfl (.inl rfl) rfl) a_nil)) e_int))) (fun _ => rfl))) (mb_seq1 (i := 2) rfl hu (by decide +kernel) nd (.inl rfl) (fun field_9 => (b_retD (e_fn (ok_is_addition B) hr rfl (a_cons (e_var (i := 0) rfl (.inl rfl) rfl) (a_cons (e_var (i := 2) rfl (.inl rfl) rfl) a_nil))) (fun _ => rfl))) (mb_any (b_retD e_bl (fun _ => rfl))))))))))
theorem ok_is_step : FnG P w K mg base 4 "is_step" (fn2 f_is_step) := by
  obtain ⟨h, KX, G, c, cx⟩ := B.ex
  obtain ⟨fd, F⟩ := c.def_ 12 (d := d12) rfl
  exact ⟨_, fd, ["fields", "value"], okF_is_step B F, He.glo_ok KX G (c.fact 10 (f := .glo "is_step") rfl), F.kp, FunD.bindsN F fun _ _ _ _ _ _ us hl => match us, hl with | [_, _], _ => rfl⟩
omit B in
theorem sc_fields_after_one : FnScope ["fields", "step", "gone", "more", "new", "old", "field"] ["fields", "step"] (defScope (top 22)) := ⟨rfl, rfl, rfl, by decide +kernel, rfl, by decide +kernel, by decide +kernel⟩
theorem okF_fields_after_one {fd : FuncData} (F : FunD K d13.name d13.qual d13.params d13.body d13.scope (d13.dvs K) (d13.kws K) (He.fAd K d13.at_) fd) : FnOk P w K mg base (L2.CX P w) 1 (He.fAd K d13.at_) fd ["fields", "step"] (SpF ⟨K, mg⟩ (fn2 f_fields_after_one)) := by
  refine fn_ok2 (k := 0) (n := 5) (g := f_fields_after_one) F sc_fields_after_one rfl ?_
  intro cdv A outer s H E hr fields_1 step_2
  have hu := hu65 hr
  have nd := sc_fields_after_one.nd
  have hp := passes_of (X := cxOf (L2.CX P w) P w K mg base ["fields", "step", "gone", "more", "new", "old", "field"] d13.qual d13.scope (He.fAd K d13.at_) cdv A outer s H E) rfl
  exact (b_match (e_var (i := 1) rfl (.inl rfl) rfl) (fun d_3 => (mb_seq2 (i := 5) (i2 := 4) rfl hu (by decide +kernel) nd (.inr rfl) (.inr rfl) (fun old_4 new_5 => (b_retD (e_callB (c_sorted hu) rfl (m_sorted B) (by decide +kernel) (a_cons (LC.ee (lc1 6 nd (i_val (e_var (i := 0) rfl (.inl rfl) rfl)) (.inl rfl) (fun field_6 _ _ _ _ _ => (e_if (t_cmp (o_eq hu) (e_var (i := 6) rfl (.inl rfl) rfl) (e_var (i := 5) rfl (.inr (.inl rfl)) rfl)) (e_var (i := 4) rfl (.inr (.inl rfl)) rfl) (e_var (i := 6) rfl (.inl rfl) rfl)))) rfl nd (blkOk_by (by kernel_rfl))) a_nil)) (fun _ => rfl))) (mb_seq1 (i := 2) rfl hu (by decide +kernel) nd (.inr rfl) (fun gone_7 => (b_retD (LC.ee (lc1if 6 nd (i_val (e_var (i := 0) rfl (.inl rfl) rfl)) (.inl rfl) (fun field_8 _ _ _ _ _ => (t_cmp (o_ne hu) (e_var (i := 6) rfl (.inl rfl) rfl) (e_var (i := 2) rfl (.inr (.inl rfl)) rfl))) (fun field_8 _ _ _ _ _ => (e_var (i := 6) rfl (.inl rfl) rfl))) rfl nd (blkOk_by (by kernel_rfl))) (fun _ => rfl))) (mb_seq1 (i := 3) rfl hu (by decide +kernel) nd (.inl rfl) (fun more_9 => (b_retD (e_callB (c_sorted hu) rfl (m_sorted B) (by decide +kernel) (a_cons (e_bin o_add (e_var (i := 0) rfl (.inl rfl) rfl) (e_lst (a_cons (e_var (i := 3) rfl (.inl rfl) rfl) a_nil))) a_nil)) (fun _ => rfl))) (mb_any (b_retD (e_callT (c_list rfl) rfl (m_list B) (by decide +kernel) (a_cons (e_var (i := 0) rfl (.inl rfl) rfl) a_nil)) (fun _ => rfl))))))))
theorem ok_fields_after_one : FnG P w K mg base 1 "fields_after_one" (fn2 f_fields_after_one) := by
  obtain ⟨h, KX, G, c, cx⟩ := B.ex
  obtain ⟨fd, F⟩ := c.def_ 13 (d := d13) rfl
  exact ⟨_, fd, ["fields", "step"], okF_fields_after_one B F, He.glo_ok KX G (c.fact 11 (f := .glo "fields_after_one") rfl), F.kp, FunD.bindsN F fun _ _ _ _ _ _ us hl => match us, hl with | [_, _], _ => rfl⟩
omit B in
theorem sc_fields_along : FnScope ["fields", "steps", "found", "index", "step"] ["fields", "steps"] (defScope (top 23)) := ⟨rfl, rfl, rfl, by decide +kernel, rfl, by decide +kernel, by decide +kernel⟩
theorem okF_fields_along {fd : FuncData} (F : FunD K d14.name d14.qual d14.params d14.body d14.scope (d14.dvs K) (d14.kws K) (He.fAd K d14.at_) fd) : FnOk P w K mg base (L2.CX P w) 5 (He.fAd K d14.at_) fd ["fields", "steps"] (SpF ⟨K, mg⟩ (fn2 f_fields_along)) := by
  refine fn_ok2 (k := 4) (n := 3) (g := f_fields_along) F sc_fields_along rfl ?_
  intro cdv A outer s H E hr fields_1 steps_2
  have hu := hu65 hr
  have nd := sc_fields_along.nd
  have hp := passes_of (X := cxOf (L2.CX P w) P w K mg base ["fields", "steps", "found", "index", "step"] d14.qual d14.scope (He.fAd K d14.at_) cdv A outer s H E) rfl
  exact (b_setOw (i := 2) (.inl rfl) (f_lst (a_cons (e_callT (c_list rfl) rfl (m_list B) (by decide +kernel) (a_cons (e_var (i := 0) rfl (.inl rfl) rfl) a_nil)) a_nil)) (fun found_3 => (b_for2N (S := D) (i := 3) (j := 4) (emb := fun s_4 => [Sl.un, Sl.d steps_2, Sl.ow s_4, Sl.un, Sl.un]) (s0 := found_3) hp rfl nd (.inl rfl) (.inl rfl) (i_enum rfl (m_enumerate B) (e_var (i := 1) rfl (.inl rfl) rfl)) (Wk.un (Wk.eq (Wk.eq (Wk.un (Wk.un Wk.nil))))) (fun _ => ⟨rfl, rfl⟩) (fun s_4 index_5 step_6 => (b_if (t_not (t_val (e_fn (ok_is_step B) hr rfl (a_cons (e_idxOw (i := 2) (.inl rfl) rfl (e_un o_neg e_int)) (a_cons (e_var (i := 4) rfl (.inl rfl) rfl) a_nil))))) (b_raise1 (c := "BadStep") (f := "index") rfl (hr.mono (by decide)) (x_BadStep B) rfl (e_var (i := 3) rfl (.inl rfl) rfl)) (b_app (i := 2) (.inl rfl) rfl (e_fn (ok_fields_after_one B) hr rfl (a_cons (e_idxOw (i := 2) (.inl rfl) rfl (e_un o_neg e_int)) (a_cons (e_var (i := 4) rfl (.inl rfl) rfl) a_nil))) (fun found_7 => (b_nil (Wk.un (Wk.eq (Wk.eq (Wk.un (Wk.un Wk.nil)))))))))) (fun s_4 => (b_rel (i := 2) rfl (b_retD (e_var (i := 2) rfl (.inl rfl) rfl) (fun _ => rfl)))))) (hN := nd))
theorem ok_fields_along : FnG P w K mg base 5 "fields_along" (fn2 f_fields_along) := by
  obtain ⟨h, KX, G, c, cx⟩ := B.ex
  obtain ⟨fd, F⟩ := c.def_ 14 (d := d14) rfl
  exact ⟨_, fd, ["fields", "steps"], okF_fields_along B F, He.glo_ok KX G (c.fact 12 (f := .glo "fields_along") rfl), F.kp, FunD.bindsN F fun _ _ _ _ _ _ us hl => match us, hl with | [_, _], _ => rfl⟩
omit B in
theorem sc_fields_after : FnScope ["fields", "steps"] ["fields", "steps"] (defScope (top 24)) := ⟨rfl, rfl, rfl, by decide +kernel, rfl, by decide +kernel, by decide +kernel⟩
theorem okF_fields_after {fd : FuncData} (F : FunD K d15.name d15.qual d15.params d15.body d15.scope (d15.dvs K) (d15.kws K) (He.fAd K d15.at_) fd) : FnOk P w K mg base (L2.CX P w) 6 (He.fAd K d15.at_) fd ["fields", "steps"] (SpF ⟨K, mg⟩ (fn2 f_fields_after)) := by
  refine fn_ok2 (k := 5) (n := 0) (g := f_fields_after) F sc_fields_after rfl ?_
  intro cdv A outer s H E hr fields_1 steps_2
  have hu := hu65 hr
  have nd := sc_fields_after.nd
  have hp := passes_of (X := cxOf (L2.CX P w) P w K mg base ["fields", "steps"] d15.qual d15.scope (He.fAd K d15.at_) cdv A outer s H E) rfl
  exact (b_retD (e_idx hu (e_fn (ok_fields_along B) hr rfl (a_cons (e_var (i := 0) rfl (.inl rfl) rfl) (a_cons (e_var (i := 1) rfl (.inl rfl) rfl) a_nil))) (e_un o_neg e_int)) (fun _ => rfl))
theorem ok_fields_after : FnG P w K mg base 6 "fields_after" (fn2 f_fields_after) := by
  obtain ⟨h, KX, G, c, cx⟩ := B.ex
  obtain ⟨fd, F⟩ := c.def_ 15 (d := d15) rfl
  exact ⟨_, fd, ["fields", "steps"], okF_fields_after B F, He.glo_ok KX G (c.fact 13 (f := .glo "fields_after") rfl), F.kp, FunD.bindsN F fun _ _ _ _ _ _ us hl => match us, hl with | [_, _], _ => rfl⟩
omit B in
theorem sc_step_back : FnScope ["step", "field", "new", "old"] ["step"] (defScope (top 25)) := ⟨rfl, rfl, rfl, by decide +kernel, rfl, by decide +kernel, by decide +kernel⟩
theorem okF_step_back {fd : FuncData} (F : FunD K d16.name d16.qual d16.params d16.body d16.scope (d16.dvs K) (d16.kws K) (He.fAd K d16.at_) fd) : FnOk P w K mg base (L2.CX P w) 1 (He.fAd K d16.at_) fd ["step"] (SpF ⟨K, mg⟩ (fn1 f_step_back)) := by
  refine fn_ok1 (k := 0) (n := 3) (g := f_step_back) F sc_step_back rfl ?_
  intro cdv A outer s H E hr step_1
  have hu := hu65 hr
  have nd := sc_step_back.nd
  have hp := passes_of (X := cxOf (L2.CX P w) P w K mg base ["step", "field", "new", "old"] d16.qual d16.scope (He.fAd K d16.at_) cdv A outer s H E) rfl
  exact (b_match (e_var (i := 0) rfl (.inl rfl) rfl) (fun d_2 => (mb_seq2 (i := 3) (i2 := 2) rfl hu (by decide +kernel) nd (.inl rfl) (.inl rfl) (fun old_3 new_4 => (b_retD (e_tup (a_cons (e_str (by decide +kernel)) (a_cons (e_var (i := 2) rfl (.inl rfl) rfl) (a_cons (e_var (i := 3) rfl (.inl rfl) rfl) a_nil)))) (fun _ => rfl))) (mb_seq1 (i := 1) rfl hu (by decide +kernel) nd (.inl rfl) (fun field_5 => (b_retD (e_tup (a_cons (e_str (by decide +kernel)) (a_cons (e_var (i := 1) rfl (.inl rfl) rfl) a_nil))) (fun _ => rfl))) (mb_any (b_retD e_non (fun _ => rfl)))))))
theorem ok_step_back : FnG P w K mg base 1 "step_back" (fn1 f_step_back) := by
  obtain ⟨h, KX, G, c, cx⟩ := B.ex
  obtain ⟨fd, F⟩ := c.def_ 16 (d := d16) rfl
  exact ⟨_, fd, ["step"], okF_step_back B F, He.glo_ok KX G (c.fact 14 (f := .glo "step_back") rfl), F.kp, FunD.bindsN F fun _ _ _ _ _ _ us hl => match us, hl with | [_], _ => rfl⟩
omit B in
theorem sc_back : FnScope ["fields", "steps", "found", "step"] ["fields", "steps"] (defScope (top 26)) := ⟨rfl, rfl, rfl, by decide +kernel, rfl, by decide +kernel, by decide +kernel⟩
theorem okF_back {fd : FuncData} (F : FunD K d17.name d17.qual d17.params d17.body d17.scope (d17.dvs K) (d17.kws K) (He.fAd K d17.at_) fd) : FnOk P w K mg base (L2.CX P w) 6 (He.fAd K d17.at_) fd ["fields", "steps"] (SpF ⟨K, mg⟩ (fn2 f_back)) := by
  refine fn_ok2 (k := 5) (n := 2) (g := f_back) F sc_back rfl ?_
  intro cdv A outer s H E hr fields_1 steps_2
  have hu := hu65 hr
  have nd := sc_back.nd
  have hp := passes_of (X := cxOf (L2.CX P w) P w K mg base ["fields", "steps", "found", "step"] d17.qual d17.scope (He.fAd K d17.at_) cdv A outer s H E) rfl
  exact (b_expr (e_fn (ok_fields_along B) hr rfl (a_cons (e_var (i := 0) rfl (.inl rfl) rfl) (a_cons (e_var (i := 1) rfl (.inl rfl) rfl) a_nil))) (b_setLc (i := 2) (lc1 3 nd (i_rev rfl (m_reversed B) (e_var (i := 1) rfl (.inl rfl) rfl)) (.inl rfl) (fun step_3 _ _ _ _ _ => (e_fn (ok_step_back B) hr rfl (a_cons (e_var (i := 3) rfl (.inl rfl) rfl) a_nil)))) rfl nd (blkOk_by (by kernel_rfl)) rfl (sw_true rfl rfl rfl (by kernel_rfl)) (fun found_4 => (b_if (t_cmp (o_in hu) e_non (e_var (i := 2) rfl (.inl rfl) rfl)) (b_retD e_non (fun _ => rfl)) (b_retD (e_var (i := 2) rfl (.inl rfl) rfl) (fun _ => rfl))))))
theorem ok_back : FnG P w K mg base 6 "back" (fn2 f_back) := by
  obtain ⟨h, KX, G, c, cx⟩ := B.ex
  obtain ⟨fd, F⟩ := c.def_ 17 (d := d17) rfl
  exact ⟨_, fd, ["fields", "steps"], okF_back B F, He.glo_ok KX G (c.fact 15 (f := .glo "back") rfl), F.kp, FunD.bindsN F fun _ _ _ _ _ _ us hl => match us, hl with | [_, _], _ => rfl⟩
omit B in
theorem sc_same_to : FnScope ["answer", "field"] ["answer", "field"] (defScope (top 28)) := ⟨rfl, rfl, rfl, by decide +kernel, rfl, by decide +kernel, by decide +kernel⟩
theorem okF_same_to {fd : FuncData} (F : FunD K d18.name d18.qual d18.params d18.body d18.scope (d18.dvs K) (d18.kws K) (He.fAd K d18.at_) fd) : FnOk P w K mg base (L2.CX P w) 4 (He.fAd K d18.at_) fd ["answer", "field"] (SpF ⟨K, mg⟩ (fn2 f_same_to)) := by
  refine fn_ok2 (k := 3) (n := 0) (g := f_same_to) F sc_same_to rfl ?_
  intro cdv A outer s H E hr answer_1 field_2
  have hu := hu65 hr
  have nd := sc_same_to.nd
  have hp := passes_of (X := cxOf (L2.CX P w) P w K mg base ["answer", "field"] d18.qual d18.scope (He.fAd K d18.at_) cdv A outer s H E) rfl
  exact (b_retD (e_if (t_val (e_fn (ok_is_yes B) hr rfl (a_cons (e_var (i := 0) rfl (.inl rfl) rfl) a_nil))) (e_var (i := 1) rfl (.inl rfl) rfl) (e_fn (ok_opposite B) hr rfl (a_cons (e_var (i := 1) rfl (.inl rfl) rfl) a_nil))) (fun _ => rfl))
theorem ok_same_to : FnG P w K mg base 4 "same_to" (fn2 f_same_to) := by
  obtain ⟨h, KX, G, c, cx⟩ := B.ex
  obtain ⟨fd, F⟩ := c.def_ 18 (d := d18) rfl
  exact ⟨_, fd, ["answer", "field"], okF_same_to B F, He.glo_ok KX G (c.fact 16 (f := .glo "same_to") rfl), F.kp, FunD.bindsN F fun _ _ _ _ _ _ us hl => match us, hl with | [_, _], _ => rfl⟩
omit B in
theorem sc_carried_answer : FnScope ["answer", "step", "field", "new", "old"] ["answer", "step"] (defScope (top 29)) := ⟨rfl, rfl, rfl, by decide +kernel, rfl, by decide +kernel, by decide +kernel⟩
theorem okF_carried_answer {fd : FuncData} (F : FunD K d19.name d19.qual d19.params d19.body d19.scope (d19.dvs K) (d19.kws K) (He.fAd K d19.at_) fd) : FnOk P w K mg base (L2.CX P w) 5 (He.fAd K d19.at_) fd ["answer", "step"] (SpF ⟨K, mg⟩ (fn2 f_carried_answer)) := by
  refine fn_ok2 (k := 4) (n := 3) (g := f_carried_answer) F sc_carried_answer rfl ?_
  intro cdv A outer s H E hr answer_1 step_2
  have hu := hu65 hr
  have nd := sc_carried_answer.nd
  have hp := passes_of (X := cxOf (L2.CX P w) P w K mg base ["answer", "step", "field", "new", "old"] d19.qual d19.scope (He.fAd K d19.at_) cdv A outer s H E) rfl
  exact (b_match (e_var (i := 1) rfl (.inl rfl) rfl) (fun d_3 => (mb_seq2 (i := 4) (i2 := 3) rfl hu (by decide +kernel) nd (.inl rfl) (.inl rfl) (fun old_4 new_5 => (b_retD (e_if (t_cmp (o_eq hu) (e_fn (ok_field_of B) hr rfl (a_cons (e_var (i := 0) rfl (.inl rfl) rfl) a_nil)) (e_var (i := 4) rfl (.inl rfl) rfl)) (e_fn (ok_same_to B) hr rfl (a_cons (e_var (i := 0) rfl (.inl rfl) rfl) (a_cons (e_var (i := 3) rfl (.inl rfl) rfl) a_nil))) (e_var (i := 0) rfl (.inl rfl) rfl)) (fun _ => rfl))) (mb_seq1 (i := 2) rfl hu (by decide +kernel) nd (.inl rfl) (fun field_6 => (b_retD (e_if (t_cmp (o_eq hu) (e_fn (ok_field_of B) hr rfl (a_cons (e_var (i := 0) rfl (.inl rfl) rfl) a_nil)) (e_var (i := 2) rfl (.inl rfl) rfl)) (e_fn (ok_opposite B) hr rfl (a_cons (e_var (i := 0) rfl (.inl rfl) rfl) a_nil)) (e_var (i := 0) rfl (.inl rfl) rfl)) (fun _ => rfl))) (mb_any (b_retD (e_var (i := 0) rfl (.inl rfl) rfl) (fun _ => rfl)))))))
theorem ok_carried_answer : FnG P w K mg base 5 "carried_answer" (fn2 f_carried_answer) := by
  obtain ⟨h, KX, G, c, cx⟩ := B.ex
  obtain ⟨fd, F⟩ := c.def_ 19 (d := d19) rfl
  exact ⟨_, fd, ["answer", "step"], okF_carried_answer B F, He.glo_ok KX G (c.fact 17 (f := .glo "carried_answer") rfl), F.kp, FunD.bindsN F fun _ _ _ _ _ _ us hl => match us, hl with | [_, _], _ => rfl⟩
omit B in
theorem sc_carried_by_one : FnScope ["part", "step", "kept", "answer"] ["part", "step"] (defScope (top 30)) := ⟨rfl, rfl, rfl, by decide +kernel, rfl, by decide +kernel, by decide +kernel⟩
theorem okF_carried_by_one {fd : FuncData} (F : FunD K d20.name d20.qual d20.params d20.body d20.scope (d20.dvs K) (d20.kws K) (He.fAd K d20.at_) fd) : FnOk P w K mg base (L2.CX P w) 6 (He.fAd K d20.at_) fd ["part", "step"] (SpF ⟨K, mg⟩ (fn2 f_carried_by_one)) := by
  refine fn_ok2 (k := 5) (n := 2) (g := f_carried_by_one) F sc_carried_by_one rfl ?_
  intro cdv A outer s H E hr part_1 step_2
  have hu := hu65 hr
  have nd := sc_carried_by_one.nd
  have hp := passes_of (X := cxOf (L2.CX P w) P w K mg base ["part", "step", "kept", "answer"] d20.qual d20.scope (He.fAd K d20.at_) cdv A outer s H E) rfl
  exact (b_set (i := 2) (.inl rfl) (e_var (i := 0) rfl (.inl rfl) rfl) (fun kept_3 => (b_join (S := D) (emb := fun s_4 => [Sl.un, Sl.d step_2, Sl.d s_4, Sl.un]) (t_cmp (o_eq hu) (e_idx hu (e_var (i := 1) rfl (.inr (.inl rfl)) rfl) e_int) (e_str (by decide +kernel))) (b_setLc (i := 2) (lc1if 3 nd (i_val (e_var (i := 0) rfl (.inl rfl) rfl)) (.inl rfl) (fun answer_5 _ _ _ _ _ => (t_cmp (o_ne hu) (e_fn (ok_field_of B) hr rfl (a_cons (e_var (i := 3) rfl (.inl rfl) rfl) a_nil)) (e_idx hu (e_var (i := 1) rfl (.inr (.inl rfl)) rfl) e_int))) (fun answer_5 _ _ _ _ _ => (e_var (i := 3) rfl (.inl rfl) rfl))) rfl nd (blkOk_by (by kernel_rfl)) rfl (sw_true rfl rfl rfl (by kernel_rfl)) (fun kept_6 => (b_nil (Wk.un (Wk.eq (Wk.eq (Wk.un Wk.nil))))))) (b_nil (Wk.un (Wk.eq (Wk.eq (Wk.un Wk.nil))))) (fun s_4 => (b_retD (e_fn (ok_sorted_answers B) hr rfl (a_cons (LC.ee (lc1 3 nd (i_val (e_var (i := 2) rfl (.inl rfl) rfl)) (.inl rfl) (fun answer_7 _ _ _ _ _ => (e_fn (ok_carried_answer B) hr rfl (a_cons (e_var (i := 3) rfl (.inl rfl) rfl) (a_cons (e_var (i := 1) rfl (.inr (.inl rfl)) rfl) a_nil))))) rfl nd (blkOk_by (by kernel_rfl))) a_nil)) (fun _ => rfl))))) (hN := nd))
theorem ok_carried_by_one : FnG P w K mg base 6 "carried_by_one" (fn2 f_carried_by_one) := by
  obtain ⟨h, KX, G, c, cx⟩ := B.ex
  obtain ⟨fd, F⟩ := c.def_ 20 (d := d20) rfl
  exact ⟨_, fd, ["part", "step"], okF_carried_by_one B F, He.glo_ok KX G (c.fact 18 (f := .glo "carried_by_one") rfl), F.kp, FunD.bindsN F fun _ _ _ _ _ _ us hl => match us, hl with | [_, _], _ => rfl⟩
omit B in
theorem sc_carried_part : FnScope ["fields", "part", "steps", "found", "step"] ["fields", "part", "steps"] (defScope (top 31)) := ⟨rfl, rfl, rfl, by decide +kernel, rfl, by decide +kernel, by decide +kernel⟩
theorem okF_carried_part {fd : FuncData} (F : FunD K d21.name d21.qual d21.params d21.body d21.scope (d21.dvs K) (d21.kws K) (He.fAd K d21.at_) fd) : FnOk P w K mg base (L2.CX P w) 7 (He.fAd K d21.at_) fd ["fields", "part", "steps"] (SpF ⟨K, mg⟩ (fn3 f_carried_part)) := by
  refine fn_ok3 (k := 6) (n := 2) (g := f_carried_part) F sc_carried_part rfl ?_
  intro cdv A outer s H E hr fields_1 part_2 steps_3
  have hu := hu65 hr
  have nd := sc_carried_part.nd
  have hp := passes_of (X := cxOf (L2.CX P w) P w K mg base ["fields", "part", "steps", "found", "step"] d21.qual d21.scope (He.fAd K d21.at_) cdv A outer s H E) rfl
  exact (b_expr (e_fn (ok_fields_along B) hr rfl (a_cons (e_var (i := 0) rfl (.inl rfl) rfl) (a_cons (e_var (i := 2) rfl (.inl rfl) rfl) a_nil))) (b_set (i := 3) (.inl rfl) (e_callT (c_list rfl) rfl (m_list B) (by decide +kernel) (a_cons (e_var (i := 1) rfl (.inl rfl) rfl) a_nil)) (fun found_4 => (b_for1N (S := D) (i := 4) (emb := fun s_5 => [Sl.un, Sl.un, Sl.d steps_3, Sl.d s_5, Sl.un]) (s0 := found_4) hp rfl nd (.inl rfl) (i_val (e_var (i := 2) rfl (.inl rfl) rfl)) (Wk.un (Wk.un (Wk.eq (Wk.eq (Wk.un Wk.nil))))) (fun _ => rfl) (fun s_5 step_6 => (b_set (i := 3) (.inl rfl) (e_fn (ok_carried_by_one B) hr rfl (a_cons (e_var (i := 3) rfl (.inl rfl) rfl) (a_cons (e_var (i := 4) rfl (.inl rfl) rfl) a_nil))) (fun found_7 => (b_nil (Wk.un (Wk.un (Wk.eq (Wk.eq (Wk.un Wk.nil))))))) (hN := nd))) (fun s_5 => (b_retD (e_var (i := 3) rfl (.inl rfl) rfl) (fun _ => rfl))))) (hN := nd)))
theorem ok_carried_part : FnG P w K mg base 7 "carried_part" (fn3 f_carried_part) := by
  obtain ⟨h, KX, G, c, cx⟩ := B.ex
  obtain ⟨fd, F⟩ := c.def_ 21 (d := d21) rfl
  exact ⟨_, fd, ["fields", "part", "steps"], okF_carried_part B F, He.glo_ok KX G (c.fact 19 (f := .glo "carried_part") rfl), F.kp, FunD.bindsN F fun _ _ _ _ _ _ us hl => match us, hl with | [_, _, _], _ => rfl⟩
omit B in
theorem sc__law_numbers : FnScope ["script", "at", "count", "cell", "numbers", "k", "mixed"] ["script", "at", "count"] (defScope (top 33)) := ⟨rfl, rfl, rfl, by decide +kernel, rfl, by decide +kernel, by decide +kernel⟩
theorem okF__law_numbers {fd : FuncData} (F : FunD K d22.name d22.qual d22.params d22.body d22.scope (d22.dvs K) (d22.kws K) (He.fAd K d22.at_) fd) : FnOk P w K mg base (L2.CX P w) 1 (He.fAd K d22.at_) fd ["script", "at", "count"] (SpF ⟨K, mg⟩ (fn3 f__law_numbers)) := by
  refine fn_ok3 (k := 0) (n := 4) (g := f__law_numbers) F sc__law_numbers rfl ?_
  intro cdv A outer s H E hr script_1 at_2 count_3
  have hu := hu65 hr
  have nd := sc__law_numbers.nd
  have hp := passes_of (X := cxOf (L2.CX P w) P w K mg base ["script", "at", "count", "cell", "numbers", "k", "mixed"] d22.qual d22.scope (He.fAd K d22.at_) cdv A outer s H E) rfl
  exact (b_set (i := 3) (.inl rfl) (e_bin o_mul e_int (e_bin o_add (e_var (i := 1) rfl (.inl rfl) rfl) e_int)) (fun cell_4 => (b_join (S := D) (emb := fun s_5 => [Sl.un, Sl.d at_2, Sl.d count_3, Sl.d s_5, Sl.un, Sl.un, Sl.un]) (t_cmp o_lt (e_var (i := 1) rfl (.inl rfl) rfl) (e_callB c_len rfl (m_len B) (by decide +kernel) (a_cons (e_var (i := 0) rfl (.inl rfl) rfl) a_nil))) (b_set (i := 3) (.inl rfl) (e_callT c_int rfl (m_int B) (by decide +kernel) (a_cons (e_idx hu (e_var (i := 0) rfl (.inl rfl) rfl) (e_var (i := 1) rfl (.inl rfl) rfl)) a_nil)) (fun cell_6 => (b_nil (Wk.un (Wk.eq (Wk.eq (Wk.eq (Wk.un (Wk.un (Wk.un Wk.nil))))))))) (hN := nd)) (b_nil (Wk.un (Wk.eq (Wk.eq (Wk.eq (Wk.un (Wk.un (Wk.un Wk.nil)))))))) (fun s_5 => (b_join (S := D) (emb := fun s_7 => [Sl.un, Sl.d at_2, Sl.d count_3, Sl.d s_7, Sl.un, Sl.un, Sl.un]) (t_cmp o_lt (e_var (i := 3) rfl (.inl rfl) rfl) e_int) (b_set (i := 3) (.inl rfl) (e_bin o_sub e_int (e_bin o_mul e_int (e_var (i := 3) rfl (.inl rfl) rfl))) (fun cell_8 => (b_nil (Wk.un (Wk.eq (Wk.eq (Wk.eq (Wk.un (Wk.un (Wk.un Wk.nil))))))))) (hN := nd)) (b_nil (Wk.un (Wk.eq (Wk.eq (Wk.eq (Wk.un (Wk.un (Wk.un Wk.nil)))))))) (fun s_7 => (b_setOw (i := 4) (.inl rfl) (f_lst a_nil) (fun numbers_9 => (b_for1N (S := D × D) (i := 5) (emb := fun s_10 => [Sl.un, Sl.d at_2, Sl.d count_3, Sl.d s_10.1, Sl.ow s_10.2, Sl.un, Sl.un]) (s0 := (s_7, numbers_9)) hp rfl nd (.inl rfl) (i_range1 rfl (m_range B) (e_var (i := 2) rfl (.inl rfl) rfl)) (Wk.un (Wk.eq (Wk.eq (Wk.eq (Wk.eq (Wk.un (Wk.un Wk.nil))))))) (fun _ => rfl) (fun s_10 k_11 => (b_ifE (t_cmp o_ge (e_var (i := 3) rfl (.inl rfl) rfl) (e_bin o_pow e_int e_int)) (b_app (i := 4) (.inl rfl) rfl (e_bin o_mod (e_var (i := 3) rfl (.inl rfl) rfl) e_int) (fun numbers_12 => (b_set (i := 3) (.inl rfl) (e_bin o_fdiv (e_var (i := 3) rfl (.inl rfl) rfl) e_int) (fun cell_13 => (b_nil (Wk.un (Wk.eq (Wk.eq (Wk.eq (Wk.eq (Wk.un (Wk.un Wk.nil))))))))) (hN := nd)))) (b_set (i := 6) (.inl rfl) (e_bin o_mod (e_bin o_add (e_bin o_add (e_bin o_mul (e_var (i := 3) rfl (.inl rfl) rfl) e_int) (e_bin o_mul (e_bin o_add (e_var (i := 5) rfl (.inl rfl) rfl) e_int) e_int)) (e_bin o_mul (e_var (i := 1) rfl (.inl rfl) rfl) e_int)) e_int) (fun mixed_14 => (b_set (i := 6) (.inl rfl) (e_bin o_mod (e_bin o_add (e_bin o_mul (e_var (i := 6) rfl (.inl rfl) rfl) (e_var (i := 6) rfl (.inl rfl) rfl)) (e_bin o_mul e_int (e_bin o_add (e_var (i := 5) rfl (.inl rfl) rfl) e_int))) e_int) (fun mixed_15 => (b_app (i := 4) (.inl rfl) rfl (e_bin o_mod (e_bin o_fdiv (e_var (i := 6) rfl (.inl rfl) rfl) e_int) e_int) (fun numbers_16 => (b_nil (Wk.un (Wk.eq (Wk.eq (Wk.eq (Wk.eq (Wk.un (Wk.un Wk.nil))))))))))) (hN := nd))) (hN := nd)))) (fun s_10 => (b_rel (i := 4) rfl (b_retD (e_var (i := 4) rfl (.inl rfl) rfl) (fun _ => rfl)))))) (hN := nd))))))) (hN := nd))
theorem ok__law_numbers : FnG P w K mg base 1 "_law_numbers" (fn3 f__law_numbers) := by
  obtain ⟨h, KX, G, c, cx⟩ := B.ex
  obtain ⟨fd, F⟩ := c.def_ 22 (d := d22) rfl
  exact ⟨_, fd, ["script", "at", "count"], okF__law_numbers B F, He.glo_ok KX G (c.fact 20 (f := .glo "_law_numbers") rfl), F.kp, FunD.bindsN F fun _ _ _ _ _ _ us hl => match us, hl with | [_, _, _], _ => rfl⟩
omit B in
theorem sc__law_drawn_fields : FnScope ["script", "most", "numbers", "fields", "k"] ["script", "most"] (defScope (top 34)) := ⟨rfl, rfl, rfl, by decide +kernel, rfl, by decide +kernel, by decide +kernel⟩
theorem okF__law_drawn_fields {fd : FuncData} (F : FunD K d23.name d23.qual d23.params d23.body d23.scope (d23.dvs K) (d23.kws K) (He.fAd K d23.at_) fd) : FnOk P w K mg base (L2.CX P w) 2 (He.fAd K d23.at_) fd ["script", "most"] (SpF ⟨K, mg⟩ (fn2 f__law_drawn_fields)) := by
  refine fn_ok2 (k := 1) (n := 3) (g := f__law_drawn_fields) F sc__law_drawn_fields rfl ?_
  intro cdv A outer s H E hr script_1 most_2
  have hu := hu65 hr
  have nd := sc__law_drawn_fields.nd
  have hp := passes_of (X := cxOf (L2.CX P w) P w K mg base ["script", "most", "numbers", "fields", "k"] d23.qual d23.scope (He.fAd K d23.at_) cdv A outer s H E) rfl
  exact (b_set (i := 2) (.inl rfl) (e_fn (ok__law_numbers B) hr rfl (a_cons (e_var (i := 0) rfl (.inl rfl) rfl) (a_cons e_int (a_cons e_int a_nil)))) (fun numbers_3 => (b_setOw (i := 3) (.inl rfl) (f_lst a_nil) (fun fields_4 => (b_for1N (S := D) (i := 4) (emb := fun s_5 => [Sl.un, Sl.d most_2, Sl.d numbers_3, Sl.ow s_5, Sl.un]) (s0 := fields_4) hp rfl nd (.inl rfl) (i_range1 rfl (m_range B) (e_bin o_add e_int (e_bin o_mod (e_idx hu (e_var (i := 2) rfl (.inl rfl) rfl) e_int) (e_var (i := 1) rfl (.inl rfl) rfl)))) (Wk.un (Wk.eq (Wk.eq (Wk.eq (Wk.un Wk.nil))))) (fun _ => rfl) (fun s_5 k_6 => (b_app (i := 3) (.inl rfl) rfl (e_bin o_add (e_idx hu (e_str (by decide +kernel)) (e_bin o_mod (e_idx hu (e_var (i := 2) rfl (.inl rfl) rfl) (e_bin o_add (e_var (i := 4) rfl (.inl rfl) rfl) e_int)) e_int)) (e_callT c_str rfl (m_str B) (by decide +kernel) (a_cons (e_var (i := 4) rfl (.inl rfl) rfl) a_nil))) (fun fields_7 => (b_nil (Wk.un (Wk.eq (Wk.eq (Wk.eq (Wk.un Wk.nil))))))))) (fun s_5 => (b_rel (i := 3) rfl (b_retD (e_callB (c_sorted hu) rfl (m_sorted B) (by decide +kernel) (a_cons (e_var (i := 3) rfl (.inl rfl) rfl) a_nil)) (fun _ => rfl)))))) (hN := nd))) (hN := nd))
theorem ok__law_drawn_fields : FnG P w K mg base 2 "_law_drawn_fields" (fn2 f__law_drawn_fields) := by
  obtain ⟨h, KX, G, c, cx⟩ := B.ex
  obtain ⟨fd, F⟩ := c.def_ 23 (d := d23) rfl
  exact ⟨_, fd, ["script", "most"], okF__law_drawn_fields B F, He.glo_ok KX G (c.fact 21 (f := .glo "_law_drawn_fields") rfl), F.kp, FunD.bindsN F fun _ _ _ _ _ _ us hl => match us, hl with | [_, _], _ => rfl⟩
omit B in
theorem sc__law_fields_after : FnScope ["fields", "step", "field"] ["fields", "step"] (defScope (top 35)) := ⟨rfl, rfl, rfl, by decide +kernel, rfl, by decide +kernel, by decide +kernel⟩
theorem okF__law_fields_after {fd : FuncData} (F : FunD K d24.name d24.qual d24.params d24.body d24.scope (d24.dvs K) (d24.kws K) (He.fAd K d24.at_) fd) : FnOk P w K mg base (L2.CX P w) 1 (He.fAd K d24.at_) fd ["fields", "step"] (SpF ⟨K, mg⟩ (fn2 f__law_fields_after)) := by
  refine fn_ok2 (k := 0) (n := 1) (g := f__law_fields_after) F sc__law_fields_after rfl ?_
  intro cdv A outer s H E hr fields_1 step_2
  have hu := hu65 hr
  have nd := sc__law_fields_after.nd
  have hp := passes_of (X := cxOf (L2.CX P w) P w K mg base ["fields", "step", "field"] d24.qual d24.scope (He.fAd K d24.at_) cdv A outer s H E) rfl
  exact (b_if (t_cmp (o_eq hu) (e_idx hu (e_var (i := 1) rfl (.inr (.inl rfl)) rfl) e_int) (e_str (by decide +kernel))) (b_retD (e_callB (c_sorted hu) rfl (m_sorted B) (by decide +kernel) (a_cons (LC.ee (lc1 2 nd (i_val (e_var (i := 0) rfl (.inl rfl) rfl)) (.inl rfl) (fun field_3 _ _ _ _ _ => (e_idx hu (e_lst (a_cons (e_var (i := 2) rfl (.inl rfl) rfl) (a_cons (e_idx hu (e_var (i := 1) rfl (.inr (.inl rfl)) rfl) e_int) a_nil))) (e_callT c_int rfl (m_int B) (by decide +kernel) (a_cons (e_cmp (o_eq hu) (e_var (i := 2) rfl (.inl rfl) rfl) (e_idx hu (e_var (i := 1) rfl (.inr (.inl rfl)) rfl) e_int)) a_nil))))) rfl nd (blkOk_by (by kernel_rfl))) a_nil)) (fun _ => rfl)) (b_if (t_cmp (o_eq hu) (e_idx hu (e_var (i := 1) rfl (.inr (.inl rfl)) rfl) e_int) (e_str (by decide +kernel))) (b_retD (LC.ee (lc1if 2 nd (i_val (e_var (i := 0) rfl (.inl rfl) rfl)) (.inl rfl) (fun field_4 _ _ _ _ _ => (t_cmp (o_ne hu) (e_var (i := 2) rfl (.inl rfl) rfl) (e_idx hu (e_var (i := 1) rfl (.inr (.inl rfl)) rfl) e_int))) (fun field_4 _ _ _ _ _ => (e_var (i := 2) rfl (.inl rfl) rfl))) rfl nd (blkOk_by (by kernel_rfl))) (fun _ => rfl)) (b_if (t_cmp (o_eq hu) (e_idx hu (e_var (i := 1) rfl (.inr (.inl rfl)) rfl) e_int) (e_str (by decide +kernel))) (b_retD (e_callB (c_sorted hu) rfl (m_sorted B) (by decide +kernel) (a_cons (e_bin o_add (e_var (i := 0) rfl (.inl rfl) rfl) (e_lst (a_cons (e_idx hu (e_var (i := 1) rfl (.inr (.inl rfl)) rfl) e_int) a_nil))) a_nil)) (fun _ => rfl)) (b_retD (e_callT (c_list rfl) rfl (m_list B) (by decide +kernel) (a_cons (e_var (i := 0) rfl (.inl rfl) rfl) a_nil)) (fun _ => rfl)))))
theorem ok__law_fields_after : FnG P w K mg base 1 "_law_fields_after" (fn2 f__law_fields_after) := by
  obtain ⟨h, KX, G, c, cx⟩ := B.ex
  obtain ⟨fd, F⟩ := c.def_ 24 (d := d24) rfl
  exact ⟨_, fd, ["fields", "step"], okF__law_fields_after B F, He.glo_ok KX G (c.fact 22 (f := .glo "_law_fields_after") rfl), F.kp, FunD.bindsN F fun _ _ _ _ _ _ us hl => match us, hl with | [_, _], _ => rfl⟩
omit B in
theorem sc__law_step : FnScope ["numbers", "fields", "kinds", "kind", "field", "fresh"] ["numbers", "fields", "kinds"] (defScope (top 36)) := ⟨rfl, rfl, rfl, by decide +kernel, rfl, by decide +kernel, by decide +kernel⟩
theorem okF__law_step {fd : FuncData} (F : FunD K d25.name d25.qual d25.params d25.body d25.scope (d25.dvs K) (d25.kws K) (He.fAd K d25.at_) fd) : FnOk P w K mg base (L2.CX P w) 1 (He.fAd K d25.at_) fd ["numbers", "fields", "kinds"] (SpF ⟨K, mg⟩ (fn3 f__law_step)) := by
  refine fn_ok3 (k := 0) (n := 3) (g := f__law_step) F sc__law_step rfl ?_
  intro cdv A outer s H E hr numbers_1 fields_2 kinds_3
  have hu := hu65 hr
  have nd := sc__law_step.nd
  have hp := passes_of (X := cxOf (L2.CX P w) P w K mg base ["numbers", "fields", "kinds", "kind", "field", "fresh"] d25.qual d25.scope (He.fAd K d25.at_) cdv A outer s H E) rfl
  exact (b_set (i := 3) (.inl rfl) (e_idx hu (e_var (i := 2) rfl (.inl rfl) rfl) (e_bin o_mod (e_idx hu (e_var (i := 0) rfl (.inl rfl) rfl) e_int) (e_callB c_len rfl (m_len B) (by decide +kernel) (a_cons (e_var (i := 2) rfl (.inl rfl) rfl) a_nil)))) (fun kind_4 => (b_set (i := 4) (.inl rfl) (e_idx hu (e_var (i := 1) rfl (.inl rfl) rfl) (e_bin o_mod (e_idx hu (e_var (i := 0) rfl (.inl rfl) rfl) e_int) (e_callB c_len rfl (m_len B) (by decide +kernel) (a_cons (e_var (i := 1) rfl (.inl rfl) rfl) a_nil)))) (fun field_5 => (b_set (i := 5) (.inl rfl) (e_bin o_add (e_idx hu (e_str (by decide +kernel)) (e_bin o_mod (e_idx hu (e_var (i := 0) rfl (.inl rfl) rfl) e_int) e_int)) (e_callT c_str rfl (m_str B) (by decide +kernel) (a_cons (e_bin o_mod (e_idx hu (e_var (i := 0) rfl (.inl rfl) rfl) e_int) e_int) a_nil))) (fun fresh_6 => (b_if (w_t (w_or (t_cmp (o_in hu) (e_var (i := 5) rfl (.inl rfl) rfl) (e_var (i := 1) rfl (.inl rfl) rfl)) (w_or1 (w_t (w_and (t_cmp (o_eq hu) (e_var (i := 3) rfl (.inl rfl) rfl) (e_str (by decide +kernel))) (w_and1 (t_cmp (o_eq hu) (e_callB c_len rfl (m_len B) (by decide +kernel) (a_cons (e_var (i := 1) rfl (.inl rfl) rfl) a_nil)) e_int))))))) (b_retD (e_tup (a_cons (e_str (by decide +kernel)) (a_cons (e_var (i := 4) rfl (.inl rfl) rfl) a_nil))) (fun _ => rfl)) (b_if (t_cmp (o_eq hu) (e_var (i := 3) rfl (.inl rfl) rfl) (e_str (by decide +kernel))) (b_retD (e_tup (a_cons (e_str (by decide +kernel)) (a_cons (e_var (i := 4) rfl (.inl rfl) rfl) (a_cons (e_var (i := 5) rfl (.inl rfl) rfl) a_nil)))) (fun _ => rfl)) (b_if (t_cmp (o_eq hu) (e_var (i := 3) rfl (.inl rfl) rfl) (e_str (by decide +kernel))) (b_if (t_cmp (o_eq hu) (e_callB c_len rfl (m_len B) (by decide +kernel) (a_cons (e_var (i := 1) rfl (.inl rfl) rfl) a_nil)) e_int) (b_retD (e_tup (a_cons (e_str (by decide +kernel)) (a_cons (e_var (i := 4) rfl (.inl rfl) rfl) a_nil))) (fun _ => rfl)) (b_retD (e_tup (a_cons (e_str (by decide +kernel)) (a_cons (e_var (i := 5) rfl (.inl rfl) rfl) a_nil))) (fun _ => rfl))) (b_retD (e_tup (a_cons (e_var (i := 3) rfl (.inl rfl) rfl) (a_cons (e_var (i := 4) rfl (.inl rfl) rfl) a_nil))) (fun _ => rfl)))))) (hN := nd))) (hN := nd))) (hN := nd))
theorem ok__law_step : FnG P w K mg base 1 "_law_step" (fn3 f__law_step) := by
  obtain ⟨h, KX, G, c, cx⟩ := B.ex
  obtain ⟨fd, F⟩ := c.def_ 25 (d := d25) rfl
  exact ⟨_, fd, ["numbers", "fields", "kinds"], okF__law_step B F, He.glo_ok KX G (c.fact 23 (f := .glo "_law_step") rfl), F.kp, FunD.bindsN F fun _ _ _ _ _ _ us hl => match us, hl with | [_, _, _], _ => rfl⟩
omit B in
theorem sc__law_steps : FnScope ["script", "at", "fields", "many", "kinds", "steps", "k", "step"] ["script", "at", "fields", "many", "kinds"] (defScope (top 37)) := ⟨rfl, rfl, rfl, by decide +kernel, rfl, by decide +kernel, by decide +kernel⟩
theorem okF__law_steps {fd : FuncData} (F : FunD K d26.name d26.qual d26.params d26.body d26.scope (d26.dvs K) (d26.kws K) (He.fAd K d26.at_) fd) : FnOk P w K mg base (L2.CX P w) 2 (He.fAd K d26.at_) fd ["script", "at", "fields", "many", "kinds"] (SpF ⟨K, mg⟩ (fn5 f__law_steps)) := by
  refine fn_ok5 (k := 1) (n := 3) (g := f__law_steps) F sc__law_steps rfl ?_
  intro cdv A outer s H E hr script_1 at_2 fields_3 many_4 kinds_5
  have hu := hu65 hr
  have nd := sc__law_steps.nd
  have hp := passes_of (X := cxOf (L2.CX P w) P w K mg base ["script", "at", "fields", "many", "kinds", "steps", "k", "step"] d26.qual d26.scope (He.fAd K d26.at_) cdv A outer s H E) rfl
  exact (b_setOw (i := 5) (.inl rfl) (f_lst a_nil) (fun steps_6 => (b_for1N (S := D × D) (i := 6) (emb := fun s_7 => [Sl.d script_1, Sl.d at_2, Sl.d s_7.1, Sl.d many_4, Sl.d kinds_5, Sl.ow s_7.2, Sl.un, Sl.un]) (s0 := (fields_3, steps_6)) hp rfl nd (.inl rfl) (i_range1 rfl (m_range B) (e_var (i := 3) rfl (.inl rfl) rfl)) (Wk.eq (Wk.eq (Wk.eq (Wk.eq (Wk.eq (Wk.eq (Wk.un (Wk.un Wk.nil)))))))) (fun _ => rfl) (fun s_7 k_8 => (b_set (i := 7) (.inl rfl) (e_fn (ok__law_step B) hr rfl (a_cons (e_fn (ok__law_numbers B) hr rfl (a_cons (e_var (i := 0) rfl (.inl rfl) rfl) (a_cons (e_bin o_add (e_var (i := 1) rfl (.inl rfl) rfl) (e_var (i := 6) rfl (.inl rfl) rfl)) (a_cons e_int a_nil)))) (a_cons (e_var (i := 2) rfl (.inl rfl) rfl) (a_cons (e_var (i := 4) rfl (.inl rfl) rfl) a_nil)))) (fun step_9 => (b_app (i := 5) (.inl rfl) rfl (e_var (i := 7) rfl (.inl rfl) rfl) (fun steps_10 => (b_set (i := 2) (.inl rfl) (e_fn (ok__law_fields_after B) hr rfl (a_cons (e_var (i := 2) rfl (.inl rfl) rfl) (a_cons (e_var (i := 7) rfl (.inl rfl) rfl) a_nil))) (fun fields_11 => (b_nil (Wk.eq (Wk.eq (Wk.eq (Wk.eq (Wk.eq (Wk.eq (Wk.un (Wk.un Wk.nil)))))))))) (hN := nd))))) (hN := nd))) (fun s_7 => (b_rel (i := 5) rfl (b_retD (e_var (i := 5) rfl (.inl rfl) rfl) (fun _ => rfl)))))) (hN := nd))
theorem ok__law_steps : FnG P w K mg base 2 "_law_steps" (fn5 f__law_steps) := by
  obtain ⟨h, KX, G, c, cx⟩ := B.ex
  obtain ⟨fd, F⟩ := c.def_ 26 (d := d26) rfl
  exact ⟨_, fd, ["script", "at", "fields", "many", "kinds"], okF__law_steps B F, He.glo_ok KX G (c.fact 24 (f := .glo "_law_steps") rfl), F.kp, FunD.bindsN F fun _ _ _ _ _ _ us hl => match us, hl with | [_, _, _, _, _], _ => rfl⟩
omit B in
theorem sc__law_is_name : FnScope ["value", "sign"] ["value"] (defScope (top 38)) := ⟨rfl, rfl, rfl, by decide +kernel, rfl, by decide +kernel, by decide +kernel⟩
theorem okF__law_is_name {fd : FuncData} (F : FunD K d27.name d27.qual d27.params d27.body d27.scope (d27.dvs K) (d27.kws K) (He.fAd K d27.at_) fd) : FnOk P w K mg base (L2.CX P w) 1 (He.fAd K d27.at_) fd ["value"] (SpF ⟨K, mg⟩ (fn1 f__law_is_name)) := by
  refine fn_ok1 (k := 0) (n := 1) (g := f__law_is_name) F sc__law_is_name rfl ?_
  intro cdv A outer s H E hr value_1
  have hu := hu65 hr
  have nd := sc__law_is_name.nd
  have hp := passes_of (X := cxOf (L2.CX P w) P w K mg base ["value", "sign"] d27.qual d27.scope (He.fAd K d27.at_) cdv A outer s H E) rfl
  exact (b_if (w_t (w_or (t_not (t_val (e_isi .str rfl (m_isinstance B) (e_var (i := 0) rfl (.inl rfl) rfl) rfl (m_str B) (by decide +kernel)))) (w_or (t_not (t_chain2 o_le o_le le_bl le_bl e_int (e_callB c_len rfl (m_len B) (by decide +kernel) (a_cons (e_var (i := 0) rfl (.inl rfl) rfl) a_nil)) e_int)) (w_or1 (t_cmp (o_notin hu) (e_idx hu (e_var (i := 0) rfl (.inl rfl) rfl) e_int) (e_str (by decide +kernel))))))) (b_retD e_bl (fun _ => rfl)) (b_retD (e_cmp (o_eq hu) (LC.ee (lc1if 1 nd (i_val (e_var (i := 0) rfl (.inl rfl) rfl)) (.inl rfl) (fun sign_2 _ _ _ _ _ => (t_cmp (o_notin hu) (e_var (i := 1) rfl (.inl rfl) rfl) (e_str (by decide +kernel)))) (fun sign_2 _ _ _ _ _ => (e_var (i := 1) rfl (.inl rfl) rfl))) rfl nd (blkOk_by (by kernel_rfl))) (e_lst a_nil)) (fun _ => rfl)))
theorem ok__law_is_name : FnG P w K mg base 1 "_law_is_name" (fn1 f__law_is_name) := by
  obtain ⟨h, KX, G, c, cx⟩ := B.ex
  obtain ⟨fd, F⟩ := c.def_ 27 (d := d27) rfl
  exact ⟨_, fd, ["value"], okF__law_is_name B F, He.glo_ok KX G (c.fact 25 (f := .glo "_law_is_name") rfl), F.kp, FunD.bindsN F fun _ _ _ _ _ _ us hl => match us, hl with | [_], _ => rfl⟩
omit B in
theorem sc__law_is_step : FnScope ["fields", "value", "part"] ["fields", "value"] (defScope (top 39)) := ⟨rfl, rfl, rfl, by decide +kernel, rfl, by decide +kernel, by decide +kernel⟩
theorem okF__law_is_step {fd : FuncData} (F : FunD K d28.name d28.qual d28.params d28.body d28.scope (d28.dvs K) (d28.kws K) (He.fAd K d28.at_) fd) : FnOk P w K mg base (L2.CX P w) 2 (He.fAd K d28.at_) fd ["fields", "value"] (SpF ⟨K, mg⟩ (fn2 f__law_is_step)) := by
  refine fn_ok2 (k := 1) (n := 1) (g := f__law_is_step) F sc__law_is_step rfl ?_
  intro cdv A outer s H E hr fields_1 value_2
  have hu := hu65 hr
  have nd := sc__law_is_step.nd
  have hp := passes_of (X := cxOf (L2.CX P w) P w K mg base ["fields", "value", "part"] d28.qual d28.scope (He.fAd K d28.at_) cdv A outer s H E) rfl
  exact (b_if (w_t (w_or (t_not (t_val (e_isi .tuple rfl (m_isinstance B) (e_var (i := 1) rfl (.inl rfl) rfl) rfl (m_tuple B) (by decide +kernel)))) (w_or1 (t_cmp (o_ne hu) (LC.ee (lc1if 2 nd (i_val (e_var (i := 1) rfl (.inl rfl) rfl)) (.inl rfl) (fun part_3 _ _ _ _ _ => (t_not (t_val (e_isi .str rfl (m_isinstance B) (e_var (i := 2) rfl (.inl rfl) rfl) rfl (m_str B) (by decide +kernel))))) (fun part_3 _ _ _ _ _ => (e_var (i := 2) rfl (.inl rfl) rfl))) rfl nd (blkOk_by (by kernel_rfl))) (e_lst a_nil))))) (b_retD e_bl (fun _ => rfl)) (b_if (t_cmp (o_eq hu) (e_callB c_len rfl (m_len B) (by decide +kernel) (a_cons (e_var (i := 1) rfl (.inl rfl) rfl) a_nil)) e_int) (b_retD (e_and (e_cmp (o_eq hu) (e_idx hu (e_var (i := 1) rfl (.inl rfl) rfl) e_int) (e_str (by decide +kernel))) (e_and (e_cmp (o_in hu) (e_idx hu (e_var (i := 1) rfl (.inl rfl) rfl) e_int) (e_var (i := 0) rfl (.inl rfl) rfl)) (e_and (e_fn (ok__law_is_name B) hr rfl (a_cons (e_idx hu (e_var (i := 1) rfl (.inl rfl) rfl) e_int) a_nil)) (e_one (e_cmp (o_notin hu) (e_idx hu (e_var (i := 1) rfl (.inl rfl) rfl) e_int) (e_var (i := 0) rfl (.inl rfl) rfl)))))) (fun _ => rfl)) (b_if (t_cmp (o_ne hu) (e_callB c_len rfl (m_len B) (by decide +kernel) (a_cons (e_var (i := 1) rfl (.inl rfl) rfl) a_nil)) e_int) (b_retD e_bl (fun _ => rfl)) (b_if (t_cmp (o_eq hu) (e_idx hu (e_var (i := 1) rfl (.inl rfl) rfl) e_int) (e_str (by decide +kernel))) (b_retD (e_cmp (o_in hu) (e_idx hu (e_var (i := 1) rfl (.inl rfl) rfl) e_int) (e_var (i := 0) rfl (.inl rfl) rfl)) (fun _ => rfl)) (b_if (t_cmp (o_eq hu) (e_idx hu (e_var (i := 1) rfl (.inl rfl) rfl) e_int) (e_str (by decide +kernel))) (b_retD (e_and (e_cmp (o_in hu) (e_idx hu (e_var (i := 1) rfl (.inl rfl) rfl) e_int) (e_var (i := 0) rfl (.inl rfl) rfl)) (e_one (e_cmp o_gt (e_callB c_len rfl (m_len B) (by decide +kernel) (a_cons (e_var (i := 0) rfl (.inl rfl) rfl) a_nil)) e_int))) (fun _ => rfl)) (b_retD (e_and (e_cmp (o_eq hu) (e_idx hu (e_var (i := 1) rfl (.inl rfl) rfl) e_int) (e_str (by decide +kernel))) (e_and (e_fn (ok__law_is_name B) hr rfl (a_cons (e_idx hu (e_var (i := 1) rfl (.inl rfl) rfl) e_int) a_nil)) (e_and (e_cmp (o_notin hu) (e_idx hu (e_var (i := 1) rfl (.inl rfl) rfl) e_int) (e_var (i := 0) rfl (.inl rfl) rfl)) (e_one (e_cmp o_lt (e_callB c_len rfl (m_len B) (by decide +kernel) (a_cons (e_var (i := 0) rfl (.inl rfl) rfl) a_nil)) e_int))))) (fun _ => rfl)))))))
theorem ok__law_is_step : FnG P w K mg base 2 "_law_is_step" (fn2 f__law_is_step) := by
  obtain ⟨h, KX, G, c, cx⟩ := B.ex
  obtain ⟨fd, F⟩ := c.def_ 28 (d := d28) rfl
  exact ⟨_, fd, ["fields", "value"], okF__law_is_step B F, He.glo_ok KX G (c.fact 26 (f := .glo "_law_is_step") rfl), F.kp, FunD.bindsN F fun _ _ _ _ _ _ us hl => match us, hl with | [_, _], _ => rfl⟩
omit B in
theorem sc__law_odd_steps : FnScope ["fields", "numbers", "field", "other", "found"] ["fields", "numbers"] (defScope (top 40)) := ⟨rfl, rfl, rfl, by decide +kernel, rfl, by decide +kernel, by decide +kernel⟩
theorem okF__law_odd_steps {fd : FuncData} (F : FunD K d29.name d29.qual d29.params d29.body d29.scope (d29.dvs K) (d29.kws K) (He.fAd K d29.at_) fd) : FnOk P w K mg base (L2.CX P w) 1 (He.fAd K d29.at_) fd ["fields", "numbers"] (SpF ⟨K, mg⟩ (fn2 f__law_odd_steps)) := by
  refine fn_ok2 (k := 0) (n := 3) (g := f__law_odd_steps) F sc__law_odd_steps rfl ?_
  intro cdv A outer s H E hr fields_1 numbers_2
  have hu := hu65 hr
  have nd := sc__law_odd_steps.nd
  have hp := passes_of (X := cxOf (L2.CX P w) P w K mg base ["fields", "numbers", "field", "other", "found"] d29.qual d29.scope (He.fAd K d29.at_) cdv A outer s H E) rfl
  exact (b_set (i := 2) (.inl rfl) (e_idx hu (e_var (i := 0) rfl (.inl rfl) rfl) (e_bin o_mod (e_idx hu (e_var (i := 1) rfl (.inl rfl) rfl) e_int) (e_callB c_len rfl (m_len B) (by decide +kernel) (a_cons (e_var (i := 0) rfl (.inl rfl) rfl) a_nil)))) (fun field_3 => (b_set (i := 3) (.inl rfl) (e_idx hu (e_var (i := 0) rfl (.inl rfl) rfl) (e_bin o_mod (e_idx hu (e_var (i := 1) rfl (.inl rfl) rfl) e_int) (e_callB c_len rfl (m_len B) (by decide +kernel) (a_cons (e_var (i := 0) rfl (.inl rfl) rfl) a_nil)))) (fun other_4 => (b_set (i := 4) (.inl rfl) (e_lst (a_cons (e_tup (a_cons (e_str (by decide +kernel)) (a_cons (e_var (i := 2) rfl (.inl rfl) rfl) (a_cons (e_var (i := 3) rfl (.inl rfl) rfl) a_nil)))) (a_cons (e_tup (a_cons (e_str (by decide +kernel)) (a_cons (e_var (i := 2) rfl (.inl rfl) rfl) (a_cons (e_var (i := 2) rfl (.inl rfl) rfl) a_nil)))) (a_cons (e_tup (a_cons (e_str (by decide +kernel)) (a_cons (e_str (by decide +kernel)) (a_cons (e_str (by decide +kernel)) a_nil)))) (a_cons (e_tup (a_cons (e_str (by decide +kernel)) (a_cons (e_var (i := 2) rfl (.inl rfl) rfl) (a_cons (e_str (by decide +kernel)) a_nil)))) (a_cons (e_tup (a_cons (e_str (by decide +kernel)) (a_cons (e_var (i := 2) rfl (.inl rfl) rfl) (a_cons (e_str (by decide +kernel)) a_nil)))) a_nil)))))) (fun found_5 => (b_set (i := 4) (.inl rfl) (e_bin o_add (e_var (i := 4) rfl (.inl rfl) rfl) (e_lst (a_cons (e_tup (a_cons (e_str (by decide +kernel)) (a_cons (e_var (i := 2) rfl (.inl rfl) rfl) (a_cons (e_str (by decide +kernel)) a_nil)))) (a_cons (e_tup (a_cons (e_str (by decide +kernel)) (a_cons (e_var (i := 2) rfl (.inl rfl) rfl) a_nil))) (a_cons (e_tup (a_cons (e_str (by decide +kernel)) (a_cons (e_var (i := 2) rfl (.inl rfl) rfl) (a_cons (e_str (by decide +kernel)) (a_cons (e_str (by decide +kernel)) a_nil))))) (a_cons (e_tup (a_cons (e_str (by decide +kernel)) (a_cons (e_var (i := 2) rfl (.inl rfl) rfl) (a_cons e_non a_nil)))) (a_cons (e_lst (a_cons (e_str (by decide +kernel)) (a_cons (e_var (i := 2) rfl (.inl rfl) rfl) a_nil))) a_nil))))))) (fun found_6 => (b_set (i := 4) (.inl rfl) (e_bin o_add (e_var (i := 4) rfl (.inl rfl) rfl) (e_lst (a_cons (e_tup (a_cons (e_str (by decide +kernel)) (a_cons (e_str (by decide +kernel)) a_nil))) (a_cons (e_tup (a_cons (e_str (by decide +kernel)) (a_cons (e_bin o_add (e_str (by decide +kernel)) (e_var (i := 2) rfl (.inl rfl) rfl)) a_nil))) (a_cons (e_tup (a_cons (e_str (by decide +kernel)) a_nil)) (a_cons (e_tup (a_cons (e_str (by decide +kernel)) (a_cons (e_var (i := 2) rfl (.inl rfl) rfl) (a_cons (e_var (i := 2) rfl (.inl rfl) rfl) a_nil)))) (a_cons (e_tup (a_cons (e_str (by decide +kernel)) (a_cons (e_var (i := 2) rfl (.inl rfl) rfl) a_nil))) (a_cons (e_tup (a_cons (e_str (by decide +kernel)) (a_cons (e_str (by decide +kernel)) a_nil))) (a_cons (e_tup (a_cons (e_str (by decide +kernel)) (a_cons e_non a_nil))) a_nil))))))))) (fun found_7 => (b_set (i := 4) (.inl rfl) (e_bin o_add (e_var (i := 4) rfl (.inl rfl) rfl) (e_lst (a_cons (e_tup (a_cons (e_str (by decide +kernel)) (a_cons (e_var (i := 2) rfl (.inl rfl) rfl) a_nil))) (a_cons (e_tup (a_cons (e_str (by decide +kernel)) (a_cons (e_str (by decide +kernel)) a_nil))) (a_cons (e_tup (a_cons (e_str (by decide +kernel)) (a_cons (e_bin o_mul (e_str (by decide +kernel)) e_int) a_nil))) (a_cons (e_tup (a_cons (e_str (by decide +kernel)) (a_cons (e_str (by decide +kernel)) a_nil))) (a_cons (e_tup (a_cons (e_str (by decide +kernel)) a_nil)) (a_cons (e_tup (a_cons (e_str (by decide +kernel)) (a_cons (e_str (by decide +kernel)) (a_cons (e_str (by decide +kernel)) a_nil)))) (a_cons (e_tup a_nil) (a_cons e_non (a_cons e_int (a_cons (e_str (by decide +kernel)) (a_cons (e_tup (a_cons e_non (a_cons (e_var (i := 2) rfl (.inl rfl) rfl) a_nil))) a_nil))))))))))))) (fun found_8 => (b_retD (e_bin o_add (e_var (i := 4) rfl (.inl rfl) rfl) (e_lst (a_cons (e_tup (a_cons (e_str (by decide +kernel)) (a_cons (e_tup (a_cons (e_var (i := 2) rfl (.inl rfl) rfl) a_nil)) a_nil))) (a_cons (e_tup (a_cons (e_str (by decide +kernel)) (a_cons (e_var (i := 2) rfl (.inl rfl) rfl) (a_cons (e_str (by decide +kernel)) a_nil)))) (a_cons (e_tup (a_cons (e_str (by decide +kernel)) (a_cons (e_var (i := 2) rfl (.inl rfl) rfl) a_nil))) (a_cons (e_tup (a_cons (e_str (by decide +kernel)) (a_cons (e_var (i := 2) rfl (.inl rfl) rfl) a_nil))) (a_cons (e_tup (a_cons (e_str (by decide +kernel)) (a_cons (e_str (by decide +kernel)) a_nil))) (a_cons (e_tup (a_cons (e_str (by decide +kernel)) (a_cons (e_bin o_mul (e_str (by decide +kernel)) e_int) a_nil))) a_nil)))))))) (fun _ => rfl))) (hN := nd))) (hN := nd))) (hN := nd))) (hN := nd))) (hN := nd))) (hN := nd))
theorem ok__law_odd_steps : FnG P w K mg base 1 "_law_odd_steps" (fn2 f__law_odd_steps) := by
  obtain ⟨h, KX, G, c, cx⟩ := B.ex
  obtain ⟨fd, F⟩ := c.def_ 29 (d := d29) rfl
  exact ⟨_, fd, ["fields", "numbers"], okF__law_odd_steps B F, He.glo_ok KX G (c.fact 27 (f := .glo "_law_odd_steps") rfl), F.kp, FunD.bindsN F fun _ _ _ _ _ _ us hl => match us, hl with | [_, _], _ => rfl⟩
omit B in
theorem sc__law_refused : FnScope ["which", "fields", "steps", "e"] ["which", "fields", "steps"] (defScope (top 41)) := ⟨rfl, rfl, rfl, by decide +kernel, rfl, by decide +kernel, by decide +kernel⟩
theorem okF__law_refused {fd : FuncData} (F : FunD K d30.name d30.qual d30.params d30.body d30.scope (d30.dvs K) (d30.kws K) (He.fAd K d30.at_) fd) : FnOk P w K mg base (L2.CX P w) 8 (He.fAd K d30.at_) fd ["which", "fields", "steps"] (SpF ⟨K, mg⟩ (fn3 f__law_refused)) := by
  refine fn_ok3 (k := 7) (n := 1) (g := f__law_refused) F sc__law_refused rfl ?_
  intro cdv A outer s H E hr which_1 fields_2 steps_3
  have hu := hu65 hr
  have nd := sc__law_refused.nd
  have hp := passes_of (X := cxOf (L2.CX P w) P w K mg base ["which", "fields", "steps", "e"] d30.qual d30.scope (He.fAd K d30.at_) cdv A outer s H E) rfl
  exact (b_try (i := 3) (xc := "BadStep") rfl rfl nd rfl (exT B) rfl ⟨true, by decide⟩ rfl (fun pn xe hp => (b_ifE (t_cmp (o_eq hu) (e_var (i := 0) rfl (.inl rfl) rfl) e_int) (b_expr (e_fn (ok_fields_after B) hr rfl (a_cons (e_var (i := 1) rfl (.inl rfl) rfl) (a_cons (e_var (i := 2) rfl (.inl rfl) rfl) a_nil))) (b_nil Wk.refl) (w := Wk.refl)) (b_ifE (t_cmp (o_eq hu) (e_var (i := 0) rfl (.inl rfl) rfl) e_int) (b_expr (e_fn (ok_back B) hr rfl (a_cons (e_var (i := 1) rfl (.inl rfl) rfl) (a_cons (e_var (i := 2) rfl (.inl rfl) rfl) a_nil))) (b_nil Wk.refl) (w := Wk.refl)) (b_expr (e_fn (ok_carried_part B) hr rfl (a_cons (e_var (i := 1) rfl (.inl rfl) rfl) (a_cons (e_lst a_nil) (a_cons (e_var (i := 2) rfl (.inl rfl) rfl) a_nil)))) (b_nil Wk.refl) (w := Wk.refl)) (w := Wk.refl)) (w := Wk.refl))) (fun a oe cls dd pn er_4 hz hf => (b_if (w_t (w_or (t_val (e_isX (i := 3) (xc := "BadRule") hz hf (exT B) rfl (.inl rfl) rfl (m_isinstance B) rfl)) (w_or1 (t_not (t_val (e_isX (i := 3) (xc := "FormError") hz hf (exT B) rfl (.inl rfl) rfl (m_isinstance B) rfl)))))) (b_ret (c := some) (e_str (by decide +kernel)) (fun _ => rfl)) (b_ret (c := some) (e_erF (i := 3) (f := "index") hz hf (exT B) (by decide) rfl (.inl rfl)) (fun _ => rfl)))) (b_retD e_non (fun _ => rfl)) (fun _ => rfl))
theorem ok__law_refused : FnG P w K mg base 8 "_law_refused" (fn3 f__law_refused) := by
  obtain ⟨h, KX, G, c, cx⟩ := B.ex
  obtain ⟨fd, F⟩ := c.def_ 30 (d := d30) rfl
  exact ⟨_, fd, ["which", "fields", "steps"], okF__law_refused B F, He.glo_ok KX G (c.fact 28 (f := .glo "_law_refused") rfl), F.kp, FunD.bindsN F fun _ _ _ _ _ _ us hl => match us, hl with | [_, _, _], _ => rfl⟩
omit B in
theorem sc_law : FnScope ["script", "numbers", "fields", "steps", "due", "rows", "step", "given", "at", "odd", "right", "told", "which", "k"] ["script"] (defScope (top 42)) := ⟨rfl, rfl, rfl, by decide +kernel, rfl, by decide +kernel, by decide +kernel⟩
theorem okF_law {fd : FuncData} (F : FunD K d31.name d31.qual d31.params d31.body d31.scope (d31.dvs K) (d31.kws K) (He.fAd K d31.at_) fd) : FnOk P w K mg base (L2.CX P w) 9 (He.fAd K d31.at_) fd ["script"] (SpF ⟨K, mg⟩ (fn1 f_law)) := by
  refine fn_ok1 (k := 8) (n := 13) (g := f_law) F sc_law rfl ?_
  intro cdv A outer s H E hr script_1
  have hu := hu65 hr
  have nd := sc_law.nd
  have hp := passes_of (X := cxOf (L2.CX P w) P w K mg base ["script", "numbers", "fields", "steps", "due", "rows", "step", "given", "at", "odd", "right", "told", "which", "k"] d31.qual d31.scope (He.fAd K d31.at_) cdv A outer s H E) rfl
  exact (b_set (i := 1) (.inl rfl) (e_fn (ok__law_numbers B) hr rfl (a_cons (e_var (i := 0) rfl (.inl rfl) rfl) (a_cons e_int (a_cons e_int a_nil)))) (fun numbers_2 => (b_set (i := 2) (.inl rfl) (e_fn (ok__law_drawn_fields B) hr rfl (a_cons (e_var (i := 0) rfl (.inl rfl) rfl) (a_cons e_int a_nil))) (fun fields_3 => (b_join (S := D) (emb := fun s_4 => [Sl.d script_1, Sl.d numbers_2, Sl.d s_4, Sl.un, Sl.un, Sl.un, Sl.un, Sl.un, Sl.un, Sl.un, Sl.un, Sl.un, Sl.un, Sl.un]) (t_cmp (o_eq hu) (e_bin o_mod (e_idx hu (e_var (i := 1) rfl (.inl rfl) rfl) e_int) e_int) e_int) (b_set (i := 2) (.inl rfl) (e_callB (c_sorted hu) rfl (m_sorted B) (by decide +kernel) (a_cons (LC.ee (lc1 13 nd (i_range1 rfl (m_range B) (e_bin o_add e_int (e_bin o_mod (e_idx hu (e_var (i := 1) rfl (.inl rfl) rfl) e_int) e_int))) (.inl rfl) (fun k_6 _ _ _ _ _ => (e_bin o_add (e_str (by decide +kernel)) (e_callT c_str rfl (m_str B) (by decide +kernel) (a_cons (e_var (i := 13) rfl (.inl rfl) rfl) a_nil))))) rfl nd (blkOk_by (by kernel_rfl))) a_nil)) (fun fields_5 => (b_nil (Wk.eq (Wk.eq (Wk.eq (Wk.un (Wk.un (Wk.un (Wk.un (Wk.un (Wk.un (Wk.un (Wk.un (Wk.un (Wk.un (Wk.un Wk.nil)))))))))))))))) (hN := nd)) (b_nil (Wk.eq (Wk.eq (Wk.eq (Wk.un (Wk.un (Wk.un (Wk.un (Wk.un (Wk.un (Wk.un (Wk.un (Wk.un (Wk.un (Wk.un Wk.nil))))))))))))))) (fun s_4 => (b_set (i := 3) (.inl rfl) (e_fn (ok__law_steps B) hr rfl (a_cons (e_var (i := 0) rfl (.inl rfl) rfl) (a_cons e_int (a_cons (e_var (i := 2) rfl (.inl rfl) rfl) (a_cons (e_bin o_mod (e_idx hu (e_var (i := 1) rfl (.inl rfl) rfl) e_int) e_int) (a_cons (e_lst (a_cons (e_str (by decide +kernel)) (a_cons (e_str (by decide +kernel)) (a_cons (e_str (by decide +kernel)) (a_cons (e_str (by decide +kernel)) a_nil))))) a_nil)))))) (fun steps_7 => (b_set (i := 4) (.inl rfl) (e_var (i := 2) rfl (.inl rfl) rfl) (fun due_8 => (b_setOw (i := 5) (.inl rfl) (f_lst (a_cons (e_var (i := 2) rfl (.inl rfl) rfl) a_nil)) (fun rows_9 => (b_for1F (S := D × D) (i := 6) (emb := fun s_10 => [Sl.un, Sl.d numbers_2, Sl.d s_4, Sl.d steps_7, Sl.d s_10.1, Sl.ow s_10.2, Sl.un, Sl.un, Sl.un, Sl.un, Sl.un, Sl.un, Sl.un, Sl.un]) (s0 := (due_8, rows_9)) hp rfl nd (.inl rfl) (i_val (e_var (i := 3) rfl (.inl rfl) rfl)) (Wk.un (Wk.eq (Wk.eq (Wk.eq (Wk.eq (Wk.eq (Wk.un (Wk.un (Wk.un (Wk.un (Wk.un (Wk.un (Wk.un (Wk.un Wk.nil)))))))))))))) (fun _ => rfl) (fun s_10 step_11 => (b_if (t_cmp o_isnt (e_fn (ok_is_step B) hr rfl (a_cons (e_callT (c_list rfl) rfl (m_list B) (by decide +kernel) (a_cons (e_var (i := 4) rfl (.inl rfl) rfl) a_nil)) (a_cons (e_var (i := 6) rfl (.inl rfl) rfl) a_nil))) e_bl) (b_ret (c := Fl.rt) e_bl (fun _ => rfl)) (b_set (i := 4) (.inl rfl) (e_fn (ok__law_fields_after B) hr rfl (a_cons (e_var (i := 4) rfl (.inl rfl) rfl) (a_cons (e_var (i := 6) rfl (.inl rfl) rfl) a_nil))) (fun due_12 => (b_app (i := 5) (.inl rfl) rfl (e_var (i := 4) rfl (.inl rfl) rfl) (fun rows_13 => (b_nil (Wk.un (Wk.eq (Wk.eq (Wk.eq (Wk.eq (Wk.eq (Wk.un (Wk.un (Wk.un (Wk.un (Wk.un (Wk.un (Wk.un (Wk.un Wk.nil)))))))))))))))))) (hN := nd)))) (fun s_10 => (b_set (i := 7) (.inl rfl) (e_lst (a_cons (e_callT (c_list rfl) rfl (m_list B) (by decide +kernel) (a_cons (e_var (i := 2) rfl (.inl rfl) rfl) a_nil)) (a_cons (e_callT (c_list rfl) rfl (m_list B) (by decide +kernel) (a_cons (e_var (i := 3) rfl (.inl rfl) rfl) a_nil)) a_nil))) (fun given_14 => (b_if (w_t (w_or (t_cmp (o_ne hu) (e_fn (ok_fields_after B) hr rfl (a_cons (e_idx hu (e_var (i := 7) rfl (.inl rfl) rfl) e_int) (a_cons (e_idx hu (e_var (i := 7) rfl (.inl rfl) rfl) e_int) a_nil))) (e_var (i := 4) rfl (.inl rfl) rfl)) (w_or1 (t_cmp (o_ne hu) (e_var (i := 7) rfl (.inl rfl) rfl) (e_lst (a_cons (e_var (i := 2) rfl (.inl rfl) rfl) (a_cons (e_var (i := 3) rfl (.inl rfl) rfl) a_nil))))))) (b_retD e_bl (fun _ => rfl)) (b_rel (i := 5) rfl (b_set (i := 8) (.inl rfl) (e_bin o_mod (e_idx hu (e_var (i := 1) rfl (.inl rfl) rfl) e_int) (e_callB c_len rfl (m_len B) (by decide +kernel) (a_cons (e_var (i := 5) rfl (.inl rfl) rfl) a_nil))) (fun at_16 => (b_for1F (S := Unit) (i := 9) (emb := fun s_17 => [Sl.un, Sl.d numbers_2, Sl.d s_4, Sl.d steps_7, Sl.un, Sl.d s_10.2, Sl.un, Sl.un, Sl.d at_16, Sl.un, Sl.un, Sl.un, Sl.un, Sl.un]) (s0 := ()) hp rfl nd (.inl rfl) (i_val (e_fn (ok__law_odd_steps B) hr rfl (a_cons (e_idx hu (e_var (i := 5) rfl (.inl rfl) rfl) (e_var (i := 8) rfl (.inl rfl) rfl)) (a_cons (e_slice (e_var (i := 1) rfl (.inl rfl) rfl) (eo_some e_int) eo_none) a_nil)))) (Wk.un (Wk.eq (Wk.eq (Wk.eq (Wk.un (Wk.eq (Wk.un (Wk.un (Wk.eq (Wk.un (Wk.un (Wk.un (Wk.un (Wk.un Wk.nil)))))))))))))) (fun _ => rfl) (fun s_17 odd_18 => (b_set (i := 10) (.inl rfl) (e_fn (ok__law_is_step B) hr rfl (a_cons (e_idx hu (e_var (i := 5) rfl (.inl rfl) rfl) (e_var (i := 8) rfl (.inl rfl) rfl)) (a_cons (e_var (i := 9) rfl (.inl rfl) rfl) a_nil))) (fun right_19 => (b_set (i := 11) (.inl rfl) (e_fn (ok_is_step B) hr rfl (a_cons (e_callT (c_list rfl) rfl (m_list B) (by decide +kernel) (a_cons (e_idx hu (e_var (i := 5) rfl (.inl rfl) rfl) (e_var (i := 8) rfl (.inl rfl) rfl)) a_nil)) (a_cons (e_var (i := 9) rfl (.inl rfl) rfl) a_nil))) (fun told_20 => (b_if (w_t (w_or (t_not (t_val (e_isi .bool rfl (m_isinstance B) (e_var (i := 11) rfl (.inl rfl) rfl) rfl (m_bool B) (by decide +kernel)))) (w_or1 (t_cmp (o_ne hu) (e_var (i := 11) rfl (.inl rfl) rfl) (e_var (i := 10) rfl (.inl rfl) rfl))))) (b_ret (c := Fl.rt) e_bl (fun _ => rfl)) (b_ifE (t_not (t_val (e_var (i := 10) rfl (.inl rfl) rfl))) (b_for1F (S := Unit) (i := 12) (emb := fun s_21 => [Sl.un, Sl.d numbers_2, Sl.d s_4, Sl.d steps_7, Sl.un, Sl.d s_10.2, Sl.un, Sl.un, Sl.d at_16, Sl.d odd_18, Sl.un, Sl.un, Sl.un, Sl.un]) (s0 := ()) hp rfl nd (.inl rfl) (i_range1 rfl (m_range B) e_int) (Wk.un (Wk.eq (Wk.eq (Wk.eq (Wk.un (Wk.eq (Wk.un (Wk.un (Wk.eq (Wk.eq (Wk.un (Wk.un (Wk.un (Wk.un Wk.nil)))))))))))))) (fun _ => rfl) (fun s_21 which_22 => (b_ifE (t_cmp (o_ne hu) (e_fn (ok__law_refused B) hr rfl (a_cons (e_var (i := 12) rfl (.inl rfl) rfl) (a_cons (e_callT (c_list rfl) rfl (m_list B) (by decide +kernel) (a_cons (e_var (i := 2) rfl (.inl rfl) rfl) a_nil)) (a_cons (e_bin o_add (e_bin o_add (e_bin o_add (e_slice (e_var (i := 3) rfl (.inl rfl) rfl) eo_none (eo_some (e_var (i := 8) rfl (.inl rfl) rfl))) (e_lst (a_cons (e_var (i := 9) rfl (.inl rfl) rfl) a_nil))) (e_slice (e_var (i := 3) rfl (.inl rfl) rfl) (eo_some (e_var (i := 8) rfl (.inl rfl) rfl)) eo_none)) (e_lst (a_cons e_non a_nil))) a_nil)))) (e_var (i := 8) rfl (.inl rfl) rfl)) (b_ret (c := Fl.rt) e_bl (fun _ => rfl)) (b_nil (Wk.un (Wk.eq (Wk.eq (Wk.eq (Wk.un (Wk.eq (Wk.un (Wk.un (Wk.eq (Wk.eq (Wk.un (Wk.un (Wk.un (Wk.un Wk.nil))))))))))))))))) (fun s_21 => (b_nil (Wk.un (Wk.eq (Wk.eq (Wk.eq (Wk.un (Wk.eq (Wk.un (Wk.un (Wk.eq (Wk.un (Wk.un (Wk.un (Wk.un (Wk.un Wk.nil)))))))))))))))) (fun _ => rfl)) (b_nil (Wk.un (Wk.eq (Wk.eq (Wk.eq (Wk.un (Wk.eq (Wk.un (Wk.un (Wk.eq (Wk.un (Wk.un (Wk.un (Wk.un (Wk.un Wk.nil)))))))))))))))))) (hN := nd))) (hN := nd))) (fun s_17 => (b_retD e_bl (fun _ => rfl))) (fun _ => rfl))) (hN := nd))))) (hN := nd))) (fun _ => rfl))) (hN := nd))) (hN := nd))) (hN := nd))))) (hN := nd))) (hN := nd))
end
abbrev Rw : PySem.W.OpenRow := PySem.W.OpenLaw.row PySem.Challenge.rw_formsforall_k51_right_steps
abbrev ex : PySem.W.Frag → Bool := exB exSub exs flds
abbrev hk : PySem.W.Hook := hookE 5 fa fn ex
def ob (s : PySem.W.SharedT) : He.AlD × Bool := obsEG 5 fa fn ex (HandSHeadRun.getT s)
theorem ob_eq (s : PySem.W.SharedT) : ob s = hk.obs s.abs := obsEG_eq (HandSHeadRun.getT_eq s)
def nm0 : List PySem.Str := [PySem.Str.ofString "LETTERS", PySem.Str.ofString "FIGURES", PySem.Str.ofString "LONGEST_NAME", PySem.Str.ofString "NO", PySem.Str.ofString "has_name_signs", PySem.Str.ofString "is_name", PySem.Str.ofString "is_yes", PySem.Str.ofString "field_of", PySem.Str.ofString "no_to", PySem.Str.ofString "opposite", PySem.Str.ofString "answer_place", PySem.Str.ofString "sorted_answers", PySem.Str.ofString "FormError", PySem.Str.ofString "BadRule", PySem.Str.ofString "BadStep", PySem.Str.ofString "MOST_FIELDS", PySem.Str.ofString "is_rename", PySem.Str.ofString "is_addition", PySem.Str.ofString "is_step", PySem.Str.ofString "fields_after_one", PySem.Str.ofString "fields_along", PySem.Str.ofString "fields_after", PySem.Str.ofString "step_back", PySem.Str.ofString "back", PySem.Str.ofString "same_to", PySem.Str.ofString "carried_answer", PySem.Str.ofString "carried_by_one", PySem.Str.ofString "carried_part", PySem.Str.ofString "_law_numbers", PySem.Str.ofString "_law_drawn_fields", PySem.Str.ofString "_law_fields_after", PySem.Str.ofString "_law_step", PySem.Str.ofString "_law_steps", PySem.Str.ofString "_law_is_name", PySem.Str.ofString "_law_is_step"]
def nm1 : List PySem.Str := [PySem.Str.ofString "_law_odd_steps", PySem.Str.ofString "_law_refused"]
def nms : List PySem.Str := nm0 ++ nm1
theorem run (w : World) : HandSHeadRun.RunEq Rw (PySem.W.view Rw.prog [42]) hk ob 2000 nms w := by
  intro os
  kernel_rfl
theorem law_fd {K : PySem.W.Frag} {mg : Str → Option Value} {P : Program} {w : World} (B : Ba K mg) {f : Addr} (hf : mg "law" = some (.ref f)) : ∃ fd, (∀ (s : Shared) (v : Value), BindsTo s fd ⟨[v], []⟩ [("script", v)]) ∧ ∀ base : Heap, FnOk P w K mg base (L2.CX P w) 9 f fd ["script"] (SpF ⟨K, mg⟩ (fn1 f_law)) := by
  obtain ⟨h, KX, G, c, cx⟩ := B.ex
  obtain ⟨fd, F⟩ := c.def_ 31 (d := d31) rfl
  have e := hf.symm.trans (He.glo_ok KX G (c.fact 29 (f := .glo "law") rfl))
  cases e
  have b := FunD.bindsA (ps := ["script"]) F fun _ _ _ _ _ _ us hl => match us, hl with | [_], _ => rfl
  exact ⟨fd, fun s v => b s [v] rfl, fun base => okF_law B F⟩
end k51
end Dl
open PySem PySem.W PySem.Calls PyProof.Rows in
theorem PySem.Challenge.cw_formsforall_k51_right_steps_holds : PySem.Challenge.rw_formsforall_k51_right_steps.Holds := by
  w_on; o_law
  refine HandSHeadRun.head_any (r := OpenLaw.row PySem.Challenge.rw_formsforall_k51_right_steps) (q := view (OpenLaw.row PySem.Challenge.rw_formsforall_k51_right_steps).prog [42]) (H := Dl.k51.hk) (ob := Dl.k51.ob) (M := 2000) (loose := Dl.k51.nms) (d := HandSHeadRun.topDef (OpenLaw.row PySem.Challenge.rw_formsforall_k51_right_steps).prog 42) (kwd := []) Dl.k51.ob_eq
    (by kernel_rfl) (fun s => by kernel_rfl) Dl.k51.run (by kernel_rfl) (by kernel_rfl) (by kernel_rfl) (by rfl) (by first | assumption | decide +kernel) (by decide +kernel) ⟨rfl, rfl, rfl, rfl, rfl, by decide +kernel⟩ ?hw ?hc
  case hw => w_witness2
  case hc =>
    refine L2.walk_ofE (l := PySem.Challenge.rw_formsforall_k51_right_steps) (n := 63) (k := 9) (x := "script") (CX := L2.CX0) rfl (by decide) (by kernel_rfl) ⟨rfl, by decide, by decide⟩ ?F (fun _ _ _ _ z => z)
    intro w mg fa h Y G hmg0
    obtain ⟨K, KX, c, cx⟩ := Y
    have hmg : mg ("law" : PySem.Str) = some (.ref fa) := by
      have e : (HandSHeadRun.topDef (OpenLaw.row PySem.Challenge.rw_formsforall_k51_right_steps).prog 42).name = ("law" : PySem.Str) := by kernel_rfl
      rw [← e]
      exact hmg0
    obtain ⟨fd, hb, hF⟩ := Dl.k51.law_fd (P := (PySem.Challenge.rw_formsforall_k51_right_steps).prog) (w := w) ⟨h, KX, G, c, cx⟩ hmg
    exact ⟨K, fd, fun vs H Q _ => Dl.SpF ⟨K, mg⟩ (Dl.fn1 Dl.k51.f_law) vs H Q L2.E0, KX, hb, fun H a ns hl _ hS => Dl.sp_top (Dl.k51.plain ns hl) hS, fun base _ _ => Dl.fn_top (hF base)⟩

