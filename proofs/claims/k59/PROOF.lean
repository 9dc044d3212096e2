import PyProof.Rows.All
import Wide.All
import OpenK.AllK
import Wide.FinOn
import HandS.ForMost
import HandS.Wide
import HandS.Gcd
import HandS.Style
import HandS.Flow
import HandS.CallSlots
import HandS.IsInst
import HandS.NoneIn
import HandS.Star
import HandS.WordsExc
import PySem.Challenge.RW_stockbench_k59_whole_k_convex_rows_added
section
set_option Elab.async false
set_option linter.all false
namespace Dy
open PySem

/-- values of the evaluator; ro: a list that is only read -/
inductive A where
  | non | bl (b : Bool) | int (i : Int) | str (x : Str)
  | tup (xs : List A) | lst (xs : List A) | ro (xs : List A) | cell (n : Nat)
deriving Inhabited

/-- what a cell holds -/
inductive C where
  | dead | lst (xs : List A)
deriving Inhabited
abbrev S := List C
abbrev Env := List (Option A)
/-- an error of the program: its class, its fields -/
structure Xn where
  c : Nat
  fs : List (Str × A)
inductive Res (α : Type) where
  | ok (a : α) (s : S) | exc (x : Xn) (s : S) | bad

def Res.bind {α β : Type} (r : Res α) (f : α → S → Res β) : Res β := match r with
  | .ok a s => f a s
  | .exc x s => .exc x s
  | .bad => .bad
/-- no error is let out -/
def Res.nox {α : Type} (r : Res α) : Res α := match r with
  | .ok a s => .ok a s
  | _ => .bad
def ofO {α : Type} (o : Option α) (s : S) : Res α := match o with
  | some a => .ok a s
  | none => .bad

mutual
def eqb : A → A → Bool
  | .non, .non => true
  | .bl a, .bl b => a == b
  | .int a, .int b => a == b
  | .str a, .str b => decide (a = b)
  | .tup a, .tup b => eqbs a b
  | .lst a, .lst b => eqbs a b
  | .ro a, .ro b => eqbs a b
  | .cell a, .cell b => a == b
  | _, _ => false
def eqbs : List A → List A → Bool
  | [], [] => true
  | x :: xs, y :: ys => eqb x y && eqbs xs ys
  | _, _ => false
end

inductive BOp | add | sub | mul | fdiv | mod | pow | shl | shr
inductive COp | eq | ne | lt | le | gt | ge | inn | nin | is | nis
inductive Bi | len | abs | max2 | min2 | max1 | min1 | sum | int | bool | gcd | all | any | tuple
inductive Ty | int | bool | str | list | tuple | dict

mutual
inductive E where
  | c (a : A) | v (i : Nat) | g (j : Nat)
  | bin (o : BOp) (a b : E) | neg (a : E) | not (a : E)
  | cmp (o : COp) (a b : E) | chain (o o' : COp) (a b c : E)
  | and2 (a b : E) | or2 (a b : E) | ite (c a b : E)
  | tup (es : Es) | lst (l : L) | mk (l : L) | frz (e : E)
  | idx (a b : E) | slice (a : E) (lo hi : Eo)
  | call (f : Nat) (es : Es) | callK (f : Nat) (es ks : Es) (pm : List Nat)
  | bi (f : Bi) (es : Es) | isi (a : E) (ts : List Ty)
  | append (o a : E) | extend (o a : E) | pop (o : E) | popAt (o a : E)
inductive Es where
  | nil | cons (e : E) (r : Es) | star (e : E) (r : Es)
inductive Eo where
  | no | yes (e : E)
/-- what gives a new list -/
inductive L where
  | disp (es : Es) | comp (own : List Nat) (t : T) (i : I) (c : Eo) (e : E)
  | ofSeq (e : E) | cut (e : E) (lo hi : Eo) | rev (e : E) | cat (a b : E) | rep (a b : E)
/-- what is walked -/
inductive I where
  | seq (e : E) | rng1 (a : E) | rng2 (a b : E) | zip2 (a b : E) | enum (a : E)
/-- targets -/
inductive T where
  | v (i : Nat) | tup (ts : Ts) | sub (o i : E)
inductive Ts where
  | nil | cons (t : T) (r : Ts)
end

mutual
inductive St where
  | asg (t : T) (e : E) | par (is : List Nat) (es : Es) | aug (i : Nat) (o : BOp) (e : E)
  | expr (e : E) | iff (c : E) (a b : B) | for_ (t : T) (i : I) (b : B) | whil (n : Nat) (c : E) (b : B)
  | ret (e : E) | retN | brk | cont | pass | never
inductive B where
  | nil | cons (s : St) (r : B)
end

structure Def where
  np : Nat
  nn : Nat
  body : B

def Es.len : Es → Nat
  | .nil => 0
  | .cons _ r => r.len + 1
  | .star _ r => r.len + 1

/-! ### values -/
def bits : Nat := 100000
def small (i : Int) : Bool := decide (i.natAbs < 2 ^ bits)
/-- what a list value holds -/
def itemsL (s : S) : A → Option (List A)
  | .lst xs => some xs
  | .ro xs => some xs
  | .cell n => match s[n]? with
    | some (.lst xs) => some xs
    | _ => none
  | _ => none
-- what a list or a tuple holds
def itemsT (s : S) : A → Option (List A)
  | .tup xs => some xs
  | a => itemsL s a
/-- lists that + and * take: not the read-only ones -/
def itemsC (s : S) : A → Option (List A)
  | .lst xs => some xs
  | .cell n => match s[n]? with
    | some (.lst xs) => some xs
    | _ => none
  | _ => none
def truth (s : S) : A → Option Bool
  | .non => some false
  | .bl b => some b
  | .int i => some (i != 0)
  | .str x => if x.length ≤ sizeLine then some (x.length != 0) else none
  | .tup xs => some (!xs.isEmpty)
  | .lst xs => some (!xs.isEmpty)
  | .ro xs => some (!xs.isEmpty)
  | .cell n => (itemsL s (.cell n)).map fun xs => !xs.isEmpty
def intsOf : List A → Option (List Int)
  | [] => some []
  | .int i :: r => (intsOf r).map (i :: ·)
  | _ :: _ => none
def blsOf : List A → Option (List Bool)
  | [] => some []
  | .bl i :: r => (blsOf r).map (i :: ·)
  | _ :: _ => none
-- plain data: what == compares
mutual
def dataOf : A → Option PyData
  | .non => some .none
  | .bl b => some (.bool b)
  | .int i => some (.int i)
  | .str x => some (.str x)
  | .tup xs => (datasOf xs).map .tuple
  | .lst xs => (datasOf xs).map .list
  | .ro xs => (datasOf xs).map .list
  | .cell _ => none
def datasOf : List A → Option (List PyData)
  | [] => some []
  | x :: xs => (dataOf x).bind fun d => (datasOf xs).map (d :: ·)
end
def resv (s : S) : A → Option A
  | .cell n => (itemsL s (.cell n)).map .lst
  | a => some a
def eqData (a b : A) : Option Bool :=
  (dataOf a).bind fun d => (dataOf b).bind fun e => if SeqAt.shaped d && SeqAt.shaped e then some (PyData.eqv d e) else none
def eqA (s : S) (a b : A) : Option Bool := (resv s a).bind fun a' => (resv s b).bind fun b' => eqData a' b'
/-- flat items -/
def flatA : A → Option L2.V
  | .non => some .non
  | .bl b => some (.bl b)
  | .int i => some (.int i)
  | .str x => some (.str x)
  | _ => none
def flatsA : List A → Option (List L2.V)
  | [] => some []
  | x :: xs => (flatA x).bind fun v => (flatsA xs).map (v :: ·)
def inA (s : S) (a b : A) : Option Bool :=
  match a, b with
  | .str x, .str y => some (!(Builtin.Str.occurrences y x 0 y.length 1).isEmpty)
  | a, b => (itemsT s b).bind fun xs => (flatA a).bind fun v => (flatsA xs).map fun vs => L2.inV v vs
def isA : A → A → Option Bool
  | .non, .non => some true
  | .bl _, .non => some false
  | .int _, .non => some false
  | .str _, .non => some false
  | .tup _, .non => some false
  | .lst _, .non => some false
  | .ro _, .non => some false
  | .cell _, .non => some false
  | .bl a, .bl b => some (decide (a = b))
  | _, _ => none
def cmpV (s : S) : COp → A → A → Option Bool
  | .eq, a, b => eqA s a b
  | .ne, a, b => (eqA s a b).map (!·)
  | .lt, .int a, .int b => some (decide (a < b))
  | .le, .int a, .int b => some (decide (a ≤ b))
  | .gt, .int a, .int b => some (decide (b < a))
  | .ge, .int a, .int b => some (decide (b ≤ a))
  | .inn, a, b => inA s a b
  | .nin, a, b => (inA s a b).map (!·)
  | .is, a, b => isA a b
  | .nis, a, b => (isA a b).map (!·)
  | _, _, _ => none
def binV (s : S) : BOp → A → A → Option A
  | .add, .int a, .int b => some (.int (a + b))
  | .add, .str a, .str b => if a.length + b.length ≤ sizeLine then some (.str (a ++ b)) else none
  | .add, .tup a, .tup b => if a.isEmpty || !decide (a.length + b.length ≤ sizeLine) then none else some (.tup (a ++ b))
  | .sub, .int a, .int b => some (.int (a - b))
  | .mul, .int a, .int b => if small a && small b then some (.int (a * b)) else none
  | .fdiv, .int a, .int b => if 0 < b && decide (b.natAbs < 2 ^ 8000) then some (.int (a / b)) else none
  | .mod, .int a, .int b => if 0 < b then some (.int (a % b)) else none
  | .pow, .int a, .int b => if 0 ≤ b && decide (b ≤ 10000) && decide (a.natAbs < 2 ^ 64) then some (.int (a ^ b.toNat)) else none
  | .shl, .int a, .int b => if 0 ≤ b && decide (b ≤ 10000) && decide (a.natAbs < 2 ^ 64) then some (.int (a * 2 ^ b.toNat)) else none
  | .shr, .int a, .int b => if 0 ≤ b then some (.int (a / 2 ^ b.toNat)) else none
  | _, _, _ => none
def catV (s : S) (a b : A) : Option (List A) := (itemsC s a).bind fun xs => (itemsC s b).bind fun ys => if xs.length + ys.length ≤ sizeLine then some (xs ++ ys) else none
def repV (s : S) (a b : A) : Option (List A) := match b with
  | .int k => (itemsC s a).bind fun xs => if decide (-(2 ^ 63) ≤ k) && decide (k < 2 ^ 63) && decide (xs.length * k.toNat ≤ sizeLine) then some (List.replicate k.toNat xs).flatten else none
  | _ => none
def idxV (s : S) (a b : A) : Option A := match b with
  | .int i => match a with
    | .str z => if z.length ≤ sizeLine then (L2.atI z.cps.toList i).map fun c => .str ⟨#[c]⟩ else none
    | a => (itemsT s a).bind fun xs => L2.atI xs i
  | _ => none
def cutA (xs : List A) (lo hi : Option Int) : List A := (xs.drop (HT.sIx xs.length 0 lo)).take (HT.sIx xs.length xs.length hi - HT.sIx xs.length 0 lo)
def sliceV (s : S) (a : A) (lo hi : Option Int) : Option A := match a with
  | .tup xs => if HT.sIx xs.length 0 lo == 0 && HT.sIx xs.length xs.length hi == xs.length then none else some (.tup (cutA xs lo hi))
  | .str _ => none
  | a => (itemsL s a).map fun xs => .lst (cutA xs lo hi)
def maxL : List Int → Option Int
  | [] => none
  | x :: r => some (r.foldl max x)
def minL : List Int → Option Int
  | [] => none
  | x :: r => some (r.foldl min x)
def biV (s : S) : Bi → List A → Option A
  | .len, [.str z] => if z.length ≤ sizeLine then some (.int z.length) else none
  | .len, [a] => (itemsT s a).map fun xs => .int xs.length
  | .abs, [.int i] => some (.int (if i < 0 then -i else i))
  | .max2, [.int i, .int j] => some (.int (if j > i then j else i))
  | .min2, [.int i, .int j] => some (.int (if j < i then j else i))
  | .max1, [a] => (itemsL s a).bind fun xs => (intsOf xs).bind fun ns => (maxL ns).map .int
  | .min1, [a] => (itemsL s a).bind fun xs => (intsOf xs).bind fun ns => (minL ns).map .int
  | .sum, [a] => (itemsL s a).bind fun xs => (intsOf xs).map fun ns => .int ns.sum
  | .all, [a] => (itemsL s a).bind fun xs => (blsOf xs).map fun ns => .bl (ns.all id)
  | .any, [a] => (itemsL s a).bind fun xs => (blsOf xs).map fun ns => .bl (ns.any id)
  | .int, [.int i] => some (.int i)
  | .int, [.bl k] => some (.int (if k then 1 else 0))
  | .bool, [.int i] => some (.bl (i != 0))
  | .bool, [.bl k] => some (.bl k)
  | .gcd, [.int a, .int b] => some (.int ((Nat.gcd a.natAbs b.natAbs : Nat) : Int))
  | .tuple, [a] => (itemsT s a).map .tup
  | _, _ => none
/-- the name of a value's type -/
def tyN (s : S) : A → Option String
  | .non => some "NoneType"
  | .bl _ => some "bool"
  | .int _ => some "int"
  | .str _ => some "str"
  | .tup _ => some "tuple"
  | .lst _ => some "list"
  | .ro _ => some "list"
  | .cell n => (itemsL s (.cell n)).map fun _ => "list"
def tyS : Ty → String
  | .int => "int" | .bool => "bool" | .str => "str" | .list => "list" | .tuple => "tuple" | .dict => "dict"
def isi1 (n : String) (t : Ty) : Bool := n == tyS t || (n == "bool" && tyS t == "int")
def isiV (s : S) (a : A) (ts : List Ty) : Option Bool := (tyN s a).map fun n => ts.any (isi1 n)

/-! ### loops -/
/-- the walked cell stands -/
def grdB (g : Option (Nat × List A)) (s : S) : Bool := match g with
  | none => true
  | some (n, xs) => match s[n]? with
    | some (.lst ys) => eqbs xs ys
    | _ => false
def mapR (g : Option (Nat × List A)) (f : A → S → Res (Option A)) : List A → S → Res (List A)
  | [], s => .ok [] s
  | x :: xs, s => (f x s).bind fun o s1 => if grdB g s1 then (mapR g f xs s1).bind fun r s2 => .ok (o.toList ++ r) s2 else .bad
/-- how a block ends -/
inductive Fl where
  | nx (σ : Env) | bk (σ : Env) | ct (σ : Env) | rt (a : A) | ex (x : Xn) (σ : Env)
/-- an error of an expression in a statement -/
def Res.bindX {α : Type} (r : Res α) (σ : Env) (f : α → S → Res Fl) : Res Fl := match r with
  | .ok a s => f a s
  | .exc x s => .ok (.ex x σ) s
  | .bad => .bad
def forR (g : Option (Nat × List A)) (f : A → Env → S → Res Fl) : List A → Env → S → Res Fl
  | [], σ, s => .ok (.nx σ) s
  | x :: xs, σ, s => (f x σ s).bind fun fl s1 => match fl with
    | .nx σ' => if grdB g s1 then forR g f xs σ' s1 else .bad
    | .ct σ' => if grdB g s1 then forR g f xs σ' s1 else .bad
    | .bk σ' => .ok (.nx σ') s1
    | .rt a => .ok (.rt a) s1
    | .ex x σ' => .ok (.ex x σ') s1
def whR (c : Env → S → Res Bool) (f : Env → S → Res Fl) : Nat → Env → S → Res Fl
  | 0, _, _ => .bad
  | n + 1, σ, s => (c σ s).bindX σ fun b s0 => if b then (f σ s0).bind fun fl s1 => match fl with
      | .nx σ' => whR c f n σ' s1
      | .ct σ' => whR c f n σ' s1
      | .bk σ' => .ok (.nx σ') s1
      | .rt a => .ok (.rt a) s1
      | .ex x σ' => .ok (.ex x σ') s1
    else .ok (.nx σ) s0
def wipeA (σ : Env) : List Nat → Env
  | [] => σ
  | v :: vs => (wipeA σ vs).set v none
def setsA : Env → List Nat → List A → Option Env
  | σ, [], [] => some σ
  | σ, i :: is, a :: as => if i < σ.length then setsA (σ.set i (some a)) is as else none
  | _, _, _ => none
def rngL (lo : Int) (n : Nat) : List A := (List.range n).map fun i => .int (lo + (i : Nat))
def ok62 (i : Int) : Bool := decide (-(2 ^ 62) ≤ i) && decide (i < 2 ^ 62)
abbrev Walk := List A × Option (Nat × List A)
def walkV (s : S) (a : A) : Option Walk := match a with
  | .cell n => (itemsL s (.cell n)).map fun xs => (xs, some (n, xs))
  | a => (itemsT s a).map fun xs => (xs, none)
def isCell : A → Bool
  | .cell _ => true
  | _ => false
def zipA : List A → List A → List A
  | x :: xs, y :: ys => .tup [x, y] :: zipA xs ys
  | _, _ => []
def enumA : Nat → List A → List A
  | _, [] => []
  | n, x :: xs => .tup [.int n, x] :: enumA (n + 1) xs

/-! ### the evaluator; cf: the defs, cs: the module's constants -/
section
variable (cf : Nat → List A → S → Res A) (cs : List A)
mutual
def evE : E → Env → S → Res A
  | .c a, _, s => .ok a s
  | .v i, σ, s => match σ[i]? with
    | some (some a) => .ok a s
    | _ => .bad
  | .g j, _, s => ofO cs[j]? s
  | .bin o a b, σ, s => (evE a σ s).bind fun x s1 => (evE b σ s1).bind fun y s2 => ofO (binV s2 o x y) s2
  | .neg a, σ, s => (evE a σ s).bind fun x s1 => match x with
    | .int i => .ok (.int (-i)) s1
    | _ => .bad
  | .not a, σ, s => (evE a σ s).bind fun x s1 => (ofO (truth s1 x) s1).bind fun b s2 => .ok (.bl (!b)) s2
  | .cmp o a b, σ, s => (evE a σ s).bind fun x s1 => (evE b σ s1).bind fun y s2 => (ofO (cmpV s2 o x y) s2).bind fun k s3 => .ok (.bl k) s3
  | .chain o o' a b c, σ, s => (evE a σ s).bind fun x s1 => (evE b σ s1).bind fun y s2 => (ofO (cmpV s2 o x y) s2).bind fun k s3 =>
      if k then (evE c σ s3).bind fun z s4 => (ofO (cmpV s4 o' y z) s4).bind fun k' s5 => .ok (.bl k') s5 else .ok (.bl false) s3
  | .and2 a b, σ, s => (evE a σ s).bind fun x s1 => (ofO (truth s1 x) s1).bind fun k s2 => if k then evE b σ s2 else .ok x s2
  | .or2 a b, σ, s => (evE a σ s).bind fun x s1 => (ofO (truth s1 x) s1).bind fun k s2 => if k then .ok x s2 else evE b σ s2
  | .ite c a b, σ, s => (evE c σ s).bind fun x s1 => (ofO (truth s1 x) s1).bind fun k s2 => if k then evE a σ s2 else evE b σ s2
  | .tup es, σ, s => (evEs es σ s).bind fun xs s1 => if xs.length ≤ sizeLine then .ok (.tup xs) s1 else .bad
  | .lst l, σ, s => (evL l σ s).bind fun xs s1 => .ok (.lst xs) s1
  | .mk l, σ, s => (evL l σ s).bind fun xs s1 => .ok (.cell s1.length) (s1 ++ [.lst xs])
  | .frz e, σ, s => (evE e σ s).bind fun x s1 => match x with
    | .cell n => (ofO (itemsL s1 (.cell n)) s1).bind fun xs s2 => .ok (.lst xs) (s2.set n .dead)
    | _ => .bad
  | .idx a b, σ, s => (evE a σ s).bind fun x s1 => (evE b σ s1).bind fun y s2 => ofO (idxV s2 x y) s2
  | .slice a lo hi, σ, s => (evE a σ s).bind fun x s1 => (evEo lo σ s1).bind fun l s2 => (evEo hi σ s2).bind fun h s3 => ofO (sliceV s3 x l h) s3
  | .call f es, σ, s => (evEs es σ s).bind fun xs s1 => cf f xs s1
  | .callK f es ks pm, σ, s => (evEs es σ s).bind fun xs s1 => (evEs ks σ s1).bind fun ys s2 => if xs.length = es.len ∧ ys.length = ks.len then cf f (pm.map fun i => (xs ++ ys).getD i .non) s2 else .bad
  | .bi f es, σ, s => (evEs es σ s).bind fun xs s1 => ofO (biV s1 f xs) s1
  | .isi a ts, σ, s => (evE a σ s).bind fun x s1 => (ofO (isiV s1 x ts) s1).bind fun k s2 => .ok (.bl k) s2
  | .append o a, σ, s => (evE o σ s).bind fun x s0 => (ofO (itemsL s0 x) s0).bind fun _ s1 => (evE a σ s1).bind fun y s2 => match x with
    | .cell n => (ofO (itemsL s2 (.cell n)) s2).bind fun xs s3 => if xs.length < sizeLine then .ok .non (s3.set n (.lst (xs ++ [y]))) else .bad
    | _ => .bad
  | .extend o a, σ, s => (evE o σ s).bind fun x s0 => (ofO (itemsL s0 x) s0).bind fun _ s1 => (evE a σ s1).bind fun y s2 => match x with
    | .cell n => (ofO (itemsL s2 (.cell n)) s2).bind fun xs s3 => (ofO (itemsC s3 y) s3).bind fun ys s4 => if xs.length + ys.length ≤ sizeLine then .ok .non (s4.set n (.lst (xs ++ ys))) else .bad
    | _ => .bad
  | .pop o, σ, s => (evE o σ s).bind fun x s1 => match x with
    | .cell n => (ofO (itemsL s1 (.cell n)) s1).bind fun xs s2 => (ofO xs[xs.length - 1]? s2).bind fun y s3 => .ok y (s3.set n (.lst xs.dropLast))
    | _ => .bad
  | .popAt o a, σ, s => (evE o σ s).bind fun x s0 => (ofO (itemsL s0 x) s0).bind fun _ s1 => (evE a σ s1).bind fun y s2 => match x, y with
    | .cell n, .int i => (ofO (itemsL s2 (.cell n)) s2).bind fun xs s3 => if decide (-(2 ^ 63) ≤ i) && decide (i < 2 ^ 63) then
        (ofO (seqIndex? i xs.length) s3).bind fun k s4 => (ofO xs[k]? s4).bind fun z s5 => .ok z (s5.set n (.lst (xs.eraseIdx k))) else .bad
    | _, _ => .bad
def evEs : Es → Env → S → Res (List A)
  | .nil, _, s => .ok [] s
  | .cons e r, σ, s => (evE e σ s).bind fun x s1 => (evEs r σ s1).bind fun xs s2 => .ok (x :: xs) s2
  | .star e r, σ, s => (evE e σ s).bind fun x s1 => (ofO (itemsT s1 x) s1).bind fun ys s2 => (evEs r σ s2).bind fun xs s3 => .ok (ys ++ xs) s3
def evEo : Eo → Env → S → Res (Option Int)
  | .no, _, s => .ok none s
  | .yes e, σ, s => (evE e σ s).bind fun x s1 => match x with
    | .int i => .ok (some i) s1
    | _ => .bad
def evC : Eo → Env → S → Res Bool
  | .no, _, s => .ok true s
  | .yes e, σ, s => (evE e σ s).bind fun x s1 => ofO (truth s1 x) s1
def evL : L → Env → S → Res (List A)
  | .disp es, σ, s => (evEs es σ s).bind fun xs s1 => if xs.length ≤ sizeLine then .ok xs s1 else .bad
  | .comp own t i c e, σ, s => (evI i σ s).bind fun w s1 => if w.1.length ≤ sizeLine then
      mapR w.2 (fun x s2 => ((asgT t x (wipeA σ own) s2).bind fun σ' s3 => (evC c σ' s3).bind fun b s4 => if b then (evE e σ' s4).bind fun y s5 => .ok (some y) s5 else .ok none s4).nox) w.1 s1 else .bad
  | .ofSeq e, σ, s => (evE e σ s).bind fun x s1 => ofO (itemsT s1 x) s1
  | .cut e lo hi, σ, s => (evE e σ s).bind fun x s1 => (evEo lo σ s1).bind fun l s2 => (evEo hi σ s2).bind fun h s3 => (ofO (itemsL s3 x) s3).bind fun xs s4 => .ok (cutA xs l h) s4
  | .rev e, σ, s => (evE e σ s).bind fun x s1 => (ofO (itemsL s1 x) s1).bind fun xs s2 => .ok xs.reverse s2
  | .cat a b, σ, s => (evE a σ s).bind fun x s1 => (evE b σ s1).bind fun y s2 => ofO (catV s2 x y) s2
  | .rep a b, σ, s => (evE a σ s).bind fun x s1 => (evE b σ s1).bind fun y s2 => ofO (repV s2 x y) s2
def evI : I → Env → S → Res Walk
  | .seq e, σ, s => (evE e σ s).bind fun x s1 => ofO (walkV s1 x) s1
  | .rng1 a, σ, s => (evE a σ s).bind fun x s1 => match x with
    | .int j => if ok62 j then .ok (rngL 0 j.toNat, none) s1 else .bad
    | _ => .bad
  | .rng2 a b, σ, s => (evE a σ s).bind fun x s1 => (evE b σ s1).bind fun y s2 => match x, y with
    | .int i, .int j => if ok62 i && ok62 j then .ok (rngL i (j - i).toNat, none) s2 else .bad
    | _, _ => .bad
  | .zip2 a b, σ, s => (evE a σ s).bind fun x s1 => (evE b σ s1).bind fun y s2 => (ofO (itemsL s2 x) s2).bind fun xs s3 => (ofO (itemsL s3 y) s3).bind fun ys s4 =>
      if isCell x || isCell y then .bad else .ok (zipA xs ys, none) s4
  | .enum a, σ, s => (evE a σ s).bind fun x s1 => (ofO (itemsL s1 x) s1).bind fun xs s2 => if isCell x then .bad else .ok (enumA 0 xs, none) s2
def asgT : T → A → Env → S → Res Env
  | .v i, a, σ, s => if i < σ.length then .ok (σ.set i (some a)) s else .bad
  | .tup ts, a, σ, s => match itemsT s a with
    | some xs => asgTs ts xs σ s
    | none => .bad
  | .sub o i, a, σ, s => ((evE o σ s).bind fun x s1 => (evE i σ s1).bind fun y s2 => Res.ok (x, y) s2).nox.bind fun p s2 => match p.1, p.2 with
    | .cell n, .int k => (ofO (itemsL s2 (.cell n)) s2).bind fun xs s3 => (ofO (L2.ixN xs.length k) s3).bind fun j s4 => .ok σ (s4.set n (.lst (xs.set j a)))
    | _, _ => .bad
def asgTs : Ts → List A → Env → S → Res Env
  | .nil, [], σ, s => .ok σ s
  | .cons t r, x :: xs, σ, s => (asgT t x σ s).bind fun σ1 s1 => asgTs r xs σ1 s1
  | _, _, _, _ => .bad
end
mutual
def evS : St → Env → S → Res Fl
  | .asg t e, σ, s => (evE cf cs e σ s).bindX σ fun x s1 => (asgT cf cs t x σ s1).bindX σ fun σ' s2 => .ok (.nx σ') s2
  | .par is es, σ, s => (evEs cf cs es σ s).bindX σ fun xs s1 => (ofO (setsA σ is xs) s1).bindX σ fun σ' s2 => .ok (.nx σ') s2
  | .aug i o e, σ, s => match σ[i]? with
    | some (some (.int x)) => (evE cf cs e σ s).bindX σ fun y s1 => match y with
      | .int j => match o with
        | .add => .ok (.nx (σ.set i (some (.int (x + j))))) s1
        | .sub => .ok (.nx (σ.set i (some (.int (x - j))))) s1
        | _ => .bad
      | _ => .bad
    | _ => .bad
  | .expr e, σ, s => (evE cf cs e σ s).bindX σ fun _ s1 => .ok (.nx σ) s1
  | .iff c a b, σ, s => (evE cf cs c σ s).bindX σ fun x s1 => (ofO (truth s1 x) s1).bindX σ fun k s2 => if k then evB a σ s2 else evB b σ s2
  | .for_ t i b, σ, s => (evI cf cs i σ s).bindX σ fun w s1 => forR w.2 (fun x σ' s2 => (asgT cf cs t x σ' s2).bindX σ' fun σ2 s3 => evB b σ2 s3) w.1 σ s1
  | .whil n c b, σ, s => whR (fun σ' s' => (evE cf cs c σ' s').bind fun x s1 => ofO (truth s1 x) s1) (fun σ' s' => evB b σ' s') n σ s
  | .ret e, σ, s => (evE cf cs e σ s).bindX σ fun x s1 => .ok (.rt x) s1
  | .retN, _, s => .ok (.rt .non) s
  | .brk, σ, s => .ok (.bk σ) s
  | .cont, σ, s => .ok (.ct σ) s
  | .pass, σ, s => .ok (.nx σ) s
  | .never, _, _ => .bad
def evB : B → Env → S → Res Fl
  | .nil, σ, s => .ok (.nx σ) s
  | .cons st r, σ, s => (evS st σ s).bind fun fl s1 => match fl with
    | .nx σ' => evB r σ' s1
    | .bk σ' => .ok (.bk σ') s1
    | .ct σ' => .ok (.ct σ') s1
    | .rt a => .ok (.rt a) s1
    | .ex x σ' => .ok (.ex x σ') s1
end
end
/-- a def called: n bounds the depth -/
def callF (G : List Def) (cs : List A) : Nat → Nat → List A → S → Res A
  | 0, _, _, _ => .bad
  | n + 1, f, as, s => match G[f]? with
    | some d => if as.length = d.np then (evB (callF G cs n) cs d.body (as.map some ++ List.replicate (d.nn - d.np) none) s).nox.bind fun fl s1 => match fl with
        | .nx _ => .ok .non s1
        | .rt a => .ok a s1
        | .ex x _ => .exc x s1
        | _ => .bad
      else .bad
    | none => .bad
end Dy
end

section
set_option Elab.async false
set_option linter.all false
set_option maxRecDepth 100000
namespace Dy
open PySem PySem.Spec PyProof.Rows L2

section
variable (K : PySem.W.Frag)
mutual
/-- the value v stands for a; R: the frozen heap, m: where the cells lie -/
inductive Rep (R : Hp) (m : List Addr) : A → V → Prop
  | non : Rep R m .non .non
  | bl (b : Bool) : Rep R m (.bl b) (.bl b)
  | int (i : Int) : Rep R m (.int i) (.int i)
  | str (x : Str) : Rep R m (.str x) (.str x)
  | tup {p : Addr} {xs : List A} {vs : List V} : SqT K R p vs → Reps R m xs vs → Rep R m (.tup xs) (.ref p)
  | lst {p : Addr} {xs : List A} {vs : List V} : R p = some (.lst vs) → Reps R m xs vs → Rep R m (.lst xs) (.ref p)
  | ro {p : Addr} {xs : List A} {vs : List V} : SqL K R p vs → (∃ t, L2.TyX K R (.ref p) t ∧ t = .type "list") → Reps R m xs vs → Rep R m (.ro xs) (.ref p)
  | cell {p : Addr} {n : Nat} : m[n]? = some p → Rep R m (.cell n) (.ref p)
inductive Reps (R : Hp) (m : List Addr) : List A → List V → Prop
  | nil : Reps R m [] []
  | cons {x : A} {xs : List A} {v : V} {vs : List V} : Rep R m x v → Reps R m xs vs → Reps R m (x :: xs) (v :: vs)
end
/-- nobody names p -/
def Lone (R : Hp) (m : List Addr) (S : Dy.S) (p : Addr) : Prop := R p = none ∧ ∀ (n : Nat) (xs : List A), S[n]? = some (.lst xs) → m[n]? ≠ some p
/-- Z: what is held by those around -/
structure Sim (Z : Hp) (R : Hp) (m : List Addr) (S : Dy.S) (H : Hp) : Prop where
  sub : ∀ a o, R a = some o → H a = some o
  len : m.length = S.length
  cell : ∀ (n : Nat) (xs : List A) (a : Addr), S[n]? = some (.lst xs) → m[n]? = some a → ∃ vs, H a = some (.lst vs) ∧ Reps K R m xs vs ∧ R a = none
  inj : ∀ (n n' : Nat) (a : Addr) (xs xs' : List A), m[n]? = some a → m[n']? = some a → S[n]? = some (.lst xs) → S[n']? = some (.lst xs') → n = n'
  prot : ∀ a o, Z a = some o → H a = some o ∧ Lone R m S a
structure Ext (R : Hp) (m : List Addr) (R' : Hp) (m' : List Addr) : Prop where
  sub : ∀ a o, R a = some o → R' a = some o
  app : ∃ l, m' = m ++ l
end
theorem Ext.refl (R : Hp) (m : List Addr) : Ext R m R m := ⟨fun _ _ h => h, [], (List.append_nil m).symm⟩
theorem Ext.trans {R m R1 m1 R2 m2} (a : Ext R m R1 m1) (b : Ext R1 m1 R2 m2) : Ext R m R2 m2 := by
  obtain ⟨l1, e1⟩ := a.app
  obtain ⟨l2, e2⟩ := b.app
  exact ⟨fun x o h => b.sub x o (a.sub x o h), l1 ++ l2, by rw [e2, e1, List.append_assoc]⟩
theorem Ext.get {R m R1 m1} (a : Ext R m R1 m1) {n : Nat} {p : Addr} (h : m[n]? = some p) : m1[n]? = some p := by
  obtain ⟨l1, e1⟩ := a.app
  rw [e1, List.getElem?_append_left (List.getElem?_eq_some_iff.mp h).1]
  exact h
variable {K : PySem.W.Frag}
theorem rd_sub {R R' : Hp} {p : Addr} {u : HO} (e : ∀ a o, R a = some o → R' a = some o) (h : Rd R p u) : Rd R' p u := by
  rcases h with h | ⟨o, h⟩
  · exact .inl (e _ _ h)
  · exact .inr ⟨o, e _ _ h⟩
theorem sqT_sub {R R' : Hp} {p : Addr} {vs : List V} (e : ∀ a o, R a = some o → R' a = some o) (h : SqT K R p vs) : SqT K R' p vs := by
  rcases h with h | h
  · exact .inl (rd_sub e h)
  · exact .inr h
theorem sqL_sub {R R' : Hp} {p : Addr} {vs : List V} (e : ∀ a o, R a = some o → R' a = some o) (h : SqL K R p vs) : SqL K R' p vs := by
  rcases h with h | h
  · exact .inl (rd_sub e h)
  · exact .inr h
theorem tyOf_sub {R R' : Hp} {x : V} {t : Value} (e : ∀ a o, R a = some o → R' a = some o) (h : TyOf K R x t) : TyOf K R' x t := by
  cases h with
  | non => exact .non
  | bl b => exact .bl b
  | int i => exact .int i
  | str b => exact .str b
  | flt b => exact .flt b
  | lst h => exact .lst (e _ _ h)
  | frz h => exact .frz (e _ _ h)
  | tup h => exact .tup (e _ _ h)
  | dK h => exact .dK (e _ _ h)
  | dT h => exact .dT (e _ _ h)
  | ins h a b c d f => exact .ins (e _ _ h) a b c d f
theorem tyX_sub {R R' : Hp} {x : V} {t : Value} (e : ∀ a o, R a = some o → R' a = some o) (h : TyX K R x t) : TyX K R' x t := by
  cases h with
  | base h => exact .base (tyOf_sub e h)
  | byt b => exact .byt b
  | set h => exact .set (e _ _ h)
  | kList h c => exact .kList h c
  | kTuple h c => exact .kTuple h c
  | kDict h c => exact .kDict h c
  | fTuple h => exact .fTuple (e _ _ h)
  | fDict h => exact .fDict (e _ _ h)
mutual
theorem Rep.mono {R m R' m'} (e : Ext R m R' m') : ∀ {a : A} {v : V}, Rep K R m a v → Rep K R' m' a v
  | _, _, .non => .non
  | _, _, .bl b => .bl b
  | _, _, .int b => .int b
  | _, _, .str b => .str b
  | _, _, .tup h r => .tup (sqT_sub e.sub h) (Reps.mono e r)
  | _, _, .lst h r => .lst (e.sub _ _ h) (Reps.mono e r)
  | _, _, .ro h ⟨t, ht, et⟩ r => .ro (sqL_sub e.sub h) ⟨t, tyX_sub e.sub ht, et⟩ (Reps.mono e r)
  | _, _, .cell h => .cell (e.get h)
theorem Reps.mono {R m R' m'} (e : Ext R m R' m') : ∀ {a : List A} {v : List V}, Reps K R m a v → Reps K R' m' a v
  | _, _, .nil => .nil
  | _, _, .cons h r => .cons (Rep.mono e h) (Reps.mono e r)
end
theorem Reps.length {R m} : ∀ {a : List A} {v : List V}, Reps K R m a v → v.length = a.length
  | _, _, .nil => rfl
  | _, _, .cons _ r => congrArg (· + 1) r.length
theorem Reps.get {R m} : ∀ {a : List A} {v : List V} {i : Nat} {x : A}, Reps K R m a v → a[i]? = some x → ∃ y, v[i]? = some y ∧ Rep K R m x y
  | _, _, _, _, .nil, e => by simp at e
  | _, _, 0, _, .cons h _, e => by
    simp at e
    subst e
    exact ⟨_, rfl, h⟩
  | _, _, i + 1, x, .cons _ r, e => by
    obtain ⟨y, h1, h2⟩ := Reps.get (i := i) (x := x) r (by simpa using e)
    exact ⟨y, by simpa using h1, h2⟩
theorem Reps.append {R m} : ∀ {a b : List A} {v w : List V}, Reps K R m a v → Reps K R m b w → Reps K R m (a ++ b) (v ++ w)
  | _, _, _, _, .nil, s => s
  | _, _, _, _, .cons r t, s => .cons r (t.append s)
theorem Reps.take {R m} : ∀ {a : List A} {v : List V} (n : Nat), Reps K R m a v → Reps K R m (a.take n) (v.take n)
  | _, _, 0, _ => .nil
  | _, _, _ + 1, .nil => .nil
  | _, _, n + 1, .cons r t => .cons r (t.take n)
theorem Reps.drop {R m} : ∀ {a : List A} {v : List V} (n : Nat), Reps K R m a v → Reps K R m (a.drop n) (v.drop n)
  | _, _, 0, r => r
  | _, _, _ + 1, .nil => .nil
  | _, _, n + 1, .cons _ t => t.drop n
theorem Reps.set {R m} {x : A} {y : V} (h : Rep K R m x y) : ∀ {a : List A} {v : List V} (n : Nat), Reps K R m a v → Reps K R m (a.set n x) (v.set n y)
  | _, _, _, .nil => .nil
  | _, _, 0, .cons _ t => .cons h t
  | _, _, n + 1, .cons r t => .cons r (t.set h n)
theorem Reps.eraseIdx {R m} : ∀ {a : List A} {v : List V} (n : Nat), Reps K R m a v → Reps K R m (a.eraseIdx n) (v.eraseIdx n)
  | _, _, _, .nil => .nil
  | _, _, 0, .cons _ t => t
  | _, _, n + 1, .cons r t => .cons r (t.eraseIdx n)
theorem Reps.dropLast {R m} {a : List A} {v : List V} (h : Reps K R m a v) : Reps K R m a.dropLast v.dropLast := by
  rw [List.dropLast_eq_take, List.dropLast_eq_take, h.length]
  exact h.take _
theorem Reps.reverse {R m} : ∀ {a : List A} {v : List V}, Reps K R m a v → Reps K R m a.reverse v.reverse
  | _, _, .nil => .nil
  | x :: xs, y :: ys, .cons r t => by
    rw [List.reverse_cons, List.reverse_cons]
    exact t.reverse.append (.cons r .nil)
theorem Reps.rep {R m} {a : List A} {v : List V} (h : Reps K R m a v) : ∀ k : Nat, Reps K R m (List.replicate k a).flatten (List.replicate k v).flatten
  | 0 => .nil
  | k + 1 => by
    rw [List.replicate_succ, List.replicate_succ, List.flatten_cons, List.flatten_cons]
    exact h.append (h.rep k)
theorem Reps.ints {R m} : ∀ {a : List A} {v : List V} {ns : List Int}, Reps K R m a v → intsOf a = some ns → v = ns.map V.int
  | _, _, _, .nil, e => by
    cases e
    rfl
  | .int i :: xs, _, ns, .cons (.int _) t, e => by
    have e' : (intsOf xs).map (i :: ·) = some ns := e
    cases q : intsOf xs with
    | none =>
      rw [q] at e'
      cases e'
    | some ms =>
      rw [q] at e'
      cases e'
      rw [t.ints q]
      rfl
theorem Reps.bls {R m} : ∀ {a : List A} {v : List V} {ns : List Bool}, Reps K R m a v → blsOf a = some ns → v = ns.map V.bl
  | _, _, _, .nil, e => by
    cases e
    rfl
  | .bl i :: xs, _, ns, .cons (.bl _) t, e => by
    have e' : (blsOf xs).map (i :: ·) = some ns := e
    cases q : blsOf xs with
    | none =>
      rw [q] at e'
      cases e'
    | some ms =>
      rw [q] at e'
      cases e'
      rw [t.bls q]
      rfl

/-! ### the state under changes of the heap -/
variable {Z R R' : Hp} {m m' : List Addr} {S : Dy.S} {H : Hp} {p : Addr}
theorem Ext.upd {o : HO} (h : R p = none) : Ext R m (upd R p o) m :=
  ⟨fun a u e => by rw [upd_ne (ne_of_none e h)]; exact e, [], (List.append_nil m).symm⟩
theorem Sim.free (s : Sim K Z R m S H) (h : H p = none) : R p = none := by
  cases e : R p with
  | none => rfl
  | some o =>
    rw [s.sub _ _ e] at h
    cases h
/-- a new frozen object -/
theorem Sim.new {o : HO} (s : Sim K Z R m S H) (h : H p = none) : Sim K Z (upd R p o) m S (upd H p o) := by
  refine ⟨fun a u e => ?_, s.len, fun n xs a e1 e2 => ?_, s.inj, fun a u e => ?_⟩
  rotate_left 2
  · obtain ⟨h1, h2, h3⟩ := s.prot a u e
    have q : a ≠ p := ne_of_none h1 h
    exact ⟨by rw [upd_ne q]; exact h1, by rw [upd_ne q]; exact h2, h3⟩
  · by_cases q : a = p
    · subst q
      rw [upd_same] at e ⊢
      exact e
    · rw [upd_ne q] at e ⊢
      exact s.sub a u e
  · obtain ⟨vs, h1, h2, h3⟩ := s.cell n xs a e1 e2
    have q : a ≠ p := ne_of_none h1 h
    exact ⟨vs, by rw [upd_ne q]; exact h1, h2.mono (Ext.upd (s.free h)), by rw [upd_ne q]; exact h3⟩
/-- a new object that nobody names -/
theorem Sim.junk {o : HO} (s : Sim K Z R m S H) (h : H p = none) : Sim K Z R m S (upd H p o) := by
  refine ⟨fun a u e => ?_, s.len, fun n xs a e1 e2 => ?_, s.inj, fun a u e => ?_⟩
  · rw [upd_ne (ne_of_none (s.sub a u e) h)]
    exact s.sub a u e
  · obtain ⟨vs, h1, h2, h3⟩ := s.cell n xs a e1 e2
    exact ⟨vs, by rw [upd_ne (ne_of_none h1 h)]; exact h1, h2, h3⟩
  · obtain ⟨h1, h2⟩ := s.prot a u e
    exact ⟨by rw [upd_ne (ne_of_none h1 h)]; exact h1, h2⟩
theorem Sim.lone (s : Sim K Z R m S H) (h : H p = none) : Lone R m S p := ⟨s.free h, fun n xs e1 e2 => by
  obtain ⟨vs, h1, _⟩ := s.cell n xs p e1 e2
  rw [h1] at h
  cases h⟩
/-- such an object is written -/
theorem Sim.jot {o : HO} (s : Sim K Z R m S H) (h : Lone R m S p) (hz : Z p = none) : Sim K Z R m S (upd H p o) := by
  refine ⟨fun a u e => ?_, s.len, fun n xs a e1 e2 => ?_, s.inj, fun a u e => ?_⟩
  rotate_left 2
  · obtain ⟨h1, h2⟩ := s.prot a u e
    exact ⟨by rw [upd_ne (ne_of_none e hz)]; exact h1, h2⟩
  · have q : a ≠ p := fun z => by
      rw [z, h.1] at e
      cases e
    rw [upd_ne q]
    exact s.sub a u e
  · obtain ⟨vs, h1, h2, h3⟩ := s.cell n xs a e1 e2
    have q : a ≠ p := fun z => h.2 n xs e1 (by rw [← z]; exact e2)
    exact ⟨vs, by rw [upd_ne q]; exact h1, h2, h3⟩
/-- .. is frozen -/
theorem Sim.ice {o : HO} (s : Sim K Z R m S H) (h : Lone R m S p) (hz : Z p = none) (e : H p = some o) : Sim K Z (upd R p o) m S H := by
  refine ⟨fun a u e2 => ?_, s.len, fun n xs a e1 e2 => ?_, s.inj, fun a u e2 => ?_⟩
  rotate_left 2
  · obtain ⟨h1, h2, h3⟩ := s.prot a u e2
    exact ⟨h1, by rw [upd_ne (ne_of_none e2 hz)]; exact h2, h3⟩
  · by_cases q : a = p
    · subst q
      rw [upd_same] at e2
      cases e2
      exact e
    · rw [upd_ne q] at e2
      exact s.sub a u e2
  · obtain ⟨vs, h1, h2, h3⟩ := s.cell n xs a e1 e2
    have q : a ≠ p := fun z => h.2 n xs e1 (by rw [← z]; exact e2)
    exact ⟨vs, h1, h2.mono (Ext.upd h.1), by rw [upd_ne q]; exact h3⟩
theorem Ext.app1 : Ext R m R (m ++ [p]) := ⟨fun _ _ h => h, [p], rfl⟩
/-- .. becomes a cell -/
theorem Sim.cellOf {xs : List A} {vs : List V} (s : Sim K Z R m S H) (h : Lone R m S p) (hz : Z p = none) (e : H p = some (.lst vs)) (r : Reps K R m xs vs) : Sim K Z R (m ++ [p]) (S ++ [.lst xs]) H := by
  have old : ∀ {n : Nat} {c : C}, n < S.length → (S ++ [C.lst xs])[n]? = some c → S[n]? = some c := fun hn e => by
    rw [List.getElem?_append_left hn] at e
    exact e
  have oldm : ∀ {n : Nat} {a : Addr}, n < S.length → (m ++ [p])[n]? = some a → m[n]? = some a := fun hn e => by
    rw [List.getElem?_append_left (by rw [s.len]; exact hn)] at e
    exact e
  have bd : ∀ {n : Nat} {c : C}, (S ++ [C.lst xs])[n]? = some c → n < S.length + 1 := fun e => by
    have := (List.getElem?_eq_some_iff.mp e).1
    simpa using this
  have newm : (m ++ [p])[S.length]? = some p := by
    rw [← s.len]
    simp
  refine ⟨s.sub, by simp [s.len], fun n ys a e1 e2 => ?_, fun n n' a ys ys' e1 e2 e3 e4 => ?_, fun a u e2 => ?_⟩
  rotate_left 2
  · obtain ⟨h1, h2, h3⟩ := s.prot a u e2
    refine ⟨h1, h2, fun n ys e3 e4 => ?_⟩
    by_cases hn : n < S.length
    · exact h3 n ys (old hn e3) (oldm hn e4)
    · have en : n = S.length := by have := bd e3; omega
      subst en
      rw [newm] at e4
      cases e4
      rw [hz] at e2
      cases e2
  · by_cases hn : n < S.length
    · obtain ⟨ws, h1, h2, h3⟩ := s.cell n ys a (old hn e1) (oldm hn e2)
      exact ⟨ws, h1, h2.mono Ext.app1, h3⟩
    · have en : n = S.length := by have := bd e1; omega
      subst en
      rw [newm] at e2
      cases e2
      have e1' : (S ++ [C.lst xs])[S.length]? = some (.lst xs) := by simp
      rw [e1'] at e1
      cases e1
      exact ⟨vs, e, r.mono Ext.app1, h.1⟩
  · by_cases hn : n < S.length
    · by_cases hn' : n' < S.length
      · exact s.inj n n' a ys ys' (oldm hn e1) (oldm hn' e2) (old hn e3) (old hn' e4)
      · have en : n' = S.length := by have := bd e4; omega
        subst en
        rw [newm] at e2
        cases e2
        exact absurd (oldm hn e1) (h.2 n ys (old hn e3))
    · have en : n = S.length := by have := bd e3; omega
      subst en
      rw [newm] at e1
      cases e1
      by_cases hn' : n' < S.length
      · exact absurd (oldm hn' e2) (h.2 n' ys' (old hn' e4))
      · have := bd e4
        omega
/-- a cell is written -/
theorem Sim.write {n : Nat} {xs ys : List A} {vs : List V} (s : Sim K Z R m S H) (e1 : S[n]? = some (.lst xs)) (e2 : m[n]? = some p) (r : Reps K R m ys vs) : Sim K Z R m (S.set n (.lst ys)) (upd H p (.lst vs)) := by
  obtain ⟨ws, h1, h2, h3⟩ := s.cell n xs p e1 e2
  have hn : n < S.length := (List.getElem?_eq_some_iff.mp e1).1
  have old : ∀ {k : Nat} {zs : List A}, (S.set n (.lst ys))[k]? = some (.lst zs) → ∃ zs', S[k]? = some (.lst zs') := fun {k zs} e => by
    by_cases q : n = k
    · subst q
      exact ⟨xs, e1⟩
    · rw [List.getElem?_set_ne q] at e
      exact ⟨zs, e⟩
  refine ⟨fun a u e => ?_, by rw [List.length_set]; exact s.len, fun k zs a e3 e4 => ?_, fun k k' a zs zs' e3 e4 e5 e6 => ?_, fun a u e => ?_⟩
  rotate_left 3
  · obtain ⟨g1, g2, g3⟩ := s.prot a u e
    have q : a ≠ p := fun z => g3 n xs e1 (by rw [z]; exact e2)
    refine ⟨by rw [upd_ne q]; exact g1, g2, fun k zs e5 e6 => ?_⟩
    obtain ⟨u1, f1⟩ := old e5
    exact g3 k u1 f1 e6
  · have q : a ≠ p := fun z => by
      rw [z, h3] at e
      cases e
    rw [upd_ne q]
    exact s.sub a u e
  · by_cases q : n = k
    · subst q
      rw [e2] at e4
      cases e4
      rw [List.getElem?_set_self hn] at e3
      cases e3
      exact ⟨vs, upd_same, r, h3⟩
    · rw [List.getElem?_set_ne q] at e3
      obtain ⟨us, g1, g2, g3⟩ := s.cell k zs a e3 e4
      have qa : a ≠ p := fun z => q (s.inj n k p xs zs e2 (by rw [← z]; exact e4) e1 e3)
      exact ⟨us, by rw [upd_ne qa]; exact g1, g2, g3⟩
  · obtain ⟨u1, f1⟩ := old e5
    obtain ⟨u2, f2⟩ := old e6
    exact s.inj k k' a u1 u2 e3 e4 f1 f2
/-- a cell is frozen -/
theorem Sim.freeze {n : Nat} {xs : List A} {vs : List V} (s : Sim K Z R m S H) (e1 : S[n]? = some (.lst xs)) (e2 : m[n]? = some p) (e : H p = some (.lst vs)) : Sim K Z (upd R p (.lst vs)) m (S.set n .dead) H := by
  obtain ⟨ws, h1, h2, h3⟩ := s.cell n xs p e1 e2
  have hn : n < S.length := (List.getElem?_eq_some_iff.mp e1).1
  have old : ∀ {k : Nat} {zs : List A}, (S.set n .dead)[k]? = some (.lst zs) → n ≠ k ∧ S[k]? = some (.lst zs) := fun {k zs} e => by
    by_cases q : n = k
    · subst q
      rw [List.getElem?_set_self hn] at e
      cases e
    · rw [List.getElem?_set_ne q] at e
      exact ⟨q, e⟩
  refine ⟨fun a u e3 => ?_, by rw [List.length_set]; exact s.len, fun k zs a e3 e4 => ?_, fun k k' a zs zs' e3 e4 e5 e6 => ?_, fun a u e3 => ?_⟩
  rotate_left 3
  · obtain ⟨g1, g2, g3⟩ := s.prot a u e3
    have q : a ≠ p := fun z => g3 n xs e1 (by rw [z]; exact e2)
    exact ⟨g1, by rw [upd_ne q]; exact g2, fun k zs e5 e6 => g3 k zs (old e5).2 e6⟩
  · by_cases q : a = p
    · subst q
      rw [upd_same] at e3
      cases e3
      exact e
    · rw [upd_ne q] at e3
      exact s.sub a u e3
  · obtain ⟨q, f⟩ := old e3
    obtain ⟨us, g1, g2, g3⟩ := s.cell k zs a f e4
    have qa : a ≠ p := fun z => q (s.inj n k p xs zs e2 (by rw [← z]; exact e4) e1 f)
    exact ⟨us, g1, g2.mono (Ext.upd h3), by rw [upd_ne qa]; exact g3⟩
  · exact s.inj k k' a zs zs' e3 e4 (old e5).2 (old e6).2

/-- more is held -/
theorem Sim.hold {o : HO} (s : Sim K Z R m S H) (h : Lone R m S p) (e : H p = some o) : Sim K (upd Z p o) R m S H := by
  refine ⟨s.sub, s.len, s.cell, s.inj, fun a u e2 => ?_⟩
  by_cases q : a = p
  · subst q
    rw [upd_same] at e2
    cases e2
    exact ⟨e, h⟩
  · rw [upd_ne q] at e2
    exact s.prot a u e2
/-- .. is let go -/
theorem Sim.drop {Z' : Hp} (s : Sim K Z R m S H) (h : ∀ a o, Z' a = some o → Z a = some o) : Sim K Z' R m S H := ⟨s.sub, s.len, s.cell, s.inj, fun a u e => s.prot a u (h a u e)⟩
theorem Sim.zfree (s : Sim K Z R m S H) (h : H p = none) : Z p = none := by
  cases e : Z p with
  | none => rfl
  | some o =>
    rw [(s.prot _ _ e).1] at h
    cases h

/-! ### the environment -/
structure EnvR (K : PySem.W.Frag) (R : Hp) (m : List Addr) (σ' : Env) (σ : L2.St) : Prop where
  len : σ.length = σ'.length
  get : ∀ (i : Nat) (a : A), σ'[i]? = some (some a) → ∃ v, σ[i]? = some (some v) ∧ Rep K R m a v
theorem EnvR.mono {R m R' m'} {σ' : Env} {σ : L2.St} (h : EnvR K R m σ' σ) (e : Ext R m R' m') : EnvR K R' m' σ' σ :=
  ⟨h.len, fun i a q => by
    obtain ⟨v, h1, h2⟩ := h.get i a q
    exact ⟨v, h1, h2.mono e⟩⟩
theorem EnvR.set {σ' : Env} {σ : L2.St} {i : Nat} {a : A} {v : V} (h : EnvR K R m σ' σ) (hi : i < σ'.length) (r : Rep K R m a v) : EnvR K R m (σ'.set i (some a)) (σ.set i (some v)) := by
  refine ⟨by rw [List.length_set, List.length_set]; exact h.len, fun j b q => ?_⟩
  by_cases e : i = j
  · subst e
    rw [List.getElem?_set_self hi] at q
    cases q
    exact ⟨v, by rw [List.getElem?_set_self (by rw [h.len]; exact hi)], r⟩
  · rw [List.getElem?_set_ne e] at q
    rw [List.getElem?_set_ne e]
    exact h.get j b q
theorem EnvR.unset {σ' : Env} {σ : L2.St} (h : EnvR K R m σ' σ) (i : Nat) : EnvR K R m (σ'.set i none) (σ.set i none) := by
  refine ⟨by rw [List.length_set, List.length_set]; exact h.len, fun j b q => ?_⟩
  by_cases e : i = j
  · subst e
    by_cases hi : i < σ'.length
    · rw [List.getElem?_set_self hi] at q
      cases q
    · rw [List.getElem?_eq_none (by rw [List.length_set]; omega)] at q
      cases q
  · rw [List.getElem?_set_ne e] at q
    rw [List.getElem?_set_ne e]
    exact h.get j b q
theorem EnvR.wipe {σ' : Env} {σ : L2.St} (h : EnvR K R m σ' σ) : ∀ vs : List Nat, EnvR K R m (wipeA σ' vs) (wipe σ vs)
  | [] => h
  | v :: vs => (h.wipe vs).unset v

/-! ### outcomes -/
/-- an error's object -/
structure RepX (K : PySem.W.Frag) (ca : List Addr) (R : Hp) (m : List Addr) (x : Xn) (cv : Value) (d : Option Addr) : Prop where
  cls : ∃ C, ca[x.c]? = some C ∧ cv = .ref C
  fs : (x.fs = [] ∧ d = none) ∨ ∃ dd fv, d = some dd ∧ R dd = some (.xd fv) ∧ Paired (fun (p : Str × A) (q : Str × V) => p.1 = q.1 ∧ Rep K R m p.2 q.2) x.fs fv
def OutE (K : PySem.W.Frag) (ca : List Addr) (W : Value → Option Addr → Hp → Prop) {α : Type} (Z R : Hp) (m : List Addr) (r : Res α) (k : α → Dy.S → Hp → List Addr → Hp → Prop) : Prop := match r with
  | .ok a s => ∀ R' m' H', Ext R m R' m' → Sim K Z R' m' s H' → k a s R' m' H'
  | .exc x s => ∀ R' m' H' cv d, Ext R m R' m' → Sim K Z R' m' s H' → RepX K ca R' m' x cv d → W cv d H'
  | .bad => False
section
variable {ca : List Addr} {W : Value → Option Addr → Hp → Prop} {α β : Type}
theorem OutE.mono {r : Res α} {k : α → Dy.S → Hp → List Addr → Hp → Prop} (h : OutE K ca W Z R m r k) (e : Ext R m R' m') : OutE K ca W Z R' m' r k := by
  cases r with
  | ok a s => exact fun R2 m2 H2 e2 s2 => h R2 m2 H2 (e.trans e2) s2
  | exc x s => exact fun R2 m2 H2 cv d e2 s2 rx => h R2 m2 H2 cv d (e.trans e2) s2 rx
  | bad => exact h
theorem OutE.imp {r : Res α} {k k' : α → Dy.S → Hp → List Addr → Hp → Prop} (h : OutE K ca W Z R m r k) (q : ∀ a s R' m' H', Ext R m R' m' → Sim K Z R' m' s H' → k a s R' m' H' → k' a s R' m' H') : OutE K ca W Z R m r k' := by
  cases r with
  | ok a s => exact fun R2 m2 H2 e2 s2 => q a s R2 m2 H2 e2 s2 (h R2 m2 H2 e2 s2)
  | exc x s => exact h
  | bad => exact h
theorem OutE.of_bind {r : Res α} {f : α → Dy.S → Res β} {k : β → Dy.S → Hp → List Addr → Hp → Prop} (h : OutE K ca W Z R m (r.bind f) k) :
    OutE K ca W Z R m r fun a s R' m' _ => OutE K ca W Z R' m' (f a s) k := by
  cases r with
  | ok a s => exact fun R2 m2 H2 e2 s2 => OutE.mono (r := f a s) h e2
  | exc x s => exact h
  | bad => exact h
theorem OutE.ofO {o : Option α} {s : Dy.S} {f : α → Dy.S → Res β} {k : β → Dy.S → Hp → List Addr → Hp → Prop} (h : OutE K ca W Z R m ((Dy.ofO o s).bind f) k) : ∃ a, o = some a ∧ OutE K ca W Z R m (f a s) k := by
  cases o with
  | none => exact False.elim h
  | some a => exact ⟨a, rfl, h⟩
theorem OutE.ofO' {o : Option α} {s : Dy.S} {k : α → Dy.S → Hp → List Addr → Hp → Prop} (h : OutE K ca W Z R m (Dy.ofO o s) k) : ∃ a, o = some a ∧ OutE K ca W Z R m (.ok a s) k := by
  cases o with
  | none => exact False.elim h
  | some a => exact ⟨a, rfl, h⟩
theorem OutE.fin {a : α} {s : Dy.S} {k : α → Dy.S → Hp → List Addr → Hp → Prop} {H : Hp} (h : OutE K ca W Z R m (.ok a s) k) (q : Sim K Z R m s H) : k a s R m H := h R m H (Ext.refl R m) q
theorem OutE.prot {Z' : Hp} {r : Res α} {k : α → Dy.S → Hp → List Addr → Hp → Prop} (h : OutE K ca W Z R m r k) (q : ∀ a o, Z a = some o → Z' a = some o) : OutE K ca W Z' R m r k := by
  cases r with
  | ok a s => exact fun R2 m2 H2 e2 s2 => h R2 m2 H2 e2 (s2.drop q)
  | exc x s => exact fun R2 m2 H2 cv d e2 s2 rx => h R2 m2 H2 cv d e2 (s2.drop q) rx
  | bad => exact h
theorem OutE.nox {r : Res α} {k : α → Dy.S → Hp → List Addr → Hp → Prop} {W' : Value → Option Addr → Hp → Prop} (h : OutE K ca W Z R m r.nox k) : OutE K ca W' Z R m r k := by
  cases r with
  | ok a s => exact h
  | exc x s => exact False.elim h
  | bad => exact h
end
end Dy
end

section
set_option Elab.async false
set_option linter.all false
set_option maxRecDepth 100000
set_option maxHeartbeats 4000000
namespace Dy
open PySem PySem.Spec PyProof.Rows L2

section
variable {K : PySem.W.Frag} {Z R : Hp} {m : List Addr} {S : Dy.S} {H : Hp}
/-! ### what a value is, read off its description -/
theorem itemsL_cell {n : Nat} {xs : List A} (h : itemsL S (.cell n) = some xs) : S[n]? = some (.lst xs) := by
  unfold itemsL at h
  simp only at h
  split at h
  · rename_i q
    cases h
    exact q
  · cases h
theorem cell_at {n : Nat} {xs : List A} {v : V} (s : Sim K Z R m S H) (r : Rep K R m (.cell n) v) (h : itemsL S (.cell n) = some xs) :
    ∃ p vs, v = .ref p ∧ m[n]? = some p ∧ S[n]? = some (.lst xs) ∧ H p = some (.lst vs) ∧ Reps K R m xs vs := by
  have e := itemsL_cell h
  cases r with
  | cell hm =>
    obtain ⟨vs, h1, h2, _⟩ := s.cell n xs _ e hm
    exact ⟨_, vs, rfl, hm, e, h1, h2⟩
theorem list_at {a : A} {xs : List A} {v : V} (s : Sim K Z R m S H) (r : Rep K R m a v) (h : itemsL S a = some xs) :
    ∃ p vs, v = .ref p ∧ SqL K H p vs ∧ Reps K R m xs vs := by
  cases r with
  | non => cases h
  | bl b => cases h
  | int b => cases h
  | str b => cases h
  | tup _ _ => cases h
  | lst e t =>
    cases h
    exact ⟨_, _, rfl, SqL.of (s.sub _ _ e), t⟩
  | ro e _ t =>
    cases h
    exact ⟨_, _, rfl, sqL_sub s.sub e, t⟩
  | cell hm =>
    obtain ⟨p, vs, e1, _, _, h1, h2⟩ := cell_at s (.cell hm) h
    exact ⟨p, vs, e1, SqL.of h1, h2⟩
theorem itemsT_cases {a : A} {xs : List A} (h : itemsT S a = some xs) : a = .tup xs ∨ itemsL S a = some xs := by
  cases a <;> first | exact .inr h | exact .inl (by cases h; rfl)
theorem seq_at {a : A} {xs : List A} {v : V} (s : Sim K Z R m S H) (r : Rep K R m a v) (h : itemsT S a = some xs) :
    ∃ p vs, v = .ref p ∧ (SqL K H p vs ∨ SqT K H p vs) ∧ Reps K R m xs vs := by
  rcases itemsT_cases h with rfl | h
  · cases r with
    | tup e t => exact ⟨_, _, rfl, .inr (sqT_sub s.sub e), t⟩
  · obtain ⟨p, vs, h1, h2, h3⟩ := list_at s r h
    exact ⟨p, vs, h1, .inl h2, h3⟩
theorem itemsC_at {a : A} {xs : List A} {v : V} (s : Sim K Z R m S H) (r : Rep K R m a v) (h : itemsC S a = some xs) :
    ∃ p vs, v = .ref p ∧ H p = some (.lst vs) ∧ Reps K R m xs vs := by
  cases r with
  | non => cases h
  | bl b => cases h
  | int b => cases h
  | str b => cases h
  | tup _ _ => cases h
  | lst e t =>
    cases h
    exact ⟨_, _, rfl, s.sub _ _ e, t⟩
  | ro e _ t => cases h
  | @cell p n hm =>
    have h' : itemsL S (.cell n) = some xs := h
    obtain ⟨p, vs, e1, _, _, h1, h2⟩ := cell_at s (.cell hm) h'
    exact ⟨p, vs, e1, h1, h2⟩
theorem isEmpty_reps {xs : List A} {vs : List V} (h : Reps K R m xs vs) : vs.isEmpty = xs.isEmpty := by
  cases h <;> rfl
theorem tru_at {a : A} {v : V} {k : Bool} (s : Sim K Z R m S H) (r : Rep K R m a v) (h : truth S a = some k) : TruV K v H k := by
  cases r with
  | non => cases h; rfl
  | bl b => cases h; rfl
  | int b => cases h; rfl
  | str b =>
    have h' : (if b.length ≤ sizeLine then some (b.length != 0) else none) = some k := h
    split at h'
    · rename_i q
      cases h'
      refine ⟨q, ?_⟩
      cases e : b.length with
      | zero => rfl
      | succ j =>
        show (j + 1 != 0) = (((j + 1 : Nat) : Int) != 0)
        have h1 : (j + 1 != 0) = true := by simp
        have h2 : (((j + 1 : Nat) : Int) != 0) = true := by
          rw [bne_iff_ne]
          omega
        rw [h1, h2]
    · cases h'
  | tup e t =>
    cases h
    exact .inr (.inl ⟨_, sqT_sub s.sub e, by rw [isEmpty_reps t]⟩)
  | lst e t =>
    cases h
    exact .inl ⟨_, SqL.of (s.sub _ _ e), by rw [isEmpty_reps t]⟩
  | ro e _ t =>
    cases h
    exact .inl ⟨_, sqL_sub s.sub e, by rw [isEmpty_reps t]⟩
  | cell hm =>
    have h' : (itemsL S (.cell _)).map (fun xs => !xs.isEmpty) = some k := h
    cases q : itemsL S (.cell _) with
    | none =>
      rw [q] at h'
      cases h'
    | some xs =>
      rw [q] at h'
      cases h'
      obtain ⟨p, vs, e1, e2, h1⟩ := list_at s (.cell hm) q
      cases e1
      exact .inl ⟨vs, e2, by rw [isEmpty_reps h1]⟩
/-! ### data -/
mutual
theorem dp_at (s : Sim K Z R m S H) : ∀ {a : A} {v : V} {d : PyData}, Rep K R m a v → dataOf a = some d → Dp K H v d
  | .non, _, _, .non, h => by cases h; exact .non
  | .bl b, _, _, .bl _, h => by cases h; exact .bl b
  | .int b, _, _, .int _, h => by cases h; exact .int b
  | .str b, _, _, .str _, h => by cases h; exact .str b
  | .tup xs, _, d, .tup e t, h => by
    have h' : (datasOf xs).map PyData.tuple = some d := h
    cases q : datasOf xs with
    | none => rw [q] at h'; cases h'
    | some ds =>
      rw [q] at h'
      cases h'
      exact .tup (sqT_sub s.sub e) (dps_at s t q)
  | .lst xs, _, d, .lst e t, h => by
    have h' : (datasOf xs).map PyData.list = some d := h
    cases q : datasOf xs with
    | none => rw [q] at h'; cases h'
    | some ds =>
      rw [q] at h'
      cases h'
      exact .lst (SqL.of (s.sub _ _ e)) (dps_at s t q)
  | .ro xs, _, d, .ro e _ t, h => by
    have h' : (datasOf xs).map PyData.list = some d := h
    cases q : datasOf xs with
    | none => rw [q] at h'; cases h'
    | some ds =>
      rw [q] at h'
      cases h'
      exact .lst (sqL_sub s.sub e) (dps_at s t q)
  | .cell _, _, _, _, h => by cases h
theorem dps_at (s : Sim K Z R m S H) : ∀ {a : List A} {v : List V} {d : List PyData}, Reps K R m a v → datasOf a = some d → DpAll K H v d
  | [], _, _, .nil, h => by cases h; exact .nil
  | x :: xs, _, d, .cons r t, h => by
    have h' : ((dataOf x).bind fun d => (datasOf xs).map (d :: ·)) = some d := h
    cases q : dataOf x with
    | none => rw [q] at h'; cases h'
    | some e =>
      rw [q] at h'
      cases q2 : datasOf xs with
      | none => rw [q2] at h'; cases h'
      | some es =>
        rw [q2] at h'
        cases h'
        exact .cons (dp_at s r q) (dps_at s t q2)
end
theorem dp_resv {a b : A} {v : V} {d : PyData} (s : Sim K Z R m S H) (r : Rep K R m a v) (e : resv S a = some b) (h : dataOf b = some d) : Dp K H v d := by
  cases a with
  | cell n =>
    have e' : (itemsL S (.cell n)).map A.lst = some b := e
    cases q : itemsL S (.cell n) with
    | none => rw [q] at e'; cases e'
    | some xs =>
      rw [q] at e'
      cases e'
      obtain ⟨p, vs, e1, e2, h1⟩ := list_at s r q
      subst e1
      have h' : (datasOf xs).map PyData.list = some d := h
      cases q2 : datasOf xs with
      | none => rw [q2] at h'; cases h'
      | some ds =>
        rw [q2] at h'
        cases h'
        exact .lst e2 (dps_at s h1 q2)
  | _ =>
    cases e
    exact dp_at s r h
theorem eq_at {a b : A} {v u : V} {k : Bool} (s : Sim K Z R m S H) (r : Rep K R m a v) (t : Rep K R m b u) (h : eqA S a b = some k) :
    ∃ d e, Dp K H v d ∧ Dp K H u e ∧ SeqAt.shaped d = true ∧ SeqAt.shaped e = true ∧ PyData.eqv d e = k := by
  unfold eqA at h
  cases q1 : resv S a with
  | none => rw [q1] at h; cases h
  | some a' =>
    rw [q1] at h
    cases q2 : resv S b with
    | none => rw [q2] at h; cases h
    | some b' =>
      rw [q2] at h
      have h : eqData a' b' = some k := h
      unfold eqData at h
      cases q3 : dataOf a' with
      | none => rw [q3] at h; cases h
      | some d =>
        rw [q3] at h
        cases q4 : dataOf b' with
        | none => rw [q4] at h; cases h
        | some e =>
          rw [q4] at h
          have h : (if (SeqAt.shaped d && SeqAt.shaped e) = true then some (PyData.eqv d e) else none) = some k := h
          split at h
          · rename_i g
            cases h
            rw [Bool.and_eq_true] at g
            exact ⟨d, e, dp_resv s r q1 q3, dp_resv s t q2 q4, g.1, g.2, rfl⟩
          · cases h
theorem flat_at {a : A} {v x : V} (r : Rep K R m a v) (h : flatA a = some x) : v = x ∧ flatV x = true := by
  cases r with
  | non => cases h; exact ⟨rfl, rfl⟩
  | bl b => cases h; exact ⟨rfl, rfl⟩
  | int b => cases h; exact ⟨rfl, rfl⟩
  | str b => cases h; exact ⟨rfl, rfl⟩
  | tup _ _ => cases h
  | lst _ _ => cases h
  | ro _ _ _ => cases h
  | cell _ => cases h
theorem flats_at : ∀ {a : List A} {v x : List V}, Reps K R m a v → flatsA a = some x → v = x ∧ x.all flatV = true
  | [], _, _, .nil, h => by cases h; exact ⟨rfl, rfl⟩
  | y :: ys, _, x, .cons r t, h => by
    have h' : ((flatA y).bind fun d => (flatsA ys).map (d :: ·)) = some x := h
    cases q : flatA y with
    | none => rw [q] at h'; cases h'
    | some e =>
      rw [q] at h'
      cases q2 : flatsA ys with
      | none => rw [q2] at h'; cases h'
      | some es =>
        rw [q2] at h'
        cases h'
        obtain ⟨e1, f1⟩ := flat_at r q
        obtain ⟨e2, f2⟩ := flats_at t q2
        refine ⟨by rw [e1, e2], ?_⟩
        rw [List.all_cons, f1, f2] <;> rfl
theorem obind {α β : Type} {o : Option α} {f : α → Option β} {b : β} (h : o.bind f = some b) : ∃ a, o = some a ∧ f a = some b := by
  cases o with
  | none => cases h
  | some a => exact ⟨a, rfl, h⟩
theorem omap {α β : Type} {o : Option α} {f : α → β} {b : β} (h : o.map f = some b) : ∃ a, o = some a ∧ f a = b := by
  cases o with
  | none => cases h
  | some a =>
    cases h
    exact ⟨a, rfl, rfl⟩
theorem oif {α : Type} {c : Prop} [Decidable c] {a b : α} (h : (if c then some a else none) = some b) : c ∧ a = b := by
  by_cases q : c
  · rw [if_pos q] at h
    cases h
    exact ⟨q, rfl⟩
  · rw [if_neg q] at h
    cases h
theorem oifb {α : Type} {c : Bool} {a b : α} (h : (if c = true then some a else none) = some b) : c = true ∧ a = b := oif h
theorem oifn {α : Type} {c : Bool} {a b : α} (h : (if c = true then none else some a) = some b) : c = false ∧ a = b := by
  cases c with
  | true => cases h
  | false =>
    cases h
    exact ⟨rfl, rfl⟩
theorem small_at {i : Int} (h : small i = true) : i.natAbs < 2 ^ bits := of_decide_eq_true h
theorem bits_ok : 0 < bits ∧ bits + bits ≤ 1000000 := by decide
end

/-! ### operators by values -/
section
variable {X : Cx}
/-- what is asked of a value c that stands for the answer -/
def Kont (K : PySem.W.Frag) (Z : Hp) (S : Dy.S) (R : Hp) (m : List Addr) (c : A) (Q : VK) : Prop := ∀ v R' m' H', Ext R m R' m' → Sim K Z R' m' S H' → Rep K R' m' c v → Q v H'
def rV2 (K : PySem.W.Frag) (f : Dy.S → A → A → Option A) : R2 := fun x y H Q => ∃ Z R m S a b c, Sim K Z R m S H ∧ Rep K R m a x ∧ Rep K R m b y ∧ f S a b = some c ∧ Kont K Z S R m c Q
theorem Kont.at {K : PySem.W.Frag} {Z : Hp} {S : Dy.S} {R : Hp} {m : List Addr} {c : A} {Q : VK} {H : Hp} {v : V} (k : Kont K Z S R m c Q) (s : Sim K Z R m S H) (r : Rep K R m c v) : Q v H := k v R m H (Ext.refl R m) s r
/-- the answer is a new object -/
theorem Kont.new {K : PySem.W.Frag} {Z : Hp} {S : Dy.S} {R : Hp} {m : List Addr} {c : A} {Q : VK} {H : Hp} {o : HO} (k : Kont K Z S R m c Q) (s : Sim K Z R m S H) (r : ∀ p, H p = none → Rep K (upd R p o) m c (.ref p)) : ∀ p, H p = none → Q (.ref p) (upd H p o) :=
  fun p hp => k _ _ _ _ (Ext.upd (s.free hp)) (s.new hp) (r p hp)
def opOf : BOp → Operator
  | .add => .Add | .sub => .Sub | .mul => .Mult | .fdiv => .FloorDiv | .mod => .Mod | .pow => .Pow | .shl => .LShift | .shr => .RShift
theorem or_bin (o : BOp) : OpR X (binaryOp (opOf o)) (rV2 X.K fun S a b => binV S o a b) := by
  intro pins s σ H x y v u Q I rx ry h
  obtain ⟨Z, R, m, S, a, b, c, sm, ra, rb, e, k⟩ := h
  replace e : binV S o a b = some c := e
  unfold binV at e
  split at e
  · cases ra; cases rb; cases e
    exact op_add pins s σ H _ _ v u Q I rx ry ⟨_, _, rfl, rfl, k.at sm (.int _)⟩
  · cases ra; cases rb
    obtain ⟨q, rfl⟩ := oif e
    exact op_add_str pins s σ H _ _ v u Q I rx ry ⟨_, _, rfl, rfl, q, k.at sm (.str _)⟩
  · cases ra with
    | tup ha ta =>
      cases rb with
      | tup hb tb =>
        obtain ⟨q, rfl⟩ := oifn e
        rw [Bool.or_eq_false_iff] at q
        have q2 : _ := of_decide_eq_true (show decide _ = true by simpa using q.2)
        have q1 := q.1
        rw [← ta.length, ← tb.length] at q2
        refine op_catT pins s σ H _ _ v u Q I rx ry ⟨_, _, _, _, rfl, rfl, sqT_sub sm.sub ha, sqT_sub sm.sub hb, fun z => ?_, q2, fun z => ?_, fun z => ?_⟩
        · subst z
          cases ta
          cases q1
        · subst z
          cases tb
          refine k.at sm ?_
          rw [List.append_nil]
          exact .tup ha ta
        · exact k.new sm fun p hp => .tup (.inl (.inl upd_same)) ((ta.append tb).mono (Ext.upd (sm.free hp)))
  · cases ra; cases rb; cases e
    exact op_sub pins s σ H _ _ v u Q I rx ry ⟨_, _, rfl, rfl, k.at sm (.int _)⟩
  · cases ra; cases rb
    obtain ⟨q, rfl⟩ := oifb e
    rw [Bool.and_eq_true] at q
    exact op_mulW pins s σ H _ _ v u Q I rx ry ⟨_, _, rfl, rfl, wide_mul (small_at q.1) (small_at q.2) bits_ok.1 bits_ok.1 bits_ok.2, k.at sm (.int _)⟩
  · cases ra; cases rb
    obtain ⟨q, rfl⟩ := oifb e
    rw [Bool.and_eq_true] at q
    exact op_fdivW pins s σ H _ _ v u Q I rx ry ⟨_, _, rfl, rfl, wide_div (of_decide_eq_true q.1) (of_decide_eq_true q.2) (by decide) (by decide), k.at sm (.int _)⟩
  · cases ra; cases rb
    obtain ⟨q, rfl⟩ := oif e
    exact op_mod pins s σ H _ _ v u Q I rx ry ⟨_, _, rfl, rfl, q, k.at sm (.int _)⟩
  · cases ra; cases rb
    obtain ⟨q, rfl⟩ := oifb e
    rw [Bool.and_eq_true, Bool.and_eq_true] at q
    have q2 := of_decide_eq_true q.1.2
    exact op_pow pins s σ H _ _ v u Q I rx ry ⟨_, _, rfl, rfl, ⟨of_decide_eq_true q.1.1, by omega, of_decide_eq_true q.2⟩, k.at sm (.int _)⟩
  · cases ra; cases rb
    obtain ⟨q, rfl⟩ := oifb e
    rw [Bool.and_eq_true, Bool.and_eq_true] at q
    have q2 := of_decide_eq_true q.1.2
    exact op_shl pins s σ H _ _ v u Q I rx ry ⟨_, _, rfl, rfl, ⟨of_decide_eq_true q.1.1, by omega, of_decide_eq_true q.2⟩, k.at sm (.int _)⟩
  · cases ra; cases rb
    obtain ⟨q, rfl⟩ := oif e
    exact op_shr pins s σ H _ _ v u Q I rx ry ⟨_, _, rfl, rfl, q, k.at sm (.int _)⟩
  · cases e
def cmpOf : COp → CmpOp
  | .eq => .Eq | .ne => .NotEq | .lt => .Lt | .le => .LtE | .gt => .Gt | .ge => .GtE | .inn => .In | .nin => .NotIn | .is => .Is | .nis => .IsNot
theorem is_at {K : PySem.W.Frag} {R : Hp} {m : List Addr} {a b : A} {v u : V} {c : Bool} (r : Rep K R m a v) (t : Rep K R m b u) (h : isA a b = some c) :
    (u = .non ∧ c = decide (v = .non)) ∨ ∃ x y : Bool, v = .bl x ∧ u = .bl y ∧ c = decide (x = y) := by
  unfold isA at h
  split at h <;> first
    | (cases h; cases r; cases t; exact .inl ⟨rfl, rfl⟩)
    | (cases h; cases r; cases t; exact .inr ⟨_, _, rfl, rfl, rfl⟩)
    | cases h
theorem in_at {K : PySem.W.Frag} {Z R : Hp} {m : List Addr} {S : Dy.S} {H : Hp} {a b : A} {v u : V} {c : Bool} (s : Sim K Z R m S H) (r : Rep K R m a v) (t : Rep K R m b u) (h : inA S a b = some c) :
    (∃ i j, v = .str i ∧ u = .str j ∧ c = !(Builtin.Str.occurrences j i 0 j.length 1).isEmpty) ∨
    ∃ p xs, u = .ref p ∧ (SqL K H p xs ∨ SqT K H p xs) ∧ flatV v = true ∧ xs.all flatV = true ∧ c = inV v xs := by
  unfold inA at h
  split at h
  · cases r; cases t; cases h
    exact .inl ⟨_, _, rfl, rfl, rfl⟩
  · obtain ⟨xs, e1, h⟩ := obind h
    obtain ⟨x, e2, h⟩ := obind h
    obtain ⟨vs, e3, rfl⟩ := omap h
    obtain ⟨p, ws, q1, q2, q3⟩ := seq_at s t e1
    obtain ⟨f1, f2⟩ := flat_at r e2
    obtain ⟨f3, f4⟩ := flats_at q3 e3
    subst f1 f3
    exact .inr ⟨p, _, q1, q2, f2, f4, rfl⟩
theorem or_cmp {k : Nat} (hr : Room k X.A) (o : COp) : OpR X (compareOp (cmpOf o)) (rV2 X.K fun S a b => (cmpV S o a b).map .bl) := by
  intro pins s σ H x y v u Q I rx ry h
  obtain ⟨Z, R, m, S, a, b, c, sm, ra, rb, e, k⟩ := h
  replace e : (cmpV S o a b).map .bl = some c := e
  obtain ⟨d, e0, rfl⟩ := omap e
  clear e
  have e := e0
  clear e0
  have k' : Q (.bl d) H := k.at sm (.bl _)
  unfold cmpV at e
  split at e
  · obtain ⟨d1, d2, h1, h2, h3, h4, rfl⟩ := eq_at sm ra rb e
    exact op_eqD hr.units pins s σ H _ _ v u Q I rx ry ⟨d1, d2, h1, h2, h3, h4, k'⟩
  · obtain ⟨d', e0, rfl⟩ := omap e
    clear e
    have e := e0
    clear e0
    obtain ⟨d1, d2, h1, h2, h3, h4, rfl⟩ := eq_at sm ra rb e
    exact op_neD hr.units pins s σ H _ _ v u Q I rx ry ⟨d1, d2, h1, h2, h3, h4, k'⟩
  · cases ra; cases rb; cases e
    exact op_lt pins s σ H _ _ v u Q I rx ry ⟨_, _, rfl, rfl, k'⟩
  · cases ra; cases rb; cases e
    exact op_le pins s σ H _ _ v u Q I rx ry ⟨_, _, rfl, rfl, k'⟩
  · cases ra; cases rb; cases e
    exact op_gt pins s σ H _ _ v u Q I rx ry ⟨_, _, rfl, rfl, k'⟩
  · cases ra; cases rb; cases e
    exact op_ge pins s σ H _ _ v u Q I rx ry ⟨_, _, rfl, rfl, k'⟩
  · rcases in_at sm ra rb e with ⟨i, j, rfl, rfl, rfl⟩ | ⟨p, xs, rfl, h1, h2, h3, rfl⟩
    · exact op_in_str pins s σ H _ _ v u Q I rx ry ⟨_, _, rfl, rfl, k'⟩
    · exact op_in_seq pins s σ H _ _ v u Q I rx ry ⟨_, _, rfl, h1, h2, h3, k'⟩
  · obtain ⟨d', e0, rfl⟩ := omap e
    clear e
    have e := e0
    clear e0
    rcases in_at sm ra rb e with ⟨i, j, rfl, rfl, rfl⟩ | ⟨p, xs, rfl, h1, h2, h3, rfl⟩
    · exact op_notIn_str pins s σ H _ _ v u Q I rx ry ⟨_, _, rfl, rfl, k'⟩
    · exact op_notIn_seq pins s σ H _ _ v u Q I rx ry ⟨_, _, rfl, h1, h2, h3, k'⟩
  · rcases is_at ra rb e with ⟨rfl, rfl⟩ | ⟨x', y', rfl, rfl, rfl⟩
    · exact op_isN pins s σ H _ _ v u Q I rx ry ⟨rfl, k'⟩
    · exact op_isBl pins s σ H _ _ v u Q I rx ry ⟨_, _, rfl, rfl, k'⟩
  · obtain ⟨d', e0, rfl⟩ := omap e
    clear e
    have e := e0
    clear e0
    rcases is_at ra rb e with ⟨rfl, rfl⟩ | ⟨x', y', rfl, rfl, rfl⟩
    · exact op_notN pins s σ H _ _ v u Q I rx ry ⟨rfl, k'⟩
    · exact op_notBl pins s σ H _ _ v u Q I rx ry ⟨_, _, rfl, rfl, k'⟩
  · cases e
theorem or_neg : UnR X (unaryOp .USub) (fun x H Q => ∃ Z R m S i, Sim X.K Z R m S H ∧ Rep X.K R m (.int i) x ∧ Kont X.K Z S R m (.int (-i)) Q) := by
  intro pins s σ H x v Q I rx h
  obtain ⟨Z, R, m, S, i, sm, ra, k⟩ := h
  cases ra
  exact un_neg pins s σ H _ v Q I rx ⟨_, rfl, k.at sm (.int _)⟩
/-! ### places, slices -/
theorem atI_reps {K : PySem.W.Frag} {R : Hp} {m : List Addr} {xs : List A} {vs : List V} {i : Int} {a : A} (h : Reps K R m xs vs) (e : atI xs i = some a) : ∃ v, atI vs i = some v ∧ Rep K R m a v := by
  unfold atI at e ⊢
  rw [h.length]
  obtain ⟨j, e1, e2⟩ := obind e
  rw [e1]
  exact h.get e2
theorem or_idx : IxR X (rV2 X.K idxV) := by
  intro value slice pins s σ H x y v u Q I rx ry h hs
  obtain ⟨Z, R, m, S, a, b, c, sm, ra, rb, e, k⟩ := h
  unfold idxV at e
  split at e
  · cases rb
    split at e
    · cases ra
      obtain ⟨q, e⟩ : _ ∧ _ := by
        split at e
        · rename_i q
          exact ⟨q, e⟩
        · cases e
      obtain ⟨z, e5, rfl⟩ := omap e
      exact ix_str value slice pins s σ H _ _ v u Q I rx ry ⟨_, _, _, rfl, rfl, q, e5, k.at sm (.str _)⟩ hs
    · obtain ⟨xs, e1, e2⟩ := obind e
      obtain ⟨p, vs, rfl, h1, h2⟩ := seq_at sm ra e1
      obtain ⟨z, e3, rz⟩ := atI_reps h2 e2
      rcases h1 with h1 | h1
      · exact ix_list value slice pins s σ H _ _ v u Q I rx ry ⟨_, _, _, _, rfl, rfl, h1, e3, k.at sm rz⟩ hs
      · exact ix_tup value slice pins s σ H _ _ v u Q I rx ry ⟨_, _, _, _, rfl, rfl, h1, e3, k.at sm rz⟩ hs
  · cases e
theorem cut_reps {K : PySem.W.Frag} {R : Hp} {m : List Addr} {xs : List A} {vs : List V} (h : Reps K R m xs vs) (lo hi : Option Int) : Reps K R m (cutA xs lo hi) (cutV vs lo hi) := by
  unfold cutA cutV
  rw [h.length]
  exact (h.drop _).take _
def rVS (K : PySem.W.Frag) : V → Option Int → Option Int → Hp → VK → Prop := fun x lo hi H Q => ∃ Z R m S a c, Sim K Z R m S H ∧ Rep K R m a x ∧ sliceV S a lo hi = some c ∧ Kont K Z S R m c Q
theorem or_slice : SlR X (rVS X.K) := by
  intro pins s σ H x v vl vu lo hi sl Q I rx hs pl pu h
  obtain ⟨Z, R, m, S, a, c, sm, ra, e, k⟩ := h
  unfold sliceV at e
  split at e
  · cases ra with
    | tup ha ta =>
      obtain ⟨q, rfl⟩ := oifn e
      refine sl_tup pins s σ H _ v vl vu lo hi sl Q I rx hs pl pu ⟨_, _, rfl, sqT_sub sm.sub ha, fun z => ?_, ?_⟩
      · rw [ta.length] at z
        rw [z.1, z.2] at q
        simp at q
      · exact k.new sm fun p hp => .tup (.inl (.inl upd_same)) ((cut_reps ta lo hi).mono (Ext.upd (sm.free hp)))
  · cases e
  · obtain ⟨xs, e1, rfl⟩ := omap e
    obtain ⟨p, vs, rfl, h1, h2⟩ := list_at sm ra e1
    refine sl_list pins s σ H _ v vl vu lo hi sl Q I rx hs pl pu ⟨_, _, rfl, h1, ?_⟩
    exact k.new sm fun p hp => .lst upd_same ((cut_reps h2 lo hi).mono (Ext.upd (sm.free hp)))
/-! ### built-in functions -/
def rVB (K : PySem.W.Frag) (f : Bi) : List V → Hp → VK → Prop := fun vs H Q => ∃ Z R m S as c, Sim K Z R m S H ∧ Reps K R m as vs ∧ biV S f as = some c ∧ Kont K Z S R m c Q
theorem foldl_max_le : ∀ (r : List Int) (x y : Int), (y = x ∨ y ∈ r) → y ≤ r.foldl max x
  | [], x, y, h => by
    rcases h with h | h
    · rw [h]
      exact Int.le_refl _
    · cases h
  | z :: r, x, y, h => by
    have base : ∀ w : Int, w ≤ r.foldl max w := fun w => foldl_max_le r w w (.inl rfl)
    rw [List.foldl_cons]
    rcases h with rfl | h
    · exact Int.le_trans (Int.le_max_left _ _) (base _)
    · rcases List.mem_cons.mp h with rfl | h
      · exact Int.le_trans (Int.le_max_right _ _) (base _)
      · exact foldl_max_le r _ y (.inr h)
theorem foldl_max_mem : ∀ (r : List Int) (x : Int), r.foldl max x = x ∨ r.foldl max x ∈ r
  | [], x => .inl rfl
  | z :: r, x => by
    rw [List.foldl_cons]
    rcases foldl_max_mem r (max x z) with h | h
    · rw [h]
      rcases Int.le_total x z with q | q
      · rw [Int.max_eq_right q]
        exact .inr List.mem_cons_self
      · rw [Int.max_eq_left q]
        exact .inl rfl
    · exact .inr (List.mem_cons_of_mem _ h)
theorem foldl_min_le : ∀ (r : List Int) (x y : Int), (y = x ∨ y ∈ r) → r.foldl min x ≤ y
  | [], x, y, h => by
    rcases h with h | h
    · rw [h]
      exact Int.le_refl _
    · cases h
  | z :: r, x, y, h => by
    have base : ∀ w : Int, r.foldl min w ≤ w := fun w => foldl_min_le r w w (.inl rfl)
    rw [List.foldl_cons]
    rcases h with rfl | h
    · exact Int.le_trans (base _) (Int.min_le_left _ _)
    · rcases List.mem_cons.mp h with rfl | h
      · exact Int.le_trans (base _) (Int.min_le_right _ _)
      · exact foldl_min_le r _ y (.inr h)
theorem foldl_min_mem : ∀ (r : List Int) (x : Int), r.foldl min x = x ∨ r.foldl min x ∈ r
  | [], x => .inl rfl
  | z :: r, x => by
    rw [List.foldl_cons]
    rcases foldl_min_mem r (min x z) with h | h
    · rw [h]
      rcases Int.le_total x z with q | q
      · rw [Int.min_eq_left q]
        exact .inl rfl
      · rw [Int.min_eq_right q]
        exact .inr List.mem_cons_self
    · exact .inr (List.mem_cons_of_mem _ h)
theorem maxL_spec {ns : List Int} {y : Int} (h : maxL ns = some y) : 0 < ns.length ∧ y ∈ ns ∧ ∀ z ∈ ns, z ≤ y := by
  cases ns with
  | nil => cases h
  | cons x r =>
    cases h
    refine ⟨Nat.succ_pos _, ?_, fun z hz => foldl_max_le r x z (List.mem_cons.mp hz)⟩
    rcases foldl_max_mem r x with q | q
    · rw [q]
      exact List.mem_cons_self
    · exact List.mem_cons_of_mem _ q
theorem minL_spec {ns : List Int} {y : Int} (h : minL ns = some y) : 0 < ns.length ∧ y ∈ ns ∧ ∀ z ∈ ns, y ≤ z := by
  cases ns with
  | nil => cases h
  | cons x r =>
    cases h
    refine ⟨Nat.succ_pos _, ?_, fun z hz => foldl_min_le r x z (List.mem_cons.mp hz)⟩
    rcases foldl_min_mem r x with q | q
    · rw [q]
      exact List.mem_cons_self
    · exact List.mem_cons_of_mem _ q
/-- a built-in's Python name and what it is -/
def biFn : Bi → Option String
  | .len => some "len" | .abs => some "abs" | .max2 => some "max" | .min2 => some "min" | .max1 => some "max" | .min1 => some "min" | .sum => some "sum"
  | .all => some "all" | .any => some "any" | .gcd => some "math.gcd" | _ => none
def biTy : Bi → Option String
  | .int => some "int" | .bool => some "bool" | .tuple => some "tuple" | _ => none
theorem reps1 {K : PySem.W.Frag} {R : Hp} {m : List Addr} {a : A} {vs : List V} (h : Reps K R m [a] vs) : ∃ v, vs = [v] ∧ Rep K R m a v := by
  cases h with
  | cons r t =>
    cases t
    exact ⟨_, rfl, r⟩
theorem reps2 {K : PySem.W.Frag} {R : Hp} {m : List Addr} {a b : A} {vs : List V} (h : Reps K R m [a, b] vs) : ∃ v u, vs = [v, u] ∧ Rep K R m a v ∧ Rep K R m b u := by
  cases h with
  | cons r t =>
    cases t with
    | cons r2 t2 =>
      cases t2
      exact ⟨_, _, rfl, r, r2⟩
theorem or_bi (hc : X.calm = true) (f : Bi) : ∀ {id : String}, biFn f = some id → CallR X (.builtin id) (rVB X.K f) := by
  intro id hid pins s σ H vs us Q I r h
  obtain ⟨Z, R, m, S, as, c, sm, ra, e, k⟩ := h
  unfold biV at e
  split at e
  · cases hid
    obtain ⟨v, rfl, r1⟩ := reps1 ra
    cases r1
    obtain ⟨q, rfl⟩ := oif e
    exact call_len_str pins s σ H _ us Q I r ⟨_, rfl, q, k.at sm (.int _)⟩
  · cases hid
    obtain ⟨v, rfl, r1⟩ := reps1 ra
    obtain ⟨xs, e5, rfl⟩ := omap e
    obtain ⟨p, ws, rfl, h1, h2⟩ := seq_at sm r1 e5
    refine call_len_seq pins s σ H _ us Q I r ⟨_, _, rfl, h1, ?_⟩
    rw [h2.length]
    exact k.at sm (.int _)
  · cases hid
    obtain ⟨v, rfl, r1⟩ := reps1 ra
    cases r1; cases e
    exact call_abs pins s σ H _ us Q I r ⟨_, rfl, k.at sm (.int _)⟩
  · cases hid
    obtain ⟨v, w, rfl, r1, r2⟩ := reps2 ra
    cases r1; cases r2; cases e
    exact call_max2 hc pins s σ H _ us Q I r ⟨_, _, rfl, k.at sm (.int _)⟩
  · cases hid
    obtain ⟨v, w, rfl, r1, r2⟩ := reps2 ra
    cases r1; cases r2; cases e
    exact call_min2 hc pins s σ H _ us Q I r ⟨_, _, rfl, k.at sm (.int _)⟩
  · cases hid
    obtain ⟨v, rfl, r1⟩ := reps1 ra
    obtain ⟨xs, e1, e⟩ := obind e
    obtain ⟨ns, e2, e⟩ := obind e
    obtain ⟨y, e3, rfl⟩ := omap e
    obtain ⟨p, ws, rfl, h1, h2⟩ := list_at sm r1 e1
    have hw := h2.ints e2
    subst hw
    obtain ⟨g1, g2, g3⟩ := maxL_spec e3
    refine cr_max hc pins s σ H _ us Q I r ⟨_, ns, rfl, h1, g1, fun z hz hle => ?_⟩
    have : z = y := Int.le_antisymm (g3 z hz) (hle y g2)
    subst this
    exact k.at sm (.int _)
  · cases hid
    obtain ⟨v, rfl, r1⟩ := reps1 ra
    obtain ⟨xs, e1, e⟩ := obind e
    obtain ⟨ns, e2, e⟩ := obind e
    obtain ⟨y, e3, rfl⟩ := omap e
    obtain ⟨p, ws, rfl, h1, h2⟩ := list_at sm r1 e1
    have hw := h2.ints e2
    subst hw
    obtain ⟨g1, g2, g3⟩ := minL_spec e3
    refine cr_min hc pins s σ H _ us Q I r ⟨_, ns, rfl, h1, g1, fun z hz hle => ?_⟩
    have : z = y := Int.le_antisymm (hle y g2) (g3 z hz)
    subst this
    exact k.at sm (.int _)
  · cases hid
    obtain ⟨v, rfl, r1⟩ := reps1 ra
    obtain ⟨xs, e1, e⟩ := obind e
    obtain ⟨ns, e2, rfl⟩ := omap e
    obtain ⟨p, ws, rfl, h1, h2⟩ := list_at sm r1 e1
    have hw := h2.ints e2
    subst hw
    exact cr_sum hc pins s σ H _ us Q I r ⟨_, ns, rfl, h1, k.at sm (.int _)⟩
  · cases hid
    obtain ⟨v, rfl, r1⟩ := reps1 ra
    obtain ⟨xs, e1, e⟩ := obind e
    obtain ⟨ns, e2, rfl⟩ := omap e
    obtain ⟨p, ws, rfl, h1, h2⟩ := list_at sm r1 e1
    have hw := h2.bls e2
    subst hw
    exact cr_all hc pins s σ H _ us Q I r ⟨_, ns, rfl, h1, k.at sm (.bl _)⟩
  · cases hid
    obtain ⟨v, rfl, r1⟩ := reps1 ra
    obtain ⟨xs, e1, e⟩ := obind e
    obtain ⟨ns, e2, rfl⟩ := omap e
    obtain ⟨p, ws, rfl, h1, h2⟩ := list_at sm r1 e1
    have hw := h2.bls e2
    subst hw
    exact cr_any hc pins s σ H _ us Q I r ⟨_, ns, rfl, h1, k.at sm (.bl _)⟩
  · cases hid
  · cases hid
  · cases hid
  · cases hid
  · cases hid
    obtain ⟨v, w, rfl, r1, r2⟩ := reps2 ra
    cases r1; cases r2; cases e
    exact cr_gcd pins s σ H _ us Q I r ⟨_, _, rfl, k.at sm (.int _)⟩
  · cases hid
  · cases e
theorem or_ty (f : Bi) : ∀ {id : String}, biTy f = some id → CallR X (.type id) (rVB X.K f) := by
  intro id hid pins s σ H vs us Q I r h
  obtain ⟨Z, R, m, S, as, c, sm, ra, e, k⟩ := h
  cases f with
  | int =>
    cases hid
    unfold biV at e
    split at e <;> first | contradiction | skip
    · obtain ⟨v, rfl, r1⟩ := reps1 ra
      cases r1; cases e
      exact call_int1 pins s σ H _ us Q I r (.inl ⟨_, rfl, k.at sm (.int _)⟩)
    · obtain ⟨v, rfl, r1⟩ := reps1 ra
      cases r1; cases e
      exact call_int1 pins s σ H _ us Q I r (.inr ⟨_, rfl, k.at sm (.int _)⟩)
  | bool =>
    cases hid
    unfold biV at e
    split at e <;> first | contradiction | skip
    · obtain ⟨v, rfl, r1⟩ := reps1 ra
      cases r1; cases e
      exact call_bool1 pins s σ H _ us Q I r (.inl ⟨_, rfl, k.at sm (.bl _)⟩)
    · obtain ⟨v, rfl, r1⟩ := reps1 ra
      cases r1; cases e
      exact call_bool1 pins s σ H _ us Q I r (.inr ⟨_, rfl, k.at sm (.bl _)⟩)
  | tuple =>
    cases hid
    unfold biV at e
    split at e <;> first | contradiction | skip
    obtain ⟨v, rfl, r1⟩ := reps1 ra
    obtain ⟨xs, e5, rfl⟩ := omap e
    clear e
    rcases itemsT_cases e5 with rfl | e
    · cases r1 with
      | tup h1 h2 => exact call_tuple_of pins s σ H _ us Q I r ⟨_, _, rfl, .inr ⟨sqT_sub sm.sub h1, k.at sm (.tup h1 h2)⟩⟩
    · obtain ⟨p, ws, rfl, h1, h2⟩ := list_at sm r1 e
      exact call_tuple_of pins s σ H _ us Q I r ⟨_, _, rfl, .inl ⟨h1, k.new sm fun p hp => .tup (.inl (.inl upd_same)) (h2.mono (Ext.upd (sm.free hp)))⟩⟩
  | _ => cases hid
end
end Dy
end

section
set_option Elab.async false
set_option linter.all false
set_option maxRecDepth 100000
set_option maxHeartbeats 4000000
namespace Dy
open PySem PySem.Spec PyProof.Rows L2

/-- what the checks know of the program -/
structure Info where
  fns : List (Str × List Str)
  kws : List (Nat × Nat × List Str × List Nat)
  gs : List Str
  gcd : Bool
/-- .. of the block: its slots, its scope, the names whose cells it made -/
structure Blk where
  N : List Str
  sc : Scope
  fb : Str → Bool
def visB (sc : Scope) (x : Str) : Bool := match sc.names.lookup x with
  | some .local => true
  | some .cell => true
  | some .free => true
  | _ => false
def lclB (sc : Scope) (x : Str) : Bool := match sc.names.lookup x with
  | some .local => true
  | _ => false
def celB (sc : Scope) (x : Str) : Bool := match sc.names.lookup x with
  | some .cell => true
  | _ => false
def gloB (sc : Scope) (x : Str) : Bool := match sc.names.lookup x with
  | some .globalImplicit => true
  | _ => false
def okN (x : Str) : Bool := !(x == ("__debug__" : Str)) && !(x == ("__classdict__" : Str)) && decide (x ≠ ("__name__" : Str))
def slotB (q : Blk) (i : Nat) (x : Str) : Bool := decide (q.N[i]? = some x) && visB q.sc x && okN x
def storB (q : Blk) (i : Nat) (x : Str) : Bool := decide (q.N[i]? = some x) && (lclB q.sc x || (celB q.sc x && q.fb x))
def globB (q : Blk) (x : Str) : Bool := gloB q.sc x && okN x
/-- names of built-ins that must stand -/
def bnames : List Str := ["len", "abs", "max", "min", "sum", "all", "any", "int", "bool", "tuple", "list", "str", "dict", "isinstance", "range", "zip", "enumerate"]
def biName : Bi → Str
  | .len => "len" | .abs => "abs" | .max2 => "max" | .min2 => "min" | .max1 => "max" | .min1 => "min" | .sum => "sum"
  | .all => "all" | .any => "any" | .int => "int" | .bool => "bool" | .tuple => "tuple" | .gcd => "gcd"
def opB : BOp → Operator → Bool
  | .add, .Add => true | .sub, .Sub => true | .mul, .Mult => true | .fdiv, .FloorDiv => true | .mod, .Mod => true | .pow, .Pow => true
  | .shl, .LShift => true | .shr, .RShift => true | _, _ => false
def cmpB : COp → CmpOp → Bool
  | .eq, .Eq => true | .ne, .NotEq => true | .lt, .Lt => true | .le, .LtE => true | .gt, .Gt => true | .ge, .GtE => true
  | .inn, .In => true | .nin, .NotIn => true | .is, .Is => true | .nis, .IsNot => true | _, _ => false
def noSet : Expr → Bool
  | .Set .. => false
  | _ => true
def noSlice : Expr → Bool
  | .Slice .. => false
  | _ => true
def noCall : Expr → Bool
  | .Call .. => false
  | _ => true
def nst : Expr → Bool
  | .Starred .. => false
  | _ => true
def noStar : Es → Bool
  | .nil => true
  | .cons _ r => noStar r
  | .star _ _ => false
def gcdB (nf : Info) : Bi → Bool
  | .gcd => nf.gcd
  | _ => true
def tyB (q : Blk) (t : Ty) (x : Expr) : Bool := match x with
  | .Name n _ => decide (n = ((tyS t : String) : Str)) && globB q n
  | _ => false
def tysB (q : Blk) : List Ty → List Expr → Bool
  | [], [] => true
  | t :: ts, x :: xs => tyB q t x && tysB q ts xs
  | _, _ => false
def isTup : Expr → Bool
  | .Tuple .. => true
  | _ => false
/-- the block of a comprehension -/
def Blk.inn (q : Blk) (scope : Scope) : Blk := ⟨q.N, relS scope q.sc, fun x => celB scope x⟩
def ownB (q : Blk) (own : List Nat) : List (Str × Nat) := own.map fun i => (q.N.getD i "", i)
/-- the targets of a comprehension stand among its own names -/
def Ts.ownOk (own : List Nat) : Ts → Bool
  | .nil => true
  | .cons (.v i) r => decide (i ∈ own) && r.ownOk own
  | .cons _ _ => false
def T.ownOk (own : List Nat) : T → Bool
  | .v i => decide (i ∈ own)
  | .tup ts => ts.ownOk own
  | .sub _ _ => false
section
variable (nf : Info)
mutual
def chkE (q : Blk) : E → Expr → Bool
  | .c a, x => match a, x with
    | .int i, .Constant (.int j) _ _ => decide (i = j)
    | .bl i, .Constant (.bool j) _ _ => decide (i = j)
    | .str i, .Constant (.str j) _ _ => decide (i = j)
    | .non, .Constant .none _ _ => true
    | _, _ => false
  | .v i, x => match x with
    | .Name n _ => slotB q i n
    | _ => false
  | .g j, x => match x with
    | .Name n _ => decide (nf.gs[j]? = some n) && globB q n
    | _ => false
  | .bin o a b, x => match x with
    | .BinOp l op r _ => opB o op && chkE q a l && chkE q b r
    | _ => false
  | .neg a, x => match x with
    | .UnaryOp .USub l _ => chkE q a l
    | _ => false
  | .not a, x => match x with
    | .UnaryOp .Not l _ => chkE q a l
    | _ => false
  | .cmp o a b, x => match x with
    | .Compare l [op] [r] _ => cmpB o op && noSet r && chkE q a l && chkE q b r
    | _ => false
  | .chain o o' a b c, x => match x with
    | .Compare l [op, op'] [m, r] _ => cmpB o op && cmpB o' op' && noSet r && chkE q a l && chkE q b m && chkE q c r
    | _ => false
  | .and2 a b, x => match x with
    | .BoolOp .And (l :: r :: rest) p => chkE q a l && (match rest with
      | [] => chkE q b r
      | _ :: _ => chkE q b (.BoolOp .And (r :: rest) p))
    | _ => false
  | .or2 a b, x => match x with
    | .BoolOp .Or (l :: r :: rest) p => chkE q a l && (match rest with
      | [] => chkE q b r
      | _ :: _ => chkE q b (.BoolOp .Or (r :: rest) p))
    | _ => false
  | .ite c a b, x => match x with
    | .IfExp l m r _ => chkE q c l && chkE q a m && chkE q b r
    | _ => false
  | .tup es, x => match x with
    | .Tuple xs _ _ => chkEs q es xs
    | _ => false
  | .lst l, x => chkL q l x
  | .mk l, x => chkL q l x
  | .frz e, x => match x with
    | .Name m p => chkE q e (.Name m p)
    | _ => false
  | .idx a b, x => match x with
    | .Subscript l r _ => noSlice r && chkE q a l && chkE q b r
    | _ => false
  | .slice a lo hi, x => match x with
    | .Subscript l (.Slice u v none _) _ => chkE q a l && chkEo q lo u && chkEo q hi v
    | _ => false
  | .call f es, x => match x with
    | .Call (.Name n _) (y :: ys) [] _ => decide ((nf.fns[f]?).map (·.1) = some n) && globB q n && noStar es && chkEs q es (y :: ys)
    | _ => false
  | .callK f es ks pm, x => match x with
    | .Call (.Name n _) ys (k :: kws) _ => decide ((nf.fns[f]?).map (·.1) = some n) && globB q n && noStar es && chkEs q es ys && chkKs q ks (k :: kws) &&
        decide ((f, es.len, (k :: kws).filterMap (fun w => w.1), pm) ∈ nf.kws)
    | _ => false
  | .bi f es, x => match x with
    | .Call (.Name n _) (y :: ys) [] _ => decide (n = biName f) && globB q n && noStar es && chkEs q es (y :: ys) && gcdB nf f
    | _ => false
  | .isi a ts, x => match x with
    | .Call (.Name n _) [y, z] [] _ => nst y && nst z && decide (n = ("isinstance" : Str)) && globB q n && chkE q a y && (match z with
      | .Tuple zs _ _ => tysB q ts zs && decide (ts.length ≤ 100)
      | z => tysB q ts [z])
    | _ => false
  | .append o a, x => match x with
    | .Call (.Attribute l n p) [y] [] p' => nst y && decide (n = ("append" : Str)) && noCall l && (p.endLine == p'.line) && chkE q o l && chkE q a y
    | _ => false
  | .extend o a, x => match x with
    | .Call (.Attribute l n p) [y] [] p' => nst y && decide (n = ("extend" : Str)) && noCall l && (p.endLine == p'.line) && chkE q o l && chkE q a y
    | _ => false
  | .pop o, x => match x with
    | .Call (.Attribute l n p) [] [] p' => decide (n = ("pop" : Str)) && noCall l && (p.endLine == p'.line) && chkE q o l
    | _ => false
  | .popAt o a, x => match x with
    | .Call (.Attribute l n p) [y] [] p' => nst y && decide (n = ("pop" : Str)) && noCall l && (p.endLine == p'.line) && chkE q o l && chkE q a y
    | _ => false
def chkEs (q : Blk) : Es → List Expr → Bool
  | .nil, xs => match xs with
    | [] => true
    | _ => false
  | .cons e r, xs => match xs with
    | x :: ys => nst x && chkE q e x && chkEs q r ys
    | _ => false
  | .star e r, xs => match xs with
    | .Starred x _ :: ys => chkE q e x && chkEs q r ys
    | _ => false
def chkKs (q : Blk) : Es → List Keyword → Bool
  | .nil, xs => match xs with
    | [] => true
    | _ => false
  | .cons e r, xs => match xs with
    | ⟨n, x, _⟩ :: ys => n.isSome && chkE q e x && chkKs q r ys
    | _ => false
  | .star _ _, _ => false
def chkEo (q : Blk) : Eo → Option Expr → Bool
  | .no, x => match x with
    | none => true
    | _ => false
  | .yes e, x => match x with
    | some y => chkE q e y
    | _ => false
def chkC (q : Blk) : Eo → List Expr → Bool
  | .no, x => match x with
    | [] => true
    | _ => false
  | .yes e, x => match x with
    | [y] => chkE q e y
    | _ => false
def chkL (q : Blk) : L → Expr → Bool
  | .disp es, x => match x with
    | .List xs _ => chkEs q es xs
    | _ => false
  | .comp own t i c e, x => match x with
    | .ListComp elt [⟨tg, iter, ifs, 0⟩] scope _ => chkI q i tg iter && noSet iter && blkC q.N q.sc scope (ownB q own) && t.ownOk own &&
        chkT (q.inn scope) t tg && chkC (q.inn scope) c ifs && chkE (q.inn scope) e elt
    | _ => false
  | .ofSeq e, x => match x with
    | .Call (.Name n _) [y] [] _ => nst y && decide (n = ("list" : Str)) && globB q n && chkE q e y
    | _ => false
  | .cut e lo hi, x => match x with
    | .Subscript l (.Slice u v none _) _ => chkE q e l && chkEo q lo u && chkEo q hi v
    | _ => false
  | .rev e, x => match x with
    | .Subscript l (.Slice none none (some (.UnaryOp .USub (.Constant (.int 1) _ _) _)) _) _ => chkE q e l
    | _ => false
  | .cat a b, x => match x with
    | .BinOp l .Add r _ => chkE q a l && chkE q b r
    | _ => false
  | .rep a b, x => match x with
    | .BinOp l .Mult r _ => chkE q a l && chkE q b r
    | _ => false
def chkI (q : Blk) : I → Expr → Expr → Bool
  | .seq e, _, x => chkE q e x
  | .rng1 a, _, x => match x with
    | .Call (.Name n _) [y] [] _ => nst y && decide (n = ("range" : Str)) && globB q n && chkE q a y
    | _ => false
  | .rng2 a b, _, x => match x with
    | .Call (.Name n _) [y, z] [] _ => nst y && nst z && decide (n = ("range" : Str)) && globB q n && chkE q a y && chkE q b z
    | _ => false
  | .zip2 a b, t, x => match x with
    | .Call (.Name n _) [y, z] [] _ => nst y && nst z && decide (n = ("zip" : Str)) && globB q n && chkE q a y && chkE q b z && isTup t
    | _ => false
  | .enum a, t, x => match x with
    | .Call (.Name n _) [y] [] _ => nst y && decide (n = ("enumerate" : Str)) && globB q n && chkE q a y && isTup t
    | _ => false
def chkT (q : Blk) : T → Expr → Bool
  | .v i, x => match x with
    | .Name n _ => storB q i n
    | _ => false
  | .tup ts, x => match x with
    | .Tuple xs _ _ => chkTs q ts xs
    | _ => false
  | .sub o i, x => match x with
    | .Subscript l r _ => noSlice r && chkE q o l && chkE q i r
    | _ => false
def chkTs (q : Blk) : Ts → List Expr → Bool
  | .nil, xs => match xs with
    | [] => true
    | _ => false
  | .cons t r, xs => match xs with
    | x :: ys => chkT q t x && chkTs q r ys
    | _ => false
end
/-- the locals of a swapped store: on one line -/
def parB (q : Blk) : List Nat → List Expr → Nat → Bool
  | [], [], _ => true
  | i :: is, .Name n p :: xs, l => decide (q.N[i]? = some n) && lclB q.sc n && (p.line == l) && parB q is xs l
  | _, _, _ => false
def isLcl (q : Blk) : Expr → Bool
  | .Name n _ => lclB q.sc n
  | _ => false
/-- no swapped store: the value is no tuple, or the names are not all locals, or more than three -/
def noSwap (q : Blk) (t x : Expr) : Bool := match t with
  | .Tuple ts _ _ => (match x with
    | .Tuple vs _ _ => decide (3 < ts.length) || decide (ts.length < 2) || vs.all (foldedForSure 8) || !(ts.all (isLcl q))
    | _ => true)
  | .List .. => false
  | _ => true
def noComp : Expr → Bool
  | .ListComp .. => false
  | .SetComp .. => false
  | .DictComp .. => false
  | _ => true
def isCompE : E → Bool
  | .lst (.comp ..) => true
  | .mk (.comp ..) => true
  | _ => false
def asgB (q : Blk) (e : E) (tg y : Expr) : Bool := match tg with
  | .Name _ _ => (match y with
    | .ListComp .. => isCompE e
    | y => noComp y)
  | .Tuple ts k p => noComp y && noSwap q (.Tuple ts k p) y
  | _ => noComp y
/-- a comprehension that is given to a name on its own line -/
def swapB (q : Blk) (n : Str) (p : Pos) (x : Expr) : Bool := match x with
  | .ListComp _ _ scope pos => lclB q.sc n && (p.line == pos.line) && !(scope.names.any fun (m, k) => m == n && (k == .local || k == .cell))
  | _ => false
mutual
def chkS (q : Blk) : St → Stmt → Bool
  | .asg t e, x => match x with
    | .Assign [tg] y _ => chkT nf q t tg && chkE nf q e y && asgB q e tg y
    | _ => false
  | .par is es, x => match x with
    | .Assign [.Tuple ts _ _] (.Tuple vs _ _) _ => (decide (ts.length = 2) || decide (ts.length = 3)) && decide (is.Nodup) && decide (is.length = ts.length) && decide (vs.length = ts.length) && noStar es &&
        parB q is ts ((ts.head?.map (·.pos.line)).getD 0) && chkEs nf q es vs && !(vs.all (foldedForSure 8)) && !(vs.all (constantsAlone 8))
    | _ => false
  | .aug i o e, x => match x with
    | .AugAssign (.Name n _) op y _ => storB q i n && visB q.sc n && chkE nf q e y && (match o, op with | .add, .Add => true | .sub, .Sub => true | _, _ => false)
    | _ => false
  | .expr e, x => match x with
    | .Expr y _ => noComp y && chkE nf q e y
    | _ => false
  | .iff c a b, x => match x with
    | .If y u v _ => chkE nf q c y && chkB q a u && chkB q b v
    | _ => false
  | .for_ t i b, x => match x with
    | .For tg iter u [] _ => chkI nf q i tg iter && noSet iter && chkT nf q t tg && chkB q b u
    | _ => false
  | .whil _ c b, x => match x with
    | .While y u [] _ => chkE nf q c y && chkB q b u
    | _ => false
  | .ret e, x => match x with
    | .Return (some y) _ => chkE nf q e y
    | _ => false
  | .retN, x => match x with
    | .Return none _ => true
    | _ => false
  | .brk, x => match x with
    | .Break _ => true
    | _ => false
  | .cont, x => match x with
    | .Continue _ => true
    | _ => false
  | .pass, x => match x with
    | .Pass _ => true
    | _ => false
  | .never, _ => true
def chkB (q : Blk) : B → List Stmt → Bool
  | .nil, xs => match xs with
    | [] => true
    | _ => false
  | .cons s r, xs => match xs with
    | x :: ys => chkS q s x && chkB q r ys
    | _ => false
end
end
end Dy
end

section
set_option Elab.async false
set_option linter.all false
set_option maxRecDepth 100000
set_option maxHeartbeats 4000000
namespace Dy
open PySem PySem.Spec PyProof.Rows L2

abbrev CF := Nat → List A → Dy.S → Res A
/-- what a def promises -/
def spF (K : PySem.W.Frag) (ca : List Addr) (cf : List A → Dy.S → Res A) (np : Nat) : Sp := fun vs H Q E => vs.length = np ∧ ∃ Z R m S as, Sim K Z R m S H ∧ Reps K R m as vs ∧
  OutE K ca E Z R m (cf as S) fun a _ R' m' H' => ∀ v, Rep K R' m' a v → Q v H'
structure Facts (nf : Info) (cs : List A) (cf : CF) (ca : List Addr) (n : Nat) (P : Program) (w : World) (K : PySem.W.Frag) (mg : Str → Option Value) (base : Heap) : Prop where
  fn : ∀ (f : Nat) (x : Str) (ps : List Str), nf.fns[f]? = some (x, ps) → ∃ (a : Addr) (fd : FuncData), mg x = some (.ref a) ∧ PySem.W.keepIn K (.ref a) = true ∧ Binds K fd ps [] ∧
    (∀ np ks pm, (f, np, ks, pm) ∈ nf.kws → pm.length = ps.length ∧ ∀ (s : Shared) (us ws : List Value), K.In s.heap → us.length = np → ws.length = ks.length → BindsTo s fd ⟨us, ks.zip ws⟩ (ps.zip (pm.map fun i => (us ++ ws).getD i .none))) ∧
    FnOk P w K mg base (L2.CX P w) n a fd ps (spF K ca (cf f) ps.length) ∧ ∀ as S, as.length ≠ ps.length → cf f as S = .bad
  gs : ∀ (j : Nat) (x : Str), nf.gs[j]? = some x → ∃ (u : Value) (v : V) (c : A), mg x = some u ∧ RelV v u ∧ cs[j]? = some c ∧ ∀ (R : Hp) (m : List Addr), Rep K R m c v
  bl : ∀ x ∈ bnames, mg x = none
  gc : nf.gcd = true → mg "gcd" = some (.builtin "math.gcd")
structure Cok (nf : Info) (cs : List A) (cf : CF) (ca : List Addr) (n : Nat) (q : Blk) (W : WX) (X : Cx) : Prop where
  N : X.N = q.N
  nd : X.N.Nodup
  sc : X.env.scope = q.sc
  kind : X.env.scope.kind = .function
  calm : X.calm = true
  fb : ∀ x, celB q.sc x = true → q.fb x = true → X.fn x = true
  tk : Takes X W
  room : Room n X.A
  tab : Facts nf cs cf ca n X.prog X.w X.K X.mg X.base

/-! ### readings -/
section
variable (K : PySem.W.Frag) (ca : List Addr) (W : WX) (cf : CF) (cs : List A)
abbrev OutW {α : Type} (σ : L2.St) (Z R : Hp) (m : List Addr) (r : Res α) (k : α → Dy.S → Hp → List Addr → Hp → Prop) : Prop := OutE K ca (fun cv d => W cv d σ) Z R m r k
/-- what stands at the entry: slots, state, heap -/
structure At (σ' : Env) (S : Dy.S) (Z R : Hp) (m : List Addr) (σ : L2.St) (H : Hp) : Prop where
  env : EnvR K R m σ' σ
  sim : Sim K Z R m S H
def tE (e : E) : TE := fun σ H Q => ∃ σ' S Z R m, At K σ' S Z R m σ H ∧ OutW K ca W σ Z R m (evE cf cs e σ' S) fun a _ R' m' H' => ∀ v, Rep K R' m' a v → Q v H'
def tT (e : E) : TT := fun σ H Q => ∃ σ' S Z R m, At K σ' S Z R m σ H ∧ OutW K ca W σ Z R m ((evE cf cs e σ' S).bind fun x s => ofO (truth s x) s) fun b _ _ _ H' => Q b H'
def tEs (es : Es) : TA := fun σ H Q => ∃ σ' S Z R m, At K σ' S Z R m σ H ∧ OutW K ca W σ Z R m (evEs cf cs es σ' S) fun a _ R' m' H' => ∀ v, Reps K R' m' a v → Q v H'
def tEo (e : Eo) : TO := fun σ H Q => ∃ σ' S Z R m, At K σ' S Z R m σ H ∧ OutW K ca W σ Z R m (evEo cf cs e σ' S) fun a _ _ _ H' => Q a H'
def tC (e : Eo) : TT := fun σ H Q => ∃ σ' S Z R m, At K σ' S Z R m σ H ∧ OutW K ca W σ Z R m (evC cf cs e σ' S) fun b _ _ _ H' => Q b H'
def tL (l : L) : TE := fun σ H Q => ∃ σ' S Z R m, At K σ' S Z R m σ H ∧ OutW K ca W σ Z R m (evL cf cs l σ' S) fun xs S' R' m' H' => ∀ p vs, H' p = some (.lst vs) → Lone R' m' S' p → Z p = none → Reps K R' m' xs vs → Q (.ref p) H'
/-- all but the slots of the targets stands -/
def Off (is : List Nat) (σ σ3 : L2.St) : Prop := σ3.length = σ.length ∧ ∀ j, j ∉ is → σ3[j]? = σ[j]?
mutual
def T.slots : T → List Nat
  | .v i => [i]
  | .tup ts => ts.slots
  | .sub _ _ => []
def Ts.slots : Ts → List Nat
  | .nil => []
  | .cons t r => t.slots ++ r.slots
end
def tG (t : T) : TG := fun v σ H Q => ∃ a σ' S Z R m, Rep K R m a v ∧ At K σ' S Z R m σ H ∧ OutW K ca W σ Z R m (asgT cf cs t a σ' S) fun σ2 _ R' m' H' => ∀ σ3, EnvR K R' m' σ2 σ3 → Off t.slots σ σ3 → Q σ3 H'
def tGs (t : Ts) : TGs := fun vs σ H Q => ∃ as σ' S Z R m, Reps K R m as vs ∧ At K σ' S Z R m σ H ∧ OutW K ca W σ Z R m (asgTs cf cs t as σ' S) fun σ2 _ R' m' H' => ∀ σ3, EnvR K R' m' σ2 σ3 → Off t.slots σ σ3 → Q σ3 H'
/-- what is walked comes as it is told -/
structure Wk (w : Walk) (R : Hp) (m : List Addr) (J : It) : Prop where
  go : ∀ (i : Nat) (a : A) (Z R' : Hp) (m' : List Addr) (S' : Dy.S) (H' : Hp), Ext R m R' m' → Sim K Z R' m' S' H' → grdB w.2 S' = true → w.1[i]? = some a → J.go i H' ∧ ∀ x H'', J.yld i H' x H'' → ∃ R'', Ext R' m' R'' m' ∧ Sim K Z R'' m' S' H'' ∧ Rep K R'' m' a x
  stop : ∀ (i : Nat) (Z R' : Hp) (m' : List Addr) (S' : Dy.S) (H' : Hp), Ext R m R' m' → Sim K Z R' m' S' H' → grdB w.2 S' = true → w.1.length ≤ i → J.stop i H'
def tI (i : I) : TI := fun σ H RR => ∃ σ' S Z R m, At K σ' S Z R m σ H ∧ OutW K ca W σ Z R m (evI cf cs i σ' S) fun w S' R' m' H' => ∀ J, Wk K w R' m' J → grdB w.2 S' = true → RR J H'
end
variable {K : PySem.W.Frag} {ca : List Addr} {W : WX} {cf : CF} {cs : List A}
theorem At.step {σ' : Env} {S S1 : Dy.S} {Z R R1 : Hp} {m m1 : List Addr} {σ : L2.St} {H H1 : Hp} (h : At K σ' S Z R m σ H) (e : Ext R m R1 m1) (s : Sim K Z R1 m1 S1 H1) : At K σ' S1 Z R1 m1 σ H1 := ⟨h.env.mono e, s⟩
section
variable {α : Type} {σ' : Env} {S : Dy.S} {Z R : Hp} {m : List Addr} {σ : L2.St} {H : Hp}
theorem intoE {e : E} {f : A → Dy.S → Res α} {k : α → Dy.S → Hp → List Addr → Hp → Prop} {Q : VK} (a : At K σ' S Z R m σ H) (h : OutW K ca W σ Z R m ((evE cf cs e σ' S).bind f) k)
    (c : ∀ x v S1 R1 m1 H1, Ext R m R1 m1 → At K σ' S1 Z R1 m1 σ H1 → Rep K R1 m1 x v → OutW K ca W σ Z R1 m1 (f x S1) k → Q v H1) : tE K ca W cf cs e σ H Q :=
  ⟨σ', S, Z, R, m, a, h.of_bind.imp fun x s R1 m1 H1 e1 s1 o v r => c x v s R1 m1 H1 e1 (a.step e1 s1) r o⟩
theorem intoT {e : E} {f : Bool → Dy.S → Res α} {k : α → Dy.S → Hp → List Addr → Hp → Prop} {Q : Bool → Hp → Prop} (a : At K σ' S Z R m σ H) (h : OutW K ca W σ Z R m (((evE cf cs e σ' S).bind fun x s => ofO (truth s x) s).bind f) k)
    (c : ∀ b S1 R1 m1 H1, Ext R m R1 m1 → At K σ' S1 Z R1 m1 σ H1 → OutW K ca W σ Z R1 m1 (f b S1) k → Q b H1) : tT K ca W cf cs e σ H Q :=
  ⟨σ', S, Z, R, m, a, h.of_bind.imp fun b s R1 m1 H1 e1 s1 o => c b s R1 m1 H1 e1 (a.step e1 s1) o⟩
theorem intoEs {e : Es} {f : List A → Dy.S → Res α} {k : α → Dy.S → Hp → List Addr → Hp → Prop} {Q : List V → Hp → Prop} (a : At K σ' S Z R m σ H) (h : OutW K ca W σ Z R m ((evEs cf cs e σ' S).bind f) k)
    (c : ∀ x v S1 R1 m1 H1, Ext R m R1 m1 → At K σ' S1 Z R1 m1 σ H1 → Reps K R1 m1 x v → OutW K ca W σ Z R1 m1 (f x S1) k → Q v H1) : tEs K ca W cf cs e σ H Q :=
  ⟨σ', S, Z, R, m, a, h.of_bind.imp fun x s R1 m1 H1 e1 s1 o v r => c x v s R1 m1 H1 e1 (a.step e1 s1) r o⟩
theorem intoEo {e : Eo} {f : Option Int → Dy.S → Res α} {k : α → Dy.S → Hp → List Addr → Hp → Prop} {Q : Option Int → Hp → Prop} (a : At K σ' S Z R m σ H) (h : OutW K ca W σ Z R m ((evEo cf cs e σ' S).bind f) k)
    (c : ∀ x S1 R1 m1 H1, Ext R m R1 m1 → At K σ' S1 Z R1 m1 σ H1 → OutW K ca W σ Z R1 m1 (f x S1) k → Q x H1) : tEo K ca W cf cs e σ H Q :=
  ⟨σ', S, Z, R, m, a, h.of_bind.imp fun x s R1 m1 H1 e1 s1 o => c x s R1 m1 H1 e1 (a.step e1 s1) o⟩
theorem intoL {e : L} {f : List A → Dy.S → Res α} {k : α → Dy.S → Hp → List Addr → Hp → Prop} {Q : VK} (a : At K σ' S Z R m σ H) (h : OutW K ca W σ Z R m ((evL cf cs e σ' S).bind f) k)
    (c : ∀ xs p vs S1 R1 m1 H1, Ext R m R1 m1 → At K σ' S1 Z R1 m1 σ H1 → H1 p = some (.lst vs) → Lone R1 m1 S1 p → Z p = none → Reps K R1 m1 xs vs → OutW K ca W σ Z R1 m1 (f xs S1) k → Q (.ref p) H1) : tL K ca W cf cs e σ H Q :=
  ⟨σ', S, Z, R, m, a, h.of_bind.imp fun x s R1 m1 H1 e1 s1 o p vs hp hl hz r => c x p vs s R1 m1 H1 e1 (a.step e1 s1) hp hl hz r o⟩
end
/-- the associativity of steps -/
theorem bind_assoc {α β γ : Type} (r : Res α) (f : α → Dy.S → Res β) (g : β → Dy.S → Res γ) : (r.bind f).bind g = r.bind fun a s => (f a s).bind g := by
  cases r <;> rfl
theorem peMono {X : Cx} {x : Expr} {t t' : TE} (h : PE X x t) (q : ∀ σ H Q, t' σ H Q → t σ H Q) : PE X x t' := ⟨fun pins s σ H Q I hw => h.run pins s σ H Q I (q σ H Q hw)⟩
theorem ptMono {X : Cx} {x : Expr} {t t' : TT} (h : PT X x t) (q : ∀ σ H Q, t' σ H Q → t σ H Q) : PT X x t' := ⟨fun pins s σ H Q I hw => h.run pins s σ H Q I (q σ H Q hw)⟩
theorem pwMono {X : Cx} {x : Expr} {t t' : TT} (h : PW X x t) (q : ∀ σ H Q, t' σ H Q → t σ H Q) : PW X x t' := ⟨fun wh pins s σ H Q I hw => h.run wh pins s σ H Q I (q σ H Q hw)⟩
theorem paMono {X : Cx} {x : List Expr} {t t' : TA} (h : PA X x t) (q : ∀ σ H Q, t' σ H Q → t σ H Q) : PA X x t' := ⟨fun pos pins s σ H Q I hw => h.run pos pins s σ H Q I (q σ H Q hw)⟩
theorem poMono {X : Cx} {x : Option Expr} {t t' : TO} (h : PO X x t) (q : ∀ σ H Q, t' σ H Q → t σ H Q) : PO X x t' := ⟨fun pins s σ H Q I hw => h.run pins s σ H Q I (q σ H Q hw)⟩

/-! ### what is shown of an expression -/
/-- its test is its value's truth -/
def Plain (X : Cx) (x : Expr) : Prop := ∀ whole, isTrue x X.env whole = (do let v ← whole; standAt x.pos; holding [v] (truthy v))
structure Snd (nf : Info) (cs : List A) (cf : CF) (ca : List Addr) (W : WX) (X : Cx) (e : E) (x : Expr) : Prop where
  pe : PE X x (tE X.K ca W cf cs e)
  pt : PT X x (tT X.K ca W cf cs e)
  pw : ∀ op es p, x = .BoolOp op es p → PW X x (tT X.K ca W cf cs e)
section
variable {nf : Info} {n : Nat} {q : Blk} {X : Cx}
theorem ptPlain {e : E} {x : Expr} (h : PE X x (tE X.K ca W cf cs e)) (p : Plain X x) : PT X x (tT X.K ca W cf cs e) := by
  refine ptMono (pt_truth h p) fun σ H Q ⟨σ', S, Z, R, m, a, o⟩ => ?_
  refine intoE a o fun x v S1 R1 m1 H1 e1 a1 r o1 => ?_
  obtain ⟨k, hk, o2⟩ := o1.ofO'
  exact ⟨k, tru_at a1.sim r hk, o2.fin a1.sim⟩
theorem Snd.of {e : E} {x : Expr} (h : PE X x (tE X.K ca W cf cs e)) (p : Plain X x) (hb : ∀ op es p, x ≠ .BoolOp op es p) : Snd nf cs cf ca W X e x :=
  ⟨h, ptPlain h p, fun op es p z => absurd z (hb op es p)⟩
theorem visOf {sc : Scope} {x : Str} (h : visB sc x = true) : Vis sc x := by
  unfold visB at h
  split at h
  · exact .inl ‹_›
  · exact .inr (.inl ‹_›)
  · exact .inr (.inr ‹_›)
  · cases h
theorem gloOf {sc : Scope} {x : Str} (h : gloB sc x = true) : sc.names.lookup x = some .globalImplicit := by
  unfold gloB at h
  split at h
  · assumption
  · cases h
theorem lclOf {sc : Scope} {x : Str} (h : lclB sc x = true) : sc.names.lookup x = some .local := by
  unfold lclB at h
  split at h
  · assumption
  · cases h
theorem celOf {sc : Scope} {x : Str} (h : celB sc x = true) : sc.names.lookup x = some .cell := by
  unfold celB at h
  split at h
  · assumption
  · cases h
theorem okN1 {x : Str} (h : okN x = true) : (x == ("__debug__" : Str)) = false ∧ (x == ("__classdict__" : Str)) = false ∧ x ≠ ("__name__" : Str) := by
  unfold okN at h
  rw [Bool.and_eq_true, Bool.and_eq_true] at h
  exact ⟨by simpa using h.1.1, by simpa using h.1.2, of_decide_eq_true h.2⟩
variable (C : Cok nf cs cf ca n q W X)
include C
theorem Cok.glo {x : Str} (h : globB q x = true) : Gl X x ∧ (x == ("__debug__" : Str)) = false ∧ x ≠ ("__name__" : Str) := by
  unfold globB at h
  rw [Bool.and_eq_true] at h
  have h2 := okN1 h.2
  refine ⟨?_, h2.1, h2.2.2⟩
  show X.env.scope.names.lookup x = _
  rw [C.sc]
  exact gloOf h.1
theorem s_c {a : A} {x : Expr} (h : chkE nf q (.c a) x = true) : Snd nf cs cf ca W X (.c a) x := by
  have fin : ∀ {v : V} {x : Expr}, PE X x (L2.tC v) → (∀ R m, Rep X.K R m a v) → PE X x (tE X.K ca W cf cs (.c a)) := fun hp hr =>
    peMono hp fun σ H Q ⟨σ', S, Z, R, m, ha, o⟩ => o.fin ha.sim _ (hr R m)
  unfold chkE at h
  split at h <;> first
    | (have e := of_decide_eq_true h; subst e
       first
       | exact Snd.of (fin pe_int fun _ _ => .int _) (fun _ => rfl) (fun _ _ _ z => nomatch z)
       | exact Snd.of (fin pe_bl fun _ _ => .bl _) (fun _ => rfl) (fun _ _ _ z => nomatch z)
       | exact Snd.of (fin pe_str fun _ _ => .str _) (fun _ => rfl) (fun _ _ _ z => nomatch z))
    | exact Snd.of (fin pe_non fun _ _ => .non) (fun _ => rfl) (fun _ _ _ z => nomatch z)
    | cases h
theorem s_v {i : Nat} {x : Expr} (h : chkE nf q (.v i) x = true) : Snd nf cs cf ca W X (.v i) x := by
  unfold chkE at h
  split at h
  · unfold slotB at h
    rw [Bool.and_eq_true, Bool.and_eq_true] at h
    have h2 := okN1 h.2
    refine Snd.of ?_ (fun _ => rfl) (fun _ _ _ z => nomatch z)
    refine peMono (pe_var (i := i) (by rw [C.N]; exact of_decide_eq_true h.1.1) (by rw [C.sc]; exact visOf h.1.2) h2.1 h2.2.1) fun σ H Q ⟨σ', S, Z, R, m, ha, o⟩ => ?_
    unfold evE at o
    cases g : σ'[i]? with
    | none =>
      rw [g] at o
      exact False.elim o
    | some b =>
      cases b with
      | none =>
        rw [g] at o
        exact False.elim o
      | some a =>
        rw [g] at o
        obtain ⟨v, h1, h2⟩ := ha.env.get i a g
        exact ⟨v, h1, o.fin ha.sim v h2⟩
  · cases h
theorem s_g {j : Nat} {x : Expr} (h : chkE nf q (.g j) x = true) : Snd nf cs cf ca W X (.g j) x := by
  unfold chkE at h
  split at h
  · rw [Bool.and_eq_true] at h
    obtain ⟨h1, h2, h3⟩ := C.glo h.2
    obtain ⟨u, v, c, g1, g2, g3, g4⟩ := C.tab.gs j _ (of_decide_eq_true h.1)
    refine Snd.of ?_ (fun _ => rfl) (fun _ _ _ z => nomatch z)
    refine peMono (pe_glob h1 g1 g2 h2) fun σ H Q ⟨σ', S, Z, R, m, ha, o⟩ => ?_
    unfold evE at o
    rw [g3] at o
    exact o.fin ha.sim v (g4 R m)
  · cases h
omit C in
theorem opB_eq {o : BOp} {op : Operator} (h : opB o op = true) : op = opOf o := by
  unfold opB at h
  split at h <;> first | rfl | cases h
omit C in
theorem cmpB_eq {o : COp} {op : CmpOp} (h : cmpB o op = true) : op = cmpOf o := by
  unfold cmpB at h
  split at h <;> first | rfl | cases h
omit C in
theorem s_bin {o : BOp} {a b : E} {l r : Expr} {p : Pos} (pa : PE X l (tE X.K ca W cf cs a)) (pb : PE X r (tE X.K ca W cf cs b)) : PE X (.BinOp l (opOf o) r p) (tE X.K ca W cf cs (.bin o a b)) := by
  refine peMono (pe_op (or_bin o) pa pb) fun σ H Q ⟨σ', S, Z, R, m, ha, h⟩ => ?_
  refine intoE ha h fun x v S1 R1 m1 H1 e1 a1 r1 h1 => ?_
  refine intoE a1 h1 fun y u S2 R2 m2 H2 e2 a2 r2 h2 => ?_
  obtain ⟨c, hc, h3⟩ := h2.ofO'
  exact ⟨Z, R2, m2, S2, x, y, c, a2.sim, r1.mono e2, r2, hc, fun v R' m' H' e s r => h3 R' m' H' e s v r⟩
omit C in
theorem s_neg {a : E} {l : Expr} {p : Pos} (pa : PE X l (tE X.K ca W cf cs a)) : PE X (.UnaryOp .USub l p) (tE X.K ca W cf cs (.neg a)) := by
  refine peMono (pe_un or_neg pa) fun σ H Q ⟨σ', S, Z, R, m, ha, h⟩ => ?_
  refine intoE ha h fun x v S1 R1 m1 H1 e1 a1 r1 h1 => ?_
  cases x with
  | int i => exact ⟨Z, R1, m1, S1, i, a1.sim, r1, fun v R' m' H' e s r => h1 R' m' H' e s v r⟩
  | _ => exact False.elim h1
omit C in
theorem s_not {a : E} {l : Expr} {p : Pos} (pa : PE X l (tE X.K ca W cf cs a)) (pt : PT X l (tT X.K ca W cf cs a)) : Snd nf cs cf ca W X (.not a) (.UnaryOp .Not l p) := by
  have he : PE X (.UnaryOp .Not l p) (tE X.K ca W cf cs (.not a)) := by
    refine peMono (pe_notT pa) fun σ H Q ⟨σ', S, Z, R, m, ha, h⟩ => ?_
    refine intoE ha h fun x v S1 R1 m1 H1 e1 a1 r1 h1 => ?_
    obtain ⟨k, hk, h2⟩ := h1.ofO
    exact ⟨k, tru_at a1.sim r1 hk, h2.fin a1.sim _ (.bl _)⟩
  refine ⟨he, ?_, fun _ _ _ z => nomatch z⟩
  refine ptMono (pt_not pt) fun σ H Q ⟨σ', S, Z, R, m, ha, h⟩ => ?_
  refine intoT (f := fun k s2 => Res.ok (!k) s2) ha (k := fun b _ _ _ H' => Q b H') ?_ fun b S1 R1 m1 H1 e1 a1 h1 => h1.fin a1.sim
  have eq : ((evE cf cs (.not a) σ' S).bind fun x s => ofO (truth s x) s) = (((evE cf cs a σ' S).bind fun x s => ofO (truth s x) s).bind fun k s2 => Res.ok (!k) s2) := by
    rw [bind_assoc]
    show (((evE cf cs a σ' S).bind fun x s1 => (ofO (truth s1 x) s1).bind fun b s2 => Res.ok (A.bl (!b)) s2).bind _) = _
    rw [bind_assoc]
    congr 1
    funext x s
    cases truth s x <;> rfl
  rw [eq] at h
  exact h
end
/-- a if c else b as a test -/
theorem pt_ifT {X : Cx} {c a b : Expr} {p : Pos} {tc ta tb : TT} (hc : PT X c tc) (ha : PT X a ta) (hb : PT X b tb) : PT X (.IfExp c a b p) (fun σ H Q => tc σ H fun k H1 => if k = true then ta σ H1 Q else tb σ H1 Q) := by
  refine ⟨fun pins s σ H Q I h => ?_⟩
  show wpAny _ _ (isTrue c X.env (eval c X.env) >>= fun k => if k = true then isTrue a X.env (eval a X.env) else isTrue b X.env (eval b X.env)) _ _ s
  refine wpAny_bind (thn (hc.run pins s σ H _ I h) fun k s1 ⟨H1, I1, q1⟩ => ?_)
  cases k with
  | true => exact ha.run pins s1 σ H1 Q I1 q1
  | false => exact hb.run pins s1 σ H1 Q I1 q1
end Dy
end

section
set_option Elab.async false
set_option linter.all false
set_option maxRecDepth 100000
set_option maxHeartbeats 4000000
namespace Dy
open PySem PySem.Spec PyProof.Rows L2

/-! ### the forms that the rules ask -/
theorem nst_one {x : Expr} {xs : List Expr} (h : nst x = true) (env : PySem.Env) : starEach (x :: xs) env = (false, eval x env) :: starEach xs env := by
  cases x <;> first | rfl | cases h
theorem backTo_any (p : Pos) (l : List (Bool × Sem Value)) : (backTo p l).any (·.1) = l.any (·.1) := by
  induction l with
  | nil => rfl
  | cons a r ih =>
    show (a.1 || (backTo p r).any (·.1)) = (a.1 || r.any (·.1))
    rw [ih]
theorem backTo_all (p : Pos) (l : List (Bool × Sem Value)) : (backTo p l).all (fun x => !x.1) = l.all (fun x => !x.1) := by
  induction l with
  | nil => rfl
  | cons a r ih =>
    show (!a.1 && (backTo p r).all (fun x => !x.1)) = (!a.1 && r.all (fun x => !x.1))
    rw [ih]
theorem chkEs_any {nf : Info} {q : Blk} : ∀ {es : Es} {xs : List Expr}, chkEs nf q es xs = true → noStar es = true → ∀ env, (starEach xs env).any (·.1) = false
  | .nil, xs, h, _, env => by
    unfold chkEs at h
    split at h
    · rfl
    · cases h
  | .cons e r, xs, h, g, env => by
    unfold chkEs at h
    split at h
    · rw [Bool.and_eq_true, Bool.and_eq_true] at h
      rw [nst_one h.1.1]
      exact chkEs_any (es := r) h.2 g env
    · cases h
  | .star e r, _, _, g, _ => by cases g
theorem noSet_mark {r : Expr} (h : noSet r = true) (op : CmpOp) : behindInMarks op r = false := by
  cases r <;> first | rfl | cases h
theorem noSet_last {r : Expr} (h : noSet r = true) (op op' : CmpOp) (b : Expr) : lastMarks [op, op'] [b, r] = false := by
  show behindInMarks op' r = false
  exact noSet_mark h op'
theorem noSlice_ix {r : Expr} (h : noSlice r = true) : PlainIx r := by
  intro o i
  cases r <;> first | rfl | cases h
theorem noSet_fold {r : Expr} (h : noSet r = true) (env : PySem.Env) : ∀ x, foldedSetIterable r env x = pure x := by
  intro x
  cases r <;> first | rfl | cases h
theorem noCall_base {l : Expr} (h : noCall l = true) (a : Str) (env : PySem.Env) : attributeBase l a env (eval l env) = eval l env := by
  cases l <;> first | rfl | cases h
section
variable {K : PySem.W.Frag} {ca : List Addr} {W : WX} {cf : CF} {cs : List A} {nf : Info} {n : Nat} {q : Blk} {X : Cx}
/-! ### comparisons -/
def Bl (r : Res A) : Prop := ∀ a s, r = .ok a s → ∃ k, a = .bl k
theorem Bl.bind {α : Type} {r : Res α} {f : α → Dy.S → Res A} (h : ∀ x s, Bl (f x s)) : Bl (r.bind f) := by
  cases r with
  | ok a s => exact h a s
  | exc x s => exact fun a s e => by cases e
  | bad => exact fun a s e => by cases e
theorem Bl.ok {k : Bool} {s : Dy.S} : Bl (.ok (.bl k) s) := fun a s e => by
  cases e
  exact ⟨k, rfl⟩
theorem toTest {e : E} {σ : L2.St} {H : Hp} {Q : Bool → Hp → Prop} (hb : ∀ σ' S, Bl (evE cf cs e σ' S)) (h : tT K ca W cf cs e σ H Q) : tE K ca W cf cs e σ H fun x H' => ∃ k, x = .bl k ∧ Q k H' := by
  obtain ⟨σ', S, Z, R, m, a, o⟩ := h
  refine ⟨σ', S, Z, R, m, a, ?_⟩
  have hb' := hb σ' S
  revert o hb'
  cases evE cf cs e σ' S with
  | ok x s =>
    intro o hb'
    obtain ⟨k, rfl⟩ := hb' x s rfl
    intro R' m' H' e' s' v r
    cases r
    exact ⟨k, rfl, o R' m' H' e' s'⟩
  | exc x s => exact fun o _ => o
  | bad => exact fun o _ => o
theorem bl_cmp {o : COp} {a b : E} (σ' : Env) (S : Dy.S) : Bl (evE cf cs (.cmp o a b) σ' S) := Bl.bind fun _ _ => Bl.bind fun _ _ => Bl.bind fun _ _ => Bl.ok
theorem bl_chain {o o' : COp} {a b c : E} (σ' : Env) (S : Dy.S) : Bl (evE cf cs (.chain o o' a b c) σ' S) := Bl.bind fun _ _ => Bl.bind fun _ _ => Bl.bind fun k _ => by
  cases k with
  | true => exact Bl.bind fun _ _ => Bl.bind fun _ _ => Bl.ok
  | false => exact Bl.ok
theorem red_cmp {o : COp} {a b : E} {σ : L2.St} {H : Hp} {Q : VK} (h : tE K ca W cf cs (.cmp o a b) σ H Q) :
    tOp (rV2 K fun S a b => (cmpV S o a b).map .bl) (tE K ca W cf cs a) (tE K ca W cf cs b) σ H Q := by
  obtain ⟨σ', S, Z, R, m, ha, h⟩ := h
  refine intoE ha h fun x v S1 R1 m1 H1 e1 a1 r1 h1 => ?_
  refine intoE a1 h1 fun y u S2 R2 m2 H2 e2 a2 r2 h2 => ?_
  obtain ⟨c, hc, h3⟩ := h2.ofO
  exact ⟨Z, R2, m2, S2, x, y, .bl c, a2.sim, r1.mono e2, r2, congrArg (Option.map A.bl) hc, fun v R' m' H' e s r => h3 R' m' H' e s v r⟩
theorem s_cmp {o : COp} {a b : E} {l r : Expr} {p : Pos} (C : Cok nf cs cf ca n q W X) (pa : PE X l (tE X.K ca W cf cs a)) (pb : PE X r (tE X.K ca W cf cs b)) (hs : noSet r = true) :
    Snd nf cs cf ca W X (.cmp o a b) (.Compare l [cmpOf o] [r] p) :=
  ⟨peMono (pe_cmpR (or_cmp C.room o) pa pb (noSet_mark hs _)) fun _ _ _ h => red_cmp h,
   ptMono (pt_cmpR (or_cmp C.room o) pa pb (noSet_mark hs _)) fun _ _ _ h => red_cmp (toTest bl_cmp h), fun _ _ _ z => nomatch z⟩
theorem red_chain {o o' : COp} {a b c : E} {σ : L2.St} {H : Hp} {Q : VK} (h : tE K ca W cf cs (.chain o o' a b c) σ H Q) :
    tChain (rV2 K fun S a b => (cmpV S o a b).map .bl) (rV2 K fun S a b => (cmpV S o' a b).map .bl) (tE K ca W cf cs a) (tE K ca W cf cs b) (tE K ca W cf cs c) σ H Q := by
  obtain ⟨σ', S, Z, R, m, ha, h⟩ := h
  refine intoE ha h fun x v S1 R1 m1 H1 e1 a1 r1 h1 => ?_
  refine intoE a1 h1 fun y u S2 R2 m2 H2 e2 a2 r2 h2 => ?_
  obtain ⟨c, hc, h3⟩ := h2.ofO
  refine ⟨Z, R2, m2, S2, x, y, .bl c, a2.sim, r1.mono e2, r2, congrArg (Option.map A.bl) hc, fun v R3 m3 H3 e3 s3 r3 => ?_⟩
  cases r3
  refine ⟨c, rfl, ?_⟩
  cases c with
  | true =>
    rw [if_pos rfl] at h3
    refine iteT (intoE (a2.step e3 s3) (h3.mono e3) fun z w S4 R4 m4 H4 e4 a4 r4 h4 => ?_)
    obtain ⟨c', hc', h5⟩ := h4.ofO
    exact ⟨Z, R4, m4, S4, y, z, .bl c', a4.sim, (r2.mono e3).mono e4, r4, congrArg (Option.map A.bl) hc', fun v R' m' H' e s r => h5 R' m' H' e s v r⟩
  | false =>
    rw [if_neg Bool.false_ne_true] at h3
    exact iteF (h3 R3 m3 H3 e3 s3 _ (.bl _))
theorem s_chain {o o' : COp} {a b c : E} {l m r : Expr} {p : Pos} (C : Cok nf cs cf ca n q W X) (pa : PE X l (tE X.K ca W cf cs a)) (pb : PE X m (tE X.K ca W cf cs b)) (pc : PE X r (tE X.K ca W cf cs c)) (hs : noSet r = true) :
    Snd nf cs cf ca W X (.chain o o' a b c) (.Compare l [cmpOf o, cmpOf o'] [m, r] p) :=
  ⟨peMono (pe_chain (or_cmp C.room o) (or_cmp C.room o') pa pb pc (noSet_last hs _ _ _)) fun _ _ _ h => red_chain h,
   ptMono (pt_chain (or_cmp C.room o) (or_cmp C.room o') pa pb pc (noSet_last hs _ _ _)) fun _ _ _ h => red_chain (toTest bl_chain h), fun _ _ _ z => nomatch z⟩
/-! ### and, or, if -/
theorem red_and {a b : E} {σ : L2.St} {H : Hp} {Q : VK} (h : tE K ca W cf cs (.and2 a b) σ H Q) : tAndT K (tE K ca W cf cs a) (tE K ca W cf cs b) σ H Q := by
  obtain ⟨σ', S, Z, R, m, ha, h⟩ := h
  refine intoE ha h fun x v S1 R1 m1 H1 e1 a1 r1 h1 => ?_
  obtain ⟨k, hk, h2⟩ := h1.ofO
  refine ⟨k, tru_at a1.sim r1 hk, ?_⟩
  cases k with
  | true => exact iteT ⟨σ', S1, Z, R1, m1, a1, h2⟩
  | false => exact iteF (OutE.fin (h2 : OutW K ca W σ Z R1 m1 (.ok x S1) _) a1.sim v r1)
theorem red_or {a b : E} {σ : L2.St} {H : Hp} {Q : VK} (h : tE K ca W cf cs (.or2 a b) σ H Q) : tOrT K (tE K ca W cf cs a) (tE K ca W cf cs b) σ H Q := by
  obtain ⟨σ', S, Z, R, m, ha, h⟩ := h
  refine intoE ha h fun x v S1 R1 m1 H1 e1 a1 r1 h1 => ?_
  obtain ⟨k, hk, h2⟩ := h1.ofO
  refine ⟨k, tru_at a1.sim r1 hk, ?_⟩
  cases k with
  | true => exact iteT (OutE.fin (h2 : OutW K ca W σ Z R1 m1 (.ok x S1) _) a1.sim v r1)
  | false => exact iteF ⟨σ', S1, Z, R1, m1, a1, h2⟩
theorem eq_and (a b : E) (σ' : Env) (S : Dy.S) : ((evE cf cs (.and2 a b) σ' S).bind fun x s => ofO (truth s x) s) =
    (((evE cf cs a σ' S).bind fun x s => ofO (truth s x) s).bind fun k s2 => if k then (evE cf cs b σ' s2).bind fun x s => ofO (truth s x) s else .ok false s2) := by
  show (((evE cf cs a σ' S).bind fun x s1 => (ofO (truth s1 x) s1).bind fun k s2 => if k then evE cf cs b σ' s2 else .ok x s2).bind _) = _
  rw [bind_assoc, bind_assoc]
  congr 1
  funext x s
  cases h : truth s x with
  | none => rfl
  | some k =>
    cases k with
    | true => rfl
    | false =>
      show ofO (truth s x) s = _
      rw [h] <;> rfl
theorem eq_or (a b : E) (σ' : Env) (S : Dy.S) : ((evE cf cs (.or2 a b) σ' S).bind fun x s => ofO (truth s x) s) =
    (((evE cf cs a σ' S).bind fun x s => ofO (truth s x) s).bind fun k s2 => if k then .ok true s2 else (evE cf cs b σ' s2).bind fun x s => ofO (truth s x) s) := by
  show (((evE cf cs a σ' S).bind fun x s1 => (ofO (truth s1 x) s1).bind fun k s2 => if k then .ok x s2 else evE cf cs b σ' s2).bind _) = _
  rw [bind_assoc, bind_assoc]
  congr 1
  funext x s
  cases h : truth s x with
  | none => rfl
  | some k =>
    cases k with
    | false => rfl
    | true =>
      show ofO (truth s x) s = _
      rw [h] <;> rfl
theorem red_andT {a b : E} {σ : L2.St} {H : Hp} {Q : Bool → Hp → Prop} (h : tT K ca W cf cs (.and2 a b) σ H Q) : tAnd (tT K ca W cf cs a) (tT K ca W cf cs b) σ H Q := by
  obtain ⟨σ', S, Z, R, m, ha, h⟩ := h
  rw [eq_and] at h
  refine intoT ha h fun k S1 R1 m1 H1 e1 a1 h1 => ?_
  cases k with
  | true => exact iteT ⟨σ', S1, Z, R1, m1, a1, h1⟩
  | false => exact iteF (OutE.fin (h1 : OutW K ca W σ Z R1 m1 (.ok false S1) _) a1.sim)
theorem red_orT {a b : E} {σ : L2.St} {H : Hp} {Q : Bool → Hp → Prop} (h : tT K ca W cf cs (.or2 a b) σ H Q) : tOr (tT K ca W cf cs a) (tT K ca W cf cs b) σ H Q := by
  obtain ⟨σ', S, Z, R, m, ha, h⟩ := h
  rw [eq_or] at h
  refine intoT ha h fun k S1 R1 m1 H1 e1 a1 h1 => ?_
  cases k with
  | true => exact iteT (OutE.fin (h1 : OutW K ca W σ Z R1 m1 (.ok true S1) _) a1.sim)
  | false => exact iteF ⟨σ', S1, Z, R1, m1, a1, h1⟩
theorem s_and {a b : E} {l r : Expr} {rest : List Expr} {p : Pos} (sa : Snd nf cs cf ca W X a l) (pb : PE X (.BoolOp .And (r :: rest) p) (tE X.K ca W cf cs b)) (wb : PW X (.BoolOp .And (r :: rest) p) (tT X.K ca W cf cs b)) :
    Snd nf cs cf ca W X (.and2 a b) (.BoolOp .And (l :: r :: rest) p) := by
  have w := pwMono (pw_and sa.pt wb) fun _ _ _ h => red_andT h
  exact ⟨peMono (pe_andT sa.pe pb) fun _ _ _ h => red_and h, w.pt, fun op es p' z => by cases z; exact w⟩
theorem s_or {a b : E} {l r : Expr} {rest : List Expr} {p : Pos} (sa : Snd nf cs cf ca W X a l) (pb : PE X (.BoolOp .Or (r :: rest) p) (tE X.K ca W cf cs b)) (wb : PW X (.BoolOp .Or (r :: rest) p) (tT X.K ca W cf cs b)) :
    Snd nf cs cf ca W X (.or2 a b) (.BoolOp .Or (l :: r :: rest) p) := by
  have w := pwMono (pw_or sa.pt wb) fun _ _ _ h => red_orT h
  exact ⟨peMono (pe_orT sa.pe pb) fun _ _ _ h => red_or h, w.pt, fun op es p' z => by cases z; exact w⟩
theorem red_ite {c a b : E} {σ : L2.St} {H : Hp} {Q : VK} (h : tE K ca W cf cs (.ite c a b) σ H Q) : tIf (tT K ca W cf cs c) (tE K ca W cf cs a) (tE K ca W cf cs b) σ H Q := by
  obtain ⟨σ', S, Z, R, m, ha, h⟩ := h
  have h : OutW K ca W σ Z R m ((evE cf cs c σ' S).bind fun x s1 => (ofO (truth s1 x) s1).bind fun k s2 => if k then evE cf cs a σ' s2 else evE cf cs b σ' s2) _ := h
  rw [← bind_assoc] at h
  refine intoT ha h fun k S1 R1 m1 H1 e1 a1 h1 => ?_
  cases k with
  | true => exact iteT ⟨σ', S1, Z, R1, m1, a1, h1⟩
  | false => exact iteF ⟨σ', S1, Z, R1, m1, a1, h1⟩
theorem red_iteT {c a b : E} {σ : L2.St} {H : Hp} {Q : Bool → Hp → Prop} (h : tT K ca W cf cs (.ite c a b) σ H Q) : tT K ca W cf cs c σ H fun k H1 => if k = true then tT K ca W cf cs a σ H1 Q else tT K ca W cf cs b σ H1 Q := by
  obtain ⟨σ', S, Z, R, m, ha, h⟩ := h
  have h : OutW K ca W σ Z R m (((evE cf cs c σ' S).bind fun x s1 => (ofO (truth s1 x) s1).bind fun k s2 => if k then evE cf cs a σ' s2 else evE cf cs b σ' s2).bind fun x s => ofO (truth s x) s) _ := h
  rw [← bind_assoc, bind_assoc] at h
  refine intoT ha h fun k S1 R1 m1 H1 e1 a1 h1 => ?_
  cases k with
  | true => exact iteT ⟨σ', S1, Z, R1, m1, a1, h1⟩
  | false => exact iteF ⟨σ', S1, Z, R1, m1, a1, h1⟩
theorem s_ite {c a b : E} {l m r : Expr} {p : Pos} (sc : Snd nf cs cf ca W X c l) (sa : Snd nf cs cf ca W X a m) (sb : Snd nf cs cf ca W X b r) : Snd nf cs cf ca W X (.ite c a b) (.IfExp l m r p) :=
  ⟨peMono (pe_ifExp sc.pt sa.pe sb.pe) fun _ _ _ h => red_ite h, ptMono (pt_ifT sc.pt sa.pt sb.pt) fun _ _ _ h => red_iteT h, fun _ _ _ z => nomatch z⟩
/-! ### tuples, new lists, places -/
theorem s_tup {es : Es} {xs : List Expr} {k : Nat} {p : Pos} (pa : PA X xs (tEs X.K ca W cf cs es)) : PE X (.Tuple xs k p) (tE X.K ca W cf cs (.tup es)) := by
  refine peMono (pe_tup pa) fun σ H Q ⟨σ', S, Z, R, m, ha, h⟩ => ?_
  refine intoEs ha h fun ys vs S1 R1 m1 H1 e1 a1 r1 h1 => ?_
  by_cases g : ys.length ≤ sizeLine
  · rw [if_pos g] at h1
    rw [← r1.length] at g
    refine ⟨g, fun p hp => ?_⟩
    exact h1 _ _ _ (Ext.upd (a1.sim.free hp)) (a1.sim.new hp) _ (.tup (.inl (.inl upd_same)) (r1.mono (Ext.upd (a1.sim.free hp))))
  · rw [if_neg g] at h1
    exact False.elim h1
theorem red_lst {l : L} {σ : L2.St} {H : Hp} {Q : VK} (h : tE K ca W cf cs (.lst l) σ H Q) : tL K ca W cf cs l σ H Q := by
  obtain ⟨σ', S, Z, R, m, ha, h⟩ := h
  refine intoL ha h fun xs p vs S1 R1 m1 H1 e1 a1 hp hl hz r1 h1 => ?_
  exact h1 _ _ _ (Ext.upd hl.1) (a1.sim.ice hl hz hp) _ (.lst upd_same (r1.mono (Ext.upd hl.1)))
theorem red_mk {l : L} {σ : L2.St} {H : Hp} {Q : VK} (h : tE K ca W cf cs (.mk l) σ H Q) : tL K ca W cf cs l σ H Q := by
  obtain ⟨σ', S, Z, R, m, ha, h⟩ := h
  refine intoL ha h fun xs p vs S1 R1 m1 H1 e1 a1 hp hl hz r1 h1 => ?_
  refine h1 _ _ _ Ext.app1 (a1.sim.cellOf hl hz hp r1) _ (.cell ?_)
  rw [← a1.sim.len]
  simp
theorem red_frz {e : E} {σ : L2.St} {H : Hp} {Q : VK} (h : tE K ca W cf cs (.frz e) σ H Q) : tE K ca W cf cs e σ H Q := by
  obtain ⟨σ', S, Z, R, m, ha, h⟩ := h
  refine intoE ha h fun x v S1 R1 m1 H1 e1 a1 r1 h1 => ?_
  cases x with
  | cell j =>
    obtain ⟨xs, hx, h2⟩ := h1.ofO
    obtain ⟨p, vs, rfl, g1, g2, g3, g4⟩ := cell_at a1.sim r1 hx
    obtain ⟨_, _, _, g5⟩ := a1.sim.cell j xs p g2 g1
    exact h2 _ _ _ (Ext.upd g5) (a1.sim.freeze g2 g1 g3) _ (.lst upd_same (g4.mono (Ext.upd g5)))
  | _ => exact False.elim h1
theorem s_idx {a b : E} {l r : Expr} {p : Pos} (pa : PE X l (tE X.K ca W cf cs a)) (pb : PE X r (tE X.K ca W cf cs b)) (hs : noSlice r = true) : PE X (.Subscript l r p) (tE X.K ca W cf cs (.idx a b)) := by
  refine peMono (pe_ix or_idx pa pb (noSlice_ix hs)) fun σ H Q ⟨σ', S, Z, R, m, ha, h⟩ => ?_
  refine intoE ha h fun x v S1 R1 m1 H1 e1 a1 r1 h1 => ?_
  refine intoE a1 h1 fun y u S2 R2 m2 H2 e2 a2 r2 h2 => ?_
  obtain ⟨c, hc, h3⟩ := h2.ofO'
  exact ⟨Z, R2, m2, S2, x, y, c, a2.sim, r1.mono e2, r2, hc, fun v R' m' H' e s r => h3 R' m' H' e s v r⟩
theorem s_slice {a : E} {lo hi : Eo} {l : Expr} {u v : Option Expr} {p p2 : Pos} (pa : PE X l (tE X.K ca W cf cs a)) (pl : PO X u (tEo X.K ca W cf cs lo)) (ph : PO X v (tEo X.K ca W cf cs hi)) :
    PE X (.Subscript l (.Slice u v none p2) p) (tE X.K ca W cf cs (.slice a lo hi)) := by
  refine peMono (pe_slice or_slice pa pl ph) fun σ H Q ⟨σ', S, Z, R, m, ha, h⟩ => ?_
  refine intoE ha h fun x v S1 R1 m1 H1 e1 a1 r1 h1 => ?_
  refine intoEo a1 h1 fun y S2 R2 m2 H2 e2 a2 h2 => ?_
  refine intoEo a2 h2 fun z S3 R3 m3 H3 e3 a3 h3 => ?_
  obtain ⟨c, hc, h4⟩ := h3.ofO'
  exact ⟨Z, R3, m3, S3, x, c, a3.sim, (r1.mono e2).mono e3, hc, fun v R' m' H' e s r => h4 R' m' H' e s v r⟩
/-! ### calls -/
theorem s_call {f : Nat} {es : Es} {x : Str} {y : Expr} {ys : List Expr} {p p2 : Pos} {nm : Str} (C : Cok nf cs cf ca n q W X) (hf : (nf.fns[f]?).map (·.1) = some nm) (hg : globB q nm = true) (hn : noStar es = true)
    (hc : chkEs nf q es (y :: ys) = true) (pa : PA X (y :: ys) (tEs X.K ca W cf cs es)) : PE X (.Call (.Name nm p) (y :: ys) [] p2) (tE X.K ca W cf cs (.call f es)) := by
  obtain ⟨g1, g2, g3⟩ := C.glo hg
  obtain ⟨⟨nm', ps⟩, e1, e2⟩ := omap hf
  have e2 : nm' = nm := e2
  subst e2
  obtain ⟨a, fd, m1, m2, m3, m4, m5, m6⟩ := C.tab.fn f _ ps e1
  have hy : nst y = true := by
    cases es with
    | nil => exact absurd hc (by simp [chkEs])
    | cons e r =>
      have h' : (nst y && chkE nf q e y && chkEs nf q r ys) = true := hc
      rw [Bool.and_eq_true, Bool.and_eq_true] at h'
      exact h'.1.1
    | star e r => cases hn
  have hany := chkEs_any hc hn X.env
  rw [nst_one hy] at hany
  refine peMono (pe_callSD (E := WE W) (dvs := []) m5 C.room g1 m1 m2 m3 .nil (fun σ => passAt C.tk σ) pa g2 (nst_one hy _) (by rw [backTo_any]; exact hany)) fun σ H Q ⟨σ', S, Z, R, m, ha, h⟩ => ?_
  refine intoEs ha h fun xs vs S1 R1 m1 H1 e1 a1 r1 h1 => ?_
  rw [List.append_nil]
  refine ⟨?_, Z, R1, m1, S1, xs, a1.sim, r1, h1⟩
  rw [r1.length]
  by_cases z : xs.length = ps.length
  · exact z
  · rw [m6 xs S1 z] at h1
    exact False.elim h1
theorem s_bi {f : Bi} {es : Es} {y : Expr} {ys : List Expr} {p p2 : Pos} {nm : Str} (C : Cok nf cs cf ca n q W X) (hf : nm = biName f) (hg : globB q nm = true) (hn : noStar es = true)
    (hc : chkEs nf q es (y :: ys) = true) (hgc : gcdB nf f = true) (pa : PA X (y :: ys) (tEs X.K ca W cf cs es)) : PE X (.Call (.Name nm p) (y :: ys) [] p2) (tE X.K ca W cf cs (.bi f es)) := by
  obtain ⟨g1, g2, g3⟩ := C.glo hg
  have hy : nst y = true := by
    cases es with
    | nil => exact absurd hc (by simp [chkEs])
    | cons e r =>
      have h' : (nst y && chkE nf q e y && chkEs nf q r ys) = true := hc
      rw [Bool.and_eq_true, Bool.and_eq_true] at h'
      exact h'.1.1
    | star e r => cases hn
  have hany := chkEs_any hc hn X.env
  rw [nst_one hy] at hany
  have hany2 : (backTo p2 (starEach ys X.env)).any (·.1) = false := by rw [backTo_any]; exact hany
  have red : ∀ (σ : L2.St) (H : Hp) (Q : VK), tE X.K ca W cf cs (.bi f es) σ H Q → tCB (rVB X.K f) (tEs X.K ca W cf cs es) σ H Q := fun σ H Q ⟨σ', S, Z, R, m, ha, h⟩ => by
    refine intoEs ha h fun xs vs S1 R1 m1 H1 e1 a1 r1 h1 => ?_
    obtain ⟨c, hc, h2⟩ := h1.ofO'
    exact ⟨Z, R1, m1, S1, xs, c, a1.sim, r1, hc, fun v R' m' H' e s r => h2 R' m' H' e s v r⟩
  subst hf
  cases f with
  | int => exact peMono (pe_callTy (or_ty .int rfl) g1 (C.tab.bl _ (by decide)) (by decide +kernel) pa g3 g2 (nst_one hy _) hany2) red
  | bool => exact peMono (pe_callTy (or_ty .bool rfl) g1 (C.tab.bl _ (by decide)) (by decide +kernel) pa g3 g2 (nst_one hy _) hany2) red
  | tuple => exact peMono (pe_callTy (or_ty .tuple rfl) g1 (C.tab.bl _ (by decide)) (by decide +kernel) pa g3 g2 (nst_one hy _) hany2) red
  | gcd => exact peMono (pe_callBfun (or_bi C.calm .gcd rfl) g1 (C.tab.gc hgc) pa g2 (nst_one hy _) hany2) red
  | len => exact peMono (pe_callB (or_bi C.calm .len rfl) g1 (C.tab.bl _ (by decide)) (by decide +kernel) pa g3 g2 (nst_one hy _) hany2) red
  | abs => exact peMono (pe_callB (or_bi C.calm .abs rfl) g1 (C.tab.bl _ (by decide)) (by decide +kernel) pa g3 g2 (nst_one hy _) hany2) red
  | max2 => exact peMono (pe_callB (or_bi C.calm .max2 rfl) g1 (C.tab.bl _ (by decide)) (by decide +kernel) pa g3 g2 (nst_one hy _) hany2) red
  | min2 => exact peMono (pe_callB (or_bi C.calm .min2 rfl) g1 (C.tab.bl _ (by decide)) (by decide +kernel) pa g3 g2 (nst_one hy _) hany2) red
  | max1 => exact peMono (pe_callB (or_bi C.calm .max1 rfl) g1 (C.tab.bl _ (by decide)) (by decide +kernel) pa g3 g2 (nst_one hy _) hany2) red
  | min1 => exact peMono (pe_callB (or_bi C.calm .min1 rfl) g1 (C.tab.bl _ (by decide)) (by decide +kernel) pa g3 g2 (nst_one hy _) hany2) red
  | sum => exact peMono (pe_callB (or_bi C.calm .sum rfl) g1 (C.tab.bl _ (by decide)) (by decide +kernel) pa g3 g2 (nst_one hy _) hany2) red
  | all => exact peMono (pe_callB (or_bi C.calm .all rfl) g1 (C.tab.bl _ (by decide)) (by decide +kernel) pa g3 g2 (nst_one hy _) hany2) red
  | any => exact peMono (pe_callB (or_bi C.calm .any rfl) g1 (C.tab.bl _ (by decide)) (by decide +kernel) pa g3 g2 (nst_one hy _) hany2) red
end
end Dy
end

section
set_option Elab.async false
set_option linter.all false
set_option maxRecDepth 100000
set_option maxHeartbeats 4000000
namespace Dy
open PySem PySem.Spec PyProof.Rows L2
section
variable {K : PySem.W.Frag} {ca : List Addr} {W : WX} {cf : CF} {cs : List A} {nf : Info} {n : Nat} {q : Blk} {X : Cx}
/-! ### isinstance -/
theorem kit_all (a : A) (S : Dy.S) (nm : String) (h : tyN S a = some nm) (t : Ty) : kitB nm (tyS t) = some (isi1 nm t) := by
  have key : ∀ u ∈ (["NoneType", "bool", "int", "str", "tuple", "list"] : List String), kitB u (tyS t) = some (isi1 u t) := by
    intro u hu
    simp only [List.mem_cons, List.not_mem_nil, or_false] at hu
    rcases hu with rfl | rfl | rfl | rfl | rfl | rfl <;> cases t <;> decide +kernel
  refine key nm ?_
  cases a with
  | cell n =>
    obtain ⟨_, _, e⟩ := omap (show (itemsL S (.cell n)).map (fun _ => "list") = some nm from h)
    subst e
    decide
  | _ =>
    cases h
    decide
theorem tyx_at {Z R : Hp} {m : List Addr} {S : Dy.S} {H : Hp} {a : A} {v : V} {nm : String} (s : Sim K Z R m S H) (r : Rep K R m a v) (h : tyN S a = some nm) : TyX K H v (.type nm) := by
  cases r with
  | non => cases h; exact .base .non
  | bl b => cases h; exact .base (.bl b)
  | int b => cases h; exact .base (.int b)
  | str b => cases h; exact .base (.str b)
  | tup e t =>
    cases h
    rcases e with (e | ⟨o, e⟩) | ⟨o, its, n, e1, e2, _⟩
    · exact .base (.tup (s.sub _ _ e))
    · exact .fTuple (s.sub _ _ e)
    · exact .kTuple e1 e2
  | lst e t =>
    cases h
    exact .base (.lst (s.sub _ _ e))
  | ro e t _ =>
    cases h
    obtain ⟨t, ht, rfl⟩ := t
    exact tyX_sub s.sub ht
  | cell hm =>
    obtain ⟨xs, hx, e⟩ := omap (show (itemsL S (.cell _)).map (fun _ => "list") = some nm from h)
    subst e
    obtain ⟨p, vs, e1, _, _, h1, _⟩ := cell_at s (.cell hm) hx
    cases e1
    exact .base (.lst h1)
theorem ty_mem (t : Ty) : ((tyS t : String) : Str) ∈ bnames := by
  cases t <;> decide
theorem ty_boot (t : Ty) : bootBuiltins ((tyS t : String) : Str) = some (.type (tyS t)) := by
  cases t <;> decide +kernel
theorem pe_ty {t : Ty} {y : Expr} (C : Cok nf cs cf ca n q W X) (h : tyB q t y = true) : PE X y (L2.tC (.ty (tyS t))) ∧ nst y = true := by
  unfold tyB at h
  split at h
  · rw [Bool.and_eq_true] at h
    obtain ⟨g1, g2, g3⟩ := C.glo h.2
    have e := of_decide_eq_true h.1
    subst e
    exact ⟨pe_bltn g1 (C.tab.bl _ (ty_mem t)) (ty_boot t) rfl g3 g2, rfl⟩
  · cases h
/-- the types, one after another -/
def tTys : List Ty → TA
  | [] => tNil
  | t :: ts => tCons (L2.tC (.ty (tyS t))) (tTys ts)
theorem pa_tys (C : Cok nf cs cf ca n q W X) : ∀ {ts : List Ty} {ys : List Expr}, tysB q ts ys = true → PA X ys (tTys ts)
  | [], [], _ => pa_nil
  | [], _ :: _, h => by cases h
  | _ :: _, [], h => by cases h
  | t :: ts, y :: ys, h => by
    have h' : (tyB q t y && tysB q ts ys) = true := h
    rw [Bool.and_eq_true] at h'
    obtain ⟨h1, h2⟩ := pe_ty C h'.1
    exact pa_cons h1 (pa_tys C h'.2) (nst_one h2 _)
theorem tTys_mk : ∀ (ts : List Ty) {σ : L2.St} {H : Hp} {Q : List V → Hp → Prop}, Q (ts.map fun t => .ty (tyS t)) H → tTys ts σ H Q
  | [], _, _, _, h => h
  | _ :: ts, _, _, _, h => tTys_mk ts h
theorem kit_any {a : A} {S : Dy.S} {nm : String} (h : tyN S a = some nm) : ∀ ts : List Ty, PySem.W.kitAny K (.type nm) (ts.map fun t => Value.type (tyS t)) = some (ts.any (isi1 nm))
  | [] => kitAny_nil
  | t :: ts => by
    refine kitAny_cons (kit_ty (kit_all a S nm h t)) (fun z => ?_) fun z => ?_
    · rw [kit_any h ts, List.any_cons, z] <;> rfl
    · rw [List.any_cons, z] <;> rfl
theorem cls_tys : ∀ ts : List Ty, Paired ClsV (ts.map fun t => V.ty (tyS t)) (ts.map fun t => Value.type (tyS t))
  | [] => .nil
  | t :: ts => .cons (.ty _) (cls_tys ts)
theorem boot_isi : bootBuiltins "isinstance" = some (.builtin "isinstance") := by decide +kernel
theorem s_isi1 {a : E} {t : Ty} {y z : Expr} {p p2 : Pos} (C : Cok nf cs cf ca n q W X) (hg : globB q "isinstance" = true) (hy : nst y = true) (pa : PE X y (tE X.K ca W cf cs a)) (hz : tyB q t z = true) :
    PE X (.Call (.Name "isinstance" p) [y, z] [] p2) (tE X.K ca W cf cs (.isi a [t])) := by
  obtain ⟨g1, g2, g3⟩ := C.glo hg
  obtain ⟨pz, nz⟩ := pe_ty C hz
  have h2 : (backTo p2 (starEach [z] X.env)).any (·.1) = false := by
    rw [backTo_any, nst_one nz] <;> rfl
  refine peMono (pe_callB call_isi g1 (C.tab.bl _ (by decide)) boot_isi (pa_cons pa (pa_cons pz pa_nil (nst_one nz _)) (nst_one hy _)) g3 g2 (nst_one hy _) h2) fun σ H Q ⟨σ', S, Z, R, m, ha, h⟩ => ?_
  refine intoE ha h fun x v S1 R1 m1 H1 e1 a1 r1 h1 => ?_
  obtain ⟨k, hk, h3⟩ := h1.ofO
  obtain ⟨nm, hn, rfl⟩ := omap hk
  refine ⟨v, .ty (tyS t), .type nm, .type (tyS t), isi1 nm t, rfl, .ty _, tyx_at a1.sim r1 hn, kit_ty (kit_all x S1 nm hn t), ?_⟩
  have e : ([t] : List Ty).any (isi1 nm) = isi1 nm t := Bool.or_false _
  rw [e] at h3
  exact h3.fin a1.sim _ (.bl _)
theorem s_isiN {a : E} {ts : List Ty} {y : Expr} {zs : List Expr} {k : Nat} {p p2 p3 : Pos} (C : Cok nf cs cf ca n q W X) (hg : globB q "isinstance" = true) (hy : nst y = true) (pa : PE X y (tE X.K ca W cf cs a)) (hz : tysB q ts zs = true) (hl : ts.length ≤ 100) :
    PE X (.Call (.Name "isinstance" p) [y, .Tuple zs k p3] [] p2) (tE X.K ca W cf cs (.isi a ts)) := by
  obtain ⟨g1, g2, g3⟩ := C.glo hg
  refine peMono (pe_callB call_isiT g1 (C.tab.bl _ (by decide)) boot_isi (pa_cons pa (pa_cons (pe_tup (pa_tys C hz)) pa_nil) (nst_one hy _)) g3 g2 (nst_one hy _) rfl) fun σ H Q ⟨σ', S, Z, R, m, ha, h⟩ => ?_
  refine intoE ha h fun x v S1 R1 m1 H1 e1 a1 r1 h1 => ?_
  obtain ⟨k, hk, h3⟩ := h1.ofO
  obtain ⟨nm, hn, rfl⟩ := omap hk
  refine tTys_mk ts ⟨by rw [List.length_map]; exact Nat.le_trans hl (by decide), fun p hp => ?_⟩
  refine ⟨v, p, _, .type nm, _, _, rfl, upd_same, cls_tys ts, tyX_sub (fun b o e => by rw [upd_ne (ne_of_none e hp)]; exact e) (tyx_at a1.sim r1 hn), kit_any hn ts, ?_⟩
  exact h3 _ _ _ (Ext.refl _ _) (a1.sim.junk hp) _ (.bl _)
/-! ### methods of lists -/
theorem few1 {y : Expr} (hy : nst y = true) (p : Pos) (env : PySem.Env) : ((backTo p (starEach [y] env)).all (fun x => !x.1) && (backToKw p (keywordEach [] env)).all (fun x => x.1.isSome)
      && decide (([y] : List Expr).length + ([] : List Keyword).length + (if ([] : List Keyword).isEmpty then 0 else 1) < 30)) = true := by
  rw [backTo_all, nst_one hy] <;> rfl
theorem s_append {o a : E} {l y : Expr} {p p2 : Pos} (po : PE X l (tE X.K ca W cf cs o)) (pa : PE X y (tE X.K ca W cf cs a)) (hl : noCall l = true) (hy : nst y = true) (hp : (p.endLine == p2.line) = true) :
    PE X (.Call (.Attribute l "append" p) [y] [] p2) (tE X.K ca W cf cs (.append o a)) := by
  refine peMono (pe_bm PySem.F.plainAttrs_list PySem.F.slot_list_append PySem.F.type_list_append mt_append po (pa_cons pa pa_nil (nst_one hy _)) (noCall_base hl _ _) (few1 hy _ _) hp (nst_one hy _) rfl) fun σ H Q ⟨σ', S, Z, R, m, ha, h⟩ => ?_
  refine intoE ha h fun x v S1 R1 m1 H1 e1 a1 r1 h1 => ?_
  obtain ⟨xs0, hx0, h1⟩ := h1.ofO
  obtain ⟨p0, vs0, rfl, g0, _⟩ := list_at a1.sim r1 hx0
  refine ⟨.inl ⟨rfl, _, g0⟩, intoE a1 h1 fun y u S2 R2 m2 H2 e2 a2 r2 h2 => ?_⟩
  cases x with
  | cell j =>
    obtain ⟨xs, hx, h3⟩ := h2.ofO
    obtain ⟨p, vs, ep, f1, f2, f3, f4⟩ := cell_at a2.sim (r1.mono e2) hx
    by_cases g : xs.length < sizeLine
    · rw [if_pos g] at h3
      rw [← f4.length] at g
      have f5 : Reps X.K R2 m2 (xs ++ [y]) (vs ++ [u]) := f4.append (.cons r2 .nil)
      exact ⟨p, vs, u, ep, rfl, f3, g, h3 _ _ _ (Ext.refl _ _) (a2.sim.write f2 f1 f5) _ .non⟩
    · rw [if_neg g] at h3
      exact False.elim h3
  | _ => exact False.elim h2
theorem s_extend {o a : E} {l y : Expr} {p p2 : Pos} (po : PE X l (tE X.K ca W cf cs o)) (pa : PE X y (tE X.K ca W cf cs a)) (hl : noCall l = true) (hy : nst y = true) (hp : (p.endLine == p2.line) = true) :
    PE X (.Call (.Attribute l "extend" p) [y] [] p2) (tE X.K ca W cf cs (.extend o a)) := by
  refine peMono (pe_bm PySem.F.plainAttrs_list PySem.F.slot_list_extend PySem.F.type_list_extend mt_extend po (pa_cons pa pa_nil (nst_one hy _)) (noCall_base hl _ _) (few1 hy _ _) hp (nst_one hy _) rfl) fun σ H Q ⟨σ', S, Z, R, m, ha, h⟩ => ?_
  refine intoE ha h fun x v S1 R1 m1 H1 e1 a1 r1 h1 => ?_
  obtain ⟨xs0, hx0, h1⟩ := h1.ofO
  obtain ⟨p0, vs0, rfl, g0, _⟩ := list_at a1.sim r1 hx0
  refine ⟨.inl ⟨rfl, _, g0⟩, intoE a1 h1 fun y u S2 R2 m2 H2 e2 a2 r2 h2 => ?_⟩
  cases x with
  | cell j =>
    obtain ⟨xs, hx, h3⟩ := h2.ofO
    obtain ⟨ys, hy, h4⟩ := h3.ofO
    obtain ⟨p, vs, ep, f1, f2, f3, f4⟩ := cell_at a2.sim (r1.mono e2) hx
    obtain ⟨p', ws, eq, f6, f7⟩ := itemsC_at a2.sim r2 hy
    subst eq
    by_cases g : xs.length + ys.length ≤ sizeLine
    · rw [if_pos g] at h4
      rw [← f4.length, ← f7.length] at g
      exact ⟨p, p', vs, ws, ep, rfl, f3, f6, g, h4 _ _ _ (Ext.refl _ _) (a2.sim.write f2 f1 (f4.append f7)) _ .non⟩
    · rw [if_neg g] at h4
      exact False.elim h4
  | _ => exact False.elim h2
theorem s_pop {o : E} {l : Expr} {p p2 : Pos} (po : PE X l (tE X.K ca W cf cs o)) (hl : noCall l = true) (hp : (p.endLine == p2.line) = true) : PE X (.Call (.Attribute l "pop" p) [] [] p2) (tE X.K ca W cf cs (.pop o)) := by
  refine peMono (pe_bm0 PySem.F.plainAttrs_list PySem.F.slot_list_pop PySem.F.type_list_pop mt_pop po (noCall_base hl _ _) hp) fun σ H Q ⟨σ', S, Z, R, m, ha, h⟩ => ?_
  refine intoE ha h fun x v S1 R1 m1 H1 e1 a1 r1 h1 => ?_
  cases x with
  | cell j =>
    obtain ⟨xs, hx, h2⟩ := h1.ofO
    obtain ⟨y, hy, h3⟩ := h2.ofO
    obtain ⟨p, vs, rfl, f1, f2, f3, f4⟩ := cell_at a1.sim r1 hx
    obtain ⟨u, hu, ru⟩ := f4.get hy
    refine ⟨.inl ⟨rfl, _, SqL.of f3⟩, p, vs, u, rfl, rfl, f3, by rw [f4.length]; exact hu, ?_⟩
    exact h3 _ _ _ (Ext.refl _ _) (a1.sim.write f2 f1 f4.dropLast) _ ru
  | _ => exact False.elim h1
theorem s_popAt {o a : E} {l y : Expr} {p p2 : Pos} (po : PE X l (tE X.K ca W cf cs o)) (pa : PE X y (tE X.K ca W cf cs a)) (hl : noCall l = true) (hy : nst y = true) (hp : (p.endLine == p2.line) = true) :
    PE X (.Call (.Attribute l "pop" p) [y] [] p2) (tE X.K ca W cf cs (.popAt o a)) := by
  refine peMono (pe_bm PySem.F.plainAttrs_list PySem.F.slot_list_pop PySem.F.type_list_pop mt_popAt po (pa_cons pa pa_nil (nst_one hy _)) (noCall_base hl _ _) (few1 hy _ _) hp (nst_one hy _) rfl) fun σ H Q ⟨σ', S, Z, R, m, ha, h⟩ => ?_
  refine intoE ha h fun x v S1 R1 m1 H1 e1 a1 r1 h1 => ?_
  obtain ⟨xs0, hx0, h1⟩ := h1.ofO
  obtain ⟨p0, vs0, rfl, g0, _⟩ := list_at a1.sim r1 hx0
  refine ⟨.inl ⟨rfl, _, g0⟩, intoE a1 h1 fun y u S2 R2 m2 H2 e2 a2 r2 h2 => ?_⟩
  cases x with
  | cell j =>
    cases y with
    | int i =>
      cases r2
      obtain ⟨xs, hx, h3⟩ := h2.ofO
      obtain ⟨p, vs, ep, f1, f2, f3, f4⟩ := cell_at a2.sim (r1.mono e2) hx
      by_cases g : (decide (-(2 ^ 63) ≤ i) && decide (i < 2 ^ 63)) = true
      · rw [if_pos g] at h3
        rw [Bool.and_eq_true] at g
        obtain ⟨k, hk, h4⟩ := h3.ofO
        obtain ⟨z, hz, h5⟩ := h4.ofO
        obtain ⟨w, hw, rw'⟩ := f4.get hz
        exact ⟨p, vs, i, k, w, ep, rfl, f3, of_decide_eq_true g.1, of_decide_eq_true g.2, by rw [f4.length]; exact hk, hw, h5 _ _ _ (Ext.refl _ _) (a2.sim.write f2 f1 (f4.eraseIdx k)) _ rw'⟩
      · rw [if_neg g] at h3
        exact False.elim h3
    | _ => exact False.elim h2
  | _ => exact False.elim h2
/-! ### argument lists, optional parts -/
theorem s_nil : PA X [] (tEs X.K ca W cf cs .nil) := paMono pa_nil fun σ H Q ⟨σ', S, Z, R, m, ha, h⟩ => h.fin ha.sim _ .nil
theorem s_cons {e : E} {r : Es} {x : Expr} {xs : List Expr} (hx : nst x = true) (pe : PE X x (tE X.K ca W cf cs e)) (pr : PA X xs (tEs X.K ca W cf cs r)) : PA X (x :: xs) (tEs X.K ca W cf cs (.cons e r)) := by
  refine paMono (pa_cons pe pr (nst_one hx _)) fun σ H Q ⟨σ', S, Z, R, m, ha, h⟩ => ?_
  refine intoE ha h fun x v S1 R1 m1 H1 e1 a1 r1 h1 => ?_
  refine intoEs a1 h1 fun y u S2 R2 m2 H2 e2 a2 r2 h2 => ?_
  exact h2.fin a2.sim _ (.cons (r1.mono e2) r2)
theorem s_star {e : E} {r : Es} {x : Expr} {xs : List Expr} {p : Pos} (pe : PE X x (tE X.K ca W cf cs e)) (pr : PA X xs (tEs X.K ca W cf cs r)) : PA X (.Starred x p :: xs) (tEs X.K ca W cf cs (.star e r)) := by
  refine paMono (StX.pa_star pe pr) fun σ H Q ⟨σ', S, Z, R, m, ha, h⟩ => ?_
  refine intoE ha h fun x v S1 R1 m1 H1 e1 a1 r1 h1 => ?_
  obtain ⟨ys, hy, h2⟩ := h1.ofO
  obtain ⟨p, vs, rfl, g1, g2⟩ := seq_at a1.sim r1 hy
  refine ⟨p, vs, rfl, g1.symm, intoEs a1 h2 fun y u S2 R2 m2 H2 e2 a2 r2 h3 => ?_⟩
  exact h3.fin a2.sim _ ((g2.mono e2).append r2)
theorem s_no : PO X none (tEo X.K ca W cf cs .no) := poMono po_none fun σ H Q ⟨σ', S, Z, R, m, ha, h⟩ => h.fin ha.sim
theorem s_yes {e : E} {x : Expr} (pe : PE X x (tE X.K ca W cf cs e)) : PO X (some x) (tEo X.K ca W cf cs (.yes e)) := poMono (po_some pe) fun σ H Q ⟨σ', S, Z, R, m, ha, h⟩ => by
  refine intoE ha h fun x v S1 R1 m1 H1 e1 a1 r1 h1 => ?_
  cases x with
  | int i =>
    cases r1
    exact ⟨i, rfl, h1.fin a1.sim⟩
  | _ => exact False.elim h1
theorem s_tests0 : PTs X [] (Dy.tC X.K ca W cf cs .no) := ⟨fun pins s σ H Q I ⟨σ', S, Z, R, m, ha, h⟩ => pts_nil.run pins s σ H Q I (h.fin ha.sim)⟩
theorem s_tests1 {e : E} {x : Expr} (pt : PT X x (tT X.K ca W cf cs e)) : PTs X [x] (Dy.tC X.K ca W cf cs (.yes e)) := ⟨fun pins s σ H Q I hw => (pts_one pt).run pins s σ H Q I hw⟩
/-! ### new lists -/
theorem newL {l : L} {σ : L2.St} {Z R : Hp} {m : List Addr} {S : Dy.S} {H1 : Hp} {xs : List A} {vs : List V} {Q : VK} (s : Sim K Z R m S H1) (r : Reps K R m xs vs)
    (h : OutW K ca W σ Z R m (.ok xs S) fun xs S' R' m' H' => ∀ p vs, H' p = some (.lst vs) → Lone R' m' S' p → Z p = none → Reps K R' m' xs vs → Q (.ref p) H') :
    ∀ p, H1 p = none → Q (.ref p) (upd H1 p (.lst vs)) := fun p hp =>
  h _ _ _ (Ext.refl _ _) (s.junk hp) p vs upd_same (s.lone hp) (s.zfree hp) r
theorem l_disp {es : Es} {xs : List Expr} {p : Pos} (pa : PA X xs (tEs X.K ca W cf cs es)) : PE X (.List xs p) (tL X.K ca W cf cs (.disp es)) := by
  refine peMono (pe_lst pa) fun σ H Q ⟨σ', S, Z, R, m, ha, h⟩ => ?_
  refine intoEs ha h fun ys vs S1 R1 m1 H1 e1 a1 r1 h1 => ?_
  by_cases g : ys.length ≤ sizeLine
  · rw [if_pos g] at h1
    exact ⟨by rw [r1.length]; exact g, newL (l := .disp es) a1.sim r1 h1⟩
  · rw [if_neg g] at h1
    exact False.elim h1
theorem l_ofSeq {e : E} {y : Expr} {p p2 : Pos} (C : Cok nf cs cf ca n q W X) (hg : globB q "list" = true) (hy : nst y = true) (pe : PE X y (tE X.K ca W cf cs e)) : PE X (.Call (.Name "list" p) [y] [] p2) (tL X.K ca W cf cs (.ofSeq e)) := by
  obtain ⟨g1, g2, g3⟩ := C.glo hg
  refine peMono (pe_callTy call_list_of g1 (C.tab.bl _ (by decide)) (by decide +kernel) (pa_cons pe pa_nil (nst_one hy _)) g3 g2 (nst_one hy _) rfl) fun σ H Q ⟨σ', S, Z, R, m, ha, h⟩ => ?_
  refine intoE ha h fun x v S1 R1 m1 H1 e1 a1 r1 h1 => ?_
  obtain ⟨xs, hx, h2⟩ := h1.ofO'
  obtain ⟨p, vs, rfl, g1, g2⟩ := seq_at a1.sim r1 hx
  exact ⟨p, vs, rfl, g1, newL (l := .ofSeq e) a1.sim g2 h2⟩
theorem l_cut {e : E} {lo hi : Eo} {l : Expr} {u v : Option Expr} {p p2 : Pos} (pe : PE X l (tE X.K ca W cf cs e)) (pl : PO X u (tEo X.K ca W cf cs lo)) (ph : PO X v (tEo X.K ca W cf cs hi)) :
    PE X (.Subscript l (.Slice u v none p2) p) (tL X.K ca W cf cs (.cut e lo hi)) := by
  refine peMono (pe_slice sl_list pe pl ph) fun σ H Q ⟨σ', S, Z, R, m, ha, h⟩ => ?_
  refine intoE ha h fun x v S1 R1 m1 H1 e1 a1 r1 h1 => ?_
  refine intoEo a1 h1 fun y S2 R2 m2 H2 e2 a2 h2 => ?_
  refine intoEo a2 h2 fun z S3 R3 m3 H3 e3 a3 h3 => ?_
  obtain ⟨xs, hx, h4⟩ := h3.ofO
  obtain ⟨p, vs, rfl, g1, g2⟩ := list_at a3.sim ((r1.mono e2).mono e3) hx
  exact ⟨p, vs, rfl, g1, newL (l := .cut e lo hi) a3.sim (cut_reps g2 y z) h4⟩
theorem l_rev {e : E} {l : Expr} {k : Nat} {p1 p2 p3 p : Pos} (pe : PE X l (tE X.K ca W cf cs e)) : PE X (.Subscript l (.Slice none none (some (.UnaryOp .USub (.Constant (.int 1) k p1) p2)) p3) p) (tL X.K ca W cf cs (.rev e)) := by
  refine peMono (pe_revL pe) fun σ H Q ⟨σ', S, Z, R, m, ha, h⟩ => ?_
  refine intoE ha h fun x v S1 R1 m1 H1 e1 a1 r1 h1 => ?_
  obtain ⟨xs, hx, h2⟩ := h1.ofO
  obtain ⟨p, vs, rfl, g1, g2⟩ := list_at a1.sim r1 hx
  exact ⟨p, vs, rfl, g1, newL (l := .rev e) a1.sim g2.reverse h2⟩
theorem l_cat {a b : E} {l r : Expr} {p : Pos} (pa : PE X l (tE X.K ca W cf cs a)) (pb : PE X r (tE X.K ca W cf cs b)) : PE X (.BinOp l .Add r p) (tL X.K ca W cf cs (.cat a b)) := by
  refine peMono (pe_op op_cat pa pb) fun σ H Q ⟨σ', S, Z, R, m, ha, h⟩ => ?_
  refine intoE ha h fun x v S1 R1 m1 H1 e1 a1 r1 h1 => ?_
  refine intoE a1 h1 fun y u S2 R2 m2 H2 e2 a2 r2 h2 => ?_
  obtain ⟨zs, hz, h3⟩ := h2.ofO'
  obtain ⟨xs, hx, hz⟩ := obind hz
  obtain ⟨ys, hy, hz⟩ := obind hz
  obtain ⟨g, rfl⟩ := oif hz
  obtain ⟨p, vs, rfl, g1, g2⟩ := itemsC_at a2.sim (r1.mono e2) hx
  obtain ⟨p', ws, rfl, g3, g4⟩ := itemsC_at a2.sim r2 hy
  exact ⟨p, p', vs, ws, rfl, rfl, g1, g3, by rw [g2.length, g4.length]; exact g, newL (l := .cat a b) a2.sim (g2.append g4) h3⟩
theorem l_rep {a b : E} {l r : Expr} {p : Pos} (pa : PE X l (tE X.K ca W cf cs a)) (pb : PE X r (tE X.K ca W cf cs b)) : PE X (.BinOp l .Mult r p) (tL X.K ca W cf cs (.rep a b)) := by
  refine peMono (pe_op op_rep pa pb) fun σ H Q ⟨σ', S, Z, R, m, ha, h⟩ => ?_
  refine intoE ha h fun x v S1 R1 m1 H1 e1 a1 r1 h1 => ?_
  refine intoE a1 h1 fun y u S2 R2 m2 H2 e2 a2 r2 h2 => ?_
  obtain ⟨zs, hz, h3⟩ := h2.ofO'
  cases y with
  | int k =>
    cases r2
    obtain ⟨xs, hx, hz⟩ := obind (show ((itemsC S2 x).bind fun xs => _) = some zs from hz)
    obtain ⟨g, rfl⟩ := oifb hz
    rw [Bool.and_eq_true, Bool.and_eq_true] at g
    obtain ⟨p, vs, rfl, g1, g2⟩ := itemsC_at a2.sim (r1.mono e2) hx
    exact ⟨p, k, vs, rfl, rfl, g1, of_decide_eq_true g.1.1, of_decide_eq_true g.1.2, by rw [g2.length]; exact of_decide_eq_true g.2, newL (l := .rep a b) a2.sim (g2.rep _) h3⟩
  | _ => cases hz
end
end Dy
end

section
set_option Elab.async false
set_option linter.all false
set_option maxRecDepth 100000
set_option maxHeartbeats 4000000
namespace Dy
open PySem PySem.Spec PyProof.Rows L2
section
/-! ### equal values -/
mutual
theorem eqb_eq : ∀ {a b : A}, eqb a b = true → a = b
  | .non, .non, _ => rfl
  | .bl a, .bl b, h => by
    have h' : (a == b) = true := h
    rw [eq_of_beq h']
  | .int a, .int b, h => by
    have h' : (a == b) = true := h
    rw [eq_of_beq h']
  | .str a, .str b, h => by
    have h' : decide (a = b) = true := h
    rw [of_decide_eq_true h']
  | .tup a, .tup b, h => by
    have h' : eqbs a b = true := h
    rw [eqbs_eq h']
  | .lst a, .lst b, h => by
    have h' : eqbs a b = true := h
    rw [eqbs_eq h']
  | .ro a, .ro b, h => by
    have h' : eqbs a b = true := h
    rw [eqbs_eq h']
  | .cell a, .cell b, h => by
    have h' : (a == b) = true := h
    rw [eq_of_beq h']
  | .non, .bl _, h => nomatch h
  | .non, .int _, h => nomatch h
  | .non, .str _, h => nomatch h
  | .non, .tup _, h => nomatch h
  | .non, .lst _, h => nomatch h
  | .non, .ro _, h => nomatch h
  | .non, .cell _, h => nomatch h
  | .bl _, .non, h => nomatch h
  | .bl _, .int _, h => nomatch h
  | .bl _, .str _, h => nomatch h
  | .bl _, .tup _, h => nomatch h
  | .bl _, .lst _, h => nomatch h
  | .bl _, .ro _, h => nomatch h
  | .bl _, .cell _, h => nomatch h
  | .int _, .non, h => nomatch h
  | .int _, .bl _, h => nomatch h
  | .int _, .str _, h => nomatch h
  | .int _, .tup _, h => nomatch h
  | .int _, .lst _, h => nomatch h
  | .int _, .ro _, h => nomatch h
  | .int _, .cell _, h => nomatch h
  | .str _, .non, h => nomatch h
  | .str _, .bl _, h => nomatch h
  | .str _, .int _, h => nomatch h
  | .str _, .tup _, h => nomatch h
  | .str _, .lst _, h => nomatch h
  | .str _, .ro _, h => nomatch h
  | .str _, .cell _, h => nomatch h
  | .tup _, .non, h => nomatch h
  | .tup _, .bl _, h => nomatch h
  | .tup _, .int _, h => nomatch h
  | .tup _, .str _, h => nomatch h
  | .tup _, .lst _, h => nomatch h
  | .tup _, .ro _, h => nomatch h
  | .tup _, .cell _, h => nomatch h
  | .lst _, .non, h => nomatch h
  | .lst _, .bl _, h => nomatch h
  | .lst _, .int _, h => nomatch h
  | .lst _, .str _, h => nomatch h
  | .lst _, .tup _, h => nomatch h
  | .lst _, .ro _, h => nomatch h
  | .lst _, .cell _, h => nomatch h
  | .ro _, .non, h => nomatch h
  | .ro _, .bl _, h => nomatch h
  | .ro _, .int _, h => nomatch h
  | .ro _, .str _, h => nomatch h
  | .ro _, .tup _, h => nomatch h
  | .ro _, .lst _, h => nomatch h
  | .ro _, .cell _, h => nomatch h
  | .cell _, .non, h => nomatch h
  | .cell _, .bl _, h => nomatch h
  | .cell _, .int _, h => nomatch h
  | .cell _, .str _, h => nomatch h
  | .cell _, .tup _, h => nomatch h
  | .cell _, .lst _, h => nomatch h
  | .cell _, .ro _, h => nomatch h
theorem eqbs_eq : ∀ {a b : List A}, eqbs a b = true → a = b
  | [], [], _ => rfl
  | x :: xs, y :: ys, h => by
    have h' : (eqb x y && eqbs xs ys) = true := h
    rw [Bool.and_eq_true] at h'
    rw [eqb_eq h'.1, eqbs_eq h'.2]
  | [], _ :: _, h => nomatch h
  | _ :: _, [], h => nomatch h
end
mutual
theorem eqb_refl : ∀ a : A, eqb a a = true
  | .non => rfl
  | .bl a => (beq_self_eq_true a : (a == a) = true)
  | .int a => (beq_self_eq_true a : (a == a) = true)
  | .str a => (decide_eq_true rfl : decide (a = a) = true)
  | .tup a => (eqbs_refl a : eqbs a a = true)
  | .lst a => (eqbs_refl a : eqbs a a = true)
  | .ro a => (eqbs_refl a : eqbs a a = true)
  | .cell a => (beq_self_eq_true a : (a == a) = true)
theorem eqbs_refl : ∀ a : List A, eqbs a a = true
  | [] => rfl
  | x :: xs => by
    show (eqb x x && eqbs xs xs) = true
    rw [eqb_refl x, eqbs_refl xs] <;> rfl
end
theorem grd_at {n : Nat} {xs : List A} {S : Dy.S} (h : grdB (some (n, xs)) S = true) : S[n]? = some (.lst xs) := by
  have h' : (match S[n]? with | some (.lst ys) => eqbs xs ys | _ => false) = true := h
  split at h'
  · rename_i e
    rw [e, eqbs_eq h']
  · cases h'
end
section
variable {K : PySem.W.Frag} {ca : List Addr} {W : WX} {cf : CF} {cs : List A} {nf : Info} {n : Nat} {q : Blk} {X : Cx}
theorem piMono {tg x : Expr} {t t' : TI} (h : PI X tg x t) (q : ∀ σ H R, t' σ H R → t σ H R) : PI X tg x t' := ⟨fun pins s σ H R I hw => h.run pins s σ H R I (q σ H R hw)⟩
theorem piOr {tg x : Expr} {t t1 t2 : TI} (h1 : PI X tg x t1) (h2 : PI X tg x t2) (q : ∀ σ H R, t σ H R → t1 σ H R ∨ t2 σ H R) : PI X tg x t := ⟨fun pins s σ H R I hw => by
  rcases q σ H R hw with h | h
  · exact h1.run pins s σ H R I h
  · exact h2.run pins s σ H R I h⟩
/-! ### what is walked -/
theorem wk_list {R : Hp} {m : List Addr} {p : Addr} {xs : List A} {vs : List V} {w : Walk} (hw : w.1 = xs)
    (h : ∀ (Z R' : Hp) (m' : List Addr) (S' : Dy.S) (H' : Hp), Ext R m R' m' → Sim K Z R' m' S' H' → grdB w.2 S' = true → ∃ vs, SqL K H' p vs ∧ Reps K R' m' xs vs) : Wk K w R m (Itl K p) := by
  refine ⟨fun i a Z R' m' S' H' e s g hi => ?_, fun i Z R' m' S' H' e s g hi => ?_⟩
  · obtain ⟨vs, h1, h2⟩ := h Z R' m' S' H' e s g
    rw [hw] at hi
    obtain ⟨y, hy, ry⟩ := h2.get hi
    refine ⟨⟨vs, y, h1, hy⟩, fun x H'' hx => ?_⟩
    obtain ⟨rfl, hx⟩ := hx
    have e2 : y = x := Option.some.inj (hy.symm.trans (hx vs h1))
    subst e2
    exact ⟨R', Ext.refl _ _, s, ry⟩
  · obtain ⟨vs, h1, h2⟩ := h Z R' m' S' H' e s g
    rw [hw] at hi
    exact ⟨vs, h1, by rw [h2.length]; exact hi⟩
theorem wk_tup {R : Hp} {m : List Addr} {p : Addr} {xs : List A} {vs : List V} (h1 : SqT K R p vs) (h2 : Reps K R m xs vs) : Wk K (xs, none) R m (Itt K p) := by
  refine ⟨fun i a Z R' m' S' H' e s g hi => ?_, fun i Z R' m' S' H' e s g hi => ?_⟩
  · obtain ⟨y, hy, ry⟩ := (h2.mono e).get hi
    have q := sqT_sub s.sub (sqT_sub e.sub h1)
    refine ⟨⟨vs, y, q, hy⟩, fun x H'' hx => ?_⟩
    obtain ⟨rfl, hx⟩ := hx
    have e2 : y = x := Option.some.inj (hy.symm.trans (hx vs q))
    subst e2
    exact ⟨R', Ext.refl _ _, s, ry⟩
  · exact ⟨vs, sqT_sub s.sub (sqT_sub e.sub h1), by rw [h2.length]; exact hi⟩
theorem rngL_get {lo : Int} {n i : Nat} {a : A} (h : (rngL lo n)[i]? = some a) : i < n ∧ a = .int (lo + i) := by
  unfold rngL at h
  rw [List.getElem?_map] at h
  by_cases hi : i < n
  · rw [List.getElem?_range hi] at h
    cases h
    exact ⟨hi, rfl⟩
  · rw [List.getElem?_eq_none (by rw [List.length_range]; omega)] at h
    cases h
theorem rngL_len (lo : Int) (n : Nat) : (rngL lo n).length = n := by
  unfold rngL
  rw [List.length_map, List.length_range]
theorem wk_rng {R : Hp} {m : List Addr} (lo : Int) (n : Nat) : Wk K (rngL lo n, none) R m (Itr lo n) := by
  refine ⟨fun i a Z R' m' S' H' e s g hi => ?_, fun i Z R' m' S' H' e s g hi => ?_⟩
  · obtain ⟨h1, rfl⟩ := rngL_get hi
    refine ⟨h1, fun x H'' hx => ?_⟩
    obtain ⟨rfl, rfl⟩ := hx
    exact ⟨R', Ext.refl _ _, s, .int _⟩
  · have hi : (rngL lo n).length ≤ i := hi
    rw [rngL_len] at hi
    exact hi
theorem i_seq {e : E} {tg x : Expr} (pe : PE X x (tE X.K ca W cf cs e)) : PI X tg x (tI X.K ca W cf cs (.seq e)) := by
  refine piOr (pi_list pe) (pi_tup pe) fun σ H RR ⟨σ', S, Z, R, m, ha, h⟩ => ?_
  have h : OutW X.K ca W σ Z R m ((evE cf cs e σ' S).bind fun x s1 => ofO (walkV s1 x) s1) _ := h
  -- a list
  have lst : ∀ (x : A) (s : Dy.S) (xs : List A) (g : Option (Nat × List A)), walkV s x = some (xs, g) → itemsL s x = some xs → (∀ n, x = .cell n → g = some (n, xs)) → evE cf cs e σ' S = .ok x s → iList X.K (tE X.K ca W cf cs e) σ H RR := fun x s xs g w1 w2 w3 r => by
    rw [r] at h
    have h : OutW X.K ca W σ Z R m (ofO (walkV s x) s) _ := h
    rw [w1] at h
    refine ⟨σ', S, Z, R, m, ha, ?_⟩
    rw [r]
    intro R1 m1 H1 e1 s1 v r1
    obtain ⟨p, vs, rfl, q1, q2⟩ := list_at s1 r1 w2
    have h2 : ∀ J, Wk X.K (xs, g) R1 m1 J → grdB g s = true → RR J H1 := (h.mono e1).fin s1
    refine ⟨p, rfl, ⟨vs, q1⟩, h2 _ (wk_list (vs := vs) rfl fun Z' R' m' S' H' e' s' g' => ?_) ?_⟩
    · cases x with
      | cell j =>
        have e3 := w3 j rfl
        subst e3
        have e4 := grd_at g'
        cases r1 with
        | cell hm =>
          obtain ⟨ws, f1, f2, _⟩ := s'.cell j xs _ e4 (e'.get hm)
          exact ⟨ws, SqL.of f1, f2⟩
      | lst ys =>
        cases w2
        cases r1 with
        | lst f1 f2 => exact ⟨_, SqL.of (s'.sub _ _ (e'.sub _ _ f1)), f2.mono e'⟩
      | ro ys =>
        cases w2
        cases r1 with
        | ro f1 _ f2 => exact ⟨_, sqL_sub s'.sub (sqL_sub e'.sub f1), f2.mono e'⟩
      | _ => cases w2
    · cases x with
      | cell j =>
        have e3 := w3 j rfl
        subst e3
        have e4 := itemsL_cell w2
        show (match s[j]? with | some (.lst ys) => eqbs xs ys | _ => false) = true
        rw [e4]
        exact eqbs_refl xs
      | lst ys =>
        cases w1
        rfl
      | ro ys =>
        cases w1
        rfl
      | _ => cases w2
  cases r : evE cf cs e σ' S with
  | bad =>
    rw [r] at h
    exact False.elim h
  | exc x s =>
    rw [r] at h
    refine .inl ⟨σ', S, Z, R, m, ha, ?_⟩
    rw [r]
    exact h
  | ok x s =>
    cases x with
    | tup xs =>
      rw [r] at h
      refine .inr ⟨σ', S, Z, R, m, ha, ?_⟩
      rw [r]
      intro R1 m1 H1 e1 s1 v r1
      cases r1 with
      | tup t1 t2 =>
        have h2 : ∀ J, Wk X.K (xs, none) R1 m1 J → grdB none s = true → RR J H1 := (h.mono e1).fin s1
        exact ⟨_, rfl, ⟨_, sqT_sub s1.sub t1⟩, h2 _ (wk_tup t1 t2) rfl⟩
    | lst xs => exact .inl (lst _ s xs none rfl rfl (fun _ z => by cases z) r)
    | ro xs => exact .inl (lst _ s xs none rfl rfl (fun _ z => by cases z) r)
    | cell j =>
      cases g : itemsL s (.cell j) with
      | none =>
        rw [r] at h
        have h : OutW X.K ca W σ Z R m (ofO ((itemsL s (.cell j)).map fun xs => (xs, some (j, xs))) s) _ := h
        rw [g] at h
        exact False.elim h
      | some xs =>
        refine .inl (lst _ s xs (some (j, xs)) ?_ g (fun k z => by cases z; rfl) r)
        show (itemsL s (.cell j)).map (fun xs => (xs, some (j, xs))) = _
        rw [g] <;> rfl
    | _ =>
      rw [r] at h
      exact False.elim h
theorem ok62_at {i : Int} (h : ok62 i = true) : -(2 ^ 62) ≤ i ∧ i < 2 ^ 62 := by
  unfold ok62 at h
  rw [Bool.and_eq_true] at h
  exact ⟨of_decide_eq_true h.1, of_decide_eq_true h.2⟩
theorem i_rng1 {a : E} {tg y : Expr} {p p2 : Pos} (C : Cok nf cs cf ca n q W X) (hg : globB q "range" = true) (hy : nst y = true) (pa : PE X y (tE X.K ca W cf cs a)) : PI X tg (.Call (.Name "range" p) [y] [] p2) (tI X.K ca W cf cs (.rng1 a)) := by
  obtain ⟨g1, g2, g3⟩ := C.glo hg
  refine piMono (pi_range1 g1 (C.tab.bl _ (by decide)) (pa_cons pa pa_nil (nst_one hy _)) (nst_one hy _)) fun σ H RR ⟨σ', S, Z, R, m, ha, h⟩ => ?_
  refine intoE ha h fun x v S1 R1 m1 H1 e1 a1 r1 h1 => ?_
  cases x with
  | int j =>
    cases r1
    dsimp only at h1
    by_cases g : ok62 j = true
    · rw [if_pos g] at h1
      obtain ⟨f1, f2⟩ := ok62_at g
      exact ⟨j, rfl, f1, f2, h1.fin a1.sim _ (wk_rng 0 j.toNat) rfl⟩
    · rw [if_neg g] at h1
      exact False.elim h1
  | _ => exact False.elim h1
theorem i_rng2 {a b : E} {tg y z : Expr} {p p2 : Pos} (C : Cok nf cs cf ca n q W X) (hg : globB q "range" = true) (hy : nst y = true) (hz : nst z = true) (pa : PE X y (tE X.K ca W cf cs a)) (pb : PE X z (tE X.K ca W cf cs b)) :
    PI X tg (.Call (.Name "range" p) [y, z] [] p2) (tI X.K ca W cf cs (.rng2 a b)) := by
  obtain ⟨g1, g2, g3⟩ := C.glo hg
  refine piMono (pi_range2 g1 (C.tab.bl _ (by decide)) (pa_cons pa (pa_cons pb pa_nil (nst_one hz _)) (nst_one hy _)) (by rw [nst_one hy, nst_one hz] <;> rfl) (nst_one hz _)) fun σ H RR ⟨σ', S, Z, R, m, ha, h⟩ => ?_
  refine intoE ha h fun x v S1 R1 m1 H1 e1 a1 r1 h1 => ?_
  refine intoE a1 h1 fun y u S2 R2 m2 H2 e2 a2 r2 h2 => ?_
  cases x with
  | int i =>
    cases y with
    | int j =>
      cases r1
      cases r2
      dsimp only at h2
      by_cases g : (ok62 i && ok62 j) = true
      · rw [if_pos g] at h2
        rw [Bool.and_eq_true] at g
        obtain ⟨f1, f2⟩ := ok62_at g.1
        obtain ⟨f3, f4⟩ := ok62_at g.2
        exact ⟨i, j, rfl, ⟨f1, f2, f3, f4⟩, h2.fin a2.sim _ (wk_rng i (j - i).toNat) rfl⟩
      · rw [if_neg g] at h2
        exact False.elim h2
    | _ => exact False.elim h2
  | _ => exact False.elim h2
theorem zipA_get : ∀ {xs ys : List A} {i : Nat} {a : A}, (zipA xs ys)[i]? = some a → ∃ x y, xs[i]? = some x ∧ ys[i]? = some y ∧ a = .tup [x, y]
  | [], _, _, _, h => by simp [zipA] at h
  | _ :: _, [], _, _, h => by simp [zipA] at h
  | x :: xs, y :: ys, 0, a, h => by
    have h' : (A.tup [x, y]) = a := Option.some.inj h
    exact ⟨x, y, rfl, rfl, h'.symm⟩
  | x :: xs, y :: ys, i + 1, a, h => zipA_get (xs := xs) (ys := ys) (i := i) h
theorem zipA_len : ∀ (xs ys : List A), (zipA xs ys).length = min xs.length ys.length
  | [], _ => by simp [zipA]
  | _ :: _, [] => by simp [zipA]
  | x :: xs, y :: ys => by
    show (zipA xs ys).length + 1 = min (xs.length + 1) (ys.length + 1)
    rw [zipA_len xs ys]
    omega
/-- a frozen list, or one that is only read, stands -/
theorem stands {R : Hp} {m : List Addr} {a : A} {xs : List A} {v : V} {S : Dy.S} (r : Rep K R m a v) (h : itemsL S a = some xs) (hc : ∀ n, a ≠ .cell n) :
    ∃ p vs, v = .ref p ∧ Reps K R m xs vs ∧ ∀ (Z R' : Hp) (m' : List Addr) (S' : Dy.S) (H' : Hp), Ext R m R' m' → Sim K Z R' m' S' H' → SqL K H' p vs := by
  cases a with
  | lst ys =>
    cases h
    cases r with
    | lst f1 f2 => exact ⟨_, _, rfl, f2, fun Z R' m' S' H' e s => SqL.of (s.sub _ _ (e.sub _ _ f1))⟩
  | ro ys =>
    cases h
    cases r with
    | ro f1 _ f2 => exact ⟨_, _, rfl, f2, fun Z R' m' S' H' e s => sqL_sub s.sub (sqL_sub e.sub f1)⟩
  | cell n => exact absurd rfl (hc n)
  | _ => cases h
theorem i_zip2 {a b : E} {es : List Expr} {kk : Nat} {tpos : Pos} {y z : Expr} {p p2 : Pos} (C : Cok nf cs cf ca n q W X) (hg : globB q "zip" = true) (hy : nst y = true) (hz : nst z = true) (pa : PE X y (tE X.K ca W cf cs a)) (pb : PE X z (tE X.K ca W cf cs b)) :
    PI X (.Tuple es kk tpos) (.Call (.Name "zip" p) [y, z] [] p2) (tI X.K ca W cf cs (.zip2 a b)) := by
  obtain ⟨g1, g2, g3⟩ := C.glo hg
  refine piMono (pi_zip g1 (C.tab.bl _ (by decide)) (pa_cons pa (pa_cons pb pa_nil (nst_one hz _)) (nst_one hy _)) (by first | exact nst_one hy _ | (rw [nst_one hy, nst_one hz] <;> rfl)) (by first | exact nst_one hz _ | (rw [nst_one hz] <;> rfl))) fun σ H RR ⟨σ', S, Z, R, m, ha, h⟩ => ?_
  refine intoE ha h fun x v S1 R1 m1 H1 e1 a1 r1 h1 => ?_
  refine intoE a1 h1 fun y u S2 R2 m2 H2 e2 a2 r2 h2 => ?_
  obtain ⟨xs, hx, h3⟩ := h2.ofO
  obtain ⟨ys, hy, h4⟩ := h3.ofO
  by_cases g : (isCell x || isCell y) = true
  · rw [if_pos g] at h4
    exact False.elim h4
  rw [if_neg g] at h4
  have cx : ∀ n, x ≠ .cell n := fun n z => g (by rw [z] <;> rfl)
  have cy : ∀ n, y ≠ .cell n := fun n z => g (by rw [z] <;> exact Bool.or_true _)
  obtain ⟨p, vs, rfl, q1, q2⟩ := stands (r1.mono e2) hx cx
  obtain ⟨p', ws, rfl, q3, q4⟩ := stands r2 hy cy
  have s0 := q2 Z R2 m2 S2 H2 (Ext.refl _ _) a2.sim
  have s1 := q4 Z R2 m2 S2 H2 (Ext.refl _ _) a2.sim
  refine ⟨p, p', vs, ws, rfl, s0, s1, h4.fin a2.sim _ ⟨fun i a Z R' m' S' H' e s g hi => ?_, fun i Z R' m' S' H' e s g hi => ?_⟩ rfl⟩
  · obtain ⟨c, d, f1, f2, rfl⟩ := zipA_get hi
    obtain ⟨c', f3, f5⟩ := (q1.mono e).get f1
    obtain ⟨d', f4, f6⟩ := (q3.mono e).get f2
    refine ⟨⟨vs, ws, c', d', q2 _ _ _ _ _ e s, q4 _ _ _ _ _ e s, f3, f4⟩, fun x H'' hx => ?_⟩
    obtain ⟨T, c2, d2, rfl, hT, rfl, k1, k2⟩ := hx
    have e5 : c' = c2 := Option.some.inj (f3.symm.trans (k1 vs (q2 _ _ _ _ _ e s)))
    have e6 : d' = d2 := Option.some.inj (f4.symm.trans (k2 ws (q4 _ _ _ _ _ e s)))
    subst e5 e6
    have ex := Ext.upd (m := m') (o := .tup [c', d']) (s.free hT)
    exact ⟨_, ex, s.new hT, .tup (.inl (.inl upd_same)) (.cons (f5.mono ex) (.cons (f6.mono ex) .nil))⟩
  · have hi : (zipA xs ys).length ≤ i := hi
    rw [zipA_len] at hi
    refine ⟨vs, ws, q2 _ _ _ _ _ e s, q4 _ _ _ _ _ e s, ?_⟩
    rw [q1.length, q3.length]
    omega
theorem enumA_get : ∀ {xs : List A} {k i : Nat} {a : A}, (enumA k xs)[i]? = some a → ∃ x, xs[i]? = some x ∧ a = .tup [.int ((k + i : Nat) : Int), x]
  | [], _, _, _, h => by simp [enumA] at h
  | x :: xs, k, 0, a, h => by
    have h' : (A.tup [.int k, x]) = a := Option.some.inj h
    exact ⟨x, rfl, h'.symm⟩
  | x :: xs, k, i + 1, a, h => by
    obtain ⟨y, h1, h2⟩ := enumA_get (xs := xs) (k := k + 1) (i := i) h
    refine ⟨y, h1, ?_⟩
    rw [h2]
    congr 4
    omega
theorem enumA_len : ∀ (xs : List A) (k : Nat), (enumA k xs).length = xs.length
  | [], _ => rfl
  | x :: xs, k => congrArg (· + 1) (enumA_len xs (k + 1))
theorem i_enum {a : E} {es : List Expr} {kk : Nat} {tpos : Pos} {y : Expr} {p p2 : Pos} (C : Cok nf cs cf ca n q W X) (hg : globB q "enumerate" = true) (hy : nst y = true) (pa : PE X y (tE X.K ca W cf cs a)) :
    PI X (.Tuple es kk tpos) (.Call (.Name "enumerate" p) [y] [] p2) (tI X.K ca W cf cs (.enum a)) := by
  obtain ⟨g1, g2, g3⟩ := C.glo hg
  refine piMono (pi_enum g1 (C.tab.bl _ (by decide)) (pa_cons pa pa_nil (nst_one hy _)) (nst_one hy _)) fun σ H RR ⟨σ', S, Z, R, m, ha, h⟩ => ?_
  refine intoE ha h fun x v S1 R1 m1 H1 e1 a1 r1 h1 => ?_
  obtain ⟨xs, hx, h4⟩ := h1.ofO
  by_cases g : isCell x = true
  · rw [if_pos g] at h4
    exact False.elim h4
  rw [if_neg g] at h4
  have cx : ∀ n, x ≠ .cell n := fun n z => g (by rw [z] <;> rfl)
  obtain ⟨p, vs, rfl, q1, q2⟩ := stands r1 hx cx
  have s0 := q2 Z R1 m1 S1 H1 (Ext.refl _ _) a1.sim
  refine ⟨p, vs, rfl, s0, h4.fin a1.sim _ ⟨fun i a Z R' m' S' H' e s g hi => ?_, fun i Z R' m' S' H' e s g hi => ?_⟩ rfl⟩
  · obtain ⟨c, f1, rfl⟩ := enumA_get hi
    obtain ⟨c', f3, f5⟩ := (q1.mono e).get f1
    refine ⟨⟨vs, c', q2 _ _ _ _ _ e s, f3⟩, fun x H'' hx => ?_⟩
    obtain ⟨T, c2, rfl, hT, rfl, k1⟩ := hx
    have e5 : c' = c2 := Option.some.inj (f3.symm.trans (k1 vs (q2 _ _ _ _ _ e s)))
    subst e5
    have ex := Ext.upd (m := m') (o := .tup [.int (i : Nat), c']) (s.free hT)
    refine ⟨_, ex, s.new hT, .tup (.inl (.inl upd_same)) (.cons ?_ (.cons (f5.mono ex) .nil))⟩
    rw [Nat.zero_add]
    exact .int _
  · have hi : (enumA 0 xs).length ≤ i := hi
    rw [enumA_len] at hi
    exact ⟨vs, q2 _ _ _ _ _ e s, by rw [q1.length]; exact hi⟩
/-! ### targets -/
theorem pgMono {x : Expr} {t t' : TG} (h : PG X x t) (q : ∀ v σ H Q, t' v σ H Q → t v σ H Q) : PG X x t' := ⟨fun pins s σ H v u Q I r hw => h.run pins s σ H v u Q I r (q v σ H Q hw)⟩
theorem pgsMono {x : List Expr} {t t' : TGs} (h : PGs X x t) (q : ∀ v σ H Q, t' v σ H Q → t v σ H Q) : PGs X x t' := ⟨fun pins s σ H v u Q I r hw => h.run pins s σ H v u Q I r (q v σ H Q hw)⟩
theorem off_set {σ : L2.St} {i : Nat} {x : Option V} : Off [i] σ (σ.set i x) := ⟨by rw [List.length_set], fun j hj => by
  have e : i ≠ j := fun z => hj (by simp [z])
  rw [List.getElem?_set_ne e]⟩
theorem t_v {i : Nat} {nm : Str} {p : Pos} (C : Cok nf cs cf ca n q W X) (h : storB q i nm = true) : PG X (.Name nm p) (tG X.K ca W cf cs (.v i)) := by
  unfold storB at h
  rw [Bool.and_eq_true] at h
  have hi : X.N[i]? = some nm := by
    rw [C.N]
    exact of_decide_eq_true h.1
  have hl : Loc X.env.scope nm ∧ (X.fn nm = true ∨ X.env.scope.names.lookup nm = some .local) := by
    rw [C.sc]
    rcases Bool.or_eq_true_iff.mp h.2 with g | g
    · exact ⟨.inl (lclOf g), .inr (lclOf g)⟩
    · rw [Bool.and_eq_true] at g
      exact ⟨.inr (celOf g.1), .inl (C.fb nm g.1 g.2)⟩
  refine pgMono (pg_name C.nd hi hl.1 hl.2) fun v σ H Q ⟨a, σ', S, Z, R, m, r, ha, h⟩ => ?_
  unfold asgT at h
  by_cases g : i < σ'.length
  · rw [if_pos g] at h
    exact h.fin ha.sim _ (ha.env.set g r) off_set
  · rw [if_neg g] at h
    exact False.elim h
theorem t_sub {o i : E} {l r : Expr} {p : Pos} (po : PE X l (tE X.K ca W cf cs o)) (pi : PE X r (tE X.K ca W cf cs i)) (hs : noSlice r = true) : PG X (.Subscript l r p) (tG X.K ca W cf cs (.sub o i)) := by
  refine pgMono (pg_sub po pi set_list (by intro v; cases r <;> first | rfl | cases hs)) fun v σ H Q ⟨a, σ', S, Z, R, m, rv, ha, h⟩ => ?_
  have h : OutW X.K ca W σ Z R m ((((evE cf cs o σ' S).bind fun x s1 => (evE cf cs i σ' s1).bind fun y s2 => Res.ok (x, y) s2).nox).bind _) _ := h
  have h := (h.of_bind).nox (W' := fun cv d => W cv d σ)
  refine intoE ha h fun x v1 S1 R1 m1 H1 e1 a1 r1 h1 => ?_
  refine intoE a1 h1 fun y u S2 R2 m2 H2 e2 a2 r2 h2 => ?_
  have h3 := h2.fin a2.sim
  cases x with
  | cell j =>
    cases y with
    | int k =>
      cases r2
      obtain ⟨xs, hx, h4⟩ := OutE.ofO h3
      obtain ⟨j2, hj, h5⟩ := h4.ofO
      obtain ⟨p, vs, ep, f1, f2, f3, f4⟩ := cell_at a2.sim (r1.mono e2) hx
      refine ⟨p, vs, k, j2, ep, rfl, f3, by rw [f4.length]; exact hj, ?_⟩
      exact h5 _ _ _ (Ext.refl _ _) (a2.sim.write f2 f1 (f4.set ((rv.mono e1).mono e2) j2)) _ a2.env ⟨rfl, fun _ _ => rfl⟩
    | _ => exact False.elim h3
  | _ => exact False.elim h3
theorem ts_nil : PGs X [] (tGs X.K ca W cf cs .nil) := pgsMono pgs_nil fun v σ H Q ⟨a, σ', S, Z, R, m, rv, ha, h⟩ => by
  cases a with
  | nil =>
    cases rv
    exact ⟨rfl, h.fin ha.sim _ ha.env ⟨rfl, fun _ _ => rfl⟩⟩
  | cons x xs => exact False.elim h
/-- a target's form -/
theorem chkT_each {t : T} {x : Expr} {xs : List Expr} (h : chkT nf q t x = true) (env : PySem.Env) : assignEach (x :: xs) env = (false, assign x env) :: assignEach xs env := by
  cases x with
  | Starred y p => cases t <;> exact absurd h (by simp [chkT])
  | _ => rfl
theorem chkTs_fst (env : PySem.Env) : ∀ (ts : Ts) (xs : List Expr), chkTs nf q ts xs = true → ∀ y ∈ assignEach xs env, y.1 = false
  | .nil, xs, h => by
    unfold chkTs at h
    split at h
    · exact fun y hy => absurd hy (by simp [assignEach])
    · cases h
  | .cons t r, xs, h => by
    unfold chkTs at h
    split at h
    · rw [Bool.and_eq_true] at h
      rw [chkT_each h.1]
      intro y hy
      rcases List.mem_cons.mp hy with rfl | hy
      · rfl
      · exact chkTs_fst env r _ h.2 y hy
    · cases h
theorem chkTs_find {ts : Ts} {xs : List Expr} (h : chkTs nf q ts xs = true) (env : PySem.Env) : (assignEach xs env).findIdx? (·.1) = none := by
  rw [List.findIdx?_eq_none_iff]
  exact chkTs_fst env ts xs h
end
end Dy
end

section
set_option Elab.async false
set_option linter.all false
set_option maxRecDepth 100000
set_option maxHeartbeats 4000000
namespace Dy
open PySem PySem.Spec PyProof.Rows L2
/-! ### no error leaves a target -/
def NoX {α : Type} (r : Res α) : Prop := ∀ x s, r ≠ .exc x s
theorem NoX.bind {α β : Type} {r : Res α} {f : α → Dy.S → Res β} (h : NoX r) (g : ∀ a s, NoX (f a s)) : NoX (r.bind f) := by
  cases r with
  | ok a s => exact g a s
  | exc x s => exact absurd rfl (h x s)
  | bad => exact fun x s e => by cases e
theorem NoX.ok {α : Type} {a : α} {s : Dy.S} : NoX (.ok a s) := fun x s e => by cases e
theorem NoX.bad {α : Type} : NoX (.bad : Res α) := fun x s e => by cases e
theorem NoX.ofO {α : Type} {o : Option α} {s : Dy.S} : NoX (Dy.ofO o s) := by
  cases o with
  | none => exact NoX.bad
  | some a => exact NoX.ok
theorem NoX.nox {α : Type} {r : Res α} : NoX r.nox := by
  cases r with
  | ok a s => exact NoX.ok
  | exc x s => exact NoX.bad
  | bad => exact NoX.bad
section
variable {cf : CF} {cs : List A}
mutual
theorem nox_asg : ∀ (t : T) (a : A) (σ : Env) (s : Dy.S), NoX (asgT cf cs t a σ s)
  | .v i, a, σ, s => by
    unfold asgT
    by_cases h : i < σ.length
    · rw [if_pos h]
      exact NoX.ok
    · rw [if_neg h]
      exact NoX.bad
  | .tup ts, a, σ, s => by
    unfold asgT
    cases itemsT s a with
    | some xs => exact nox_asgs ts xs σ s
    | none => exact NoX.bad
  | .sub o i, a, σ, s => by
    unfold asgT
    refine NoX.bind NoX.nox fun p s2 => ?_
    split
    · exact NoX.bind NoX.ofO fun _ _ => NoX.bind NoX.ofO fun _ _ => NoX.ok
    · exact NoX.bad
theorem nox_asgs : ∀ (t : Ts) (a : List A) (σ : Env) (s : Dy.S), NoX (asgTs cf cs t a σ s)
  | .nil, [], σ, s => NoX.ok
  | .nil, _ :: _, σ, s => NoX.bad
  | .cons t r, [], σ, s => NoX.bad
  | .cons t r, x :: xs, σ, s => NoX.bind (nox_asg t x σ s) fun σ1 s1 => nox_asgs r xs σ1 s1
end
def Ts.len : Ts → Nat
  | .nil => 0
  | .cons _ r => r.len + 1
theorem asgs_len : ∀ (t : Ts) (a : List A) (σ : Env) (s : Dy.S) (σ2 : Env) (s2 : Dy.S), asgTs cf cs t a σ s = .ok σ2 s2 → a.length = t.len
  | .nil, [], _, _, _, _, _ => rfl
  | .nil, _ :: _, _, _, _, _, h => by cases h
  | .cons t r, [], _, _, _, _, h => by cases h
  | .cons t r, x :: xs, σ, s, σ2, s2, h => by
    have h : ((asgT cf cs t x σ s).bind fun σ1 s1 => asgTs cf cs r xs σ1 s1) = .ok σ2 s2 := h
    cases e : asgT cf cs t x σ s with
    | ok σ1 s1 =>
      rw [e] at h
      exact congrArg (· + 1) (asgs_len r xs σ1 s1 σ2 s2 h)
    | exc x s =>
      rw [e] at h
      cases h
    | bad =>
      rw [e] at h
      cases h
end
theorem OutE.any {K : PySem.W.Frag} {ca : List Addr} {W W' : Value → Option Addr → Hp → Prop} {α : Type} {Z R : Hp} {m : List Addr} {r : Res α} {k : α → Dy.S → Hp → List Addr → Hp → Prop} (h : OutE K ca W Z R m r k) (n : NoX r) : OutE K ca W' Z R m r k := by
  cases r with
  | ok a s => exact h
  | exc x s => exact absurd rfl (n x s)
  | bad => exact h
theorem Off.trans {a b : List Nat} {σ1 σ2 σ3 : L2.St} (h : Off a σ1 σ2) (g : Off b σ2 σ3) : Off (a ++ b) σ1 σ3 := ⟨g.1.trans h.1, fun j hj => by
  rw [List.mem_append, not_or] at hj
  exact (g.2 j hj.2).trans (h.2 j hj.1)⟩
section
variable {K : PySem.W.Frag} {ca : List Addr} {W : WX} {cf : CF} {cs : List A} {nf : Info} {n : Nat} {q : Blk} {X : Cx}
theorem chkTs_len : ∀ (ts : Ts) (xs : List Expr), chkTs nf q ts xs = true → ∀ env, (assignEach xs env).length = ts.len
  | .nil, xs, h, env => by
    unfold chkTs at h
    split at h
    · rfl
    · cases h
  | .cons t r, xs, h, env => by
    unfold chkTs at h
    split at h
    · rw [Bool.and_eq_true] at h
      rw [chkT_each h.1]
      exact congrArg (· + 1) (chkTs_len r _ h.2 env)
    · cases h
theorem ts_cons {t : T} {r : Ts} {x : Expr} {xs : List Expr} (hx : chkT nf q t x = true) (pt : PG X x (tG X.K ca W cf cs t)) (pr : PGs X xs (tGs X.K ca W cf cs r)) : PGs X (x :: xs) (tGs X.K ca W cf cs (.cons t r)) := by
  refine pgsMono (pgs_cons pt pr (by rw [chkT_each hx] <;> rfl)) fun v σ H Q ⟨as, σ', S, Z, R, m, rv, ha, h⟩ => ?_
  cases as with
  | nil => exact False.elim h
  | cons a as =>
    cases rv with
    | cons r1 r2 =>
      refine ⟨_, _, rfl, a, σ', S, Z, R, m, r1, ha, (OutE.of_bind h).imp fun σ1 S1 R1 m1 H1 e1 s1 h1 σ3 en off => ?_⟩
      refine ⟨as, σ1, S1, Z, R1, m1, r2.mono e1, ⟨en, s1⟩, (OutE.any h1 (nox_asgs r as σ1 S1)).imp fun σ4 S4 R4 m4 H4 e4 s4 h4 σ5 en5 off5 => ?_⟩
      exact h4 σ5 en5 (off.trans off5)
theorem pgOr {x : Expr} {t t1 t2 : TG} (h1 : PG X x t1) (h2 : PG X x t2) (q : ∀ v σ H Q, t v σ H Q → t1 v σ H Q ∨ t2 v σ H Q) : PG X x t := ⟨fun pins s σ H v u Q I r hw => by
  rcases q v σ H Q hw with h | h
  · exact h1.run pins s σ H v u Q I r h
  · exact h2.run pins s σ H v u Q I r h⟩
theorem t_tup {ts : Ts} {xs : List Expr} {k : Nat} {p : Pos} (C : Cok nf cs cf ca n q W X) (hx : chkTs nf q ts xs = true) (ps : PGs X xs (tGs X.K ca W cf cs ts)) : PG X (.Tuple xs k p) (tG X.K ca W cf cs (.tup ts)) := by
  refine pgOr (pg_tup C.calm ps (n := ts.len) (chkTs_len ts xs hx X.env) (chkTs_find hx X.env)) (pg_unl C.calm ps (n := ts.len) (chkTs_len ts xs hx X.env) (chkTs_find hx X.env)) fun v σ H Q ⟨a, σ', S, Z, R, m, rv, ha, h⟩ => ?_
  have h : OutW X.K ca W σ Z R m (match itemsT S a with | some xs => asgTs cf cs ts xs σ' S | none => .bad) _ := h
  cases hi : itemsT S a with
  | none =>
    rw [hi] at h
    exact False.elim h
  | some as =>
    rw [hi] at h
    have hh : OutW X.K ca W σ Z R m (asgTs cf cs ts as σ' S) _ := h
    clear h
    have hl : as.length = ts.len := by
      have nx := nox_asgs (cf := cf) (cs := cs) ts as σ' S
      revert hh nx
      cases e : asgTs cf cs ts as σ' S with
      | ok σ2 s2 => exact fun _ _ => asgs_len ts as σ' S σ2 s2 e
      | exc x s => exact fun _ nx => absurd rfl (nx x s)
      | bad => exact fun h _ => False.elim h
    cases a with
    | tup as' =>
      cases hi
      cases rv with
      | tup q1 q2 => exact .inl ⟨_, _, rfl, sqT_sub ha.sim.sub q1, by rw [q2.length]; exact hl, as, σ', S, Z, R, m, q2, ha, hh⟩
    | lst ys =>
      obtain ⟨p, vs, e, q1, q2⟩ := list_at ha.sim rv (show itemsL S (.lst ys) = some as from hi)
      exact .inr ⟨p, vs, e, q1, by rw [q2.length]; exact hl, as, σ', S, Z, R, m, q2, ha, hh⟩
    | ro ys =>
      obtain ⟨p, vs, e, q1, q2⟩ := list_at ha.sim rv (show itemsL S (.ro ys) = some as from hi)
      exact .inr ⟨p, vs, e, q1, by rw [q2.length]; exact hl, as, σ', S, Z, R, m, q2, ha, hh⟩
    | cell j =>
      obtain ⟨p, vs, e, q1, q2⟩ := list_at ha.sim rv (show itemsL S (.cell j) = some as from hi)
      exact .inr ⟨p, vs, e, q1, by rw [q2.length]; exact hl, as, σ', S, Z, R, m, q2, ha, hh⟩
    | _ => cases hi
/-! ### comprehensions -/
theorem wipe_get : ∀ (vs : List Nat) (σ : L2.St) (j : Nat), (wipe σ vs)[j]? = if j ∈ vs then (if j < σ.length then some none else none) else σ[j]?
  | [], σ, j => by rw [if_neg (by simp)] <;> rfl
  | v :: vs, σ, j => by
    show ((wipe σ vs).set v none)[j]? = _
    by_cases e : v = j
    · subst e
      rw [if_pos (by simp)]
      by_cases hl : v < σ.length
      · rw [if_pos hl, List.getElem?_set_self (by rw [wipe_length]; exact hl)]
      · rw [if_neg hl]
        exact List.getElem?_eq_none (by rw [List.length_set, wipe_length]; omega)
    · rw [List.getElem?_set_ne e, wipe_get vs σ j]
      have : j ∈ v :: vs ↔ j ∈ vs := by
        rw [List.mem_cons]
        exact ⟨fun h => h.elim (fun z => absurd z.symm e) id, .inr⟩
      by_cases hm : j ∈ vs
      · rw [if_pos hm, if_pos (this.mpr hm)]
      · rw [if_neg hm, if_neg (fun z => hm (this.mp z))]
theorem wipe_off {own is : List Nat} {σ σ3 : L2.St} (h : Off is (wipe σ own) σ3) (hs : ∀ i ∈ is, i ∈ own) : wipe σ3 own = wipe σ own := by
  apply List.ext_getElem?
  intro j
  have hl : σ3.length = σ.length := by rw [h.1, wipe_length]
  rw [wipe_get, wipe_get, hl]
  by_cases hm : j ∈ own
  · rw [if_pos hm, if_pos hm]
  · rw [if_neg hm, if_neg hm]
    have := h.2 j fun z => hm (hs j z)
    rw [this, wipe_get, if_neg hm]
mutual
theorem ownOk_slots {own : List Nat} : ∀ {t : T}, t.ownOk own = true → ∀ i ∈ t.slots, i ∈ own
  | .v i, h, j, hj => by
    have e : j = i := by simpa [T.slots] using hj
    subst e
    exact of_decide_eq_true h
  | .tup ts, h, j, hj => ownOks_slots (ts := ts) h j hj
  | .sub _ _, h, _, _ => by cases h
theorem ownOks_slots {own : List Nat} : ∀ {ts : Ts}, ts.ownOk own = true → ∀ i ∈ ts.slots, i ∈ own
  | .nil, _, j, hj => by simp [Ts.slots] at hj
  | .cons (.v i) r, h, j, hj => by
    have h' : (decide (i ∈ own) && r.ownOk own) = true := h
    rw [Bool.and_eq_true] at h'
    have hj' : j ∈ [i] ++ r.slots := hj
    rcases List.mem_append.mp hj' with g | g
    · have e : j = i := by simpa using g
      subst e
      exact of_decide_eq_true h'.1
    · exact ownOks_slots (ts := r) h'.2 j g
  | .cons (.tup _) _, h, _, _ => by cases h
  | .cons (.sub _ _) _, h, _, _ => by cases h
end
/-- within a comprehension nothing is wished of errors -/
abbrev W0 : WX := fun _ _ _ _ => False
theorem red_comp {own : List Nat} {t : T} {i : I} {c : Eo} {e : E} {σ : L2.St} {H : Hp} {Q : VK} (ho : t.ownOk own = true) (h : tL K ca W cf cs (.comp own t i c e) σ H Q) :
    tLc (tI K ca W cf cs i) (tG K ca W0 cf cs t) (Dy.tC K ca W0 cf cs c) (tE K ca W0 cf cs e) own σ H Q := by
  obtain ⟨σ', S, Z, R, m, ha, h⟩ := h
  have h : OutW K ca W σ Z R m ((evI cf cs i σ' S).bind _) _ := h
  refine ⟨σ', S, Z, R, m, ha, h.of_bind.imp fun w S1 R1 m1 H1 e1 s1 h1 J wk g0 D hD => ?_⟩
  by_cases hlen : w.1.length ≤ sizeLine
  case neg =>
    rw [if_neg hlen] at h1
    exact False.elim h1
  rw [if_pos hlen] at h1
  have hZD : Z D = none := s1.zfree hD
  generalize hf : (fun (x : A) (s2 : Dy.S) => ((asgT cf cs t x (wipeA σ' own) s2).bind fun σ' s3 => (evC cf cs c σ' s3).bind fun b s4 => if b then (evE cf cs e σ' s4).bind fun y s5 => Res.ok (some y) s5 else .ok none s4).nox) = f at h1
  generalize hk : (fun (xs : List A) (S' : Dy.S) (R' : Hp) (m' : List Addr) (H' : Hp) => ∀ (p : Addr) (vs : List V), H' p = some (.lst vs) → Lone R' m' S' p → Z p = none → Reps K R' m' xs vs → Q (.ref p) H') = kf at h1
  have envW : EnvR K R1 m1 (wipeA σ' own) (wipe σ own) := (ha.env.mono e1).wipe own
  refine ⟨fun i msr H' => msr = w.1.length - i ∧ i ≤ w.1.length ∧ ∃ (R' : Hp) (m' : List Addr) (S' : Dy.S) (acc : List A) (accv : List V), Ext R1 m1 R' m' ∧ Sim K Z R' m' S' H' ∧ grdB w.2 S' = true ∧ Lone R' m' S' D ∧ H' D = some (.lst accv) ∧ Reps K R' m' acc accv ∧ acc.length ≤ i ∧
    OutW K ca W σ Z R' m' ((mapR w.2 f (w.1.drop i) S').bind fun r s => .ok (acc ++ r) s) kf, ⟨w.1.length, rfl, Nat.zero_le _, R1, m1, S1, [], [], Ext.refl _ _, s1.junk hD, g0, s1.lone hD, upd_same, .nil, Nat.le_refl _, ?_⟩, ?_⟩
  · have eq : ((mapR w.2 f (w.1.drop 0) S1).bind fun r s => Res.ok ([] ++ r) s) = mapR w.2 f w.1 S1 := by
      show ((mapR w.2 f w.1 S1).bind fun r s => Res.ok r s) = _
      cases mapR w.2 f w.1 S1 <;> rfl
    rw [eq]
    exact h1
  · rintro i msr H2 ⟨rfl, hi, R2, m2, S2, acc, accv, e2, s2, g2, l2, d2, r2, ln, o2⟩
    by_cases hlt : i < w.1.length
    · have ed : w.1.drop i = w.1[i] :: w.1.drop (i + 1) := List.drop_eq_getElem_cons hlt
      have ei : w.1[i]? = some w.1[i] := List.getElem?_eq_getElem hlt
      have hzz : ∀ a o, Z a = some o → upd Z D (.lst accv) a = some o := fun a o h => by
        rw [upd_ne (ne_of_none h hZD)]
        exact h
      obtain ⟨hgo, hyld⟩ := wk.go i _ (upd Z D (.lst accv)) R2 m2 S2 H2 e2 (s2.hold l2 d2) g2 ei
      rw [ed] at o2
      refine .inr ⟨hgo, fun H' => i + 1 ≤ w.1.length ∧ ∃ (R' : Hp) (m' : List Addr) (S' : Dy.S) (acc : List A) (accv : List V), Ext R1 m1 R' m' ∧ Sim K Z R' m' S' H' ∧ grdB w.2 S' = true ∧ Lone R' m' S' D ∧ H' D = some (.lst accv) ∧ Reps K R' m' acc accv ∧ acc.length ≤ i + 1 ∧
        OutW K ca W σ Z R' m' ((mapR w.2 f (w.1.drop (i + 1)) S').bind fun r s => .ok (acc ++ r) s) kf, fun H' hN => ⟨w.1.length - (i + 1), by omega, rfl, hN⟩, fun x H3 hx => ?_⟩
      obtain ⟨R3, e3, s3, r3⟩ := hyld x H3 hx
      have o2 : OutW K ca W σ Z R2 m2 ((f w.1[i] S2).bind fun o s1 => ((if grdB w.2 s1 then (mapR w.2 f (w.1.drop (i + 1)) s1).bind fun r s2 => Res.ok (o.toList ++ r) s2 else .bad).bind fun r s => Res.ok (acc ++ r) s)) kf := by
        rw [← bind_assoc]
        exact o2
      have o3 := OutE.of_bind (OutE.mono o2 e3)
      generalize hk1 : (fun (o : Option A) (s1 : Dy.S) (R' : Hp) (m' : List Addr) (_ : Hp) => OutE K ca (fun cv d => W cv d σ) Z R' m' ((if grdB w.2 s1 then (mapR w.2 f (w.1.drop (i + 1)) s1).bind fun r s2 => Res.ok (o.toList ++ r) s2 else .bad).bind fun r s => Res.ok (acc ++ r) s) kf) = k1 at o3
      rw [← hf] at o3
      have o5 := OutE.prot (OutE.nox (W' := fun cv d => W0 cv d σ) o3) hzz
      refine ⟨_, wipeA σ' own, S2, upd Z D (.lst accv), R3, m2, r3, ⟨envW.mono (e2.trans e3), s3⟩, (OutE.of_bind o5).imp fun σ2 S4 R4 m4 H4 e4 s4 h4 σ3 en off => ⟨wipe_off off (ownOk_slots ho), ?_⟩⟩
      refine ⟨σ2, S4, upd Z D (.lst accv), R4, m4, ⟨en, s4⟩, (OutE.of_bind h4).imp fun b S5 R5 m5 H5 e5 s5 h5 => ?_⟩
      -- a turn's end
      have fin : ∀ (o : Option A) (S6 : Dy.S) (R6 : Hp) (m6 : List Addr) (H6 : Hp), Ext R5 m5 R6 m6 → Sim K (upd Z D (.lst accv)) R6 m6 S6 H6 → k1 o S6 R6 m6 H6 → grdB w.2 S6 = true ∧ H6 D = some (.lst accv) ∧ Lone R6 m6 S6 D ∧ Ext R1 m1 R6 m6 ∧ Reps K R6 m6 acc accv ∧
          OutW K ca W σ Z R6 m6 ((mapR w.2 f (w.1.drop (i + 1)) S6).bind fun r s => .ok ((acc ++ o.toList) ++ r) s) kf := fun o S6 R6 m6 H6 e6 s6 h6 => by
        obtain ⟨q1, q2⟩ := s6.prot D _ upd_same
        have ex : Ext R2 m2 R6 m6 := e3.trans (e4.trans (e5.trans e6))
        rw [← hk1] at h6
        by_cases gg : grdB w.2 S6 = true
        · rw [if_pos gg, bind_assoc] at h6
          refine ⟨gg, q1, q2, e2.trans ex, r2.mono ex, ?_⟩
          have eq : ((mapR w.2 f (w.1.drop (i + 1)) S6).bind fun r s => Res.ok ((acc ++ o.toList) ++ r) s) = ((mapR w.2 f (w.1.drop (i + 1)) S6).bind fun a s => (Res.ok (o.toList ++ a) s).bind fun r s => Res.ok (acc ++ r) s) := by
            congr 1
            funext r s
            rw [List.append_assoc] <;> rfl
          rw [eq]
          exact h6
        · rw [if_neg gg] at h6
          exact False.elim h6
      cases b with
      | true =>
        refine iteT ⟨σ2, S5, upd Z D (.lst accv), R5, m5, ⟨en.mono e5, s5⟩, (OutE.of_bind h5).imp fun y S6 R6 m6 H6 e6 s6 h6 yv ry => ?_⟩
        obtain ⟨f1, f2, f3, f4, f5, f6⟩ := fin (some y) S6 R6 m6 H6 e6 s6 (OutE.fin h6 s6)
        refine ⟨accv, f2, by rw [r2.length]; omega, by omega, R6, m6, S6, acc ++ [y], accv ++ [yv], f4, (s6.drop hzz).jot f3 hZD, f1, f3, upd_same, f5.append (.cons ry .nil), ?_, f6⟩
        rw [List.length_append]
        exact Nat.add_le_add_right ln 1
      | false =>
        obtain ⟨f1, f2, f3, f4, f5, f6⟩ := fin none S5 R5 m5 H5 (Ext.refl _ _) s5 (OutE.fin h5 s5)
        refine iteF ⟨by omega, R5, m5, S5, acc, accv, f4, s5.drop hzz, f1, f3, f2, f5, by omega, ?_⟩
        have ea : acc ++ (none : Option A).toList = acc := List.append_nil acc
        rw [ea] at f6
        exact f6
    · have e0 : w.1.drop i = [] := List.drop_eq_nil_of_le (by omega)
      rw [e0] at o2
      have o2 : OutW K ca W σ Z R2 m2 (.ok (acc ++ []) S2) kf := o2
      rw [List.append_nil] at o2
      have o3 := OutE.fin o2 s2
      rw [← hk] at o3
      exact .inl ⟨wk.stop i Z R2 m2 S2 H2 e2 s2 g2 (by omega), o3 D accv d2 l2 hZD r2⟩
end
end Dy
end

section
set_option Elab.async false
set_option linter.all false
set_option maxRecDepth 100000
set_option maxHeartbeats 4000000
namespace Dy
open PySem PySem.Spec PyProof.Rows L2
section
variable {ca : List Addr} {W : WX} {cf : CF} {cs : List A} {nf : Info} {n : Nat} {q : Blk} {X : Cx}
/-! ### keywords -/
theorem pkMono {x : List Keyword} {t t' : TA} (h : PK X x t) (q : ∀ σ H Q, t' σ H Q → t σ H Q) : PK X x t' := ⟨fun pos pins s σ H Q I hw => h.run pos pins s σ H Q I (q σ H Q hw)⟩
theorem k_nil : PK X [] (tEs X.K ca W cf cs .nil) := pkMono pk_nil fun σ H Q ⟨σ', S, Z, R, m, ha, h⟩ => h.fin ha.sim _ .nil
theorem k_cons {e : E} {r : Es} {x : Expr} {xs : List Keyword} {nm : Option Str} {p : Pos} (pe : PE X x (tE X.K ca W cf cs e)) (pr : PK X xs (tEs X.K ca W cf cs r)) : PK X (⟨nm, x, p⟩ :: xs) (tEs X.K ca W cf cs (.cons e r)) := by
  refine pkMono (pk_cons pe pr) fun σ H Q ⟨σ', S, Z, R, m, ha, h⟩ => ?_
  refine intoE ha h fun x v S1 R1 m1 H1 e1 a1 r1 h1 => ?_
  refine intoEs a1 h1 fun y u S2 R2 m2 H2 e2 a2 r2 h2 => ?_
  exact h2.fin a2.sim _ (.cons (r1.mono e2) r2)
theorem chkKs_all {ks : Es} : ∀ {kws : List Keyword}, chkKs nf q ks kws = true → ∀ (p : Pos) (env : PySem.Env), (backToKw p (keywordEach kws env)).all (·.1.isSome) = true ∧ (backToKw p (keywordEach kws env)).any (·.1.isNone) = false ∧
    (backToKw p (keywordEach kws env)).filterMap (·.1) = kws.filterMap (fun w => w.1) ∧ (kws.filterMap (fun w => w.1)).length = ks.len := by
  induction ks using Es.rec (motive_1 := fun _ => True) (motive_3 := fun _ => True) (motive_4 := fun _ => True) (motive_5 := fun _ => True) (motive_6 := fun _ => True) (motive_7 := fun _ => True) with
  | nil =>
    intro kws h p env
    unfold chkKs at h
    split at h
    · exact ⟨rfl, rfl, rfl, rfl⟩
    · cases h
  | cons e r _ ih =>
    intro kws h p env
    unfold chkKs at h
    split at h
    · rename_i n x _ ys
      rw [Bool.and_eq_true, Bool.and_eq_true] at h
      obtain ⟨h1, h2, h3, h4⟩ := ih h.2 p env
      cases n with
      | none => exact absurd h.1.1 (by decide)
      | some m =>
        refine ⟨?_, ?_, ?_, ?_⟩
        · show (true && (backToKw p (keywordEach ys env)).all (·.1.isSome)) = true
          rw [h1] <;> rfl
        · show (false || (backToKw p (keywordEach ys env)).any (·.1.isNone)) = false
          rw [h2] <;> rfl
        · show m :: (backToKw p (keywordEach ys env)).filterMap (·.1) = m :: ys.filterMap (fun w => w.1)
          rw [h3]
        · exact congrArg (· + 1) h4
    · cases h
  | star e r _ _ =>
    intro kws h
    cases h
  | _ => trivial
theorem vals_getD : ∀ {vs : List V} {us : List Value}, Vals vs us → ∀ i : Nat, RelV (vs.getD i .non) (us.getD i .none)
  | _, _, .nil, _ => by
    rw [List.getD_nil, List.getD_nil] <;> rfl
  | _, _, .cons r _, 0 => r
  | _, _, .cons _ t, i + 1 => vals_getD t i
theorem vals_pick {vs : List V} {us : List Value} (h : Vals vs us) : ∀ pm : List Nat, Vals (pm.map fun i => vs.getD i .non) (pm.map fun i => us.getD i .none)
  | [] => .nil
  | i :: pm => .cons (vals_getD h i) (vals_pick h pm)
theorem reps_getD {K : PySem.W.Frag} {R : Hp} {m : List Addr} : ∀ {xs : List A} {vs : List V}, Reps K R m xs vs → ∀ i : Nat, Rep K R m (xs.getD i .non) (vs.getD i .non)
  | _, _, .nil, _ => by
    rw [List.getD_nil, List.getD_nil]
    exact .non
  | _, _, .cons r _, 0 => r
  | _, _, .cons _ t, i + 1 => reps_getD t i
theorem reps_pick {K : PySem.W.Frag} {R : Hp} {m : List Addr} {xs : List A} {vs : List V} (h : Reps K R m xs vs) : ∀ pm : List Nat, Reps K R m (pm.map fun i => xs.getD i .non) (pm.map fun i => vs.getD i .non)
  | [] => .nil
  | i :: pm => .cons (reps_getD h i) (reps_pick h pm)
theorem s_callK {f : Nat} {es ks : Es} {pm : List Nat} {nm : Str} {ys : List Expr} {kws : List Keyword} {p p2 : Pos} (C : Cok nf cs cf ca n q W X) (hf : (nf.fns[f]?).map (·.1) = some nm) (hg : globB q nm = true) (hn : noStar es = true)
    (hc : chkEs nf q es ys = true) (hck : chkKs nf q ks kws = true) (hm : (f, es.len, kws.filterMap (fun w => w.1), pm) ∈ nf.kws) (pa : PA X ys (tEs X.K ca W cf cs es)) (pk : PK X kws (tEs X.K ca W cf cs ks)) :
    PE X (.Call (.Name nm p) ys kws p2) (tE X.K ca W cf cs (.callK f es ks pm)) := by
  obtain ⟨g1, g2, g3⟩ := C.glo hg
  obtain ⟨⟨nm', ps⟩, e1, e2⟩ := omap hf
  have e2 : nm' = nm := e2
  subst e2
  obtain ⟨a, fd, m1, m2, m3, m4, m5, m6⟩ := C.tab.fn f _ ps e1
  obtain ⟨hpm, hb⟩ := m4 _ _ _ hm
  obtain ⟨k1, k2, k3, k4⟩ := chkKs_all hck p2 X.env
  have hany := chkEs_any hc hn X.env
  have hpl : ((backTo p2 (starEach ys X.env)).any (·.1) || (backToKw p2 (keywordEach kws X.env)).any (·.1.isNone)) = false := by
    rw [backTo_any, hany, k2] <;> rfl
  -- behind the arguments
  have fin : ∀ (pins : List (Addr × Obj)) (s2 : Shared) (σ : L2.St) (H2 : Hp) (Q : VK) (us ws : List Value) (vs zs : List V) (I2 : Inv X pins σ H2 s2) (r : Vals vs us) (rz : Vals zs ws),
      (∃ (σ' : Env) (S : Dy.S) (Z R : Hp) (m : List Addr) (xs bs : List A), At X.K σ' S Z R m σ H2 ∧ Reps X.K R m xs vs ∧ Reps X.K R m bs zs ∧ OutW X.K ca W σ Z R m (if xs.length = es.len ∧ bs.length = ks.len then cf f (pm.map fun i => (xs ++ bs).getD i .non) S else .bad) fun a _ R' m' H' => ∀ v, Rep X.K R' m' a v → Q v H') →
      wpAny (model X.prog X.w) X.A (call (.ref a) us ((kws.filterMap (fun w => w.1)).zip ws)) (EP X pins σ Q) X.xe s2 := by
    rintro pins s2 σ H2 Q us ws vs zs I2 r rz ⟨σ', S, Z, R, m, xs, bs, ha, q1, q2, o⟩
    by_cases hl : xs.length = es.len ∧ bs.length = ks.len
    · rw [if_pos hl] at o
      have l1 : us.length = es.len := by rw [← r.length, q1.length]; exact hl.1
      have l2 : ws.length = (kws.filterMap (fun w => w.1)).length := by rw [← rz.length, q2.length, k4]; exact hl.2
      have vv := vals_pick (r.append rz) pm
      have rr := reps_pick (q1.append q2) pm
      refine wpAny_call (codeAny_mono (m5.run X.A X.stack s2 H2 ⟨us, (kws.filterMap (fun w => w.1)).zip ws⟩ _ _ Q (WE W σ) C.room I2.env0 (hb s2 us ws I2.kIn l1 l2) vv ⟨by rw [List.length_map]; exact hpm, Z, R, m, S, _, ha.sim, rr, o⟩) fun r' s' hq => ?_)
      cases r' with
      | error e => exact passAt C.tk σ pins H2 s2 e s' I2 hq
      | ok fl =>
        cases fl with
        | ret u => exact I2.after hq
        | next => exact False.elim hq
        | brk => exact False.elim hq
        | cont => exact False.elim hq
    · rw [if_neg hl] at o
      exact False.elim o
  refine ⟨fun pins s σ H Q I ⟨σ', S, Z, R, m, ha, h⟩ => ?_⟩
  have h : OutW X.K ca W σ Z R m ((evEs cf cs es σ' S).bind fun xs s1 => (evEs cf cs ks σ' s1).bind fun ys s2 => if xs.length = es.len ∧ ys.length = ks.len then cf f (pm.map fun i => (xs ++ ys).getD i .non) s2 else .bad) _ := h
  refine wpAny_Call_Name_kw (ld_glob I g1 m1 ?_ g2)
  cases ys with
  | nil =>
    cases es with
    | nil =>
      refine PySem.W.callWith_KW0 (h₀ := X.base) I.ok.mod.kin m2 k1 (thn (pk.run p2 pins s σ H _ I (intoEs ha (h : OutW X.K ca W σ Z R m ((evEs cf cs ks σ' S).bind fun ys s2 => if ([] : List A).length = (Es.nil).len ∧ ys.length = ks.len then cf f (pm.map fun i => (([] : List A) ++ ys).getD i .non) s2 else .bad) _) fun bs zs S1 R1 m1 H1 e1 a1 r1 h1 => (⟨σ', S1, Z, R1, m1, [], bs, a1, .nil, r1, h1⟩ : ∃ (σ' : Env) (S : Dy.S) (Z R : Hp) (m : List Addr) (xs bs : List A), At X.K σ' S Z R m σ H1 ∧ Reps X.K R m xs [] ∧ Reps X.K R m bs zs ∧ OutW X.K ca W σ Z R m (if xs.length = (Es.nil).len ∧ bs.length = ks.len then cf f (pm.map fun i => (xs ++ bs).getD i .non) S else .bad) fun a _ R' m' H' => ∀ v, Rep X.K R' m' a v → Q v H'))) fun ws s2 ⟨zs, H2, I2, rz, q2⟩ => ⟨I2.kIn, ?_⟩) hpl
      rw [k3]
      exact fin pins s2 σ H2 Q [] ws [] zs I2 .nil rz q2
    | cons e r => exact absurd hc (by simp [chkEs])
    | star e r => cases hn
  | cons y ys =>
    have hy : nst y = true := by
      cases es with
      | nil => exact absurd hc (by simp [chkEs])
      | cons e r =>
        have h' : (nst y && chkE nf q e y && chkEs nf q r ys) = true := hc
        rw [Bool.and_eq_true, Bool.and_eq_true] at h'
        exact h'.1.1
      | star e r => cases hn
    refine PySem.W.callWith_KW (h₀ := X.base) I.ok.mod.kin m2 k1 (thn (pa.run p2 pins s σ H (fun vs H1 => tEs X.K ca W cf cs ks σ H1 fun zs H2 => ∃ (σ' : Env) (S : Dy.S) (Z R : Hp) (m : List Addr) (xs bs : List A), At X.K σ' S Z R m σ H2 ∧ Reps X.K R m xs vs ∧ Reps X.K R m bs zs ∧ OutW X.K ca W σ Z R m (if xs.length = es.len ∧ bs.length = ks.len then cf f (pm.map fun i => (xs ++ bs).getD i .non) S else .bad) fun a _ R' m' H' => ∀ v, Rep X.K R' m' a v → Q v H') I (intoEs ha h fun xs vs S1 R1 m1 H1 e1 a1 r1 h1 => intoEs a1 h1 fun bs zs S2 R2 m2 H2 e2 a2 r2 h2 => ⟨σ', S2, Z, R2, m2, xs, bs, a2, r1.mono e2, r2, h2⟩)) fun us s1 ⟨vs, H1, I1, r, q⟩ => ?_) hpl (nst_one hy _)
    refine thn (pk.run p2 pins s1 σ H1 _ I1 q) fun ws s2 ⟨zs, H2, I2, rz, q2⟩ => ⟨I2.kIn, ?_⟩
    rw [k3]
    exact fin pins s2 σ H2 Q us ws vs zs I2 r rz q2
/-! ### the block of a comprehension -/
theorem Cok.blk {scope : Scope} (C : Cok nf cs cf ca n q W X) (hk : scope.kind = .function) (s : Shared) (H : Hp) (D : Addr) (cl : List (Str × Addr)) (fp : List Addr) :
    Cok nf cs cf ca n (q.inn scope) W0 (X.blk s H scope (compEnvC scope cl D X.env) fp) where
  N := C.N
  nd := C.nd
  sc := by
    show relS scope X.env.scope = relS scope q.sc
    rw [C.sc]
  kind := hk
  calm := C.calm
  fb := fun x _ h => by
    have e := celOf (show celB scope x = true from h)
    show (scope.names.lookup x == some .cell) = true
    rw [e] <;> rfl
  tk := takes0
  room := C.room
  tab := C.tab
theorem l_comp {own : List Nat} {t : T} {i : I} {c : Eo} {e : E} {elt tg iter : Expr} {ifs : List Expr} {scope : Scope} {p : Pos} (C : Cok nf cs cf ca n q W X) (hi : PI X tg iter (tI X.K ca W cf cs i)) (hs : noSet iter = true) (hb : blkC q.N q.sc scope (ownB q own) = true) (ho : t.ownOk own = true)
    (hg : ∀ (s : Shared) (H : Hp) (D : Addr) (cl : List (Str × Addr)) (fp : List Addr), PG (X.blk s H scope (compEnvC scope cl D X.env) fp) tg (tG X.K ca W0 cf cs t)) (ht : ∀ (s : Shared) (H : Hp) (D : Addr) (cl : List (Str × Addr)) (fp : List Addr), PTs (X.blk s H scope (compEnvC scope cl D X.env) fp) ifs (Dy.tC X.K ca W0 cf cs c))
    (he : ∀ (s : Shared) (H : Hp) (D : Addr) (cl : List (Str × Addr)) (fp : List Addr), PE (X.blk s H scope (compEnvC scope cl D X.env) fp) elt (tE X.K ca W0 cf cs e)) : PE X (.ListComp elt [⟨tg, iter, ifs, 0⟩] scope p) (tL X.K ca W cf cs (.comp own t i c e)) := by
  have ok : BlkOk X.N X.env.scope scope (ownB q own) := by
    rw [C.N, C.sc]
    exact blkOk_by hb
  have eo : (ownB q own).map (·.2) = own := by
    unfold ownB
    rw [List.map_map]
    exact List.map_id' own
  refine peMono (pe_lc C.calm C.nd hi ok hg ht he (noSet_fold hs _)) fun σ H Q h => ?_
  rw [eo]
  exact red_comp ho h
end
theorem blk_kind {N : List Str} {sc scope : Scope} {own : List (Str × Nat)} (h : blkC N sc scope own = true) : scope.kind = .function := (blkOk_by h).kind
/-! ### all together -/
section
variable {ca : List Addr} {cf : CF} {cs : List A} {nf : Info} {n : Nat}
theorem ands {a b : Bool} (h : (a && b) = true) : a = true ∧ b = true := by
  rw [Bool.and_eq_true] at h
  exact h
mutual
theorem sE : ∀ (e : E) {q : Blk} {W : WX} {X : Cx}, Cok nf cs cf ca n q W X → ∀ {x : Expr}, chkE nf q e x = true → Snd nf cs cf ca W X e x
  | .c a, _, _, _, C, _, h => s_c C h
  | .v i, _, _, _, C, _, h => s_v C h
  | .g j, _, _, _, C, _, h => s_g C h
  | .bin o a b, q, W, X, C, x, h => by
    unfold chkE at h
    split at h
    · obtain ⟨h, h3⟩ := ands h
      obtain ⟨h1, h2⟩ := ands h
      have e := opB_eq h1
      subst e
      exact Snd.of (s_bin (sE a C h2).pe (sE b C h3).pe) (fun _ => rfl) (fun _ _ _ z => nomatch z)
    · cases h
  | .neg a, q, W, X, C, x, h => by
    unfold chkE at h
    split at h
    · exact Snd.of (s_neg (sE a C h).pe) (fun _ => rfl) (fun _ _ _ z => nomatch z)
    · cases h
  | .not a, q, W, X, C, x, h => by
    unfold chkE at h
    split at h
    · exact s_not (sE a C h).pe (sE a C h).pt
    · cases h
  | .cmp o a b, q, W, X, C, x, h => by
    unfold chkE at h
    split at h
    · obtain ⟨h, h4⟩ := ands h
      obtain ⟨h, h3⟩ := ands h
      obtain ⟨h1, h2⟩ := ands h
      have e := cmpB_eq h1
      subst e
      exact s_cmp C (sE a C h3).pe (sE b C h4).pe h2
    · cases h
  | .chain o o' a b c, q, W, X, C, x, h => by
    unfold chkE at h
    split at h
    · obtain ⟨h, h6⟩ := ands h
      obtain ⟨h, h5⟩ := ands h
      obtain ⟨h, h4⟩ := ands h
      obtain ⟨h, h3⟩ := ands h
      obtain ⟨h1, h2⟩ := ands h
      have e := cmpB_eq h1
      subst e
      have e := cmpB_eq h2
      subst e
      exact s_chain C (sE a C h4).pe (sE b C h5).pe (sE c C h6).pe h3
    · cases h
  | .and2 a b, q, W, X, C, x, h => by
    unfold chkE at h
    split at h
    · obtain ⟨h1, h2⟩ := ands h
      split at h2
      · have sb := sE b C h2
        exact s_and (sE a C h1) (pe_one sb.pe) (pw_and1 sb.pt)
      · have sb := sE b C h2
        exact s_and (sE a C h1) sb.pe (sb.pw _ _ _ rfl)
    · cases h
  | .or2 a b, q, W, X, C, x, h => by
    unfold chkE at h
    split at h
    · obtain ⟨h1, h2⟩ := ands h
      split at h2
      · have sb := sE b C h2
        exact s_or (sE a C h1) (pe_one sb.pe) (pw_or1 sb.pt)
      · have sb := sE b C h2
        exact s_or (sE a C h1) sb.pe (sb.pw _ _ _ rfl)
    · cases h
  | .ite c a b, q, W, X, C, x, h => by
    unfold chkE at h
    split at h
    · obtain ⟨h, h3⟩ := ands h
      obtain ⟨h1, h2⟩ := ands h
      exact s_ite (sE c C h1) (sE a C h2) (sE b C h3)
    · cases h
  | .tup es, q, W, X, C, x, h => by
    unfold chkE at h
    split at h
    · exact Snd.of (s_tup (sEs es C h)) (fun _ => rfl) (fun _ _ _ z => nomatch z)
    · cases h
  | .lst l, q, W, X, C, x, h => by
    obtain ⟨h1, h2, h3⟩ := sL l C (show chkL nf q l x = true from h)
    exact Snd.of (peMono h1 fun _ _ _ z => red_lst z) h2 h3
  | .mk l, q, W, X, C, x, h => by
    obtain ⟨h1, h2, h3⟩ := sL l C (show chkL nf q l x = true from h)
    exact Snd.of (peMono h1 fun _ _ _ z => red_mk z) h2 h3
  | .frz e, q, W, X, C, x, h => by
    unfold chkE at h
    split at h
    · have s := sE e C h
      exact Snd.of (peMono s.pe fun _ _ _ z => red_frz z) (fun _ => rfl) (fun _ _ _ z => nomatch z)
    · cases h
  | .idx a b, q, W, X, C, x, h => by
    unfold chkE at h
    split at h
    · obtain ⟨h, h3⟩ := ands h
      obtain ⟨h1, h2⟩ := ands h
      exact Snd.of (s_idx (sE a C h2).pe (sE b C h3).pe h1) (fun _ => rfl) (fun _ _ _ z => nomatch z)
    · cases h
  | .slice a lo hi, q, W, X, C, x, h => by
    unfold chkE at h
    split at h
    · obtain ⟨h, h3⟩ := ands h
      obtain ⟨h1, h2⟩ := ands h
      exact Snd.of (s_slice (sE a C h1).pe (sEo lo C h2) (sEo hi C h3)) (fun _ => rfl) (fun _ _ _ z => nomatch z)
    · cases h
  | .call f es, q, W, X, C, x, h => by
    unfold chkE at h
    split at h
    · obtain ⟨h, h4⟩ := ands h
      obtain ⟨h, h3⟩ := ands h
      obtain ⟨h1, h2⟩ := ands h
      exact Snd.of (s_call (x := "") C (of_decide_eq_true h1) h2 h3 h4 (sEs es C h4)) (fun _ => rfl) (fun _ _ _ z => nomatch z)
    · cases h
  | .callK f es ks pm, q, W, X, C, x, h => by
    unfold chkE at h
    split at h
    · obtain ⟨h, h6⟩ := ands h
      obtain ⟨h, h5⟩ := ands h
      obtain ⟨h, h4⟩ := ands h
      obtain ⟨h, h3⟩ := ands h
      obtain ⟨h1, h2⟩ := ands h
      exact Snd.of (s_callK C (of_decide_eq_true h1) h2 h3 h4 h5 (of_decide_eq_true h6) (sEs es C h4) (sKs ks C h5)) (fun _ => rfl) (fun _ _ _ z => nomatch z)
    · cases h
  | .bi f es, q, W, X, C, x, h => by
    unfold chkE at h
    split at h
    · obtain ⟨h, h5⟩ := ands h
      obtain ⟨h, h4⟩ := ands h
      obtain ⟨h, h3⟩ := ands h
      obtain ⟨h1, h2⟩ := ands h
      exact Snd.of (s_bi C (of_decide_eq_true h1) h2 h3 h4 h5 (sEs es C h4)) (fun _ => rfl) (fun _ _ _ z => nomatch z)
    · cases h
  | .isi a ts, q, W, X, C, x, h => by
    unfold chkE at h
    split at h
    · obtain ⟨h, h5⟩ := ands h
      obtain ⟨h, h4⟩ := ands h
      obtain ⟨h, h3⟩ := ands h
      obtain ⟨h, h2⟩ := ands h
      obtain ⟨h0, h1⟩ := ands h
      have e := of_decide_eq_true h2
      subst e
      split at h5
      · obtain ⟨h6, h7⟩ := ands h5
        exact Snd.of (s_isiN C h3 h0 (sE a C h4).pe h6 (of_decide_eq_true h7)) (fun _ => rfl) (fun _ _ _ z => nomatch z)
      · cases ts with
        | nil => cases h5
        | cons t ts =>
          cases ts with
          | nil => exact Snd.of (s_isi1 C h3 h0 (sE a C h4).pe (ands h5).1) (fun _ => rfl) (fun _ _ _ z => nomatch z)
          | cons u us =>
            have h6 := (ands h5).2
            cases h6
    · cases h
  | .append o a, q, W, X, C, x, h => by
    unfold chkE at h
    split at h
    · obtain ⟨h, h6⟩ := ands h
      obtain ⟨h, h5⟩ := ands h
      obtain ⟨h, h4⟩ := ands h
      obtain ⟨h, h3⟩ := ands h
      obtain ⟨h1, h2⟩ := ands h
      have e := of_decide_eq_true h2
      subst e
      exact Snd.of (s_append (sE o C h5).pe (sE a C h6).pe h3 h1 h4) (fun _ => rfl) (fun _ _ _ z => nomatch z)
    · cases h
  | .extend o a, q, W, X, C, x, h => by
    unfold chkE at h
    split at h
    · obtain ⟨h, h6⟩ := ands h
      obtain ⟨h, h5⟩ := ands h
      obtain ⟨h, h4⟩ := ands h
      obtain ⟨h, h3⟩ := ands h
      obtain ⟨h1, h2⟩ := ands h
      have e := of_decide_eq_true h2
      subst e
      exact Snd.of (s_extend (sE o C h5).pe (sE a C h6).pe h3 h1 h4) (fun _ => rfl) (fun _ _ _ z => nomatch z)
    · cases h
  | .pop o, q, W, X, C, x, h => by
    unfold chkE at h
    split at h
    · obtain ⟨h, h4⟩ := ands h
      obtain ⟨h, h3⟩ := ands h
      obtain ⟨h1, h2⟩ := ands h
      have e := of_decide_eq_true h1
      subst e
      exact Snd.of (s_pop (sE o C h4).pe h2 h3) (fun _ => rfl) (fun _ _ _ z => nomatch z)
    · cases h
  | .popAt o a, q, W, X, C, x, h => by
    unfold chkE at h
    split at h
    · obtain ⟨h, h6⟩ := ands h
      obtain ⟨h, h5⟩ := ands h
      obtain ⟨h, h4⟩ := ands h
      obtain ⟨h, h3⟩ := ands h
      obtain ⟨h1, h2⟩ := ands h
      have e := of_decide_eq_true h2
      subst e
      exact Snd.of (s_popAt (sE o C h5).pe (sE a C h6).pe h3 h1 h4) (fun _ => rfl) (fun _ _ _ z => nomatch z)
    · cases h
theorem sEs : ∀ (es : Es) {q : Blk} {W : WX} {X : Cx}, Cok nf cs cf ca n q W X → ∀ {xs : List Expr}, chkEs nf q es xs = true → PA X xs (tEs X.K ca W cf cs es)
  | .nil, q, W, X, C, xs, h => by
    unfold chkEs at h
    split at h
    · exact s_nil
    · cases h
  | .cons e r, q, W, X, C, xs, h => by
    unfold chkEs at h
    split at h
    · obtain ⟨h, h3⟩ := ands h
      obtain ⟨h1, h2⟩ := ands h
      exact s_cons h1 (sE e C h2).pe (sEs r C h3)
    · cases h
  | .star e r, q, W, X, C, xs, h => by
    unfold chkEs at h
    split at h
    · obtain ⟨h2, h3⟩ := ands h
      exact s_star (sE e C h2).pe (sEs r C h3)
    · cases h
theorem sKs : ∀ (es : Es) {q : Blk} {W : WX} {X : Cx}, Cok nf cs cf ca n q W X → ∀ {xs : List Keyword}, chkKs nf q es xs = true → PK X xs (tEs X.K ca W cf cs es)
  | .nil, q, W, X, C, xs, h => by
    unfold chkKs at h
    split at h
    · exact k_nil
    · cases h
  | .cons e r, q, W, X, C, xs, h => by
    unfold chkKs at h
    split at h
    · obtain ⟨h, h3⟩ := ands h
      obtain ⟨h1, h2⟩ := ands h
      exact k_cons (sE e C h2).pe (sKs r C h3)
    · cases h
  | .star e r, q, W, X, C, xs, h => by cases h
theorem sEo : ∀ (e : Eo) {q : Blk} {W : WX} {X : Cx}, Cok nf cs cf ca n q W X → ∀ {x : Option Expr}, chkEo nf q e x = true → PO X x (tEo X.K ca W cf cs e)
  | .no, q, W, X, C, x, h => by
    unfold chkEo at h
    split at h
    · exact s_no
    · cases h
  | .yes e, q, W, X, C, x, h => by
    unfold chkEo at h
    split at h
    · exact s_yes (sE e C h).pe
    · cases h
theorem sC : ∀ (e : Eo) {q : Blk} {W : WX} {X : Cx}, Cok nf cs cf ca n q W X → ∀ {x : List Expr}, chkC nf q e x = true → PTs X x (Dy.tC X.K ca W cf cs e)
  | .no, q, W, X, C, x, h => by
    unfold chkC at h
    split at h
    · exact s_tests0
    · cases h
  | .yes e, q, W, X, C, x, h => by
    unfold chkC at h
    split at h
    · exact s_tests1 (sE e C h).pt
    · cases h
theorem sL : ∀ (l : L) {q : Blk} {W : WX} {X : Cx}, Cok nf cs cf ca n q W X → ∀ {x : Expr}, chkL nf q l x = true → PE X x (tL X.K ca W cf cs l) ∧ Plain X x ∧ ∀ op es p, x ≠ .BoolOp op es p
  | .disp es, q, W, X, C, x, h => by
    unfold chkL at h
    split at h
    · exact ⟨l_disp (sEs es C h), fun _ => rfl, fun _ _ _ z => nomatch z⟩
    · cases h
  | .comp own t i c e, q, W, X, C, x, h => by
    unfold chkL at h
    split at h
    · obtain ⟨h, h7⟩ := ands h
      obtain ⟨h, h6⟩ := ands h
      obtain ⟨h, h5⟩ := ands h
      obtain ⟨h, h4⟩ := ands h
      obtain ⟨h, h3⟩ := ands h
      obtain ⟨h1, h2⟩ := ands h
      have hk := blk_kind h3
      exact ⟨l_comp C (sI i C h1) h2 h3 h4 (fun s H D cl fp => sT t (C.blk hk s H D cl fp) h5) (fun s H D cl fp => sC c (C.blk hk s H D cl fp) h6) (fun s H D cl fp => (sE e (C.blk hk s H D cl fp) h7).pe), fun _ => rfl, fun _ _ _ z => nomatch z⟩
    · cases h
  | .ofSeq e, q, W, X, C, x, h => by
    unfold chkL at h
    split at h
    · obtain ⟨h, h4⟩ := ands h
      obtain ⟨h, h3⟩ := ands h
      obtain ⟨h1, h2⟩ := ands h
      have e := of_decide_eq_true h2
      subst e
      exact ⟨l_ofSeq C h3 h1 (sE _ C h4).pe, fun _ => rfl, fun _ _ _ z => nomatch z⟩
    · cases h
  | .cut e lo hi, q, W, X, C, x, h => by
    unfold chkL at h
    split at h
    · obtain ⟨h, h3⟩ := ands h
      obtain ⟨h1, h2⟩ := ands h
      exact ⟨l_cut (sE e C h1).pe (sEo lo C h2) (sEo hi C h3), fun _ => rfl, fun _ _ _ z => nomatch z⟩
    · cases h
  | .rev e, q, W, X, C, x, h => by
    unfold chkL at h
    split at h
    · exact ⟨l_rev (sE e C h).pe, fun _ => rfl, fun _ _ _ z => nomatch z⟩
    · cases h
  | .cat a b, q, W, X, C, x, h => by
    unfold chkL at h
    split at h
    · obtain ⟨h1, h2⟩ := ands h
      exact ⟨l_cat (sE a C h1).pe (sE b C h2).pe, fun _ => rfl, fun _ _ _ z => nomatch z⟩
    · cases h
  | .rep a b, q, W, X, C, x, h => by
    unfold chkL at h
    split at h
    · obtain ⟨h1, h2⟩ := ands h
      exact ⟨l_rep (sE a C h1).pe (sE b C h2).pe, fun _ => rfl, fun _ _ _ z => nomatch z⟩
    · cases h
theorem sI : ∀ (i : I) {q : Blk} {W : WX} {X : Cx}, Cok nf cs cf ca n q W X → ∀ {tg x : Expr}, chkI nf q i tg x = true → PI X tg x (tI X.K ca W cf cs i)
  | .seq e, q, W, X, C, tg, x, h => i_seq (sE e C (show chkE nf q e x = true from h)).pe
  | .rng1 a, q, W, X, C, tg, x, h => by
    unfold chkI at h
    split at h
    · obtain ⟨h, h4⟩ := ands h
      obtain ⟨h, h3⟩ := ands h
      obtain ⟨h1, h2⟩ := ands h
      have e := of_decide_eq_true h2
      subst e
      exact i_rng1 C h3 h1 (sE a C h4).pe
    · cases h
  | .rng2 a b, q, W, X, C, tg, x, h => by
    unfold chkI at h
    split at h
    · obtain ⟨h, h6⟩ := ands h
      obtain ⟨h, h5⟩ := ands h
      obtain ⟨h, h4⟩ := ands h
      obtain ⟨h, h3⟩ := ands h
      obtain ⟨h1, h2⟩ := ands h
      have e := of_decide_eq_true h3
      subst e
      exact i_rng2 C h4 h1 h2 (sE a C h5).pe (sE b C h6).pe
    · cases h
  | .zip2 a b, q, W, X, C, tg, x, h => by
    unfold chkI at h
    split at h
    · obtain ⟨h, h7⟩ := ands h
      obtain ⟨h, h6⟩ := ands h
      obtain ⟨h, h5⟩ := ands h
      obtain ⟨h, h4⟩ := ands h
      obtain ⟨h, h3⟩ := ands h
      obtain ⟨h1, h2⟩ := ands h
      have e := of_decide_eq_true h3
      subst e
      cases tg with
      | Tuple es kk tp => exact i_zip2 C h4 h1 h2 (sE a C h5).pe (sE b C h6).pe
      | _ => cases h7
    · cases h
  | .enum a, q, W, X, C, tg, x, h => by
    unfold chkI at h
    split at h
    · obtain ⟨h, h5⟩ := ands h
      obtain ⟨h, h4⟩ := ands h
      obtain ⟨h, h3⟩ := ands h
      obtain ⟨h1, h2⟩ := ands h
      have e := of_decide_eq_true h2
      subst e
      cases tg with
      | Tuple es kk tp => exact i_enum C h3 h1 (sE a C h4).pe
      | _ => cases h5
    · cases h
theorem sT : ∀ (t : T) {q : Blk} {W : WX} {X : Cx}, Cok nf cs cf ca n q W X → ∀ {x : Expr}, chkT nf q t x = true → PG X x (tG X.K ca W cf cs t)
  | .v i, q, W, X, C, x, h => by
    unfold chkT at h
    split at h
    · exact t_v C h
    · cases h
  | .tup ts, q, W, X, C, x, h => by
    unfold chkT at h
    split at h
    · exact t_tup C h (sTs ts C h)
    · cases h
  | .sub o i, q, W, X, C, x, h => by
    unfold chkT at h
    split at h
    · obtain ⟨h, h3⟩ := ands h
      obtain ⟨h1, h2⟩ := ands h
      exact t_sub (sE o C h2).pe (sE i C h3).pe h1
    · cases h
theorem sTs : ∀ (t : Ts) {q : Blk} {W : WX} {X : Cx}, Cok nf cs cf ca n q W X → ∀ {x : List Expr}, chkTs nf q t x = true → PGs X x (tGs X.K ca W cf cs t)
  | .nil, q, W, X, C, x, h => by
    unfold chkTs at h
    split at h
    · exact ts_nil
    · cases h
  | .cons t r, q, W, X, C, x, h => by
    unfold chkTs at h
    split at h
    · obtain ⟨h1, h2⟩ := ands h
      exact ts_cons h1 (sT t C h1) (sTs r C h2)
    · cases h
end
end
end Dy
end

section
set_option Elab.async false
set_option linter.all false
set_option maxRecDepth 100000
set_option maxHeartbeats 4000000
namespace Dy
open PySem PySem.Spec PyProof.Rows L2
/-- what is wanted at a block's end -/
def FlP (K : PySem.W.Frag) (ca : List Addr) (W : WX) (D : Ends) (R : Hp) (m : List Addr) (H : Hp) : Fl → Prop
  | .nx σ' => ∀ σ, EnvR K R m σ' σ → D.nx σ H
  | .bk σ' => ∀ σ, EnvR K R m σ' σ → D.bk σ H
  | .ct σ' => ∀ σ, EnvR K R m σ' σ → D.ct σ H
  | .rt a => ∀ v, Rep K R m a v → D.rt v H
  | .ex x σ' => ∀ σ cv d, EnvR K R m σ' σ → RepX K ca R m x cv d → W cv d σ H
def OutS (K : PySem.W.Frag) (ca : List Addr) (W : WX) (Z R : Hp) (m : List Addr) (r : Res Fl) (D : Ends) : Prop := match r with
  | .ok fl s => ∀ R' m' H', Ext R m R' m' → Sim K Z R' m' s H' → FlP K ca W D R' m' H' fl
  | _ => False
section
variable (K : PySem.W.Frag) (ca : List Addr) (W : WX) (cf : CF) (cs : List A)
def tS (st : St) : TS := fun D σ H => ∃ σ' S Z R m, At K σ' S Z R m σ H ∧ OutS K ca W Z R m (evS cf cs st σ' S) D
def tB (b : B) : TS := fun D σ H => ∃ σ' S Z R m, At K σ' S Z R m σ H ∧ OutS K ca W Z R m (evB cf cs b σ' S) D
end
section
variable {K : PySem.W.Frag} {ca : List Addr} {W : WX} {cf : CF} {cs : List A} {nf : Info} {n : Nat} {q : Blk} {X : Cx} {Z R R' : Hp} {m m' : List Addr} {D : Ends} {H : Hp} {σ : L2.St} {σ' : Env} {S : Dy.S}
theorem OutS.mono {r : Res Fl} (h : OutS K ca W Z R m r D) (e : Ext R m R' m') : OutS K ca W Z R' m' r D := by
  cases r with
  | ok fl s => exact fun R2 m2 H2 e2 s2 => h R2 m2 H2 (e.trans e2) s2
  | exc x s => exact h
  | bad => exact h
theorem OutS.fin {fl : Fl} {s : Dy.S} (h : OutS K ca W Z R m (.ok fl s) D) (q : Sim K Z R m s H) : FlP K ca W D R m H fl := h R m H (Ext.refl R m) q
theorem OutS.bindX {α : Type} {r : Res α} {f : α → Dy.S → Res Fl} (a : At K σ' S Z R m σ H) (h : OutS K ca W Z R m (r.bindX σ' f) D) : OutW K ca W σ Z R m r fun a s R' m' _ => OutS K ca W Z R' m' (f a s) D := by
  cases r with
  | ok b s => exact fun R2 m2 H2 e2 s2 => OutS.mono (r := f b s) h e2
  | exc x s => exact fun R2 m2 H2 cv d e2 s2 rx => h R2 m2 H2 e2 s2 σ cv d (a.env.mono e2) rx
  | bad => exact h
theorem intoES {e : E} {f : A → Dy.S → Res Fl} {Q : VK} (a : At K σ' S Z R m σ H) (h : OutS K ca W Z R m ((evE cf cs e σ' S).bindX σ' f) D)
    (c : ∀ x v S1 R1 m1 H1, Ext R m R1 m1 → At K σ' S1 Z R1 m1 σ H1 → Rep K R1 m1 x v → OutS K ca W Z R1 m1 (f x S1) D → Q v H1) : tE K ca W cf cs e σ H Q :=
  ⟨σ', S, Z, R, m, a, (h.bindX a).imp fun x s R1 m1 H1 e1 s1 o v r => c x v s R1 m1 H1 e1 (a.step e1 s1) r o⟩
theorem ofOX {α : Type} {o : Option α} {s : Dy.S} {f : α → Dy.S → Res Fl} (h : OutS K ca W Z R m ((ofO o s).bindX σ' f) D) : ∃ a, o = some a ∧ OutS K ca W Z R m (f a s) D := by
  cases o with
  | none => exact False.elim h
  | some a => exact ⟨a, rfl, h⟩
theorem intoTS {e : E} {f : Bool → Dy.S → Res Fl} {Q : Bool → Hp → Prop} (a : At K σ' S Z R m σ H) (h : OutS K ca W Z R m ((evE cf cs e σ' S).bindX σ' fun x s1 => (ofO (truth s1 x) s1).bindX σ' f) D)
    (c : ∀ b S1 R1 m1 H1, Ext R m R1 m1 → At K σ' S1 Z R1 m1 σ H1 → OutS K ca W Z R1 m1 (f b S1) D → Q b H1) : tT K ca W cf cs e σ H Q := by
  have eq : ((evE cf cs e σ' S).bindX σ' fun x s1 => (ofO (truth s1 x) s1).bindX σ' f) = ((evE cf cs e σ' S).bind fun x s1 => ofO (truth s1 x) s1).bindX σ' f := by
    cases evE cf cs e σ' S with
    | ok x s => rfl
    | exc x s => rfl
    | bad => rfl
  rw [eq] at h
  exact ⟨σ', S, Z, R, m, a, (h.bindX a).imp fun b s R1 m1 H1 e1 s1 o => c b s R1 m1 H1 e1 (a.step e1 s1) o⟩
theorem psMono {x : Stmt} {t t' : TS} (h : PS X x t) (q : ∀ D σ H, t' D σ H → t D σ H) : PS X x t' := ⟨fun pins s σ H D I hw => h.run pins s σ H D I (q D σ H hw)⟩
theorem pssMono {x : List Stmt} {t t' : TS} (h : PSs X x t) (q : ∀ D σ H, t' D σ H → t D σ H) : PSs X x t' := ⟨fun pins s σ H D I hw => h.run pins s σ H D I (q D σ H hw)⟩
/-! ### what the rules ask of the form -/
theorem noComp_sw {y : Expr} (h : noComp y = true) (t : Option Expr) (l : Nat) (env : PySem.Env) : swapsWith y t l env = pure false := by
  cases y <;> first | rfl | cases h
theorem blockKind_of (h : X.env.scope.kind = .function) : X.env.blockKind = .function := by
  unfold Env.blockKind
  rw [h] <;> rfl
theorem filterMap_all {α β : Type} {f : α → Option β} : ∀ {l : List α}, (l.filterMap f).length = l.length → ∀ y ∈ l, (f y).isSome = true
  | [], _, y, hy => by cases hy
  | a :: r, h, y, hy => by
    rw [List.filterMap_cons] at h
    cases e : f a with
    | none =>
      rw [e] at h
      have h : (r.filterMap f).length = r.length + 1 := h
      have := List.length_filterMap_le f r
      omega
    | some b =>
      rw [e] at h
      have h : (r.filterMap f).length + 1 = r.length + 1 := h
      rcases List.mem_cons.mp hy with rfl | hy
      · rw [e] <;> rfl
      · exact filterMap_all (by omega) y hy
theorem kind_local {o : Option NameKind} (h : (o == some .local) = true) : o = some .local := by
  cases o with
  | none => cases h
  | some k => cases k <;> first | rfl | cases h
theorem noSwap_tup (C : Cok nf cs cf ca n q W X) {ts vs : List Expr} {k k2 : Nat} {p p2 : Pos} (h : noSwap q (.Tuple ts k p) (.Tuple vs k2 p2) = true) : swappedStores [.Tuple ts k p] (.Tuple vs k2 p2) X.env = pure none := by
    have hb := blockKind_of C.kind
    unfold noSwap at h
    dsimp only at h
    rw [Bool.or_eq_true, Bool.or_eq_true, Bool.or_eq_true] at h
    unfold swappedStores
    simp only [hb]
    split
    · rfl
    · rename_i h1
      split
      · rfl
      · split
        · rfl
        · rename_i h3
          split
          · rfl
          · rename_i h4
            exfalso
            rcases h with ((h | h) | h) | h
            · have := of_decide_eq_true h
              apply h1
              have e : (ts.length == 2 || ts.length == 3) = false := by
                rw [Bool.or_eq_false_iff]
                exact ⟨by rw [beq_eq_false_iff_ne]; omega, by rw [beq_eq_false_iff_ne]; omega⟩
              rw [e] <;> rfl
            · have := of_decide_eq_true h
              apply h1
              have e : (ts.length == 2 || ts.length == 3) = false := by
                rw [Bool.or_eq_false_iff]
                exact ⟨by rw [beq_eq_false_iff_ne]; omega, by rw [beq_eq_false_iff_ne]; omega⟩
              rw [e] <;> rfl
            · exact h4 h
            · apply h3
              rw [Bool.or_eq_true]
              left
              rw [bne_iff_ne]
              intro z
              have key := filterMap_all z
              have h' : (ts.all (isLcl q)) = true := by
                rw [List.all_eq_true]
                intro y hy
                have k1 := key y hy
                cases y with
                | Name id pos =>
                  by_cases g : (X.env.kindOf id == some .local && pos.line == (Option.map (fun x => x.pos.line) ts.head?).getD 0) = true
                  · have g1 := (Bool.and_eq_true_iff.mp g).1
                    have g2 : X.env.scope.names.lookup id = some .local := kind_local g1
                    rw [C.sc] at g2
                    show lclB q.sc id = true
                    unfold lclB
                    rw [g2]
                  · dsimp only at k1
                    rw [if_neg g] at k1
                    cases k1
                | _ => cases k1
              rw [h'] at h
              cases h
theorem noSwap_of (C : Cok nf cs cf ca n q W X) {t x : Expr} (h : noSwap q t x = true) : swappedStores [t] x X.env = pure none := by
  cases t with
  | List ts p => cases h
  | Tuple ts k p =>
    cases x with
    | Tuple vs k2 p2 => exact noSwap_tup C h
    | _ => rfl
  | _ => rfl
theorem lcl_kind (C : Cok nf cs cf ca n q W X) {x : Str} (h : lclB q.sc x = true) : X.env.kindOf x = some .local := by
  show X.env.scope.names.lookup x = _
  rw [C.sc]
  exact lclOf h
theorem anyStar : ∀ (l : List Expr), (∀ e ∈ l, nst e = true) → (l.any fun x => match x with | .Starred .. => true | _ => false) = false := fun l h => by
  rw [List.any_eq_false]
  intro x hx
  have hn := h x hx
  cases x <;> first | exact Bool.false_ne_true | cases hn
theorem swap2 (C : Cok nf cs cf ca n q W X) {x y : Str} {px py pt pt2 : Pos} {a b : Expr} {kt k2 : Nat} (hx : lclB q.sc x = true) (hy : lclB q.sc y = true) (hl : (py.line == px.line) = true) (hne : x ≠ y) (ha : nst a = true) (hb : nst b = true)
    (h1 : ([a, b].all (foldedForSure 8)) = false) (h2 : ([a, b].all (constantsAlone 8)) = false) : swappedStores [.Tuple [.Name x px, .Name y py] kt pt] (.Tuple [a, b] k2 pt2) X.env = pure (some [x, y]) := by
  have ex := lcl_kind C hx
  have ey := lcl_kind C hy
  have bk := blockKind_of C.kind
  have hany : ([a, b].any fun x => match x with | .Starred .. => true | _ => false) = false := by
    refine anyStar _ fun e he => ?_
    simp only [List.mem_cons, List.not_mem_nil, or_false] at he
    rcases he with rfl | rfl
    · exact ha
    · exact hb
  have hnames : ([Expr.Name x px, Expr.Name y py].filterMap fun e => match e with
      | .Name id pos => if X.env.kindOf id == some .local && pos.line == px.line then some id else none
      | _ => none) = [x, y] := by
    have e1 : (X.env.kindOf x == some .local && px.line == px.line) = true := by
      rw [ex]
      show (true && px.line == px.line) = true
      rw [beq_self_eq_true] <;> rfl
    have e2 : (X.env.kindOf y == some .local && py.line == px.line) = true := by
      rw [ey]
      show (true && py.line == px.line) = true
      rw [hl] <;> rfl
    simp only [List.filterMap_cons, e1, e2, if_true, List.filterMap_nil]
  have hed : ([x, y] : List Str).eraseDups = [x, y] := by
    have e : (y == x) = false := by
      rw [beq_eq_false_iff_ne]
      exact fun z => hne z.symm
    simp [List.eraseDups_cons, e]
  unfold swappedStores
  simp only [bk]
  split
  · rename_i h
    exact absurd h (by simp)
  · split
    · rename_i h
      exact absurd (h.symm.trans hany) (by decide)
    · split
      · rename_i h
        exfalso
        have h : (([x, y] : List Str).length != 2 || ([x, y] : List Str).eraseDups.length != ([x, y] : List Str).length) = true := (congrArg (fun l : List Str => (l.length != 2 || l.eraseDups.length != l.length)) hnames).symm.trans h
        rw [hed] at h
        cases h
      · split
        · rename_i h
          exact absurd (h.symm.trans h1) (by decide)
        · split
          · rename_i h
            exact absurd (h.symm.trans h2) (by decide)
          · exact congrArg (fun l : List Str => (pure (some l) : Sem (Option (List Str)))) hnames
theorem swap3 (C : Cok nf cs cf ca n q W X) {x y z : Str} {px py pz pt pt2 : Pos} {a b c : Expr} {kt k2 : Nat} (hx : lclB q.sc x = true) (hy : lclB q.sc y = true) (hz : lclB q.sc z = true) (hl : (py.line == px.line) = true) (hl2 : (pz.line == px.line) = true)
    (hxy : x ≠ y) (hxz : x ≠ z) (hyz : y ≠ z) (ha : nst a = true) (hb : nst b = true) (hc : nst c = true)
    (h1 : ([a, b, c].all (foldedForSure 8)) = false) (h2 : ([a, b, c].all (constantsAlone 8)) = false) : swappedStores [.Tuple [.Name x px, .Name y py, .Name z pz] kt pt] (.Tuple [a, b, c] k2 pt2) X.env = pure (some [x, y, z]) := by
  have ex := lcl_kind C hx
  have ey := lcl_kind C hy
  have ez := lcl_kind C hz
  have bk := blockKind_of C.kind
  have hany : ([a, b, c].any fun x => match x with | .Starred .. => true | _ => false) = false := by
    refine anyStar _ fun e he => ?_
    simp only [List.mem_cons, List.not_mem_nil, or_false] at he
    rcases he with rfl | rfl | rfl
    · exact ha
    · exact hb
    · exact hc
  have hnames : ([Expr.Name x px, Expr.Name y py, Expr.Name z pz].filterMap fun e => match e with
      | .Name id pos => if X.env.kindOf id == some .local && pos.line == px.line then some id else none
      | _ => none) = [x, y, z] := by
    have e1 : (X.env.kindOf x == some .local && px.line == px.line) = true := by
      rw [ex]
      show (true && px.line == px.line) = true
      rw [beq_self_eq_true] <;> rfl
    have e2 : (X.env.kindOf y == some .local && py.line == px.line) = true := by
      rw [ey]
      show (true && py.line == px.line) = true
      rw [hl] <;> rfl
    have e3 : (X.env.kindOf z == some .local && pz.line == px.line) = true := by
      rw [ez]
      show (true && pz.line == px.line) = true
      rw [hl2] <;> rfl
    simp only [List.filterMap_cons, e1, e2, e3, if_true, List.filterMap_nil]
  have hed : ([x, y, z] : List Str).eraseDups = [x, y, z] := by
    have e : (y == x) = false := by
      rw [beq_eq_false_iff_ne]
      exact fun z => hxy z.symm
    have e2 : (z == x) = false := by
      rw [beq_eq_false_iff_ne]
      exact fun z => hxz z.symm
    have e3 : (z == y) = false := by
      rw [beq_eq_false_iff_ne]
      exact fun z => hyz z.symm
    simp [List.eraseDups_cons, e, e2, e3]
  unfold swappedStores
  simp only [bk]
  split
  · rename_i h
    exact absurd h (by simp)
  · split
    · rename_i h
      exact absurd (h.symm.trans hany) (by decide)
    · split
      · rename_i h
        exfalso
        have h : (([x, y, z] : List Str).length != 3 || ([x, y, z] : List Str).eraseDups.length != ([x, y, z] : List Str).length) = true := (congrArg (fun l : List Str => (l.length != 3 || l.eraseDups.length != l.length)) hnames).symm.trans h
        rw [hed] at h
        cases h
      · split
        · rename_i h
          exact absurd (h.symm.trans h1) (by decide)
        · split
          · rename_i h
            exact absurd (h.symm.trans h2) (by decide)
          · exact congrArg (fun l : List Str => (pure (some l) : Sem (Option (List Str)))) hnames
end
end Dy
end

section
set_option Elab.async false
set_option linter.all false
set_option maxRecDepth 100000
set_option maxHeartbeats 4000000
namespace Dy
open PySem PySem.Spec PyProof.Rows L2
/-- the context of statements -/
structure Sok (nf : Info) (cs : List A) (cf : CF) (ca : List Addr) (n : Nat) (q : Blk) (W : WX) (X : Cx) : Prop extends Cok nf cs cf ca n q W X where
  po : PassesOwn (model X.prog X.w) X.A X.env X.xe
section
variable {K : PySem.W.Frag} {ca : List Addr} {W : WX} {cf : CF} {cs : List A} {nf : Info} {n : Nat} {q : Blk} {X : Cx} {Z R R' : Hp} {m m' : List Addr} {D : Ends} {H : Hp} {σ : L2.St} {σ' : Env} {S : Dy.S}
theorem OutS.bindN {α : Type} {r : Res α} {f : α → Dy.S → Res Fl} {W' : Value → Option Addr → Hp → Prop} (h : OutS K ca W Z R m (r.bindX σ' f) D) (nx : NoX r) : OutE K ca W' Z R m r fun a s R' m' _ => OutS K ca W Z R' m' (f a s) D := by
  cases r with
  | ok b s => exact fun R2 m2 H2 e2 s2 => OutS.mono (r := f b s) h e2
  | exc x s => exact absurd rfl (nx x s)
  | bad => exact h
theorem red_asg {t : T} {e : E} (h : tS K ca W cf cs (.asg t e) D σ H) : tAsg (tE K ca W cf cs e) (tG K ca W cf cs t) D σ H := by
  obtain ⟨σ', S, Z, R, m, ha, h⟩ := h
  refine intoES ha h fun x v S1 R1 m1 H1 e1 a1 r1 h1 => ?_
  refine ⟨x, σ', S1, Z, R1, m1, r1, a1, (h1.bindN (nox_asg t x σ' S1)).imp fun σ2 S2 R2 m2 H2 e2 s2 h2 σ3 en _ => ?_⟩
  exact h2.fin s2 σ3 en
theorem st_asg {t : T} {e : E} {tg y : Expr} {p : Pos} (C : Sok nf cs cf ca n q W X) (he : PE X y (tE X.K ca W cf cs e)) (hg : PG X tg (tG X.K ca W cf cs t)) (hc : noComp y = true) (hs : noSwap q tg y = true) (hx : chkT nf q t tg = true) :
    PS X (.Assign [tg] y p) (tS X.K ca W cf cs (.asg t e)) :=
  psMono (ps_asg he hg (noComp_sw hc _ _ _) (noSwap_of C.toCok hs) (by rw [chkT_each hx] <;> rfl)) fun _ _ _ h => red_asg h
/-- name = value, not on the comprehension's own road -/
theorem st_set {i : Nat} {e : E} {x : Str} {y : Expr} {p p' : Pos} (C : Sok nf cs cf ca n q W X) (he : PE X y (tE X.K ca W cf cs e)) (hst : storB q i x = true) (hs : swapsWith y (some (.Name x p')) p.line X.env = pure false) :
    PS X (.Assign [.Name x p'] y p) (tS X.K ca W cf cs (.asg (.v i) e)) := by
  have hst2 := hst
  unfold storB at hst2
  rw [Bool.and_eq_true] at hst2
  have hi : X.N[i]? = some x := by
    rw [C.N]
    exact of_decide_eq_true hst2.1
  have hl : Loc X.env.scope x ∧ (X.fn x = true ∨ X.env.scope.names.lookup x = some .local) := by
    rw [C.sc]
    rcases Bool.or_eq_true_iff.mp hst2.2 with g | g
    · exact ⟨.inl (lclOf g), .inr (lclOf g)⟩
    · rw [Bool.and_eq_true] at g
      exact ⟨.inr (celOf g.1), .inl (C.fb x g.1 g.2)⟩
  refine psMono (ps_set C.nd hi hl.1 he hs hl.2) fun D σ H h => ?_
  obtain ⟨σ', S, Z, R, m, ha, h⟩ := h
  refine intoES ha h fun x v S1 R1 m1 H1 e1 a1 r1 h1 => ?_
  have h2 := (h1.bindN (W' := fun _ _ _ => False) (nox_asg (.v i) x σ' S1))
  unfold asgT at h2
  by_cases g : i < σ'.length
  · rw [if_pos g] at h2
    exact (h2.fin a1.sim).fin a1.sim _ (a1.env.set g r1)
  · rw [if_neg g] at h2
    exact False.elim h2
/-- .. on it -/
theorem st_setLc {i : Nat} {l : L} {e : E} {x : Str} {own : List (Str × Nat)} {elt tg iter : Expr} {ifs : List Expr} {scope : Scope} {pos p p' : Pos} {wi : TI} {g : TG} {tt : TT} {te : TE} (C : Sok nf cs cf ca n q W X) (hst : storB q i x = true) (hlc : lclB q.sc x = true)
    (hsw : swapsWith (.ListComp elt [⟨tg, iter, ifs, 0⟩] scope pos) (some (.Name x p')) p.line X.env = pure true) (hi : PI X tg iter wi) (ok : BlkOk X.N X.env.scope scope own)
    (hg : ∀ (s : Shared) (H : Hp) (D : Addr) (cl : List (Str × Addr)) (fp : List Addr), PG (X.blk s H scope (compEnvC scope cl D X.env) fp) tg g) (ht : ∀ (s : Shared) (H : Hp) (D : Addr) (cl : List (Str × Addr)) (fp : List Addr), PTs (X.blk s H scope (compEnvC scope cl D X.env) fp) ifs tt)
    (he : ∀ (s : Shared) (H : Hp) (D : Addr) (cl : List (Str × Addr)) (fp : List Addr), PE (X.blk s H scope (compEnvC scope cl D X.env) fp) elt te) (hs : noSet iter = true)
    (red : ∀ σ H Q, tE X.K ca W cf cs e σ H Q → tLc wi g tt te (own.map (·.2)) σ H Q) : PS X (.Assign [.Name x p'] (.ListComp elt [⟨tg, iter, ifs, 0⟩] scope pos) p) (tS X.K ca W cf cs (.asg (.v i) e)) := by
  have hst2 := hst
  unfold storB at hst2
  rw [Bool.and_eq_true] at hst2
  have hix : X.N[i]? = some x := by
    rw [C.N]
    exact of_decide_eq_true hst2.1
  have hll : X.env.scope.names.lookup x = some .local := by
    rw [C.sc]
    exact lclOf hlc
  refine psMono (ps_setLc C.calm C.nd hix hll hsw hi ok hg ht he (noSet_fold hs _)) fun D σ H h => ?_
  refine red _ _ _ ?_
  obtain ⟨σ', S, Z, R, m, ha, h⟩ := h
  refine intoES ha h fun x v S1 R1 m1 H1 e1 a1 r1 h1 => ?_
  have h2 := (h1.bindN (W' := fun _ _ _ => False) (nox_asg (.v i) x σ' S1))
  unfold asgT at h2
  by_cases g : i < σ'.length
  · rw [if_pos g] at h2
    exact (h2.fin a1.sim).fin a1.sim _ (a1.env.set g r1)
  · rw [if_neg g] at h2
    exact False.elim h2
theorem sets2 {σ2 : Env} {i j : Nat} {a b : A} (h : setsA σ' [i, j] [a, b] = some σ2) : i < σ'.length ∧ j < σ'.length ∧ σ2 = (σ'.set i (some a)).set j (some b) := by
  unfold setsA at h
  by_cases g : i < σ'.length
  · rw [if_pos g] at h
    unfold setsA at h
    by_cases g2 : j < (σ'.set i (some a)).length
    · rw [if_pos g2] at h
      unfold setsA at h
      cases h
      exact ⟨g, by rw [List.length_set] at g2; exact g2, rfl⟩
    · rw [if_neg g2] at h
      cases h
  · rw [if_neg g] at h
    cases h
theorem sets3 {σ2 : Env} {i j l : Nat} {a b c : A} (h : setsA σ' [i, j, l] [a, b, c] = some σ2) : i < σ'.length ∧ j < σ'.length ∧ l < σ'.length ∧ σ2 = ((σ'.set i (some a)).set j (some b)).set l (some c) := by
  unfold setsA at h
  by_cases g : i < σ'.length
  · rw [if_pos g] at h
    obtain ⟨h1, h2, h3⟩ := sets2 h
    rw [List.length_set] at h1 h2
    exact ⟨g, h1, h2, h3⟩
  · rw [if_neg g] at h
    cases h
theorem setsA_len : ∀ {is : List Nat} {as : List A} {σ1 σ2 : Env}, setsA σ1 is as = some σ2 → as.length = is.length
  | [], [], _, _, _ => rfl
  | [], _ :: _, _, _, h => by cases h
  | _ :: _, [], _, _, h => by cases h
  | i :: is, a :: as, σ1, σ2, h => by
    unfold setsA at h
    by_cases g : i < σ1.length
    · rw [if_pos g] at h
      exact congrArg (· + 1) (setsA_len h)
    · rw [if_neg g] at h
      cases h
theorem st_par2 {i j : Nat} {es : Es} {x y : Str} {px py pt pt2 p : Pos} {a b : Expr} {kt k2 : Nat} (C : Sok nf cs cf ca n q W X) (hix : q.N[i]? = some x) (hjx : q.N[j]? = some y) (hij : i ≠ j) (hx : lclB q.sc x = true) (hy : lclB q.sc y = true) (hl : (py.line == px.line) = true)
    (ha : nst a = true) (hb : nst b = true) (h1 : ([a, b].all (foldedForSure 8)) = false) (h2 : ([a, b].all (constantsAlone 8)) = false) (pa : PA X [a, b] (tEs X.K ca W cf cs es)) :
    PS X (.Assign [.Tuple [.Name x px, .Name y py] kt pt] (.Tuple [a, b] k2 pt2) p) (tS X.K ca W cf cs (.par [i, j] es)) := by
  rw [← C.N] at hix hjx
  have hne : x ≠ y := fun z => hij (nd_ix C.nd hix (by rw [z]; exact hjx))
  have lx : X.env.scope.names.lookup x = some .local := by rw [C.sc]; exact lclOf hx
  have ly : X.env.scope.names.lookup y = some .local := by rw [C.sc]; exact lclOf hy
  refine psMono (ps_par C.calm C.nd hix hjx hij lx ly pa (swap2 C.toCok hx hy hl hne ha hb h1 h2)) fun D σ H h => ?_
  obtain ⟨σ', S, Z, R, m, ha, h⟩ := h
  refine ⟨σ', S, Z, R, m, ha, (h.bindX ha).imp fun as S1 R1 m1 H1 e1 s1 h3 vs rv => ?_⟩
  obtain ⟨σ2, hs, h4⟩ := ofOX h3
  have hlen := setsA_len hs
  match as, hlen with
  | [u, w], _ =>
    obtain ⟨g1, g2, rfl⟩ := sets2 hs
    obtain ⟨v1, v2, rfl, r1, r2⟩ := reps2 rv
    refine ⟨v1, v2, rfl, h4.fin s1 _ ?_⟩
    exact ((ha.env.mono e1).set g1 r1).set (by rw [List.length_set]; exact g2) r2
theorem st_par3 {i j l : Nat} {es : Es} {x y z : Str} {px py pz pt pt2 p : Pos} {a b c : Expr} {kt k2 : Nat} (C : Sok nf cs cf ca n q W X) (hix : q.N[i]? = some x) (hjx : q.N[j]? = some y) (hlx : q.N[l]? = some z) (hij : i ≠ j) (hil : i ≠ l) (hjl : j ≠ l)
    (hx : lclB q.sc x = true) (hy : lclB q.sc y = true) (hz : lclB q.sc z = true) (hl : (py.line == px.line) = true) (hl2 : (pz.line == px.line) = true)
    (ha : nst a = true) (hb : nst b = true) (hc : nst c = true) (h1 : ([a, b, c].all (foldedForSure 8)) = false) (h2 : ([a, b, c].all (constantsAlone 8)) = false) (pa : PA X [a, b, c] (tEs X.K ca W cf cs es)) :
    PS X (.Assign [.Tuple [.Name x px, .Name y py, .Name z pz] kt pt] (.Tuple [a, b, c] k2 pt2) p) (tS X.K ca W cf cs (.par [i, j, l] es)) := by
  rw [← C.N] at hix hjx hlx
  have hxy : x ≠ y := fun z => hij (nd_ix C.nd hix (by rw [z]; exact hjx))
  have hxz : x ≠ z := fun z => hil (nd_ix C.nd hix (by rw [z]; exact hlx))
  have hyz : y ≠ z := fun z => hjl (nd_ix C.nd hjx (by rw [z]; exact hlx))
  have lx : X.env.scope.names.lookup x = some .local := by rw [C.sc]; exact lclOf hx
  have ly : X.env.scope.names.lookup y = some .local := by rw [C.sc]; exact lclOf hy
  have lz : X.env.scope.names.lookup z = some .local := by rw [C.sc]; exact lclOf hz
  refine psMono (ps_par3 C.calm C.nd hix hjx hlx hij hil hjl lx ly lz pa (swap3 C.toCok hx hy hz hl hl2 hxy hxz hyz ha hb hc h1 h2)) fun D σ H h => ?_
  obtain ⟨σ', S, Z, R, m, ha, h⟩ := h
  refine ⟨σ', S, Z, R, m, ha, (h.bindX ha).imp fun as S1 R1 m1 H1 e1 s1 h3 vs rv => ?_⟩
  obtain ⟨σ2, hs, h4⟩ := ofOX h3
  have hlen := setsA_len hs
  match as, hlen with
  | [u, w, t], _ =>
    obtain ⟨g1, g2, g3, rfl⟩ := sets3 hs
    cases rv with
    | cons r1 rv =>
      obtain ⟨v2, v3, rfl, r2, r3⟩ := reps2 rv
      refine ⟨_, v2, v3, rfl, h4.fin s1 _ ?_⟩
      exact (((ha.env.mono e1).set g1 r1).set (by rw [List.length_set]; exact g2) r2).set (by rw [List.length_set, List.length_set]; exact g3) r3
theorem st_aug {i : Nat} {o : BOp} {e : E} {x : Str} {y : Expr} {op : Operator} {p p' : Pos} (C : Sok nf cs cf ca n q W X) (hst : storB q i x = true) (he : PE X y (tE X.K ca W cf cs e)) (ho : (match o, op with | .add, .Add => true | .sub, .Sub => true | _, _ => false) = true) :
    PS X (.AugAssign (.Name x p') op y p) (tS X.K ca W cf cs (.aug i o e)) := by
  have hst2 := hst
  unfold storB at hst2
  rw [Bool.and_eq_true] at hst2
  have hi : X.N[i]? = some x := by
    rw [C.N]
    exact of_decide_eq_true hst2.1
  have hl : Loc X.env.scope x ∧ (X.fn x = true ∨ X.env.scope.names.lookup x = some .local) := by
    rw [C.sc]
    rcases Bool.or_eq_true_iff.mp hst2.2 with g | g
    · exact ⟨.inl (lclOf g), .inr (lclOf g)⟩
    · rw [Bool.and_eq_true] at g
      exact ⟨.inr (celOf g.1), .inl (C.fb x g.1 g.2)⟩
  -- the stored int, and the new one
  have key : ∀ (f : Int → Int → Int) (D : Ends) (σ : L2.St) (H : Hp), (∃ (σ' : Env) (S : Dy.S) (Z R : Hp) (m : List Addr) (k : Int), At X.K σ' S Z R m σ H ∧ σ'[i]? = some (some (.int k)) ∧
      OutS X.K ca W Z R m ((evE cf cs e σ' S).bindX σ' fun y s1 => match y with | .int j => .ok (.nx (σ'.set i (some (.int (f k j))))) s1 | _ => .bad) D) → tAug i (tE X.K ca W cf cs e) (ipI f) D σ H := fun f D σ H ⟨σ', S, Z, R, m, k, ha, hk, h⟩ => by
    obtain ⟨v, hv, rv⟩ := ha.env.get i _ hk
    cases rv
    refine ⟨_, hv, intoES ha h fun y u S1 R1 m1 H1 e1 a1 r1 h1 => ?_⟩
    cases y with
    | int j =>
      cases r1
      exact ⟨k, j, rfl, rfl, h1.fin a1.sim _ (a1.env.set (List.getElem?_eq_some_iff.mp hk).1 (.int _))⟩
    | _ => exact False.elim h1
  have look : ∀ {D : Ends} {σ : L2.St} {H : Hp}, tS X.K ca W cf cs (.aug i o e) D σ H → ∃ (σ' : Env) (S : Dy.S) (Z R : Hp) (m : List Addr) (k : Int), At X.K σ' S Z R m σ H ∧ σ'[i]? = some (some (.int k)) ∧ OutS X.K ca W Z R m (evS cf cs (.aug i o e) σ' S) D := fun {D σ H} ⟨σ', S, Z, R, m, ha, h⟩ => by
    cases g : σ'[i]? with
    | none =>
      unfold evS at h
      rw [g] at h
      exact False.elim h
    | some w =>
      cases w with
      | none =>
        unfold evS at h
        rw [g] at h
        exact False.elim h
      | some a =>
        cases a with
        | int k => exact ⟨σ', S, Z, R, m, k, ha, g, h⟩
        | _ =>
          unfold evS at h
          rw [g] at h
          exact False.elim h
  split at ho
  · refine psMono (ps_aug C.nd hi hl.1 he ip_add hl.2) fun D σ H h => ?_
    obtain ⟨σ', S, Z, R, m, k, ha, hk, h⟩ := look h
    refine key _ D σ H ⟨σ', S, Z, R, m, k, ha, hk, ?_⟩
    unfold evS at h
    rw [hk] at h
    exact h
  · refine psMono (ps_aug C.nd hi hl.1 he ip_sub hl.2) fun D σ H h => ?_
    obtain ⟨σ', S, Z, R, m, k, ha, hk, h⟩ := look h
    refine key _ D σ H ⟨σ', S, Z, R, m, k, ha, hk, ?_⟩
    unfold evS at h
    rw [hk] at h
    exact h
  · cases ho
theorem st_expr {e : E} {y : Expr} {p : Pos} (he : PE X y (tE X.K ca W cf cs e)) (hc : noComp y = true) : PS X (.Expr y p) (tS X.K ca W cf cs (.expr e)) := by
  refine psMono (ps_expr he (noComp_sw hc _ _ _)) fun D σ H ⟨σ', S, Z, R, m, ha, h⟩ => ?_
  refine intoES ha h fun x v S1 R1 m1 H1 e1 a1 r1 h1 => ?_
  exact h1.fin a1.sim σ a1.env
theorem st_if {c : E} {a b : B} {y : Expr} {u v : List Stmt} {p : Pos} (hc : PT X y (tT X.K ca W cf cs c)) (ha : PSs X u (tB X.K ca W cf cs a)) (hb : PSs X v (tB X.K ca W cf cs b)) : PS X (.If y u v p) (tS X.K ca W cf cs (.iff c a b)) := by
  refine psMono (ps_if hc ha hb) fun D σ H ⟨σ', S, Z, R, m, ha, h⟩ => ?_
  refine intoTS ha h fun k S1 R1 m1 H1 e1 a1 h1 => ?_
  cases k with
  | true => exact iteT ⟨σ', S1, Z, R1, m1, a1, h1⟩
  | false => exact iteF ⟨σ', S1, Z, R1, m1, a1, h1⟩
theorem st_ret {e : E} {y : Expr} {p : Pos} (he : PE X y (tE X.K ca W cf cs e)) : PS X (.Return (some y) p) (tS X.K ca W cf cs (.ret e)) := by
  refine psMono (ps_ret he) fun D σ H ⟨σ', S, Z, R, m, ha, h⟩ => ?_
  exact intoES ha h fun x v S1 R1 m1 H1 e1 a1 r1 h1 => h1.fin a1.sim v r1
theorem st_retN {p : Pos} : PS X (.Return none p) (tS X.K ca W cf cs .retN) := psMono ps_retN fun D σ H ⟨σ', S, Z, R, m, ha, h⟩ => h.fin ha.sim _ .non
theorem st_brk {p : Pos} : PS X (.Break p) (tS X.K ca W cf cs .brk) := psMono ps_break fun D σ H ⟨σ', S, Z, R, m, ha, h⟩ => h.fin ha.sim _ ha.env
theorem st_cont {p : Pos} : PS X (.Continue p) (tS X.K ca W cf cs .cont) := psMono ps_continue fun D σ H ⟨σ', S, Z, R, m, ha, h⟩ => h.fin ha.sim _ ha.env
theorem st_pass {p : Pos} : PS X (.Pass p) (tS X.K ca W cf cs .pass) := psMono ps_pass fun D σ H ⟨σ', S, Z, R, m, ha, h⟩ => h.fin ha.sim _ ha.env
theorem st_never {st : Stmt} : PS X st (tS X.K ca W cf cs .never) := psMono ps_never fun D σ H ⟨σ', S, Z, R, m, ha, h⟩ => h
/-! ### loops -/
/-- a block's end within a loop: what goes on, what leaves -/
theorem OutS.turn {r : Res Fl} {G : Fl → Dy.S → Res Fl} {N : L2.St → Hp → Prop} (h : OutS K ca W Z R m (r.bind G) D)
    (hn : ∀ σ1 s R' m' H', Ext R m R' m' → Sim K Z R' m' s H' → OutS K ca W Z R' m' (G (.nx σ1) s) D → ∀ σ, EnvR K R' m' σ1 σ → N σ H')
    (hc : ∀ σ1 s, G (.ct σ1) s = G (.nx σ1) s) (hb : ∀ σ1 s, G (.bk σ1) s = .ok (.nx σ1) s) (hr : ∀ a s, G (.rt a) s = .ok (.rt a) s) (hx : ∀ x σ1 s, G (.ex x σ1) s = .ok (.ex x σ1) s) :
    OutS K ca W Z R m r { D with nx := N, ct := N, bk := D.nx } := by
  cases r with
  | exc x s => exact h
  | bad => exact h
  | ok fl s =>
    have h : OutS K ca W Z R m (G fl s) D := h
    intro R' m' H' e' s'
    cases fl with
    | nx σ1 => exact fun σ en => hn σ1 s R' m' H' e' s' (h.mono e') σ en
    | ct σ1 =>
      rw [hc] at h
      exact fun σ en => hn σ1 s R' m' H' e' s' (h.mono e') σ en
    | bk σ1 =>
      rw [hb] at h
      exact fun σ en => h R' m' H' e' s' σ en
    | rt a =>
      rw [hr] at h
      exact fun v rv => h R' m' H' e' s' v rv
    | ex x σ1 =>
      rw [hx] at h
      exact fun σ cv d en rx => h R' m' H' e' s' σ cv d en rx
theorem bindX_bind {α : Type} {r : Res α} {f : α → Dy.S → Res Fl} {G : Fl → Dy.S → Res Fl} (nx : NoX r) : (r.bindX σ' f).bind G = r.bindX σ' fun a s => (f a s).bind G := by
  cases r with
  | ok b s => rfl
  | exc x s => exact absurd rfl (nx x s)
  | bad => rfl
theorem st_for {t : T} {i : I} {b : B} {tg iter : Expr} {u : List Stmt} {p : Pos} (C : Sok nf cs cf ca n q W X) (hi : PI X tg iter (tI X.K ca W cf cs i)) (hg : PG X tg (tG X.K ca W cf cs t)) (hb : PSs X u (tB X.K ca W cf cs b)) (hs : noSet iter = true) :
    PS X (.For tg iter u [] p) (tS X.K ca W cf cs (.for_ t i b)) := by
  refine psMono (ps_for C.po C.calm hi hg hb (noSet_fold hs _)) fun D σ H ⟨σ', S, Z, R, m, ha, h⟩ => ?_
  refine ⟨σ', S, Z, R, m, ha, (h.bindX ha).imp fun w S1 R1 m1 H1 e1 s1 h1 J wk g0 => ?_⟩
  generalize hf : (fun (x : A) (σ1 : Env) (s2 : Dy.S) => (asgT cf cs t x σ1 s2).bindX σ1 fun σ2 s3 => evB cf cs b σ2 s3) = f at h1
  refine ⟨fun i msr σ2 H2 => msr = w.1.length - i ∧ i ≤ w.1.length ∧ ∃ (σ1 : Env) (S2 : Dy.S) (R2 : Hp) (m2 : List Addr), Ext R1 m1 R2 m2 ∧ At X.K σ1 S2 Z R2 m2 σ2 H2 ∧ grdB w.2 S2 = true ∧ OutS X.K ca W Z R2 m2 (forR w.2 f (w.1.drop i) σ1 S2) D,
    ⟨w.1.length, rfl, Nat.zero_le _, σ', S1, R1, m1, Ext.refl _ _, ha.step e1 s1, g0, h1⟩, ?_⟩
  rintro i msr σ2 H2 ⟨rfl, hle, σ1, S2, R2, m2, e2, a2, g2, o2⟩
  by_cases hlt : i < w.1.length
  · have ed : w.1.drop i = w.1[i] :: w.1.drop (i + 1) := List.drop_eq_getElem_cons hlt
    have ei : w.1[i]? = some w.1[i] := List.getElem?_eq_getElem hlt
    obtain ⟨hgo, hyld⟩ := wk.go i _ Z R2 m2 S2 H2 e2 a2.sim g2 ei
    rw [ed] at o2
    refine .inr ⟨hgo, fun σ3 H3 => i + 1 ≤ w.1.length ∧ ∃ (σ1 : Env) (S2 : Dy.S) (R2 : Hp) (m2 : List Addr), Ext R1 m1 R2 m2 ∧ At X.K σ1 S2 Z R2 m2 σ3 H3 ∧ grdB w.2 S2 = true ∧ OutS X.K ca W Z R2 m2 (forR w.2 f (w.1.drop (i + 1)) σ1 S2) D,
      fun σ3 H3 hN => ⟨w.1.length - (i + 1), by omega, rfl, hN⟩, fun x H3 hx => ?_⟩
    obtain ⟨R3, e3, s3, r3⟩ := hyld x H3 hx
    have o3 : OutS X.K ca W Z R3 m2 ((f w.1[i] σ1 S2).bind fun fl s1 => match fl with
      | .nx σ' => if grdB w.2 s1 then forR w.2 f (w.1.drop (i + 1)) σ' s1 else .bad
      | .ct σ' => if grdB w.2 s1 then forR w.2 f (w.1.drop (i + 1)) σ' s1 else .bad
      | .bk σ' => .ok (.nx σ') s1
      | .rt a => .ok (.rt a) s1
      | .ex x σ' => .ok (.ex x σ') s1) D := OutS.mono o2 e3
    have ef : f w.1[i] σ1 S2 = (asgT cf cs t w.1[i] σ1 S2).bindX σ1 fun σ2 s3 => evB cf cs b σ2 s3 := by rw [← hf]
    rw [ef, bindX_bind (nox_asg t _ σ1 S2)] at o3
    refine ⟨_, σ1, S2, Z, R3, m2, r3, ⟨a2.env.mono e3, s3⟩, (o3.bindN (nox_asg t _ σ1 S2)).imp fun σ4 S4 R4 m4 H4 e4 s4 h4 σ5 en _ => ?_⟩
    refine ⟨σ4, S4, Z, R4, m4, ⟨en, s4⟩, h4.turn (fun σ6 S6 R6 m6 H6 e6 s6 h6 σ7 en7 => ?_) (fun _ _ => rfl) (fun _ _ => rfl) (fun _ _ => rfl) (fun _ _ _ => rfl)⟩
    by_cases gg : grdB w.2 S6 = true
    · have h7 : OutS X.K ca W Z R6 m6 (if grdB w.2 S6 then forR w.2 f (w.1.drop (i + 1)) σ6 S6 else .bad) D := h6
      rw [if_pos gg] at h7
      exact ⟨by omega, σ6, S6, R6, m6, e2.trans (e3.trans (e4.trans e6)), ⟨en7, s6⟩, gg, h7⟩
    · have h7 : OutS X.K ca W Z R6 m6 (if grdB w.2 S6 then forR w.2 f (w.1.drop (i + 1)) σ6 S6 else .bad) D := h6
      rw [if_neg gg] at h7
      exact False.elim h7
  · have e0 : w.1.drop i = [] := List.drop_eq_nil_of_le (by omega)
    rw [e0] at o2
    exact .inl ⟨wk.stop i Z R2 m2 S2 H2 e2 a2.sim g2 (by omega), OutS.fin (o2 : OutS X.K ca W Z R2 m2 (.ok (.nx σ1) S2) D) a2.sim _ a2.env⟩
theorem st_while {k : Nat} {c : E} {b : B} {y : Expr} {u : List Stmt} {p : Pos} (C : Sok nf cs cf ca n q W X) (hc : PT X y (tT X.K ca W cf cs c)) (hb : PSs X u (tB X.K ca W cf cs b)) : PS X (.While y u [] p) (tS X.K ca W cf cs (.whil k c b)) := by
  refine psMono (ps_while C.po hc hb) fun D σ H ⟨σ', S, Z, R, m, ha, h⟩ => ?_
  generalize hf : (fun (σ1 : Env) (s1 : Dy.S) => evB cf cs b σ1 s1) = f at h
  generalize hcc : (fun (σ1 : Env) (s1 : Dy.S) => (evE cf cs c σ1 s1).bind fun x s1 => ofO (truth s1 x) s1) = cc at h
  have h : OutS X.K ca W Z R m (whR cc f k σ' S) D := by
    rw [← hf, ← hcc]
    exact h
  refine ⟨fun msr σ2 H2 => ∃ (σ1 : Env) (S2 : Dy.S) (Z2 R2 : Hp) (m2 : List Addr), At X.K σ1 S2 Z2 R2 m2 σ2 H2 ∧ OutS X.K ca W Z2 R2 m2 (whR cc f msr σ1 S2) D, ⟨k, σ', S, Z, R, m, ha, h⟩, ?_⟩
  rintro msr σ2 H2 ⟨σ1, S2, Z2, R2, m2, a2, o2⟩
  cases msr with
  | zero => exact False.elim o2
  | succ j =>
    have o3 : OutS X.K ca W Z2 R2 m2 ((cc σ1 S2).bindX σ1 fun b s0 => if b then (f σ1 s0).bind fun fl s1 => match fl with
      | .nx σ' => whR cc f j σ' s1
      | .ct σ' => whR cc f j σ' s1
      | .bk σ' => .ok (.nx σ') s1
      | .rt a => .ok (.rt a) s1
      | .ex x σ' => .ok (.ex x σ') s1
      else .ok (.nx σ1) s0) D := o2
    have ec : cc σ1 S2 = (evE cf cs c σ1 S2).bind fun x s1 => ofO (truth s1 x) s1 := by rw [← hcc]
    rw [ec] at o3
    refine ⟨σ1, S2, Z2, R2, m2, a2, (o3.bindX a2).imp fun b3 S3 R3 m3 H3 e3 s3 h3 => ?_⟩
    cases b3 with
    | true =>
      refine iteT ⟨fun σ4 H4 => ∃ (σ1 : Env) (S2 : Dy.S) (Z2 R2 : Hp) (m2 : List Addr), At X.K σ1 S2 Z2 R2 m2 σ4 H4 ∧ OutS X.K ca W Z2 R2 m2 (whR cc f j σ1 S2) D, fun σ4 H4 hN => ⟨j, Nat.lt_succ_self j, hN⟩, ?_⟩
      rw [if_pos rfl] at h3
      have ef : f σ1 S3 = evB cf cs b σ1 S3 := by rw [← hf]
      rw [ef] at h3
      refine ⟨σ1, S3, Z2, R3, m3, ⟨a2.env.mono e3, s3⟩, h3.turn (fun σ6 S6 R6 m6 H6 e6 s6 h6 σ7 en7 => ⟨σ6, S6, Z2, R6, m6, ⟨en7, s6⟩, h6⟩) (fun _ _ => rfl) (fun _ _ => rfl) (fun _ _ => rfl) (fun _ _ _ => rfl)⟩
    | false =>
      rw [if_neg Bool.false_ne_true] at h3
      exact iteF (h3.fin s3 _ (a2.env.mono e3))
/-! ### blocks -/
theorem b_nil : PSs X [] (tB X.K ca W cf cs .nil) := pssMono pss_nil fun D σ H ⟨σ', S, Z, R, m, ha, h⟩ => h.fin ha.sim _ ha.env
theorem b_cons {st : St} {r : B} {x : Stmt} {xs : List Stmt} (hs : PS X x (tS X.K ca W cf cs st)) (hr : PSs X xs (tB X.K ca W cf cs r)) : PSs X (x :: xs) (tB X.K ca W cf cs (.cons st r)) := by
  refine pssMono (pss_cons hs hr) fun D σ H ⟨σ', S, Z, R, m, ha, h⟩ => ?_
  refine ⟨σ', S, Z, R, m, ha, ?_⟩
  have h : OutS X.K ca W Z R m ((evS cf cs st σ' S).bind _) D := h
  revert h
  cases evS cf cs st σ' S with
  | exc x s => exact fun h => h
  | bad => exact fun h => h
  | ok fl s =>
    intro h R' m' H' e' s'
    cases fl with
    | nx σ1 => exact fun σ en => ⟨σ1, s, Z, R', m', ⟨en, s'⟩, OutS.mono h e'⟩
    | bk σ1 => exact fun σ en => h R' m' H' e' s' σ en
    | ct σ1 => exact fun σ en => h R' m' H' e' s' σ en
    | rt a => exact fun v rv => h R' m' H' e' s' v rv
    | ex x σ1 => exact fun σ cv d en rx => h R' m' H' e' s' σ cv d en rx
theorem chkEs_nst : ∀ (es : Es) (vs : List Expr), noStar es = true → chkEs nf q es vs = true → ∀ v ∈ vs, nst v = true
  | .nil, vs, _, h, v, hv => by
    unfold chkEs at h
    split at h
    · cases hv
    · cases h
  | .cons e r, vs, g, h, v, hv => by
    unfold chkEs at h
    split at h
    · obtain ⟨h, h3⟩ := ands h
      obtain ⟨h1, h2⟩ := ands h
      rcases List.mem_cons.mp hv with rfl | hv
      · exact h1
      · exact chkEs_nst r _ g h3 v hv
    · cases h
  | .star e r, _, g, _, _, _ => by cases g
theorem parB_cons {i : Nat} {is : List Nat} {t : Expr} {ts : List Expr} {l : Nat} (h : parB q (i :: is) (t :: ts) l = true) : ∃ x p, t = .Name x p ∧ q.N[i]? = some x ∧ lclB q.sc x = true ∧ (p.line == l) = true ∧ parB q is ts l = true := by
  unfold parB at h
  split at h
  · rename_i heq
    cases heq
  · rename_i heq1 heq2
    cases heq1
    cases heq2
    obtain ⟨h, h4⟩ := ands h
    obtain ⟨h, h3⟩ := ands h
    obtain ⟨h1, h2⟩ := ands h
    exact ⟨_, _, rfl, of_decide_eq_true h1, h2, h3, h4⟩
  · cases h
theorem parB2 {i j : Nat} {t1 t2 : Expr} (h : parB q [i, j] [t1, t2] ((([t1, t2] : List Expr).head?.map (·.pos.line)).getD 0) = true) :
    ∃ x1 p1 x2 p2, t1 = .Name x1 p1 ∧ t2 = .Name x2 p2 ∧ q.N[i]? = some x1 ∧ q.N[j]? = some x2 ∧ lclB q.sc x1 = true ∧ lclB q.sc x2 = true ∧ (p2.line == p1.line) = true := by
  obtain ⟨x1, p1, rfl, a1, a2, a3, h⟩ := parB_cons h
  obtain ⟨x2, p2, rfl, b1, b2, b3, h⟩ := parB_cons h
  exact ⟨x1, p1, x2, p2, rfl, rfl, a1, b1, a2, b2, b3⟩
theorem parB3 {i j l : Nat} {t1 t2 t3 : Expr} (h : parB q [i, j, l] [t1, t2, t3] ((([t1, t2, t3] : List Expr).head?.map (·.pos.line)).getD 0) = true) :
    ∃ x1 p1 x2 p2 x3 p3, t1 = .Name x1 p1 ∧ t2 = .Name x2 p2 ∧ t3 = .Name x3 p3 ∧ q.N[i]? = some x1 ∧ q.N[j]? = some x2 ∧ q.N[l]? = some x3 ∧ lclB q.sc x1 = true ∧ lclB q.sc x2 = true ∧ lclB q.sc x3 = true ∧ (p2.line == p1.line) = true ∧ (p3.line == p1.line) = true := by
  obtain ⟨x1, p1, rfl, a1, a2, a3, h⟩ := parB_cons h
  obtain ⟨x2, p2, rfl, b1, b2, b3, h⟩ := parB_cons h
  obtain ⟨x3, p3, rfl, c1, c2, c3, h⟩ := parB_cons h
  exact ⟨x1, p1, x2, p2, x3, p3, rfl, rfl, rfl, a1, b1, c1, a2, b2, c2, b3, c3⟩
/-! ### all statements -/
theorem swapB_true (C : Cok nf cs cf ca n q W X) {x : Str} {p' : Pos} {elt : Expr} {gs : List Comprehension} {scope : Scope} {pos : Pos} (l : Nat) (h : swapB q x p' (.ListComp elt gs scope pos) = true) : swapsWith (.ListComp elt gs scope pos) (some (.Name x p')) l X.env = pure true := by
  have h' : (lclB q.sc x && (p'.line == pos.line) && !(scope.names.any fun (m, k) => m == x && (k == .local || k == .cell))) = true := h
  obtain ⟨h1, h2⟩ := ands h'
  obtain ⟨h3, h4⟩ := ands h1
  refine sw_true C.kind (by rw [C.sc]; exact lclOf h3) h4 ?_
  simpa using h2
theorem swapB_false (C : Cok nf cs cf ca n q W X) {x : Str} {p' : Pos} {elt : Expr} {gs : List Comprehension} {scope : Scope} {pos : Pos} (l : Nat) (h : swapB q x p' (.ListComp elt gs scope pos) = false) : swapsWith (.ListComp elt gs scope pos) (some (.Name x p')) l X.env = pure false := by
  have h' : (lclB q.sc x && (p'.line == pos.line) && !(scope.names.any fun (m, k) => m == x && (k == .local || k == .cell))) = false := h
  have hb := blockKind_of C.kind
  have hk : (X.env.kindOf x == some .local) = lclB q.sc x := by
    show (X.env.scope.names.lookup x == some .local) = _
    rw [C.sc]
    unfold lclB
    cases q.sc.names.lookup x with
    | none => rfl
    | some k => cases k <;> rfl
  show (pure (X.env.blockKind == .function && X.env.kindOf x == some .local && p'.line == pos.line && !(scope.names.any fun (m, k) => m == x && (k == .local || k == .cell))) : Sem Bool) = pure false
  rw [hb, hk]
  show (pure (true && lclB q.sc x && p'.line == pos.line && !(scope.names.any fun (m, k) => m == x && (k == .local || k == .cell))) : Sem Bool) = pure false
  rw [Bool.true_and, h']
theorem st_comp {i : Nat} {e : E} {l : L} {x : Str} {y : Expr} {p p' : Pos} (C : Sok nf cs cf ca n q W X) (hst : storB q i x = true) (he : chkE nf q e y = true) (hl : chkL nf q l y = true) (hy : ∃ elt gs scope pos, y = .ListComp elt gs scope pos) (hlc : ∃ own t i c e', l = .comp own t i c e')
    (red : ∀ σ H Q, tE X.K ca W cf cs e σ H Q → tL X.K ca W cf cs l σ H Q) : PS X (.Assign [.Name x p'] y p) (tS X.K ca W cf cs (.asg (.v i) e)) := by
  obtain ⟨elt, gs, scope, pos, rfl⟩ := hy
  obtain ⟨own, t, ii, c, e', rfl⟩ := hlc
  cases hsw : swapB q x p' (.ListComp elt gs scope pos) with
  | false => exact st_set C (sE e C.toCok he).pe hst (swapB_false C.toCok _ hsw)
  | true =>
    have hlx : lclB q.sc x = true := by
      have h' : (lclB q.sc x && (p'.line == pos.line) && !(scope.names.any fun (m, k) => m == x && (k == .local || k == .cell))) = true := hsw
      exact (ands (ands h').1).1
    unfold chkL at hl
    split at hl
    · rename_i heq
      cases heq
      obtain ⟨h, h7⟩ := ands hl
      obtain ⟨h, h6⟩ := ands h
      obtain ⟨h, h5⟩ := ands h
      obtain ⟨h, h4⟩ := ands h
      obtain ⟨h, h3⟩ := ands h
      obtain ⟨h1, h2⟩ := ands h
      have hk := blk_kind h3
      have ok : BlkOk X.N X.env.scope scope (ownB q own) := by
        rw [C.N, C.sc]
        exact blkOk_by h3
      have eo : (ownB q own).map (·.2) = own := by
        unfold ownB
        rw [List.map_map]
        exact List.map_id' own
      refine st_setLc (l := .comp own t ii c e') (wi := tI X.K ca W cf cs ii) (g := tG X.K ca W0 cf cs t) (tt := Dy.tC X.K ca W0 cf cs c) (te := tE X.K ca W0 cf cs e') C hst hlx (swapB_true C.toCok _ hsw) (sI ii C.toCok h1) ok (fun s H D cl fp => sT t (C.toCok.blk hk s H D cl fp) h5) (fun s H D cl fp => sC c (C.toCok.blk hk s H D cl fp) h6) (fun s H D cl fp => (sE e' (C.toCok.blk hk s H D cl fp) h7).pe) h2 fun σ H Q z => ?_
      rw [eo]
      exact red_comp h4 (red σ H Q z)
    · cases hl
mutual
theorem sS : ∀ (st : St) {q : Blk} {W : WX} {X : Cx}, Sok nf cs cf ca n q W X → ∀ {x : Stmt}, chkS nf q st x = true → PS X x (tS X.K ca W cf cs st)
  | .asg t e, q, W, X, C, x, h => by
    unfold chkS at h
    split at h
    · obtain ⟨h, h3⟩ := ands h
      obtain ⟨h1, h2⟩ := ands h
      rename_i tg y p hx0
      cases tg with
      | Name nm np =>
        cases y with
        | ListComp elt gs scope pos =>
          have h3 : isCompE e = true := h3
          cases t with
          | v i =>
            have hst : storB q i nm = true := h1
            unfold isCompE at h3
            split at h3
            · exact st_comp C hst h2 (show chkL nf q _ _ = true from h2) ⟨_, _, _, _, rfl⟩ ⟨_, _, _, _, _, rfl⟩ fun σ H Q z => red_lst z
            · exact st_comp C hst h2 (show chkL nf q _ _ = true from h2) ⟨_, _, _, _, rfl⟩ ⟨_, _, _, _, _, rfl⟩ fun σ H Q z => red_mk z
            · cases h3
          | tup ts => cases h1
          | sub o i => cases h1
        | _ => exact st_asg C (sE e C.toCok h2).pe (sT t C.toCok h1) h3 rfl h1
      | Tuple ts k p =>
        obtain ⟨h4, h5⟩ := ands (show (noComp y && noSwap q (.Tuple ts k p) y) = true from h3)
        exact st_asg C (sE e C.toCok h2).pe (sT t C.toCok h1) h4 h5 h1
      | List ts p => cases t <;> cases h1
      | _ => exact st_asg C (sE e C.toCok h2).pe (sT t C.toCok h1) h3 rfl h1
    · cases h
  | .par is es, q, W, X, C, x, h => by
    unfold chkS at h
    split at h
    · rename_i ts k1 p1 vs k2 p2 p3
      obtain ⟨h, h9⟩ := ands h
      obtain ⟨h, h8⟩ := ands h
      obtain ⟨h, h7⟩ := ands h
      obtain ⟨h, h6⟩ := ands h
      obtain ⟨h, h5⟩ := ands h
      obtain ⟨h, h4⟩ := ands h
      obtain ⟨h, h3⟩ := ands h
      obtain ⟨h1, h2⟩ := ands h
      have hnd := of_decide_eq_true h2
      have hl1 := of_decide_eq_true h3
      have hl2 := of_decide_eq_true h4
      have pa := sEs es C.toCok h7
      have f8 : vs.all (foldedForSure 8) = false := by simpa using h8
      have f9 : vs.all (constantsAlone 8) = false := by simpa using h9
      have nsts : ∀ (es : Es) (vs : List Expr), noStar es = true → chkEs nf q es vs = true → ∀ v ∈ vs, nst v = true := chkEs_nst
      have hv := nsts es vs h5 h7
      rcases Bool.or_eq_true_iff.mp h1 with g | g
      · have hl := of_decide_eq_true g
        match ts, is, vs, hl, hl1, hl2, h6, hnd, pa, f8, f9, hv with
        | [t1, t2], [i, j], [a, b], _, _, _, h6, hnd, pa, f8, f9, hv =>
          obtain ⟨x1, q1, x2, q2, rfl, rfl, a1, a2, a3, a4, a5⟩ := parB2 h6
          exact st_par2 C a1 a2 (by simpa using hnd) a3 a4 a5 (hv a (by simp)) (hv b (by simp)) f8 f9 pa
      · have hl := of_decide_eq_true g
        match ts, is, vs, hl, hl1, hl2, h6, hnd, pa, f8, f9, hv with
        | [t1, t2, t3], [i, j, l], [a, b, c], _, _, _, h6, hnd, pa, f8, f9, hv =>
          obtain ⟨x1, q1, x2, q2, x3, q3, rfl, rfl, rfl, a1, a2, a3, b1, b2, b3, l2, l3⟩ := parB3 h6
          simp only [List.nodup_cons, List.mem_cons, List.not_mem_nil, or_false, not_or, not_false_eq_true, List.nodup_nil, and_true] at hnd
          exact st_par3 C a1 a2 a3 hnd.1.1 hnd.1.2 hnd.2 b1 b2 b3 l2 l3 (hv a (by simp)) (hv b (by simp)) (hv c (by simp)) f8 f9 pa
    · cases h
  | .aug i o e, q, W, X, C, x, h => by
    unfold chkS at h
    split at h
    · obtain ⟨h, h4⟩ := ands h
      obtain ⟨h, h3⟩ := ands h
      obtain ⟨h1, h2⟩ := ands h
      exact st_aug C h1 (sE e C.toCok h3).pe h4
    · cases h
  | .expr e, q, W, X, C, x, h => by
    unfold chkS at h
    split at h
    · obtain ⟨h1, h2⟩ := ands h
      exact st_expr (sE e C.toCok h2).pe h1
    · cases h
  | .iff c a b, q, W, X, C, x, h => by
    unfold chkS at h
    split at h
    · obtain ⟨h, h3⟩ := ands h
      obtain ⟨h1, h2⟩ := ands h
      exact st_if (sE c C.toCok h1).pt (sB a C h2) (sB b C h3)
    · cases h
  | .for_ t i b, q, W, X, C, x, h => by
    unfold chkS at h
    split at h
    · obtain ⟨h, h4⟩ := ands h
      obtain ⟨h, h3⟩ := ands h
      obtain ⟨h1, h2⟩ := ands h
      exact st_for C (sI i C.toCok h1) (sT t C.toCok h3) (sB b C h4) h2
    · cases h
  | .whil k c b, q, W, X, C, x, h => by
    unfold chkS at h
    split at h
    · obtain ⟨h1, h2⟩ := ands h
      exact st_while C (sE c C.toCok h1).pt (sB b C h2)
    · cases h
  | .ret e, q, W, X, C, x, h => by
    unfold chkS at h
    split at h
    · exact st_ret (sE e C.toCok h).pe
    · cases h
  | .retN, q, W, X, C, x, h => by
    unfold chkS at h
    split at h
    · exact st_retN
    · cases h
  | .brk, q, W, X, C, x, h => by
    unfold chkS at h
    split at h
    · exact st_brk
    · cases h
  | .cont, q, W, X, C, x, h => by
    unfold chkS at h
    split at h
    · exact st_cont
    · cases h
  | .pass, q, W, X, C, x, h => by
    unfold chkS at h
    split at h
    · exact st_pass
    · cases h
  | .never, q, W, X, C, x, h => st_never
theorem sB : ∀ (b : B) {q : Blk} {W : WX} {X : Cx}, Sok nf cs cf ca n q W X → ∀ {xs : List Stmt}, chkB nf q b xs = true → PSs X xs (tB X.K ca W cf cs b)
  | .nil, q, W, X, C, xs, h => by
    unfold chkB at h
    split at h
    · exact b_nil
    · cases h
  | .cons st r, q, W, X, C, xs, h => by
    unfold chkB at h
    split at h
    · obtain ⟨h1, h2⟩ := ands h
      exact b_cons (sS st C h1) (sB r C h2)
    · cases h
end
end
end Dy
end

section
set_option Elab.async false
set_option linter.all false
set_option maxRecDepth 100000
set_option maxHeartbeats 4000000
namespace Dy
open PySem PySem.Spec PyProof.Rows L2
/-- a def of the text and its twin -/
structure Twin (K : PySem.W.Frag) (mg : Str → Option Value) (nf : Info) (j : Nat) (x : Str) (ps : List Str) (d : Def) : Prop where
  ex : ∃ (N : List Str) (st : Stmt) (a : Addr) (fd : FuncData), mg x = some (.ref a) ∧ Fun K x x st a fd ∧ FnScope N ps (defScope st) ∧ Binds K fd ps [] ∧
    (∀ (np : Nat) (ks : List Str) (pm : List Nat), (j, np, ks, pm) ∈ nf.kws → pm.length = ps.length ∧ ∀ (s : Shared) (us ws : List Value), K.In s.heap → us.length = np → ws.length = ks.length → BindsTo s fd ⟨us, ks.zip ws⟩ (ps.zip (pm.map fun i => (us ++ ws).getD i .none))) ∧
    d.np = ps.length ∧ d.nn = N.length ∧ chkB nf ⟨N, defScope st, fun _ => true⟩ d.body (defBody st) = true
section
variable {P : Program} {w : World} {K : PySem.W.Frag} {mg : Str → Option Value} {base : Heap} {nf : Info} {cs : List A} {G : List Def} {ca : List Addr}
theorem start_env {R : Hp} {m : List Addr} {N : List Str} {as : List A} {vs : List V} {d : Def} (r : Reps K R m as vs) (hp : as.length = d.np) (hn : d.nn = N.length) : EnvR K R m (as.map some ++ List.replicate (d.nn - d.np) none) (L2.start N vs) := by
  have hl := r.length
  refine ⟨?_, fun i a h => ?_⟩
  · unfold L2.start
    rw [List.length_append, List.length_append, List.length_map, List.length_map, List.length_replicate, List.length_replicate, hl, hp, hn]
  · unfold L2.start
    by_cases hi : i < as.length
    · rw [List.getElem?_append_left (by rw [List.length_map]; exact hi), List.getElem?_map] at h
      obtain ⟨b, hb, e⟩ := omap h
      cases e
      obtain ⟨v, hv, rv⟩ := r.get hb
      refine ⟨v, ?_, rv⟩
      rw [List.getElem?_append_left (by rw [List.length_map, hl]; exact hi), List.getElem?_map, hv] <;> rfl
    · rw [List.getElem?_append_right (by rw [List.length_map]; omega)] at h
      rw [List.getElem?_replicate] at h
      split at h <;> cases h
theorem fn_body {E : XK} {H : Hp} {Q : VK} {Z R : Hp} {m : List Addr} {S : Dy.S} {N : List Str} {as : List A} {vs : List V} {d : Def} {n j : Nat} (hG : G[j]? = some d) (hs : Sim K Z R m S H) (r : Reps K R m as vs) (hn : d.nn = N.length)
    (o : OutE K ca E Z R m (callF G cs (n + 1) j as S) fun a _ R' m' H' => ∀ v, Rep K R' m' a v → Q v H') :
    tB K ca (fun cls d _ H => E cls d H) (callF G cs n) cs d.body { nx := fun _ H' => Q .non H', rt := Q } (L2.start N vs) H := by
  unfold callF at o
  rw [hG] at o
  by_cases hl : as.length = d.np
  · have o : OutE K ca E Z R m ((evB (callF G cs n) cs d.body (as.map some ++ List.replicate (d.nn - d.np) none) S).nox.bind fun fl s1 => match fl with
        | .nx _ => .ok .non s1
        | .rt a => .ok a s1
        | .ex x _ => .exc x s1
        | _ => .bad) (fun a _ R' m' H' => ∀ v, Rep K R' m' a v → Q v H') := by
      have o' := o
      dsimp only at o'
      rw [if_pos hl] at o'
      exact o'
    refine ⟨_, S, Z, R, m, ⟨start_env r hl hn, hs⟩, ?_⟩
    revert o
    cases evB (callF G cs n) cs d.body (as.map some ++ List.replicate (d.nn - d.np) none) S with
    | exc x s => exact fun o => o
    | bad => exact fun o => o
    | ok fl s =>
      intro o R' m' H' e' s'
      cases fl with
      | nx σ1 => exact fun σ en => (OutE.mono o e').fin s' _ .non
      | bk σ1 => exact False.elim o
      | ct σ1 => exact False.elim o
      | rt a => exact fun v rv => (OutE.mono o e').fin s' v rv
      | ex x σ1 => exact fun σ cv d en rx => o R' m' H' cv d e' s' rx
  · dsimp only at o
    rw [if_neg hl] at o
    exact False.elim o
/-- one def, by the depth below it -/
theorem fn_ok {n j : Nat} {x : Str} {ps N : List Str} {st : Stmt} {a : Addr} {fd : FuncData} {d : Def} (ih : Facts nf cs (callF G cs n) ca n P w K mg base) (hd : G[j]? = some d) (h2 : Fun K x x st a fd) (h3 : FnScope N ps (defScope st)) (h7 : d.nn = N.length)
    (h8 : chkB nf ⟨N, defScope st, fun _ => true⟩ d.body (defBody st) = true) : FnOk P w K mg base (L2.CX P w) (n + 1) a fd ps (spF K ca (callF G cs (n + 1) j) ps.length) := by
  refine h2.okX h3 (fun vs H Q E z => z.1) fun cdv A outer s H vs Q E hr z => ?_
  obtain ⟨_, Z, R, m, S, as, q1, q2, o⟩ := z
  have C : Sok nf cs (callF G cs n) ca n ⟨N, defScope st, fun _ => true⟩ (fun cls d _ H => E cls d H) (cxOf (L2.CX P w) P w K mg base N x (defScope st) a cdv A outer s H E) :=
    { N := rfl, nd := h3.nd, sc := rfl, kind := h3.kind, calm := rfl, fb := fun _ _ _ => rfl, tk := takes_of rfl rfl rfl rfl, room := hr, tab := ih, po := passes_of rfl }
  exact ⟨_, sB d.body C h8, fn_body hd q1 q2 h7 o⟩
/-- THE DEFS: each keeps what its twin says -/
theorem all_facts (T : ∀ (j : Nat) (x : Str) (ps : List Str), nf.fns[j]? = some (x, ps) → ∃ d, G[j]? = some d ∧ Twin K mg nf j x ps d)
    (gs : ∀ (j : Nat) (x : Str), nf.gs[j]? = some x → ∃ (u : Value) (v : V) (c : A), mg x = some u ∧ RelV v u ∧ cs[j]? = some c ∧ ∀ (R : Hp) (m : List Addr), Rep K R m c v)
    (bl : ∀ x ∈ bnames, mg x = none) (gc : nf.gcd = true → mg "gcd" = some (.builtin "math.gcd")) : ∀ n, Facts nf cs (callF G cs n) ca n P w K mg base := by
  intro n
  induction n with
  | zero =>
    refine ⟨fun f x ps h => ?_, gs, bl, gc⟩
    obtain ⟨d, hd, ⟨N, st, a, fd, h1, h2, h3, h4, h5, h6, h7, h8⟩⟩ := T f x ps h
    refine ⟨a, fd, h1, h2.kp, h4, h5, ⟨fun vs H Q E z => z.1, fun A outer s H args us vs Q E _ _ _ _ z => ?_⟩, fun _ _ _ => rfl⟩
    obtain ⟨_, Z, R, m, S, as, _, _, o⟩ := z
    exact False.elim o
  | succ n ih =>
    refine ⟨fun f x ps h => ?_, gs, bl, gc⟩
    obtain ⟨d, hd, ⟨N, st, a, fd, h1, h2, h3, h4, h5, h6, h7, h8⟩⟩ := T f x ps h
    refine ⟨a, fd, h1, h2.kp, h4, h5, ?_, fun as S z => ?_⟩
    · exact fn_ok ih hd h2 h3 h7 h8
    · unfold callF
      rw [hd]
      dsimp only
      rw [if_neg (by rw [h6]; exact z)]
/-- the keyword forms of a def -/
def kwOf (nf : Info) (j : Nat) : List (Nat × List Str × List Nat) := nf.kws.filterMap fun e => if e.1 = j then some e.2 else none
theorem of_kw (nf : Info) (j : Nat) {np : Nat} {ks : List Str} {pm : List Nat} (h : (j, np, ks, pm) ∈ nf.kws) : (np, ks, pm) ∈ kwOf nf j :=
  List.mem_filterMap.mpr ⟨_, h, if_pos rfl⟩
theorem no_kw (nf : Info) (j : Nat) (h : kwOf nf j = []) (np : Nat) (ks : List Str) (pm : List Nat) : ¬ ((j, np, ks, pm) ∈ nf.kws) := fun z => by
  have := of_kw nf j z
  rw [h] at this
  cases this
/-- the law's promise: from the script to True -/
def spLaw (K : PySem.W.Frag) : Sp := fun vs H Q _ => ∃ (a : Addr) (ns : List Int), vs = [.ref a] ∧ SqL K H a (ns.map V.int) ∧ ns.length ≤ 63 ∧ ∀ H', Q (.bl true) H'
theorem reps_ints {R : Hp} {m : List Addr} : ∀ ns : List Int, Reps K R m (ns.map A.int) (ns.map V.int)
  | [] => .nil
  | n :: ns => .cons (.int n) (reps_ints ns)
theorem sqL_ty {H : Hp} {a : Addr} {vs : List V} (h : SqL K H a vs) : TyX K H (.ref a) (.type "list") := by
  rcases h with (h | ⟨o, h⟩) | ⟨o, its, n, h1, h2, _⟩
  · exact .base (.lst h)
  · exact .base (.frz h)
  · exact .kList h1 h2
theorem law_sp {j n : Nat} (h : ∀ ns : List Int, ns.length ≤ 63 → ∃ s, callF G cs n j [.ro (ns.map A.int)] [] = .ok (.bl true) s) : ∀ vs H Q E, spLaw K vs H Q E → spF K ca (callF G cs n j) 1 vs H Q E := by
  rintro vs H Q E ⟨a, ns, rfl, hS, hl, q⟩
  obtain ⟨s, e⟩ := h ns hl
  refine ⟨rfl, fun _ => none, H, [], [], [.ro (ns.map A.int)], ⟨fun _ _ h => h, rfl, fun n xs a e1 _ => ?_, fun n n' a xs xs' e1 _ _ _ => ?_, fun a o e => ?_⟩, .cons (.ro hS ⟨_, sqL_ty hS, rfl⟩ (reps_ints ns)) .nil, ?_⟩
  · simp at e1
  · simp at e1
  · cases e
  · rw [e]
    intro R' m' H' _ _ v rv
    cases rv
    exact q H'
theorem cx_no {H : Hp} {s s' : Shared} {e : Value} (h : L2.CX P w [] H s (fun _ _ _ => False) e s') : False := by
  obtain ⟨_, _, _, _, _, _, _, _, _, _, _, _, z⟩ := h
  exact z
end
end Dy
end

section
set_option Elab.async false
set_option linter.all false
namespace Dy
open PySem
/-! ### what a run of the evaluator must give -/
/-- the run ends well with Q, or with an error and X -/
structure wpe {α : Type} (r : Res α) (Q : α → S → Prop) (X : Xn → S → Prop) : Prop where
  get : match r with
    | .ok a s => Q a s
    | .exc x s => X x s
    | .bad => False
@[simp] theorem wpe_ok {α : Type} (a : α) (s : S) (Q : α → S → Prop) (X) : wpe (.ok a s) Q X = Q a s := propext ⟨fun h => h.get, fun h => ⟨h⟩⟩
@[simp] theorem wpe_exc {α : Type} (x : Xn) (s : S) (Q : α → S → Prop) (X) : wpe (.exc x s) Q X = X x s := propext ⟨fun h => h.get, fun h => ⟨h⟩⟩
@[simp] theorem wpe_bad {α : Type} (Q : α → S → Prop) (X) : wpe (.bad) Q X = False := propext ⟨fun h => h.get, fun h => ⟨h⟩⟩
@[simp] theorem wpe_bind {α β : Type} (r : Res α) (f : α → S → Res β) (Q X) : wpe (r.bind f) Q X = wpe r (fun a s => wpe (f a s) Q X) X := by cases r <;> simp [Res.bind]
@[simp] theorem wpe_bindX {α : Type} (r : Res α) (σ : Env) (f : α → S → Res Fl) (Q X) : wpe (r.bindX σ f) Q X = wpe r (fun a s => wpe (f a s) Q X) (fun x s => Q (.ex x σ) s) := by cases r <;> simp [Res.bindX]
@[simp] theorem wpe_nox {α : Type} (r : Res α) (Q X) : wpe r.nox Q X = wpe r Q (fun _ _ => False) := by cases r <;> simp [Res.nox]
@[simp] theorem ofO_some {α : Type} (a : α) (s : S) : ofO (some a) s = .ok a s := (rfl)
@[simp] theorem ofO_none {α : Type} (s : S) : ofO (none : Option α) s = .bad := (rfl)
theorem wpe_mono {α : Type} {r : Res α} {Q Q' : α → S → Prop} {X X' : Xn → S → Prop} (h : wpe r Q X) (hQ : ∀ a s, Q a s → Q' a s) (hX : ∀ x s, X x s → X' x s) : wpe r Q' X' := by
  cases r with
  | ok a s => exact ⟨hQ a s h.get⟩
  | exc x s => exact ⟨hX x s h.get⟩
  | bad => exact ⟨h.get⟩
/-- a run that ends well with Q, and no error -/
abbrev wp {α : Type} (r : Res α) (Q : α → S → Prop) : Prop := wpe r Q (fun _ _ => False)
theorem wp_use {α : Type} {r : Res α} {Q Q' : α → S → Prop} {X' : Xn → S → Prop} (h : wp r Q) (hQ : ∀ a s, Q a s → Q' a s) : wpe r Q' X' := wpe_mono h hQ (fun _ _ h => h.elim)
theorem wp_get {α : Type} {r : Res α} {Q : α → S → Prop} (h : wp r Q) : ∃ a s, r = .ok a s ∧ Q a s := by
  cases r with
  | ok a s => exact ⟨a, s, rfl, h.get⟩
  | exc x s => exact h.get.elim
  | bad => exact h.get.elim
theorem wp_eq {α : Type} {r : Res α} {a : α} {s : S} (h : r = .ok a s) : wp r (fun a' s' => a' = a ∧ s' = s) := by subst h; exact ⟨⟨rfl, rfl⟩⟩
theorem wp_of_eq {α : Type} {r : Res α} {a : α} {s : S} {Q : α → S → Prop} {X} (h : r = .ok a s) (hq : Q a s) : wpe r Q X := by subst h; exact ⟨hq⟩
theorem eq_of_wp {α : Type} {r : Res α} {a : α} {s : S} (h : wp r (fun a' s' => a' = a ∧ s' = s)) : r = .ok a s := by
  obtain ⟨a', s', e, rfl, rfl⟩ := wp_get h
  exact e
/-- what a block that was run must give for its def -/
def flQ (Q : A → S → Prop) (X : Xn → S → Prop) (fl : Fl) (s : S) : Prop := match fl with
  | .nx _ => Q .non s
  | .rt a => Q a s
  | .ex x _ => X x s
  | _ => False
@[simp] theorem flQ_nx (Q X σ s) : flQ Q X (.nx σ) s = Q .non s := (rfl)
@[simp] theorem flQ_rt (Q X a s) : flQ Q X (.rt a) s = Q a s := (rfl)
@[simp] theorem flQ_ex (Q X x σ s) : flQ Q X (.ex x σ) s = X x s := (rfl)
@[simp] theorem flQ_bk (Q X σ s) : flQ Q X (.bk σ) s = False := (rfl)
@[simp] theorem flQ_ct (Q X σ s) : flQ Q X (.ct σ) s = False := (rfl)
theorem wp_call {G : List Def} {cs : List A} {n f : Nat} {as : List A} {s : S} {Q X} {d : Def} (hd : G[f]? = some d) (hn : 1 ≤ n) (hl : as.length = d.np)
    (h : wp (evB (callF G cs (n - 1)) cs d.body (as.map some ++ List.replicate (d.nn - d.np) none) s) (flQ Q X)) : wpe (callF G cs n f as s) Q X := by
  obtain ⟨m, rfl⟩ : ∃ m, n = m + 1 := ⟨n - 1, by omega⟩
  simp only [callF, hd, hl, if_true, wpe_bind, wpe_nox]
  refine wpe_mono h ?_ (fun _ _ h => h)
  intro fl s1 hf
  cases fl <;> simpa [flQ] using hf
/-- one turn of a loop -/
def turnQ (I : Env → S → Prop) (Q : Fl → S → Prop) (fl : Fl) (s : S) : Prop := match fl with
  | .nx σ => I σ s
  | .ct σ => I σ s
  | .bk σ => Q (.nx σ) s
  | .rt a => Q (.rt a) s
  | .ex x σ => Q (.ex x σ) s
@[simp] theorem turnQ_nx (I Q σ s) : turnQ I Q (.nx σ) s = I σ s := (rfl)
@[simp] theorem turnQ_ct (I Q σ s) : turnQ I Q (.ct σ) s = I σ s := (rfl)
@[simp] theorem turnQ_bk (I Q σ s) : turnQ I Q (.bk σ) s = Q (.nx σ) s := (rfl)
@[simp] theorem turnQ_rt (I Q a s) : turnQ I Q (.rt a) s = Q (.rt a) s := (rfl)
@[simp] theorem turnQ_ex (I Q x σ s) : turnQ I Q (.ex x σ) s = Q (.ex x σ) s := (rfl)
theorem wp_for (I : List A → Env → S → Prop) {g : Option (Nat × List A)} {f : A → Env → S → Res Fl} {Q : Fl → S → Prop} {X} :
    ∀ {xs : List A} {σ : Env} {s : S}, I xs σ s →
    (∀ x ys σ s, I (x :: ys) σ s → wpe (f x σ s) (turnQ (fun σ' s' => grdB g s' = true ∧ I ys σ' s') Q) X) →
    (∀ σ s, I [] σ s → Q (.nx σ) s) → wpe (forR g f xs σ s) Q X
  | [], σ, s, h0, _, h2 => ⟨h2 σ s h0⟩
  | x :: xs, σ, s, h0, h1, h2 => by
    simp only [forR, wpe_bind]
    refine wpe_mono (h1 x xs σ s h0) ?_ (fun _ _ h => h)
    intro fl s1 hf
    cases fl with
    | nx σ' => simp only [turnQ_nx] at hf; simp only [hf.1, if_true]; exact wp_for I hf.2 h1 h2
    | ct σ' => simp only [turnQ_ct] at hf; simp only [hf.1, if_true]; exact wp_for I hf.2 h1 h2
    | bk σ' => exact ⟨hf⟩
    | rt a => exact ⟨hf⟩
    | ex x σ' => exact ⟨hf⟩
@[simp] theorem grdB_none (s : S) : grdB none s = true := (rfl)
/-- a comprehension: I of what is left and of what is found -/
theorem wp_map (I : List A → List A → S → Prop) {g : Option (Nat × List A)} {f : A → S → Res (Option A)} {X} :
    ∀ {xs : List A} {zs : List A} {s : S} {Q : List A → S → Prop}, I xs zs s →
    (∀ x ys zs s, I (x :: ys) zs s → wpe (f x s) (fun o s' => grdB g s' = true ∧ I ys (zs ++ o.toList) s') X) →
    (∀ zs' s, I [] (zs ++ zs') s → Q zs' s) → wpe (mapR g f xs s) Q X
  | [], zs, s, Q, h0, _, h2 => by
    have := h2 [] s (by simpa using h0)
    simpa [mapR] using this
  | x :: xs, zs, s, Q, h0, h1, h2 => by
    simp only [mapR, wpe_bind]
    refine wpe_mono (h1 x xs zs s h0) ?_ (fun _ _ h => h)
    intro o s1 hf
    simp only [hf.1, if_true, wpe_bind]
    refine wp_map I hf.2 h1 ?_
    intro zs' s' hz
    simp only [wpe_ok]
    exact h2 _ _ (by simpa using hz)
/-- a comprehension of something plain: the store stands -/
theorem map_eq {f : A → S → Res (Option A)} {h : A → Option A} {s : S} : ∀ {xs : List A}, (∀ x ∈ xs, f x s = .ok (h x) s) → mapR none f xs s = .ok (xs.filterMap h) s
  | [], _ => rfl
  | x :: xs, hx => by
    have e1 := hx x (by simp)
    have e2 := map_eq (f := f) (h := h) (s := s) (xs := xs) (fun y hy => hx y (by simp [hy]))
    simp only [mapR, e1, Res.bind, grdB_none, if_true, e2]
    cases hh : h x <;> simp [hh]
theorem map_eq1 {f : A → S → Res (Option A)} {h : A → A} {s : S} {xs : List A} (hx : ∀ x ∈ xs, f x s = .ok (some (h x)) s) : mapR none f xs s = .ok (xs.map h) s := by
  have := map_eq (f := f) (h := fun x => some (h x)) hx
  simpa using this
theorem map_eqL {α : Type} {f : A → S → Res (Option A)} {i : α → A} {h : α → A} {s : S} {xs : List α} (hx : ∀ x ∈ xs, f (i x) s = .ok (some (h x)) s) : mapR none f (xs.map i) s = .ok (xs.map h) s := by
  induction xs with
  | nil => rfl
  | cons x xs ih => simp only [List.map, mapR, hx x (by simp), Res.bind, grdB_none, if_true, ih (fun y hy => hx y (by simp [hy])), Option.toList]; rfl

/-- a loop over plain things: I of what was walked -/
theorem wp_forL {α : Type} {i : α → A} {L : List α} (I : List α → Env → S → Prop) {g : Option (Nat × List A)} {f : A → Env → S → Res Fl} {Q : Fl → S → Prop} {X} {σ : Env} {s : S}
    (h0 : I [] σ s)
    (h1 : ∀ done x rest σ s, L = done ++ x :: rest → I done σ s → wpe (f (i x) σ s) (turnQ (fun σ' s' => grdB g s' = true ∧ I (done ++ [x]) σ' s') Q) X)
    (h2 : ∀ σ s, I L σ s → Q (.nx σ) s) : wpe (forR g f (L.map i) σ s) Q X := by
  refine wp_for (fun ys σ s => ∃ done rest, L = done ++ rest ∧ ys = rest.map i ∧ I done σ s) ⟨[], L, rfl, rfl, h0⟩ ?_ ?_
  · rintro x ys σ s ⟨done, rest, e, hy, hi⟩
    cases rest with
    | nil => simp at hy
    | cons y rest =>
      simp only [List.map_cons, List.cons.injEq] at hy
      obtain ⟨rfl, rfl⟩ := hy
      refine wpe_mono (h1 done y rest σ s e hi) ?_ (fun _ _ h => h)
      intro fl s1 hf
      cases fl with
      | nx σ' => exact ⟨hf.1, done ++ [y], rest, by simp [e], rfl, hf.2⟩
      | ct σ' => exact ⟨hf.1, done ++ [y], rest, by simp [e], rfl, hf.2⟩
      | bk σ' => exact hf
      | rt a => exact hf
      | ex x σ' => exact hf
  · rintro σ s ⟨done, rest, e, hy, hi⟩
    have : rest = [] := by simpa using hy.symm
    subst this
    rw [List.append_nil] at e
    subst e
    exact h2 σ s hi
/-- a comprehension over plain things -/
theorem wp_mapL {α : Type} {i : α → A} {L : List α} (I : List α → List A → S → Prop) {g : Option (Nat × List A)} {f : A → S → Res (Option A)} {X} {s : S} {Q : List A → S → Prop}
    (h0 : I [] [] s)
    (h1 : ∀ done x rest zs s, L = done ++ x :: rest → I done zs s → wpe (f (i x) s) (fun o s' => grdB g s' = true ∧ I (done ++ [x]) (zs ++ o.toList) s') X)
    (h2 : ∀ zs s, I L zs s → Q zs s) : wpe (mapR g f (L.map i) s) Q X := by
  refine wp_map (fun ys zs s => ∃ done rest, L = done ++ rest ∧ ys = rest.map i ∧ I done zs s) (zs := []) ⟨[], L, rfl, rfl, h0⟩ ?_ ?_
  · rintro x ys zs s ⟨done, rest, e, hy, hi⟩
    cases rest with
    | nil => simp at hy
    | cons y rest =>
      simp only [List.map_cons, List.cons.injEq] at hy
      obtain ⟨rfl, rfl⟩ := hy
      refine wpe_mono (h1 done y rest zs s e hi) ?_ (fun _ _ h => h)
      intro o s1 hf
      exact ⟨hf.1, done ++ [y], rest, by simp [e], rfl, hf.2⟩
  · rintro zs s ⟨done, rest, e, hy, hi⟩
    have : rest = [] := by simpa using hy.symm
    subst this
    rw [List.append_nil] at e
    subst e
    exact h2 _ s hi
theorem rngL_map (lo : Int) (n : Nat) : rngL lo n = (List.range n).map fun i => .int (lo + (i : Nat)) := (rfl)

/-! ### stores -/
/-- but for the cell b (if any) all that was there stands -/
def Kb (b : Option Nat) (s s' : S) : Prop := s.length ≤ s'.length ∧ ∀ i, i < s.length → some i ≠ b → s'[i]? = s[i]?
theorem Kb.refl (b) (s : S) : Kb b s s := ⟨Nat.le_refl _, fun _ _ _ => rfl⟩
theorem Kb.trans {b} {s s' s'' : S} (h : Kb b s s') (h' : Kb b s' s'') : Kb b s s'' :=
  ⟨Nat.le_trans h.1 h'.1, fun i hi hb => by rw [h'.2 i (Nat.lt_of_lt_of_le hi h.1) hb, h.2 i hi hb]⟩
theorem Kb.up {b} {s s' : S} (h : Kb none s s') : Kb b s s' := ⟨h.1, fun i hi _ => h.2 i hi (by simp)⟩
theorem Kb.app (b) (s : S) (x : S) : Kb b s (s ++ x) := ⟨by simp, fun i hi _ => by rw [List.getElem?_append_left hi]⟩
theorem Kb.get {b} {s s' : S} (h : Kb b s s') {i : Nat} {c : C} (hi : s[i]? = some c) (hb : some i ≠ b) : s'[i]? = some c := by
  rw [h.2 i (by have := List.getElem?_eq_some_iff.1 hi; exact this.1) hb, hi]
/-- a cell that came later may change -/
theorem Kb.setNew {b} {s s' : S} (h : Kb b s s') {i : Nat} (hi : s.length ≤ i) (c : C) : Kb b s (s'.set i c) :=
  ⟨by simpa using h.1, fun j hj hb => by rw [List.getElem?_set_ne (by omega)]; exact h.2 j hj hb⟩
theorem Kb.setB {s : S} {i : Nat} (c : C) : Kb (some i) s (s.set i c) :=
  ⟨by simp, fun j hj hb => by rw [List.getElem?_set_ne (by intro h; subst h; exact hb rfl)]⟩
theorem get_set_self {s : S} {i : Nat} {c d : C} (h : s[i]? = some c) : (s.set i d)[i]? = some d := by
  have := (List.getElem?_eq_some_iff.1 h).1
  simp [this]
theorem app_get (s : S) (c : C) : (s ++ [c])[s.length]? = some c := by simp
theorem get_lt {s : S} {i : Nat} {c : C} (h : s[i]? = some c) : i < s.length := (List.getElem?_eq_some_iff.1 h).1

/-! ### simplifying -/
@[simp] theorem wpe_ite {α : Type} (c : Prop) [Decidable c] (a b : Res α) (Q X) : wpe (if c then a else b) Q X = if c then wpe a Q X else wpe b Q X := by split <;> rfl
theorem wpe_ofO {α : Type} (o : Option α) (s : S) (Q X) : wpe (ofO o s) Q X = ∃ a, o = some a ∧ Q a s := by
  cases o with
  | none => simp
  | some a => simp
section
variable (s : S) (a b : Int) (k l : Bool)
@[simp] theorem binV_add : binV s .add (.int a) (.int b) = some (.int (a + b)) := (rfl)
@[simp] theorem binV_sub : binV s .sub (.int a) (.int b) = some (.int (a - b)) := (rfl)
@[simp] theorem wpe_mul (t : S) (Q X) : wpe (ofO (binV s .mul (.int a) (.int b)) t) Q X = (small a = true ∧ small b = true ∧ Q (.int (a * b)) t) := by
  show wpe (ofO (if (small a && small b) = true then some (A.int (a * b)) else none) t) Q X = _
  by_cases h : small a = true <;> by_cases h' : small b = true <;> simp [h, h']
@[simp] theorem wpe_fdiv (t : S) (Q X) : wpe (ofO (binV s .fdiv (.int a) (.int b)) t) Q X = (0 < b ∧ b.natAbs < 2 ^ 8000 ∧ Q (.int (a / b)) t) := by
  show wpe (ofO (if (decide (0 < b) && decide (b.natAbs < 2 ^ 8000)) = true then some (A.int (a / b)) else none) t) Q X = _
  generalize 2 ^ 8000 = N
  by_cases h : 0 < b <;> by_cases h' : b.natAbs < N <;> simp [h, h']
@[simp] theorem wpe_mod (t : S) (Q X) : wpe (ofO (binV s .mod (.int a) (.int b)) t) Q X = (0 < b ∧ Q (.int (a % b)) t) := by
  show wpe (ofO (if (0 < b) then some (A.int (a % b)) else none) t) Q X = _
  by_cases h : 0 < b <;> simp [h]
@[simp] theorem wpe_pow (t : S) (Q X) : wpe (ofO (binV s .pow (.int a) (.int b)) t) Q X = (0 ≤ b ∧ b ≤ 10000 ∧ a.natAbs < 2 ^ 64 ∧ Q (.int (a ^ b.toNat)) t) := by
  show wpe (ofO (if (decide (0 ≤ b) && decide (b ≤ 10000) && decide (a.natAbs < 2 ^ 64)) = true then some (A.int (a ^ b.toNat)) else none) t) Q X = _
  generalize 2 ^ 64 = N
  by_cases h : 0 ≤ b <;> by_cases h' : b ≤ 10000 <;> by_cases h'' : a.natAbs < N <;> simp [h, h', h'']
@[simp] theorem cmpV_eq (x y : A) : cmpV s .eq x y = eqA s x y := (rfl)
@[simp] theorem cmpV_ne (x y : A) : cmpV s .ne x y = (eqA s x y).map (!·) := (rfl)
@[simp] theorem cmpV_lt : cmpV s .lt (.int a) (.int b) = some (decide (a < b)) := (rfl)
@[simp] theorem cmpV_le : cmpV s .le (.int a) (.int b) = some (decide (a ≤ b)) := (rfl)
@[simp] theorem cmpV_gt : cmpV s .gt (.int a) (.int b) = some (decide (b < a)) := (rfl)
@[simp] theorem cmpV_ge : cmpV s .ge (.int a) (.int b) = some (decide (b ≤ a)) := (rfl)
@[simp] theorem cmpV_is (x y : A) : cmpV s .is x y = isA x y := (rfl)
@[simp] theorem cmpV_nis (x y : A) : cmpV s .nis x y = (isA x y).map (!·) := (rfl)
@[simp] theorem isA_n : isA .non .non = some true := (rfl)
@[simp] theorem isA_b : isA (.bl k) .non = some false := (rfl)
@[simp] theorem isA_i : isA (.int a) .non = some false := (rfl)
@[simp] theorem isA_s (x) : isA (.str x) .non = some false := (rfl)
@[simp] theorem isA_t (x) : isA (.tup x) .non = some false := (rfl)
@[simp] theorem isA_l (x) : isA (.lst x) .non = some false := (rfl)
@[simp] theorem isA_r (x) : isA (.ro x) .non = some false := (rfl)
@[simp] theorem isA_c (x) : isA (.cell x) .non = some false := (rfl)
@[simp] theorem isA_bb : isA (.bl k) (.bl l) = some (decide (k = l)) := (rfl)
@[simp] theorem truth_n : truth s .non = some false := (rfl)
@[simp] theorem truth_b : truth s (.bl k) = some k := (rfl)
@[simp] theorem truth_i : truth s (.int a) = some (a != 0) := (rfl)
@[simp] theorem truth_t (x) : truth s (.tup x) = some (!x.isEmpty) := (rfl)
@[simp] theorem truth_l (x) : truth s (.lst x) = some (!x.isEmpty) := (rfl)
@[simp] theorem truth_r (x) : truth s (.ro x) = some (!x.isEmpty) := (rfl)
@[simp] theorem itemsL_l (x) : itemsL s (.lst x) = some x := (rfl)
@[simp] theorem itemsL_r (x) : itemsL s (.ro x) = some x := (rfl)
@[simp] theorem itemsL_t (x) : itemsL s (.tup x) = none := (rfl)
@[simp] theorem itemsT_l (x) : itemsT s (.lst x) = some x := (rfl)
@[simp] theorem itemsT_r (x) : itemsT s (.ro x) = some x := (rfl)
@[simp] theorem itemsT_t (x) : itemsT s (.tup x) = some x := (rfl)
@[simp] theorem itemsT_c (n) : itemsT s (.cell n) = itemsL s (.cell n) := (rfl)
@[simp] theorem itemsC_l (x) : itemsC s (.lst x) = some x := (rfl)
theorem itemsL_c {n : Nat} {x : List A} (h : s[n]? = some (.lst x)) : itemsL s (.cell n) = some x := by simp [itemsL, h]
theorem itemsC_c {n : Nat} {x : List A} (h : s[n]? = some (.lst x)) : itemsC s (.cell n) = some x := by simp [itemsC, h]
@[simp] theorem itemsL_set {n : Nat} {x : List A} (h : n < s.length) : itemsL (List.set s n (.lst x)) (.cell n) = some x := itemsL_c _ (by simp [h])
@[simp] theorem itemsL_app {x : List A} : itemsL (s ++ [.lst x]) (.cell s.length) = some x := itemsL_c _ (by simp)
@[simp] theorem walkV_l (x) : walkV s (.lst x) = some (x, none) := (rfl)
@[simp] theorem walkV_r (x) : walkV s (.ro x) = some (x, none) := (rfl)
@[simp] theorem walkV_t (x) : walkV s (.tup x) = some (x, none) := (rfl)
@[simp] theorem walkV_c (n) : walkV s (.cell n) = (itemsL s (.cell n)).map fun xs => (xs, some (n, xs)) := (rfl)
@[simp] theorem isCell_l (x) : isCell (.lst x) = false := (rfl)
@[simp] theorem isCell_r (x) : isCell (.ro x) = false := (rfl)
@[simp] theorem isCell_t (x) : isCell (.tup x) = false := (rfl)
@[simp] theorem biV_len (x) : biV s .len [.lst x] = some (.int x.length) := (rfl)
@[simp] theorem biV_lenr (x) : biV s .len [.ro x] = some (.int x.length) := (rfl)
@[simp] theorem biV_lent (x) : biV s .len [.tup x] = some (.int x.length) := (rfl)
@[simp] theorem biV_lenc (n) : biV s .len [.cell n] = (itemsL s (.cell n)).map fun xs => .int xs.length := (rfl)
@[simp] theorem biV_abs : biV s .abs [.int a] = some (.int (a.natAbs : Int)) := by
  show some (A.int (if a < 0 then -a else a)) = _
  congr 2
  split <;> omega
@[simp] theorem biV_max2 : biV s .max2 [.int a, .int b] = some (.int (if b > a then b else a)) := (rfl)
@[simp] theorem biV_min2 : biV s .min2 [.int a, .int b] = some (.int (if b < a then b else a)) := (rfl)
@[simp] theorem biV_sum (x) : biV s .sum [.lst x] = (intsOf x).map fun ns => .int ns.sum := (rfl)
@[simp] theorem biV_all (x) : biV s .all [.lst x] = (blsOf x).map fun ns => .bl (ns.all id) := (rfl)
@[simp] theorem biV_any (x) : biV s .any [.lst x] = (blsOf x).map fun ns => .bl (ns.any id) := (rfl)
@[simp] theorem biV_int : biV s .int [.int a] = some (.int a) := (rfl)
@[simp] theorem biV_intb : biV s .int [.bl k] = some (.int (if k then 1 else 0)) := (rfl)
@[simp] theorem biV_gcd : biV s .gcd [.int a, .int b] = some (.int ((Nat.gcd a.natAbs b.natAbs : Nat) : Int)) := (rfl)
@[simp] theorem biV_tuple (x : A) : biV s .tuple [x] = (itemsT s x).map .tup := (rfl)
@[simp] theorem tyN_n : tyN s .non = some "NoneType" := (rfl)
@[simp] theorem tyN_b : tyN s (.bl k) = some "bool" := (rfl)
@[simp] theorem tyN_i : tyN s (.int a) = some "int" := (rfl)
@[simp] theorem tyN_s (x) : tyN s (.str x) = some "str" := (rfl)
@[simp] theorem tyN_t (x) : tyN s (.tup x) = some "tuple" := (rfl)
@[simp] theorem tyN_l (x) : tyN s (.lst x) = some "list" := (rfl)
@[simp] theorem tyN_r (x) : tyN s (.ro x) = some "list" := (rfl)
@[simp] theorem idxV_t (x i) : idxV s (.tup x) (.int i) = L2.atI x i := (rfl)
@[simp] theorem idxV_l (x i) : idxV s (.lst x) (.int i) = L2.atI x i := (rfl)
@[simp] theorem idxV_r (x i) : idxV s (.ro x) (.int i) = L2.atI x i := (rfl)
@[simp] theorem idxV_c (n i) : idxV s (.cell n) (.int i) = (itemsL s (.cell n)).bind fun xs => L2.atI xs i := (rfl)
@[simp] theorem rngL_lenW (lo : Int) (n : Nat) : (rngL lo n).length = n := by simp [rngL]
end
@[simp] theorem tup2_ok : (2 ≤ sizeLine) = True := by decide
@[simp] theorem tup3_ok : (3 ≤ sizeLine) = True := by decide
@[simp] theorem tup1_ok : (1 ≤ sizeLine) = True := by decide
@[simp] theorem tup4_ok : (4 ≤ sizeLine) = True := by decide
@[simp] theorem tup5_ok : (5 ≤ sizeLine) = True := by decide
theorem atI_nat {α : Type} (xs : List α) (i : Nat) : L2.atI xs (i : Int) = xs[i]? := by
  unfold L2.atI L2.ixN
  by_cases h : i < xs.length
  · simp [h]
  · simp [h]

/-! ### parts that are not looked into too early -/
section
variable (cf : Nat → List A → S → Res A) (cs : List A)
/-- one turn -/
def turnF (t : T) (b : B) (x : A) (σ' : Env) (s2 : S) : Res Fl := (asgT cf cs t x σ' s2).bindX σ' fun σ2 s3 => evB cf cs b σ2 s3
@[simp] theorem turnF_eq (t : T) (b : B) (x : A) (σ' : Env) (s2 : S) : turnF cf cs t b x σ' s2 = (asgT cf cs t x σ' s2).bindX σ' fun σ2 s3 => evB cf cs b σ2 s3 := (rfl)
@[simp 2000] theorem evS_for (t : T) (i : I) (b : B) (σ : Env) (s : S) : evS cf cs (.for_ t i b) σ s = (evI cf cs i σ s).bindX σ fun w s1 => forR w.2 (turnF cf cs t b) w.1 σ s1 := (rfl)
@[simp 2000] theorem evS_asg (t e σ s) : evS cf cs (.asg t e) σ s = (evE cf cs e σ s).bindX σ fun x s1 => (asgT cf cs t x σ s1).bindX σ fun σ' s2 => .ok (.nx σ') s2 := (rfl)
@[simp 2000] theorem evS_par (is es σ s) : evS cf cs (.par is es) σ s = (evEs cf cs es σ s).bindX σ fun xs s1 => (ofO (setsA σ is xs) s1).bindX σ fun σ' s2 => .ok (.nx σ') s2 := (rfl)
@[simp 2000] theorem evS_expr (e σ s) : evS cf cs (.expr e) σ s = (evE cf cs e σ s).bindX σ fun _ s1 => .ok (.nx σ) s1 := (rfl)
@[simp 2000] theorem evS_iff (c a b σ s) : evS cf cs (.iff c a b) σ s = (evE cf cs c σ s).bindX σ fun x s1 => (ofO (truth s1 x) s1).bindX σ fun k s2 => if k then evB cf cs a σ s2 else evB cf cs b σ s2 := (rfl)
@[simp 2000] theorem evS_ret (e σ s) : evS cf cs (.ret e) σ s = (evE cf cs e σ s).bindX σ fun x s1 => .ok (.rt x) s1 := (rfl)
@[simp 2000] theorem evS_retN (σ s) : evS cf cs .retN σ s = .ok (.rt .non) s := (rfl)
@[simp 2000] theorem evS_brk (σ s) : evS cf cs .brk σ s = .ok (.bk σ) s := (rfl)
@[simp 2000] theorem evS_cont (σ s) : evS cf cs .cont σ s = .ok (.ct σ) s := (rfl)
@[simp 2000] theorem evS_pass (σ s) : evS cf cs .pass σ s = .ok (.nx σ) s := (rfl)
@[simp 2000] theorem evB_nil (σ s) : evB cf cs .nil σ s = .ok (.nx σ) s := (rfl)
@[simp 2000] theorem evL_disp (es σ s) : evL cf cs (.disp es) σ s = (evEs cf cs es σ s).bind fun xs s1 => if xs.length ≤ sizeLine then .ok xs s1 else .bad := (rfl)
@[simp 2000] theorem evL_ofSeq (e σ s) : evL cf cs (.ofSeq e) σ s = (evE cf cs e σ s).bind fun x s1 => ofO (itemsT s1 x) s1 := (rfl)
@[simp 2000] theorem evL_rev (e σ s) : evL cf cs (.rev e) σ s = (evE cf cs e σ s).bind fun x s1 => (ofO (itemsL s1 x) s1).bind fun xs s2 => .ok xs.reverse s2 := (rfl)
@[simp 2000] theorem evL_cat (a b σ s) : evL cf cs (.cat a b) σ s = (evE cf cs a σ s).bind fun x s1 => (evE cf cs b σ s1).bind fun y s2 => ofO (catV s2 x y) s2 := (rfl)
@[simp 2000] theorem evL_rep (a b σ s) : evL cf cs (.rep a b) σ s = (evE cf cs a σ s).bind fun x s1 => (evE cf cs b σ s1).bind fun y s2 => ofO (repV s2 x y) s2 := (rfl)
/-- the rest of a block -/
def contB (r : B) (fl : Fl) (s1 : S) : Res Fl := match fl with
  | .nx σ' => evB cf cs r σ' s1
  | .bk σ' => .ok (.bk σ') s1
  | .ct σ' => .ok (.ct σ') s1
  | .rt a => .ok (.rt a) s1
  | .ex x σ' => .ok (.ex x σ') s1
@[simp] theorem contB_nx (r σ s) : contB cf cs r (.nx σ) s = evB cf cs r σ s := (rfl)
@[simp] theorem contB_bk (r σ s) : contB cf cs r (.bk σ) s = .ok (.bk σ) s := (rfl)
@[simp] theorem contB_ct (r σ s) : contB cf cs r (.ct σ) s = .ok (.ct σ) s := (rfl)
@[simp] theorem contB_rt (r a s) : contB cf cs r (.rt a) s = .ok (.rt a) s := (rfl)
@[simp] theorem contB_ex (r x σ s) : contB cf cs r (.ex x σ) s = .ok (.ex x σ) s := (rfl)
@[simp 2000] theorem evB_cons (st : St) (r : B) (σ : Env) (s : S) : evB cf cs (.cons st r) σ s = (evS cf cs st σ s).bind (contB cf cs r) := (rfl)
/-- one item of a comprehension -/
def compF (own : List Nat) (t : T) (c : Eo) (e : E) (σ : Env) (x : A) (s2 : S) : Res (Option A) :=
  ((asgT cf cs t x (wipeA σ own) s2).bind fun σ' s3 => (evC cf cs c σ' s3).bind fun b s4 => if b then (evE cf cs e σ' s4).bind fun y s5 => .ok (some y) s5 else .ok none s4).nox
@[simp] theorem compF_eq (own : List Nat) (t : T) (c : Eo) (e : E) (σ : Env) (x : A) (s2 : S) : compF cf cs own t c e σ x s2 =
  ((asgT cf cs t x (wipeA σ own) s2).bind fun σ' s3 => (evC cf cs c σ' s3).bind fun b s4 => if b then (evE cf cs e σ' s4).bind fun y s5 => .ok (some y) s5 else .ok none s4).nox := (rfl)
@[simp 2000] theorem evL_comp (own : List Nat) (t : T) (i : I) (c : Eo) (e : E) (σ : Env) (s : S) : evL cf cs (.comp own t i c e) σ s = (evI cf cs i σ s).bind fun w s1 => if w.1.length ≤ sizeLine then mapR w.2 (compF cf cs own t c e σ) w.1 s1 else .bad := (rfl)
theorem evE_call (f es σ s) : evE cf cs (.call f es) σ s = (evEs cf cs es σ s).bind fun xs s1 => cf f xs s1 := (rfl)
theorem evE_not (a σ s) : evE cf cs (.not a) σ s = (evE cf cs a σ s).bind fun x s1 => (ofO (truth s1 x) s1).bind fun b s2 => .ok (.bl (!b)) s2 := (rfl)
theorem evE_lst (l σ s) : evE cf cs (.lst l) σ s = (evL cf cs l σ s).bind fun xs s1 => .ok (.lst xs) s1 := (rfl)
theorem evE_mk (l σ s) : evE cf cs (.mk l) σ s = (evL cf cs l σ s).bind fun xs s1 => .ok (.cell s1.length) (s1 ++ [.lst xs]) := (rfl)
theorem evEs_nil (σ s) : evEs cf cs .nil σ s = .ok [] s := (rfl)
theorem evEs_cons (e r σ s) : evEs cf cs (.cons e r) σ s = (evE cf cs e σ s).bind fun x s1 => (evEs cf cs r σ s1).bind fun xs s2 => .ok (x :: xs) s2 := (rfl)
end
end Dy
end

section
set_option Elab.async false
set_option linter.all false
namespace Dy
open PySem
/-! ### fractions -/
abbrev F := Int × Int
def fA (p : F) : A := .tup [.int p.1, .int p.2]
def okF (p : F) : Prop := 0 < p.2 ∧ Nat.gcd p.1.natAbs p.2.natAbs = 1
/-- the same fraction in lowest terms -/
def lowP (a b : Int) : F := (a / ((Nat.gcd a.natAbs b.natAbs : Nat) : Int), b / ((Nat.gcd a.natAbs b.natAbs : Nat) : Int))
theorem gcd_pos' {a b : Int} (hb : 0 < b) : (0 : Int) < ((Nat.gcd a.natAbs b.natAbs : Nat) : Int) := by
  have : 0 < Nat.gcd a.natAbs b.natAbs := Nat.gcd_pos_of_pos_right _ (by omega)
  omega
theorem dvd_natAbs {g : Nat} {a : Int} (h : g ∣ a.natAbs) : (g : Int) ∣ a := Int.ofNat_dvd_left.2 h
theorem lowP_mul {a b : Int} (hb : 0 < b) : (lowP a b).1 * ((Nat.gcd a.natAbs b.natAbs : Nat) : Int) = a ∧ (lowP a b).2 * ((Nat.gcd a.natAbs b.natAbs : Nat) : Int) = b :=
  ⟨Int.ediv_mul_cancel (dvd_natAbs (Nat.gcd_dvd_left _ _)), Int.ediv_mul_cancel (dvd_natAbs (Nat.gcd_dvd_right _ _))⟩
theorem lowP_pos {a b : Int} (hb : 0 < b) : 0 < (lowP a b).2 := by
  have h := (lowP_mul (a := a) hb).2
  have hg := gcd_pos' (a := a) hb
  apply Int.lt_of_not_ge
  intro h0
  have := Int.mul_nonpos_of_nonpos_of_nonneg h0 (Int.le_of_lt hg)
  omega
theorem lowP_ok {a b : Int} (hb : 0 < b) : okF (lowP a b) := by
  refine ⟨lowP_pos hb, ?_⟩
  have hg : 0 < Nat.gcd a.natAbs b.natAbs := Nat.gcd_pos_of_pos_right _ (by omega)
  have e1 : (lowP a b).1.natAbs = a.natAbs / Nat.gcd a.natAbs b.natAbs := by
    have h := congrArg Int.natAbs (lowP_mul (a := a) hb).1
    rw [Int.natAbs_mul, Int.natAbs_natCast] at h
    rw [← Nat.mul_div_cancel (lowP a b).1.natAbs hg, h]
  have e2 : (lowP a b).2.natAbs = b.natAbs / Nat.gcd a.natAbs b.natAbs := by
    have h := congrArg Int.natAbs (lowP_mul (a := a) hb).2
    rw [Int.natAbs_mul, Int.natAbs_natCast] at h
    rw [← Nat.mul_div_cancel (lowP a b).2.natAbs hg, h]
  rw [e1, e2]
  exact Nat.gcd_div_gcd_div_gcd_of_pos_right (by omega)
theorem lowP_cross {a b : Int} (hb : 0 < b) : (lowP a b).1 * b = a * (lowP a b).2 := by
  obtain ⟨h1, h2⟩ := lowP_mul (a := a) hb
  have hg := gcd_pos' (a := a) hb
  generalize ((Nat.gcd a.natAbs b.natAbs : Nat) : Int) = g at h1 h2 hg
  generalize lowP a b = p at h1 h2
  rw [← h1, ← h2]
  grind
/-- lowest terms are one -/
theorem okF_inj {p q : F} (hp : okF p) (hq : okF q) (h : p.1 * q.2 = q.1 * p.2) : p = q := by
  obtain ⟨hp0, hp1⟩ := hp
  obtain ⟨hq0, hq1⟩ := hq
  have hn : p.1.natAbs * q.2.natAbs = q.1.natAbs * p.2.natAbs := by rw [← Int.natAbs_mul, ← Int.natAbs_mul, h]
  have d1 : p.2.natAbs ∣ q.2.natAbs := by
    have : p.2.natAbs ∣ p.1.natAbs * q.2.natAbs := ⟨q.1.natAbs, by rw [hn]; exact Nat.mul_comm _ _⟩
    exact (Nat.Coprime.symm hp1 : Nat.Coprime p.2.natAbs p.1.natAbs).dvd_of_dvd_mul_left this
  have d2 : q.2.natAbs ∣ p.2.natAbs := by
    have : q.2.natAbs ∣ q.1.natAbs * p.2.natAbs := ⟨p.1.natAbs, by rw [← hn]; exact Nat.mul_comm _ _⟩
    exact (Nat.Coprime.symm hq1 : Nat.Coprime q.2.natAbs q.1.natAbs).dvd_of_dvd_mul_left this
  have e : p.2.natAbs = q.2.natAbs := Nat.dvd_antisymm d1 d2
  have e2 : p.2 = q.2 := by omega
  have e1 : p.1 = q.1 := by
    rw [e2] at h
    exact Int.eq_of_mul_eq_mul_right (by omega) h
  exact Prod.ext e1 e2
theorem lowP_self {p : F} (hp : okF p) : lowP p.1 p.2 = p := by
  obtain ⟨h0, h1⟩ := hp
  unfold lowP
  rw [h1]
  simp
theorem lowP_eq {a b : Int} {q : F} (hb : 0 < b) (hq : okF q) (h : a * q.2 = q.1 * b) : lowP a b = q := by
  apply okF_inj (lowP_ok hb) hq
  have := lowP_cross (a := a) hb
  have e : ((lowP a b).1 * q.2 - q.1 * (lowP a b).2) * b = 0 := by
    generalize lowP a b = p at this
    grind
  rcases Int.mul_eq_zero.1 e with e | e <;> omega
theorem lowP_congr {a b c d : Int} (hb : 0 < b) (hd : 0 < d) (h : a * d = c * b) : lowP a b = lowP c d := by
  apply lowP_eq hb (lowP_ok hd)
  have h2 := lowP_cross (a := c) hd
  have e : (a * (lowP c d).2 - (lowP c d).1 * b) * d = 0 := by
    generalize lowP c d = p at h2
    grind
  rcases Int.mul_eq_zero.1 e with e | e <;> omega
theorem lowP_le {a b : Int} (hb : 0 < b) : (lowP a b).2 ≤ b := by
  obtain ⟨h1, h2⟩ := lowP_mul (a := a) hb
  have hg := gcd_pos' (a := a) hb
  have hp := lowP_pos (a := a) hb
  have := Int.mul_le_mul_of_nonneg_left (c := (lowP a b).2) (a := 1) (b := ((Nat.gcd a.natAbs b.natAbs : Nat) : Int)) (by omega) (by omega)
  omega
theorem lowP_abs {a b : Int} (hb : 0 < b) : (lowP a b).1.natAbs ≤ a.natAbs := by
  have h := congrArg Int.natAbs (lowP_mul (a := a) hb).1
  rw [Int.natAbs_mul, Int.natAbs_natCast] at h
  have hg : 0 < Nat.gcd a.natAbs b.natAbs := Nat.gcd_pos_of_pos_right _ (by omega)
  have := Nat.le_mul_of_pos_right (lowP a b).1.natAbs hg
  omega

/-! ### Euclid's way -/
/-- one, other: gcd; n turns are enough -/
theorem euclid_turn {x y n : Nat} (hy : 0 < y) (hxy : y < x) (h : x * y < 2 ^ (n + 1)) : x % y < y ∧ y * (x % y) < 2 ^ n ∧ Nat.gcd y (x % y) = Nat.gcd x y := by
  refine ⟨Nat.mod_lt _ hy, ?_, ?_⟩
  · have h1 := Nat.div_add_mod x y
    have h2 : 1 ≤ x / y := Nat.div_pos (by omega) hy
    have h4 := Nat.mod_lt x hy
    have h5 := Nat.mul_le_mul_left y h2
    have h3 : 2 * (x % y) ≤ x := by omega
    have : 2 * (y * (x % y)) ≤ x * y := by
      calc 2 * (y * (x % y)) = y * (2 * (x % y)) := by grind
        _ ≤ y * x := Nat.mul_le_mul_left _ h3
        _ = x * y := Nat.mul_comm _ _
    rw [Nat.pow_succ] at h
    omega
  · rw [Nat.gcd_comm x y, Nat.gcd_rec y x, Nat.gcd_comm]

section
open Dy
/-- `_law_low`, any indices -/
def d_low : Def := ⟨2, 5, .cons (.par [2, 3] (.cons (.bi .abs (.cons (.v 0) (.nil))) (.cons (.v 1) (.nil)))) (.cons (.for_ (.v 4) (.rng1 (.c (.int 4000))) (.cons (.iff (.cmp .eq (.v 3) (.c (.int 0))) (.cons (.brk) (.nil)) (.nil)) (.cons (.par [2, 3] (.cons (.v 3) (.cons (.bin .mod (.bi .int (.cons (.v 2) (.nil))) (.v 3)) (.nil)))) (.nil)))) (.cons (.ret (.tup (.cons (.bin .fdiv (.v 0) (.v 2)) (.cons (.bin .fdiv (.v 1) (.v 2)) (.nil))))) (.nil)))⟩
@[simp] theorem eqA_int (s : S) (a b : Int) : eqA s (.int a) (.int b) = some (decide (a = b)) := by
  simp [eqA, resv, eqData, dataOf, SeqAt.shaped, PyData.canLay0, PyData.depth, PyData.eqv]
  by_cases h : a = b <;> simp [h]
@[simp] theorem eqA_fA (s : S) (p q : F) : eqA s (fA p) (fA q) = some (decide (p = q)) := by
  obtain ⟨a, b⟩ := p
  obtain ⟨c, d⟩ := q
  simp [fA, eqA, resv, eqData, dataOf, datasOf, SeqAt.shaped, PyData.canLay0, PyData.canLayAll0, PyData.depth, PyData.depthAll, PyData.eqv, PyData.eqvAll]
  by_cases h : a = c <;> by_cases h' : b = d <;> simp [h, h']
@[simp] theorem eqA_nil (s : S) : eqA s (.lst []) (.lst []) = some true := by
  simp [eqA, resv, eqData, dataOf, datasOf, SeqAt.shaped, PyData.canLay0, PyData.canLayAll0, PyData.depth, PyData.depthAll, PyData.eqv, PyData.eqvAll]
theorem idx0 (s : S) (p : F) : idxV s (fA p) (.int 0) = some (.int p.1) := by simp [idxV, fA, itemsT, L2.atI, L2.ixN]
theorem idx1 (s : S) (p : F) : idxV s (fA p) (.int 1) = some (.int p.2) := by simp [idxV, fA, itemsT, L2.atI, L2.ixN]
theorem small_of {i : Int} {k : Nat} (h : i.natAbs < 2 ^ k) (hk : k ≤ bits) : small i = true := by
  simp only [small, decide_eq_true_eq]
  exact Nat.lt_of_lt_of_le h (Nat.pow_le_pow_right (by omega) hk)
theorem low_ok {G : List Def} {cs : List A} {j : Nat} (hG : G[j]? = some d_low) {n : Nat} (hn : 1 ≤ n) {a b : Int} {s : S} (hb : 0 < b) (hs : b.natAbs < 2 ^ 1900) :
    callF G cs n j [.int a, .int b] s = .ok (fA (lowP a b)) s := by
  apply eq_of_wp
  refine wp_call hG hn rfl ?_
  generalize callF G cs (n - 1) = cf
  have hg := gcd_pos' (a := a) hb
  have hs2 : (Nat.gcd a.natAbs b.natAbs) < 2 ^ 8000 := by
    have h1 : Nat.gcd a.natAbs b.natAbs ≤ b.natAbs := Nat.le_of_dvd (by omega) (Nat.gcd_dvd_right _ _)
    have h2 : 2 ^ 1900 ≤ 2 ^ 8000 := Nat.pow_le_pow_right (by omega) (by omega)
    omega
  have hb0 : ¬ b = 0 := by omega
  have hlen : (rngL 0 4000).length = 4000 := rngL_lenW _ _
  simp only [d_low, evB, evS, evE, evEs, evI, wpe_bind, wpe_bindX, wpe_ok, List.map, List.length_cons, List.length_nil, List.replicate, List.cons_append, List.nil_append, List.append_nil]
  simp [setsA, ok62]
  refine wp_for (fun ys σ s' => s' = s ∧ ∃ (x y : Nat) (z : Option A), σ = [some (.int a), some (.int b), some (.int x), some (.int y), z] ∧ Nat.gcd x y = Nat.gcd a.natAbs b.natAbs ∧
    ((ys.length = 4000 ∧ (y : Int) = b) ∨ (y < x ∧ x * y < 2 ^ ys.length))) ?_ ?_ ?_
  · exact ⟨rfl, a.natAbs, b.natAbs, none, by simp; omega, rfl, .inl ⟨hlen, by omega⟩⟩
  · rintro z ys σ _ ⟨rfl, x, y, w, rfl, hg1, hy⟩
    by_cases h0 : y = 0
    · subst h0
      rcases hy with hy | hy
      · omega
      simp [asgT]
      have hx : x = Nat.gcd a.natAbs b.natAbs := by simpa using hg1
      simp [hx, hg, hs2, lowP, fA, hb0]
    · have hy0 : 0 < y := by omega
      have hne : ¬ ((y : Int) = 0) := by omega
      simp [asgT, h0, setsA, hy0]
      refine ⟨y, x % y, by simp, ?_, ?_⟩
      · rw [← hg1, Nat.gcd_comm x y, Nat.gcd_rec y x, Nat.gcd_comm]
      · right
        refine ⟨Nat.mod_lt _ hy0, ?_⟩
        rcases hy with ⟨hl, hb'⟩ | ⟨h1, h2⟩
        · have hl' : ys.length = 3999 := by simpa using hl
          rw [hl']
          have hyb : y < 2 ^ 1900 := by omega
          have h3 : x % y < y := Nat.mod_lt _ hy0
          calc y * (x % y) ≤ y * y := Nat.mul_le_mul_left _ (by omega)
            _ < 2 ^ 1900 * 2 ^ 1900 := Nat.mul_lt_mul'' hyb hyb
            _ = 2 ^ 3800 := by rw [← Nat.pow_add]
            _ ≤ 2 ^ 3999 := Nat.pow_le_pow_right (by omega) (by omega)
        · exact (euclid_turn hy0 h1 h2).2.1
  · rintro σ _ ⟨rfl, x, y, z, rfl, hg1, hy⟩
    rcases hy with ⟨hl, _⟩ | ⟨h1, h2⟩
    · simp at hl
    have hxy : x * y = 0 := by simpa using h2
    have h0 : y = 0 := by
      rcases Nat.mul_eq_zero.1 hxy with h | h <;> omega
    subst h0
    have hx : x = Nat.gcd a.natAbs b.natAbs := by simpa using hg1
    simp [hx, hg, hs2, lowP, fA, hb0]
/-- `lowest` -/
def d_lowest' : Def := ⟨2, 3, .cons (.asg (.v 2) (.ite (.cmp .gt (.v 1) (.c (.int 0))) (.bi .gcd (.cons (.v 0) (.cons (.v 1) (.nil)))) (.neg (.bi .gcd (.cons (.v 0) (.cons (.v 1) (.nil))))))) (.cons (.ret (.tup (.cons (.bin .fdiv (.v 0) (.v 2)) (.cons (.bin .fdiv (.v 1) (.v 2)) (.nil))))) (.nil))⟩
theorem lowest_ok {G : List Def} {cs : List A} {j : Nat} (hG : G[j]? = some d_lowest') {n : Nat} (hn : 1 ≤ n) {a b : Int} {s : S} (hb : 0 < b) (hs : b.natAbs < 2 ^ 7999) :
    callF G cs n j [.int a, .int b] s = .ok (fA (lowP a b)) s := by
  apply eq_of_wp
  refine wp_call hG hn rfl ?_
  generalize callF G cs (n - 1) = cf
  have hs2 : (Nat.gcd a.natAbs b.natAbs) < 2 ^ 8000 := by
    have h1 : Nat.gcd a.natAbs b.natAbs ≤ b.natAbs := Nat.le_of_dvd (by omega) (Nat.gcd_dvd_right _ _)
    have h2 : 2 ^ 7999 ≤ 2 ^ 8000 := Nat.pow_le_pow_right (by omega) (by omega)
    omega
  have hb0 : ¬ b = 0 := by omega
  simp [d_lowest', evB, evS, evE, evEs, asgT, hb, hb0, hs2, lowP, fA]
/-! ### the cell of what is drawn -/
def Box (s : S) (b N : Nat) : Prop := ∃ (g : Int) (k : Bool) (h m : Int), s[b]? = some (.lst [.int g, .bl k, .int h, .int m]) ∧ 0 ≤ h ∧ h < 2 ^ 40 ∧ 0 ≤ m ∧ m ≤ N
theorem Box.up {s b N M} (h : Box s b N) (hm : N ≤ M) : Box s b M := by
  obtain ⟨g, k, h', m, e, h1, h2, h3, h4⟩ := h
  exact ⟨g, k, h', m, e, h1, h2, h3, by omega⟩
theorem Box.kb {s s' b N} (h : Box s b N) (hk : Kb none s s') : Box s' b N := by
  obtain ⟨g, k, h', m, e, h1⟩ := h
  exact ⟨g, k, h', m, hk.get e (by simp), h1⟩
theorem Box.keep {s s' b c N} (h : Box s b N) (hk : Kb (some c) s s') (hc : b ≠ c) : Box s' b N := by
  obtain ⟨g, k, h', m, e, h1⟩ := h
  exact ⟨g, k, h', m, hk.get e (by simp [hc]), h1⟩
theorem Box.lt {s b N} (h : Box s b N) : b < s.length := by
  obtain ⟨g, k, h', m, e, h1⟩ := h
  exact get_lt e
/-- `_law_take` with its numbers -/
def d_take (c1 c2 c3 c4 c5 : Int) : Def := ⟨2, 3, .cons (.iff (.and2 (.idx (.v 0) (.c (.int 1))) (.cmp .gt (.idx (.v 0) (.c (.int 0))) (.c (.int 0)))) (.cons (.asg (.v 2) (.bin .mod (.bi .int (.cons (.idx (.v 0) (.c (.int 0))) (.nil))) (.v 1))) (.cons (.asg (.sub (.v 0) (.c (.int 0))) (.bin .fdiv (.bi .int (.cons (.idx (.v 0) (.c (.int 0))) (.nil))) (.v 1))) (.cons (.ret (.v 2)) (.nil)))) (.nil)) (.cons (.asg (.sub (.v 0) (.c (.int 3))) (.bin .add (.idx (.v 0) (.c (.int 3))) (.c (.int 1)))) (.cons (.asg (.sub (.v 0) (.c (.int 2))) (.bin .mod (.bin .add (.bin .add (.bin .mul (.idx (.v 0) (.c (.int 2))) (.c (.int c1))) (.bin .mul (.c (.int c2)) (.idx (.v 0) (.c (.int 3))))) (.c (.int c3))) (.c (.int c4)))) (.cons (.ret (.bin .mod (.bi .int (.cons (.bin .fdiv (.idx (.v 0) (.c (.int 2))) (.c (.int c5))) (.nil))) (.v 1))) (.nil))))⟩
@[simp] theorem ix4_0 : L2.ixN 4 0 = some 0 := rfl
@[simp] theorem ix4_2 : L2.ixN 4 2 = some 2 := rfl
@[simp] theorem ix4_3 : L2.ixN 4 3 = some 3 := rfl
@[simp] theorem at_0 {α : Type} (a : α) (r) : L2.atI (a :: r) 0 = some a := atI_nat (a :: r) 0
@[simp] theorem at_1 {α : Type} (a b : α) (r) : L2.atI (a :: b :: r) 1 = some b := atI_nat (a :: b :: r) 1
@[simp] theorem at_2 {α : Type} (a b c : α) (r) : L2.atI (a :: b :: c :: r) 2 = some c := atI_nat (a :: b :: c :: r) 2
@[simp] theorem at_3 {α : Type} (a b c d : α) (r) : L2.atI (a :: b :: c :: d :: r) 3 = some d := atI_nat (a :: b :: c :: d :: r) 3
theorem take_ok {G : List Def} {cs : List A} {j : Nat} {c1 c2 c3 c4 c5 : Int} (hG : G[j]? = some (d_take c1 c2 c3 c4 c5)) {n : Nat} (hn : 1 ≤ n) {b N : Nat} {w : Int} {s : S} (hB : Box s b N)
    (hN : N < 2 ^ 64) (h1 : c1.natAbs < 2 ^ 64 ∧ c2.natAbs < 2 ^ 64 ∧ 0 < c4 ∧ c4 < 2 ^ 40 ∧ 0 < c5 ∧ c5 < 2 ^ 40) (hw : 0 < w) (hw2 : w < 2 ^ 40) :
    wp (callF G cs n j [.cell b, .int w] s) (fun a s' => ∃ d : Int, a = .int d ∧ 0 ≤ d ∧ d < w ∧ Kb (some b) s s' ∧ Box s' b (N + 1)) := by
  refine wp_call hG hn rfl ?_
  generalize callF G cs (n - 1) = cf
  obtain ⟨g, k, h, m, e, hh0, hh1, hm0, hm1⟩ := hB
  have e1 := itemsL_c _ e
  have hb := get_lt e
  have b64 : (64 : Nat) ≤ bits := by decide
  have b80 : (80 : Nat) ≤ bits := by decide
  have p8 : (2 : Nat) ^ 40 ≤ 2 ^ 8000 := Nat.pow_le_pow_right (by omega) (by omega)
  have hw3 : w.natAbs < 2 ^ 8000 := by omega
  have hd5 : c5.natAbs < 2 ^ 8000 := by omega
  have sm1 : small h = true := small_of (k := 64) (by omega) b64
  have sm2 : small c1 = true := small_of (k := 64) (by omega) b64
  have sm3 : small c2 = true := small_of (k := 64) (by omega) b64
  have sm4 : small (m + 1) = true := small_of (k := 80) (by omega) b80
  have step : ∀ (s' : S), s' = (s.set b (.lst [.int g, .bl k, .int h, .int (m + 1)])).set b (.lst [.int g, .bl k, .int ((h * c1 + c2 * (m + 1) + c3) % c4), .int (m + 1)]) → Kb (some b) s s' ∧ Box s' b (N + 1) := by
    rintro _ rfl
    refine ⟨(Kb.setB _).trans (Kb.setB _), g, k, (h * c1 + c2 * (m + 1) + c3) % c4, m + 1, by simp [hb], Int.emod_nonneg _ (by omega), ?_, by omega, by omega⟩
    have := Int.emod_lt_of_pos (h * c1 + c2 * (m + 1) + c3) h1.2.2.1
    omega
  cases k with
  | false =>
    simp [d_take, evB, evS, evE, evEs, asgT, e1, hb, sm1, sm2, sm3, sm4, hw, hw3, hd5, h1]
    refine ⟨Int.emod_nonneg _ (by omega), Int.emod_lt_of_pos _ hw, ?_⟩
    exact step _ (by simp)
  | true =>
    by_cases hg : 0 < g
    · simp [d_take, evB, evS, evE, evEs, asgT, e1, hb, sm1, sm2, sm3, sm4, hw, hw3, hd5, h1, hg]
      refine ⟨Int.emod_nonneg _ (by omega), Int.emod_lt_of_pos _ hw, Kb.setB _, g / w, true, h, m, by simp [hb], hh0, hh1, hm0, by omega⟩
    · simp [d_take, evB, evS, evE, evEs, asgT, e1, hb, sm1, sm2, sm3, sm4, hw, hw3, hd5, h1, hg]
      refine ⟨Int.emod_nonneg _ (by omega), Int.emod_lt_of_pos _ hw, ?_⟩
      exact step _ (by simp)
/-- `_law_box` -/
def d_box (c : Int) : Def := ⟨1, 1, .cons (.ret (.mk (.disp (.cons (.bi .abs (.cons (.v 0) (.nil))) (.cons (.cmp .ge (.bi .abs (.cons (.v 0) (.nil))) (.bin .pow (.c (.int 10)) (.c (.int 18)))) (.cons (.bin .mod (.bi .int (.cons (.bi .abs (.cons (.v 0) (.nil))) (.nil))) (.c (.int c))) (.cons (.c (.int 0)) (.nil)))))))) (.nil)⟩
theorem box_ok {G : List Def} {cs : List A} {j : Nat} {c : Int} (hG : G[j]? = some (d_box c)) {n : Nat} (hn : 1 ≤ n) {w : Int} {s : S} (h0 : 0 < c) (h1 : c < 2 ^ 40) :
    wp (callF G cs n j [.int w] s) (fun a s' => a = .cell s.length ∧ s'.length = s.length + 1 ∧ Kb none s s' ∧ Box s' s.length 0) := by
  refine wp_call hG hn rfl ?_
  generalize callF G cs (n - 1) = cf
  simp [d_box, evB, evS, evE, evEs, evL, asgT, h0]
  refine ⟨Kb.app _ _ _, w.natAbs, decide (1000000000000000000 ≤ (w.natAbs : Int)), w.natAbs % c, 0, by simp, Int.emod_nonneg _ (by omega), ?_, by omega, by omega⟩
  have := Int.emod_lt_of_pos (w.natAbs : Int) h0
  omega
/-- `_law_cell` -/
def d_cell (c1 c2 : Int) : Def := ⟨2, 2, .cons (.ret (.ite (.cmp .lt (.v 1) (.bi .len (.cons (.v 0) (.nil)))) (.idx (.v 0) (.v 1)) (.bin .add (.bin .mul (.c (.int c1)) (.v 1)) (.bin .mod (.bi .int (.cons (.bi .sum (.cons (.slice (.v 0) (.no) (.yes (.c (.int 1)))) (.nil))) (.nil))) (.c (.int c2)))))) (.nil)⟩
theorem intsOf_map (ns : List Int) : intsOf (ns.map A.int) = some ns := by
  induction ns with
  | nil => rfl
  | cons x xs ih => simp [intsOf, ih]
theorem cell_ok {G : List Def} {cs : List A} {j : Nat} {c1 c2 : Int} (hG : G[j]? = some (d_cell c1 c2)) {n : Nat} (hn : 1 ≤ n) {k : Nat} {ns : List Int} {s : S} (h0 : 0 < c2) (h1 : c1.natAbs < 2 ^ 64) (hk : k < 2 ^ 60) :
    wp (callF G cs n j [.ro (ns.map A.int), .int k] s) (fun a s' => s' = s ∧ ∃ w : Int, a = .int w) := by
  refine wp_call hG hn rfl ?_
  generalize callF G cs (n - 1) = cf
  have b64 : (64 : Nat) ≤ bits := by decide
  have sm1 : small c1 = true := small_of (k := 64) (by omega) b64
  have sm2 : small (k : Int) = true := small_of (k := 64) (by omega) b64
  by_cases hl : k < ns.length
  · have hl' : (k : Int) < (ns.length : Int) := by omega
    simp [d_cell, evB, evS, evE, evEs, evL, asgT, hl, atI_nat]
  · have hl' : ¬ (k : Int) < (ns.length : Int) := by omega
    have hc : cutA (ns.map A.int) none (some 1) = (ns.take 1).map A.int := by
      cases ns with
      | nil => rfl
      | cons x xs => simp [cutA, HT.sIx]
    simp [d_cell, evB, evS, evE, evEs, evEo, evL, asgT, hl, atI_nat, sliceV, hc, sm1, sm2, h0, intsOf_map, ← List.map_take]
/-- `_law_same` at the place j -/
def d_same (j : Nat) : Def := ⟨2, 4, .cons (.iff (.or2 (.cmp .is (.v 1) (.c .non)) (.isi (.v 1) [.bool])) (.cons (.ret (.ite (.cmp .is (.v 1) (.c .non)) (.cmp .is (.v 0) (.c .non)) (.and2 (.isi (.v 0) [.bool]) (.cmp .eq (.cmp .is (.v 0) (.c (.bl true))) (.cmp .is (.v 1) (.c (.bl true))))))) (.nil)) (.nil)) (.cons (.iff (.isi (.v 1) [.int]) (.cons (.ret (.and2 (.isi (.v 0) [.int]) (.and2 (.not (.isi (.v 0) [.bool])) (.cmp .eq (.bin .sub (.bi .int (.cons (.v 0) (.nil))) (.v 1)) (.c (.int 0)))))) (.nil)) (.nil)) (.cons (.iff (.isi (.v 1) [.str]) (.cons (.ret (.and2 (.isi (.v 0) [.str]) (.cmp .eq (.v 0) (.v 1)))) (.nil)) (.nil)) (.cons (.iff (.isi (.v 1) [.dict]) (.cons (.ret (.and2 (.isi (.v 0) [.dict]) (.and2 (.cmp .eq (.bi .len (.cons (.v 0) (.nil))) (.bi .len (.cons (.v 1) (.nil)))) (.cmp .eq (.lst (.comp [2] (.v 2) (.seq (.v 1)) (.yes (.or2 (.cmp .nin (.v 2) (.v 0)) (.not (.call j (.cons (.idx (.v 0) (.v 2)) (.cons (.idx (.v 1) (.v 2)) (.nil))))))) (.v 2))) (.lst (.disp (.nil))))))) (.nil)) (.nil)) (.cons (.iff (.or2 (.not (.isi (.v 1) [.list, .tuple])) (.not (.isi (.v 0) [.list, .tuple]))) (.cons (.ret (.c (.bl false))) (.nil)) (.nil)) (.cons (.iff (.or2 (.cmp .ne (.isi (.v 0) [.list]) (.isi (.v 1) [.list])) (.cmp .ne (.bi .len (.cons (.v 0) (.nil))) (.bi .len (.cons (.v 1) (.nil))))) (.cons (.ret (.c (.bl false))) (.nil)) (.nil)) (.cons (.ret (.cmp .eq (.lst (.comp [3] (.v 3) (.rng1 (.bi .len (.cons (.v 1) (.nil)))) (.yes (.not (.call j (.cons (.idx (.v 0) (.v 3)) (.cons (.idx (.v 1) (.v 3)) (.nil)))))) (.v 3))) (.lst (.disp (.nil))))) (.nil)))))))⟩
/-- plain data, d deep at most -/
inductive PlainD : Nat → A → Prop where
  | non {d} : PlainD d .non
  | bl {d} (k) : PlainD d (.bl k)
  | int {d} (i) : PlainD d (.int i)
  | tup {d} {xs : List A} : xs.length ≤ sizeLine → (∀ x ∈ xs, PlainD d x) → PlainD (d + 1) (.tup xs)
  | lst {d} {xs : List A} : xs.length ≤ sizeLine → (∀ x ∈ xs, PlainD d x) → PlainD (d + 1) (.lst xs)
theorem PlainD.up {d : Nat} {a : A} (h : PlainD d a) : ∀ {e : Nat}, d ≤ e → PlainD e a := by
  induction h with
  | non => intros; exact .non
  | bl => intros; exact .bl _
  | int => intros; exact .int _
  | tup hl hx ih =>
    intro e he
    obtain ⟨f, rfl⟩ : ∃ f, e = f + 1 := ⟨e - 1, by omega⟩
    exact .tup hl fun x hx' => ih x hx' (by omega)
  | lst hl hx ih =>
    intro e he
    obtain ⟨f, rfl⟩ : ∃ f, e = f + 1 := ⟨e - 1, by omega⟩
    exact .lst hl fun x hx' => ih x hx' (by omega)
theorem PlainD.fA (d : Nat) (p : F) : PlainD (d + 1) (fA p) := .tup (by simp) (by simp; exact ⟨.int _, .int _⟩)
@[simp] theorem eqA_bl (s : S) (a b : Bool) : eqA s (.bl a) (.bl b) = some (decide (a = b)) := by
  cases a <;> cases b <;> simp [eqA, resv, eqData, dataOf, SeqAt.shaped, PyData.canLay0, PyData.depth, PyData.eqv]
theorem mem_rngL {n : Nat} {x : A} (h : x ∈ rngL 0 n) : ∃ k : Nat, k < n ∧ x = .int k := by
  simp [rngL] at h
  obtain ⟨k, hk, rfl⟩ := h
  exact ⟨k, hk, rfl⟩
theorem sizeLine_val : sizeLine = 16777216 := by simp [sizeLine]
theorem ok62_nat {n : Nat} (h : n ≤ sizeLine) : ok62 (n : Int) = true := by
  have e : sizeLine ≤ 2 ^ 24 := Nat.le_refl _
  have h1 : n < 2 ^ 62 := Nat.lt_of_le_of_lt (Nat.le_trans h e) (by decide)
  unfold ok62
  rw [Bool.and_eq_true, decide_eq_true_eq, decide_eq_true_eq]
  omega
theorem same_ok {G : List Def} {cs : List A} {j : Nat} (hG : G[j]? = some (d_same j)) {d : Nat} : ∀ {n : Nat} {a : A} {s : S}, PlainD d a → d < n → callF G cs n j [a, a] s = .ok (.bl true) s := by
  induction d with
  | zero =>
    intro n a s hp hn
    apply eq_of_wp
    refine wp_call hG hn rfl ?_
    generalize callF G cs (n - 1) = cf
    cases hp with
    | non => simp [d_same, evB, evS, evE, evEs, isiV, isi1, tyS]
    | bl k => cases k <;> simp [d_same, evB, evS, evE, evEs, isiV, isi1, tyS]
    | int i => simp [d_same, evB, evS, evE, evEs, isiV, isi1, tyS]
  | succ d ih =>
    intro n a s hp hn
    apply eq_of_wp
    refine wp_call hG (by omega) rfl ?_
    have ih' : ∀ a s, PlainD d a → callF G cs (n - 1) j [a, a] s = .ok (.bl true) s := fun a s h => ih h (by omega)
    generalize callF G cs (n - 1) = cf at ih'
    cases hp with
    | non => simp [d_same, evB, evS, evE, evEs, isiV, isi1, tyS]
    | bl k => cases k <;> simp [d_same, evB, evS, evE, evEs, isiV, isi1, tyS]
    | int i => simp [d_same, evB, evS, evE, evEs, isiV, isi1, tyS]
    | @tup _ xs hl hx =>
      have hm : ∀ f : A → S → Res (Option A), (∀ k x, xs[k]? = some x → f (.int (k : Nat)) s = .ok none s) → mapR none f (rngL 0 xs.length) s = .ok [] s := by
        intro f hf
        have := map_eq (f := f) (h := fun _ => none) (s := s) (xs := rngL 0 xs.length) (by
          intro x hx
          obtain ⟨k, hk, rfl⟩ := mem_rngL hx
          exact hf k _ (List.getElem?_eq_getElem hk))
        rwa [show List.filterMap (fun _ => (none : Option A)) (rngL 0 xs.length) = [] by simp] at this
      have h2 := fun (s : S) => eqA_nil s
      simp [d_same, evB, evS, evE, evEs, evL, evI, evC, isiV, isi1, tyS, ok62_nat hl, hl]
      rw [hm _ (by
        intro k x hk
        have hp : PlainD d x := hx x (List.mem_of_getElem? hk)
        simp [asgT, wipeA, evE, evEs, Res.bind, Res.nox, hk, atI_nat, ih' x s hp])]
      simp
    | @lst _ xs hl hx =>
      have hm : ∀ f : A → S → Res (Option A), (∀ k x, xs[k]? = some x → f (.int (k : Nat)) s = .ok none s) → mapR none f (rngL 0 xs.length) s = .ok [] s := by
        intro f hf
        have := map_eq (f := f) (h := fun _ => none) (s := s) (xs := rngL 0 xs.length) (by
          intro x hx
          obtain ⟨k, hk, rfl⟩ := mem_rngL hx
          exact hf k _ (List.getElem?_eq_getElem hk))
        rwa [show List.filterMap (fun _ => (none : Option A)) (rngL 0 xs.length) = [] by simp] at this
      simp [d_same, evB, evS, evE, evEs, evL, evI, evC, isiV, isi1, tyS, ok62_nat hl, hl]
      rw [hm _ (by
        intro k x hk
        have hp : PlainD d x := hx x (List.mem_of_getElem? hk)
        simp [asgT, wipeA, evE, evEs, Res.bind, Res.nox, hk, atI_nat, ih' x s hp])]
      simp
end
end Dy
end

section
set_option linter.all false
set_option maxRecDepth 100000
namespace K59
open PySem Dy
/-- lowest -/
def d_lowest : Def := ⟨2, 3, .cons (.asg (.v 2) (.ite (.cmp .gt (.v 1) (.c (.int 0))) (.bi .gcd (.cons (.v 0) (.cons (.v 1) (.nil)))) (.neg (.bi .gcd (.cons (.v 0) (.cons (.v 1) (.nil))))))) (.cons (.ret (.tup (.cons (.bin .fdiv (.v 0) (.v 2)) (.cons (.bin .fdiv (.v 1) (.v 2)) (.nil))))) (.nil))⟩
/-- shared_denominator -/
def d_shared_denominator : Def := ⟨1, 3, .cons (.asg (.v 1) (.c (.int 1))) (.cons (.for_ (.v 2) (.seq (.v 0)) (.cons (.asg (.v 1) (.bin .fdiv (.bin .mul (.v 1) (.idx (.v 2) (.c (.int 1)))) (.bi .gcd (.cons (.v 1) (.cons (.idx (.v 2) (.c (.int 1))) (.nil)))))) (.nil))) (.cons (.ret (.v 1)) (.nil)))⟩
/-- is_fraction_value -/
def d_is_fraction_value : Def := ⟨1, 2, .cons (.iff (.or2 (.not (.isi (.v 0) [.tuple])) (.cmp .ne (.bi .len (.cons (.v 0) (.nil))) (.c (.int 2)))) (.cons (.ret (.c (.bl false))) (.nil)) (.nil)) (.cons (.iff (.not (.bi .all (.cons (.lst (.comp [1] (.v 1) (.seq (.v 0)) (.no) (.and2 (.isi (.v 1) [.int]) (.not (.isi (.v 1) [.bool]))))) (.nil)))) (.cons (.ret (.c (.bl false))) (.nil)) (.nil)) (.cons (.ret (.and2 (.cmp .gt (.idx (.v 0) (.c (.int 1))) (.c (.int 0))) (.cmp .eq (.bi .gcd (.cons (.idx (.v 0) (.c (.int 0))) (.cons (.idx (.v 0) (.c (.int 1))) (.nil)))) (.c (.int 1))))) (.nil)))⟩
/-- is_list -/
def d_is_list : Def := ⟨1, 1, .cons (.ret (.isi (.v 0) [.list, .tuple])) (.nil)⟩
/-- check_numbers -/
def d_check_numbers : Def := ⟨1, 2, .cons (.iff (.or2 (.not (.call 3 (.cons (.v 0) (.nil)))) (.not (.chain .le .le (.c (.int 1)) (.bi .len (.cons (.v 0) (.nil))) (.g 0)))) (.cons (.never) (.nil)) (.nil)) (.cons (.iff (.not (.bi .all (.cons (.lst (.comp [1] (.v 1) (.seq (.v 0)) (.no) (.call 2 (.cons (.v 1) (.nil))))) (.nil)))) (.cons (.never) (.nil)) (.nil)) (.nil))⟩
/-- check_price -/
def d_check_price : Def := ⟨1, 1, .cons (.iff (.or2 (.not (.call 2 (.cons (.v 0) (.nil)))) (.cmp .lt (.idx (.v 0) (.c (.int 0))) (.c (.int 0)))) (.cons (.never) (.nil)) (.nil)) (.nil)⟩
/-- tops_of -/
def d_tops_of : Def := ⟨1, 4, .cons (.asg (.v 1) (.call 1 (.cons (.v 0) (.nil)))) (.cons (.ret (.tup (.cons (.lst (.comp [2, 3] (.tup (.cons (.v 2) (.cons (.v 3) (.nil)))) (.seq (.v 0)) (.no) (.bin .mul (.v 2) (.bin .fdiv (.v 1) (.v 3))))) (.cons (.v 1) (.nil))))) (.nil))⟩
/-- triples_of -/
def d_triples_of : Def := ⟨1, 5, .cons (.asg (.v 1) (.mk (.disp (.nil)))) (.cons (.for_ (.v 2) (.rng1 (.v 0)) (.cons (.for_ (.v 3) (.rng2 (.bin .add (.v 2) (.c (.int 1))) (.v 0)) (.cons (.expr (.extend (.v 1) (.lst (.comp [4] (.v 4) (.rng2 (.bin .add (.v 3) (.c (.int 1))) (.v 0)) (.no) (.tup (.cons (.v 2) (.cons (.v 3) (.cons (.v 4) (.nil))))))))) (.nil))) (.nil))) (.cons (.ret (.frz (.v 1))) (.nil)))⟩
/-- lack_of -/
def d_lack_of : Def := ⟨2, 5, .cons (.asg (.tup (.cons (.v 2) (.cons (.v 3) (.cons (.v 4) (.nil))))) (.v 1)) (.cons (.ret (.bin .sub (.bin .mul (.bin .sub (.idx (.v 0) (.v 3)) (.idx (.v 0) (.v 2))) (.bin .sub (.v 4) (.v 3))) (.bin .mul (.bin .sub (.idx (.v 0) (.v 4)) (.idx (.v 0) (.v 3))) (.bin .sub (.v 3) (.v 2))))) (.nil))⟩
/-- first_break -/
def d_first_break : Def := ⟨2, 5, .cons (.asg (.tup (.cons (.v 2) (.cons (.v 3) (.nil)))) (.call 6 (.cons (.lst (.disp (.star (.v 0) (.cons (.v 1) (.nil))))) (.nil)))) (.cons (.for_ (.v 4) (.seq (.call 7 (.cons (.bi .len (.cons (.v 0) (.nil))) (.nil)))) (.cons (.iff (.cmp .gt (.call 8 (.cons (.v 2) (.cons (.v 4) (.nil)))) (.bin .mul (.idx (.v 2) (.neg (.c (.int 1)))) (.bin .sub (.idx (.v 4) (.c (.int 1))) (.idx (.v 4) (.c (.int 0)))))) (.cons (.ret (.v 4)) (.nil)) (.nil)) (.nil))) (.cons (.ret (.c .non)) (.nil)))⟩
/-- is_k_convex -/
def d_is_k_convex : Def := ⟨2, 2, .cons (.expr (.call 4 (.cons (.v 0) (.nil)))) (.cons (.expr (.call 5 (.cons (.v 1) (.nil)))) (.cons (.ret (.cmp .is (.call 9 (.cons (.v 0) (.cons (.v 1) (.nil)))) (.c .non))) (.nil)))⟩
/-- k_break -/
def d_k_break : Def := ⟨2, 2, .cons (.expr (.call 4 (.cons (.v 0) (.nil)))) (.cons (.expr (.call 5 (.cons (.v 1) (.nil)))) (.cons (.ret (.call 9 (.cons (.v 0) (.cons (.v 1) (.nil))))) (.nil)))⟩
/-- least_price -/
def d_least_price : Def := ⟨1, 7, .cons (.expr (.call 4 (.cons (.v 0) (.nil)))) (.cons (.asg (.tup (.cons (.v 1) (.cons (.v 2) (.nil)))) (.call 6 (.cons (.v 0) (.nil)))) (.cons (.asg (.v 3) (.g 1)) (.cons (.for_ (.v 4) (.seq (.call 7 (.cons (.bi .len (.cons (.v 0) (.nil))) (.nil)))) (.cons (.par [5, 6] (.cons (.call 8 (.cons (.v 1) (.cons (.v 4) (.nil)))) (.cons (.bin .sub (.idx (.v 4) (.c (.int 1))) (.idx (.v 4) (.c (.int 0)))) (.nil)))) (.cons (.iff (.cmp .gt (.bin .mul (.v 5) (.idx (.v 3) (.c (.int 1)))) (.bin .mul (.idx (.v 3) (.c (.int 0))) (.v 6))) (.cons (.asg (.v 3) (.tup (.cons (.v 5) (.cons (.v 6) (.nil))))) (.nil)) (.nil)) (.nil)))) (.cons (.ret (.call 0 (.cons (.idx (.v 3) (.c (.int 0))) (.cons (.bin .mul (.idx (.v 3) (.c (.int 1))) (.v 2)) (.nil))))) (.nil)))))⟩
/-- _law_cell -/
def d_law_cell : Def := ⟨2, 2, .cons (.ret (.ite (.cmp .lt (.v 1) (.bi .len (.cons (.v 0) (.nil)))) (.idx (.v 0) (.v 1)) (.bin .add (.bin .mul (.c (.int 6763)) (.v 1)) (.bin .mod (.bi .int (.cons (.bi .sum (.cons (.slice (.v 0) (.no) (.yes (.c (.int 1)))) (.nil))) (.nil))) (.c (.int 1000033)))))) (.nil)⟩
/-- _law_box -/
def d_law_box : Def := ⟨1, 1, .cons (.ret (.mk (.disp (.cons (.bi .abs (.cons (.v 0) (.nil))) (.cons (.cmp .ge (.bi .abs (.cons (.v 0) (.nil))) (.bin .pow (.c (.int 10)) (.c (.int 18)))) (.cons (.bin .mod (.bi .int (.cons (.bi .abs (.cons (.v 0) (.nil))) (.nil))) (.c (.int 2147483629))) (.cons (.c (.int 0)) (.nil)))))))) (.nil)⟩
/-- _law_take -/
def d_law_take : Def := ⟨2, 3, .cons (.iff (.and2 (.idx (.v 0) (.c (.int 1))) (.cmp .gt (.idx (.v 0) (.c (.int 0))) (.c (.int 0)))) (.cons (.asg (.v 2) (.bin .mod (.bi .int (.cons (.idx (.v 0) (.c (.int 0))) (.nil))) (.v 1))) (.cons (.asg (.sub (.v 0) (.c (.int 0))) (.bin .fdiv (.bi .int (.cons (.idx (.v 0) (.c (.int 0))) (.nil))) (.v 1))) (.cons (.ret (.v 2)) (.nil)))) (.nil)) (.cons (.asg (.sub (.v 0) (.c (.int 3))) (.bin .add (.idx (.v 0) (.c (.int 3))) (.c (.int 1)))) (.cons (.asg (.sub (.v 0) (.c (.int 2))) (.bin .mod (.bin .add (.bin .add (.bin .mul (.idx (.v 0) (.c (.int 2))) (.c (.int 69621))) (.bin .mul (.c (.int 1445)) (.idx (.v 0) (.c (.int 3))))) (.c (.int 17))) (.c (.int 2147483629)))) (.cons (.ret (.bin .mod (.bi .int (.cons (.bin .fdiv (.idx (.v 0) (.c (.int 2))) (.c (.int 64))) (.nil))) (.v 1))) (.nil))))⟩
/-- _law_same -/
def d_law_same : Def := ⟨2, 4, .cons (.iff (.or2 (.cmp .is (.v 1) (.c .non)) (.isi (.v 1) [.bool])) (.cons (.ret (.ite (.cmp .is (.v 1) (.c .non)) (.cmp .is (.v 0) (.c .non)) (.and2 (.isi (.v 0) [.bool]) (.cmp .eq (.cmp .is (.v 0) (.c (.bl true))) (.cmp .is (.v 1) (.c (.bl true))))))) (.nil)) (.nil)) (.cons (.iff (.isi (.v 1) [.int]) (.cons (.ret (.and2 (.isi (.v 0) [.int]) (.and2 (.not (.isi (.v 0) [.bool])) (.cmp .eq (.bin .sub (.bi .int (.cons (.v 0) (.nil))) (.v 1)) (.c (.int 0)))))) (.nil)) (.nil)) (.cons (.iff (.isi (.v 1) [.str]) (.cons (.ret (.and2 (.isi (.v 0) [.str]) (.cmp .eq (.v 0) (.v 1)))) (.nil)) (.nil)) (.cons (.iff (.isi (.v 1) [.dict]) (.cons (.ret (.and2 (.isi (.v 0) [.dict]) (.and2 (.cmp .eq (.bi .len (.cons (.v 0) (.nil))) (.bi .len (.cons (.v 1) (.nil)))) (.cmp .eq (.lst (.comp [2] (.v 2) (.seq (.v 1)) (.yes (.or2 (.cmp .nin (.v 2) (.v 0)) (.not (.call 16 (.cons (.idx (.v 0) (.v 2)) (.cons (.idx (.v 1) (.v 2)) (.nil))))))) (.v 2))) (.lst (.disp (.nil))))))) (.nil)) (.nil)) (.cons (.iff (.or2 (.not (.isi (.v 1) [.list, .tuple])) (.not (.isi (.v 0) [.list, .tuple]))) (.cons (.ret (.c (.bl false))) (.nil)) (.nil)) (.cons (.iff (.or2 (.cmp .ne (.isi (.v 0) [.list]) (.isi (.v 1) [.list])) (.cmp .ne (.bi .len (.cons (.v 0) (.nil))) (.bi .len (.cons (.v 1) (.nil))))) (.cons (.ret (.c (.bl false))) (.nil)) (.nil)) (.cons (.ret (.cmp .eq (.lst (.comp [3] (.v 3) (.rng1 (.bi .len (.cons (.v 1) (.nil)))) (.yes (.not (.call 16 (.cons (.idx (.v 0) (.v 3)) (.cons (.idx (.v 1) (.v 3)) (.nil)))))) (.v 3))) (.lst (.disp (.nil))))) (.nil)))))))⟩
/-- _law_low -/
def d_law_low : Def := ⟨2, 5, .cons (.par [2, 3] (.cons (.bi .abs (.cons (.v 0) (.nil))) (.cons (.v 1) (.nil)))) (.cons (.for_ (.v 4) (.rng1 (.c (.int 4000))) (.cons (.iff (.cmp .eq (.v 3) (.c (.int 0))) (.cons (.brk) (.nil)) (.nil)) (.cons (.par [2, 3] (.cons (.v 3) (.cons (.bin .mod (.bi .int (.cons (.v 2) (.nil))) (.v 3)) (.nil)))) (.nil)))) (.cons (.ret (.tup (.cons (.bin .fdiv (.v 0) (.v 2)) (.cons (.bin .fdiv (.v 1) (.v 2)) (.nil))))) (.nil)))⟩
/-- _law_plus -/
def d_law_plus : Def := ⟨2, 2, .cons (.ret (.call 17 (.cons (.bin .add (.bin .mul (.idx (.v 0) (.c (.int 0))) (.idx (.v 1) (.c (.int 1)))) (.bin .mul (.idx (.v 1) (.c (.int 0))) (.idx (.v 0) (.c (.int 1))))) (.cons (.bin .mul (.idx (.v 0) (.c (.int 1))) (.idx (.v 1) (.c (.int 1)))) (.nil))))) (.nil)⟩
/-- _law_less -/
def d_law_less : Def := ⟨2, 2, .cons (.ret (.cmp .lt (.bin .mul (.idx (.v 0) (.c (.int 0))) (.idx (.v 1) (.c (.int 1)))) (.bin .mul (.idx (.v 1) (.c (.int 0))) (.idx (.v 0) (.c (.int 1)))))) (.nil)⟩
/-- _law_times -/
def d_law_times : Def := ⟨2, 2, .cons (.ret (.call 17 (.cons (.bin .mul (.idx (.v 0) (.c (.int 0))) (.idx (.v 1) (.c (.int 0)))) (.cons (.bin .mul (.idx (.v 0) (.c (.int 1))) (.idx (.v 1) (.c (.int 1)))) (.nil))))) (.nil)⟩
/-- _law_numbers -/
def d_law_numbers : Def := ⟨2, 8, .cons (.par [2, 3, 4] (.cons (.call 15 (.cons (.v 0) (.cons (.c (.int 5)) (.nil)))) (.cons (.mk (.disp (.nil))) (.cons (.neg (.call 15 (.cons (.v 0) (.cons (.c (.int 6)) (.nil))))) (.nil))))) (.cons (.par [5, 6] (.cons (.idx (.lst (.disp (.cons (.c (.int 1)) (.cons (.c (.int 1)) (.cons (.c (.int 2)) (.cons (.c (.int 3)) (.cons (.c (.int 7)) (.nil)))))))) (.call 15 (.cons (.v 0) (.cons (.c (.int 5)) (.nil))))) (.cons (.bin .sub (.call 15 (.cons (.v 0) (.cons (.c (.int 20)) (.nil)))) (.c (.int 10))) (.nil)))) (.cons (.for_ (.v 7) (.rng1 (.v 1)) (.cons (.iff (.cmp .lt (.v 2) (.c (.int 2))) (.cons (.asg (.v 4) (.bin .add (.v 4) (.call 15 (.cons (.v 0) (.cons (.c (.int 3)) (.nil)))))) (.cons (.asg (.v 6) (.bin .add (.bin .add (.v 6) (.v 4)) (.ite (.and2 (.cmp .eq (.v 2) (.c (.int 1))) (.cmp .eq (.call 15 (.cons (.v 0) (.cons (.c (.int 3)) (.nil)))) (.c (.int 0)))) (.call 15 (.cons (.v 0) (.cons (.c (.int 12)) (.nil)))) (.c (.int 0))))) (.nil))) (.cons (.iff (.cmp .eq (.v 2) (.c (.int 2))) (.cons (.asg (.v 6) (.bin .sub (.call 15 (.cons (.v 0) (.cons (.c (.int 40)) (.nil)))) (.c (.int 20)))) (.nil)) (.cons (.iff (.cmp .eq (.v 2) (.c (.int 3))) (.cons (.asg (.v 6) (.bin .add (.v 6) (.bi .int (.cons (.cmp .eq (.call 15 (.cons (.v 0) (.cons (.c (.int 4)) (.nil)))) (.c (.int 0))) (.nil))))) (.nil)) (.cons (.asg (.v 6) (.call 15 (.cons (.v 0) (.cons (.c (.int 3)) (.nil))))) (.nil))) (.nil))) (.nil))) (.cons (.expr (.append (.v 3) (.call 17 (.cons (.v 6) (.cons (.v 5) (.nil)))))) (.nil)))) (.cons (.ret (.frz (.v 3))) (.nil))))⟩
/-- _law_needs -/
def d_law_needs : Def := ⟨1, 11, .cons (.asg (.tup (.cons (.v 1) (.cons (.v 2) (.nil)))) (.tup (.cons (.c (.int 1)) (.cons (.mk (.disp (.nil))) (.nil))))) (.cons (.for_ (.tup (.cons (.v 3) (.cons (.v 4) (.nil)))) (.seq (.v 0)) (.cons (.asg (.v 1) (.bin .mul (.v 1) (.bin .fdiv (.v 4) (.call 23 (.cons (.v 1) (.cons (.v 4) (.nil))))))) (.nil))) (.cons (.asg (.v 5) (.lst (.comp [3, 4] (.tup (.cons (.v 3) (.cons (.v 4) (.nil)))) (.seq (.v 0)) (.no) (.bin .mul (.v 3) (.bin .fdiv (.v 1) (.v 4)))))) (.cons (.for_ (.v 6) (.rng1 (.bi .len (.cons (.v 0) (.nil)))) (.cons (.for_ (.v 7) (.rng2 (.bin .add (.v 6) (.c (.int 1))) (.bi .len (.cons (.v 0) (.nil)))) (.cons (.asg (.tup (.cons (.v 8) (.cons (.v 9) (.nil)))) (.tup (.cons (.bin .sub (.idx (.v 5) (.v 7)) (.idx (.v 5) (.v 6))) (.cons (.bin .sub (.v 7) (.v 6)) (.nil))))) (.cons (.expr (.extend (.v 2) (.lst (.comp [10] (.v 10) (.rng2 (.bin .add (.v 7) (.c (.int 1))) (.bi .len (.cons (.v 0) (.nil)))) (.no) (.tup (.cons (.bin .add (.bin .mul (.v 8) (.bin .sub (.v 10) (.v 7))) (.bin .mul (.bin .sub (.idx (.v 5) (.v 7)) (.idx (.v 5) (.v 10))) (.v 9))) (.cons (.v 9) (.cons (.tup (.cons (.v 6) (.cons (.v 7) (.cons (.v 10) (.nil))))) (.nil))))))))) (.nil)))) (.nil))) (.cons (.ret (.lst (.disp (.cons (.v 1) (.cons (.frz (.v 2)) (.nil)))))) (.nil)))))⟩
/-- _law_shared -/
def d_law_shared : Def := ⟨2, 3, .cons (.for_ (.v 2) (.rng1 (.c (.int 4000))) (.cons (.iff (.cmp .eq (.v 1) (.c (.int 0))) (.cons (.brk) (.nil)) (.nil)) (.cons (.par [0, 1] (.cons (.v 1) (.cons (.bin .mod (.bi .int (.cons (.v 0) (.nil))) (.v 1)) (.nil)))) (.nil)))) (.cons (.ret (.v 0)) (.nil))⟩
/-- _law_least -/
def d_law_least : Def := ⟨2, 6, .cons (.asg (.v 2) (.tup (.cons (.c (.int 0)) (.cons (.c (.int 1)) (.nil))))) (.cons (.for_ (.tup (.cons (.v 3) (.cons (.v 4) (.cons (.v 5) (.nil))))) (.seq (.v 1)) (.cons (.asg (.v 2) (.ite (.cmp .gt (.bin .mul (.v 3) (.idx (.v 2) (.c (.int 1)))) (.bin .mul (.idx (.v 2) (.c (.int 0))) (.v 4))) (.tup (.cons (.v 3) (.cons (.v 4) (.nil)))) (.v 2))) (.nil))) (.cons (.ret (.call 17 (.cons (.idx (.v 2) (.c (.int 0))) (.cons (.bin .mul (.idx (.v 2) (.c (.int 1))) (.v 0)) (.nil))))) (.nil)))⟩
/-- _law_broken -/
def d_law_broken : Def := ⟨3, 7, .cons (.asg (.v 3) (.lst (.comp [4, 5, 6] (.tup (.cons (.v 4) (.cons (.v 5) (.cons (.v 6) (.nil))))) (.seq (.v 1)) (.yes (.cmp .lt (.bin .mul (.bin .mul (.idx (.v 2) (.c (.int 0))) (.v 5)) (.v 0)) (.bin .mul (.v 4) (.idx (.v 2) (.c (.int 1)))))) (.v 6)))) (.cons (.ret (.ite (.cmp .ne (.v 3) (.lst (.disp (.nil)))) (.idx (.v 3) (.c (.int 0))) (.c .non))) (.nil))⟩
/-- _law_row_right -/
def d_law_row_right : Def := ⟨3, 11, .cons (.asg (.tup (.cons (.v 3) (.cons (.v 4) (.nil)))) (.call 22 (.cons (.v 1) (.nil)))) (.cons (.par [5, 6] (.cons (.call 24 (.cons (.v 3) (.cons (.v 4) (.nil)))) (.cons (.ite (.cmp .eq (.call 15 (.cons (.v 0) (.cons (.c (.int 2)) (.nil)))) (.c (.int 0))) (.bi .tuple (.cons (.v 1) (.nil))) (.lst (.ofSeq (.v 1)))) (.nil)))) (.cons (.iff (.not (.call 16 (.cons (.lst (.disp (.cons (.ite (.v 2) (.callK 12 (.nil) (.cons (.v 6) (.nil)) [0]) (.call 12 (.cons (.v 6) (.nil)))) (.cons (.call 12 (.cons (.lst (.ofSeq (.v 1))) (.nil))) (.nil))))) (.cons (.lst (.disp (.cons (.v 5) (.cons (.v 5) (.nil))))) (.nil))))) (.cons (.ret (.c .non)) (.nil)) (.nil)) (.cons (.asg (.v 7) (.mk (.disp (.cons (.v 5) (.cons (.call 18 (.cons (.v 5) (.cons (.tup (.cons (.c (.int 1)) (.cons (.bin .add (.c (.int 1)) (.call 15 (.cons (.v 0) (.cons (.c (.int 9)) (.nil))))) (.nil)))) (.nil)))) (.cons (.tup (.cons (.c (.int 0)) (.cons (.c (.int 1)) (.nil)))) (.cons (.call 17 (.cons (.call 15 (.cons (.v 0) (.cons (.c (.int 60)) (.nil)))) (.cons (.bin .add (.c (.int 1)) (.call 15 (.cons (.v 0) (.cons (.c (.int 6)) (.nil))))) (.nil)))) (.cons (.call 20 (.cons (.v 5) (.cons (.tup (.cons (.c (.int 1)) (.cons (.c (.int 2)) (.nil)))) (.nil)))) (.nil))))))))) (.cons (.iff (.cmp .ne (.v 5) (.tup (.cons (.c (.int 0)) (.cons (.c (.int 1)) (.nil))))) (.cons (.expr (.append (.v 7) (.ite (.cmp .gt (.idx (.v 5) (.c (.int 0))) (.c (.int 1))) (.call 18 (.cons (.v 5) (.cons (.tup (.cons (.neg (.c (.int 1))) (.cons (.bin .mul (.bin .pow (.c (.int 10)) (.c (.int 6))) (.idx (.v 5) (.c (.int 1)))) (.nil)))) (.nil)))) (.call 20 (.cons (.v 5) (.cons (.tup (.cons (.c (.int 99)) (.cons (.c (.int 100)) (.nil)))) (.nil))))))) (.nil)) (.nil)) (.cons (.for_ (.v 8) (.seq (.v 7)) (.cons (.asg (.v 9) (.call 25 (.cons (.v 3) (.cons (.v 4) (.cons (.v 8) (.nil)))))) (.cons (.asg (.v 10) (.lst (.disp (.cons (.ite (.v 2) (.callK 10 (.nil) (.cons (.v 8) (.cons (.v 6) (.nil))) [1, 0]) (.call 10 (.cons (.v 6) (.cons (.v 8) (.nil))))) (.cons (.ite (.v 2) (.call 11 (.cons (.v 6) (.cons (.v 8) (.nil)))) (.callK 11 (.nil) (.cons (.v 8) (.cons (.v 6) (.nil))) [1, 0])) (.nil)))))) (.cons (.iff (.not (.call 16 (.cons (.v 10) (.cons (.lst (.disp (.cons (.cmp .is (.v 9) (.c .non)) (.cons (.v 9) (.nil))))) (.nil))))) (.cons (.ret (.c .non)) (.nil)) (.nil)) (.cons (.asg (.v 2) (.not (.v 2))) (.nil)))))) (.cons (.ret (.v 5)) (.nil)))))))⟩
/-- _law_alike_right -/
def d_law_alike_right : Def := ⟨4, 17, .cons (.asg (.tup (.cons (.v 4) (.cons (.v 5) (.cons (.v 6) (.nil))))) (.tup (.cons (.call 17 (.cons (.bin .sub (.call 15 (.cons (.v 0) (.cons (.c (.int 30)) (.nil)))) (.c (.int 15))) (.cons (.bin .add (.c (.int 1)) (.call 15 (.cons (.v 0) (.cons (.c (.int 3)) (.nil))))) (.nil)))) (.cons (.call 17 (.cons (.bin .sub (.call 15 (.cons (.v 0) (.cons (.c (.int 30)) (.nil)))) (.c (.int 15))) (.cons (.bin .add (.c (.int 1)) (.call 15 (.cons (.v 0) (.cons (.c (.int 4)) (.nil))))) (.nil)))) (.cons (.call 17 (.cons (.bin .add (.c (.int 1)) (.call 15 (.cons (.v 0) (.cons (.c (.int 9)) (.nil))))) (.cons (.bin .add (.c (.int 1)) (.call 15 (.cons (.v 0) (.cons (.c (.int 3)) (.nil))))) (.nil)))) (.nil)))))) (.cons (.asg (.v 7) (.lst (.comp [8, 9] (.tup (.cons (.v 8) (.cons (.v 9) (.nil)))) (.enum (.v 1)) (.no) (.call 18 (.cons (.v 9) (.cons (.call 18 (.cons (.v 4) (.cons (.call 20 (.cons (.v 5) (.cons (.tup (.cons (.v 8) (.cons (.c (.int 1)) (.nil)))) (.nil)))) (.nil)))) (.nil))))))) (.cons (.asg (.v 10) (.lst (.comp [9] (.v 9) (.seq (.v 1)) (.no) (.call 20 (.cons (.v 9) (.cons (.v 6) (.nil))))))) (.cons (.asg (.v 11) (.lst (.disp (.cons (.call 12 (.cons (.v 7) (.nil))) (.cons (.callK 12 (.nil) (.cons (.v 10) (.nil)) [0]) (.cons (.call 10 (.cons (.v 7) (.cons (.v 2) (.nil)))) (.cons (.callK 10 (.nil) (.cons (.call 20 (.cons (.v 2) (.cons (.v 6) (.nil)))) (.cons (.v 10) (.nil))) [1, 0]) (.nil)))))))) (.cons (.iff (.not (.call 16 (.cons (.v 11) (.cons (.lst (.disp (.cons (.v 2) (.cons (.call 20 (.cons (.v 2) (.cons (.v 6) (.nil)))) (.cons (.c (.bl true)) (.cons (.c (.bl true)) (.nil))))))) (.nil))))) (.cons (.ret (.c (.bl false))) (.nil)) (.nil)) (.cons (.iff (.cmp .ne (.v 2) (.tup (.cons (.c (.int 0)) (.cons (.c (.int 1)) (.nil))))) (.cons (.asg (.v 12) (.call 20 (.cons (.v 2) (.cons (.tup (.cons (.c (.int 2)) (.cons (.c (.int 3)) (.nil)))) (.nil))))) (.cons (.asg (.tup (.cons (.v 13) (.cons (.v 14) (.nil)))) (.call 22 (.cons (.v 1) (.nil)))) (.cons (.iff (.not (.call 16 (.cons (.lst (.disp (.cons (.call 11 (.cons (.v 7) (.cons (.v 12) (.nil)))) (.cons (.call 11 (.cons (.v 10) (.cons (.call 20 (.cons (.v 12) (.cons (.v 6) (.nil)))) (.nil)))) (.nil))))) (.cons (.lst (.rep (.lst (.disp (.cons (.call 25 (.cons (.v 13) (.cons (.v 14) (.cons (.v 12) (.nil))))) (.nil)))) (.c (.int 2)))) (.nil))))) (.cons (.ret (.c (.bl false))) (.nil)) (.nil)) (.nil)))) (.nil)) (.cons (.asg (.v 15) (.lst (.rev (.v 1)))) (.cons (.asg (.tup (.cons (.v 13) (.cons (.v 14) (.nil)))) (.call 22 (.cons (.v 15) (.nil)))) (.cons (.asg (.v 16) (.call 24 (.cons (.v 13) (.cons (.v 14) (.nil))))) (.cons (.ret (.call 16 (.cons (.ite (.v 3) (.callK 12 (.nil) (.cons (.v 15) (.nil)) [0]) (.call 12 (.cons (.v 15) (.nil)))) (.cons (.v 16) (.nil))))) (.nil))))))))))⟩
/-- law -/
def d_law : Def := ⟨1, 15, .cons (.for_ (.v 1) (.rng1 (.bi .max2 (.cons (.c (.int 2)) (.cons (.bi .min2 (.cons (.c (.int 3)) (.cons (.bi .len (.cons (.v 0) (.nil))) (.nil)))) (.nil))))) (.cons (.asg (.v 2) (.call 14 (.cons (.call 13 (.cons (.v 0) (.cons (.v 1) (.nil)))) (.nil)))) (.cons (.par [3, 4] (.cons (.and2 (.cmp .eq (.v 1) (.c (.int 0))) (.cmp .eq (.call 15 (.cons (.v 2) (.cons (.c (.int 8)) (.nil)))) (.c (.int 0)))) (.cons (.cmp .eq (.call 15 (.cons (.v 2) (.cons (.c (.int 2)) (.nil)))) (.c (.int 0))) (.nil)))) (.cons (.asg (.v 5) (.ite (.v 3) (.c (.int 40)) (.bin .add (.c (.int 2)) (.call 15 (.cons (.v 2) (.cons (.c (.int 11)) (.nil))))))) (.cons (.asg (.v 6) (.mk (.comp [7] (.v 7) (.rng1 (.ite (.v 3) (.c (.int 2)) (.c (.int 3)))) (.no) (.call 21 (.cons (.v 2) (.cons (.v 5) (.nil))))))) (.cons (.iff (.cmp .eq (.call 15 (.cons (.v 2) (.cons (.c (.int 5)) (.nil)))) (.c (.int 0))) (.cons (.asg (.sub (.v 6) (.c (.int 1))) (.lst (.ofSeq (.idx (.v 6) (.c (.int 0)))))) (.nil)) (.nil)) (.cons (.par [8, 9, 10] (.cons (.mk (.disp (.nil))) (.cons (.lst (.rep (.lst (.disp (.cons (.tup (.cons (.c (.int 0)) (.cons (.c (.int 1)) (.nil)))) (.nil)))) (.v 5))) (.cons (.tup (.cons (.c (.int 0)) (.cons (.c (.int 1)) (.nil)))) (.nil))))) (.cons (.for_ (.v 11) (.seq (.v 6)) (.cons (.asg (.v 12) (.call 26 (.cons (.v 2) (.cons (.v 11) (.cons (.v 4) (.nil)))))) (.cons (.iff (.or2 (.cmp .is (.v 12) (.c .non)) (.and2 (.not (.v 3)) (.not (.call 27 (.cons (.v 2) (.cons (.v 11) (.cons (.v 12) (.cons (.not (.v 4)) (.nil))))))))) (.cons (.ret (.c (.bl false))) (.nil)) (.nil)) (.cons (.par [9, 10, 4] (.cons (.lst (.comp [13, 14] (.tup (.cons (.v 13) (.cons (.v 14) (.nil)))) (.zip2 (.v 9) (.v 11)) (.no) (.call 18 (.cons (.v 13) (.cons (.v 14) (.nil)))))) (.cons (.call 18 (.cons (.v 10) (.cons (.v 12) (.nil)))) (.cons (.not (.v 4)) (.nil))))) (.cons (.expr (.append (.v 8) (.v 12))) (.nil)))))) (.cons (.asg (.v 12) (.call 26 (.cons (.v 2) (.cons (.v 9) (.cons (.v 4) (.nil)))))) (.cons (.iff (.or2 (.cmp .is (.v 12) (.c .non)) (.or2 (.call 19 (.cons (.v 10) (.cons (.v 12) (.nil)))) (.not (.call 16 (.cons (.ite (.v 4) (.call 10 (.cons (.v 9) (.cons (.v 10) (.nil)))) (.callK 10 (.nil) (.cons (.v 10) (.cons (.v 9) (.nil))) [1, 0])) (.cons (.c (.bl true)) (.nil))))))) (.cons (.ret (.c (.bl false))) (.nil)) (.nil)) (.cons (.asg (.v 13) (.idx (.lst (.disp (.cons (.lst (.disp (.cons (.tup (.cons (.c (.int 1)) (.cons (.c (.int 2)) (.nil)))) (.nil)))) (.cons (.lst (.disp (.cons (.tup (.cons (.c (.int 3)) (.cons (.c (.int 1)) (.nil)))) (.nil)))) (.cons (.lst (.disp (.cons (.tup (.cons (.c (.int 0)) (.cons (.c (.int 1)) (.nil)))) (.cons (.tup (.cons (.c (.int 5)) (.cons (.c (.int 1)) (.nil)))) (.nil))))) (.nil)))))) (.call 15 (.cons (.v 2) (.cons (.c (.int 3)) (.nil)))))) (.cons (.iff (.not (.call 16 (.cons (.lst (.disp (.cons (.call 12 (.cons (.v 13) (.nil))) (.cons (.call 10 (.cons (.v 13) (.cons (.tup (.cons (.c (.int 0)) (.cons (.c (.int 1)) (.nil)))) (.nil)))) (.cons (.call 11 (.cons (.v 13) (.cons (.tup (.cons (.c (.int 0)) (.cons (.c (.int 1)) (.nil)))) (.nil)))) (.nil)))))) (.cons (.lst (.disp (.cons (.tup (.cons (.c (.int 0)) (.cons (.c (.int 1)) (.nil)))) (.cons (.c (.bl true)) (.cons (.c .non) (.nil)))))) (.nil))))) (.cons (.ret (.c (.bl false))) (.nil)) (.nil)) (.nil))))))))))))) (.cons (.ret (.c (.bl true))) (.nil))⟩
/-- the defs, by their numbers -/
def G : List Def := [d_lowest, d_shared_denominator, d_is_fraction_value, d_is_list, d_check_numbers, d_check_price, d_tops_of, d_triples_of, d_lack_of, d_first_break, d_is_k_convex, d_k_break, d_least_price, d_law_cell, d_law_box, d_law_take, d_law_same, d_law_low, d_law_plus, d_law_less, d_law_times, d_law_numbers, d_law_needs, d_law_shared, d_law_least, d_law_broken, d_law_row_right, d_law_alike_right, d_law]
def cs : List A := [.int 40, .tup [.int 0, .int 1]]
end K59
end

section
set_option Elab.async false
set_option linter.all false
set_option maxRecDepth 100000
set_option maxHeartbeats 8000000
namespace K59
open PySem PySem.Spec PyProof.Rows L2 Dy
def topS (i : Nat) : Stmt := PySem.Challenge.pw_stockbench_k59_whole_k_convex_rows_added.main.body.getD i (.Pass ⟨0, 0, 0, 0⟩)
def nf : Info := ⟨[("lowest", ["numerator", "denominator"]), ("shared_denominator", ["fractions"]), ("is_fraction_value", ["value"]), ("is_list", ["value"]), ("check_numbers", ["numbers"]), ("check_price", ["price"]), ("tops_of", ["fractions"]), ("triples_of", ["count"]), ("lack_of", ["tops", "triple"]), ("first_break", ["numbers", "price"]), ("is_k_convex", ["numbers", "price"]), ("k_break", ["numbers", "price"]), ("least_price", ["numbers"]), ("_law_cell", ["script", "k"]), ("_law_box", ["great"]), ("_law_take", ["box", "many"]), ("_law_same", ["given", "due"]), ("_law_low", ["top", "bottom"]), ("_law_plus", ["one", "other"]), ("_law_less", ["one", "other"]), ("_law_times", ["one", "other"]), ("_law_numbers", ["box", "many"]), ("_law_needs", ["row"]), ("_law_shared", ["one", "other"]), ("_law_least", ["common", "needs"]), ("_law_broken", ["common", "needs", "price"]), ("_law_row_right", ["box", "row", "named"]), ("_law_alike_right", ["box", "row", "least", "named"]), ("law", ["script"])],
  [(10, 0, ["price", "numbers"], [1, 0]), (11, 0, ["price", "numbers"], [1, 0]), (12, 0, ["numbers"], [0])],
  ["MOST_NUMBERS", "ZERO"], true⟩
abbrev s0 : Stmt := topS 6
theorem sc0 : FnScope ["numerator", "denominator", "common"] ["numerator", "denominator"] (defScope s0) := ⟨rfl, rfl, rfl, by decide +kernel, rfl, by decide +kernel, by decide +kernel⟩
theorem ck0 : chkB nf ⟨["numerator", "denominator", "common"], defScope s0, fun _ => true⟩ d_lowest.body (defBody s0) = true := by decide +kernel
abbrev s1 : Stmt := topS 7
theorem sc1 : FnScope ["fractions", "found", "one"] ["fractions"] (defScope s1) := ⟨rfl, rfl, rfl, by decide +kernel, rfl, by decide +kernel, by decide +kernel⟩
theorem ck1 : chkB nf ⟨["fractions", "found", "one"], defScope s1, fun _ => true⟩ d_shared_denominator.body (defBody s1) = true := by decide +kernel
abbrev s2 : Stmt := topS 8
theorem sc2 : FnScope ["value", "item"] ["value"] (defScope s2) := ⟨rfl, rfl, rfl, by decide +kernel, rfl, by decide +kernel, by decide +kernel⟩
theorem ck2 : chkB nf ⟨["value", "item"], defScope s2, fun _ => true⟩ d_is_fraction_value.body (defBody s2) = true := by decide +kernel
abbrev s3 : Stmt := topS 12
theorem sc3 : FnScope ["value"] ["value"] (defScope s3) := ⟨rfl, rfl, rfl, by decide +kernel, rfl, by decide +kernel, by decide +kernel⟩
theorem ck3 : chkB nf ⟨["value"], defScope s3, fun _ => true⟩ d_is_list.body (defBody s3) = true := by decide +kernel
abbrev s4 : Stmt := topS 15
theorem sc4 : FnScope ["numbers", "number"] ["numbers"] (defScope s4) := ⟨rfl, rfl, rfl, by decide +kernel, rfl, by decide +kernel, by decide +kernel⟩
theorem ck4 : chkB nf ⟨["numbers", "number"], defScope s4, fun _ => true⟩ d_check_numbers.body (defBody s4) = true := by decide +kernel
abbrev s5 : Stmt := topS 16
theorem sc5 : FnScope ["price"] ["price"] (defScope s5) := ⟨rfl, rfl, rfl, by decide +kernel, rfl, by decide +kernel, by decide +kernel⟩
theorem ck5 : chkB nf ⟨["price"], defScope s5, fun _ => true⟩ d_check_price.body (defBody s5) = true := by decide +kernel
abbrev s6 : Stmt := topS 17
theorem sc6 : FnScope ["fractions", "shared", "top", "base"] ["fractions"] (defScope s6) := ⟨rfl, rfl, rfl, by decide +kernel, rfl, by decide +kernel, by decide +kernel⟩
theorem ck6 : chkB nf ⟨["fractions", "shared", "top", "base"], defScope s6, fun _ => true⟩ d_tops_of.body (defBody s6) = true := by decide +kernel
abbrev s7 : Stmt := topS 18
theorem sc7 : FnScope ["count", "found", "first", "middle", "last"] ["count"] (defScope s7) := ⟨rfl, rfl, rfl, by decide +kernel, rfl, by decide +kernel, by decide +kernel⟩
theorem ck7 : chkB nf ⟨["count", "found", "first", "middle", "last"], defScope s7, fun _ => true⟩ d_triples_of.body (defBody s7) = true := by decide +kernel
abbrev s8 : Stmt := topS 19
theorem sc8 : FnScope ["tops", "triple", "first", "middle", "last"] ["tops", "triple"] (defScope s8) := ⟨rfl, rfl, rfl, by decide +kernel, rfl, by decide +kernel, by decide +kernel⟩
theorem ck8 : chkB nf ⟨["tops", "triple", "first", "middle", "last"], defScope s8, fun _ => true⟩ d_lack_of.body (defBody s8) = true := by decide +kernel
abbrev s9 : Stmt := topS 20
theorem sc9 : FnScope ["numbers", "price", "tops", "shared", "triple"] ["numbers", "price"] (defScope s9) := ⟨rfl, rfl, rfl, by decide +kernel, rfl, by decide +kernel, by decide +kernel⟩
theorem ck9 : chkB nf ⟨["numbers", "price", "tops", "shared", "triple"], defScope s9, fun _ => true⟩ d_first_break.body (defBody s9) = true := by decide +kernel
abbrev s10 : Stmt := topS 21
theorem sc10 : FnScope ["numbers", "price"] ["numbers", "price"] (defScope s10) := ⟨rfl, rfl, rfl, by decide +kernel, rfl, by decide +kernel, by decide +kernel⟩
theorem ck10 : chkB nf ⟨["numbers", "price"], defScope s10, fun _ => true⟩ d_is_k_convex.body (defBody s10) = true := by decide +kernel
abbrev s11 : Stmt := topS 22
theorem sc11 : FnScope ["numbers", "price"] ["numbers", "price"] (defScope s11) := ⟨rfl, rfl, rfl, by decide +kernel, rfl, by decide +kernel, by decide +kernel⟩
theorem ck11 : chkB nf ⟨["numbers", "price"], defScope s11, fun _ => true⟩ d_k_break.body (defBody s11) = true := by decide +kernel
abbrev s12 : Stmt := topS 23
theorem sc12 : FnScope ["numbers", "tops", "shared", "found", "triple", "top", "base"] ["numbers"] (defScope s12) := ⟨rfl, rfl, rfl, by decide +kernel, rfl, by decide +kernel, by decide +kernel⟩
theorem ck12 : chkB nf ⟨["numbers", "tops", "shared", "found", "triple", "top", "base"], defScope s12, fun _ => true⟩ d_least_price.body (defBody s12) = true := by decide +kernel
abbrev s13 : Stmt := topS 25
theorem sc13 : FnScope ["script", "k"] ["script", "k"] (defScope s13) := ⟨rfl, rfl, rfl, by decide +kernel, rfl, by decide +kernel, by decide +kernel⟩
theorem ck13 : chkB nf ⟨["script", "k"], defScope s13, fun _ => true⟩ d_law_cell.body (defBody s13) = true := by decide +kernel
abbrev s14 : Stmt := topS 26
theorem sc14 : FnScope ["great"] ["great"] (defScope s14) := ⟨rfl, rfl, rfl, by decide +kernel, rfl, by decide +kernel, by decide +kernel⟩
theorem ck14 : chkB nf ⟨["great"], defScope s14, fun _ => true⟩ d_law_box.body (defBody s14) = true := by decide +kernel
abbrev s15 : Stmt := topS 27
theorem sc15 : FnScope ["box", "many", "digit"] ["box", "many"] (defScope s15) := ⟨rfl, rfl, rfl, by decide +kernel, rfl, by decide +kernel, by decide +kernel⟩
theorem ck15 : chkB nf ⟨["box", "many", "digit"], defScope s15, fun _ => true⟩ d_law_take.body (defBody s15) = true := by decide +kernel
abbrev s16 : Stmt := topS 29
theorem sc16 : FnScope ["given", "due", "key", "k"] ["given", "due"] (defScope s16) := ⟨rfl, rfl, rfl, by decide +kernel, rfl, by decide +kernel, by decide +kernel⟩
theorem ck16 : chkB nf ⟨["given", "due", "key", "k"], defScope s16, fun _ => true⟩ d_law_same.body (defBody s16) = true := by decide +kernel
abbrev s17 : Stmt := topS 30
theorem sc17 : FnScope ["top", "bottom", "one", "other", "turn"] ["top", "bottom"] (defScope s17) := ⟨rfl, rfl, rfl, by decide +kernel, rfl, by decide +kernel, by decide +kernel⟩
theorem ck17 : chkB nf ⟨["top", "bottom", "one", "other", "turn"], defScope s17, fun _ => true⟩ d_law_low.body (defBody s17) = true := by decide +kernel
abbrev s18 : Stmt := topS 31
theorem sc18 : FnScope ["one", "other"] ["one", "other"] (defScope s18) := ⟨rfl, rfl, rfl, by decide +kernel, rfl, by decide +kernel, by decide +kernel⟩
theorem ck18 : chkB nf ⟨["one", "other"], defScope s18, fun _ => true⟩ d_law_plus.body (defBody s18) = true := by decide +kernel
abbrev s19 : Stmt := topS 32
theorem sc19 : FnScope ["one", "other"] ["one", "other"] (defScope s19) := ⟨rfl, rfl, rfl, by decide +kernel, rfl, by decide +kernel, by decide +kernel⟩
theorem ck19 : chkB nf ⟨["one", "other"], defScope s19, fun _ => true⟩ d_law_less.body (defBody s19) = true := by decide +kernel
abbrev s20 : Stmt := topS 33
theorem sc20 : FnScope ["one", "other"] ["one", "other"] (defScope s20) := ⟨rfl, rfl, rfl, by decide +kernel, rfl, by decide +kernel, by decide +kernel⟩
theorem ck20 : chkB nf ⟨["one", "other"], defScope s20, fun _ => true⟩ d_law_times.body (defBody s20) = true := by decide +kernel
abbrev s21 : Stmt := topS 34
theorem sc21 : FnScope ["box", "many", "way", "found", "step", "bottom", "number", "k"] ["box", "many"] (defScope s21) := ⟨rfl, rfl, rfl, by decide +kernel, rfl, by decide +kernel, by decide +kernel⟩
theorem ck21 : chkB nf ⟨["box", "many", "way", "found", "step", "bottom", "number", "k"], defScope s21, fun _ => true⟩ d_law_numbers.body (defBody s21) = true := by decide +kernel
abbrev s22 : Stmt := topS 35
theorem sc22 : FnScope ["row", "common", "found", "top", "bottom", "whole", "i", "j", "rise", "gap", "k"] ["row"] (defScope s22) := ⟨rfl, rfl, rfl, by decide +kernel, rfl, by decide +kernel, by decide +kernel⟩
theorem ck22 : chkB nf ⟨["row", "common", "found", "top", "bottom", "whole", "i", "j", "rise", "gap", "k"], defScope s22, fun _ => true⟩ d_law_needs.body (defBody s22) = true := by decide +kernel
abbrev s23 : Stmt := topS 36
theorem sc23 : FnScope ["one", "other", "turn"] ["one", "other"] (defScope s23) := ⟨rfl, rfl, rfl, by decide +kernel, rfl, by decide +kernel, by decide +kernel⟩
theorem ck23 : chkB nf ⟨["one", "other", "turn"], defScope s23, fun _ => true⟩ d_law_shared.body (defBody s23) = true := by decide +kernel
abbrev s24 : Stmt := topS 37
theorem sc24 : FnScope ["common", "needs", "best", "need", "gap", "places"] ["common", "needs"] (defScope s24) := ⟨rfl, rfl, rfl, by decide +kernel, rfl, by decide +kernel, by decide +kernel⟩
theorem ck24 : chkB nf ⟨["common", "needs", "best", "need", "gap", "places"], defScope s24, fun _ => true⟩ d_law_least.body (defBody s24) = true := by decide +kernel
abbrev s25 : Stmt := topS 38
theorem sc25 : FnScope ["common", "needs", "price", "bad", "need", "gap", "places"] ["common", "needs", "price"] (defScope s25) := ⟨rfl, rfl, rfl, by decide +kernel, rfl, by decide +kernel, by decide +kernel⟩
theorem ck25 : chkB nf ⟨["common", "needs", "price", "bad", "need", "gap", "places"], defScope s25, fun _ => true⟩ d_law_broken.body (defBody s25) = true := by decide +kernel
abbrev s26 : Stmt := topS 39
theorem sc26 : FnScope ["box", "row", "named", "common", "needs", "least", "passed", "prices", "price", "due", "told"] ["box", "row", "named"] (defScope s26) := ⟨rfl, rfl, rfl, by decide +kernel, rfl, by decide +kernel, by decide +kernel⟩
theorem ck26 : chkB nf ⟨["box", "row", "named", "common", "needs", "least", "passed", "prices", "price", "due", "told"], defScope s26, fun _ => true⟩ d_law_row_right.body (defBody s26) = true := by decide +kernel
abbrev s27 : Stmt := topS 40
theorem sc27 : FnScope ["box", "row", "least", "named", "start", "slope", "by", "line", "k", "one", "more", "told", "price", "common", "needs", "back", "due"] ["box", "row", "least", "named"] (defScope s27) := ⟨rfl, rfl, rfl, by decide +kernel, rfl, by decide +kernel, by decide +kernel⟩
theorem ck27 : chkB nf ⟨["box", "row", "least", "named", "start", "slope", "by", "line", "k", "one", "more", "told", "price", "common", "needs", "back", "due"], defScope s27, fun _ => true⟩ d_law_alike_right.body (defBody s27) = true := by decide +kernel
abbrev s28 : Stmt := topS 41
theorem sc28 : FnScope ["script", "k", "box", "great", "named", "many", "rows", "turn", "prices", "both", "sums", "row", "least", "one", "other"] ["script"] (defScope s28) := ⟨rfl, rfl, rfl, by decide +kernel, rfl, by decide +kernel, by decide +kernel⟩
theorem ck28 : chkB nf ⟨["script", "k", "box", "great", "named", "many", "rows", "turn", "prices", "both", "sums", "row", "least", "one", "other"], defScope s28, fun _ => true⟩ d_law.body (defBody s28) = true := by decide +kernel
section
variable {K : PySem.W.Frag} {mg : Str → Option Value} {h : Heap}
theorem tw0 (X : K.In h) (G0 : h.Ns mainGlobals mg) {f : Addr} {od an : Option Addr} {sl : Array (Option Value)} {oc kV dc pm cd ct : Value} (a : PySem.W.nsIn K mainGlobals "lowest" = some (some (.ref f)))
    (l : K.lookup f = some ⟨oc, od, .func (PySem.W.fnOf "lowest" "lowest" (defArgs s0) (defBody s0) (defScope s0) .none kV dc pm an cd ct), sl⟩) (c : PySem.W.codeIn K cd "lowest" = true) (k : PySem.W.keepIn K (.ref f) = true) : Twin K mg nf 0 "lowest" ["numerator", "denominator"] d_lowest := by
  have F := fun_mk (st := s0) l c k
  refine ⟨⟨_, s0, f, _, PySem.W.mg_of X G0 a, F, sc0, F.binds (ps := ["numerator", "denominator"]) (fun _ _ _ _ _ _ us hl => match us, hl with | [_, _], _ => rfl), ?_, rfl, rfl, ck0⟩⟩
  intro np ks pmm hm
  exact absurd hm (no_kw nf 0 (by decide +kernel) np ks pmm)
theorem tw1 (X : K.In h) (G0 : h.Ns mainGlobals mg) {f : Addr} {od an : Option Addr} {sl : Array (Option Value)} {oc kV dc pm cd ct : Value} (a : PySem.W.nsIn K mainGlobals "shared_denominator" = some (some (.ref f)))
    (l : K.lookup f = some ⟨oc, od, .func (PySem.W.fnOf "shared_denominator" "shared_denominator" (defArgs s1) (defBody s1) (defScope s1) .none kV dc pm an cd ct), sl⟩) (c : PySem.W.codeIn K cd "shared_denominator" = true) (k : PySem.W.keepIn K (.ref f) = true) : Twin K mg nf 1 "shared_denominator" ["fractions"] d_shared_denominator := by
  have F := fun_mk (st := s1) l c k
  refine ⟨⟨_, s1, f, _, PySem.W.mg_of X G0 a, F, sc1, F.binds (ps := ["fractions"]) (fun _ _ _ _ _ _ us hl => match us, hl with | [_], _ => rfl), ?_, rfl, rfl, ck1⟩⟩
  intro np ks pmm hm
  exact absurd hm (no_kw nf 1 (by decide +kernel) np ks pmm)
theorem tw2 (X : K.In h) (G0 : h.Ns mainGlobals mg) {f : Addr} {od an : Option Addr} {sl : Array (Option Value)} {oc kV dc pm cd ct : Value} (a : PySem.W.nsIn K mainGlobals "is_fraction_value" = some (some (.ref f)))
    (l : K.lookup f = some ⟨oc, od, .func (PySem.W.fnOf "is_fraction_value" "is_fraction_value" (defArgs s2) (defBody s2) (defScope s2) .none kV dc pm an cd ct), sl⟩) (c : PySem.W.codeIn K cd "is_fraction_value" = true) (k : PySem.W.keepIn K (.ref f) = true) : Twin K mg nf 2 "is_fraction_value" ["value"] d_is_fraction_value := by
  have F := fun_mk (st := s2) l c k
  refine ⟨⟨_, s2, f, _, PySem.W.mg_of X G0 a, F, sc2, F.binds (ps := ["value"]) (fun _ _ _ _ _ _ us hl => match us, hl with | [_], _ => rfl), ?_, rfl, rfl, ck2⟩⟩
  intro np ks pmm hm
  exact absurd hm (no_kw nf 2 (by decide +kernel) np ks pmm)
theorem tw3 (X : K.In h) (G0 : h.Ns mainGlobals mg) {f : Addr} {od an : Option Addr} {sl : Array (Option Value)} {oc kV dc pm cd ct : Value} (a : PySem.W.nsIn K mainGlobals "is_list" = some (some (.ref f)))
    (l : K.lookup f = some ⟨oc, od, .func (PySem.W.fnOf "is_list" "is_list" (defArgs s3) (defBody s3) (defScope s3) .none kV dc pm an cd ct), sl⟩) (c : PySem.W.codeIn K cd "is_list" = true) (k : PySem.W.keepIn K (.ref f) = true) : Twin K mg nf 3 "is_list" ["value"] d_is_list := by
  have F := fun_mk (st := s3) l c k
  refine ⟨⟨_, s3, f, _, PySem.W.mg_of X G0 a, F, sc3, F.binds (ps := ["value"]) (fun _ _ _ _ _ _ us hl => match us, hl with | [_], _ => rfl), ?_, rfl, rfl, ck3⟩⟩
  intro np ks pmm hm
  exact absurd hm (no_kw nf 3 (by decide +kernel) np ks pmm)
theorem tw4 (X : K.In h) (G0 : h.Ns mainGlobals mg) {f : Addr} {od an : Option Addr} {sl : Array (Option Value)} {oc kV dc pm cd ct : Value} (a : PySem.W.nsIn K mainGlobals "check_numbers" = some (some (.ref f)))
    (l : K.lookup f = some ⟨oc, od, .func (PySem.W.fnOf "check_numbers" "check_numbers" (defArgs s4) (defBody s4) (defScope s4) .none kV dc pm an cd ct), sl⟩) (c : PySem.W.codeIn K cd "check_numbers" = true) (k : PySem.W.keepIn K (.ref f) = true) : Twin K mg nf 4 "check_numbers" ["numbers"] d_check_numbers := by
  have F := fun_mk (st := s4) l c k
  refine ⟨⟨_, s4, f, _, PySem.W.mg_of X G0 a, F, sc4, F.binds (ps := ["numbers"]) (fun _ _ _ _ _ _ us hl => match us, hl with | [_], _ => rfl), ?_, rfl, rfl, ck4⟩⟩
  intro np ks pmm hm
  exact absurd hm (no_kw nf 4 (by decide +kernel) np ks pmm)
theorem tw5 (X : K.In h) (G0 : h.Ns mainGlobals mg) {f : Addr} {od an : Option Addr} {sl : Array (Option Value)} {oc kV dc pm cd ct : Value} (a : PySem.W.nsIn K mainGlobals "check_price" = some (some (.ref f)))
    (l : K.lookup f = some ⟨oc, od, .func (PySem.W.fnOf "check_price" "check_price" (defArgs s5) (defBody s5) (defScope s5) .none kV dc pm an cd ct), sl⟩) (c : PySem.W.codeIn K cd "check_price" = true) (k : PySem.W.keepIn K (.ref f) = true) : Twin K mg nf 5 "check_price" ["price"] d_check_price := by
  have F := fun_mk (st := s5) l c k
  refine ⟨⟨_, s5, f, _, PySem.W.mg_of X G0 a, F, sc5, F.binds (ps := ["price"]) (fun _ _ _ _ _ _ us hl => match us, hl with | [_], _ => rfl), ?_, rfl, rfl, ck5⟩⟩
  intro np ks pmm hm
  exact absurd hm (no_kw nf 5 (by decide +kernel) np ks pmm)
theorem tw6 (X : K.In h) (G0 : h.Ns mainGlobals mg) {f : Addr} {od an : Option Addr} {sl : Array (Option Value)} {oc kV dc pm cd ct : Value} (a : PySem.W.nsIn K mainGlobals "tops_of" = some (some (.ref f)))
    (l : K.lookup f = some ⟨oc, od, .func (PySem.W.fnOf "tops_of" "tops_of" (defArgs s6) (defBody s6) (defScope s6) .none kV dc pm an cd ct), sl⟩) (c : PySem.W.codeIn K cd "tops_of" = true) (k : PySem.W.keepIn K (.ref f) = true) : Twin K mg nf 6 "tops_of" ["fractions"] d_tops_of := by
  have F := fun_mk (st := s6) l c k
  refine ⟨⟨_, s6, f, _, PySem.W.mg_of X G0 a, F, sc6, F.binds (ps := ["fractions"]) (fun _ _ _ _ _ _ us hl => match us, hl with | [_], _ => rfl), ?_, rfl, rfl, ck6⟩⟩
  intro np ks pmm hm
  exact absurd hm (no_kw nf 6 (by decide +kernel) np ks pmm)
theorem tw7 (X : K.In h) (G0 : h.Ns mainGlobals mg) {f : Addr} {od an : Option Addr} {sl : Array (Option Value)} {oc kV dc pm cd ct : Value} (a : PySem.W.nsIn K mainGlobals "triples_of" = some (some (.ref f)))
    (l : K.lookup f = some ⟨oc, od, .func (PySem.W.fnOf "triples_of" "triples_of" (defArgs s7) (defBody s7) (defScope s7) .none kV dc pm an cd ct), sl⟩) (c : PySem.W.codeIn K cd "triples_of" = true) (k : PySem.W.keepIn K (.ref f) = true) : Twin K mg nf 7 "triples_of" ["count"] d_triples_of := by
  have F := fun_mk (st := s7) l c k
  refine ⟨⟨_, s7, f, _, PySem.W.mg_of X G0 a, F, sc7, F.binds (ps := ["count"]) (fun _ _ _ _ _ _ us hl => match us, hl with | [_], _ => rfl), ?_, rfl, rfl, ck7⟩⟩
  intro np ks pmm hm
  exact absurd hm (no_kw nf 7 (by decide +kernel) np ks pmm)
theorem tw8 (X : K.In h) (G0 : h.Ns mainGlobals mg) {f : Addr} {od an : Option Addr} {sl : Array (Option Value)} {oc kV dc pm cd ct : Value} (a : PySem.W.nsIn K mainGlobals "lack_of" = some (some (.ref f)))
    (l : K.lookup f = some ⟨oc, od, .func (PySem.W.fnOf "lack_of" "lack_of" (defArgs s8) (defBody s8) (defScope s8) .none kV dc pm an cd ct), sl⟩) (c : PySem.W.codeIn K cd "lack_of" = true) (k : PySem.W.keepIn K (.ref f) = true) : Twin K mg nf 8 "lack_of" ["tops", "triple"] d_lack_of := by
  have F := fun_mk (st := s8) l c k
  refine ⟨⟨_, s8, f, _, PySem.W.mg_of X G0 a, F, sc8, F.binds (ps := ["tops", "triple"]) (fun _ _ _ _ _ _ us hl => match us, hl with | [_, _], _ => rfl), ?_, rfl, rfl, ck8⟩⟩
  intro np ks pmm hm
  exact absurd hm (no_kw nf 8 (by decide +kernel) np ks pmm)
theorem tw9 (X : K.In h) (G0 : h.Ns mainGlobals mg) {f : Addr} {od an : Option Addr} {sl : Array (Option Value)} {oc kV dc pm cd ct : Value} (a : PySem.W.nsIn K mainGlobals "first_break" = some (some (.ref f)))
    (l : K.lookup f = some ⟨oc, od, .func (PySem.W.fnOf "first_break" "first_break" (defArgs s9) (defBody s9) (defScope s9) .none kV dc pm an cd ct), sl⟩) (c : PySem.W.codeIn K cd "first_break" = true) (k : PySem.W.keepIn K (.ref f) = true) : Twin K mg nf 9 "first_break" ["numbers", "price"] d_first_break := by
  have F := fun_mk (st := s9) l c k
  refine ⟨⟨_, s9, f, _, PySem.W.mg_of X G0 a, F, sc9, F.binds (ps := ["numbers", "price"]) (fun _ _ _ _ _ _ us hl => match us, hl with | [_, _], _ => rfl), ?_, rfl, rfl, ck9⟩⟩
  intro np ks pmm hm
  exact absurd hm (no_kw nf 9 (by decide +kernel) np ks pmm)
theorem tw10 (X : K.In h) (G0 : h.Ns mainGlobals mg) {f : Addr} {od an : Option Addr} {sl : Array (Option Value)} {oc kV dc pm cd ct : Value} (a : PySem.W.nsIn K mainGlobals "is_k_convex" = some (some (.ref f)))
    (l : K.lookup f = some ⟨oc, od, .func (PySem.W.fnOf "is_k_convex" "is_k_convex" (defArgs s10) (defBody s10) (defScope s10) .none kV dc pm an cd ct), sl⟩) (c : PySem.W.codeIn K cd "is_k_convex" = true) (k : PySem.W.keepIn K (.ref f) = true) : Twin K mg nf 10 "is_k_convex" ["numbers", "price"] d_is_k_convex := by
  have F := fun_mk (st := s10) l c k
  refine ⟨⟨_, s10, f, _, PySem.W.mg_of X G0 a, F, sc10, F.binds (ps := ["numbers", "price"]) (fun _ _ _ _ _ _ us hl => match us, hl with | [_, _], _ => rfl), ?_, rfl, rfl, ck10⟩⟩
  intro np ks pmm hm
  have hm2 := of_kw nf 10 hm
  have e : kwOf nf 10 = [(0, (["price", "numbers"] : List Str), [1, 0])] := by decide +kernel
  rw [e] at hm2
  simp only [List.mem_cons, List.not_mem_nil, or_false, Prod.mk.injEq] at hm2
  rcases hm2 with ⟨rfl, rfl, rfl⟩
  · exact ⟨rfl, fun s us ws _ hu hw => match us, ws, hu, hw with | [], [_, _], _, _ => .of_eq rfl⟩
theorem tw11 (X : K.In h) (G0 : h.Ns mainGlobals mg) {f : Addr} {od an : Option Addr} {sl : Array (Option Value)} {oc kV dc pm cd ct : Value} (a : PySem.W.nsIn K mainGlobals "k_break" = some (some (.ref f)))
    (l : K.lookup f = some ⟨oc, od, .func (PySem.W.fnOf "k_break" "k_break" (defArgs s11) (defBody s11) (defScope s11) .none kV dc pm an cd ct), sl⟩) (c : PySem.W.codeIn K cd "k_break" = true) (k : PySem.W.keepIn K (.ref f) = true) : Twin K mg nf 11 "k_break" ["numbers", "price"] d_k_break := by
  have F := fun_mk (st := s11) l c k
  refine ⟨⟨_, s11, f, _, PySem.W.mg_of X G0 a, F, sc11, F.binds (ps := ["numbers", "price"]) (fun _ _ _ _ _ _ us hl => match us, hl with | [_, _], _ => rfl), ?_, rfl, rfl, ck11⟩⟩
  intro np ks pmm hm
  have hm2 := of_kw nf 11 hm
  have e : kwOf nf 11 = [(0, (["price", "numbers"] : List Str), [1, 0])] := by decide +kernel
  rw [e] at hm2
  simp only [List.mem_cons, List.not_mem_nil, or_false, Prod.mk.injEq] at hm2
  rcases hm2 with ⟨rfl, rfl, rfl⟩
  · exact ⟨rfl, fun s us ws _ hu hw => match us, ws, hu, hw with | [], [_, _], _, _ => .of_eq rfl⟩
theorem tw12 (X : K.In h) (G0 : h.Ns mainGlobals mg) {f : Addr} {od an : Option Addr} {sl : Array (Option Value)} {oc kV dc pm cd ct : Value} (a : PySem.W.nsIn K mainGlobals "least_price" = some (some (.ref f)))
    (l : K.lookup f = some ⟨oc, od, .func (PySem.W.fnOf "least_price" "least_price" (defArgs s12) (defBody s12) (defScope s12) .none kV dc pm an cd ct), sl⟩) (c : PySem.W.codeIn K cd "least_price" = true) (k : PySem.W.keepIn K (.ref f) = true) : Twin K mg nf 12 "least_price" ["numbers"] d_least_price := by
  have F := fun_mk (st := s12) l c k
  refine ⟨⟨_, s12, f, _, PySem.W.mg_of X G0 a, F, sc12, F.binds (ps := ["numbers"]) (fun _ _ _ _ _ _ us hl => match us, hl with | [_], _ => rfl), ?_, rfl, rfl, ck12⟩⟩
  intro np ks pmm hm
  have hm2 := of_kw nf 12 hm
  have e : kwOf nf 12 = [(0, (["numbers"] : List Str), [0])] := by decide +kernel
  rw [e] at hm2
  simp only [List.mem_cons, List.not_mem_nil, or_false, Prod.mk.injEq] at hm2
  rcases hm2 with ⟨rfl, rfl, rfl⟩
  · exact ⟨rfl, fun s us ws _ hu hw => match us, ws, hu, hw with | [], [_], _, _ => .of_eq rfl⟩
theorem tw13 (X : K.In h) (G0 : h.Ns mainGlobals mg) {f : Addr} {od an : Option Addr} {sl : Array (Option Value)} {oc kV dc pm cd ct : Value} (a : PySem.W.nsIn K mainGlobals "_law_cell" = some (some (.ref f)))
    (l : K.lookup f = some ⟨oc, od, .func (PySem.W.fnOf "_law_cell" "_law_cell" (defArgs s13) (defBody s13) (defScope s13) .none kV dc pm an cd ct), sl⟩) (c : PySem.W.codeIn K cd "_law_cell" = true) (k : PySem.W.keepIn K (.ref f) = true) : Twin K mg nf 13 "_law_cell" ["script", "k"] d_law_cell := by
  have F := fun_mk (st := s13) l c k
  refine ⟨⟨_, s13, f, _, PySem.W.mg_of X G0 a, F, sc13, F.binds (ps := ["script", "k"]) (fun _ _ _ _ _ _ us hl => match us, hl with | [_, _], _ => rfl), ?_, rfl, rfl, ck13⟩⟩
  intro np ks pmm hm
  exact absurd hm (no_kw nf 13 (by decide +kernel) np ks pmm)
theorem tw14 (X : K.In h) (G0 : h.Ns mainGlobals mg) {f : Addr} {od an : Option Addr} {sl : Array (Option Value)} {oc kV dc pm cd ct : Value} (a : PySem.W.nsIn K mainGlobals "_law_box" = some (some (.ref f)))
    (l : K.lookup f = some ⟨oc, od, .func (PySem.W.fnOf "_law_box" "_law_box" (defArgs s14) (defBody s14) (defScope s14) .none kV dc pm an cd ct), sl⟩) (c : PySem.W.codeIn K cd "_law_box" = true) (k : PySem.W.keepIn K (.ref f) = true) : Twin K mg nf 14 "_law_box" ["great"] d_law_box := by
  have F := fun_mk (st := s14) l c k
  refine ⟨⟨_, s14, f, _, PySem.W.mg_of X G0 a, F, sc14, F.binds (ps := ["great"]) (fun _ _ _ _ _ _ us hl => match us, hl with | [_], _ => rfl), ?_, rfl, rfl, ck14⟩⟩
  intro np ks pmm hm
  exact absurd hm (no_kw nf 14 (by decide +kernel) np ks pmm)
theorem tw15 (X : K.In h) (G0 : h.Ns mainGlobals mg) {f : Addr} {od an : Option Addr} {sl : Array (Option Value)} {oc kV dc pm cd ct : Value} (a : PySem.W.nsIn K mainGlobals "_law_take" = some (some (.ref f)))
    (l : K.lookup f = some ⟨oc, od, .func (PySem.W.fnOf "_law_take" "_law_take" (defArgs s15) (defBody s15) (defScope s15) .none kV dc pm an cd ct), sl⟩) (c : PySem.W.codeIn K cd "_law_take" = true) (k : PySem.W.keepIn K (.ref f) = true) : Twin K mg nf 15 "_law_take" ["box", "many"] d_law_take := by
  have F := fun_mk (st := s15) l c k
  refine ⟨⟨_, s15, f, _, PySem.W.mg_of X G0 a, F, sc15, F.binds (ps := ["box", "many"]) (fun _ _ _ _ _ _ us hl => match us, hl with | [_, _], _ => rfl), ?_, rfl, rfl, ck15⟩⟩
  intro np ks pmm hm
  exact absurd hm (no_kw nf 15 (by decide +kernel) np ks pmm)
theorem tw16 (X : K.In h) (G0 : h.Ns mainGlobals mg) {f : Addr} {od an : Option Addr} {sl : Array (Option Value)} {oc kV dc pm cd ct : Value} (a : PySem.W.nsIn K mainGlobals "_law_same" = some (some (.ref f)))
    (l : K.lookup f = some ⟨oc, od, .func (PySem.W.fnOf "_law_same" "_law_same" (defArgs s16) (defBody s16) (defScope s16) .none kV dc pm an cd ct), sl⟩) (c : PySem.W.codeIn K cd "_law_same" = true) (k : PySem.W.keepIn K (.ref f) = true) : Twin K mg nf 16 "_law_same" ["given", "due"] d_law_same := by
  have F := fun_mk (st := s16) l c k
  refine ⟨⟨_, s16, f, _, PySem.W.mg_of X G0 a, F, sc16, F.binds (ps := ["given", "due"]) (fun _ _ _ _ _ _ us hl => match us, hl with | [_, _], _ => rfl), ?_, rfl, rfl, ck16⟩⟩
  intro np ks pmm hm
  exact absurd hm (no_kw nf 16 (by decide +kernel) np ks pmm)
theorem tw17 (X : K.In h) (G0 : h.Ns mainGlobals mg) {f : Addr} {od an : Option Addr} {sl : Array (Option Value)} {oc kV dc pm cd ct : Value} (a : PySem.W.nsIn K mainGlobals "_law_low" = some (some (.ref f)))
    (l : K.lookup f = some ⟨oc, od, .func (PySem.W.fnOf "_law_low" "_law_low" (defArgs s17) (defBody s17) (defScope s17) .none kV dc pm an cd ct), sl⟩) (c : PySem.W.codeIn K cd "_law_low" = true) (k : PySem.W.keepIn K (.ref f) = true) : Twin K mg nf 17 "_law_low" ["top", "bottom"] d_law_low := by
  have F := fun_mk (st := s17) l c k
  refine ⟨⟨_, s17, f, _, PySem.W.mg_of X G0 a, F, sc17, F.binds (ps := ["top", "bottom"]) (fun _ _ _ _ _ _ us hl => match us, hl with | [_, _], _ => rfl), ?_, rfl, rfl, ck17⟩⟩
  intro np ks pmm hm
  exact absurd hm (no_kw nf 17 (by decide +kernel) np ks pmm)
theorem tw18 (X : K.In h) (G0 : h.Ns mainGlobals mg) {f : Addr} {od an : Option Addr} {sl : Array (Option Value)} {oc kV dc pm cd ct : Value} (a : PySem.W.nsIn K mainGlobals "_law_plus" = some (some (.ref f)))
    (l : K.lookup f = some ⟨oc, od, .func (PySem.W.fnOf "_law_plus" "_law_plus" (defArgs s18) (defBody s18) (defScope s18) .none kV dc pm an cd ct), sl⟩) (c : PySem.W.codeIn K cd "_law_plus" = true) (k : PySem.W.keepIn K (.ref f) = true) : Twin K mg nf 18 "_law_plus" ["one", "other"] d_law_plus := by
  have F := fun_mk (st := s18) l c k
  refine ⟨⟨_, s18, f, _, PySem.W.mg_of X G0 a, F, sc18, F.binds (ps := ["one", "other"]) (fun _ _ _ _ _ _ us hl => match us, hl with | [_, _], _ => rfl), ?_, rfl, rfl, ck18⟩⟩
  intro np ks pmm hm
  exact absurd hm (no_kw nf 18 (by decide +kernel) np ks pmm)
theorem tw19 (X : K.In h) (G0 : h.Ns mainGlobals mg) {f : Addr} {od an : Option Addr} {sl : Array (Option Value)} {oc kV dc pm cd ct : Value} (a : PySem.W.nsIn K mainGlobals "_law_less" = some (some (.ref f)))
    (l : K.lookup f = some ⟨oc, od, .func (PySem.W.fnOf "_law_less" "_law_less" (defArgs s19) (defBody s19) (defScope s19) .none kV dc pm an cd ct), sl⟩) (c : PySem.W.codeIn K cd "_law_less" = true) (k : PySem.W.keepIn K (.ref f) = true) : Twin K mg nf 19 "_law_less" ["one", "other"] d_law_less := by
  have F := fun_mk (st := s19) l c k
  refine ⟨⟨_, s19, f, _, PySem.W.mg_of X G0 a, F, sc19, F.binds (ps := ["one", "other"]) (fun _ _ _ _ _ _ us hl => match us, hl with | [_, _], _ => rfl), ?_, rfl, rfl, ck19⟩⟩
  intro np ks pmm hm
  exact absurd hm (no_kw nf 19 (by decide +kernel) np ks pmm)
theorem tw20 (X : K.In h) (G0 : h.Ns mainGlobals mg) {f : Addr} {od an : Option Addr} {sl : Array (Option Value)} {oc kV dc pm cd ct : Value} (a : PySem.W.nsIn K mainGlobals "_law_times" = some (some (.ref f)))
    (l : K.lookup f = some ⟨oc, od, .func (PySem.W.fnOf "_law_times" "_law_times" (defArgs s20) (defBody s20) (defScope s20) .none kV dc pm an cd ct), sl⟩) (c : PySem.W.codeIn K cd "_law_times" = true) (k : PySem.W.keepIn K (.ref f) = true) : Twin K mg nf 20 "_law_times" ["one", "other"] d_law_times := by
  have F := fun_mk (st := s20) l c k
  refine ⟨⟨_, s20, f, _, PySem.W.mg_of X G0 a, F, sc20, F.binds (ps := ["one", "other"]) (fun _ _ _ _ _ _ us hl => match us, hl with | [_, _], _ => rfl), ?_, rfl, rfl, ck20⟩⟩
  intro np ks pmm hm
  exact absurd hm (no_kw nf 20 (by decide +kernel) np ks pmm)
theorem tw21 (X : K.In h) (G0 : h.Ns mainGlobals mg) {f : Addr} {od an : Option Addr} {sl : Array (Option Value)} {oc kV dc pm cd ct : Value} (a : PySem.W.nsIn K mainGlobals "_law_numbers" = some (some (.ref f)))
    (l : K.lookup f = some ⟨oc, od, .func (PySem.W.fnOf "_law_numbers" "_law_numbers" (defArgs s21) (defBody s21) (defScope s21) .none kV dc pm an cd ct), sl⟩) (c : PySem.W.codeIn K cd "_law_numbers" = true) (k : PySem.W.keepIn K (.ref f) = true) : Twin K mg nf 21 "_law_numbers" ["box", "many"] d_law_numbers := by
  have F := fun_mk (st := s21) l c k
  refine ⟨⟨_, s21, f, _, PySem.W.mg_of X G0 a, F, sc21, F.binds (ps := ["box", "many"]) (fun _ _ _ _ _ _ us hl => match us, hl with | [_, _], _ => rfl), ?_, rfl, rfl, ck21⟩⟩
  intro np ks pmm hm
  exact absurd hm (no_kw nf 21 (by decide +kernel) np ks pmm)
theorem tw22 (X : K.In h) (G0 : h.Ns mainGlobals mg) {f : Addr} {od an : Option Addr} {sl : Array (Option Value)} {oc kV dc pm cd ct : Value} (a : PySem.W.nsIn K mainGlobals "_law_needs" = some (some (.ref f)))
    (l : K.lookup f = some ⟨oc, od, .func (PySem.W.fnOf "_law_needs" "_law_needs" (defArgs s22) (defBody s22) (defScope s22) .none kV dc pm an cd ct), sl⟩) (c : PySem.W.codeIn K cd "_law_needs" = true) (k : PySem.W.keepIn K (.ref f) = true) : Twin K mg nf 22 "_law_needs" ["row"] d_law_needs := by
  have F := fun_mk (st := s22) l c k
  refine ⟨⟨_, s22, f, _, PySem.W.mg_of X G0 a, F, sc22, F.binds (ps := ["row"]) (fun _ _ _ _ _ _ us hl => match us, hl with | [_], _ => rfl), ?_, rfl, rfl, ck22⟩⟩
  intro np ks pmm hm
  exact absurd hm (no_kw nf 22 (by decide +kernel) np ks pmm)
theorem tw23 (X : K.In h) (G0 : h.Ns mainGlobals mg) {f : Addr} {od an : Option Addr} {sl : Array (Option Value)} {oc kV dc pm cd ct : Value} (a : PySem.W.nsIn K mainGlobals "_law_shared" = some (some (.ref f)))
    (l : K.lookup f = some ⟨oc, od, .func (PySem.W.fnOf "_law_shared" "_law_shared" (defArgs s23) (defBody s23) (defScope s23) .none kV dc pm an cd ct), sl⟩) (c : PySem.W.codeIn K cd "_law_shared" = true) (k : PySem.W.keepIn K (.ref f) = true) : Twin K mg nf 23 "_law_shared" ["one", "other"] d_law_shared := by
  have F := fun_mk (st := s23) l c k
  refine ⟨⟨_, s23, f, _, PySem.W.mg_of X G0 a, F, sc23, F.binds (ps := ["one", "other"]) (fun _ _ _ _ _ _ us hl => match us, hl with | [_, _], _ => rfl), ?_, rfl, rfl, ck23⟩⟩
  intro np ks pmm hm
  exact absurd hm (no_kw nf 23 (by decide +kernel) np ks pmm)
theorem tw24 (X : K.In h) (G0 : h.Ns mainGlobals mg) {f : Addr} {od an : Option Addr} {sl : Array (Option Value)} {oc kV dc pm cd ct : Value} (a : PySem.W.nsIn K mainGlobals "_law_least" = some (some (.ref f)))
    (l : K.lookup f = some ⟨oc, od, .func (PySem.W.fnOf "_law_least" "_law_least" (defArgs s24) (defBody s24) (defScope s24) .none kV dc pm an cd ct), sl⟩) (c : PySem.W.codeIn K cd "_law_least" = true) (k : PySem.W.keepIn K (.ref f) = true) : Twin K mg nf 24 "_law_least" ["common", "needs"] d_law_least := by
  have F := fun_mk (st := s24) l c k
  refine ⟨⟨_, s24, f, _, PySem.W.mg_of X G0 a, F, sc24, F.binds (ps := ["common", "needs"]) (fun _ _ _ _ _ _ us hl => match us, hl with | [_, _], _ => rfl), ?_, rfl, rfl, ck24⟩⟩
  intro np ks pmm hm
  exact absurd hm (no_kw nf 24 (by decide +kernel) np ks pmm)
theorem tw25 (X : K.In h) (G0 : h.Ns mainGlobals mg) {f : Addr} {od an : Option Addr} {sl : Array (Option Value)} {oc kV dc pm cd ct : Value} (a : PySem.W.nsIn K mainGlobals "_law_broken" = some (some (.ref f)))
    (l : K.lookup f = some ⟨oc, od, .func (PySem.W.fnOf "_law_broken" "_law_broken" (defArgs s25) (defBody s25) (defScope s25) .none kV dc pm an cd ct), sl⟩) (c : PySem.W.codeIn K cd "_law_broken" = true) (k : PySem.W.keepIn K (.ref f) = true) : Twin K mg nf 25 "_law_broken" ["common", "needs", "price"] d_law_broken := by
  have F := fun_mk (st := s25) l c k
  refine ⟨⟨_, s25, f, _, PySem.W.mg_of X G0 a, F, sc25, F.binds (ps := ["common", "needs", "price"]) (fun _ _ _ _ _ _ us hl => match us, hl with | [_, _, _], _ => rfl), ?_, rfl, rfl, ck25⟩⟩
  intro np ks pmm hm
  exact absurd hm (no_kw nf 25 (by decide +kernel) np ks pmm)
theorem tw26 (X : K.In h) (G0 : h.Ns mainGlobals mg) {f : Addr} {od an : Option Addr} {sl : Array (Option Value)} {oc kV dc pm cd ct : Value} (a : PySem.W.nsIn K mainGlobals "_law_row_right" = some (some (.ref f)))
    (l : K.lookup f = some ⟨oc, od, .func (PySem.W.fnOf "_law_row_right" "_law_row_right" (defArgs s26) (defBody s26) (defScope s26) .none kV dc pm an cd ct), sl⟩) (c : PySem.W.codeIn K cd "_law_row_right" = true) (k : PySem.W.keepIn K (.ref f) = true) : Twin K mg nf 26 "_law_row_right" ["box", "row", "named"] d_law_row_right := by
  have F := fun_mk (st := s26) l c k
  refine ⟨⟨_, s26, f, _, PySem.W.mg_of X G0 a, F, sc26, F.binds (ps := ["box", "row", "named"]) (fun _ _ _ _ _ _ us hl => match us, hl with | [_, _, _], _ => rfl), ?_, rfl, rfl, ck26⟩⟩
  intro np ks pmm hm
  exact absurd hm (no_kw nf 26 (by decide +kernel) np ks pmm)
theorem tw27 (X : K.In h) (G0 : h.Ns mainGlobals mg) {f : Addr} {od an : Option Addr} {sl : Array (Option Value)} {oc kV dc pm cd ct : Value} (a : PySem.W.nsIn K mainGlobals "_law_alike_right" = some (some (.ref f)))
    (l : K.lookup f = some ⟨oc, od, .func (PySem.W.fnOf "_law_alike_right" "_law_alike_right" (defArgs s27) (defBody s27) (defScope s27) .none kV dc pm an cd ct), sl⟩) (c : PySem.W.codeIn K cd "_law_alike_right" = true) (k : PySem.W.keepIn K (.ref f) = true) : Twin K mg nf 27 "_law_alike_right" ["box", "row", "least", "named"] d_law_alike_right := by
  have F := fun_mk (st := s27) l c k
  refine ⟨⟨_, s27, f, _, PySem.W.mg_of X G0 a, F, sc27, F.binds (ps := ["box", "row", "least", "named"]) (fun _ _ _ _ _ _ us hl => match us, hl with | [_, _, _, _], _ => rfl), ?_, rfl, rfl, ck27⟩⟩
  intro np ks pmm hm
  exact absurd hm (no_kw nf 27 (by decide +kernel) np ks pmm)
theorem tw28 (X : K.In h) (G0 : h.Ns mainGlobals mg) {f : Addr} {od an : Option Addr} {sl : Array (Option Value)} {oc kV dc pm cd ct : Value} (a : PySem.W.nsIn K mainGlobals "law" = some (some (.ref f)))
    (l : K.lookup f = some ⟨oc, od, .func (PySem.W.fnOf "law" "law" (defArgs s28) (defBody s28) (defScope s28) .none kV dc pm an cd ct), sl⟩) (c : PySem.W.codeIn K cd "law" = true) (k : PySem.W.keepIn K (.ref f) = true) : Twin K mg nf 28 "law" ["script"] d_law := by
  have F := fun_mk (st := s28) l c k
  refine ⟨⟨_, s28, f, _, PySem.W.mg_of X G0 a, F, sc28, F.binds (ps := ["script"]) (fun _ _ _ _ _ _ us hl => match us, hl with | [_], _ => rfl), ?_, rfl, rfl, ck28⟩⟩
  intro np ks pmm hm
  exact absurd hm (no_kw nf 28 (by decide +kernel) np ks pmm)
end
theorem all_mk {l : PySem.W.OpenLaw} {w : World} {K : PySem.W.Frag} {h : Heap} {mg : Str → Option Value} {fa : Addr} (n : Nat) (X : K.In h) (G0 : h.Ns mainGlobals mg) (hfa : mg "law" = some (.ref fa))
    {f0 : Addr} {od0 an0 : Option Addr} {sl0 : Array (Option Value)} {oc0 kV0 dc0 pm0 cd0 ct0 : Value} (a0 : PySem.W.nsIn K mainGlobals "lowest" = some (some (.ref f0))) (l0 : K.lookup f0 = some ⟨oc0, od0, .func (PySem.W.fnOf "lowest" "lowest" (defArgs s0) (defBody s0) (defScope s0) .none kV0 dc0 pm0 an0 cd0 ct0), sl0⟩) (c0 : PySem.W.codeIn K cd0 "lowest" = true) (k0 : PySem.W.keepIn K (.ref f0) = true)
    {f1 : Addr} {od1 an1 : Option Addr} {sl1 : Array (Option Value)} {oc1 kV1 dc1 pm1 cd1 ct1 : Value} (a1 : PySem.W.nsIn K mainGlobals "shared_denominator" = some (some (.ref f1))) (l1 : K.lookup f1 = some ⟨oc1, od1, .func (PySem.W.fnOf "shared_denominator" "shared_denominator" (defArgs s1) (defBody s1) (defScope s1) .none kV1 dc1 pm1 an1 cd1 ct1), sl1⟩) (c1 : PySem.W.codeIn K cd1 "shared_denominator" = true) (k1 : PySem.W.keepIn K (.ref f1) = true)
    {f2 : Addr} {od2 an2 : Option Addr} {sl2 : Array (Option Value)} {oc2 kV2 dc2 pm2 cd2 ct2 : Value} (a2 : PySem.W.nsIn K mainGlobals "is_fraction_value" = some (some (.ref f2))) (l2 : K.lookup f2 = some ⟨oc2, od2, .func (PySem.W.fnOf "is_fraction_value" "is_fraction_value" (defArgs s2) (defBody s2) (defScope s2) .none kV2 dc2 pm2 an2 cd2 ct2), sl2⟩) (c2 : PySem.W.codeIn K cd2 "is_fraction_value" = true) (k2 : PySem.W.keepIn K (.ref f2) = true)
    {f3 : Addr} {od3 an3 : Option Addr} {sl3 : Array (Option Value)} {oc3 kV3 dc3 pm3 cd3 ct3 : Value} (a3 : PySem.W.nsIn K mainGlobals "is_list" = some (some (.ref f3))) (l3 : K.lookup f3 = some ⟨oc3, od3, .func (PySem.W.fnOf "is_list" "is_list" (defArgs s3) (defBody s3) (defScope s3) .none kV3 dc3 pm3 an3 cd3 ct3), sl3⟩) (c3 : PySem.W.codeIn K cd3 "is_list" = true) (k3 : PySem.W.keepIn K (.ref f3) = true)
    {f4 : Addr} {od4 an4 : Option Addr} {sl4 : Array (Option Value)} {oc4 kV4 dc4 pm4 cd4 ct4 : Value} (a4 : PySem.W.nsIn K mainGlobals "check_numbers" = some (some (.ref f4))) (l4 : K.lookup f4 = some ⟨oc4, od4, .func (PySem.W.fnOf "check_numbers" "check_numbers" (defArgs s4) (defBody s4) (defScope s4) .none kV4 dc4 pm4 an4 cd4 ct4), sl4⟩) (c4 : PySem.W.codeIn K cd4 "check_numbers" = true) (k4 : PySem.W.keepIn K (.ref f4) = true)
    {f5 : Addr} {od5 an5 : Option Addr} {sl5 : Array (Option Value)} {oc5 kV5 dc5 pm5 cd5 ct5 : Value} (a5 : PySem.W.nsIn K mainGlobals "check_price" = some (some (.ref f5))) (l5 : K.lookup f5 = some ⟨oc5, od5, .func (PySem.W.fnOf "check_price" "check_price" (defArgs s5) (defBody s5) (defScope s5) .none kV5 dc5 pm5 an5 cd5 ct5), sl5⟩) (c5 : PySem.W.codeIn K cd5 "check_price" = true) (k5 : PySem.W.keepIn K (.ref f5) = true)
    {f6 : Addr} {od6 an6 : Option Addr} {sl6 : Array (Option Value)} {oc6 kV6 dc6 pm6 cd6 ct6 : Value} (a6 : PySem.W.nsIn K mainGlobals "tops_of" = some (some (.ref f6))) (l6 : K.lookup f6 = some ⟨oc6, od6, .func (PySem.W.fnOf "tops_of" "tops_of" (defArgs s6) (defBody s6) (defScope s6) .none kV6 dc6 pm6 an6 cd6 ct6), sl6⟩) (c6 : PySem.W.codeIn K cd6 "tops_of" = true) (k6 : PySem.W.keepIn K (.ref f6) = true)
    {f7 : Addr} {od7 an7 : Option Addr} {sl7 : Array (Option Value)} {oc7 kV7 dc7 pm7 cd7 ct7 : Value} (a7 : PySem.W.nsIn K mainGlobals "triples_of" = some (some (.ref f7))) (l7 : K.lookup f7 = some ⟨oc7, od7, .func (PySem.W.fnOf "triples_of" "triples_of" (defArgs s7) (defBody s7) (defScope s7) .none kV7 dc7 pm7 an7 cd7 ct7), sl7⟩) (c7 : PySem.W.codeIn K cd7 "triples_of" = true) (k7 : PySem.W.keepIn K (.ref f7) = true)
    {f8 : Addr} {od8 an8 : Option Addr} {sl8 : Array (Option Value)} {oc8 kV8 dc8 pm8 cd8 ct8 : Value} (a8 : PySem.W.nsIn K mainGlobals "lack_of" = some (some (.ref f8))) (l8 : K.lookup f8 = some ⟨oc8, od8, .func (PySem.W.fnOf "lack_of" "lack_of" (defArgs s8) (defBody s8) (defScope s8) .none kV8 dc8 pm8 an8 cd8 ct8), sl8⟩) (c8 : PySem.W.codeIn K cd8 "lack_of" = true) (k8 : PySem.W.keepIn K (.ref f8) = true)
    {f9 : Addr} {od9 an9 : Option Addr} {sl9 : Array (Option Value)} {oc9 kV9 dc9 pm9 cd9 ct9 : Value} (a9 : PySem.W.nsIn K mainGlobals "first_break" = some (some (.ref f9))) (l9 : K.lookup f9 = some ⟨oc9, od9, .func (PySem.W.fnOf "first_break" "first_break" (defArgs s9) (defBody s9) (defScope s9) .none kV9 dc9 pm9 an9 cd9 ct9), sl9⟩) (c9 : PySem.W.codeIn K cd9 "first_break" = true) (k9 : PySem.W.keepIn K (.ref f9) = true)
    {f10 : Addr} {od10 an10 : Option Addr} {sl10 : Array (Option Value)} {oc10 kV10 dc10 pm10 cd10 ct10 : Value} (a10 : PySem.W.nsIn K mainGlobals "is_k_convex" = some (some (.ref f10))) (l10 : K.lookup f10 = some ⟨oc10, od10, .func (PySem.W.fnOf "is_k_convex" "is_k_convex" (defArgs s10) (defBody s10) (defScope s10) .none kV10 dc10 pm10 an10 cd10 ct10), sl10⟩) (c10 : PySem.W.codeIn K cd10 "is_k_convex" = true) (k10 : PySem.W.keepIn K (.ref f10) = true)
    {f11 : Addr} {od11 an11 : Option Addr} {sl11 : Array (Option Value)} {oc11 kV11 dc11 pm11 cd11 ct11 : Value} (a11 : PySem.W.nsIn K mainGlobals "k_break" = some (some (.ref f11))) (l11 : K.lookup f11 = some ⟨oc11, od11, .func (PySem.W.fnOf "k_break" "k_break" (defArgs s11) (defBody s11) (defScope s11) .none kV11 dc11 pm11 an11 cd11 ct11), sl11⟩) (c11 : PySem.W.codeIn K cd11 "k_break" = true) (k11 : PySem.W.keepIn K (.ref f11) = true)
    {f12 : Addr} {od12 an12 : Option Addr} {sl12 : Array (Option Value)} {oc12 kV12 dc12 pm12 cd12 ct12 : Value} (a12 : PySem.W.nsIn K mainGlobals "least_price" = some (some (.ref f12))) (l12 : K.lookup f12 = some ⟨oc12, od12, .func (PySem.W.fnOf "least_price" "least_price" (defArgs s12) (defBody s12) (defScope s12) .none kV12 dc12 pm12 an12 cd12 ct12), sl12⟩) (c12 : PySem.W.codeIn K cd12 "least_price" = true) (k12 : PySem.W.keepIn K (.ref f12) = true)
    {f13 : Addr} {od13 an13 : Option Addr} {sl13 : Array (Option Value)} {oc13 kV13 dc13 pm13 cd13 ct13 : Value} (a13 : PySem.W.nsIn K mainGlobals "_law_cell" = some (some (.ref f13))) (l13 : K.lookup f13 = some ⟨oc13, od13, .func (PySem.W.fnOf "_law_cell" "_law_cell" (defArgs s13) (defBody s13) (defScope s13) .none kV13 dc13 pm13 an13 cd13 ct13), sl13⟩) (c13 : PySem.W.codeIn K cd13 "_law_cell" = true) (k13 : PySem.W.keepIn K (.ref f13) = true)
    {f14 : Addr} {od14 an14 : Option Addr} {sl14 : Array (Option Value)} {oc14 kV14 dc14 pm14 cd14 ct14 : Value} (a14 : PySem.W.nsIn K mainGlobals "_law_box" = some (some (.ref f14))) (l14 : K.lookup f14 = some ⟨oc14, od14, .func (PySem.W.fnOf "_law_box" "_law_box" (defArgs s14) (defBody s14) (defScope s14) .none kV14 dc14 pm14 an14 cd14 ct14), sl14⟩) (c14 : PySem.W.codeIn K cd14 "_law_box" = true) (k14 : PySem.W.keepIn K (.ref f14) = true)
    {f15 : Addr} {od15 an15 : Option Addr} {sl15 : Array (Option Value)} {oc15 kV15 dc15 pm15 cd15 ct15 : Value} (a15 : PySem.W.nsIn K mainGlobals "_law_take" = some (some (.ref f15))) (l15 : K.lookup f15 = some ⟨oc15, od15, .func (PySem.W.fnOf "_law_take" "_law_take" (defArgs s15) (defBody s15) (defScope s15) .none kV15 dc15 pm15 an15 cd15 ct15), sl15⟩) (c15 : PySem.W.codeIn K cd15 "_law_take" = true) (k15 : PySem.W.keepIn K (.ref f15) = true)
    {f16 : Addr} {od16 an16 : Option Addr} {sl16 : Array (Option Value)} {oc16 kV16 dc16 pm16 cd16 ct16 : Value} (a16 : PySem.W.nsIn K mainGlobals "_law_same" = some (some (.ref f16))) (l16 : K.lookup f16 = some ⟨oc16, od16, .func (PySem.W.fnOf "_law_same" "_law_same" (defArgs s16) (defBody s16) (defScope s16) .none kV16 dc16 pm16 an16 cd16 ct16), sl16⟩) (c16 : PySem.W.codeIn K cd16 "_law_same" = true) (k16 : PySem.W.keepIn K (.ref f16) = true)
    {f17 : Addr} {od17 an17 : Option Addr} {sl17 : Array (Option Value)} {oc17 kV17 dc17 pm17 cd17 ct17 : Value} (a17 : PySem.W.nsIn K mainGlobals "_law_low" = some (some (.ref f17))) (l17 : K.lookup f17 = some ⟨oc17, od17, .func (PySem.W.fnOf "_law_low" "_law_low" (defArgs s17) (defBody s17) (defScope s17) .none kV17 dc17 pm17 an17 cd17 ct17), sl17⟩) (c17 : PySem.W.codeIn K cd17 "_law_low" = true) (k17 : PySem.W.keepIn K (.ref f17) = true)
    {f18 : Addr} {od18 an18 : Option Addr} {sl18 : Array (Option Value)} {oc18 kV18 dc18 pm18 cd18 ct18 : Value} (a18 : PySem.W.nsIn K mainGlobals "_law_plus" = some (some (.ref f18))) (l18 : K.lookup f18 = some ⟨oc18, od18, .func (PySem.W.fnOf "_law_plus" "_law_plus" (defArgs s18) (defBody s18) (defScope s18) .none kV18 dc18 pm18 an18 cd18 ct18), sl18⟩) (c18 : PySem.W.codeIn K cd18 "_law_plus" = true) (k18 : PySem.W.keepIn K (.ref f18) = true)
    {f19 : Addr} {od19 an19 : Option Addr} {sl19 : Array (Option Value)} {oc19 kV19 dc19 pm19 cd19 ct19 : Value} (a19 : PySem.W.nsIn K mainGlobals "_law_less" = some (some (.ref f19))) (l19 : K.lookup f19 = some ⟨oc19, od19, .func (PySem.W.fnOf "_law_less" "_law_less" (defArgs s19) (defBody s19) (defScope s19) .none kV19 dc19 pm19 an19 cd19 ct19), sl19⟩) (c19 : PySem.W.codeIn K cd19 "_law_less" = true) (k19 : PySem.W.keepIn K (.ref f19) = true)
    {f20 : Addr} {od20 an20 : Option Addr} {sl20 : Array (Option Value)} {oc20 kV20 dc20 pm20 cd20 ct20 : Value} (a20 : PySem.W.nsIn K mainGlobals "_law_times" = some (some (.ref f20))) (l20 : K.lookup f20 = some ⟨oc20, od20, .func (PySem.W.fnOf "_law_times" "_law_times" (defArgs s20) (defBody s20) (defScope s20) .none kV20 dc20 pm20 an20 cd20 ct20), sl20⟩) (c20 : PySem.W.codeIn K cd20 "_law_times" = true) (k20 : PySem.W.keepIn K (.ref f20) = true)
    {f21 : Addr} {od21 an21 : Option Addr} {sl21 : Array (Option Value)} {oc21 kV21 dc21 pm21 cd21 ct21 : Value} (a21 : PySem.W.nsIn K mainGlobals "_law_numbers" = some (some (.ref f21))) (l21 : K.lookup f21 = some ⟨oc21, od21, .func (PySem.W.fnOf "_law_numbers" "_law_numbers" (defArgs s21) (defBody s21) (defScope s21) .none kV21 dc21 pm21 an21 cd21 ct21), sl21⟩) (c21 : PySem.W.codeIn K cd21 "_law_numbers" = true) (k21 : PySem.W.keepIn K (.ref f21) = true)
    {f22 : Addr} {od22 an22 : Option Addr} {sl22 : Array (Option Value)} {oc22 kV22 dc22 pm22 cd22 ct22 : Value} (a22 : PySem.W.nsIn K mainGlobals "_law_needs" = some (some (.ref f22))) (l22 : K.lookup f22 = some ⟨oc22, od22, .func (PySem.W.fnOf "_law_needs" "_law_needs" (defArgs s22) (defBody s22) (defScope s22) .none kV22 dc22 pm22 an22 cd22 ct22), sl22⟩) (c22 : PySem.W.codeIn K cd22 "_law_needs" = true) (k22 : PySem.W.keepIn K (.ref f22) = true)
    {f23 : Addr} {od23 an23 : Option Addr} {sl23 : Array (Option Value)} {oc23 kV23 dc23 pm23 cd23 ct23 : Value} (a23 : PySem.W.nsIn K mainGlobals "_law_shared" = some (some (.ref f23))) (l23 : K.lookup f23 = some ⟨oc23, od23, .func (PySem.W.fnOf "_law_shared" "_law_shared" (defArgs s23) (defBody s23) (defScope s23) .none kV23 dc23 pm23 an23 cd23 ct23), sl23⟩) (c23 : PySem.W.codeIn K cd23 "_law_shared" = true) (k23 : PySem.W.keepIn K (.ref f23) = true)
    {f24 : Addr} {od24 an24 : Option Addr} {sl24 : Array (Option Value)} {oc24 kV24 dc24 pm24 cd24 ct24 : Value} (a24 : PySem.W.nsIn K mainGlobals "_law_least" = some (some (.ref f24))) (l24 : K.lookup f24 = some ⟨oc24, od24, .func (PySem.W.fnOf "_law_least" "_law_least" (defArgs s24) (defBody s24) (defScope s24) .none kV24 dc24 pm24 an24 cd24 ct24), sl24⟩) (c24 : PySem.W.codeIn K cd24 "_law_least" = true) (k24 : PySem.W.keepIn K (.ref f24) = true)
    {f25 : Addr} {od25 an25 : Option Addr} {sl25 : Array (Option Value)} {oc25 kV25 dc25 pm25 cd25 ct25 : Value} (a25 : PySem.W.nsIn K mainGlobals "_law_broken" = some (some (.ref f25))) (l25 : K.lookup f25 = some ⟨oc25, od25, .func (PySem.W.fnOf "_law_broken" "_law_broken" (defArgs s25) (defBody s25) (defScope s25) .none kV25 dc25 pm25 an25 cd25 ct25), sl25⟩) (c25 : PySem.W.codeIn K cd25 "_law_broken" = true) (k25 : PySem.W.keepIn K (.ref f25) = true)
    {f26 : Addr} {od26 an26 : Option Addr} {sl26 : Array (Option Value)} {oc26 kV26 dc26 pm26 cd26 ct26 : Value} (a26 : PySem.W.nsIn K mainGlobals "_law_row_right" = some (some (.ref f26))) (l26 : K.lookup f26 = some ⟨oc26, od26, .func (PySem.W.fnOf "_law_row_right" "_law_row_right" (defArgs s26) (defBody s26) (defScope s26) .none kV26 dc26 pm26 an26 cd26 ct26), sl26⟩) (c26 : PySem.W.codeIn K cd26 "_law_row_right" = true) (k26 : PySem.W.keepIn K (.ref f26) = true)
    {f27 : Addr} {od27 an27 : Option Addr} {sl27 : Array (Option Value)} {oc27 kV27 dc27 pm27 cd27 ct27 : Value} (a27 : PySem.W.nsIn K mainGlobals "_law_alike_right" = some (some (.ref f27))) (l27 : K.lookup f27 = some ⟨oc27, od27, .func (PySem.W.fnOf "_law_alike_right" "_law_alike_right" (defArgs s27) (defBody s27) (defScope s27) .none kV27 dc27 pm27 an27 cd27 ct27), sl27⟩) (c27 : PySem.W.codeIn K cd27 "_law_alike_right" = true) (k27 : PySem.W.keepIn K (.ref f27) = true)
    {f28 : Addr} {od28 an28 : Option Addr} {sl28 : Array (Option Value)} {oc28 kV28 dc28 pm28 cd28 ct28 : Value} (a28 : PySem.W.nsIn K mainGlobals "law" = some (some (.ref f28))) (l28 : K.lookup f28 = some ⟨oc28, od28, .func (PySem.W.fnOf "law" "law" (defArgs s28) (defBody s28) (defScope s28) .none kV28 dc28 pm28 an28 cd28 ct28), sl28⟩) (c28 : PySem.W.codeIn K cd28 "law" = true) (k28 : PySem.W.keepIn K (.ref f28) = true)
    (z0 : PySem.W.nsIn K mainGlobals "len" = some none)
    (z1 : PySem.W.nsIn K mainGlobals "abs" = some none)
    (z2 : PySem.W.nsIn K mainGlobals "max" = some none)
    (z3 : PySem.W.nsIn K mainGlobals "min" = some none)
    (z4 : PySem.W.nsIn K mainGlobals "sum" = some none)
    (z5 : PySem.W.nsIn K mainGlobals "all" = some none)
    (z6 : PySem.W.nsIn K mainGlobals "any" = some none)
    (z7 : PySem.W.nsIn K mainGlobals "int" = some none)
    (z8 : PySem.W.nsIn K mainGlobals "bool" = some none)
    (z9 : PySem.W.nsIn K mainGlobals "tuple" = some none)
    (z10 : PySem.W.nsIn K mainGlobals "list" = some none)
    (z11 : PySem.W.nsIn K mainGlobals "str" = some none)
    (z12 : PySem.W.nsIn K mainGlobals "dict" = some none)
    (z13 : PySem.W.nsIn K mainGlobals "isinstance" = some none)
    (z14 : PySem.W.nsIn K mainGlobals "range" = some none)
    (z15 : PySem.W.nsIn K mainGlobals "zip" = some none)
    (z16 : PySem.W.nsIn K mainGlobals "enumerate" = some none)
    (zg : PySem.W.nsIn K mainGlobals "gcd" = some (some (.builtin "math.gcd")))
    {ct0_t : Tok} (ca0 : PySem.W.nsIn K mainGlobals "MOST_NUMBERS" = some (some (.int 40 ct0_t)))
    {cf1 : Addr} {ct1_d : Option Addr} {ct1_n : Nat} {ct1_s : Array (Option Value)} {ct1_t0 ct1_t1 : Tok} (ca1 : PySem.W.nsIn K mainGlobals "ZERO" = some (some (.ref cf1))) (cl1 : K.lookup cf1 = some ⟨.type "tuple", ct1_d, .seq #[.int 0 ct1_t0, .int 1 ct1_t1] ct1_n, ct1_s⟩)
    (hlaw : ∀ ns : List Int, ns.length ≤ 63 → ∃ s, callF G cs (n + 1) 28 [.ro (ns.map A.int)] [] = .ok (.bl true) s) :
    ∃ fd : FuncData, (∀ (s : Shared) (v : Value), BindsTo s fd ⟨[v], []⟩ [("script", v)]) ∧ ∀ base : Heap, K.In base → base.Ns mainGlobals mg → FnOk l.prog w K mg base (L2.CX l.prog w) (n + 1) fa fd ["script"] (Dy.spLaw K) := by
  have e := hfa.symm.trans (PySem.W.mg_of X G0 a28)
  cases e
  refine ⟨PySem.W.fnOf "law" "law" (defArgs s28) (defBody s28) (defScope s28) .none kV28 dc28 pm28 an28 cd28 ct28, fun s v => .of_eq rfl, fun base _ _ => ?_⟩
  have T : ∀ (j : Nat) (x : Str) (ps : List Str), nf.fns[j]? = some (x, ps) → ∃ d, G[j]? = some d ∧ Twin K mg nf j x ps d := by
    intro j x ps hj
    match j, hj with
    | 0, hj => cases hj; exact ⟨d_lowest, rfl, tw0 X G0 a0 l0 c0 k0⟩
    | 1, hj => cases hj; exact ⟨d_shared_denominator, rfl, tw1 X G0 a1 l1 c1 k1⟩
    | 2, hj => cases hj; exact ⟨d_is_fraction_value, rfl, tw2 X G0 a2 l2 c2 k2⟩
    | 3, hj => cases hj; exact ⟨d_is_list, rfl, tw3 X G0 a3 l3 c3 k3⟩
    | 4, hj => cases hj; exact ⟨d_check_numbers, rfl, tw4 X G0 a4 l4 c4 k4⟩
    | 5, hj => cases hj; exact ⟨d_check_price, rfl, tw5 X G0 a5 l5 c5 k5⟩
    | 6, hj => cases hj; exact ⟨d_tops_of, rfl, tw6 X G0 a6 l6 c6 k6⟩
    | 7, hj => cases hj; exact ⟨d_triples_of, rfl, tw7 X G0 a7 l7 c7 k7⟩
    | 8, hj => cases hj; exact ⟨d_lack_of, rfl, tw8 X G0 a8 l8 c8 k8⟩
    | 9, hj => cases hj; exact ⟨d_first_break, rfl, tw9 X G0 a9 l9 c9 k9⟩
    | 10, hj => cases hj; exact ⟨d_is_k_convex, rfl, tw10 X G0 a10 l10 c10 k10⟩
    | 11, hj => cases hj; exact ⟨d_k_break, rfl, tw11 X G0 a11 l11 c11 k11⟩
    | 12, hj => cases hj; exact ⟨d_least_price, rfl, tw12 X G0 a12 l12 c12 k12⟩
    | 13, hj => cases hj; exact ⟨d_law_cell, rfl, tw13 X G0 a13 l13 c13 k13⟩
    | 14, hj => cases hj; exact ⟨d_law_box, rfl, tw14 X G0 a14 l14 c14 k14⟩
    | 15, hj => cases hj; exact ⟨d_law_take, rfl, tw15 X G0 a15 l15 c15 k15⟩
    | 16, hj => cases hj; exact ⟨d_law_same, rfl, tw16 X G0 a16 l16 c16 k16⟩
    | 17, hj => cases hj; exact ⟨d_law_low, rfl, tw17 X G0 a17 l17 c17 k17⟩
    | 18, hj => cases hj; exact ⟨d_law_plus, rfl, tw18 X G0 a18 l18 c18 k18⟩
    | 19, hj => cases hj; exact ⟨d_law_less, rfl, tw19 X G0 a19 l19 c19 k19⟩
    | 20, hj => cases hj; exact ⟨d_law_times, rfl, tw20 X G0 a20 l20 c20 k20⟩
    | 21, hj => cases hj; exact ⟨d_law_numbers, rfl, tw21 X G0 a21 l21 c21 k21⟩
    | 22, hj => cases hj; exact ⟨d_law_needs, rfl, tw22 X G0 a22 l22 c22 k22⟩
    | 23, hj => cases hj; exact ⟨d_law_shared, rfl, tw23 X G0 a23 l23 c23 k23⟩
    | 24, hj => cases hj; exact ⟨d_law_least, rfl, tw24 X G0 a24 l24 c24 k24⟩
    | 25, hj => cases hj; exact ⟨d_law_broken, rfl, tw25 X G0 a25 l25 c25 k25⟩
    | 26, hj => cases hj; exact ⟨d_law_row_right, rfl, tw26 X G0 a26 l26 c26 k26⟩
    | 27, hj => cases hj; exact ⟨d_law_alike_right, rfl, tw27 X G0 a27 l27 c27 k27⟩
    | 28, hj => cases hj; exact ⟨d_law, rfl, tw28 X G0 a28 l28 c28 k28⟩
    | j + 29, hj => cases hj
  have gs : ∀ (j : Nat) (x : Str), nf.gs[j]? = some x → ∃ (u : Value) (v : V) (c : A), mg x = some u ∧ RelV v u ∧ cs[j]? = some c ∧ ∀ (R : Hp) (m : List Addr), Rep K R m c v := by
    intro j x hj
    match j, hj with
    | 0, hj => cases hj; exact ⟨_, .int 40, _, PySem.W.mg_of X G0 ca0, ⟨_, rfl⟩, rfl, fun R m => .int _⟩
    | 1, hj => cases hj; exact ⟨_, .ref cf1, _, PySem.W.mg_of X G0 ca1, rfl, rfl, fun R m => .tup (vs := [.int 0, .int 1]) (.inr ⟨_, _, _, cl1, rfl, rfl, (show 2 ≤ sizeLine by decide), .cons ⟨_, rfl⟩ (.cons ⟨_, rfl⟩ (.nil))⟩) (.cons (.int _) (.cons (.int _) (.nil)))⟩
    | j + 2, hj => cases hj
  have bl : ∀ x ∈ bnames, mg x = none := by
    intro x hx
    simp only [bnames, List.mem_cons, List.not_mem_nil, or_false] at hx
    rcases hx with rfl | rfl | rfl | rfl | rfl | rfl | rfl | rfl | rfl | rfl | rfl | rfl | rfl | rfl | rfl | rfl | rfl
    · exact PySem.W.mg_none_of X G0 z0
    · exact PySem.W.mg_none_of X G0 z1
    · exact PySem.W.mg_none_of X G0 z2
    · exact PySem.W.mg_none_of X G0 z3
    · exact PySem.W.mg_none_of X G0 z4
    · exact PySem.W.mg_none_of X G0 z5
    · exact PySem.W.mg_none_of X G0 z6
    · exact PySem.W.mg_none_of X G0 z7
    · exact PySem.W.mg_none_of X G0 z8
    · exact PySem.W.mg_none_of X G0 z9
    · exact PySem.W.mg_none_of X G0 z10
    · exact PySem.W.mg_none_of X G0 z11
    · exact PySem.W.mg_none_of X G0 z12
    · exact PySem.W.mg_none_of X G0 z13
    · exact PySem.W.mg_none_of X G0 z14
    · exact PySem.W.mg_none_of X G0 z15
    · exact PySem.W.mg_none_of X G0 z16
  have gc : nf.gcd = true → mg "gcd" = some (.builtin "math.gcd") := fun _ => PySem.W.mg_of X G0 zg
  have FF := all_facts (P := l.prog) (w := w) (base := base) (ca := []) T gs bl gc n
  exact (fn_ok (ca := []) FF (show G[28]? = some d_law from rfl) (fun_mk (st := s28) l28 c28 k28) sc28 rfl ck28).imp (law_sp hlaw)
end K59
end

section
set_option Elab.async false
set_option linter.all false
namespace K59
open PySem Dy
/-! ### the plain law -/
abbrev T3 := Nat × Nat × Nat
/-- all triples of places, in the order of the program -/
def tripK (n i j : Nat) : List T3 := (List.range (n - (j + 1))).map fun c => (i, j, j + 1 + c)
def tripJ (n i : Nat) : List T3 := (List.range (n - (i + 1))).flatMap fun a => tripK n i (i + 1 + a)
def trip (n : Nat) : List T3 := (List.range n).flatMap fun i => tripJ n i
theorem mem_trip {n : Nat} {t : T3} (h : t ∈ trip n) : t.1 < t.2.1 ∧ t.2.1 < t.2.2 ∧ t.2.2 < n := by
  simp only [trip, tripJ, tripK, List.mem_flatMap, List.mem_map, List.mem_range] at h
  obtain ⟨i, hi, a, ha, c, hc, rfl⟩ := h
  simp only
  omega
def gap (t : T3) : Int := (t.2.1 : Int) - (t.1 : Int)
def need (ws : List Int) (t : T3) : Int := (ws.getD t.2.1 0 - ws.getD t.1 0) * ((t.2.2 : Int) - (t.2.1 : Int)) - (ws.getD t.2.2 0 - ws.getD t.2.1 0) * ((t.2.1 : Int) - (t.1 : Int))
theorem gap_pos {n t} (h : t ∈ trip n) : 0 < gap t := by
  have := mem_trip h
  simp only [gap]
  omega
def bestS (ws : List Int) (b : F) (t : T3) : F := if b.1 * gap t < need ws t * b.2 then (need ws t, gap t) else b
def best (ws : List Int) (ts : List T3) : F := ts.foldl (bestS ws) (0, 1)
/-- the values of fractions, over n -/
def vals (n : Int) (fs : List F) : List Int := fs.map fun p => p.1 * (n / p.2)
def Div (n : Int) (fs : List F) : Prop := 0 < n ∧ ∀ p ∈ fs, 0 < p.2 ∧ p.2 ∣ n
def lcmS (m : Int) (p : F) : Int := m * p.2 / ((Nat.gcd m.natAbs p.2.natAbs : Nat) : Int)
def lcmL (m : Int) (fs : List F) : Int := fs.foldl lcmS m
def leastOf (fs : List F) : F := lowP (best (vals (lcmL 1 fs) fs) (trip fs.length)).1 ((best (vals (lcmL 1 fs) fs) (trip fs.length)).2 * lcmL 1 fs)
def brk (n : Int) (ws : List Int) (p : F) (t : T3) : Bool := decide (p.1 * gap t * n < need ws t * p.2)
def breakOf (fs : List F) (p : F) : Option T3 := (trip fs.length).find? (brk (lcmL 1 fs) (vals (lcmL 1 fs) fs) p)

/-! #### what is best -/
theorem best_foldl {ws : List Int} : ∀ {ts : List T3} {b : F}, (∀ t ∈ ts, 0 < gap t) → 0 ≤ b.1 → 0 < b.2 →
    0 ≤ (ts.foldl (bestS ws) b).1 ∧ 0 < (ts.foldl (bestS ws) b).2 ∧ (∀ t ∈ ts, need ws t * (ts.foldl (bestS ws) b).2 ≤ (ts.foldl (bestS ws) b).1 * gap t) ∧
    b.1 * (ts.foldl (bestS ws) b).2 ≤ (ts.foldl (bestS ws) b).1 * b.2 ∧
    (ts.foldl (bestS ws) b = b ∨ ∃ t ∈ ts, ts.foldl (bestS ws) b = (need ws t, gap t))
  | [], b, _, h0, h1 => ⟨h0, h1, by simp, Int.le_refl _, .inl rfl⟩
  | t :: ts, b, hg, h0, h1 => by
    have hgt := hg t (by simp)
    have hb : 0 ≤ (bestS ws b t).1 ∧ 0 < (bestS ws b t).2 ∧ need ws t * (bestS ws b t).2 ≤ (bestS ws b t).1 * gap t ∧ b.1 * (bestS ws b t).2 ≤ (bestS ws b t).1 * b.2 ∧ (bestS ws b t = b ∨ bestS ws b t = (need ws t, gap t)) := by
      unfold bestS
      split
      · rename_i h
        have h2 : 0 ≤ need ws t := by
          have h3 : 0 ≤ b.1 * gap t := Int.mul_nonneg h0 (by omega)
          apply Int.le_of_not_gt
          intro h4
          have := Int.mul_nonpos_of_nonpos_of_nonneg (a := need ws t) (b := b.2) (by omega) (by omega)
          omega
        refine ⟨h2, hgt, Int.le_refl _, ?_, .inr rfl⟩
        simp only
        omega
      · rename_i h
        exact ⟨h0, h1, by omega, Int.le_refl _, .inl rfl⟩
    obtain ⟨i0, i1, i2, i3, i4⟩ := best_foldl (ws := ws) (ts := ts) (b := bestS ws b t) (fun u hu => hg u (by simp [hu])) hb.1 hb.2.1
    simp only [List.foldl_cons]
    generalize List.foldl (bestS ws) (bestS ws b t) ts = r at i0 i1 i2 i3 i4 ⊢
    generalize bestS ws b t = b' at hb i3 i4
    obtain ⟨_, hb1, hb2, hb3, hb4⟩ := hb
    have tr : ∀ x y : Int, 0 ≤ y → x * b'.2 ≤ b'.1 * y → x * r.2 ≤ r.1 * y := by
      intro x y hy h
      have e1 : x * b'.2 * r.2 ≤ b'.1 * y * r.2 := Int.mul_le_mul_of_nonneg_right h (by omega)
      have e2 : b'.1 * r.2 * y ≤ r.1 * b'.2 * y := Int.mul_le_mul_of_nonneg_right i3 hy
      have e3 : x * r.2 * b'.2 ≤ r.1 * y * b'.2 := by
        have a1 : x * r.2 * b'.2 = x * b'.2 * r.2 := by grind
        have a2 : b'.1 * y * r.2 = b'.1 * r.2 * y := by grind
        have a3 : r.1 * y * b'.2 = r.1 * b'.2 * y := by grind
        omega
      exact Int.le_of_mul_le_mul_right e3 hb1
    refine ⟨i0, i1, ?_, tr b.1 b.2 (by omega) hb3, ?_⟩
    · intro u hu
      rcases List.mem_cons.1 hu with rfl | hu
      · exact tr _ _ (by omega) hb2
      · exact i2 u hu
    · rcases i4 with h | ⟨u, hu, h⟩
      · rcases hb4 with h' | h'
        · exact .inl (h.trans h')
        · exact .inr ⟨t, by simp, h.trans h'⟩
      · exact .inr ⟨u, by simp [hu], h⟩
theorem best_ok (ws : List Int) (n : Nat) : 0 ≤ (best ws (trip n)).1 ∧ 0 < (best ws (trip n)).2 ∧ (∀ t ∈ trip n, need ws t * (best ws (trip n)).2 ≤ (best ws (trip n)).1 * gap t) ∧
    (best ws (trip n) = (0, 1) ∨ ∃ t ∈ trip n, best ws (trip n) = (need ws t, gap t)) := by
  obtain ⟨a, b, c, _, d⟩ := best_foldl (ws := ws) (ts := trip n) (b := (0, 1)) (fun t ht => gap_pos ht) (by simp) (by simp)
  exact ⟨a, b, c, d⟩
/-- needs that are alike -/
theorem best_scale {ws vs : List Int} {c d : Int} (hc : 0 < c) (hd : 0 < d) : ∀ {ts : List T3} {b b' : F}, (∀ t ∈ ts, c * need ws t = d * need vs t) → c * b.1 = d * b'.1 → b.2 = b'.2 →
    c * (ts.foldl (bestS ws) b).1 = d * (ts.foldl (bestS vs) b').1 ∧ (ts.foldl (bestS ws) b).2 = (ts.foldl (bestS vs) b').2
  | [], _, _, _, h1, h2 => ⟨h1, h2⟩
  | t :: ts, b, b', hn, h1, h2 => by
    have ht := hn t (by simp)
    simp only [List.foldl_cons]
    have hb : c * (bestS ws b t).1 = d * (bestS vs b' t).1 ∧ (bestS ws b t).2 = (bestS vs b' t).2 := by
      have iff : b.1 * gap t < need ws t * b.2 ↔ b'.1 * gap t < need vs t * b'.2 := by
        have e1 : c * (b.1 * gap t) = d * (b'.1 * gap t) := by grind
        have e2 : c * (need ws t * b.2) = d * (need vs t * b'.2) := by grind
        constructor
        · intro h
          have := Int.mul_lt_mul_of_pos_left h hc
          rw [e1, e2] at this
          exact Int.lt_of_mul_lt_mul_left this (by omega)
        · intro h
          have := Int.mul_lt_mul_of_pos_left h hd
          rw [← e1, ← e2] at this
          exact Int.lt_of_mul_lt_mul_left this (by omega)
      unfold bestS
      by_cases h : b.1 * gap t < need ws t * b.2
      · rw [if_pos h, if_pos (iff.1 h)]
        exact ⟨ht, rfl⟩
      · rw [if_neg h, if_neg (fun h' => h (iff.2 h'))]
        exact ⟨h1, h2⟩
    exact best_scale hc hd (fun u hu => hn u (by simp [hu])) hb.1 hb.2
theorem brk_scale {n m : Int} {ws vs : List Int} {p q : F} {c d : Int} {t : T3} (hc : 0 < c) (hd : 0 < d) (h1 : c * (p.1 * gap t * n) = d * (q.1 * gap t * m)) (h2 : c * (need ws t * p.2) = d * (need vs t * q.2)) : brk n ws p t = brk m vs q t := by
  unfold brk
  rw [decide_eq_decide]
  constructor
  · intro h
    have := Int.mul_lt_mul_of_pos_left h hc
    rw [h1, h2] at this
    exact Int.lt_of_mul_lt_mul_left this (by omega)
  · intro h
    have := Int.mul_lt_mul_of_pos_left h hd
    rw [← h1, ← h2] at this
    exact Int.lt_of_mul_lt_mul_left this (by omega)

/-! #### values over a multiple -/
/-- the value of one over n -/
def val (n : Int) (p : F) : Int := p.1 * (n / p.2)
theorem val_mul {n : Int} {p : F} (h : p.2 ∣ n) : val n p * p.2 = p.1 * n := by
  unfold val
  have := Int.ediv_mul_cancel h
  generalize n / p.2 = k at this
  grind
theorem val_eq {n : Int} {p : F} {a b : Int} (h : p.2 ∣ n) (hp : 0 < p.2) (hb : 0 < b) (e : p.1 * b = a * p.2) : val n p * b = a * n := by
  have h1 := val_mul h
  have h2 : (val n p * b - a * n) * p.2 = 0 := by grind
  rcases Int.mul_eq_zero.1 h2 with h3 | h3 <;> omega
theorem vals_get {n : Int} {fs : List F} {i : Nat} {p : F} (h : fs[i]? = some p) : (vals n fs).getD i 0 = val n p := by
  simp [vals, h, val]
theorem trip_get {fs : List F} {t : T3} (h : t ∈ trip fs.length) : ∃ p q r, fs[t.1]? = some p ∧ fs[t.2.1]? = some q ∧ fs[t.2.2]? = some r := by
  have := mem_trip h
  exact ⟨_, _, _, List.getElem?_eq_getElem (by omega), List.getElem?_eq_getElem (by omega), List.getElem?_eq_getElem (by omega)⟩
theorem need_scale {n : Int} {l : Int} {fs : List F} (hd : Div n fs) (hl : 0 < l) {t : T3} (ht : t ∈ trip fs.length) : need (vals (n * l) fs) t = l * need (vals n fs) t := by
  obtain ⟨p, q, r, hp, hq, hr⟩ := trip_get ht
  have hv : ∀ p ∈ fs, val (n * l) p = l * val n p := by
    intro p hp
    obtain ⟨h0, k, rfl⟩ := hd.2 p hp
    unfold val
    rw [show p.2 * k * l = p.2 * (k * l) by grind, Int.mul_ediv_cancel_left _ (by omega), Int.mul_ediv_cancel_left _ (by omega)]
    grind
  unfold need
  rw [vals_get hp, vals_get hq, vals_get hr, vals_get hp, vals_get hq, vals_get hr, hv p (List.mem_of_getElem? hp), hv q (List.mem_of_getElem? hq), hv r (List.mem_of_getElem? hr)]
  grind
theorem least_scale {n : Int} {l : Int} {fs : List F} (hd : Div n fs) (hl : 0 < l) :
    lowP (best (vals (n * l) fs) (trip fs.length)).1 ((best (vals (n * l) fs) (trip fs.length)).2 * (n * l)) = lowP (best (vals n fs) (trip fs.length)).1 ((best (vals n fs) (trip fs.length)).2 * n) := by
  have h := best_scale (ws := vals (n * l) fs) (vs := vals n fs) (c := 1) (d := l) (by omega) hl (ts := trip fs.length) (b := (0, 1)) (b' := (0, 1)) (fun t ht => by rw [need_scale hd hl ht]; omega) (by simp) rfl
  obtain ⟨_, h2, _⟩ := best_ok (vals n fs) fs.length
  have hn := hd.1
  change 1 * (best (vals (n * l) fs) (trip fs.length)).1 = l * (best (vals n fs) (trip fs.length)).1 ∧ (best (vals (n * l) fs) (trip fs.length)).2 = (best (vals n fs) (trip fs.length)).2 at h
  generalize best (vals (n * l) fs) (trip fs.length) = b at h
  generalize best (vals n fs) (trip fs.length) = b' at h h2
  obtain ⟨e1, e2⟩ := h
  rw [e2]
  apply lowP_congr (Int.mul_pos h2 (Int.mul_pos hn hl)) (Int.mul_pos h2 hn)
  grind
theorem break_scale {n : Int} {l : Int} {fs : List F} {p : F} (hd : Div n fs) (hl : 0 < l) :
    (trip fs.length).find? (brk (n * l) (vals (n * l) fs) p) = (trip fs.length).find? (brk n (vals n fs) p) := by
  have key : ∀ ts : List T3, (∀ t ∈ ts, t ∈ trip fs.length) → ts.find? (brk (n * l) (vals (n * l) fs) p) = ts.find? (brk n (vals n fs) p) := by
    intro ts
    induction ts with
    | nil => intro _; rfl
    | cons t ts ih =>
      intro h
      have e : brk (n * l) (vals (n * l) fs) p t = brk n (vals n fs) p t := by
        apply brk_scale (c := 1) (d := l) (by omega) hl
        · grind
        · rw [need_scale hd hl (h t (by simp))]; grind
      simp only [List.find?_cons, e, ih (fun u hu => h u (by simp [hu]))]
  exact key _ (fun _ h => h)
theorem Div.mul {n l : Int} {fs : List F} (h : Div n fs) (hl : 0 < l) : Div (n * l) fs := ⟨Int.mul_pos h.1 hl, fun p hp => ⟨(h.2 p hp).1, Int.dvd_trans (h.2 p hp).2 (Int.dvd_mul_right _ _)⟩⟩

/-! #### the common multiple -/
theorem lcmS_eq (m : Int) (p : F) : lcmS m p = m * (p.2 / ((Nat.gcd m.natAbs p.2.natAbs : Nat) : Int)) := Int.mul_ediv_assoc _ (dvd_natAbs (Nat.gcd_dvd_right _ _))
theorem lcmS_ok {m : Int} {p : F} (hm : 0 < m) (hp : 0 < p.2) : 0 < lcmS m p ∧ m ∣ lcmS m p ∧ p.2 ∣ lcmS m p ∧ lcmS m p ≤ m * p.2 := by
  have hg := gcd_pos' (a := m) hp
  obtain ⟨k, hk⟩ := dvd_natAbs (a := p.2) (Nat.gcd_dvd_right m.natAbs p.2.natAbs)
  obtain ⟨l, hl⟩ := dvd_natAbs (a := m) (Nat.gcd_dvd_left m.natAbs p.2.natAbs)
  have e : lcmS m p = m * k := by
    rw [lcmS_eq]
    generalize ((Nat.gcd m.natAbs p.2.natAbs : Nat) : Int) = g at hg hk hl
    rw [hk, Int.mul_ediv_cancel_left _ (by omega)]
  generalize ((Nat.gcd m.natAbs p.2.natAbs : Nat) : Int) = g at hg hk hl
  have hk0 : 0 < k := by
    apply Int.lt_of_not_ge
    intro h
    have := Int.mul_nonpos_of_nonneg_of_nonpos (a := g) (b := k) (by omega) h
    omega
  rw [e]
  refine ⟨Int.mul_pos hm hk0, Int.dvd_mul_right _ _, ⟨l, by rw [hk]; rw [hl]; grind⟩, ?_⟩
  apply Int.mul_le_mul_of_nonneg_left _ (by omega)
  have := Int.mul_le_mul_of_nonneg_right (a := 1) (b := g) (c := k) (by omega) (by omega)
  omega
theorem lcmL_ok : ∀ {fs : List F} {m : Int}, 0 < m → (∀ p ∈ fs, 0 < p.2) → 0 < lcmL m fs ∧ m ∣ lcmL m fs ∧ ∀ p ∈ fs, 0 < p.2 ∧ p.2 ∣ lcmL m fs
  | [], m, hm, _ => ⟨hm, ⟨1, by simp [lcmL]⟩, by simp⟩
  | p :: fs, m, hm, hp => by
    obtain ⟨h1, h2, h3, _⟩ := lcmS_ok hm (hp p (by simp))
    obtain ⟨i1, i2, i3⟩ := lcmL_ok (fs := fs) h1 (fun q hq => hp q (by simp [hq]))
    refine ⟨i1, Int.dvd_trans h2 i2, ?_⟩
    intro q hq
    rcases List.mem_cons.1 hq with rfl | hq
    · exact ⟨hp q (by simp), Int.dvd_trans h3 i2⟩
    · exact i3 q hq
theorem lcmL_le {d : Nat} : ∀ {fs : List F} {m : Int} {e : Nat}, 0 < m → m < 2 ^ e → (∀ p ∈ fs, 0 < p.2 ∧ p.2 < 2 ^ d) → lcmL m fs < 2 ^ (e + d * fs.length)
  | [], m, e, _, h, _ => by simpa [lcmL] using h
  | p :: fs, m, e, hm, h, hp => by
    obtain ⟨h0, h1⟩ := hp p (by simp)
    obtain ⟨i1, _, _, i4⟩ := lcmS_ok hm h0
    have hlt : m * p.2 < 2 ^ (e + d) := by
      rw [Int.pow_add]
      exact Int.mul_lt_mul h (by omega) h0 (by omega)
    have := lcmL_le (fs := fs) (m := lcmS m p) (e := e + d) i1 (by omega) (fun q hq => hp q (by simp [hq]))
    rw [List.length_cons, show e + d * (fs.length + 1) = e + d + d * fs.length by grind]
    exact this
theorem lcmL_app (m : Int) (fs gs : List F) : lcmL m (fs ++ gs) = lcmL (lcmL m fs) gs := by simp [lcmL]
theorem div_lcm {fs : List F} (h : ∀ p ∈ fs, 0 < p.2) : Div (lcmL 1 fs) fs := ⟨(lcmL_ok (by omega) h).1, (lcmL_ok (by omega) h).2.2⟩
theorem least_at {n : Int} {fs : List F} (h : Div n fs) : leastOf fs = lowP (best (vals n fs) (trip fs.length)).1 ((best (vals n fs) (trip fs.length)).2 * n) := by
  have hl := div_lcm (fun p hp => (h.2 p hp).1)
  have a := least_scale hl h.1
  have b := least_scale h hl.1
  rw [Int.mul_comm n] at b
  exact a.symm.trans b
theorem break_at {n : Int} {fs : List F} {p : F} (h : Div n fs) : breakOf fs p = (trip fs.length).find? (brk n (vals n fs) p) := by
  have hl := div_lcm (fun p hp => (h.2 p hp).1)
  have a := break_scale (p := p) hl h.1
  have b := break_scale (p := p) h hl.1
  rw [Int.mul_comm n] at b
  exact a.symm.trans b

/-! #### the plain facts that the law asks -/
/-- p is enough at all triples -/
def UB (n : Int) (ws : List Int) (len : Nat) (p : F) : Prop := ∀ t ∈ trip len, need ws t * p.2 ≤ p.1 * gap t * n
theorem ub_iff {n : Int} {fs : List F} {p : F} (h : Div n fs) : breakOf fs p = none ↔ UB n (vals n fs) fs.length p := by
  rw [break_at h]
  simp only [List.find?_eq_none, UB, brk, decide_eq_true_eq, Int.not_lt]
theorem leastOf_ok {n : Int} {fs : List F} (h : Div n fs) : okF (leastOf fs) ∧ 0 ≤ (leastOf fs).1 ∧ UB n (vals n fs) fs.length (leastOf fs) := by
  obtain ⟨b0, b1, b2, b3⟩ := best_ok (vals n fs) fs.length
  rw [least_at h]
  generalize best (vals n fs) (trip fs.length) = b at b0 b1 b2 b3
  have hb : 0 < b.2 * n := Int.mul_pos b1 h.1
  have hc := lowP_cross (a := b.1) hb
  have hp := lowP_pos (a := b.1) hb
  refine ⟨lowP_ok hb, ?_, ?_⟩
  · apply Int.le_of_not_gt
    intro h'
    have h1 := Int.mul_neg_of_neg_of_pos h' hb
    have h2 := Int.mul_nonneg b0 (Int.le_of_lt hp)
    omega
  · intro t ht
    have h1 := b2 t ht
    generalize lowP b.1 (b.2 * n) = p at hc hp
    have h2 : need (vals n fs) t * p.2 * b.2 ≤ p.1 * gap t * n * b.2 := by
      have e1 := Int.mul_le_mul_of_nonneg_right h1 (Int.le_of_lt hp)
      have c1 : need (vals n fs) t * p.2 * b.2 = need (vals n fs) t * b.2 * p.2 := by grind
      have c2 : p.1 * gap t * n * b.2 = b.1 * gap t * p.2 := by grind
      omega
    exact Int.le_of_mul_le_mul_right h2 b1
theorem leastOf_le {n : Int} {fs : List F} {p : F} (h : Div n fs) (hp : 0 < p.2) (hp0 : 0 ≤ p.1) (hu : UB n (vals n fs) fs.length p) : (leastOf fs).1 * p.2 ≤ p.1 * (leastOf fs).2 := by
  obtain ⟨b0, b1, b2, b3⟩ := best_ok (vals n fs) fs.length
  rw [least_at h]
  generalize best (vals n fs) (trip fs.length) = b at b0 b1 b2 b3
  have hb : 0 < b.2 * n := Int.mul_pos b1 h.1
  have hc := lowP_cross (a := b.1) hb
  have hq := lowP_pos (a := b.1) hb
  have hle : b.1 * p.2 ≤ p.1 * (b.2 * n) := by
    rcases b3 with h3 | ⟨t, ht, h3⟩
    · subst h3
      simp only [Int.zero_mul, Int.one_mul]
      exact Int.mul_nonneg hp0 (Int.le_of_lt h.1)
    · subst h3
      have := hu t ht
      simp only
      grind
  generalize lowP b.1 (b.2 * n) = q at hc hq
  have h2 : q.1 * p.2 * (b.2 * n) ≤ p.1 * q.2 * (b.2 * n) := by
    have e1 := Int.mul_le_mul_of_nonneg_right hle (Int.le_of_lt hq)
    have c1 : q.1 * p.2 * (b.2 * n) = b.1 * p.2 * q.2 := by grind
    have c2 : p.1 * q.2 * (b.2 * n) = p.1 * (b.2 * n) * q.2 := by grind
    omega
  exact Int.le_of_mul_le_mul_right h2 hb
/-- plus, times -/
def plusF (p q : F) : F := lowP (p.1 * q.2 + q.1 * p.2) (p.2 * q.2)
def timesF (p q : F) : F := lowP (p.1 * q.1) (p.2 * q.2)
theorem plusF_ok {p q : F} (hp : 0 < p.2) (hq : 0 < q.2) : okF (plusF p q) := lowP_ok (Int.mul_pos hp hq)
theorem timesF_ok {p q : F} (hp : 0 < p.2) (hq : 0 < q.2) : okF (timesF p q) := lowP_ok (Int.mul_pos hp hq)
theorem plusF_val {n : Int} {p q : F} (hp : 0 < p.2) (hq : 0 < q.2) (dp : p.2 ∣ n) (dq : q.2 ∣ n) (dr : (plusF p q).2 ∣ n) : val n (plusF p q) = val n p + val n q := by
  have hm := Int.mul_pos hp hq
  have e := val_eq dr (lowP_pos hm) hm (lowP_cross hm)
  have e1 := val_mul dp
  have e2 := val_mul dq
  have : (val n (plusF p q) - (val n p + val n q)) * (p.2 * q.2) = 0 := by grind
  rcases Int.mul_eq_zero.1 this with h | h <;> omega
theorem timesF_val {n : Int} {p q : F} (hp : 0 < p.2) (hq : 0 < q.2) (dp : p.2 ∣ n) (dr : (timesF p q).2 ∣ n) : q.2 * val n (timesF p q) = q.1 * val n p := by
  have hm := Int.mul_pos hp hq
  have e := val_eq dr (lowP_pos hm) hm (lowP_cross hm)
  have e1 := val_mul dp
  have : (q.2 * val n (timesF p q) - q.1 * val n p) * p.2 = 0 := by grind
  rcases Int.mul_eq_zero.1 this with h | h <;> omega
/-- sums -/
theorem ub_plus {n : Int} {fs gs hs : List F} {p q : F} (hf : fs.length = hs.length) (hg : gs.length = hs.length) (hp : 0 < p.2) (hq : 0 < q.2)
    (hv : ∀ i : Nat, (vals n hs).getD i 0 = (vals n fs).getD i 0 + (vals n gs).getD i 0)
    (h1 : UB n (vals n fs) fs.length p) (h2 : UB n (vals n gs) gs.length q) : UB n (vals n hs) hs.length (plusF p q) := by
  intro t ht
  have a1 := h1 t (by rw [hf]; exact ht)
  have a2 := h2 t (by rw [hg]; exact ht)
  have hm := Int.mul_pos hp hq
  have e1 : need (vals n hs) t = need (vals n fs) t + need (vals n gs) t := by
    unfold need
    rw [hv, hv, hv]
    grind
  have hc := lowP_cross (a := p.1 * q.2 + q.1 * p.2) hm
  have hr := lowP_pos (a := p.1 * q.2 + q.1 * p.2) hm
  unfold plusF
  generalize lowP (p.1 * q.2 + q.1 * p.2) (p.2 * q.2) = r at hc hr
  rw [e1]
  have b1 := Int.mul_le_mul_of_nonneg_right (Int.mul_le_mul_of_nonneg_right a1 (Int.le_of_lt hq)) (Int.le_of_lt hr)
  have b2 := Int.mul_le_mul_of_nonneg_right (Int.mul_le_mul_of_nonneg_right a2 (Int.le_of_lt hp)) (Int.le_of_lt hr)
  have : (need (vals n fs) t + need (vals n gs) t) * r.2 * (p.2 * q.2) ≤ r.1 * gap t * n * (p.2 * q.2) := by
    have c1 : r.1 * gap t * n * (p.2 * q.2) = (p.1 * q.2 + q.1 * p.2) * r.2 * gap t * n := by grind
    have c2 : (p.1 * q.2 + q.1 * p.2) * r.2 * gap t * n = p.1 * gap t * n * q.2 * r.2 + q.1 * gap t * n * p.2 * r.2 := by grind
    have c3 : (need (vals n fs) t + need (vals n gs) t) * r.2 * (p.2 * q.2) = need (vals n fs) t * p.2 * q.2 * r.2 + need (vals n gs) t * q.2 * p.2 * r.2 := by grind
    omega
  exact Int.le_of_mul_le_mul_right this hm
/-- two lists whose needs are alike -/
theorem alike {n : Int} {fs gs : List F} {c d : Int} (hc : 0 < c) (hd : 0 < d) (hf : Div n fs) (hg : Div n gs) (hl : fs.length = gs.length)
    (hn : ∀ t ∈ trip fs.length, c * need (vals n fs) t = d * need (vals n gs) t) :
    (∃ b b' : F, 0 ≤ b.1 ∧ 0 < b.2 ∧ b.2 = b'.2 ∧ c * b.1 = d * b'.1 ∧ leastOf fs = lowP b.1 (b.2 * n) ∧ leastOf gs = lowP b'.1 (b'.2 * n)) ∧
    (∀ p q : F, 0 < p.2 → 0 < q.2 → c * p.1 * q.2 = d * q.1 * p.2 → breakOf fs p = breakOf gs q) := by
  constructor
  · obtain ⟨b0, b1, b2, b3⟩ := best_ok (vals n fs) fs.length
    have h := best_scale hc hd (ts := trip fs.length) (b := (0, 1)) (b' := (0, 1)) hn (by simp) rfl
    refine ⟨best (vals n fs) (trip fs.length), best (vals n gs) (trip fs.length), b0, b1, h.2, h.1, least_at hf, ?_⟩
    have := least_at hg
    rw [← hl] at this
    exact this
  · intro p q hp hq e
    rw [break_at hf, break_at hg, ← hl]
    have key : ∀ ts : List T3, (∀ t ∈ ts, t ∈ trip fs.length) → ts.find? (brk n (vals n fs) p) = ts.find? (brk n (vals n gs) q) := by
      intro ts
      induction ts with
      | nil => intro _; rfl
      | cons t ts ih =>
        intro h
        have e1 := hn t (h t (by simp))
        have e2 : brk n (vals n fs) p t = brk n (vals n gs) q t := by
          apply brk_scale (c := c * q.2) (d := d * p.2) (Int.mul_pos hc hq) (Int.mul_pos hd hp)
          · grind
          · grind
        simp only [List.find?_cons, e2, ih (fun u hu => h u (by simp [hu]))]
    exact key _ (fun _ h => h)
end K59
end

section
set_option Elab.async false
set_option linter.all false
namespace K59
open PySem Dy
/-! ### what the defs give -/
/-- a row, as list or tuple -/
def Row (v : A) (fs : List F) : Prop := v = .lst (fs.map fA) ∨ v = .tup (fs.map fA)
/-- numbers as the law makes them -/
def Gd (fs : List F) : Prop := fs.length ≤ 40 ∧ ∀ p ∈ fs, okF p ∧ p.1.natAbs < 2 ^ 24 ∧ p.2 < 2 ^ 10
def Gp (p : F) : Prop := okF p ∧ 0 ≤ p.1 ∧ p.1.natAbs < 2 ^ 4000 ∧ p.2 < 2 ^ 4000
theorem low59 {n : Nat} (hn : 1 ≤ n) {a b : Int} {s : S} (hb : 0 < b) (hs : b.natAbs < 2 ^ 1900) : callF G cs n 17 [.int a, .int b] s = .ok (fA (lowP a b)) s := low_ok rfl hn hb hs
theorem lowest59 {n : Nat} (hn : 1 ≤ n) {a b : Int} {s : S} (hb : 0 < b) (hs : b.natAbs < 2 ^ 7999) : callF G cs n 0 [.int a, .int b] s = .ok (fA (lowP a b)) s := lowest_ok rfl hn hb hs
theorem same59 {n d : Nat} {a : A} {s : S} (hp : PlainD d a) (hn : d < n) : callF G cs n 16 [a, a] s = .ok (.bl true) s := same_ok rfl hp hn
theorem take59 {n : Nat} (hn : 1 ≤ n) {b N : Nat} {w : Int} {s : S} (hB : Box s b N) (hN : N < 2 ^ 64) (hw : 0 < w) (hw2 : w < 2 ^ 40) :
    wp (callF G cs n 15 [.cell b, .int w] s) (fun a s' => ∃ d : Int, a = .int d ∧ 0 ≤ d ∧ d < w ∧ Kb (some b) s s' ∧ Box s' b (N + 1)) :=
  take_ok (c1 := 69621) (c2 := 1445) (c3 := 17) (c4 := 2147483629) (c5 := 64) rfl hn hB hN (by decide) hw hw2
theorem fA_def (p : F) : fA p = .tup [.int p.1, .int p.2] := rfl
theorem lt_two_pow {a : Int} {k l : Nat} (h : a.natAbs < 2 ^ k) (hk : k ≤ l) : a.natAbs < 2 ^ l := Nat.lt_of_lt_of_le h (Nat.pow_le_pow_right (by omega) hk)
theorem abs_mul_lt {a b : Int} {k l : Nat} (ha : a.natAbs < 2 ^ k) (hb : b.natAbs < 2 ^ l) : (a * b).natAbs < 2 ^ (k + l) := by
  rw [Int.natAbs_mul, Nat.pow_add]
  exact Nat.mul_lt_mul'' ha hb
theorem abs_pos_lt {a : Int} {k : Nat} (h0 : 0 < a) (h : a < 2 ^ k) : a.natAbs < 2 ^ k := by
  have : (a.natAbs : Int) < ((2 ^ k : Nat) : Int) := by rw [Int.natCast_pow]; simpa [Int.natAbs_of_nonneg (Int.le_of_lt h0)] using h
  omega
theorem is_list59 {n : Nat} (hn : 1 ≤ n) {v : A} {fs : List F} {s : S} (hv : Row v fs) : callF G cs n 3 [v] s = .ok (.bl true) s := by
  apply eq_of_wp
  refine wp_call (d := d_is_list) rfl hn rfl ?_
  rcases hv with rfl | rfl <;> simp [d_is_list, evB, evS, evE, isiV, isi1, tyS]
theorem frac59 {n : Nat} (hn : 1 ≤ n) {p : F} {s : S} (hp : okF p) : callF G cs n 2 [fA p] s = .ok (.bl true) s := by
  apply eq_of_wp
  refine wp_call (d := d_is_fraction_value) rfl hn rfl ?_
  obtain ⟨h0, h1⟩ := hp
  simp [d_is_fraction_value, fA, evB, evS, evE, evEs, evL, evI, evC, isiV, isi1, tyS, mapR, asgT, wipeA, blsOf, h0, h1]
theorem blsOf_map {α : Type} (xs : List α) : blsOf (xs.map fun _ => A.bl true) = some (xs.map fun _ => true) := by
  induction xs with
  | nil => rfl
  | cons x xs ih => simp [blsOf, ih]
theorem numbers59 {n : Nat} (hn : 2 ≤ n) {v : A} {fs : List F} {s : S} (hv : Row v fs) (h1 : 1 ≤ fs.length) (h40 : fs.length ≤ 40) (hf : ∀ p ∈ fs, okF p) : callF G cs n 4 [v] s = .ok .non s := by
  apply eq_of_wp
  refine wp_call (d := d_check_numbers) rfl (by omega) rfl ?_
  have e1 : ∀ s, callF G cs (n - 1) 3 [v] s = .ok (.bl true) s := fun s => is_list59 (by omega) hv
  have e2 : ∀ p s, okF p → callF G cs (n - 1) 2 [fA p] s = .ok (.bl true) s := fun p s hp => frac59 (by omega) hp
  generalize callF G cs (n - 1) = cf at e1 e2
  have hl : fs.length ≤ sizeLine := Nat.le_trans h40 (by decide)
  have hm : ∀ f : A → S → Res (Option A), (∀ p ∈ fs, f (fA p) s = .ok (some (.bl true)) s) → mapR none f (fs.map fA) s = .ok (fs.map fun _ => .bl true) s := fun f hf => map_eqL hf
  rcases hv with rfl | rfl
  · simp [d_check_numbers, evB, evS, evE, evEs, evL, evI, evC, e1, hl, cs]
    rw [hm _ (by
      intro p hp
      simp [asgT, wipeA, evE, evEs, evC, Res.bind, Res.nox, e2 p s (hf p hp)])]
    simp [blsOf_map]
    omega
  · simp [d_check_numbers, evB, evS, evE, evEs, evL, evI, evC, e1, hl, cs]
    rw [hm _ (by
      intro p hp
      simp [asgT, wipeA, evE, evEs, evC, Res.bind, Res.nox, e2 p s (hf p hp)])]
    simp [blsOf_map]
    omega
theorem price59 {n : Nat} (hn : 2 ≤ n) {p : F} {s : S} (hp : okF p) (h0 : 0 ≤ p.1) : callF G cs n 5 [fA p] s = .ok .non s := by
  apply eq_of_wp
  refine wp_call (d := d_check_price) rfl (by omega) rfl ?_
  have e2 : ∀ s, callF G cs (n - 1) 2 [fA p] s = .ok (.bl true) s := fun s => frac59 (by omega) hp
  generalize callF G cs (n - 1) = cf at e2
  simp [d_check_price, evB, evS, evE, evEs, e2, idx0]
  omega
end K59
end

section
set_option Elab.async false
set_option linter.all false
namespace K59
open PySem Dy
theorem b9 : (9100 : Nat) ≤ bits := by decide
theorem smallp {a : Int} {k : Nat} (h : a.natAbs < 2 ^ k) (hk : k ≤ 9100) : small a = true := small_of h (Nat.le_trans hk b9)
theorem gcd_lt {a b : Int} (hb : 0 < b) {k : Nat} (h : b.natAbs < 2 ^ k) : Nat.gcd a.natAbs b.natAbs < 2 ^ k :=
  Nat.lt_of_le_of_lt (Nat.le_of_dvd (by omega) (Nat.gcd_dvd_right _ _)) h
theorem shared59 {n : Nat} (hn : 1 ≤ n) {fs : List F} {s : S} (hp : ∀ p ∈ fs, 0 < p.2 ∧ p.2.natAbs < 2 ^ 7000) (hs : ∀ done x rest, fs = done ++ x :: rest → (lcmL 1 done).natAbs < 2 ^ 7000) {v : A} (hv : Row v fs) :
    callF G cs n 1 [v] s = .ok (.int (lcmL 1 fs)) s := by
  apply eq_of_wp
  refine wp_call (d := d_shared_denominator) rfl hn rfl ?_
  generalize callF G cs (n - 1) = cf
  have key : wpe (forR none (fun x σ' s2 => (asgT cf cs (.v 2) x σ' s2).bindX σ' fun σ2 s3 => evB cf cs (.cons (.asg (.v 1) (.bin .fdiv (.bin .mul (.v 1) (.idx (.v 2) (.c (.int 1)))) (.bi .gcd (.cons (.v 1) (.cons (.idx (.v 2) (.c (.int 1))) (.nil)))))) (.nil)) σ2 s3) (fs.map fA) [some v, some (.int 1), none] s)
      (fun fl s' => s' = s ∧ ∃ z, fl = .nx [some v, some (.int (lcmL 1 fs)), z]) (fun _ _ => False) := by
    refine wp_forL (fun done σ s' => s' = s ∧ ∃ z, σ = [some v, some (.int (lcmL 1 done)), z]) ⟨rfl, none, rfl⟩ ?_ ?_
    · rintro done p rest σ _ e ⟨rfl, z, rfl⟩
      have hpm : p ∈ fs := by rw [e]; simp
      have h0 := (hp p hpm).1
      have h1 := (hp p hpm).2
      have h2 := hs done p rest e
      have sm1 : small (lcmL 1 done) = true := smallp h2 (by omega)
      have sm2 : small p.2 = true := smallp h1 (by omega)
      have h3 : Nat.gcd (lcmL 1 done).natAbs p.2.natAbs < 2 ^ 8000 := gcd_lt h0 (lt_two_pow h1 (by omega))
      have h5 : ¬ (p.2 = 0) := by omega
      have h6 : lcmL 1 (done ++ [p]) = lcmL 1 done * p.2 / ((Nat.gcd (lcmL 1 done).natAbs p.2.natAbs : Nat) : Int) := by rw [lcmL_app]; rfl
      rw [h6]
      simp [asgT, evB, evS, evE, evEs, idx1, sm1, sm2, h3, h5]
    · rintro σ _ ⟨rfl, z, rfl⟩
      exact ⟨rfl, z, rfl⟩
  rcases hv with rfl | rfl
  · simp [d_shared_denominator, evB, evS, evE, evI, asgT]
    refine wpe_mono key ?_ (fun _ _ h => h)
    rintro _ _ ⟨rfl, z, rfl⟩
    simp
  · simp [d_shared_denominator, evB, evS, evE, evI, asgT]
    refine wpe_mono key ?_ (fun _ _ h => h)
    rintro _ _ ⟨rfl, z, rfl⟩
    simp
/-- the bounds of a list of fractions -/
def Bd (fs : List F) : Prop := fs.length ≤ 41 ∧ (∀ p ∈ fs, 0 < p.2 ∧ p.2.natAbs < 2 ^ 7000 ∧ p.1.natAbs < 2 ^ 4000) ∧ (∀ done rest, fs = done ++ rest → (lcmL 1 done).natAbs < 2 ^ 5000)
theorem ediv_lt {m d : Int} {k : Nat} (hm : 0 < m) (hd : 0 < d) (h : m.natAbs < 2 ^ k) : (m / d).natAbs < 2 ^ k := by
  have h1 : 0 ≤ m / d := Int.ediv_nonneg (by omega) (by omega)
  have h2 : m / d ≤ m := Int.ediv_le_self _ (by omega)
  omega
theorem tops59 {n : Nat} (hn : 2 ≤ n) {fs : List F} {s : S} (hb : Bd fs) {v : A} (hv : Row v fs) :
    callF G cs n 6 [v] s = .ok (.tup [.lst ((vals (lcmL 1 fs) fs).map .int), .int (lcmL 1 fs)]) s := by
  apply eq_of_wp
  refine wp_call (d := d_tops_of) rfl (by omega) rfl ?_
  obtain ⟨hl, hp, hs⟩ := hb
  have e1 : ∀ s, callF G cs (n - 1) 1 [v] s = .ok (.int (lcmL 1 fs)) s := fun s => shared59 (by omega) (fun p h => ⟨(hp p h).1, (hp p h).2.1⟩) (fun done x rest e => lt_two_pow (hs done (x :: rest) e) (by omega)) hv
  generalize callF G cs (n - 1) = cf at e1
  have hM : (lcmL 1 fs).natAbs < 2 ^ 5000 := hs fs [] (by simp)
  have hM0 : 0 < lcmL 1 fs := (lcmL_ok (by omega) (fun p h => (hp p h).1)).1
  have hls : fs.length ≤ sizeLine := Nat.le_trans hl (by decide)
  generalize lcmL 1 fs = M at e1 hM hM0
  have hm : ∀ f : A → S → Res (Option A), (∀ p ∈ fs, f (fA p) s = .ok (some (.int (p.1 * (M / p.2)))) s) → mapR none f (fs.map fA) s = .ok ((vals M fs).map .int) s := by
    intro f hf
    have := map_eqL (i := fA) (h := fun p : F => A.int (p.1 * (M / p.2))) hf
    rw [this]
    simp [vals]
  have hcomp : ∀ p ∈ fs, ∀ w : A, ((asgT cf cs (.tup (.cons (.v 2) (.cons (.v 3) (.nil)))) (fA p) (wipeA [some w, some (.int M), none, none] [2, 3]) s).bind fun σ' s3 => (evC cf cs .no σ' s3).bind fun b s4 => if b then (evE cf cs (.bin .mul (.v 2) (.bin .fdiv (.v 1) (.v 3))) σ' s4).bind fun y s5 => .ok (some y) s5 else .ok none s4).nox = .ok (some (.int (p.1 * (M / p.2)))) s := by
    intro p hpm w
    obtain ⟨h0, h1, h2⟩ := hp p hpm
    have h3 : p.2.natAbs < 2 ^ 8000 := lt_two_pow h1 (by omega)
    have sm1 : small p.1 = true := smallp h2 (by omega)
    have sm2 : small (M / p.2) = true := smallp (ediv_lt hM0 h0 hM) (by omega)
    apply eq_of_wp
    simp [asgT, asgTs, fA, wipeA, evC, evE, h0, h3, sm1, sm2]
  rcases hv with rfl | rfl
  · simp [d_tops_of, evB, evS, evE, evEs, evI, evL, asgT, e1, hls]
    rw [hm _ (fun p hpm => hcomp p hpm _)]
    simp
  · simp [d_tops_of, evB, evS, evE, evEs, evI, evL, asgT, e1, hls]
    rw [hm _ (fun p hpm => hcomp p hpm _)]
    simp
def tA (t : T3) : A := .tup [.int t.1, .int t.2.1, .int t.2.2]
theorem lack59 {n : Nat} (hn : 1 ≤ n) {ws : List Int} {t : T3} {s : S} (h1 : t.1 < ws.length) (h2 : t.2.1 < ws.length) (h3 : t.2.2 < ws.length) (h40 : ws.length ≤ 41) (hw : ∀ w ∈ ws, w.natAbs < 2 ^ 9000) :
    callF G cs n 8 [.lst (ws.map .int), tA t] s = .ok (.int (need ws t)) s := by
  apply eq_of_wp
  refine wp_call (d := d_lack_of) rfl (by omega) rfl ?_
  generalize callF G cs (n - 1) = cf
  have hg : ∀ i, i < ws.length → ∃ w, ws[i]? = some w ∧ w.natAbs < 2 ^ 9000 := fun i hi => ⟨_, List.getElem?_eq_getElem hi, hw _ (List.getElem_mem hi)⟩
  obtain ⟨a, ha, ha'⟩ := hg _ h1
  obtain ⟨b, hb, hb'⟩ := hg _ h2
  obtain ⟨c, hc, hc'⟩ := hg _ h3
  have hd : ∀ x y : Int, x.natAbs < 2 ^ 9000 → y.natAbs < 2 ^ 9000 → small (x - y) = true := by
    intro x y hx hy
    apply smallp (k := 9001) _ (by omega)
    have : (2 : Nat) ^ 9001 = 2 ^ 9000 * 2 := Nat.pow_succ 2 9000
    omega
  have hk : ∀ x y : Nat, x < ws.length → y < ws.length → small ((x : Int) - (y : Int)) = true := by
    intro x y hx hy
    apply smallp (k := 10) _ (by omega)
    omega
  have g : ∀ i x, ws[i]? = some x → ws.getD i 0 = x := fun i x h => by simp [h]
  have m : ∀ i x, ws[i]? = some x → (ws.map A.int)[i]? = some (A.int x) := fun i x h => by rw [List.getElem?_map, h]; rfl
  have m1 := m _ _ ha
  have m2 := m _ _ hb
  have m3 := m _ _ hc
  have s1 := hd _ _ hb' ha'
  have s2 := hd _ _ hc' hb'
  have s3 := hk _ _ h3 h2
  have s4 := hk _ _ h2 h1
  have hneed : need ws t = (b - a) * ((t.2.2 : Int) - (t.2.1 : Int)) - (c - b) * ((t.2.1 : Int) - (t.1 : Int)) := by
    unfold need
    rw [g _ _ ha, g _ _ hb, g _ _ hc]
  rw [hneed]
  generalize ws.map A.int = wv at m1 m2 m3
  simp [d_lack_of, tA, evB, evS, evE, asgT, asgTs, atI_nat, m1, m2, m3, s1, s2, s3, s4]
end K59
end

section
set_option Elab.async false
set_option linter.all false
namespace K59
open PySem Dy
theorem len_flatMap {α β : Type} {f : α → List β} {k : Nat} : ∀ {L : List α}, (∀ x ∈ L, (f x).length ≤ k) → (L.flatMap f).length ≤ L.length * k
  | [], _ => by simp
  | x :: L, h => by
    have h1 := h x (by simp)
    have h2 := len_flatMap (f := f) (k := k) (L := L) (fun y hy => h y (by simp [hy]))
    rw [List.flatMap_cons, List.length_append, List.length_cons, Nat.add_mul]
    omega
theorem trip_len (n : Nat) (h : n ≤ 41) : (trip n).length ≤ 41 * (41 * 41) := by
  have h1 : ∀ i j, (tripK n i j).length ≤ 41 := by
    intro i j
    simp [tripK]
    omega
  have h2 : ∀ i, (tripJ n i).length ≤ 41 * 41 := by
    intro i
    have := len_flatMap (f := fun a => tripK n i (i + 1 + a)) (k := 41) (L := List.range (n - (i + 1))) (fun x _ => h1 _ _)
    rw [List.length_range] at this
    have h3 := Nat.mul_le_mul_right 41 (by omega : n - (i + 1) ≤ 41)
    exact Nat.le_trans this h3
  have := len_flatMap (f := tripJ n) (k := 41 * 41) (L := List.range n) (fun x _ => h2 _)
  rw [List.length_range] at this
  have h3 := Nat.mul_le_mul_right (41 * 41) h
  exact Nat.le_trans this h3
theorem trip_size {n : Nat} (h : n ≤ 41) {k : Nat} (hk : k ≤ (trip n).length) : k ≤ sizeLine := Nat.le_trans hk (Nat.le_trans (trip_len n h) (by decide))
theorem ok62_of {i : Int} (h : -1000 ≤ i ∧ i ≤ 1000) : ok62 i = true := by
  unfold ok62
  rw [Bool.and_eq_true, decide_eq_true_eq, decide_eq_true_eq]
  omega
theorem triples59 {n : Nat} (hn : 1 ≤ n) {m : Nat} (hm : m ≤ 41) {s : S} :
    wp (callF G cs n 7 [.int m] s) (fun a s' => a = .lst ((trip m).map tA) ∧ Kb none s s') := by
  refine wp_call (d := d_triples_of) rfl hn rfl ?_
  generalize callF G cs (n - 1) = cf
  have o1 : ok62 (m : Int) = true := ok62_of (by omega)
  simp [d_triples_of, evB, evS, evE, evEs, evL, evI, asgT, o1]
  simp only [rngL_map]
  refine wpe_mono (wp_forL (Q := fun fl s' => ∃ σ, fl = .nx σ ∧ σ[1]? = some (some (.cell s.length)) ∧ s'[s.length]? = some (.lst ((trip m).map tA)) ∧ Kb none s s') (X := fun _ _ => False)
    (fun done σ s' => (∃ z z' z'', σ = [some (.int m), some (.cell s.length), z, z', z'']) ∧ s'[s.length]? = some (.lst ((done.flatMap (tripJ m)).map tA)) ∧ Kb none s s') ?_ ?_ ?_) ?_ ?_
  · exact ⟨⟨none, none, none, rfl⟩, app_get _ _, Kb.app _ _ _⟩
  · intro done i rest σ s1 e h
    obtain ⟨h1, hc, hk⟩ := h
    obtain ⟨z, z', z'', h1⟩ := h1
    subst h1
    have hi : i < m := by
      have : i ∈ List.range m := by rw [e]; simp
      simpa using this
    have o2 : ok62 ((i : Int) + 1) = true := ok62_of (by omega)
    have q : ((m : Int) - ((i : Int) + 1)).toNat = m - (i + 1) := by omega
    simp [asgT, evB, evS, evE, evEs, evL, evI, o1, o2, q]
    refine wpe_mono (wp_forL (Q := fun fl s' => ∃ σ, fl = .nx σ ∧ (∃ z z' z'', σ = [some (.int m), some (.cell s.length), z, z', z'']) ∧ s'[s.length]? = some (.lst (((done ++ [i]).flatMap (tripJ m)).map tA)) ∧ Kb none s s') (X := fun _ _ => False)
      (fun done' σ s' => (∃ z' z'', σ = [some (.int m), some (.cell s.length), some (.int i), z', z'']) ∧ s'[s.length]? = some (.lst ((done.flatMap (tripJ m) ++ done'.flatMap (fun a => tripK m i (i + 1 + a))).map tA)) ∧ Kb none s s') ?_ ?_ ?_) ?_ ?_
    · exact ⟨⟨_, _, rfl⟩, by simpa using hc, hk⟩
    · rintro done' a rest' _ s2 e' ⟨⟨y', y'', rfl⟩, hc2, hk2⟩
      have ha : a < m - (i + 1) := by
        have : a ∈ List.range (m - (i + 1)) := by rw [e']; simp
        simpa using this
      have o3 : ok62 ((i : Int) + 1 + (a : Int) + 1) = true := ok62_of (by omega)
      have q2 : ((m : Int) - ((i : Int) + 1 + (a : Int) + 1)).toNat = m - (i + 1 + a + 1) := by omega
      have sz : m - (i + 1 + a + 1) ≤ sizeLine := Nat.le_trans (by omega : _ ≤ 41) (by decide)
      have e1 := itemsL_c _ hc2
      have e2 := itemsC_c _ hc2
      have hmap : ∀ f : A → S → Res (Option A), (∀ c : Nat, f (.int ((i : Int) + 1 + (a : Int) + 1 + (c : Int))) s2 = .ok (some (tA (i, i + 1 + a, i + 1 + a + 1 + c))) s2) →
          mapR none f ((List.range (m - (i + 1 + a + 1))).map fun c : Nat => A.int ((i : Int) + 1 + (a : Int) + 1 + (c : Int))) s2 = .ok ((tripK m i (i + 1 + a)).map tA) s2 := by
        intro f hf
        have := map_eqL (i := fun c : Nat => A.int ((i : Int) + 1 + (a : Int) + 1 + (c : Int))) (h := fun c : Nat => tA (i, i + 1 + a, i + 1 + a + 1 + c)) (s := s2) (xs := List.range (m - (i + 1 + a + 1))) (f := f) (fun c _ => hf c)
        rw [this]
        simp [tripK, Function.comp_def]
      have sz2 : (done.flatMap (tripJ m) ++ done'.flatMap (fun a => tripK m i (i + 1 + a))).length + (tripK m i (i + 1 + a)).length ≤ sizeLine := by
        apply trip_size hm
        have x1 : trip m = done.flatMap (tripJ m) ++ (tripJ m i ++ rest.flatMap (tripJ m)) := by unfold trip; rw [e, List.flatMap_append, List.flatMap_cons]
        have x2 : tripJ m i = done'.flatMap (fun a => tripK m i (i + 1 + a)) ++ (tripK m i (i + 1 + a) ++ rest'.flatMap (fun a => tripK m i (i + 1 + a))) := by unfold tripJ; rw [e', List.flatMap_append, List.flatMap_cons]
        rw [x1, x2]
        simp only [List.length_append]
        omega
      simp [asgT, evB, evS, evE, evEs, evL, evI, o1, o3, q2, e1, sz]
      rw [hmap _ (by
        intro c
        simp [asgT, wipeA, evC, evE, evEs, tA, Res.bind, Res.nox])]
      have hlt := get_lt hc2
      simp only [List.length_append] at sz2
      simp [e1, hlt, -List.length_flatMap]
      exact ⟨by omega, hk2.setNew (Nat.le_refl _) _⟩
    · rintro σ s2 ⟨⟨y', y'', rfl⟩, hc2, hk2⟩
      exact ⟨_, rfl, ⟨_, _, _, rfl⟩, by rw [hc2]; simp [tripJ], hk2⟩
    · rintro _ s2 ⟨σ, rfl, h1, h2, h3⟩
      refine ⟨h1, ?_, h3⟩
      simpa using h2
    · exact fun _ _ h => h
  · rintro σ s1 ⟨⟨z, z', z'', rfl⟩, hc, hk⟩
    exact ⟨_, rfl, rfl, by rw [hc]; rfl, hk⟩
  · rintro _ s1 ⟨σ, rfl, h1, hc, hk⟩
    have e1 := itemsL_c _ hc
    simp [h1, e1]
    exact hk.setNew (Nat.le_refl _) _
  · exact fun _ _ h => h
end K59
end

section
set_option Elab.async false
set_option linter.all false
namespace K59
open PySem Dy
def optA : Option T3 → A
  | none => .non
  | some t => tA t
theorem abs_lt_of {a : Int} {k : Nat} (h0 : 0 ≤ a) (h : a < 2 ^ k) : a.natAbs < 2 ^ k := by
  have : (a.natAbs : Int) < ((2 ^ k : Nat) : Int) := by rw [Int.natCast_pow]; simpa [Int.natAbs_of_nonneg h0] using h
  omega
theorem lt_of_abs {a : Int} {k : Nat} (h : a.natAbs < 2 ^ k) : a < 2 ^ k := by
  have : (a.natAbs : Int) < ((2 ^ k : Nat) : Int) := by omega
  rw [Int.natCast_pow] at this
  have h2 : a ≤ (a.natAbs : Int) := by omega
  exact Int.lt_of_le_of_lt h2 this
theorem ipow_le {a b : Nat} (h : a ≤ b) : (2 : Int) ^ a ≤ 2 ^ b := by
  have h1 : (2 : Nat) ^ a ≤ 2 ^ b := Nat.pow_le_pow_right (by omega) h
  have e : ∀ k : Nat, ((2 ^ k : Nat) : Int) = 2 ^ k := fun k => by rw [Int.natCast_pow]; rfl
  rw [← e a, ← e b]
  exact Int.ofNat_le.2 h1
theorem gd_pos {fs : List F} (h : Gd fs) : ∀ p ∈ fs, 0 < p.2 := fun p hp => (h.2 p hp).1.1
theorem gd_lcm {fs : List F} (h : Gd fs) {done rest : List F} (e : fs = done ++ rest) : 0 < lcmL 1 done ∧ lcmL 1 done < 2 ^ 411 := by
  have hp : ∀ p ∈ done, 0 < p.2 ∧ p.2 < 2 ^ 10 := fun p hp => by
    have hm : p ∈ fs := by rw [e]; simp [hp]
    exact ⟨gd_pos h p hm, (h.2 p hm).2.2⟩
  have h1 := (lcmL_ok (m := 1) (by omega) (fun p h' => (hp p h').1)).1
  have h2 := lcmL_le (d := 10) (e := 1) (m := 1) (by omega) (by omega) hp
  refine ⟨h1, Int.lt_of_lt_of_le h2 ?_⟩
  have hl : done.length ≤ 40 := by
    have := h.1
    rw [e, List.length_append] at this
    omega
  exact ipow_le (by omega)
theorem bd_app {fs : List F} {p : F} (h : Gd fs) (hp : Gp p) : Bd (fs ++ [p]) := by
  obtain ⟨⟨hp0, _⟩, hp1, hp2, hp3⟩ := hp
  refine ⟨by have := h.1; simp; omega, ?_, ?_⟩
  · intro q hq
    rcases List.mem_append.1 hq with hq | hq
    · obtain ⟨h1, h2, h3⟩ := h.2 q hq
      exact ⟨h1.1, lt_two_pow (abs_pos_lt h1.1 h3) (by omega), lt_two_pow h2 (by omega)⟩
    · have : q = p := by simpa using hq
      subst this
      exact ⟨hp0, lt_two_pow (abs_pos_lt hp0 hp3) (by omega), hp2⟩
  · intro done rest e
    rcases List.eq_nil_or_concat rest with rfl | ⟨rest', x, rfl⟩
    · rw [List.append_nil] at e
      subst e
      obtain ⟨h1, h2⟩ := gd_lcm h (done := fs) (rest := []) (by simp)
      have h3 := lcmS_ok h1 hp0
      have e1 : lcmL 1 (fs ++ [p]) = lcmS (lcmL 1 fs) p := by rw [lcmL_app]; rfl
      rw [e1]
      apply abs_pos_lt h3.1
      have h4 : lcmL 1 fs * p.2 < 2 ^ 411 * 2 ^ 4000 := Int.mul_lt_mul h2 (by omega) hp0 (by omega)
      have h5 : (2 : Int) ^ 411 * 2 ^ 4000 ≤ 2 ^ 5000 := by
        rw [← Int.pow_add]
        exact ipow_le (by omega)
      exact Int.lt_of_le_of_lt h3.2.2.2 (Int.lt_of_lt_of_le h4 h5)
    · have e2 : fs = done ++ rest' := by
        have : fs ++ [p] = (done ++ rest') ++ [x] := by rw [e]; simp
        exact (List.append_inj' this rfl).1
      obtain ⟨h1, h2⟩ := gd_lcm h e2
      exact lt_two_pow (abs_pos_lt h1 h2) (by omega)
theorem bd_of {fs : List F} (h : Gd fs) : Bd fs := by
  refine ⟨by have := h.1; omega, ?_, ?_⟩
  · intro q hq
    obtain ⟨h1, h2, h3⟩ := h.2 q hq
    exact ⟨h1.1, lt_two_pow (abs_pos_lt h1.1 h3) (by omega), lt_two_pow h2 (by omega)⟩
  · intro done rest e
    obtain ⟨h1, h2⟩ := gd_lcm h e
    exact lt_two_pow (abs_pos_lt h1 h2) (by omega)
theorem vals_lt {fs : List F} (h : Bd fs) : ∀ w ∈ vals (lcmL 1 fs) fs, w.natAbs < 2 ^ 9000 := by
  obtain ⟨_, hp, hs⟩ := h
  intro w hw
  simp only [vals, List.mem_map] at hw
  obtain ⟨p, hpm, rfl⟩ := hw
  have h0 := (hp p hpm).1
  have h2 := (hp p hpm).2.2
  have hM := hs fs [] (by simp)
  have hM0 : 0 < lcmL 1 fs := (lcmL_ok (by omega) (fun p h => (hp p h).1)).1
  exact lt_two_pow (abs_mul_lt h2 (ediv_lt hM0 h0 hM)) (by omega)
theorem at_last {α : Type} (xs : List α) (a : α) : L2.atI (xs ++ [a]) (-1) = some a := by
  have h : L2.ixN (xs ++ [a]).length (-1) = some xs.length := by
    simp [L2.ixN]
    omega
  unfold L2.atI
  rw [h]
  simp
theorem break59 {n : Nat} (hn : 3 ≤ n) {fs : List F} {p : F} {v : A} {s : S} (hv : Row v fs) (hg : Gd fs) (hp : Gp p) :
    wp (callF G cs n 9 [v, fA p] s) (fun a s' => a = optA (breakOf fs p) ∧ Kb none s s') := by
  refine wp_call (d := d_first_break) rfl (by omega) rfl ?_
  have hbd := bd_app hg hp
  have e6 : ∀ s, callF G cs (n - 1) 6 [.lst ((fs ++ [p]).map fA)] s = _ := fun s => tops59 (by omega) hbd (.inl rfl)
  have e7 : ∀ s, wp (callF G cs (n - 1) 7 [.int fs.length] s) _ := fun s => triples59 (by omega) (by have := hg.1; omega)
  have e8 : ∀ t s, t ∈ trip fs.length → callF G cs (n - 1) 8 [.lst ((vals (lcmL 1 (fs ++ [p])) (fs ++ [p])).map .int), tA t] s = .ok (.int (need (vals (lcmL 1 (fs ++ [p])) (fs ++ [p])) t)) s := by
    intro t s ht
    have h3 := mem_trip ht
    have hl : (vals (lcmL 1 (fs ++ [p])) (fs ++ [p])).length = fs.length + 1 := by simp [vals]
    have := hg.1
    exact lack59 (by omega) (by omega) (by omega) (by omega) (by omega) (vals_lt hbd)
  generalize callF G cs (n - 1) = cf at e6 e7 e8
  have hpos : ∀ q ∈ fs ++ [p], 0 < q.2 := fun q hq => (hbd.2.1 q hq).1
  have hdiv := div_lcm hpos
  have hdf : Div (lcmL 1 (fs ++ [p])) fs := ⟨hdiv.1, fun q hq => hdiv.2 q (by simp [hq])⟩
  have hpd : 0 < p.2 ∧ p.2 ∣ lcmL 1 (fs ++ [p]) := hdiv.2 p (by simp)
  have hlast : vals (lcmL 1 (fs ++ [p])) (fs ++ [p]) = vals (lcmL 1 (fs ++ [p])) fs ++ [val (lcmL 1 (fs ++ [p])) p] := by simp [vals, val]
  have hvs : small (val (lcmL 1 (fs ++ [p])) p) = true := smallp (vals_lt hbd _ (by rw [hlast]; simp)) (by omega)
  have hneed : ∀ t ∈ trip fs.length, need (vals (lcmL 1 (fs ++ [p])) (fs ++ [p])) t = need (vals (lcmL 1 (fs ++ [p])) fs) t := by
    intro t ht
    have h3 := mem_trip ht
    have hl : (vals (lcmL 1 (fs ++ [p])) fs).length = fs.length := by simp [vals]
    have hgd : ∀ i, i < fs.length → (vals (lcmL 1 (fs ++ [p])) (fs ++ [p])).getD i 0 = (vals (lcmL 1 (fs ++ [p])) fs).getD i 0 := by
      intro i hi
      rw [hlast, List.getD_eq_getElem?_getD, List.getElem?_append_left (by omega), ← List.getD_eq_getElem?_getD]
    unfold need
    rw [hgd _ (by omega), hgd _ (by omega), hgd _ (by omega)]
  have hbrk : ∀ t ∈ trip fs.length, brk (lcmL 1 (fs ++ [p])) (vals (lcmL 1 (fs ++ [p])) fs) p t = decide (val (lcmL 1 (fs ++ [p])) p * gap t < need (vals (lcmL 1 (fs ++ [p])) (fs ++ [p])) t) := by
    intro t ht
    rw [hneed t ht]
    have hvm := val_mul hpd.2
    unfold brk
    rw [decide_eq_decide]
    have c1 : p.1 * gap t * lcmL 1 (fs ++ [p]) = val (lcmL 1 (fs ++ [p])) p * gap t * p.2 := by grind
    rw [c1]
    constructor
    · intro h; exact Int.lt_of_mul_lt_mul_right h (by omega)
    · intro h; exact Int.mul_lt_mul_of_pos_right h hpd.1
  have hfind := break_at (p := p) hdf
  have hat : ∀ s, idxV s (.lst ((vals (lcmL 1 (fs ++ [p])) (fs ++ [p])).map .int)) (.int (-1)) = some (.int (val (lcmL 1 (fs ++ [p])) p)) := by
    intro s
    rw [idxV_l, hlast, List.map_append]
    exact at_last _ _
  have hmp : fs.map fA ++ [fA p] = (fs ++ [p]).map fA := by simp
  have hsz : fs.length + 1 ≤ sizeLine := Nat.le_trans (by have := hg.1; omega : fs.length + 1 ≤ 41) (by decide)
  rw [hfind]
  generalize hM : lcmL 1 (fs ++ [p]) = M at *
  generalize hW : vals M (fs ++ [p]) = W at *
  generalize hV : val M p = V at *
  have loop : ∀ (s1 : S) (σ0 : Dy.Env) (v : A), σ0 = [some v, some (fA p), some (.lst (W.map .int)), some (.int M), none] → Kb none s s1 →
      wpe (forR none (fun x σ' s2 => (asgT cf cs (.v 4) x σ' s2).bindX σ' fun σ2 s3 => evB cf cs (.cons (.iff (.cmp .gt (.call 8 (.cons (.v 2) (.cons (.v 4) (.nil)))) (.bin .mul (.idx (.v 2) (.neg (.c (.int 1)))) (.bin .sub (.idx (.v 4) (.c (.int 1))) (.idx (.v 4) (.c (.int 0)))))) (.cons (.ret (.v 4)) (.nil)) (.nil)) (.nil)) σ2 s3) ((trip fs.length).map tA) σ0 s1)
        (fun fl s' => Kb none s s' ∧ ((∃ σ, fl = .nx σ ∧ (trip fs.length).find? (brk M (vals M fs) p) = none) ∨ ∃ t, fl = .rt (tA t) ∧ (trip fs.length).find? (brk M (vals M fs) p) = some t)) (fun _ _ => False) := by
    intro s1 σ0 v hσ hk
    refine wp_forL (fun done σ s' => (∃ z, σ = [some v, some (fA p), some (.lst (W.map .int)), some (.int M), z]) ∧ Kb none s s' ∧ ∀ t ∈ done, brk M (vals M fs) p t = false) ⟨⟨none, hσ⟩, hk, by simp⟩ ?_ ?_
    · intro done t rest σ s2 e h
      obtain ⟨h1, hk2, hd⟩ := h
      obtain ⟨z, h1⟩ := h1
      subst h1
      have ht : t ∈ trip fs.length := by rw [e]; simp
      have h8 := fun s => e8 t s ht
      have hb := hbrk t ht
      have h3 := mem_trip ht
      have sm2 : small ((t.2.1 : Int) - (t.1 : Int)) = true := smallp (k := 10) (by have := hg.1; omega) (by omega)
      have hgap : gap t = (t.2.1 : Int) - (t.1 : Int) := rfl
      by_cases hc : V * ((t.2.1 : Int) - (t.1 : Int)) < need W t
      · have hb' : brk M (vals M fs) p t = true := by rw [hb, hgap]; exact decide_eq_true hc
        have hf : (trip fs.length).find? (brk M (vals M fs) p) = some t := by
          rw [e, List.find?_append, List.find?_eq_none.2 (by intro u hu; simp [hd u hu])]
          simp [hb']
        have it : ∀ s, idxV s (tA t) (.int 1) = some (.int t.2.1) ∧ idxV s (tA t) (.int 0) = some (.int t.1) := fun s => by simp [tA]
        simp [asgT, evB, evS, evE, evEs, h8, hat, it, hvs, sm2, hc, hf, hk2]
      · have hb' : brk M (vals M fs) p t = false := by rw [hb, hgap]; exact decide_eq_false hc
        have it : ∀ s, idxV s (tA t) (.int 1) = some (.int t.2.1) ∧ idxV s (tA t) (.int 0) = some (.int t.1) := fun s => by simp [tA]
        simp [asgT, evB, evS, evE, evEs, h8, hat, it, hvs, sm2, hc, hk2]
        intro a b c hu
        rcases hu with hu | hu
        · exact hd _ hu
        · rw [hu]; exact hb'
    · intro σ s2 h
      obtain ⟨h1, hk2, hd⟩ := h
      exact ⟨hk2, .inl ⟨σ, rfl, List.find?_eq_none.2 (by intro u hu; simp [hd u hu])⟩⟩
  have fin : ∀ fl s', (Kb none s s' ∧ ((∃ σ, fl = Fl.nx σ ∧ (trip fs.length).find? (brk M (vals M fs) p) = none) ∨ ∃ t, fl = Fl.rt (tA t) ∧ (trip fs.length).find? (brk M (vals M fs) p) = some t)) →
      wpe (match fl with | .nx σ' => Res.ok (.rt .non) s' | .bk σ' => .ok (.bk σ') s' | .ct σ' => .ok (.ct σ') s' | .rt a => .ok (.rt a) s' | .ex x σ' => .ok (.ex x σ') s') (flQ (fun a s' => a = optA ((trip fs.length).find? (brk M (vals M fs) p)) ∧ Kb none s s') (fun _ _ => False)) (fun _ _ => False) := by
    rintro fl s' ⟨hk, ⟨σ, rfl, h⟩ | ⟨t, rfl, h⟩⟩
    · rw [h]; exact ⟨rfl, hk⟩
    · rw [h]; exact ⟨rfl, hk⟩
  rcases hv with rfl | rfl
  · simp [d_first_break, evB, evS, evE, evEs, evL, evI, asgT, asgTs, hmp, hsz, e6, -List.map_append]
    refine wp_use (e7 s) ?_
    rintro _ s1 ⟨rfl, hk⟩
    simp
    refine wpe_mono (loop s1 _ _ rfl hk) ?_ (fun _ _ h => h)
    intro fl s' h
    exact fin fl s' h
  · simp [d_first_break, evB, evS, evE, evEs, evL, evI, asgT, asgTs, hmp, hsz, e6, -List.map_append]
    refine wp_use (e7 s) ?_
    rintro _ s1 ⟨rfl, hk⟩
    simp
    refine wpe_mono (loop s1 _ _ rfl hk) ?_ (fun _ _ h => h)
    intro fl s' h
    exact fin fl s' h
end K59
end

section
set_option Elab.async false
set_option linter.all false
namespace K59
open PySem Dy
theorem convex59 {n : Nat} (hn : 4 ≤ n) {fs : List F} {p : F} {v : A} {s : S} (hv : Row v fs) (h1 : 1 ≤ fs.length) (hg : Gd fs) (hp : Gp p) :
    wp (callF G cs n 10 [v, fA p] s) (fun a s' => a = .bl (breakOf fs p == none) ∧ Kb none s s') := by
  refine wp_call (d := d_is_k_convex) rfl (by omega) rfl ?_
  have e4 : ∀ s, callF G cs (n - 1) 4 [v] s = .ok .non s := fun s => numbers59 (by omega) hv h1 hg.1 (fun p hp => (hg.2 p hp).1)
  have e5 : ∀ s, callF G cs (n - 1) 5 [fA p] s = .ok .non s := fun s => price59 (by omega) hp.1 hp.2.1
  have e9 : ∀ s, wp (callF G cs (n - 1) 9 [v, fA p] s) _ := fun s => break59 (by omega) hv hg hp
  generalize callF G cs (n - 1) = cf at e4 e5 e9
  simp [d_is_k_convex, evB, evS, evE, evEs, e4, e5]
  refine wp_use (e9 s) ?_
  rintro _ s1 ⟨rfl, hk⟩
  cases breakOf fs p <;> simp [optA, tA, hk]
theorem kbreak59 {n : Nat} (hn : 4 ≤ n) {fs : List F} {p : F} {v : A} {s : S} (hv : Row v fs) (h1 : 1 ≤ fs.length) (hg : Gd fs) (hp : Gp p) :
    wp (callF G cs n 11 [v, fA p] s) (fun a s' => a = optA (breakOf fs p) ∧ Kb none s s') := by
  refine wp_call (d := d_k_break) rfl (by omega) rfl ?_
  have e4 : ∀ s, callF G cs (n - 1) 4 [v] s = .ok .non s := fun s => numbers59 (by omega) hv h1 hg.1 (fun p hp => (hg.2 p hp).1)
  have e5 : ∀ s, callF G cs (n - 1) 5 [fA p] s = .ok .non s := fun s => price59 (by omega) hp.1 hp.2.1
  have e9 : ∀ s, wp (callF G cs (n - 1) 9 [v, fA p] s) _ := fun s => break59 (by omega) hv hg hp
  generalize callF G cs (n - 1) = cf at e4 e5 e9
  simp [d_k_break, evB, evS, evE, evEs, e4, e5]
  refine wp_use (e9 s) ?_
  rintro _ s1 ⟨rfl, hk⟩
  simp [hk]
theorem gap_lt {n : Nat} (h : n ≤ 41) {t : T3} (ht : t ∈ trip n) : (gap t).natAbs < 2 ^ 10 := by
  have := mem_trip ht
  unfold gap
  omega
theorem sub_lt' {x y : Int} {k : Nat} (hx : x.natAbs < 2 ^ k) (hy : y.natAbs < 2 ^ k) : (x - y).natAbs < 2 ^ (k + 1) := by
  have : (2 : Nat) ^ (k + 1) = 2 ^ k * 2 := Nat.pow_succ 2 k
  omega
theorem add_lt' {x y : Int} {k : Nat} (hx : x.natAbs < 2 ^ k) (hy : y.natAbs < 2 ^ k) : (x + y).natAbs < 2 ^ (k + 1) := by
  have : (2 : Nat) ^ (k + 1) = 2 ^ k * 2 := Nat.pow_succ 2 k
  omega
/-- the values of a row of the law -/
theorem gvals_lt {fs : List F} (h : Gd fs) : ∀ w ∈ vals (lcmL 1 fs) fs, w.natAbs < 2 ^ 435 := by
  intro w hw
  simp only [vals, List.mem_map] at hw
  obtain ⟨p, hpm, rfl⟩ := hw
  have h0 := (h.2 p hpm).1.1
  have h2 := (h.2 p hpm).2.1
  have hM := gd_lcm h (done := fs) (rest := []) (by simp)
  exact lt_two_pow (abs_mul_lt h2 (ediv_lt hM.1 h0 (abs_pos_lt hM.1 hM.2))) (by omega)
theorem need_lt {ws : List Int} {n : Nat} (hn : n ≤ 41) (hl : ws.length = n) (hw : ∀ w ∈ ws, w.natAbs < 2 ^ 435) {t : T3} (ht : t ∈ trip n) : (need ws t).natAbs < 2 ^ 447 := by
  have h3 := mem_trip ht
  have hg : ∀ i, i < n → (ws.getD i 0).natAbs < 2 ^ 435 := by
    intro i hi
    have : ws.getD i 0 ∈ ws := by
      rw [List.getD_eq_getElem?_getD, List.getElem?_eq_getElem (by omega)]
      exact List.getElem_mem _
    exact hw _ this
  have hk : ∀ x y : Nat, x < n → y < n → ((x : Int) - (y : Int)).natAbs < 2 ^ 10 := by intro x y hx hy; omega
  unfold need
  exact lt_two_pow (sub_lt' (abs_mul_lt (sub_lt' (hg _ (by omega)) (hg _ (by omega))) (hk _ _ (by omega) (by omega))) (abs_mul_lt (sub_lt' (hg _ (by omega)) (hg _ (by omega))) (hk _ _ (by omega) (by omega)))) (by omega)
theorem best_pref {ws : List Int} {n : Nat} (hn : n ≤ 41) (hl : ws.length = n) (hw : ∀ w ∈ ws, w.natAbs < 2 ^ 435) {done : List T3} (hd : ∀ t ∈ done, t ∈ trip n) :
    (best ws done).1.natAbs < 2 ^ 447 ∧ (best ws done).2.natAbs < 2 ^ 10 ∧ 0 < (best ws done).2 := by
  obtain ⟨_, b1, _, _, b2⟩ := best_foldl (ws := ws) (ts := done) (b := (0, 1)) (fun t ht => gap_pos (hd t ht)) (by simp) (by simp)
  change (0 < (best ws done).2) at b1
  change (best ws done = (0, 1) ∨ ∃ t ∈ done, best ws done = (need ws t, gap t)) at b2
  rcases b2 with h | ⟨t, ht, h⟩
  · rw [h]
    exact ⟨by simp only [Int.natAbs_zero]; exact Nat.two_pow_pos _, by decide, by decide⟩
  · refine ⟨?_, ?_, b1⟩
    · rw [h]; exact need_lt hn hl hw (hd t ht)
    · rw [h]; exact gap_lt hn (hd t ht)
theorem least59 {n : Nat} (hn : 3 ≤ n) {fs : List F} {v : A} {s : S} (hv : Row v fs) (h1 : 1 ≤ fs.length) (hg : Gd fs) :
    wp (callF G cs n 12 [v] s) (fun a s' => a = fA (leastOf fs) ∧ Kb none s s') := by
  refine wp_call (d := d_least_price) rfl (by omega) rfl ?_
  have hbd := bd_of hg
  have e4 : ∀ s, callF G cs (n - 1) 4 [v] s = .ok .non s := fun s => numbers59 (by omega) hv h1 hg.1 (fun p hp => (hg.2 p hp).1)
  have e6 : ∀ s, callF G cs (n - 1) 6 [v] s = _ := fun s => tops59 (by omega) hbd hv
  have e7 : ∀ s, wp (callF G cs (n - 1) 7 [.int fs.length] s) _ := fun s => triples59 (by omega) (by have := hg.1; omega)
  have hl : (vals (lcmL 1 fs) fs).length = fs.length := by simp [vals]
  have e8 : ∀ t s, t ∈ trip fs.length → callF G cs (n - 1) 8 [.lst ((vals (lcmL 1 fs) fs).map .int), tA t] s = .ok (.int (need (vals (lcmL 1 fs) fs) t)) s := by
    intro t s ht
    have h3 := mem_trip ht
    have := hg.1
    exact lack59 (by omega) (by omega) (by omega) (by omega) (by omega) (vals_lt hbd)
  have e0 : ∀ a b s, 0 < b → b.natAbs < 2 ^ 7999 → callF G cs (n - 1) 0 [.int a, .int b] s = .ok (fA (lowP a b)) s := fun a b s h h' => lowest59 (by omega) h h'
  generalize callF G cs (n - 1) = cf at e4 e6 e7 e8 e0
  have hw := gvals_lt hg
  have hM := gd_lcm hg (done := fs) (rest := []) (by simp)
  have hlen : fs.length ≤ 41 := by have := hg.1; omega
  have hleast : leastOf fs = lowP (best (vals (lcmL 1 fs) fs) (trip fs.length)).1 ((best (vals (lcmL 1 fs) fs) (trip fs.length)).2 * lcmL 1 fs) := rfl
  rw [hleast]
  generalize lcmL 1 fs = M at *
  generalize vals M fs = W at *
  have smM : small M = true := smallp (abs_pos_lt hM.1 hM.2) (by omega)
  have loop : ∀ (s1 : S) (σ0 : Dy.Env), σ0 = [some v, some (.lst (W.map .int)), some (.int M), some (fA (0, 1)), none, none, none] → Kb none s s1 →
      wpe (forR none (fun x σ' s2 => (asgT cf cs (.v 4) x σ' s2).bindX σ' fun σ2 s3 => evB cf cs (.cons (.par [5, 6] (.cons (.call 8 (.cons (.v 1) (.cons (.v 4) (.nil)))) (.cons (.bin .sub (.idx (.v 4) (.c (.int 1))) (.idx (.v 4) (.c (.int 0)))) (.nil)))) (.cons (.iff (.cmp .gt (.bin .mul (.v 5) (.idx (.v 3) (.c (.int 1)))) (.bin .mul (.idx (.v 3) (.c (.int 0))) (.v 6))) (.cons (.asg (.v 3) (.tup (.cons (.v 5) (.cons (.v 6) (.nil))))) (.nil)) (.nil)) (.nil))) σ2 s3) ((trip fs.length).map tA) σ0 s1)
        (fun fl s' => ∃ z z' z'', fl = .nx [some v, some (.lst (W.map .int)), some (.int M), some (fA (best W (trip fs.length))), z, z', z''] ∧ Kb none s s') (fun _ _ => False) := by
    intro s1 σ0 hσ hk
    refine wp_forL (fun done σ s' => (∃ z z' z'', σ = [some v, some (.lst (W.map .int)), some (.int M), some (fA (best W done)), z, z', z'']) ∧ Kb none s s') ⟨⟨none, none, none, hσ⟩, hk⟩ ?_ ?_
    · intro done t rest σ s2 e h
      obtain ⟨h1, hk2⟩ := h
      obtain ⟨z, z', z'', h1⟩ := h1
      subst h1
      have ht : t ∈ trip fs.length := by rw [e]; simp
      have h8 := fun s => e8 t s ht
      have hgap : gap t = (t.2.1 : Int) - (t.1 : Int) := rfl
      have sg : small ((t.2.1 : Int) - (t.1 : Int)) = true := smallp (by rw [← hgap]; exact gap_lt hlen ht) (by omega)
      have sn : small (need W t) = true := smallp (need_lt hlen hl hw ht) (by omega)
      obtain ⟨q1, q2, q3⟩ := best_pref hlen hl hw (done := done) (fun u hu => by rw [e]; simp [hu])
      have sb1 : small (best W done).1 = true := smallp q1 (by omega)
      have sb2 : small (best W done).2 = true := smallp q2 (by omega)
      have it : ∀ s, idxV s (tA t) (.int 1) = some (.int t.2.1) ∧ idxV s (tA t) (.int 0) = some (.int t.1) := fun s => by simp [tA]
      have hb : best W (done ++ [t]) = bestS W (best W done) t := by simp [best]
      rw [hb]
      unfold bestS
      by_cases hc : (best W done).1 * ((t.2.1 : Int) - (t.1 : Int)) < need W t * (best W done).2
      · simp [asgT, setsA, evB, evS, evE, evEs, h8, it, sg, sn, sb1, sb2, hc, hk2, idx0, idx1, hgap, fA_def]
      · simp [asgT, setsA, evB, evS, evE, evEs, h8, it, sg, sn, sb1, sb2, hc, hk2, idx0, idx1, hgap]
    · intro σ s2 h
      obtain ⟨h1, hk2⟩ := h
      obtain ⟨z, z', z'', h1⟩ := h1
      subst h1
      exact ⟨z, z', z'', rfl, hk2⟩
  obtain ⟨q1, q2, q3⟩ := best_pref hlen hl hw (done := trip fs.length) (fun u hu => hu)
  have sb1 : small (best W (trip fs.length)).1 = true := smallp q1 (by omega)
  have sb2 : small (best W (trip fs.length)).2 = true := smallp q2 (by omega)
  have e0' : ∀ s, cf 0 [.int (best W (trip fs.length)).1, .int ((best W (trip fs.length)).2 * M)] s = .ok (fA (lowP (best W (trip fs.length)).1 ((best W (trip fs.length)).2 * M))) s := by
    intro s
    exact e0 _ _ _ (Int.mul_pos q3 hM.1) (lt_two_pow (abs_mul_lt q2 (abs_pos_lt hM.1 hM.2)) (by omega))
  have hz : (A.tup [.int 0, .int 1]) = fA (0, 1) := rfl
  rcases hv with rfl | rfl
  · simp [d_least_price, evB, evS, evE, evEs, evI, asgT, asgTs, e4, e6, cs, hz]
    refine wp_use (e7 s) ?_
    rintro _ s1 ⟨rfl, hk⟩
    simp
    refine wpe_mono (loop s1 _ rfl hk) ?_ (fun _ _ h => h)
    rintro _ s2 ⟨z, z', z'', rfl, hk2⟩
    simp [evB, evS, evE, evEs, idx0, idx1, sb2, smM, e0', hk2]
  · simp [d_least_price, evB, evS, evE, evEs, evI, asgT, asgTs, e4, e6, cs, hz]
    refine wp_use (e7 s) ?_
    rintro _ s1 ⟨rfl, hk⟩
    simp
    refine wpe_mono (loop s1 _ rfl hk) ?_ (fun _ _ h => h)
    rintro _ s2 ⟨z, z', z'', rfl, hk2⟩
    simp [evB, evS, evE, evEs, idx0, idx1, sb2, smM, e0', hk2]
end K59
end

section
set_option Elab.async false
set_option maxRecDepth 20000
set_option linter.all false
namespace K59
open PySem Dy
theorem sh59 {n : Nat} (hn : 1 ≤ n) {a b : Int} {s : S} (ha : 0 < a) (hb : 0 < b) (hs : b.natAbs < 2 ^ 1900) :
    callF G cs n 23 [.int a, .int b] s = .ok (.int ((Nat.gcd a.natAbs b.natAbs : Nat) : Int)) s := by
  apply eq_of_wp
  refine wp_call (d := d_law_shared) rfl hn rfl ?_
  generalize callF G cs (n - 1) = cf
  have hlen : (rngL 0 4000).length = 4000 := rngL_lenW _ _
  have hb0 : ¬ b = 0 := by omega
  simp [d_law_shared, evB, evS, evE, evEs, evI, setsA, ok62]
  refine wp_for (fun ys σ s' => s' = s ∧ ∃ (x y : Nat) (z : Option A), σ = [some (.int x), some (.int y), z] ∧ Nat.gcd x y = Nat.gcd a.natAbs b.natAbs ∧
    ((ys.length = 4000 ∧ (y : Int) = b) ∨ (y < x ∧ x * y < 2 ^ ys.length))) ?_ ?_ ?_
  · exact ⟨rfl, a.natAbs, b.natAbs, none, by simp; omega, rfl, .inl ⟨hlen, by omega⟩⟩
  · rintro z ys σ _ ⟨rfl, x, y, w, rfl, hg1, hy⟩
    by_cases h0 : y = 0
    · subst h0
      rcases hy with hy | hy
      · omega
      have hx : x = Nat.gcd a.natAbs b.natAbs := by simpa using hg1
      simp [asgT, evB, evS, evE, evEs, hx]
    · have hy0 : 0 < y := by omega
      simp [asgT, evB, evS, evE, evEs, h0, setsA, hy0]
      refine ⟨y, x % y, by simp, ?_, ?_⟩
      · rw [← hg1, Nat.gcd_comm x y, Nat.gcd_rec y x, Nat.gcd_comm]
      · right
        refine ⟨Nat.mod_lt _ hy0, ?_⟩
        rcases hy with ⟨hl, hb'⟩ | ⟨h1, h2⟩
        · have hl' : ys.length = 3999 := by simpa using hl
          rw [hl']
          have hyb : y < 2 ^ 1900 := by omega
          have h3 : x % y < y := Nat.mod_lt _ hy0
          calc y * (x % y) ≤ y * y := Nat.mul_le_mul_left _ (by omega)
            _ < 2 ^ 1900 * 2 ^ 1900 := Nat.mul_lt_mul'' hyb hyb
            _ = 2 ^ 3800 := by rw [← Nat.pow_add]
            _ ≤ 2 ^ 3999 := Nat.pow_le_pow_right (by omega) (by omega)
        · exact (euclid_turn hy0 h1 h2).2.1
  · rintro σ _ ⟨rfl, x, y, z, rfl, hg1, hy⟩
    rcases hy with ⟨hl, _⟩ | ⟨h1, h2⟩
    · simp at hl
    have hxy : x * y = 0 := by simpa using h2
    have h0 : y = 0 := by
      rcases Nat.mul_eq_zero.1 hxy with h | h <;> omega
    subst h0
    have hx : x = Nat.gcd a.natAbs b.natAbs := by simpa using hg1
    simp [evB, evS, evE, evEs, hx]
def needA (ws : List Int) (t : T3) : A := .tup [.int (need ws t), .int (gap t), tA t]
theorem needs59 {n : Nat} (hn : 2 ≤ n) {fs : List F} {v : A} {s : S} (hv : Row v fs) (hg : Gd fs) :
    wp (callF G cs n 22 [v] s) (fun a s' => a = .lst [.int (lcmL 1 fs), .lst ((trip fs.length).map (needA (vals (lcmL 1 fs) fs)))] ∧ Kb none s s') := by
  refine wp_call (d := d_law_needs) rfl (by omega) rfl ?_
  have e23 : ∀ a b s, 0 < a → 0 < b → b.natAbs < 2 ^ 1900 → callF G cs (n - 1) 23 [.int a, .int b] s = .ok (.int ((Nat.gcd a.natAbs b.natAbs : Nat) : Int)) s := fun a b s ha hb h => sh59 (by omega) ha hb h
  generalize callF G cs (n - 1) = cf at e23
  have hlen := hg.1
  have hM := gd_lcm hg (done := fs) (rest := []) (by simp)
  have hl : (vals (lcmL 1 fs) fs).length = fs.length := by simp [vals]
  have hls : fs.length ≤ sizeLine := Nat.le_trans hlen (by decide)
  have hw := gvals_lt hg
  -- the common multiple
  have loop1 : ∀ (v : A) (s1 : S) , 
      wpe (forR none (fun x σ' s2 => (asgT cf cs (.tup (.cons (.v 3) (.cons (.v 4) (.nil)))) x σ' s2).bindX σ' fun σ2 s3 => evB cf cs (.cons (.asg (.v 1) (.bin .mul (.v 1) (.bin .fdiv (.v 4) (.call 23 (.cons (.v 1) (.cons (.v 4) (.nil))))))) (.nil)) σ2 s3) (fs.map fA) [some v, some (.int 1), some (.cell s.length), none, none, none, none, none, none, none, none] s1)
        (fun fl s' => s' = s1 ∧ ∃ z z', fl = .nx [some v, some (.int (lcmL 1 fs)), some (.cell s.length), z, z', none, none, none, none, none, none]) (fun _ _ => False) := by
    intro v s1
    refine wp_forL (fun done σ s' => s' = s1 ∧ ∃ z z', σ = [some v, some (.int (lcmL 1 done)), some (.cell s.length), z, z', none, none, none, none, none, none]) ⟨rfl, none, none, rfl⟩ ?_ ?_
    · rintro done p rest σ _ e ⟨rfl, z, z', rfl⟩
      have hpm : p ∈ fs := by rw [e]; simp
      have h0 := (hg.2 p hpm).1.1
      have h1 : p.2.natAbs < 2 ^ 10 := abs_pos_lt h0 (hg.2 p hpm).2.2
      have hd := gd_lcm hg (done := done) (rest := p :: rest) e
      have hgp := gcd_pos' (a := lcmL 1 done) h0
      have sm1 : small (lcmL 1 done) = true := smallp (abs_pos_lt hd.1 hd.2) (by omega)
      have hq : (p.2 / ((Nat.gcd (lcmL 1 done).natAbs p.2.natAbs : Nat) : Int)).natAbs < 2 ^ 10 := ediv_lt h0 hgp h1
      have sm2 : small (p.2 / ((Nat.gcd (lcmL 1 done).natAbs p.2.natAbs : Nat) : Int)) = true := smallp hq (by omega)
      have h3 : Nat.gcd (lcmL 1 done).natAbs p.2.natAbs < 2 ^ 8000 := gcd_lt h0 (lt_two_pow h1 (by omega))
      have h5 : ¬ (p.2 = 0) := by omega
      have e23' := fun s => e23 (lcmL 1 done) p.2 s hd.1 h0 (lt_two_pow h1 (by omega))
      have h6 : lcmL 1 (done ++ [p]) = lcmL 1 done * (p.2 / ((Nat.gcd (lcmL 1 done).natAbs p.2.natAbs : Nat) : Int)) := by rw [lcmL_app]; exact lcmS_eq _ _
      rw [h6]
      simp [asgT, asgTs, fA_def, evB, evS, evE, evEs, sm1, sm2, h3, h5, e23']
    · rintro σ _ ⟨rfl, z, z', rfl⟩
      exact ⟨rfl, z, z', rfl⟩
  have hdiv := (div_lcm (gd_pos hg)).2
  generalize lcmL 1 fs = M at *
  have smM : small M = true := smallp (abs_pos_lt hM.1 hM.2) (by omega)
  have hm : ∀ (f : A → S → Res (Option A)) (s : S), (∀ p ∈ fs, f (fA p) s = .ok (some (.int (p.1 * (M / p.2)))) s) → mapR none f (fs.map fA) s = .ok ((vals M fs).map .int) s := by
    intro f s hf
    have := map_eqL (i := fA) (h := fun p : F => A.int (p.1 * (M / p.2))) hf
    rw [this]
    simp [vals]
  have hcomp : ∀ p ∈ fs, p.2.natAbs < 2 ^ 8000 ∧ 0 < p.2 ∧ small p.1 = true ∧ small (M / p.2) = true := by
    intro p hpm
    have h0 := (hg.2 p hpm).1.1
    have h1 : p.2.natAbs < 2 ^ 10 := abs_pos_lt h0 (hg.2 p hpm).2.2
    exact ⟨lt_two_pow h1 (by omega), h0, smallp (hg.2 p hpm).2.1 (by omega), smallp (ediv_lt hM.1 h0 (abs_pos_lt hM.1 hM.2)) (by omega)⟩
  generalize vals M fs = W at *
  have o1 : ok62 (fs.length : Int) = true := ok62_of (by omega)
  have hget : ∀ i, i < fs.length → (W.map A.int)[i]? = some (.int (W.getD i 0)) := by
    intro i hi
    rw [List.getElem?_map, List.getD_eq_getElem?_getD, List.getElem?_eq_getElem (by omega)]
    rfl
  have hgW : ∀ i, i < fs.length → (W.getD i 0).natAbs < 2 ^ 435 := by
    intro i hi
    have : W.getD i 0 ∈ W := by
      rw [List.getD_eq_getElem?_getD, List.getElem?_eq_getElem (by omega)]
      exact List.getElem_mem _
    exact hw _ this
  have loop2 : ∀ (v : A) (s1 : S) z z' z5, (∀ s, biV s .len [v] = some (.int fs.length)) → s1[s.length]? = some (.lst []) → Kb none s s1 →
      wpe (forR none (fun x σ' s2 => (asgT cf cs (.v 6) x σ' s2).bindX σ' fun σ2 s3 => evB cf cs (.cons (.for_ (.v 7) (.rng2 (.bin .add (.v 6) (.c (.int 1))) (.bi .len (.cons (.v 0) (.nil)))) (.cons (.asg (.tup (.cons (.v 8) (.cons (.v 9) (.nil)))) (.tup (.cons (.bin .sub (.idx (.v 5) (.v 7)) (.idx (.v 5) (.v 6))) (.cons (.bin .sub (.v 7) (.v 6)) (.nil))))) (.cons (.expr (.extend (.v 2) (.lst (.comp [10] (.v 10) (.rng2 (.bin .add (.v 7) (.c (.int 1))) (.bi .len (.cons (.v 0) (.nil)))) (.no) (.tup (.cons (.bin .add (.bin .mul (.v 8) (.bin .sub (.v 10) (.v 7))) (.bin .mul (.bin .sub (.idx (.v 5) (.v 7)) (.idx (.v 5) (.v 10))) (.v 9))) (.cons (.v 9) (.cons (.tup (.cons (.v 6) (.cons (.v 7) (.cons (.v 10) (.nil))))) (.nil))))))))) (.nil)))) (.nil)) σ2 s3)
          ((List.range fs.length).map fun i : Nat => A.int (i : Int)) [some v, some (.int M), some (.cell s.length), z, z', some (.lst (W.map .int)), z5, none, none, none, none] s1)
        (fun fl s' => ∃ σ, fl = .nx σ ∧ σ[1]? = some (some (.int M)) ∧ σ[2]? = some (some (.cell s.length)) ∧ s'[s.length]? = some (.lst ((trip fs.length).map (needA W))) ∧ Kb none s s') (fun _ _ => False) := by
    intro v s1 z z' z5 hlv hc0 hk0
    refine wp_forL (fun done σ s' => (∃ y6 y7 y8 y9 y10, σ = [some v, some (.int M), some (.cell s.length), z, z', some (.lst (W.map .int)), y6, y7, y8, y9, y10]) ∧ s'[s.length]? = some (.lst ((done.flatMap (tripJ fs.length)).map (needA W))) ∧ Kb none s s') ⟨⟨_, _, _, _, _, rfl⟩, hc0, hk0⟩ ?_ ?_
    · intro done i rest σ s2 e h
      obtain ⟨h1, hc, hk⟩ := h
      obtain ⟨y6, y7, y8, y9, y10, h1⟩ := h1
      subst h1
      have hi : i < fs.length := by
        have : i ∈ List.range fs.length := by rw [e]; simp
        simpa using this
      have o2 : ok62 ((i : Int) + 1) = true := ok62_of (by omega)
      have q : ((fs.length : Int) - ((i : Int) + 1)).toNat = fs.length - (i + 1) := by omega
      simp [asgT, evB, evS, evI, o1, o2, q, hlv, evE, evEs]
      simp only [rngL_map]
      refine wpe_mono (wp_forL (Q := fun fl s' => ∃ σ, fl = .nx σ ∧ (∃ y6 y7 y8 y9 y10, σ = [some v, some (.int M), some (.cell s.length), z, z', some (.lst (W.map .int)), y6, y7, y8, y9, y10]) ∧ s'[s.length]? = some (.lst (((done ++ [i]).flatMap (tripJ fs.length)).map (needA W))) ∧ Kb none s s') (X := fun _ _ => False)
        (fun done' σ s' => (∃ y7 y8 y9 y10, σ = [some v, some (.int M), some (.cell s.length), z, z', some (.lst (W.map .int)), some (.int i), y7, y8, y9, y10]) ∧ s'[s.length]? = some (.lst ((done.flatMap (tripJ fs.length) ++ done'.flatMap (fun a => tripK fs.length i (i + 1 + a))).map (needA W))) ∧ Kb none s s') ?_ ?_ ?_) ?_ ?_
      · exact ⟨⟨_, _, _, _, rfl⟩, by simpa using hc, hk⟩
      · intro done' a rest' σ s3 e' h
        obtain ⟨h1, hc2, hk2⟩ := h
        obtain ⟨x7, x8, x9, x10, h1⟩ := h1
        subst h1
        have ha : a < fs.length - (i + 1) := by
          have : a ∈ List.range (fs.length - (i + 1)) := by rw [e']; simp
          simpa using this
        have o3 : ok62 ((i : Int) + 1 + (a : Int) + 1) = true := ok62_of (by omega)
        have q2 : ((fs.length : Int) - ((i : Int) + 1 + (a : Int) + 1)).toNat = fs.length - (i + 1 + a + 1) := by omega
        have sz : fs.length - (i + 1 + a + 1) ≤ sizeLine := Nat.le_trans (by omega : _ ≤ 41) (by decide)
        have e1 := itemsL_c _ hc2
        obtain ⟨wj, hwj⟩ : ∃ w, W.getD (i + 1 + a) 0 = w := ⟨_, rfl⟩
        obtain ⟨wi, hwi⟩ : ∃ w, W.getD i 0 = w := ⟨_, rfl⟩
        have g1 : ∀ s, idxV s (.lst (W.map A.int)) (.int ((i : Int) + 1 + (a : Int))) = some (.int wj) := by
          intro s
          have := atI_nat (W.map A.int) (i + 1 + a)
          rw [hget _ (by omega), hwj] at this
          rw [idxV_l, ← this]
          congr 1
        have g2 : ∀ s, idxV s (.lst (W.map A.int)) (.int (i : Int)) = some (.int wi) := by
          intro s
          rw [idxV_l, atI_nat, hget _ hi, hwi]
        have bj := hgW (i + 1 + a) (by omega)
        have bi := hgW i hi
        rw [hwj] at bj
        rw [hwi] at bi
        have hmap : ∀ f : A → S → Res (Option A), (∀ c : Nat, c < fs.length - (i + 1 + a + 1) → f (.int ((i : Int) + 1 + (a : Int) + 1 + (c : Int))) s3 = .ok (some (needA W (i, i + 1 + a, i + 1 + a + 1 + c))) s3) →
            mapR none f ((List.range (fs.length - (i + 1 + a + 1))).map fun c : Nat => A.int ((i : Int) + 1 + (a : Int) + 1 + (c : Int))) s3 = .ok ((tripK fs.length i (i + 1 + a)).map (needA W)) s3 := by
          intro f hf
          have := map_eqL (i := fun c : Nat => A.int ((i : Int) + 1 + (a : Int) + 1 + (c : Int))) (h := fun c : Nat => needA W (i, i + 1 + a, i + 1 + a + 1 + c)) (s := s3) (xs := List.range (fs.length - (i + 1 + a + 1))) (f := f) (fun c hc => hf c (by simpa using hc))
          rw [this]
          simp [tripK, Function.comp_def]
        have sz2 : (done.flatMap (tripJ fs.length) ++ done'.flatMap (fun a => tripK fs.length i (i + 1 + a))).length + (tripK fs.length i (i + 1 + a)).length ≤ sizeLine := by
          apply trip_size (n := fs.length) (by omega)
          have x1 : trip fs.length = done.flatMap (tripJ fs.length) ++ (tripJ fs.length i ++ rest.flatMap (tripJ fs.length)) := by unfold trip; rw [e, List.flatMap_append, List.flatMap_cons]
          have x2 : tripJ fs.length i = done'.flatMap (fun a => tripK fs.length i (i + 1 + a)) ++ (tripK fs.length i (i + 1 + a) ++ rest'.flatMap (fun a => tripK fs.length i (i + 1 + a))) := by unfold tripJ; rw [e', List.flatMap_append, List.flatMap_cons]
          rw [x1, x2]
          simp only [List.length_append]
          omega
        simp [asgT, asgTs, evB, evS, evE, evEs, evL, evI, o1, o3, q2, e1, sz, g1, g2, hlv, -idxV_l]
        rw [hmap _ (by
          intro c hc
          obtain ⟨wk, hwk⟩ : ∃ w, W.getD (i + 1 + a + 1 + c) 0 = w := ⟨_, rfl⟩
          have g3 : ∀ s, idxV s (.lst (W.map A.int)) (.int ((i : Int) + 1 + (a : Int) + 1 + (c : Int))) = some (.int wk) := by
            intro s
            have := atI_nat (W.map A.int) (i + 1 + a + 1 + c)
            rw [hget _ (by omega), hwk] at this
            rw [idxV_l, ← this]
            congr 1
          have bk := hgW (i + 1 + a + 1 + c) (by omega)
          rw [hwk] at bk
          have s1 : small (wj - wi) = true := smallp (sub_lt' bj bi) (by omega)
          have s2 : small (wj - wk) = true := smallp (sub_lt' bj bk) (by omega)
          have s3' : small ((i : Int) + 1 + (a : Int) + 1 + (c : Int) - ((i : Int) + 1 + (a : Int))) = true := smallp (k := 10) (by omega) (by omega)
          have s4 : small ((i : Int) + 1 + (a : Int) - (i : Int)) = true := smallp (k := 10) (by omega) (by omega)
          have hne : need W (i, i + 1 + a, i + 1 + a + 1 + c) = (wj - wi) * ((i : Int) + 1 + (a : Int) + 1 + (c : Int) - ((i : Int) + 1 + (a : Int))) + (wj - wk) * ((i : Int) + 1 + (a : Int) - (i : Int)) := by
            simp only [need]
            rw [hwj, hwi, hwk]
            have c1 : ((i + 1 + a + 1 + c : Nat) : Int) = (i : Int) + 1 + (a : Int) + 1 + (c : Int) := by omega
            have c2 : ((i + 1 + a : Nat) : Int) = (i : Int) + 1 + (a : Int) := by omega
            rw [c1, c2]
            grind
          have hga : gap (i, i + 1 + a, i + 1 + a + 1 + c) = ((i : Int) + 1 + (a : Int) - (i : Int)) := by simp only [gap]; omega
          have hta : tA (i, i + 1 + a, i + 1 + a + 1 + c) = A.tup [.int (i : Int), .int ((i : Int) + 1 + (a : Int)), .int ((i : Int) + 1 + (a : Int) + 1 + (c : Int))] := by simp [tA]
          unfold needA
          rw [hne, hga, hta]
          apply eq_of_wp
          simp [asgT, wipeA, evC, evE, evEs, g1, g3, s1, s2, s3', s4, -idxV_l])]
        have hlt := get_lt hc2
        simp only [List.length_append] at sz2
        simp [e1, hlt, -List.length_flatMap]
        exact ⟨by omega, hk2.setNew (Nat.le_refl _) _⟩
      · intro σ s3 h
        obtain ⟨h1, hc2, hk2⟩ := h
        obtain ⟨x7, x8, x9, x10, h1⟩ := h1
        subst h1
        exact ⟨_, rfl, ⟨_, _, _, _, _, rfl⟩, by rw [hc2]; simp [tripJ], hk2⟩
      · rintro _ s3 ⟨σ, rfl, h1, h2, h3⟩
        refine ⟨h1, ?_, h3⟩
        simpa using h2
      · exact fun _ _ h => h
    · intro σ s2 h
      obtain ⟨h1, hc, hk⟩ := h
      obtain ⟨y6, y7, y8, y9, y10, h1⟩ := h1
      subst h1
      exact ⟨_, rfl, rfl, rfl, by rw [hc]; rfl, hk⟩
  have fin : ∀ (v : A), (∀ s, biV s .len [v] = some (.int fs.length)) → (∀ s, walkV s v = some (fs.map fA, none)) → wp (evB cf cs d_law_needs.body [some v, none, none, none, none, none, none, none, none, none, none] s)
      (flQ (fun a s' => a = .lst [.int M, .lst ((trip fs.length).map (needA W))] ∧ Kb none s s') (fun _ _ => False)) := by
    intro v hlv hwv
    simp [d_law_needs, evE, evEs, evI, asgT, asgTs, hwv]
    refine wpe_mono (loop1 v _) ?_ (fun _ _ h => h)
    rintro _ _ ⟨rfl, z, z', rfl⟩
    simp [evE, evEs, evI, asgT, asgTs, hwv, hls, hlv, o1]
    rw [hm _ _ (by
      intro p hpm
      obtain ⟨q1, q2, q3, q4⟩ := hcomp p hpm
      apply eq_of_wp
      simp [asgT, asgTs, fA_def, wipeA, evC, evE, q1, q2, q3, q4, smM])]
    simp [evE, evEs, evI, asgT, asgTs, hlv, o1]
    rw [rngL_map]
    simp only [Int.zero_add]
    refine wpe_mono (loop2 v _ _ _ _ hlv (app_get _ _) (Kb.app _ _ _)) ?_ (fun _ _ h => h)
    rintro _ s2 ⟨σ, rfl, h1, h2, h3, hk⟩
    have e1 := itemsL_c _ h3
    simp [evE, evEs, h1, h2, e1]
    exact hk.setNew (Nat.le_refl _) _
  rcases hv with rfl | rfl
  · exact fin _ (by simp) (by simp)
  · exact fin _ (by simp) (by simp)
theorem gap_nat (t : T3) : gap t = (t.2.1 : Int) - (t.1 : Int) := rfl
theorem lleast_step {cf : Nat → List A → S → Res A} {W : List Int} {t : T3} {d : F} {a b : A} {s2 : S} {z z' z'' : Option A} {Q : Fl → S → Prop} (sg : small (gap t) = true) (sn : small (need W t) = true) (sb1 : small d.1 = true) (sb2 : small d.2 = true) :
    wpe (turnF cf cs (.tup (.cons (.v 3) (.cons (.v 4) (.cons (.v 5) .nil)))) (.cons (.asg (.v 2) (.ite (.cmp .gt (.bin .mul (.v 3) (.idx (.v 2) (.c (.int 1)))) (.bin .mul (.idx (.v 2) (.c (.int 0))) (.v 4))) (.tup (.cons (.v 3) (.cons (.v 4) (.nil)))) (.v 2))) (.nil)) (needA W t) [some a, some b, some (fA d), z, z', z''] s2)
      (turnQ (fun σ' s' => grdB none s' = true ∧ s' = s2 ∧ ∃ z z' z'', σ' = [some a, some b, some (fA (bestS W d t)), z, z', z'']) Q) (fun _ _ => False) := by
  unfold bestS
  by_cases hc : d.1 * gap t < need W t * d.2
  · simp [asgT, asgTs, needA, evE, evEs, sg, sn, sb1, sb2, hc, idx0, idx1, fA_def]
  · simp [asgT, asgTs, needA, evE, evEs, sg, sn, sb1, sb2, hc, idx0, idx1]
theorem lleast59 {n : Nat} (hn : 2 ≤ n) {fs : List F} {s : S} (hg : Gd fs) :
    callF G cs n 24 [.int (lcmL 1 fs), .lst ((trip fs.length).map (needA (vals (lcmL 1 fs) fs)))] s = .ok (fA (leastOf fs)) s := by
  apply eq_of_wp
  refine wp_call (d := d_law_least) rfl (by omega) rfl ?_
  have e0 : ∀ a b s, 0 < b → b.natAbs < 2 ^ 1900 → callF G cs (n - 1) 17 [.int a, .int b] s = .ok (fA (lowP a b)) s := fun a b s h h' => low59 (by omega) h h'
  generalize callF G cs (n - 1) = cf at e0
  have hl : (vals (lcmL 1 fs) fs).length = fs.length := by simp [vals]
  have hw := gvals_lt hg
  have hM := gd_lcm hg (done := fs) (rest := []) (by simp)
  have hlen : fs.length ≤ 41 := by have := hg.1; omega
  have hleast : leastOf fs = lowP (best (vals (lcmL 1 fs) fs) (trip fs.length)).1 ((best (vals (lcmL 1 fs) fs) (trip fs.length)).2 * lcmL 1 fs) := rfl
  rw [hleast]
  generalize lcmL 1 fs = M at *
  generalize vals M fs = W at *
  have smM : small M = true := smallp (abs_pos_lt hM.1 hM.2) (by omega)
  obtain ⟨q1, q2, q3⟩ := best_pref hlen hl hw (done := trip fs.length) (fun u hu => hu)
  have sb1 : small (best W (trip fs.length)).1 = true := smallp q1 (by omega)
  have sb2 : small (best W (trip fs.length)).2 = true := smallp q2 (by omega)
  have e0' : ∀ s, cf 17 [.int (best W (trip fs.length)).1, .int ((best W (trip fs.length)).2 * M)] s = .ok (fA (lowP (best W (trip fs.length)).1 ((best W (trip fs.length)).2 * M))) s := by
    intro s
    exact e0 _ _ _ (Int.mul_pos q3 hM.1) (lt_two_pow (abs_mul_lt q2 (abs_pos_lt hM.1 hM.2)) (by omega))
  clear q1 q2 q3
  have hz : (A.tup [.int 0, .int 1]) = fA (0, 1) := rfl
  simp [d_law_least, evE, evEs, evI, asgT, asgTs, hz]
  refine wpe_mono (wp_forL (Q := fun fl s' => s' = s ∧ ∃ z z' z'', fl = .nx [some (.int M), some (.lst ((trip fs.length).map (needA W))), some (fA (best W (trip fs.length))), z, z', z'']) (X := fun _ _ => False)
    (fun done σ s' => s' = s ∧ ∃ z z' z'', σ = [some (.int M), some (.lst ((trip fs.length).map (needA W))), some (fA (best W done)), z, z', z'']) ?_ ?_ ?_) ?_ (fun _ _ h => h)
  · exact ⟨rfl, _, _, _, rfl⟩
  · intro done t rest σ s2 e h
    obtain ⟨h1, z, z', z'', h2⟩ := h
    subst h1
    subst h2
    have ht : t ∈ trip fs.length := by rw [e]; simp
    have sg : small (gap t) = true := smallp (gap_lt hlen ht) (by omega)
    have sn : small (need W t) = true := smallp (need_lt hlen hl hw ht) (by omega)
    have q := best_pref hlen hl hw (done := done) (fun u hu => by rw [e]; simp [hu])
    have q1 := q.1
    have q2 := q.2.1
    have sb1 : small (best W done).1 = true := smallp q1 (by omega)
    have sb2 : small (best W done).2 = true := smallp q2 (by omega)
    have hb : best W (done ++ [t]) = bestS W (best W done) t := by simp [best]
    rw [hb]
    exact lleast_step sg sn sb1 sb2
  · intro σ s2 h
    obtain ⟨h1, z, z', z'', h2⟩ := h
    subst h2
    exact ⟨h1, z, z', z'', rfl⟩
  · rintro _ s2 ⟨rfl, z, z', z'', rfl⟩
    simp [evE, evEs, idx0, idx1, sb2, smM, e0']
end K59
end

section
set_option Elab.async false
set_option linter.all false
namespace K59
open PySem Dy
theorem eqA_tri (s : S) (ts : List T3) : eqA s (.lst (ts.map tA)) (.lst []) = some (ts.isEmpty) := by
  have hd : ∀ ts : List T3, datasOf (ts.map tA) = some (ts.map fun t => PyData.tuple [.int t.1, .int t.2.1, .int t.2.2]) := by
    intro ts
    induction ts with
    | nil => rfl
    | cons t ts ih => simp [datasOf, ih, tA, dataOf]
  have hc : ∀ ts : List T3, PyData.canLayAll0 (ts.map fun t => PyData.tuple [.int t.1, .int t.2.1, .int t.2.2]) = true := by
    intro ts
    induction ts with
    | nil => rfl
    | cons t ts ih => simp [PyData.canLayAll0, PyData.canLay0, ih]
  have hp : ∀ ts : List T3, PyData.depthAll (ts.map fun t => PyData.tuple [.int t.1, .int t.2.1, .int t.2.2]) ≤ 1 := by
    intro ts
    induction ts with
    | nil => simp [PyData.depthAll]
    | cons t ts ih => simp [PyData.depthAll, PyData.depth]; omega
  have h1 := hp ts
  simp [eqA, resv, eqData, dataOf, hd, SeqAt.shaped, PyData.canLay0, hc, PyData.depth, datasOf, PyData.canLayAll0, PyData.depthAll, PyData.eqv]
  refine ⟨by omega, ?_⟩
  cases ts <;> simp [PyData.eqvAll]
theorem filter_head {p : T3 → Bool} : ∀ ts : List T3, (ts.filter p).head? = ts.find? p
  | [] => rfl
  | t :: ts => by
    rw [List.filter_cons, List.find?_cons]
    cases p t with
    | true => simp
    | false => simpa using filter_head ts
theorem broken59 {n : Nat} (hn : 1 ≤ n) {fs : List F} {p : F} {s : S} (hg : Gd fs) (hp : Gp p) :
    callF G cs n 25 [.int (lcmL 1 fs), .lst ((trip fs.length).map (needA (vals (lcmL 1 fs) fs))), fA p] s = .ok (optA (breakOf fs p)) s := by
  apply eq_of_wp
  refine wp_call (d := d_law_broken) rfl (by omega) rfl ?_
  generalize callF G cs (n - 1) = cf
  have hl : (vals (lcmL 1 fs) fs).length = fs.length := by simp [vals]
  have hw := gvals_lt hg
  have hM := gd_lcm hg (done := fs) (rest := []) (by simp)
  have hlen : fs.length ≤ 41 := by have := hg.1; omega
  have hdef : breakOf fs p = (trip fs.length).find? (brk (lcmL 1 fs) (vals (lcmL 1 fs) fs) p) := rfl
  rw [hdef]
  generalize lcmL 1 fs = M at *
  generalize vals M fs = W at *
  have smM : small M = true := smallp (abs_pos_lt hM.1 hM.2) (by omega)
  have sp1 : small p.1 = true := smallp hp.2.2.1 (by omega)
  have sp2 : small p.2 = true := smallp (abs_pos_lt hp.1.1 hp.2.2.2) (by omega)
  have hsz : (trip fs.length).length ≤ sizeLine := trip_size hlen (Nat.le_refl _)
  have hm : ∀ f : A → S → Res (Option A), (∀ t ∈ trip fs.length, f (needA W t) s = .ok (if brk M W p t then some (tA t) else none) s) → mapR none f ((trip fs.length).map (needA W)) s = .ok (((trip fs.length).filter (brk M W p)).map tA) s := by
    intro f
    generalize trip fs.length = ts
    intro hf
    induction ts with
    | nil => rfl
    | cons t ts ih =>
      have e1 := hf t (by simp)
      have e2 := ih (fun u hu => hf u (by simp [hu]))
      simp only [List.map, mapR, e1, Res.bind, grdB_none, if_true, e2, List.filter_cons]
      cases brk M W p t <;> simp
  simp [d_law_broken, evE, evEs, evI, asgT, hsz]
  rw [hm _ (by
    intro t ht
    have sg : small (gap t) = true := smallp (gap_lt hlen ht) (by omega)
    have sn : small (need W t) = true := smallp (need_lt hlen hl hw ht) (by omega)
    have spg : small (p.1 * gap t) = true := smallp (abs_mul_lt hp.2.2.1 (gap_lt hlen ht)) (by omega)
    apply eq_of_wp
    simp [asgT, asgTs, wipeA, needA, evC, evE, evEs, idx0, idx1, sg, sn, spg, sp1, sp2, smM, brk]
    )]
  rw [← filter_head]
  generalize (trip fs.length).filter (brk M W p) = ts
  simp [evE, evEs, eqA_tri]
  cases ts with
  | nil => simp [optA]
  | cons t ts => simp [optA]
theorem plus59 {n : Nat} (hn : 2 ≤ n) {p q : F} {s : S} (hp : 0 < p.2) (hq : 0 < q.2) {k : Nat} (hk : k ≤ 900) (h1 : p.1.natAbs < 2 ^ k) (h2 : p.2.natAbs < 2 ^ k) (h3 : q.1.natAbs < 2 ^ k) (h4 : q.2.natAbs < 2 ^ k) :
    callF G cs n 18 [fA p, fA q] s = .ok (fA (plusF p q)) s := by
  apply eq_of_wp
  refine wp_call (d := d_law_plus) rfl (by omega) rfl ?_
  have e0 : ∀ a b s, 0 < b → b.natAbs < 2 ^ 1900 → callF G cs (n - 1) 17 [.int a, .int b] s = .ok (fA (lowP a b)) s := fun a b s h h' => low59 (by omega) h h'
  generalize callF G cs (n - 1) = cf at e0
  have e1 : ∀ a s, cf 17 [.int a, .int (p.2 * q.2)] s = .ok (fA (lowP a (p.2 * q.2))) s := fun a s => e0 a _ s (Int.mul_pos hp hq) (lt_two_pow (abs_mul_lt h2 h4) (by omega))
  have s1 : small p.1 = true := smallp h1 (by omega)
  have s2 : small p.2 = true := smallp h2 (by omega)
  have s3 : small q.1 = true := smallp h3 (by omega)
  have s4 : small q.2 = true := smallp h4 (by omega)
  simp [d_law_plus, evE, evEs, idx0, idx1, s1, s2, s3, s4, e1, plusF]
theorem times59 {n : Nat} (hn : 2 ≤ n) {p q : F} {s : S} (hp : 0 < p.2) (hq : 0 < q.2) {k : Nat} (hk : k ≤ 900) (h1 : p.1.natAbs < 2 ^ k) (h2 : p.2.natAbs < 2 ^ k) (h3 : q.1.natAbs < 2 ^ k) (h4 : q.2.natAbs < 2 ^ k) :
    callF G cs n 20 [fA p, fA q] s = .ok (fA (timesF p q)) s := by
  apply eq_of_wp
  refine wp_call (d := d_law_times) rfl (by omega) rfl ?_
  have e0 : ∀ a b s, 0 < b → b.natAbs < 2 ^ 1900 → callF G cs (n - 1) 17 [.int a, .int b] s = .ok (fA (lowP a b)) s := fun a b s h h' => low59 (by omega) h h'
  generalize callF G cs (n - 1) = cf at e0
  have e1 : ∀ a s, cf 17 [.int a, .int (p.2 * q.2)] s = .ok (fA (lowP a (p.2 * q.2))) s := fun a s => e0 a _ s (Int.mul_pos hp hq) (lt_two_pow (abs_mul_lt h2 h4) (by omega))
  have s1 : small p.1 = true := smallp h1 (by omega)
  have s2 : small p.2 = true := smallp h2 (by omega)
  have s3 : small q.1 = true := smallp h3 (by omega)
  have s4 : small q.2 = true := smallp h4 (by omega)
  simp [d_law_times, evE, evEs, idx0, idx1, s1, s2, s3, s4, e1, timesF]
theorem less59 {n : Nat} (hn : 1 ≤ n) {p q : F} {s : S} {k : Nat} (hk : k ≤ 9000) (h1 : p.1.natAbs < 2 ^ k) (h2 : p.2.natAbs < 2 ^ k) (h3 : q.1.natAbs < 2 ^ k) (h4 : q.2.natAbs < 2 ^ k) :
    callF G cs n 19 [fA p, fA q] s = .ok (.bl (decide (p.1 * q.2 < q.1 * p.2))) s := by
  apply eq_of_wp
  refine wp_call (d := d_law_less) rfl (by omega) rfl ?_
  generalize callF G cs (n - 1) = cf
  have s1 : small p.1 = true := smallp h1 (by omega)
  have s2 : small p.2 = true := smallp h2 (by omega)
  have s3 : small q.1 = true := smallp h3 (by omega)
  have s4 : small q.2 = true := smallp h4 (by omega)
  simp [d_law_less, evE, evEs, idx0, idx1, s1, s2, s3, s4]
end K59
end

section
set_option Elab.async false
set_option linter.all false
namespace K59
open PySem Dy
/-- rows as the law draws them -/
def Gr (fs : List F) : Prop := ∀ p ∈ fs, okF p ∧ p.1.natAbs < 2 ^ 14 ∧ p.2 ≤ 7
def nums : List A := [.int 1, .int 1, .int 2, .int 3, .int 7]
theorem nums_get {d : Int} (h0 : 0 ≤ d) (h5 : d < 5) : ∃ m : Int, L2.atI [A.int 1, A.int 1, A.int 2, A.int 3, A.int 7] d = some (.int m) ∧ 1 ≤ m ∧ m ≤ 7 := by
  have : d = 0 ∨ d = 1 ∨ d = 2 ∨ d = 3 ∨ d = 4 := by omega
  rcases this with rfl | rfl | rfl | rfl | rfl
  · exact ⟨1, rfl, by omega, by omega⟩
  · exact ⟨1, rfl, by omega, by omega⟩
  · exact ⟨2, rfl, by omega, by omega⟩
  · exact ⟨3, rfl, by omega, by omega⟩
  · exact ⟨7, rfl, by omega, by omega⟩
def TakeOk (cf : Nat → List A → S → Res A) : Prop := ∀ (b N : Nat) (w : Int) (s : S), Box s b N → N < 2 ^ 64 → 0 < w → w < 2 ^ 40 →
    wp (cf 15 [.cell b, .int w] s) (fun a s' => ∃ d : Int, a = .int d ∧ 0 ≤ d ∧ d < w ∧ Kb (some b) s s' ∧ Box s' b (N + 1))
theorem takeOk {n : Nat} (hn : 1 ≤ n) : TakeOk (callF G cs n) := fun b N w s h1 h2 h3 h4 => take59 hn h1 h2 h3 h4
/-- a draw at the head -/
theorem use_take {cf : Nat → List A → S → Res A} (ht : TakeOk cf) {b N : Nat} {w : Int} {s : S} {Q : A → S → Prop} {X} (hB : Box s b N) (hN : N < 2 ^ 64) (hw : 0 < w) (hw2 : w < 2 ^ 40)
    (h : ∀ (d : Int) s', 0 ≤ d → d < w → Kb (some b) s s' → Box s' b (N + 1) → Q (.int d) s') : wpe (cf 15 [.cell b, .int w] s) Q X := by
  refine wp_use (ht b N w s hB hN hw hw2) ?_
  rintro a s' ⟨d, rfl, h0, h1, hk, hb⟩
  exact h d s' h0 h1 hk hb
/-- the append of one number -/
theorem add59 {cf : Nat → List A → S → Res A} (e0 : ∀ a b s, 0 < b → b.natAbs < 2 ^ 1900 → cf 17 [.int a, .int b] s = .ok (fA (lowP a b)) s)
    {s : S} {b c many : Nat} {way step z : A} {num bot : Int} {fsd : List F} {I : Dy.Env → S → Prop} {Q : Fl → S → Prop}
    (hc : s[c]? = some (.lst (fsd.map fA))) (hl : fsd.length ≤ 40) (hb1 : 1 ≤ bot) (hb7 : bot ≤ 7)
    (h : I [some (.cell b), some (.int many), some way, some (.cell c), some step, some (.int bot), some (.int num), some z] (s.set c (.lst ((fsd ++ [lowP num bot]).map fA)))) :
    wpe (evB cf cs (.cons (.expr (.append (.v 3) (.call 17 (.cons (.v 6) (.cons (.v 5) (.nil)))))) (.nil)) [some (.cell b), some (.int many), some way, some (.cell c), some step, some (.int bot), some (.int num), some z] s)
      (turnQ (fun σ' s' => grdB none s' = true ∧ I σ' s') Q) (fun _ _ => False) := by
  have e1 := itemsL_c _ hc
  have e2 := fun s => e0 num bot s (by omega) (lt_two_pow (k := 3) (by omega) (by omega))
  have h40 : fsd.length < sizeLine := Nat.lt_of_lt_of_le (by omega : fsd.length < 41) (by decide)
  simp [evE, evEs, e1, e2, h40]
  simpa using h
theorem numbers_ok59 {n : Nat} (hn : 2 ≤ n) {b N many : Nat} {s : S} (hB : Box s b N) (hN : N < 2 ^ 32) (hm : many ≤ 40) :
    wp (callF G cs n 21 [.cell b, .int many] s) (fun a s' => ∃ fs : List F, a = .lst (fs.map fA) ∧ fs.length = many ∧ Gr fs ∧ Kb (some b) s s' ∧ Box s' b (N + 124)) := by
  refine wp_call (d := d_law_numbers) rfl (by omega) rfl ?_
  have e0 : ∀ a b s, 0 < b → b.natAbs < 2 ^ 1900 → callF G cs (n - 1) 17 [.int a, .int b] s = .ok (fA (lowP a b)) s := fun a b s h h' => low59 (by omega) h h'
  have ht : TakeOk (callF G cs (n - 1)) := takeOk (by omega)
  generalize callF G cs (n - 1) = cf at e0 ht
  have o1 : ok62 (many : Int) = true := ok62_of (by omega)
  simp [d_law_numbers, evE, evEs]
  refine use_take ht hB (by omega) (by omega) (by omega) ?_
  intro way s1 w0 w1 k1 b1
  try simp
  have b1' : Box (s1 ++ [.lst []]) b (N + 1) := b1.kb (Kb.app _ _ _)
  refine use_take ht b1' (by omega) (by omega) (by omega) ?_
  intro st s2 st0 st1 k2 b2
  have hc2 : s2[s1.length]? = some (.lst []) := k2.get (app_get _ _) (by have := b1.lt; intro h; cases h; omega)
  have k2' : Kb (some b) s s2 := (k1.trans (Kb.app _ _ _)).trans k2
  simp [setsA]
  refine use_take ht b2 (by omega) (by omega) (by omega) ?_
  intro bt s3 bt0 bt1 k3 b3
  obtain ⟨bot, hbot, hbot1, hbot7⟩ := nums_get bt0 bt1
  have hbot' : idxV s3 (.lst [A.int 1, A.int 1, A.int 2, A.int 3, A.int 7]) (.int bt) = some (.int bot) := hbot
  have hcb : some s1.length ≠ some b := by have := b1.lt; intro h; cases h; omega
  have hc3 := k3.get hc2 hcb
  simp [hbot]
  refine use_take ht b3 (by omega) (by omega) (by omega) ?_
  intro nb s4 nb0 nb1 k4 b4
  have hc4 := k4.get hc3 hcb
  have k4' : Kb (some b) s s4 := (k2'.trans k3).trans k4
  have hle := k1.1
  simp [setsA, evI, evE, o1]
  simp only [rngL_map]
  refine wpe_mono (wp_forL (Q := fun fl s' => ∃ σ fs, fl = .nx σ ∧ σ[3]? = some (some (.cell s1.length)) ∧ s'[s1.length]? = some (.lst (fs.map fA)) ∧ fs.length = many ∧ Gr fs ∧ Kb (some b) s s' ∧ Box s' b (N + 124)) (X := fun _ _ => False)
    (fun done σ s' => ∃ (step number : Int) (z : Option A) (fsd : List F), σ = [some (.cell b), some (.int many), some (.int way), some (.cell s1.length), some (.int step), some (.int bot), some (.int number), z] ∧ s'[s1.length]? = some (.lst (fsd.map fA)) ∧ fsd.length = done.length ∧ Gr fsd ∧
      (-10 - 3 * (done.length : Int) ≤ step ∧ step ≤ 10 + 3 * (done.length : Int)) ∧ (-20 - 200 * (done.length : Int) ≤ number ∧ number ≤ 20 + 200 * (done.length : Int)) ∧ Kb (some b) s s' ∧ Box s' b (N + 4 + 3 * done.length)) ?_ ?_ ?_) ?_ (fun _ _ h => h)
  · exact ⟨_, _, none, [], rfl, by simpa using hc4, rfl, by simp [Gr], ⟨by simp; omega, by simp; omega⟩, ⟨by simp; omega, by simp; omega⟩, k4', by simpa using b4⟩
  · intro done x rest σ s5 e h
    obtain ⟨step, number, z, fsd, hσ, hc5, hfl, hgr, hst, hnu, hk5, hb5⟩ := h
    subst hσ
    have hd : done.length < many := by
      have := congrArg List.length e
      simp at this
      omega
    have fin : ∀ (st' nu' : Int) (s6 : S), (-10 - 3 * (done.length + 1 : Int) ≤ st' ∧ st' ≤ 10 + 3 * (done.length + 1 : Int)) → (-20 - 200 * (done.length + 1 : Int) ≤ nu' ∧ nu' ≤ 20 + 200 * (done.length + 1 : Int)) → Kb (some b) s5 s6 → Box s6 b (N + 4 + 3 * done.length + 3) →
        wpe (evB cf cs (.cons (.expr (.append (.v 3) (.call 17 (.cons (.v 6) (.cons (.v 5) (.nil)))))) (.nil)) [some (.cell b), some (.int many), some (.int way), some (.cell s1.length), some (.int st'), some (.int bot), some (.int nu'), some (.int x)] s6)
        (turnQ (fun σ s' => grdB none s' = true ∧ ∃ (step number : Int) (z : Option A) (fsd : List F), σ = [some (.cell b), some (.int many), some (.int way), some (.cell s1.length), some (.int step), some (.int bot), some (.int number), z] ∧ s'[s1.length]? = some (.lst (fsd.map fA)) ∧ fsd.length = (done ++ [x]).length ∧ Gr fsd ∧
      (-10 - 3 * ((done ++ [x]).length : Int) ≤ step ∧ step ≤ 10 + 3 * ((done ++ [x]).length : Int)) ∧ (-20 - 200 * ((done ++ [x]).length : Int) ≤ number ∧ number ≤ 20 + 200 * ((done ++ [x]).length : Int)) ∧ Kb (some b) s s' ∧ Box s' b (N + 4 + 3 * (done ++ [x]).length))
        (fun fl s' => ∃ σ fs, fl = .nx σ ∧ σ[3]? = some (some (.cell s1.length)) ∧ s'[s1.length]? = some (.lst (fs.map fA)) ∧ fs.length = many ∧ Gr fs ∧ Kb (some b) s s' ∧ Box s' b (N + 124))) (fun _ _ => False) := by
      intro st' nu' s6 hst' hnu' hk6 hb6
      have hc6 := hk6.get hc5 hcb
      have hlt := get_lt hc6
      refine add59 e0 hc6 (by omega) hbot1 hbot7 ?_
      have hlen : (done ++ [x]).length = done.length + 1 := by simp
      rw [hlen]
      refine ⟨st', nu', _, fsd ++ [lowP nu' bot], rfl, by simp [hlt], by simp [hfl], ?_, by simpa using hst', by simpa using hnu', (hk5.trans hk6).setNew hle _, ?_⟩
      · intro p hp
        rcases List.mem_append.1 hp with hp | hp
        · exact hgr p hp
        · have : p = lowP nu' bot := by simpa using hp
          subst this
          have h1 := lowP_abs (a := nu') (b := bot) (by omega)
          have h2 := lowP_le (a := nu') (b := bot) (by omega)
          exact ⟨lowP_ok (by omega), by omega, by omega⟩
      · have : Box (s6.set s1.length (.lst ((fsd ++ [lowP nu' bot]).map fA))) b (N + 4 + 3 * done.length + 3) := by
          obtain ⟨g, kk, h', m, e, hx⟩ := hb6
          refine ⟨g, kk, h', m, ?_, hx⟩
          rw [List.getElem?_set_ne (by intro h; exact hcb (by rw [h])), e]
        exact this.up (by omega)
    have hw : way = 0 ∨ way = 1 ∨ way = 2 ∨ way = 3 ∨ way = 4 := by omega
    have hN5 : N + 4 + 3 * done.length < 2 ^ 60 := by omega
    rcases hw with rfl | rfl | rfl | rfl | rfl
    · simp [asgT, evE, evEs]
      refine use_take ht hb5 (by omega) (by omega) (by omega) ?_
      intro d1 s6 d0 d1' k6 b6
      try simp
      have := fin (step + d1) (number + (step + d1)) s6 (by omega) (by omega) k6 (b6.up (by omega))
      simpa [evE, evEs] using this
    · simp [asgT, evE, evEs]
      refine use_take ht hb5 (by omega) (by omega) (by omega) ?_
      intro d1 s6 d0 d1' k6 b6
      try simp
      refine use_take ht b6 (by omega) (by omega) (by omega) ?_
      intro d2 s7 d20 d21 k7 b7
      by_cases hz : d2 = 0
      · subst hz
        try simp
        refine use_take ht b7 (by omega) (by omega) (by omega) ?_
        intro d3 s8 d30 d31 k8 b8
        have := fin (step + d1) (number + (step + d1) + d3) s8 (by omega) (by omega) ((k6.trans k7).trans k8) (b8.up (by omega))
        simpa [evE, evEs] using this
      · simp [hz]
        have := fin (step + d1) (number + (step + d1)) s7 (by omega) (by omega) (k6.trans k7) (b7.up (by omega))
        simpa [evE, evEs] using this
    · simp [asgT, evE, evEs]
      refine use_take ht hb5 (by omega) (by omega) (by omega) ?_
      intro d1 s6 d0 d1' k6 b6
      try simp
      have := fin step (d1 - 20) s6 (by omega) (by omega) k6 (b6.up (by omega))
      simpa [evE, evEs] using this
    · simp [asgT, evE, evEs]
      refine use_take ht hb5 (by omega) (by omega) (by omega) ?_
      intro d1 s6 d0 d1' k6 b6
      try simp
      have := fin step (number + if d1 = 0 then 1 else 0) s6 (by omega) (by split <;> omega) k6 (b6.up (by omega))
      simpa [evE, evEs] using this
    · simp [asgT, evE, evEs]
      refine use_take ht hb5 (by omega) (by omega) (by omega) ?_
      intro d1 s6 d0 d1' k6 b6
      try simp
      have := fin step d1 s6 (by omega) (by omega) k6 (b6.up (by omega))
      simpa [evE, evEs] using this
  · intro σ s5 h
    obtain ⟨step, number, z, fsd, hσ, hc5, hfl, hgr, hst, hnu, hk5, hb5⟩ := h
    subst hσ
    rw [List.length_range] at hfl hb5
    exact ⟨_, fsd, rfl, rfl, hc5, hfl, hgr, hk5, hb5.up (by omega)⟩
  · rintro _ s5 ⟨σ, fs, rfl, h1, hc5, hfl, hgr, hk5, hb5⟩
    have e1 := itemsL_c _ hc5
    simp [evE, evEs, h1, e1]
    refine ⟨fs, rfl, hfl, hgr, hk5.setNew hle _, ?_⟩
    obtain ⟨g, kk, h', m, e, hx⟩ := hb5
    refine ⟨g, kk, h', m, ?_, hx⟩
    rw [List.getElem?_set_ne (by intro h; exact hcb (by rw [h])), e]
end K59
end

section
set_option Elab.async false
set_option linter.all false
namespace K59
open PySem Dy
mutual
theorem eqb_refl : ∀ a : A, eqb a a = true
  | .non => rfl
  | .bl b => by simp [eqb]
  | .int i => by simp [eqb]
  | .str x => by simp [eqb]
  | .tup xs => by simp only [eqb]; exact eqbs_refl xs
  | .lst xs => by simp only [eqb]; exact eqbs_refl xs
  | .ro xs => by simp only [eqb]; exact eqbs_refl xs
  | .cell n => by simp [eqb]
theorem eqbs_refl : ∀ xs : List A, eqbs xs xs = true
  | [] => rfl
  | x :: xs => by simp only [eqbs, eqb_refl x, eqbs_refl xs, Bool.and_self]
end
theorem grdB_of {s : S} {c : Nat} {xs : List A} (h : s[c]? = some (.lst xs)) : grdB (some (c, xs)) s = true := by
  simp only [grdB, h]
  exact eqbs_refl xs
theorem gp_low {a b : Int} (ha : 0 ≤ a) (hb : 0 < b) (h1 : a.natAbs < 2 ^ 4000) (h2 : b.natAbs < 2 ^ 4000) : Gp (lowP a b) := by
  have h3 := lowP_abs (a := a) hb
  have h4 := lowP_le (a := a) hb
  exact ⟨lowP_ok hb, Int.ediv_nonneg ha (by omega), Nat.lt_of_le_of_lt h3 h1, Int.lt_of_le_of_lt h4 (lt_of_abs h2)⟩
/-- what is told of the least price -/
structure Lb (l : F) : Prop where
  ok : okF l
  nn : 0 ≤ l.1
  top : l.1.natAbs < 2 ^ 450
  bot : l.2.natAbs < 2 ^ 450
theorem Lb.gp {l : F} (h : Lb l) : Gp l := ⟨h.ok, h.nn, lt_two_pow h.top (by omega), lt_of_abs (lt_two_pow h.bot (by omega))⟩
theorem least_lb {fs : List F} (hg : Gd fs) : Lb (leastOf fs) := by
  have hdiv := div_lcm (gd_pos hg)
  obtain ⟨h1, h2, _⟩ := leastOf_ok hdiv
  have hl : (vals (lcmL 1 fs) fs).length = fs.length := by simp [vals]
  have hlen : fs.length ≤ 41 := by have := hg.1; omega
  have hM := gd_lcm hg (done := fs) (rest := []) (by simp)
  have q := best_pref hlen hl (gvals_lt hg) (done := trip fs.length) (fun u hu => hu)
  have hb : 0 < (best (vals (lcmL 1 fs) fs) (trip fs.length)).2 * lcmL 1 fs := Int.mul_pos q.2.2 hM.1
  have h3 := lowP_abs (a := (best (vals (lcmL 1 fs) fs) (trip fs.length)).1) hb
  have h4 := lowP_le (a := (best (vals (lcmL 1 fs) fs) (trip fs.length)).1) hb
  have h5 := lowP_pos (a := (best (vals (lcmL 1 fs) fs) (trip fs.length)).1) hb
  refine ⟨h1, h2, Nat.lt_of_le_of_lt h3 (lt_two_pow q.1 (by omega)), ?_⟩
  apply abs_lt_of (Int.le_of_lt h5)
  exact Int.lt_of_le_of_lt h4 (lt_of_abs (lt_two_pow (abs_mul_lt q.2.1 (abs_pos_lt hM.1 hM.2)) (by omega)))
theorem plain_opt (o : Option T3) : PlainD 1 (optA o) := by
  cases o with
  | none => exact .non
  | some t => exact .tup (by simp) (by simp; exact ⟨.int _, .int _, .int _⟩)
theorem is_opt (o : Option T3) : isA (optA o) .non = some (o == none) := by
  cases o <;> simp [optA, tA]
/-- the turn of one price -/
theorem price_turn {cf : Nat → List A → S → Res A} {fs : List F} {cm nl : A}
    (e25 : ∀ p s, Gp p → cf 25 [cm, nl, fA p] s = .ok (optA (breakOf fs p)) s)
    (e10 : ∀ v p s, Row v fs → Gp p → wp (cf 10 [v, fA p] s) (fun a s' => a = .bl (breakOf fs p == none) ∧ Kb none s s'))
    (e11 : ∀ v p s, Row v fs → Gp p → wp (cf 11 [v, fA p] s) (fun a s' => a = optA (breakOf fs p) ∧ Kb none s s'))
    (e16 : ∀ a s, PlainD 2 a → cf 16 [a, a] s = .ok (.bl true) s)
    {c : Nat} {ps : List F} {p : F} {v0 v1 v6 l : A} {named : Bool} {z z' z'' : Option A} {s : S} {Q : Fl → S → Prop} (hp : Gp p) (hv : Row v6 fs) (hc : s[c]? = some (.lst (ps.map fA))) :
    wpe (turnF cf cs (.v 8) (.cons (.asg (.v 9) (.call 25 (.cons (.v 3) (.cons (.v 4) (.cons (.v 8) (.nil)))))) (.cons (.asg (.v 10) (.lst (.disp (.cons (.ite (.v 2) (.callK 10 (.nil) (.cons (.v 8) (.cons (.v 6) (.nil))) [1, 0]) (.call 10 (.cons (.v 6) (.cons (.v 8) (.nil))))) (.cons (.ite (.v 2) (.call 11 (.cons (.v 6) (.cons (.v 8) (.nil)))) (.callK 11 (.nil) (.cons (.v 8) (.cons (.v 6) (.nil))) [1, 0])) (.nil)))))) (.cons (.iff (.not (.call 16 (.cons (.v 10) (.cons (.lst (.disp (.cons (.cmp .is (.v 9) (.c .non)) (.cons (.v 9) (.nil))))) (.nil))))) (.cons (.ret (.c .non)) (.nil)) (.nil)) (.cons (.asg (.v 2) (.not (.v 2))) (.nil)))))
      (fA p) [some v0, some v1, some (.bl named), some cm, some nl, some l, some v6, some (.cell c), z, z', z''] s)
      (turnQ (fun σ' s' => grdB (some (c, ps.map fA)) s' = true ∧ Kb none s s' ∧ ∃ (named : Bool) (z z' z'' : Option A), σ' = [some v0, some v1, some (.bl named), some cm, some nl, some l, some v6, some (.cell c), z, z', z'']) Q) (fun _ _ => False) := by
  have e25' := fun s => e25 p s hp
  have e10' := fun s => e10 v6 p s hv hp
  have e11' := fun s => e11 v6 p s hv hp
  have hpl : PlainD 2 (.lst [.bl (breakOf fs p == none), optA (breakOf fs p)]) := .lst (by simp) (by
    intro x hx
    rcases List.mem_cons.1 hx with rfl | hx
    · exact .bl _
    · have : x = optA (breakOf fs p) := by simpa using hx
      subst this
      exact plain_opt _)
  have e16' := fun s => e16 _ s hpl
  have his := is_opt (breakOf fs p)
  generalize optA (breakOf fs p) = o at *
  generalize (breakOf fs p == none) = k at *
  cases named with
  | true =>
    simp [asgT, evE, evEs, Es.len, e25']
    refine wp_use (e10' _) ?_
    rintro _ s1 ⟨rfl, k1⟩
    try simp
    refine wp_use (e11' _) ?_
    rintro _ s2 ⟨rfl, k2⟩
    simp [his, e16']
    have hc2 := (k1.trans k2).get hc (by simp)
    exact ⟨grdB_of hc2, k1.trans k2⟩
  | false =>
    simp [asgT, evE, evEs, Es.len, e25']
    refine wp_use (e10' _) ?_
    rintro _ s1 ⟨rfl, k1⟩
    try simp
    refine wp_use (e11' _) ?_
    rintro _ s2 ⟨rfl, k2⟩
    simp [his, e16']
    have hc2 := (k1.trans k2).get hc (by simp)
    exact ⟨grdB_of hc2, k1.trans k2⟩
def tail2 : B → B
  | .cons _ (.cons _ r) => r
  | r => r
theorem row_right59 {n : Nat} (hn : 5 ≤ n) {fs : List F} {v : A} {b N : Nat} {named : Bool} {s : S} (hv : Row v fs) (h1 : 1 ≤ fs.length) (hg : Gd fs) (hB : Box s b N) (hN : N < 2 ^ 32) :
    wp (callF G cs n 26 [.cell b, v, .bl named] s) (fun a s' => a = fA (leastOf fs) ∧ Kb (some b) s s' ∧ Box s' b (N + 4)) := by
  refine wp_call (d := d_law_row_right) rfl (by omega) rfl ?_
  have ht : TakeOk (callF G cs (n - 1)) := takeOk (by omega)
  have e22 : ∀ s, wp (callF G cs (n - 1) 22 [v] s) _ := fun s => needs59 (by omega) hv hg
  have e24 : ∀ s, callF G cs (n - 1) 24 [.int (lcmL 1 fs), .lst ((trip fs.length).map (needA (vals (lcmL 1 fs) fs)))] s = .ok (fA (leastOf fs)) s := fun s => lleast59 (by omega) hg
  have e25 : ∀ p s, Gp p → callF G cs (n - 1) 25 [.int (lcmL 1 fs), .lst ((trip fs.length).map (needA (vals (lcmL 1 fs) fs))), fA p] s = .ok (optA (breakOf fs p)) s := fun p s hp => broken59 (by omega) hg hp
  have e10 : ∀ v p s, Row v fs → Gp p → wp (callF G cs (n - 1) 10 [v, fA p] s) (fun a s' => a = .bl (breakOf fs p == none) ∧ Kb none s s') := fun v p s hv hp => convex59 (by omega) hv h1 hg hp
  have e11 : ∀ v p s, Row v fs → Gp p → wp (callF G cs (n - 1) 11 [v, fA p] s) (fun a s' => a = optA (breakOf fs p) ∧ Kb none s s') := fun v p s hv hp => kbreak59 (by omega) hv h1 hg hp
  have e12 : ∀ v s, Row v fs → wp (callF G cs (n - 1) 12 [v] s) (fun a s' => a = fA (leastOf fs) ∧ Kb none s s') := fun v s hv => least59 (by omega) hv h1 hg
  have e16 : ∀ a s, PlainD 2 a → callF G cs (n - 1) 16 [a, a] s = .ok (.bl true) s := fun a s hp => same59 hp (by omega)
  have e17 : ∀ a b s, 0 < b → b.natAbs < 2 ^ 1900 → callF G cs (n - 1) 17 [.int a, .int b] s = .ok (fA (lowP a b)) s := fun a b s h h' => low59 (by omega) h h'
  have e18 : ∀ (p : F) (x y : Int) s, 0 < p.2 → 0 < y → p.1.natAbs < 2 ^ 900 → p.2.natAbs < 2 ^ 900 → x.natAbs < 2 ^ 900 → y.natAbs < 2 ^ 900 → callF G cs (n - 1) 18 [fA p, .tup [.int x, .int y]] s = .ok (fA (plusF p (x, y))) s :=
    fun p x y s a1 a2 a3 a4 a5 a6 => plus59 (q := (x, y)) (k := 900) (by omega) a1 a2 (by omega) a3 a4 a5 a6
  have e20 : ∀ (p : F) (x y : Int) s, 0 < p.2 → 0 < y → p.1.natAbs < 2 ^ 900 → p.2.natAbs < 2 ^ 900 → x.natAbs < 2 ^ 900 → y.natAbs < 2 ^ 900 → callF G cs (n - 1) 20 [fA p, .tup [.int x, .int y]] s = .ok (fA (timesF p (x, y))) s :=
    fun p x y s a1 a2 a3 a4 a5 a6 => times59 (q := (x, y)) (k := 900) (by omega) a1 a2 (by omega) a3 a4 a5 a6
  generalize callF G cs (n - 1) = cf at *
  have hlb := least_lb hg
  generalize A.lst ((trip fs.length).map (needA (vals (lcmL 1 fs) fs))) = nl at *
  generalize hcm : A.int (lcmL 1 fs) = cm at *
  -- prices
  have l2 := hlb.ok.1
  have t9 : (leastOf fs).1.natAbs < 2 ^ 900 := lt_two_pow hlb.top (by omega)
  have b9' : (leastOf fs).2.natAbs < 2 ^ 900 := lt_two_pow hlb.bot (by omega)
  have k9 : ∀ x : Int, x.natAbs < 2 ^ 40 → x.natAbs < 2 ^ 900 := fun x h => lt_two_pow h (by omega)
  have gpl : ∀ (a c : Int), 0 ≤ a → 0 < c → a.natAbs < 2 ^ 40 → c.natAbs < 2 ^ 40 → Gp (lowP a c) := fun a c h1 h2 h3 h4 => gp_low h1 h2 (lt_two_pow h3 (by omega)) (lt_two_pow h4 (by omega))
  have gpp : ∀ d : Int, 0 ≤ d → d < 9 → Gp (plusF (leastOf fs) (1, 1 + d)) := by
    intro d d0 d1
    have x1 := Int.mul_nonneg hlb.nn (by omega : 0 ≤ 1 + d)
    refine gp_low (by simp only; omega) (Int.mul_pos l2 (by omega)) (lt_two_pow (k := 491) ?_ (by omega)) (lt_two_pow (abs_mul_lt hlb.bot (by omega : (1 + d).natAbs < 2 ^ 40)) (by omega))
    exact add_lt' (abs_mul_lt hlb.top (by omega : (1 + d).natAbs < 2 ^ 40)) (lt_two_pow (abs_mul_lt (by decide : (1 : Int).natAbs < 2 ^ 1) hlb.bot) (by omega))
  have gpt : ∀ x y : Int, 0 ≤ x → 0 < y → x.natAbs < 2 ^ 40 → y.natAbs < 2 ^ 40 → Gp (timesF (leastOf fs) (x, y)) := by
    intro x y x0 y0 x1 y1
    exact gp_low (Int.mul_nonneg hlb.nn x0) (Int.mul_pos l2 y0) (lt_two_pow (abs_mul_lt hlb.top x1) (by omega)) (lt_two_pow (abs_mul_lt hlb.bot y1) (by omega))
  have gpm : 1 < (leastOf fs).1 → Gp (plusF (leastOf fs) (-1, 1000000 * (leastOf fs).2)) := by
    intro hgt
    have b6 : (1000000 * (leastOf fs).2).natAbs < 2 ^ (20 + 450) := abs_mul_lt (by decide) hlb.bot
    have x1 : 0 < 1000000 * (leastOf fs).2 := by omega
    have x2 := Int.mul_le_mul_of_nonneg_right (by omega : 1 ≤ (leastOf fs).1) (by omega : 0 ≤ 1000000 * (leastOf fs).2)
    refine gp_low (by simp only; omega) (Int.mul_pos l2 x1) (lt_two_pow (k := 921) ?_ (by omega)) (lt_two_pow (abs_mul_lt hlb.bot b6) (by omega))
    exact add_lt' (lt_two_pow (abs_mul_lt hlb.top b6) (by omega)) (lt_two_pow (abs_mul_lt (by decide : (-1 : Int).natAbs < 2 ^ 1) hlb.bot) (by omega))
  have gp0 : Gp (0, 1) := ⟨⟨by decide, by decide⟩, by decide, by simp only [Int.natAbs_zero]; exact Nat.two_pow_pos _, by simp only; exact Int.lt_of_lt_of_le (by decide : (1 : Int) < 2 ^ 1) (ipow_le (by omega))⟩
  have hplain : PlainD 2 (.lst [fA (leastOf fs), fA (leastOf fs)]) := .lst (by simp) (by simp; exact PlainD.fA _ _)
  have e16' := fun s => e16 _ s hplain
  have hz : (A.tup [.int 0, .int 1]) = fA (0, 1) := rfl
  have hvt : ∀ s, itemsT s v = some (fs.map fA) := by intro s; rcases hv with rfl | rfl <;> simp
  have vt : Row (.tup (fs.map fA)) fs := .inr rfl
  have vl : Row (.lst (fs.map fA)) fs := .inl rfl
  -- the walk of the prices and the end
  have walk : ∀ (v6 : A) (named : Bool) (c : Nat) (ps : List F) (s5 : S) (z z' z'' : Option A), Row v6 fs → (∀ p ∈ ps, Gp p) → s5[c]? = some (.lst (ps.map fA)) → Kb (some b) s s5 → Box s5 b (N + 4) →
      wpe (evB cf cs (.cons (.for_ (.v 8) (.seq (.v 7)) (.cons (.asg (.v 9) (.call 25 (.cons (.v 3) (.cons (.v 4) (.cons (.v 8) (.nil)))))) (.cons (.asg (.v 10) (.lst (.disp (.cons (.ite (.v 2) (.callK 10 (.nil) (.cons (.v 8) (.cons (.v 6) (.nil))) [1, 0]) (.call 10 (.cons (.v 6) (.cons (.v 8) (.nil))))) (.cons (.ite (.v 2) (.call 11 (.cons (.v 6) (.cons (.v 8) (.nil)))) (.callK 11 (.nil) (.cons (.v 8) (.cons (.v 6) (.nil))) [1, 0])) (.nil)))))) (.cons (.iff (.not (.call 16 (.cons (.v 10) (.cons (.lst (.disp (.cons (.cmp .is (.v 9) (.c .non)) (.cons (.v 9) (.nil))))) (.nil))))) (.cons (.ret (.c .non)) (.nil)) (.nil)) (.cons (.asg (.v 2) (.not (.v 2))) (.nil)))))) (.cons (.ret (.v 5)) (.nil)))
        [some (.cell b), some v, some (.bl named), some cm, some nl, some (fA (leastOf fs)), some v6, some (.cell c), z, z', z''] s5)
        (flQ (fun a s' => a = fA (leastOf fs) ∧ Kb (some b) s s' ∧ Box s' b (N + 4)) (fun _ _ => False)) (fun _ _ => False) := by
    intro v6 named c ps s5 z z' z'' hv6 hps hc hk5 hb5
    have i5 := itemsL_c _ hc
    simp [evI, evE, i5]
    refine wpe_mono (wp_forL (Q := fun fl s' => (∃ σ, fl = .nx σ ∧ σ[5]? = some (some (fA (leastOf fs)))) ∧ Kb (some b) s s' ∧ Box s' b (N + 4)) (X := fun _ _ => False)
      (fun done σ s' => Kb none s5 s' ∧ ∃ (named : Bool) (z z' z'' : Option A), σ = [some (.cell b), some v, some (.bl named), some cm, some nl, some (fA (leastOf fs)), some v6, some (.cell c), z, z', z'']) ?_ ?_ ?_) ?_ (fun _ _ h => h)
    · exact ⟨Kb.refl _ _, named, _, _, _, rfl⟩
    · intro done p rest σ s6 e h
      obtain ⟨k6, nm, y, y', y'', hσ⟩ := h
      subst hσ
      have hpm : Gp p := hps p (by rw [e]; simp)
      refine wpe_mono (price_turn (ps := ps) (named := nm) (z := y) (z' := y') (z'' := y'') (v0 := .cell b) (v1 := v) (l := fA (leastOf fs)) (Q := fun fl s' => False) e25 e10 e11 e16 hpm hv6 (k6.get hc (by simp))) ?_ (fun _ _ h => h)
      intro fl s7 hf
      cases fl with
      | nx σ' =>
        obtain ⟨g1, g2, g3⟩ := hf
        exact ⟨g1, k6.trans g2, g3⟩
      | ct σ' =>
        obtain ⟨g1, g2, g3⟩ := hf
        exact ⟨g1, k6.trans g2, g3⟩
      | bk σ' => exact False.elim hf
      | rt a => exact False.elim hf
      | ex x σ' => exact False.elim hf
    · intro σ s6 h
      obtain ⟨k6, nm, y, y', y'', hσ⟩ := h
      subst hσ
      exact ⟨⟨_, rfl, rfl⟩, hk5.trans k6.up, hb5.kb k6⟩
    · rintro _ s6 ⟨⟨σ, rfl, h5⟩, hk6, hb6⟩
      simp [evE, h5, hk6, hb6]
  -- up to the prices
  have hite : ∀ (v6 : A) (s : S), evE cf cs (.ite (.v 2) (.callK 12 (.nil) (.cons (.v 6) (.nil)) [0]) (.call 12 (.cons (.v 6) (.nil)))) [some (.cell b), some v, some (.bl named), some cm, some nl, some (fA (leastOf fs)), some v6, none, none, none, none] s = cf 12 [v6] s := by
    intro v6 s
    cases named <;> simp [evE, evEs, Es.len, Res.bind]
  have rest : ∀ (v6 : A) (s2 : S), Row v6 fs → Kb (some b) s s2 → Box s2 b (N + 1) →
      wpe (contB cf cs (tail2 d_law_row_right.body) (.nx [some (.cell b), some v, some (.bl named), some cm, some nl, some (fA (leastOf fs)), some v6, none, none, none, none]) s2)
        (flQ (fun a s' => a = fA (leastOf fs) ∧ Kb (some b) s s' ∧ Box s' b (N + 4)) (fun _ _ => False)) (fun _ _ => False) := by
    intro v6 s2 hv6 k2 b2
    simp only [tail2, d_law_row_right, contB_nx, evB_cons, evS_iff, wpe_bind, wpe_bindX]
    simp only [evE_not, evE_call, evE_lst, evEs_cons, evEs_nil, evL_disp, wpe_bind, wpe_bindX]
    rw [hite]
    refine wp_use (e12 v6 s2 hv6) ?_
    rintro _ s3 ⟨rfl, k3⟩
    simp [-contB_nx, evE, evEs, hvt]
    refine wp_use (e12 _ s3 vl) ?_
    rintro _ s4 ⟨rfl, k4⟩
    simp [-contB_nx, evE, evEs, e16']
    have b4 := (b2.kb k3).kb k4
    have k4' : Kb (some b) s s4 := (k2.trans k3.up).trans k4.up
    rw [contB_nx]
    simp [-contB_nx, evE, evEs]
    refine use_take ht b4 (by omega) (by omega) (by omega) ?_
    intro d s5 d0 d1 k5 b5
    have x18 := fun s => e18 (leastOf fs) 1 (1 + d) s l2 (by omega) t9 b9' (k9 _ (by decide)) (k9 _ (by omega))
    simp [-contB_nx, evE, evEs, x18]
    refine use_take ht b5 (by omega) (by omega) (by omega) ?_
    intro d' s6 d0' d1' k6 b6
    try simp [-contB_nx, evE, evEs, x18]
    refine use_take ht b6 (by omega) (by omega) (by omega) ?_
    intro d'' s7 d0'' d1'' k7 b7
    have x17 := fun s => e17 d' (1 + d'') s (by omega) (lt_two_pow (k := 40) (by omega) (by omega))
    have x20 := fun s => e20 (leastOf fs) 1 2 s l2 (by omega) t9 b9' (k9 _ (by decide)) (k9 _ (by decide))
    simp [-contB_nx, evE, evEs, x17, x20]
    simp [-contB_nx, asgT]
    rw [contB_nx]
    have hl7 : s.length ≤ s7.length := ((((k4'.trans k5).trans k6).trans k7).1)
    have k8 : ∀ xs, Kb (some b) s (s7 ++ [.lst xs]) := fun xs => (((k4'.trans k5).trans k6).trans k7).trans (Kb.app _ _ _)
    have b8 : ∀ xs, Box (s7 ++ [.lst xs]) b (N + 4) := fun xs => (b7.up (by omega)).kb (Kb.app _ _ _)
    have i8 : ∀ xs, itemsL (s7 ++ [.lst xs]) (.cell s7.length) = some xs := fun xs => itemsL_app _
    have set8 : ∀ xs ys, List.set (s7 ++ [C.lst xs]) s7.length (C.lst ys) = s7 ++ [C.lst ys] := by intro xs ys; simp
    have hps0 : ∀ p ∈ [leastOf fs, plusF (leastOf fs) (1, 1 + d), (0, 1), lowP d' (1 + d''), timesF (leastOf fs) (1, 2)], Gp p := by
      intro p hp
      simp only [List.mem_cons, List.not_mem_nil, or_false] at hp
      rcases hp with rfl | rfl | rfl | rfl | rfl
      · exact hlb.gp
      · exact gpp d d0 d1
      · exact gp0
      · exact gpl _ _ d0' (by omega) (by omega) (by omega)
      · exact gpt 1 2 (by decide) (by decide) (by decide) (by decide)
    by_cases h01 : leastOf fs = (0, 1)
    · have h01' : (leastOf fs = (0, 1)) = True := eq_true h01
      simp [-contB_nx, evE, evEs, hz, h01']
      rw [contB_nx]
      exact walk v6 named s7.length _ _ none none none hv6 hps0 (app_get _ _) (k8 _) (b8 _)
    · by_cases hgt : 1 < (leastOf fs).1
      · have b6 : (1000000 * (leastOf fs).2).natAbs < 2 ^ (20 + 450) := abs_mul_lt (by decide) hlb.bot
        have sm : small (leastOf fs).2 = true := smallp hlb.bot (by omega)
        have sm6 : small 1000000 = true := by decide +kernel
        have x18' := fun s => e18 (leastOf fs) (-1) (1000000 * (leastOf fs).2) s l2 (by omega) t9 b9' (k9 _ (by decide)) (lt_two_pow b6 (by omega))
        simp [-contB_nx, evE, evEs, hz, h01, hgt, idx0, idx1, sm, sm6, x18', i8]
        refine ⟨by decide, ?_⟩
        rw [contB_nx]
        simp [-contB_nx]
        rw [contB_nx]
        refine walk v6 named s7.length ([leastOf fs, plusF (leastOf fs) (1, 1 + d), (0, 1), lowP d' (1 + d''), timesF (leastOf fs) (1, 2)] ++ [plusF (leastOf fs) (-1, 1000000 * (leastOf fs).2)]) _ none none none hv6 ?_ (app_get _ _) (k8 _) (b8 _)
        intro p hp
        rcases List.mem_append.1 hp with hp | hp
        · exact hps0 p hp
        · have e : p = plusF (leastOf fs) (-1, 1000000 * (leastOf fs).2) := by simpa using hp
          rw [e]
          exact gpm hgt
      · have x20' := fun s => e20 (leastOf fs) 99 100 s l2 (by omega) t9 b9' (k9 _ (by decide)) (k9 _ (by decide))
        simp [-contB_nx, evE, evEs, hz, h01, hgt, idx0, x20', i8]
        refine ⟨by decide, ?_⟩
        rw [contB_nx]
        simp [-contB_nx]
        rw [contB_nx]
        refine walk v6 named s7.length ([leastOf fs, plusF (leastOf fs) (1, 1 + d), (0, 1), lowP d' (1 + d''), timesF (leastOf fs) (1, 2)] ++ [timesF (leastOf fs) (99, 100)]) _ none none none hv6 ?_ (app_get _ _) (k8 _) (b8 _)
        intro p hp
        rcases List.mem_append.1 hp with hp | hp
        · exact hps0 p hp
        · have e : p = timesF (leastOf fs) (99, 100) := by simpa using hp
          rw [e]
          exact gpt 99 100 (by decide) (by decide) (by decide) (by decide)
  simp [-contB_nx, d_law_row_right, evE, evEs, asgT, asgTs]
  refine wp_use (e22 s) ?_
  rintro _ s1 ⟨rfl, k1⟩
  have b1 := hB.kb k1
  simp [-contB_nx, asgT, asgTs]
  rw [contB_nx]
  simp [-contB_nx, evE, evEs, e24]
  refine use_take ht b1 (by omega) (by omega) (by omega) ?_
  intro d s2 d0 d1 k2 b2
  have k2' : Kb (some b) s s2 := k1.up.trans k2
  by_cases hd : d = 0
  · subst hd
    simp [-contB_nx, hvt, setsA]
    exact rest _ s2 vt k2' b2
  · simp [-contB_nx, hd, hvt, setsA]
    exact rest _ s2 vl k2' b2
end K59
end

section
set_option Elab.async false
set_option linter.all false
namespace K59
open PySem Dy
/-! ### rows that are alike -/
def lineAt (st sl : F) (k : Nat) : F := plusF st (timesF sl ((k : Int), 1))
def lineF (st sl : F) (fs : List F) : List F := fs.zipIdx.map fun x => plusF x.1 (lineAt st sl x.2)
def moreF (by_ : F) (fs : List F) : List F := fs.map fun p => timesF p by_
theorem line_get {st sl : F} {fs : List F} {i : Nat} {p : F} (h : fs[i]? = some p) : (lineF st sl fs)[i]? = some (plusF p (lineAt st sl i)) := by
  simp [lineF, h]
theorem line_need {n : Int} {st sl : F} {fs : List F} {t : T3} (ht : t ∈ trip fs.length) (hst : 0 < st.2) (hsl : 0 < sl.2) (h1 : Div n fs) (h2 : Div n (lineF st sl fs)) (d1 : st.2 ∣ n) (d2 : sl.2 ∣ n)
    (d3 : ∀ k : Nat, k < fs.length → (timesF sl ((k : Int), 1)).2 ∣ n ∧ (lineAt st sl k).2 ∣ n) : need (vals n (lineF st sl fs)) t = need (vals n fs) t := by
  have hv : ∀ i p, fs[i]? = some p → (vals n (lineF st sl fs)).getD i 0 = (vals n fs).getD i 0 + (val n st + (i : Int) * val n sl) := by
    intro i p hp
    have hi : i < fs.length := (List.getElem?_eq_some_iff.1 hp).1
    have hg := line_get (st := st) (sl := sl) hp
    rw [vals_get hg, vals_get hp]
    obtain ⟨d4, d5⟩ := d3 i hi
    have hm := h1.2 p (List.mem_of_getElem? hp)
    have hq := h2.2 _ (List.mem_of_getElem? hg)
    have t1 := timesF_ok (p := sl) (q := ((i : Int), 1)) hsl (by simp)
    have t2 : okF (lineAt st sl i) := plusF_ok (p := st) (q := timesF sl ((i : Int), 1)) hst t1.1
    rw [plusF_val hm.1 t2.1 hm.2 d5 hq.2]
    have e1 : val n (lineAt st sl i) = val n st + val n (timesF sl ((i : Int), 1)) := plusF_val hst t1.1 d1 d4 d5
    have e2 := timesF_val (n := n) (p := sl) (q := ((i : Int), 1)) hsl (by simp) d2 d4
    simp only at e2
    rw [e1]
    omega
  obtain ⟨p, q, r, hp, hq, hr⟩ := trip_get ht
  unfold need
  rw [hv _ p hp, hv _ q hq, hv _ r hr]
  grind
theorem line_ok {st sl : F} {fs : List F} (hst : 0 < st.2) (hsl : 0 < sl.2) (hf : ∀ p ∈ fs, 0 < p.2) :
    leastOf (lineF st sl fs) = leastOf fs ∧ ∀ p : F, 0 < p.2 → breakOf (lineF st sl fs) p = breakOf fs p := by
  have hl : (lineF st sl fs).length = fs.length := by simp [lineF]
  have t1 : ∀ k : Nat, 0 < (timesF sl ((k : Int), 1)).2 := fun k => (timesF_ok hsl (by simp)).1
  have t2 : ∀ k : Nat, 0 < (lineAt st sl k).2 := fun k => (plusF_ok hst (t1 k)).1
  have hlp : ∀ p ∈ lineF st sl fs, 0 < p.2 := by
    intro p hp
    simp only [lineF, List.mem_map] at hp
    obtain ⟨x, hx, rfl⟩ := hp
    exact (plusF_ok (hf x.1 (List.fst_mem_of_mem_zipIdx hx)) (t2 _)).1
  have hall : ∀ p ∈ fs ++ (lineF st sl fs ++ ([st, sl] ++ ((List.range fs.length).map (fun k : Nat => timesF sl ((k : Int), 1)) ++ (List.range fs.length).map (lineAt st sl)))), 0 < p.2 := by
    intro p hp
    simp only [List.mem_append, List.mem_cons, List.not_mem_nil, or_false, List.mem_map] at hp
    rcases hp with hp | hp | hp | ⟨k, _, rfl⟩ | ⟨k, _, rfl⟩
    · exact hf p hp
    · exact hlp p hp
    · rcases hp with rfl | rfl
      · exact hst
      · exact hsl
    · exact t1 k
    · exact t2 k
  have hd := div_lcm hall
  generalize lcmL 1 _ = n at hd
  have h1 : Div n fs := ⟨hd.1, fun p hp => hd.2 p (by simp [hp])⟩
  have h2 : Div n (lineF st sl fs) := ⟨hd.1, fun p hp => hd.2 p (by simp [hp])⟩
  have d1 := (hd.2 st (by simp)).2
  have d2 := (hd.2 sl (by simp)).2
  have d3 : ∀ k : Nat, k < fs.length → (timesF sl ((k : Int), 1)).2 ∣ n ∧ (lineAt st sl k).2 ∣ n := by
    intro k hk
    refine ⟨(hd.2 _ ?_).2, (hd.2 _ ?_).2⟩
    · simp only [List.mem_append, List.mem_map, List.mem_range]
      exact .inr (.inr (.inr (.inl ⟨k, hk, rfl⟩)))
    · simp only [List.mem_append, List.mem_map, List.mem_range]
      exact .inr (.inr (.inr (.inr ⟨k, hk, rfl⟩)))
  have ha := alike (n := n) (fs := lineF st sl fs) (gs := fs) (c := 1) (d := 1) (by omega) (by omega) h2 h1 hl (fun t ht => by
    rw [hl] at ht
    rw [line_need ht hst hsl h1 h2 d1 d2 d3])
  obtain ⟨⟨b, b', b0, b1, b2, b3, b4, b5⟩, hb⟩ := ha
  constructor
  · rw [b4, b5, b2]
    congr 1
    omega
  · intro p hp
    exact hb p p hp hp (by grind)
theorem more_ok {m : F} {fs : List F} (hm : 0 < m.2) (hm1 : 0 < m.1) (hf : ∀ p ∈ fs, 0 < p.2) :
    leastOf (moreF m fs) = timesF (leastOf fs) m ∧ ∀ p : F, 0 < p.2 → breakOf (moreF m fs) (timesF p m) = breakOf fs p := by
  have hl : (moreF m fs).length = fs.length := by simp [moreF]
  have hmp : ∀ p ∈ moreF m fs, 0 < p.2 := by
    intro p hp
    simp only [moreF, List.mem_map] at hp
    obtain ⟨x, hx, rfl⟩ := hp
    exact (timesF_ok (hf x hx) hm).1
  have hd := div_lcm (fs := fs ++ moreF m fs) (fun p hp => by
    rcases List.mem_append.1 hp with hp | hp
    · exact hf p hp
    · exact hmp p hp)
  generalize lcmL 1 _ = n at hd
  have h1 : Div n fs := ⟨hd.1, fun p hp => hd.2 p (by simp [hp])⟩
  have h2 : Div n (moreF m fs) := ⟨hd.1, fun p hp => hd.2 p (by simp [hp])⟩
  have hv : ∀ i p, fs[i]? = some p → m.2 * (vals n (moreF m fs)).getD i 0 = m.1 * (vals n fs).getD i 0 := by
    intro i p hp
    have hg : (moreF m fs)[i]? = some (timesF p m) := by simp [moreF, hp]
    rw [vals_get hg, vals_get hp]
    have hpm := h1.2 p (List.mem_of_getElem? hp)
    have hq := h2.2 _ (List.mem_of_getElem? hg)
    exact timesF_val hpm.1 hm hpm.2 hq.2
  have ha := alike (n := n) (fs := moreF m fs) (gs := fs) (c := m.2) (d := m.1) hm hm1 h2 h1 hl (fun t ht => by
    rw [hl] at ht
    obtain ⟨p, q, r, hp, hq, hr⟩ := trip_get ht
    have e1 := hv _ p hp
    have e2 := hv _ q hq
    have e3 := hv _ r hr
    unfold need
    generalize (vals n (moreF m fs)).getD t.1 0 = a1 at *
    generalize (vals n (moreF m fs)).getD t.2.1 0 = a2 at *
    generalize (vals n (moreF m fs)).getD t.2.2 0 = a3 at *
    generalize (vals n fs).getD t.1 0 = c1 at *
    generalize (vals n fs).getD t.2.1 0 = c2 at *
    generalize (vals n fs).getD t.2.2 0 = c3 at *
    grind)
  obtain ⟨⟨b, b', b0, b1, b2, b3, b4, b5⟩, hb⟩ := ha
  have hn := hd.1
  constructor
  · have hbn : 0 < b.2 * n := Int.mul_pos b1 hn
    have hbn' : 0 < b'.2 * n := by rw [← b2]; exact hbn
    have x1 := lowP_cross (a := b.1) hbn
    have x2 := lowP_cross (a := b'.1) hbn'
    rw [← b4] at x1
    rw [← b5] at x2
    have okl := (leastOf_ok h1).1
    have okm := (leastOf_ok h2).1
    have hlm := Int.mul_pos okl.1 hm
    have y1 := lowP_cross (a := (leastOf fs).1 * m.1) hlm
    apply okF_inj okm (timesF_ok okl.1 hm)
    change (timesF (leastOf fs) m).1 * ((leastOf fs).2 * m.2) = (leastOf fs).1 * m.1 * (timesF (leastOf fs) m).2 at y1
    generalize timesF (leastOf fs) m = y at *
    generalize leastOf (moreF m fs) = x at *
    generalize leastOf fs = l at *
    have hK : 0 < b.2 * n * (l.2 * m.2) := Int.mul_pos hbn hlm
    have : (x.1 * y.2 - y.1 * x.2) * (b.2 * n * (l.2 * m.2)) = 0 := by
      have c1 : x.1 * y.2 * (b.2 * n * (l.2 * m.2)) = m.2 * b.1 * (x.2 * y.2 * l.2) := by grind
      have c2 : y.1 * x.2 * (b.2 * n * (l.2 * m.2)) = m.1 * b'.1 * (x.2 * y.2 * l.2) := by
        have d1 : y.1 * x.2 * (b.2 * n * (l.2 * m.2)) = (y.1 * (l.2 * m.2)) * (x.2 * (b.2 * n)) := by grind
        have d2 : l.1 * (b.2 * n) = b'.1 * l.2 := by rw [b2]; exact x2
        rw [d1, y1]
        have d3 : l.1 * m.1 * y.2 * (x.2 * (b.2 * n)) = (l.1 * (b.2 * n)) * (m.1 * y.2 * x.2) := by grind
        rw [d3, d2]
        grind
      rw [Int.sub_mul, c1, c2, b3]
      omega
    rcases Int.mul_eq_zero.1 this with h | h <;> omega
  · intro p hp
    have hq := timesF_ok hp hm
    apply hb _ _ hq.1 hp
    have y1 := lowP_cross (a := p.1 * m.1) (Int.mul_pos hp hm)
    change (timesF p m).1 * (p.2 * m.2) = p.1 * m.1 * (timesF p m).2 at y1
    generalize timesF p m = q at *
    grind
theorem least_none {fs : List F} (hf : ∀ p ∈ fs, 0 < p.2) : breakOf fs (leastOf fs) = none := by
  have h := div_lcm hf
  exact (ub_iff h).2 (leastOf_ok h).2.2
end K59
end

section
set_option Elab.async false
set_option linter.all false
namespace K59
open PySem Dy
/-- bounds of a fraction -/
structure Sb (k l : Nat) (p : F) : Prop where
  ok : okF p
  top : p.1.natAbs < 2 ^ k
  bot : p.2.natAbs < 2 ^ l
theorem Sb.up {k l k' l' : Nat} {p : F} (h : Sb k l p) (hk : k ≤ k') (hl : l ≤ l') : Sb k' l' p := ⟨h.ok, lt_two_pow h.top hk, lt_two_pow h.bot hl⟩
theorem sb_low {a b : Int} {k l : Nat} (hb : 0 < b) (h1 : a.natAbs < 2 ^ k) (h2 : b.natAbs < 2 ^ l) : Sb k l (lowP a b) := by
  have h3 := lowP_abs (a := a) hb
  have h4 := lowP_le (a := a) hb
  have h5 := lowP_pos (a := a) hb
  exact ⟨lowP_ok hb, Nat.lt_of_le_of_lt h3 h1, Nat.lt_of_le_of_lt (by omega) h2⟩
theorem sb_plus {k1 l1 k2 l2 k l : Nat} {p q : F} (hp : Sb k1 l1 p) (hq : Sb k2 l2 q) (h : k1 + l2 ≤ k) (h' : k2 + l1 ≤ k) (hl : l1 + l2 ≤ l) : Sb (k + 1) l (plusF p q) :=
  sb_low (Int.mul_pos hp.ok.1 hq.ok.1) (add_lt' (lt_two_pow (abs_mul_lt hp.top hq.bot) h) (lt_two_pow (abs_mul_lt hq.top hp.bot) h')) (lt_two_pow (abs_mul_lt hp.bot hq.bot) hl)
theorem sb_times {k1 l1 k2 l2 : Nat} {p q : F} (hp : Sb k1 l1 p) (hq : Sb k2 l2 q) : Sb (k1 + k2) (l1 + l2) (timesF p q) :=
  sb_low (Int.mul_pos hp.ok.1 hq.ok.1) (abs_mul_lt hp.top hq.top) (abs_mul_lt hp.bot hq.bot)
theorem sb_int {x : Int} {k : Nat} (h : x.natAbs < 2 ^ k) : Sb k 1 (x, 1) := ⟨⟨by simp, by simp⟩, h, by simp⟩
theorem gd_of {fs : List F} (hl : fs.length ≤ 40) (h : ∀ p ∈ fs, Sb 24 10 p) : Gd fs := ⟨hl, fun p hp => ⟨(h p hp).ok, (h p hp).top, lt_of_abs (h p hp).bot⟩⟩
theorem sb_row {fs : List F} (h : Gr fs) : ∀ p ∈ fs, Sb 14 3 p := fun p hp => by
  obtain ⟨h1, h2, h3⟩ := h p hp
  have := h1.1
  exact ⟨h1, h2, by omega⟩
theorem gd_row {fs : List F} (hl : fs.length ≤ 40) (h : Gr fs) : Gd fs := gd_of hl fun p hp => (sb_row h p hp).up (by omega) (by omega)
theorem enumA_eq : ∀ (fs : List F) (n : Nat), enumA n (fs.map fA) = (fs.zipIdx n).map fun x => A.tup [.int (x.2 : Nat), fA x.1]
  | [], _ => rfl
  | p :: fs, n => by simp [enumA, enumA_eq fs (n + 1)]
def dropB : Nat → B → B
  | 0, b => b
  | n + 1, .cons _ r => dropB n r
  | _ + 1, .nil => .nil
theorem rep2 (s : S) (o : A) : repV s (.lst [o]) (.int 2) = some [o, o] := by
  have h : (1 * 2 ≤ sizeLine) := by decide
  simp [repV, h]
theorem alike_right59 {n : Nat} (hn : 5 ≤ n) {fs : List F} {b N : Nat} {named : Bool} {s : S} (h1 : 1 ≤ fs.length) (h40 : fs.length ≤ 40) (hr : Gr fs) (hB : Box s b N) (hN : N < 2 ^ 32) :
    wp (callF G cs n 27 [.cell b, .lst (fs.map fA), fA (leastOf fs), .bl named] s) (fun a s' => a = .bl true ∧ Kb (some b) s s' ∧ Box s' b (N + 6)) := by
  refine wp_call (d := d_law_alike_right) rfl (by omega) rfl ?_
  have hg := gd_row h40 hr
  have hsb := sb_row hr
  have hpos := gd_pos hg
  have ht : TakeOk (callF G cs (n - 1)) := takeOk (by omega)
  have e22 : ∀ fs v s, Row v fs → Gd fs → wp (callF G cs (n - 1) 22 [v] s) (fun a s' => a = .lst [.int (lcmL 1 fs), .lst ((trip fs.length).map (needA (vals (lcmL 1 fs) fs)))] ∧ Kb none s s') := fun fs v s hv hg => needs59 (by omega) hv hg
  have e24 : ∀ fs s, Gd fs → callF G cs (n - 1) 24 [.int (lcmL 1 fs), .lst ((trip fs.length).map (needA (vals (lcmL 1 fs) fs)))] s = .ok (fA (leastOf fs)) s := fun fs s hg => lleast59 (by omega) hg
  have e25 : ∀ fs p s, Gd fs → Gp p → callF G cs (n - 1) 25 [.int (lcmL 1 fs), .lst ((trip fs.length).map (needA (vals (lcmL 1 fs) fs))), fA p] s = .ok (optA (breakOf fs p)) s := fun fs p s hg hp => broken59 (by omega) hg hp
  have e10 : ∀ fs v p s, Row v fs → 1 ≤ fs.length → Gd fs → Gp p → wp (callF G cs (n - 1) 10 [v, fA p] s) (fun a s' => a = .bl (breakOf fs p == none) ∧ Kb none s s') := fun fs v p s hv h1 hg hp => convex59 (by omega) hv h1 hg hp
  have e11 : ∀ fs v p s, Row v fs → 1 ≤ fs.length → Gd fs → Gp p → wp (callF G cs (n - 1) 11 [v, fA p] s) (fun a s' => a = optA (breakOf fs p) ∧ Kb none s s') := fun fs v p s hv h1 hg hp => kbreak59 (by omega) hv h1 hg hp
  have e12 : ∀ fs v s, Row v fs → 1 ≤ fs.length → Gd fs → wp (callF G cs (n - 1) 12 [v] s) (fun a s' => a = fA (leastOf fs) ∧ Kb none s s') := fun fs v s hv h1 hg => least59 (by omega) hv h1 hg
  have e16 : ∀ a s, PlainD 2 a → callF G cs (n - 1) 16 [a, a] s = .ok (.bl true) s := fun a s hp => same59 hp (by omega)
  have e17 : ∀ a b s, 0 < b → b.natAbs < 2 ^ 1900 → callF G cs (n - 1) 17 [.int a, .int b] s = .ok (fA (lowP a b)) s := fun a b s h h' => low59 (by omega) h h'
  have e18 : ∀ (p q : F) s, Sb 900 900 p → Sb 900 900 q → callF G cs (n - 1) 18 [fA p, fA q] s = .ok (fA (plusF p q)) s :=
    fun p q s hp hq => plus59 (k := 900) (by omega) hp.ok.1 hq.ok.1 (by omega) hp.top hp.bot hq.top hq.bot
  have e20 : ∀ (p q : F) s, Sb 900 900 p → Sb 900 900 q → callF G cs (n - 1) 20 [fA p, fA q] s = .ok (fA (timesF p q)) s :=
    fun p q s hp hq => times59 (k := 900) (by omega) hp.ok.1 hq.ok.1 (by omega) hp.top hp.bot hq.top hq.bot
  generalize callF G cs (n - 1) = cf at *
  have hlb := least_lb hg
  have sl900 : Sb 900 900 (leastOf fs) := ⟨hlb.ok, lt_two_pow hlb.top (by omega), lt_two_pow hlb.bot (by omega)⟩
  -- six draws
  simp [-contB_nx, d_law_alike_right, evE, evEs]
  refine use_take ht hB (by omega) (by omega) (by omega) ?_
  intro a1 s1 a10 a11 k1 b1
  try simp [-contB_nx, evE, evEs]
  refine use_take ht b1 (by omega) (by omega) (by omega) ?_
  intro a2 s2 a20 a21 k2 b2
  have x1 := fun s => e17 (a1 - 15) (1 + a2) s (by omega) (lt_two_pow (k := 40) (by omega) (by omega))
  simp [-contB_nx, evE, evEs, x1]
  refine use_take ht b2 (by omega) (by omega) (by omega) ?_
  intro a3 s3 a30 a31 k3 b3
  try simp [-contB_nx, evE, evEs]
  refine use_take ht b3 (by omega) (by omega) (by omega) ?_
  intro a4 s4 a40 a41 k4 b4
  have x2 := fun s => e17 (a3 - 15) (1 + a4) s (by omega) (lt_two_pow (k := 40) (by omega) (by omega))
  simp [-contB_nx, evE, evEs, x2]
  refine use_take ht b4 (by omega) (by omega) (by omega) ?_
  intro a5 s5 a50 a51 k5 b5
  try simp [-contB_nx, evE, evEs]
  refine use_take ht b5 (by omega) (by omega) (by omega) ?_
  intro a6 s6 a60 a61 k6 b6
  have x3 := fun s => e17 (1 + a5) (1 + a6) s (by omega) (lt_two_pow (k := 40) (by omega) (by omega))
  simp [-contB_nx, evE, evEs, asgT, asgTs, x3]
  have kk : Kb (some b) s s6 := ((((k1.trans k2).trans k3).trans k4).trans k5).trans k6
  have q1 : Sb 4 2 (lowP (a1 - 15) (1 + a2)) := sb_low (by omega) (by omega) (by omega)
  have q2 : Sb 4 3 (lowP (a3 - 15) (1 + a4)) := sb_low (by omega) (by omega) (by omega)
  have q3 : Sb 4 2 (lowP (1 + a5) (1 + a6)) := sb_low (by omega) (by omega) (by omega)
  have q3p : 0 < (lowP (1 + a5) (1 + a6)).1 := by
    have e := lowP_cross (a := 1 + a5) (b := 1 + a6) (by omega)
    have hp := q3.ok.1
    apply Int.lt_of_not_ge
    intro h
    have h2 := Int.mul_nonpos_of_nonpos_of_nonneg h (by omega : 0 ≤ 1 + a6)
    have h3 := Int.mul_pos (by omega : 0 < 1 + a5) hp
    omega
  clear x1 x2 x3 k1 k2 k3 k4 k5 k6 b1 b2 b3 b4 b5
  generalize lowP (a1 - 15) (1 + a2) = st at *
  generalize lowP (a3 - 15) (1 + a4) = sl at *
  generalize lowP (1 + a5) (1 + a6) = m at *
  rw [contB_nx]
  simp [-contB_nx, evI, evE, evEs]
  have hls : fs.length ≤ sizeLine := Nat.le_trans h40 (by decide)
  have hk1 : ∀ k : Nat, A.tup [.int (k : Int), .int 1] = fA ((k : Int), 1) := fun _ => rfl
  have qk : ∀ k : Nat, k < fs.length → Sb 6 1 ((k : Int), 1) := fun k hk => sb_int (by omega)
  have qt : ∀ k : Nat, k < fs.length → Sb 10 4 (timesF sl ((k : Int), 1)) := fun k hk => (sb_times q2 (qk k hk)).up (by omega) (by omega)
  have ql : ∀ k : Nat, k < fs.length → Sb 13 6 (lineAt st sl k) := fun k hk => (sb_plus (k := 12) (l := 6) q1 (qt k hk) (by omega) (by omega) (by omega)).up (by omega) (by omega)
  have qp : ∀ p ∈ fs, ∀ k : Nat, k < fs.length → Sb 24 10 (plusF p (lineAt st sl k)) := fun p hp k hk => (sb_plus (k := 20) (l := 9) (hsb p hp) (ql k hk) (by omega) (by omega) (by omega)).up (by omega) (by omega)
  have qm : ∀ p ∈ fs, Sb 24 10 (timesF p m) := fun p hp => (sb_times (hsb p hp) q3).up (by omega) (by omega)
  have up9 : ∀ {k l : Nat} {p : F}, Sb k l p → k ≤ 900 → l ≤ 900 → Sb 900 900 p := fun h a b => h.up a b
  have hzi : ∀ x ∈ fs.zipIdx, x.1 ∈ fs ∧ x.2 < fs.length := by
    intro x hx
    refine ⟨List.fst_mem_of_mem_zipIdx hx, ?_⟩
    have := List.snd_lt_of_mem_zipIdx hx
    omega
  have lok : (lineF st sl fs).length = fs.length := by simp [lineF]
  have mok : (moreF m fs).length = fs.length := by simp [moreF]
  have gl : Gd (lineF st sl fs) := gd_of (by omega) (by
    intro p hp
    simp only [lineF, List.mem_map] at hp
    obtain ⟨x, hx, rfl⟩ := hp
    exact qp _ (hzi x hx).1 _ (hzi x hx).2)
  have gm : Gd (moreF m fs) := gd_of (by omega) (by
    intro p hp
    simp only [moreF, List.mem_map] at hp
    obtain ⟨x, hx, rfl⟩ := hp
    exact qm _ hx)
  have hline : ∀ s6 σ8 σ9, mapR none (compF cf cs [8, 9] (.tup (.cons (.v 8) (.cons (.v 9) .nil))) .no (.call 18 (.cons (.v 9) (.cons (.call 18 (.cons (.v 4) (.cons (.call 20 (.cons (.v 5) (.cons (.tup (.cons (.v 8) (.cons (.c (.int 1)) .nil))) .nil))) .nil))) .nil)))
      [some (.cell b), some (.lst (fs.map fA)), some (fA (leastOf fs)), some (.bl named), some (fA st), some (fA sl), some (fA m), none, σ8, σ9, none, none, none, none, none, none, none]) (enumA 0 (fs.map fA)) s6 = .ok ((lineF st sl fs).map fA) s6 := by
    intro s6 σ8 σ9
    rw [enumA_eq]
    have := map_eqL (i := fun x : F × Nat => A.tup [.int (x.2 : Nat), fA x.1]) (h := fun x : F × Nat => fA (plusF x.1 (lineAt st sl x.2))) (s := s6) (xs := fs.zipIdx) (f := compF cf cs [8, 9] (.tup (.cons (.v 8) (.cons (.v 9) .nil))) .no (.call 18 (.cons (.v 9) (.cons (.call 18 (.cons (.v 4) (.cons (.call 20 (.cons (.v 5) (.cons (.tup (.cons (.v 8) (.cons (.c (.int 1)) .nil))) .nil))) .nil))) .nil)))
      [some (.cell b), some (.lst (fs.map fA)), some (fA (leastOf fs)), some (.bl named), some (fA st), some (fA sl), some (fA m), none, σ8, σ9, none, none, none, none, none, none, none]) (by
      intro x hx
      obtain ⟨hx1, hx2⟩ := hzi x hx
      have y1 := fun s => e20 sl ((x.2 : Int), 1) s (up9 q2 (by omega) (by omega)) (up9 (qk _ hx2) (by omega) (by omega))
      have y2 := fun s => e18 st (timesF sl ((x.2 : Int), 1)) s (up9 q1 (by omega) (by omega)) (up9 (qt _ hx2) (by omega) (by omega))
      have y3 : ∀ s, cf 18 [fA x.1, fA (plusF st (timesF sl ((x.2 : Int), 1)))] s = .ok (fA (plusF x.1 (lineAt st sl x.2))) s := fun s => e18 x.1 (lineAt st sl x.2) s (up9 (hsb _ hx1) (by omega) (by omega)) (up9 (ql _ hx2) (by omega) (by omega))
      apply eq_of_wp
      simp [asgT, asgTs, wipeA, evC, evE, evEs, hk1, y1, y2, y3])
    rw [this]
    simp [lineF, Function.comp_def]
  have hmore : ∀ s6 z7 σ8 σ9, mapR none (compF cf cs [9] (.v 9) .no (.call 20 (.cons (.v 9) (.cons (.v 6) .nil)))
      [some (.cell b), some (.lst (fs.map fA)), some (fA (leastOf fs)), some (.bl named), some (fA st), some (fA sl), some (fA m), z7, σ8, σ9, none, none, none, none, none, none, none]) (fs.map fA) s6 = .ok ((moreF m fs).map fA) s6 := by
    intro s6 z7 σ8 σ9
    have := map_eqL (i := fA) (h := fun p : F => fA (timesF p m)) (s := s6) (xs := fs) (f := compF cf cs [9] (.v 9) .no (.call 20 (.cons (.v 9) (.cons (.v 6) .nil)))
      [some (.cell b), some (.lst (fs.map fA)), some (fA (leastOf fs)), some (.bl named), some (fA st), some (fA sl), some (fA m), z7, σ8, σ9, none, none, none, none, none, none, none]) (by
      intro p hp
      have y1 := fun s => e20 p m s (up9 (hsb _ hp) (by omega) (by omega)) (up9 q3 (by omega) (by omega))
      apply eq_of_wp
      simp [asgT, wipeA, evC, evE, evEs, y1])
    rw [this]
    simp [moreF, Function.comp_def]
  obtain ⟨lo1, lo2⟩ := line_ok (st := st) (sl := sl) q1.ok.1 q2.ok.1 hpos
  obtain ⟨mo1, mo2⟩ := more_ok q3.ok.1 q3p hpos
  have hnone := least_none hpos
  have gpl := hlb.gp
  have sbm : Sb 454 452 (timesF (leastOf fs) m) := sb_times (k1 := 450) (l1 := 450) ⟨hlb.ok, hlb.top, hlb.bot⟩ q3
  have gp_sb : ∀ {k l : Nat} {p : F}, Sb k l p → k ≤ 4000 → l ≤ 4000 → 0 ≤ p.1 → Gp p := fun h a b c => ⟨h.ok, c, lt_two_pow h.top a, lt_of_abs (lt_two_pow h.bot b)⟩
  have tnn : ∀ p q : F, 0 < p.2 → 0 < q.2 → 0 ≤ p.1 → 0 ≤ q.1 → 0 ≤ (timesF p q).1 := fun p q hp hq h1 h2 => Int.ediv_nonneg (Int.mul_nonneg h1 h2) (by omega)
  have gpm : Gp (timesF (leastOf fs) m) := gp_sb sbm (by omega) (by omega) (tnn _ _ hlb.ok.1 q3.ok.1 hlb.nn (by omega))
  refine ⟨by rw [enumA_eq]; simpa using hls, ?_⟩
  rw [hline]
  simp [-contB_nx, asgT]
  rw [contB_nx]
  simp [-contB_nx, evI, evE, evEs, hls]
  rw [hmore]
  simp [-contB_nx, asgT]
  rw [contB_nx]
  simp [-contB_nx, evE, evEs, Es.len]
  have vl : Row (.lst ((lineF st sl fs).map fA)) (lineF st sl fs) := .inl rfl
  have vm : Row (.lst ((moreF m fs).map fA)) (moreF m fs) := .inl rfl
  have vr : Row (.lst (fs.map fA)) fs := .inl rfl
  have hpm := sbm.ok.1
  refine wp_use (e12 _ _ s6 vl (by omega) gl) ?_
  rintro _ s7 ⟨rfl, k7⟩
  try simp [-contB_nx]
  refine wp_use (e12 _ _ s7 vm (by omega) gm) ?_
  rintro _ s8 ⟨rfl, k8⟩
  try simp [-contB_nx]
  refine wp_use (e10 _ _ _ s8 vl (by omega) gl gpl) ?_
  rintro _ s9 ⟨rfl, k9⟩
  have y20 := fun s => e20 (leastOf fs) m s sl900 (up9 q3 (by omega) (by omega))
  simp [-contB_nx, y20]
  refine wp_use (e10 _ _ _ s9 vm (by omega) gm gpm) ?_
  rintro _ s10 ⟨rfl, k10⟩
  rw [lo1, lo2 _ hlb.ok.1, mo1, mo2 _ hlb.ok.1, hnone]
  simp [-contB_nx, asgT]
  rw [contB_nx]
  have hpl1 : PlainD 2 (.lst [fA (leastOf fs), fA (timesF (leastOf fs) m), .bl true, .bl true]) := .lst (by simp) (by
    intro x hx
    simp only [List.mem_cons, List.not_mem_nil, or_false] at hx
    rcases hx with rfl | rfl | rfl | rfl
    · exact PlainD.fA _ _
    · exact PlainD.fA _ _
    · exact .bl _
    · exact .bl _)
  have e16a := fun s => e16 _ s hpl1
  simp [-contB_nx, evE, evEs, y20, e16a]
  rw [contB_nx]
  simp [-contB_nx]
  have kq : Kb (some b) s s10 := kk.trans (((k7.trans k8).trans k9).trans k10).up
  have bq : Box s10 b (N + 6) := (((b6.kb k7).kb k8).kb k9).kb k10
  clear kk b6 k7 k8 k9 k10
  -- the end
  have back : ∀ (z12 z13 z14 : Option A) (s11 : S), Kb (some b) s s11 → Box s11 b (N + 6) →
      wpe (contB cf cs (dropB 6 d_law_alike_right.body) (.nx [some (.cell b), some (.lst (fs.map fA)), some (fA (leastOf fs)), some (.bl named), some (fA st), some (fA sl), some (fA m), some (.lst ((lineF st sl fs).map fA)), none, none, some (.lst ((moreF m fs).map fA)), some (.lst [fA (leastOf fs), fA (timesF (leastOf fs) m), .bl true, .bl true]), z12, z13, z14, none, none]) s11)
        (flQ (fun a s' => a = .bl true ∧ Kb (some b) s s' ∧ Box s' b (N + 6)) (fun _ _ => False)) (fun _ _ => False) := by
    intro z12 z13 z14 s11 kb bb
    have gb : Gd fs.reverse := ⟨by simpa using h40, fun p hp => hg.2 p (by simpa using hp)⟩
    have vb : Row (.lst (fs.reverse.map fA)) fs.reverse := .inl rfl
    have hrev : (fs.map fA).reverse = fs.reverse.map fA := by simp
    have hb1 : 1 ≤ fs.reverse.length := by simpa using h1
    have e12b := fun s => e12 _ _ s vb hb1 gb
    have e22b := fun s => e22 _ _ s vb gb
    have e24b := fun s => e24 _ s gb
    have hpl : PlainD 2 (fA (leastOf fs.reverse)) := PlainD.fA _ _
    have e16b := fun s => e16 _ s hpl
    generalize fs.reverse = bs at *
    simp only [dropB, d_law_alike_right, contB_nx]
    simp [-contB_nx, evE, evEs, asgT, hrev, -List.map_reverse]
    rw [contB_nx]
    simp [-contB_nx, evE, evEs]
    refine wp_use (e22b s11) ?_
    rintro _ s12 ⟨rfl, k12⟩
    simp [-contB_nx, asgT, asgTs]
    rw [contB_nx]
    simp [-contB_nx, evE, evEs, e24b, asgT]
    rw [contB_nx]
    have kf : Kb (some b) s s12 := kb.trans k12.up
    have bf : Box s12 b (N + 6) := bb.kb k12
    cases named with
    | true =>
      simp [-contB_nx, evE, evEs, Es.len]
      refine wp_use (e12b s12) ?_
      rintro _ s13 ⟨rfl, k13⟩
      simp [e16b]
      exact ⟨kf.trans k13.up, bf.kb k13⟩
    | false =>
      simp [-contB_nx, evE, evEs, Es.len]
      refine wp_use (e12b s12) ?_
      rintro _ s13 ⟨rfl, k13⟩
      simp [e16b]
      exact ⟨kf.trans k13.up, bf.kb k13⟩
  have hz : (A.tup [.int 0, .int 1]) = fA (0, 1) := rfl
  have hz2 : (A.tup [.int 2, .int 3]) = fA (2, 3) := rfl
  by_cases h01 : leastOf fs = (0, 1)
  · have h01' : (leastOf fs = (0, 1)) = True := eq_true h01
    simp [-contB_nx, evE, evEs, hz, h01']
    exact back none none none s10 kq bq
  · have s23 : Sb 2 2 ((2 : Int), (3 : Int)) := ⟨⟨by decide, by decide⟩, by decide, by decide⟩
    have y23 := fun s => e20 (leastOf fs) (2, 3) s sl900 (up9 s23 (by omega) (by omega))
    have sp : Sb 452 452 (timesF (leastOf fs) (2, 3)) := sb_times (k1 := 450) (l1 := 450) ⟨hlb.ok, hlb.top, hlb.bot⟩ s23
    have sp2 : Sb 456 454 (timesF (timesF (leastOf fs) (2, 3)) m) := sb_times (k1 := 452) (l1 := 452) sp q3
    have nn1 := tnn (leastOf fs) (2, 3) hlb.ok.1 (by decide) hlb.nn (by decide)
    have nn2 := tnn (timesF (leastOf fs) (2, 3)) m sp.ok.1 q3.ok.1 nn1 (by omega)
    have gp1 : Gp (timesF (leastOf fs) (2, 3)) := gp_sb sp (by omega) (by omega) nn1
    have gp2 : Gp (timesF (timesF (leastOf fs) (2, 3)) m) := gp_sb sp2 (by omega) (by omega) nn2
    have y20p := fun s => e20 (timesF (leastOf fs) (2, 3)) m s (up9 sp (by omega) (by omega)) (up9 q3 (by omega) (by omega))
    have hb1 := lo2 (timesF (leastOf fs) (2, 3)) sp.ok.1
    have hb2 := mo2 (timesF (leastOf fs) (2, 3)) sp.ok.1
    simp [-contB_nx, evE, evEs, hz, hz2, h01, y23, asgT]
    rw [contB_nx]
    simp [-contB_nx, evE, evEs]
    refine wp_use (e22 _ _ s10 vr hg) ?_
    rintro _ s11 ⟨rfl, k11⟩
    simp [-contB_nx, asgT, asgTs]
    rw [contB_nx]
    simp [-contB_nx, evE, evEs]
    refine wp_use (e11 _ _ _ s11 vl (by omega) gl gp1) ?_
    rintro _ s12 ⟨rfl, k12⟩
    simp [-contB_nx, y20p]
    refine wp_use (e11 _ _ _ s12 vm (by omega) gm gp2) ?_
    rintro _ s13 ⟨rfl, k13⟩
    rw [hb1, hb2]
    have y25 := fun s => e25 _ _ s hg gp1
    have hpl2 : PlainD 2 (.lst [optA (breakOf fs (timesF (leastOf fs) (2, 3))), optA (breakOf fs (timesF (leastOf fs) (2, 3)))]) := .lst (by simp) (by
      intro x hx
      simp only [List.mem_cons, List.not_mem_nil, or_false, or_self] at hx
      subst hx
      exact plain_opt _)
    have e16c := fun s => e16 _ s hpl2
    simp [-contB_nx, y25, rep2, e16c]
    have kf : Kb (some b) s s13 := kq.trans ((k11.trans k12).trans k13).up
    have bf : Box s13 b (N + 6) := ((bq.kb k11).kb k12).kb k13
    rw [contB_nx]
    simp [-contB_nx]
    exact back _ _ _ s13 kf bf
end K59
end

section
set_option Elab.async false
set_option linter.all false
namespace K59
open PySem Dy
def sumF (bs row : List F) : List F := (bs.zip row).map fun x => plusF x.1 x.2
theorem zipA_eq : ∀ (bs row : List F), zipA (bs.map fA) (row.map fA) = (bs.zip row).map fun x => A.tup [fA x.1, fA x.2]
  | [], _ => by simp [zipA]
  | _ :: _, [] => by simp [zipA]
  | p :: bs, q :: row => by simp [zipA, zipA_eq bs row]
theorem sumF_len {bs row : List F} (h : bs.length = row.length) : (sumF bs row).length = row.length := by simp [sumF, h]
theorem sum_ok {bs row : List F} {q l : F} (h : bs.length = row.length) (hb : ∀ p ∈ bs, 0 < p.2) (hr : ∀ p ∈ row, 0 < p.2) (hq : 0 < q.2) (hl : 0 < l.2) (h1 : breakOf bs q = none) (h2 : breakOf row l = none) :
    breakOf (sumF bs row) (plusF q l) = none := by
  have hs : ∀ p ∈ sumF bs row, 0 < p.2 := by
    intro p hp
    simp only [sumF, List.mem_map] at hp
    obtain ⟨x, hx, rfl⟩ := hp
    obtain ⟨m1, m2⟩ := List.of_mem_zip hx
    exact (plusF_ok (hb _ m1) (hr _ m2)).1
  have hd := div_lcm (fs := bs ++ (row ++ sumF bs row)) (fun p hp => by
    rcases List.mem_append.1 hp with hp | hp
    · exact hb p hp
    · rcases List.mem_append.1 hp with hp | hp
      · exact hr p hp
      · exact hs p hp)
  generalize lcmL 1 _ = n at hd
  have d1 : Div n bs := ⟨hd.1, fun p hp => hd.2 p (by simp [hp])⟩
  have d2 : Div n row := ⟨hd.1, fun p hp => hd.2 p (by simp [hp])⟩
  have d3 : Div n (sumF bs row) := ⟨hd.1, fun p hp => hd.2 p (by simp [hp])⟩
  have hlen := sumF_len h
  refine (ub_iff d3).2 (ub_plus (by omega) (by omega) hq hl ?_ ((ub_iff d1).1 h1) ((ub_iff d2).1 h2))
  intro i
  by_cases hi : i < row.length
  · obtain ⟨p, hp⟩ : ∃ p, bs[i]? = some p := ⟨_, List.getElem?_eq_getElem (by omega)⟩
    obtain ⟨r, hr'⟩ : ∃ r, row[i]? = some r := ⟨_, List.getElem?_eq_getElem hi⟩
    have hz : (bs.zip row)[i]? = some (p, r) := List.getElem?_zip_eq_some.2 ⟨hp, hr'⟩
    have hg : (sumF bs row)[i]? = some (plusF p r) := by
      unfold sumF
      rw [List.getElem?_map, hz]
      rfl
    rw [vals_get hg, vals_get hp, vals_get hr']
    have m1 := d1.2 p (List.mem_of_getElem? hp)
    have m2 := d2.2 r (List.mem_of_getElem? hr')
    exact plusF_val m1.1 m2.1 m1.2 m2.2 (d3.2 _ (List.mem_of_getElem? hg)).2
  · have z : ∀ fs : List F, fs.length = row.length → (vals n fs).getD i 0 = 0 := by
      intro fs hf
      rw [List.getD_eq_getElem?_getD, List.getElem?_eq_none (by simp [vals]; omega)]
      rfl
    rw [z _ hlen, z _ h, z _ rfl]
    rfl
theorem zero_ok (many : Nat) : breakOf (List.replicate many ((0 : Int), (1 : Int))) (0, 1) = none := by
  have hd : Div 1 (List.replicate many ((0 : Int), (1 : Int))) := ⟨by omega, fun p hp => by
    have := List.eq_of_mem_replicate hp
    subst this
    exact ⟨by simp, ⟨1, by simp⟩⟩⟩
  refine (ub_iff hd).2 ?_
  intro t ht
  obtain ⟨p, q, r, hp, hq, hr⟩ := trip_get ht
  have e : ∀ p, p ∈ List.replicate many ((0 : Int), (1 : Int)) → val 1 p = 0 := by
    intro p hp
    have := List.eq_of_mem_replicate hp
    subst this
    simp [val]
  have e1 := e p (List.mem_of_getElem? hp)
  have e2 := e q (List.mem_of_getElem? hq)
  have e3 := e r (List.mem_of_getElem? hr)
  unfold need
  rw [vals_get hp, vals_get hq, vals_get hr, e1, e2, e3]
  simp
theorem sum_le {bs : List F} {q : F} (hb : ∀ p ∈ bs, 0 < p.2) (hq : 0 < q.2) (hq0 : 0 ≤ q.1) (h : breakOf bs q = none) : decide (q.1 * (leastOf bs).2 < (leastOf bs).1 * q.2) = false := by
  have hd := div_lcm hb
  have := leastOf_le hd hq hq0 ((ub_iff hd).1 h)
  exact decide_eq_false (by omega)
/-- the least price of a row as drawn -/
theorem least_sb {fs : List F} (hl : fs.length ≤ 40) (hr : Gr fs) : Sb 450 131 (leastOf fs) ∧ 0 ≤ (leastOf fs).1 := by
  have hg := gd_row hl hr
  have hlb := least_lb hg
  refine ⟨⟨hlb.ok, hlb.top, ?_⟩, hlb.nn⟩
  have hl' : (vals (lcmL 1 fs) fs).length = fs.length := by simp [vals]
  have hM1 := (gd_lcm hg (done := fs) (rest := []) (by simp)).1
  have hM2 := lcmL_le (d := 3) (e := 1) (m := 1) (fs := fs) (by omega) (by omega) (fun p hp => ⟨(hr p hp).1.1, by have := (hr p hp).2.2; omega⟩)
  have hM3 : lcmL 1 fs < 2 ^ 121 := Int.lt_of_lt_of_le hM2 (ipow_le (by omega))
  have q := best_pref (by omega : fs.length ≤ 41) hl' (gvals_lt hg) (done := trip fs.length) (fun u hu => hu)
  have hb : 0 < (best (vals (lcmL 1 fs) fs) (trip fs.length)).2 * lcmL 1 fs := Int.mul_pos q.2.2 hM1
  have h4 := lowP_le (a := (best (vals (lcmL 1 fs) fs) (trip fs.length)).1) hb
  have h5 := lowP_pos (a := (best (vals (lcmL 1 fs) fs) (trip fs.length)).1) hb
  apply abs_lt_of (Int.le_of_lt h5)
  exact Int.lt_of_le_of_lt h4 (lt_of_abs (lt_two_pow (abs_mul_lt q.2.1 (abs_pos_lt hM1 hM3)) (by omega)))
theorem rep_many (s : S) (o : A) (n : Nat) (h : n ≤ 40) : repV s (.lst [o]) (.int n) = some (List.replicate n o) := by
  have h1 : (1 * n ≤ sizeLine) := Nat.le_trans (by omega : 1 * n ≤ 41) (by decide)
  have h2 : (List.replicate n [o]).flatten = List.replicate n o := by
    clear h h1
    induction n with
    | zero => rfl
    | succ n ih => simp [List.replicate_succ, ih]
  have h3 : (-(2 ^ 63) ≤ (n : Int)) := by omega
  have h4 : ((n : Int) < 2 ^ 63) := by omega
  have h5 : decide (-(2 ^ 63) ≤ (n : Int)) = true := decide_eq_true h3
  have h6 : decide ((n : Int) < 2 ^ 63) = true := decide_eq_true h4
  have h7 : decide ([o].length * n ≤ sizeLine) = true := decide_eq_true (by simpa using h1)
  simp only [repV, itemsC_l, Option.bind_some, h5, h6, h7, Int.toNat_natCast, h2, Bool.and_self, if_true]
theorem one_ok : (leastOf [(1, 2)] = (0, 1) ∧ breakOf [(1, 2)] (0, 1) = none) ∧ (leastOf [(3, 1)] = (0, 1) ∧ breakOf [(3, 1)] (0, 1) = none) ∧ (leastOf [(0, 1), (5, 1)] = (0, 1) ∧ breakOf [(0, 1), (5, 1)] (0, 1) = none) := by decide +kernel
end K59
end

section
set_option Elab.async false
set_option linter.all false
namespace K59
open PySem Dy
def body1 : B → B
  | .cons (.for_ _ _ b) _ => b
  | b => b
def rowsA (rl : List (List F)) : List A := rl.map fun fs => A.lst (fs.map fA)
theorem isA_fA (p : F) : isA (fA p) .non = some false := rfl
/-- what the law's cell leans on -/
structure Cf (cf : Nat → List A → S → Res A) : Prop where
  take : TakeOk cf
  nums : ∀ (b N many : Nat) (s : S), Box s b N → N < 2 ^ 32 → many ≤ 40 → wp (cf 21 [.cell b, .int many] s) (fun a s' => ∃ fs : List F, a = .lst (fs.map fA) ∧ fs.length = many ∧ Gr fs ∧ Kb (some b) s s' ∧ Box s' b (N + 124))
  row : ∀ (fs : List F) (b N : Nat) (named : Bool) (s : S), 1 ≤ fs.length → Gd fs → Box s b N → N < 2 ^ 32 → wp (cf 26 [.cell b, .lst (fs.map fA), .bl named] s) (fun a s' => a = fA (leastOf fs) ∧ Kb (some b) s s' ∧ Box s' b (N + 4))
  alike : ∀ (fs : List F) (b N : Nat) (named : Bool) (s : S), 1 ≤ fs.length → fs.length ≤ 40 → Gr fs → Box s b N → N < 2 ^ 32 → wp (cf 27 [.cell b, .lst (fs.map fA), fA (leastOf fs), .bl named] s) (fun a s' => a = .bl true ∧ Kb (some b) s s' ∧ Box s' b (N + 6))
  plus : ∀ (p q : F) s, Sb 900 900 p → Sb 900 900 q → cf 18 [fA p, fA q] s = .ok (fA (plusF p q)) s
  less : ∀ (p q : F) s, Sb 900 900 p → Sb 900 900 q → cf 19 [fA p, fA q] s = .ok (.bl (decide (p.1 * q.2 < q.1 * p.2))) s
  conv : ∀ fs v p s, Row v fs → 1 ≤ fs.length → Gd fs → Gp p → wp (cf 10 [v, fA p] s) (fun a s' => a = .bl (breakOf fs p == none) ∧ Kb none s s')
  brk : ∀ fs v p s, Row v fs → 1 ≤ fs.length → Gd fs → Gp p → wp (cf 11 [v, fA p] s) (fun a s' => a = optA (breakOf fs p) ∧ Kb none s s')
  least : ∀ fs v s, Row v fs → 1 ≤ fs.length → Gd fs → wp (cf 12 [v] s) (fun a s' => a = fA (leastOf fs) ∧ Kb none s s')
  same : ∀ a s, PlainD 2 a → cf 16 [a, a] s = .ok (.bl true) s
theorem cfOk {n : Nat} (hn : 5 ≤ n) : Cf (callF G cs n) where
  take := takeOk (by omega)
  nums := fun b N many s h1 h2 h3 => numbers_ok59 (by omega) h1 h2 h3
  row := fun fs b N named s h1 h2 h3 h4 => row_right59 hn (.inl rfl) h1 h2 h3 h4
  alike := fun fs b N named s h1 h2 h3 h4 h5 => alike_right59 hn h1 h2 h3 h4 h5
  plus := fun p q s hp hq => plus59 (k := 900) (by omega) hp.ok.1 hq.ok.1 (by omega) hp.top hp.bot hq.top hq.bot
  less := fun p q s hp hq => less59 (k := 900) (by omega) (by omega) hp.top hp.bot hq.top hq.bot
  conv := fun fs v p s hv h1 hg hp => convex59 (by omega) hv h1 hg hp
  brk := fun fs v p s hv h1 hg hp => kbreak59 (by omega) hv h1 hg hp
  least := fun fs v s hv h1 hg => least59 (by omega) hv h1 hg
  same := fun a s hp => same59 hp (by omega)
def QX (b : Nat) (s0 : S) (v : A) : Fl → S → Prop := fun fl _ => ∃ zs : List (Option A), zs.length = 14 ∧ fl = .nx (some v :: zs)
/-- the last test of a cell: rows that are none -/
theorem last59 {cf : Nat → List A → S → Res A} (C : Cf cf) {b N : Nat} {s s0 : S} {v z1 z3 z4 z5 z6 : A} {z7 z8 z9 z10 z11 z12 z13 z14 : Option A} (hB : Box s b N) (hN : N < 2 ^ 32) :
    wpe (contB cf cs (dropB 9 (body1 d_law.body)) (.nx [some v, some z1, some (.cell b), some z3, some z4, some z5, some z6, z7, z8, z9, z10, z11, z12, z13, z14]) s) (QX b s0 v) (fun _ _ => False) := by
  have ht := C.take
  simp only [dropB, body1, d_law, contB_nx]
  simp [-contB_nx, evE, evEs]
  refine use_take ht hB (by omega) (by omega) (by omega) ?_
  intro d s1 d0 d1 k1 b1
  have go : ∀ fs : List F, 1 ≤ fs.length → Gd fs → leastOf fs = (0, 1) → breakOf fs (0, 1) = none →
      L2.atI [A.lst [A.tup [.int 1, .int 2]], A.lst [A.tup [.int 3, .int 1]], A.lst [A.tup [.int 0, .int 1], A.tup [.int 5, .int 1]]] d = some (.lst (fs.map fA)) →
      wpe (ofO (idxV s1 (.lst [A.lst [A.tup [.int 1, .int 2]], A.lst [A.tup [.int 3, .int 1]], A.lst [A.tup [.int 0, .int 1], A.tup [.int 5, .int 1]]]) (.int d)) s1) (fun a s => wpe (asgT cf cs (.v 13) a [some v, some z1, some (.cell b), some z3, some z4, some z5, some z6, z7, z8, z9, z10, z11, z12, z13, z14] s) (fun σ s => wpe (contB cf cs (dropB 10 (body1 d_law.body)) (.nx σ) s) (QX b s0 v) (fun _ _ => False)) (fun _ _ => False)) (fun _ _ => False) := by
    intro fs h1 hg hl hb hat
    have gp0 : Gp (0, 1) := ⟨⟨by decide, by decide⟩, by decide, by simp only [Int.natAbs_zero]; exact Nat.two_pow_pos _, by simp only; exact Int.lt_of_lt_of_le (by decide : (1 : Int) < 2 ^ 1) (ipow_le (by omega))⟩
    have hz : (A.tup [.int 0, .int 1]) = fA (0, 1) := rfl
    have hpl : PlainD 2 (.lst [fA (0, 1), .bl true, .non]) := .lst (by simp) (by
      intro x hx
      simp only [List.mem_cons, List.not_mem_nil, or_false] at hx
      rcases hx with rfl | rfl | rfl
      · exact PlainD.fA _ _
      · exact .bl _
      · exact .non)
    have e16 := fun s => C.same _ s hpl
    rw [idxV_l, hat]
    simp [-contB_nx, asgT]
    simp only [dropB, body1, d_law, contB_nx]
    simp [-contB_nx, evE, evEs, hz]
    refine wp_use (C.least _ _ s1 (.inl rfl) h1 hg) ?_
    rintro _ s2 ⟨rfl, k2⟩
    try simp [-contB_nx]
    refine wp_use (C.conv _ _ _ s2 (.inl rfl) h1 hg gp0) ?_
    rintro _ s3 ⟨rfl, k3⟩
    try simp [-contB_nx]
    refine wp_use (C.brk _ _ _ s3 (.inl rfl) h1 hg gp0) ?_
    rintro _ s4 ⟨rfl, k4⟩
    rw [hl, hb]
    simp [-contB_nx, optA, e16]
    exact ⟨_, rfl, rfl⟩
  obtain ⟨o1, o2, o3⟩ := one_ok
  have gd : ∀ fs : List F, fs.length ≤ 40 → (∀ p ∈ fs, okF p ∧ p.1.natAbs < 2 ^ 24 ∧ p.2 < 2 ^ 10) → Gd fs := fun fs a b => ⟨a, b⟩
  have up : ∀ {α β : Type} {r : Res α} {f : α → S → Res β} {Q : β → S → Prop} (X X' : Xn → S → Prop), wpe r (fun a s => wpe (f a s) Q (fun _ _ => False)) (fun _ _ => False) → wpe r (fun a s => wpe (f a s) Q X) X' :=
    fun X X' h => wpe_mono h (fun _ _ h => wpe_mono h (fun _ _ h => h) (fun _ _ h => h.elim)) (fun _ _ h => h.elim)
  have up : ∀ {α β γ : Type} {r : Res α} {f : α → S → Res β} {g : β → S → Res γ} {Q : γ → S → Prop} (X X' : Xn → S → Prop), wpe r (fun a s => wpe (f a s) (fun b s => wpe (g b s) Q (fun _ _ => False)) (fun _ _ => False)) (fun _ _ => False) → wpe r (fun a s => wpe (f a s) (fun b s => wpe (g b s) Q (fun _ _ => False)) X) X' :=
    fun X X' h => wpe_mono h (fun _ _ h => wpe_mono h (fun _ _ h => h) (fun _ _ h => h.elim)) (fun _ _ h => h.elim)
  have : d = 0 ∨ d = 1 ∨ d = 2 := by omega
  rcases this with rfl | rfl | rfl
  · refine up _ _ (go [(1, 2)] (by decide) (gd _ (by decide) (by intro p hp; simp at hp; subst hp; exact ⟨⟨by decide, by decide⟩, by decide, by decide⟩)) o1.1 o1.2 rfl)
  · refine up _ _ (go [(3, 1)] (by decide) (gd _ (by decide) (by intro p hp; simp at hp; subst hp; exact ⟨⟨by decide, by decide⟩, by decide, by decide⟩)) o2.1 o2.2 rfl)
  · refine up _ _ (go [(0, 1), (5, 1)] (by decide) (gd _ (by decide) (by intro p hp; simp at hp; rcases hp with rfl | rfl <;> exact ⟨⟨by decide, by decide⟩, by decide, by decide⟩)) o3.1 o3.2 rfl)
end K59
end

section
set_option Elab.async false
set_option linter.all false
namespace K59
open PySem Dy
def rowA (fs : List F) : A := .lst (fs.map fA)
/-- one row of a cell -/
theorem rowTurn59 {cf : Nat → List A → S → Res A} (H : Cf cf) {b N c6 c8 many j : Nat} {great nm : Bool} {v z1 : A} {z7 z11 z12 z13 z14 : Option A} {rl : List (List F)} {fs bs : List F} {q : F} {xs : List A} {s : S} {Q : Fl → S → Prop}
    (hj : j ≤ 2) (hm1 : 1 ≤ many) (hm : many ≤ 40) (hlen : fs.length = many) (hr : Gr fs) (hbl : bs.length = many) (hbs : ∀ p ∈ bs, Sb (12 + 4 * j) (1 + 3 * j) p) (hq : Sb (450 + 140 * j) (1 + 131 * j) q) (hq0 : 0 ≤ q.1) (hbk : breakOf bs q = none)
    (h6 : s[c6]? = some (.lst (rl.map rowA))) (h8 : s[c8]? = some (.lst xs)) (hx : xs.length ≤ 5) (hB : Box s b N) (hN : N < 2 ^ 31) (hd6 : c6 ≠ b) (hd8 : c8 ≠ b) (hd : c6 ≠ c8) :
    wpe (turnF cf cs (.v 11) (.cons (.asg (.v 12) (.call 26 (.cons (.v 2) (.cons (.v 11) (.cons (.v 4) (.nil)))))) (.cons (.iff (.or2 (.cmp .is (.v 12) (.c .non)) (.and2 (.not (.v 3)) (.not (.call 27 (.cons (.v 2) (.cons (.v 11) (.cons (.v 12) (.cons (.not (.v 4)) (.nil))))))))) (.cons (.ret (.c (.bl false))) (.nil)) (.nil)) (.cons (.par [9, 10, 4] (.cons (.lst (.comp [13, 14] (.tup (.cons (.v 13) (.cons (.v 14) (.nil)))) (.zip2 (.v 9) (.v 11)) (.no) (.call 18 (.cons (.v 13) (.cons (.v 14) (.nil)))))) (.cons (.call 18 (.cons (.v 10) (.cons (.v 12) (.nil)))) (.cons (.not (.v 4)) (.nil))))) (.cons (.expr (.append (.v 8) (.v 12))) (.nil)))))
      (rowA fs) [some v, some z1, some (.cell b), some (.bl great), some (.bl nm), some (.int many), some (.cell c6), z7, some (.cell c8), some (.lst (bs.map fA)), some (fA q), z11, z12, z13, z14] s)
      (turnQ (fun σ' s' => grdB (some (c6, rl.map rowA)) s' = true ∧ (∃ (z11 z12 z13 z14 : Option A), σ' = [some v, some z1, some (.cell b), some (.bl great), some (.bl !nm), some (.int many), some (.cell c6), z7, some (.cell c8), some (.lst ((sumF bs fs).map fA)), some (fA (plusF q (leastOf fs))), z11, z12, z13, z14]) ∧
        s'[c6]? = some (.lst (rl.map rowA)) ∧ ∃ xs' : List A, s'[c8]? = some (.lst xs') ∧ xs'.length = xs.length + 1 ∧ Box s' b (N + 10)) Q) (fun _ _ => False) := by
  have hg : Gd fs := gd_row (by omega) hr
  have hsb := sb_row hr
  have hls := least_sb (by omega) hr
  have hsz : (bs.zip fs).length ≤ sizeLine := Nat.le_trans (by simp; omega : (bs.zip fs).length ≤ 41) (by decide)
  have yp := fun s => H.plus q (leastOf fs) s (hq.up (by omega) (by omega)) (hls.1.up (by omega) (by omega))
  have hcomp : ∀ (σ : Dy.Env) (s : S), σ.length = 15 → mapR none (compF cf cs [13, 14] (.tup (.cons (.v 13) (.cons (.v 14) .nil))) .no (.call 18 (.cons (.v 13) (.cons (.v 14) .nil))) σ) ((bs.zip fs).map fun x => A.tup [fA x.1, fA x.2]) s = .ok ((sumF bs fs).map fA) s := by
    intro σ s hσ
    have := map_eqL (i := fun x : F × F => A.tup [fA x.1, fA x.2]) (h := fun x : F × F => fA (plusF x.1 x.2)) (s := s) (xs := bs.zip fs) (f := compF cf cs [13, 14] (.tup (.cons (.v 13) (.cons (.v 14) .nil))) .no (.call 18 (.cons (.v 13) (.cons (.v 14) .nil))) σ) (by
      intro x hx
      obtain ⟨m1, m2⟩ := List.of_mem_zip hx
      have y := fun s => H.plus x.1 x.2 s ((hbs _ m1).up (by omega) (by omega)) ((hsb _ m2).up (by omega) (by omega))
      apply eq_of_wp
      simp [asgT, asgTs, wipeA, evC, evE, evEs, hσ, y])
    rw [this]
    simp [sumF, Function.comp_def]
  have hz := zipA_eq bs fs
  have rowE : rowA fs = .lst (fs.map fA) := rfl
  have n6 : some c6 ≠ some b := fun h => hd6 (by cases h; rfl)
  have n8 : some c8 ≠ some b := fun h => hd8 (by cases h; rfl)
  -- the end of a turn
  have fin : ∀ s3, Kb (some b) s s3 → Box s3 b (N + 10) →
      wpe (contB cf cs (.cons (.par [9, 10, 4] (.cons (.lst (.comp [13, 14] (.tup (.cons (.v 13) (.cons (.v 14) (.nil)))) (.zip2 (.v 9) (.v 11)) (.no) (.call 18 (.cons (.v 13) (.cons (.v 14) (.nil)))))) (.cons (.call 18 (.cons (.v 10) (.cons (.v 12) (.nil)))) (.cons (.not (.v 4)) (.nil))))) (.cons (.expr (.append (.v 8) (.v 12))) (.nil)))
        (.nx [some v, some z1, some (.cell b), some (.bl great), some (.bl nm), some (.int many), some (.cell c6), z7, some (.cell c8), some (.lst (bs.map fA)), some (fA q), some (.lst (fs.map fA)), some (fA (leastOf fs)), z13, z14]) s3)
      (turnQ (fun σ' s' => grdB (some (c6, rl.map rowA)) s' = true ∧ (∃ (z11 z12 z13 z14 : Option A), σ' = [some v, some z1, some (.cell b), some (.bl great), some (.bl !nm), some (.int many), some (.cell c6), z7, some (.cell c8), some (.lst ((sumF bs fs).map fA)), some (fA (plusF q (leastOf fs))), z11, z12, z13, z14]) ∧
        s'[c6]? = some (.lst (rl.map rowA)) ∧ ∃ xs' : List A, s'[c8]? = some (.lst xs') ∧ xs'.length = xs.length + 1 ∧ Box s' b (N + 10)) Q) (fun _ _ => False) := by
    intro s3 k3 b3
    have g6 := k3.get h6 n6
    have g8 := k3.get h8 n8
    have i8 := itemsL_c _ g8
    have hx2 : xs.length < sizeLine := Nat.lt_of_lt_of_le (by omega : xs.length < 6) (by decide)
    have l8 := get_lt g8
    rw [contB_nx]
    simp [-contB_nx, evE, evEs, evI, hz, hsz]
    rw [hcomp _ _ (by simp)]
    simp [-contB_nx, yp, setsA]
    rw [contB_nx]
    simp [-contB_nx, evE, i8, hx2]
    have g6' : (List.set s3 c8 (C.lst (xs ++ [fA (leastOf fs)])))[c6]? = some (.lst (rl.map rowA)) := by
      rw [List.getElem?_set_ne (by omega), g6]
    refine ⟨by simpa using hsz, grdB_of g6', ⟨_, _, _, _, rfl⟩, g6', xs ++ [fA (leastOf fs)], by simp [l8], by simp, ?_⟩
    obtain ⟨g, kk, h', m, e, hx⟩ := b3
    refine ⟨g, kk, h', m, ?_, hx⟩
    rw [List.getElem?_set_ne (by omega), e]
  rw [rowE]
  simp [-contB_nx, asgT, evE, evEs]
  refine wp_use (H.row fs b N nm s (by omega) hg hB (by omega)) ?_
  rintro _ s1 ⟨rfl, k1, b1⟩
  try simp [-contB_nx, asgT]
  rw [contB_nx]
  cases great with
  | true =>
    simp [-contB_nx, evE, evEs, isA_fA]
    exact wp_use (fin s1 k1 (b1.up (by omega))) (fun _ _ h => h)
  | false =>
    simp [-contB_nx, evE, evEs, isA_fA]
    refine wp_use (H.alike fs b (N + 4) (!nm) s1 (by omega) (by omega) hr b1 (by omega)) ?_
    rintro _ s2 ⟨rfl, k2, b2⟩
    simp [-contB_nx]
    exact wp_use (fin s2 (k1.trans k2) b2) (fun _ _ h => h)
end K59
end

section
set_option Elab.async false
set_option linter.all false
namespace K59
open PySem Dy
/-- a cell, from its rows on -/
theorem mid59 {cf : Nat → List A → S → Res A} (H : Cf cf) {b N c6 many : Nat} {great nm : Bool} {v z1 : A} {z7 z8 z9 z10 z11 z12 z13 z14 : Option A} {rl : List (List F)} {s s0 : S}
    (hm1 : 1 ≤ many) (hm : many ≤ 40) (hrl : rl.length ≤ 3) (hr : ∀ fs ∈ rl, fs.length = many ∧ Gr fs) (h6 : s[c6]? = some (.lst (rl.map rowA))) (hB : Box s b N) (hN : N < 2 ^ 30) (hd6 : c6 ≠ b) :
    wpe (contB cf cs (dropB 5 (body1 d_law.body)) (.nx [some v, some z1, some (.cell b), some (.bl great), some (.bl nm), some (.int many), some (.cell c6), z7, z8, z9, z10, z11, z12, z13, z14]) s) (QX b s0 v) (fun _ _ => False) := by
  have hz : (A.tup [.int 0, .int 1]) = fA (0, 1) := rfl
  have b6 := get_lt h6
  have bB := hB.lt
  have g6 : (s ++ [C.lst []])[c6]? = some (.lst (rl.map rowA)) := by rw [List.getElem?_append_left b6, h6]
  have i6 := itemsL_c _ g6
  have hrep : ∀ s, repV s (.lst [fA (0, 1)]) (.int many) = some ((List.replicate many ((0 : Int), (1 : Int))).map fA) := by
    intro s
    rw [rep_many _ _ _ hm]
    simp
  simp only [dropB, body1, d_law, contB_nx]
  simp [-contB_nx, evE, evEs, hz, hrep, setsA, -List.map_replicate]
  rw [contB_nx]
  simp [-contB_nx, evE, evI, i6, -List.map_replicate]
  refine wpe_mono (wp_forL (Q := fun fl s' => ∃ (bs : List F) (q : F) (nm : Bool) (z8 z11 z12 z13 z14 : Option A), fl = .nx [some v, some z1, some (.cell b), some (.bl great), some (.bl nm), some (.int many), some (.cell c6), z7, z8, some (.lst (bs.map fA)), some (fA q), z11, z12, z13, z14] ∧
      bs.length = many ∧ (∀ p ∈ bs, Sb 24 10 p) ∧ Sb 870 394 q ∧ 0 ≤ q.1 ∧ breakOf bs q = none ∧ Box s' b (N + 30)) (X := fun _ _ => False)
    (fun done σ s' => ∃ (bs : List F) (q : F) (nm : Bool) (xs : List A) (z11 z12 z13 z14 : Option A), σ = [some v, some z1, some (.cell b), some (.bl great), some (.bl nm), some (.int many), some (.cell c6), z7, some (.cell s.length), some (.lst (bs.map fA)), some (fA q), z11, z12, z13, z14] ∧
      bs.length = many ∧ (∀ p ∈ bs, Sb (12 + 4 * done.length) (1 + 3 * done.length) p) ∧ Sb (450 + 140 * done.length) (1 + 131 * done.length) q ∧ 0 ≤ q.1 ∧ breakOf bs q = none ∧ s'[c6]? = some (.lst (rl.map rowA)) ∧ s'[s.length]? = some (.lst xs) ∧ xs.length = done.length ∧ Box s' b (N + 10 * done.length)) ?_ ?_ ?_) ?_ (fun _ _ h => h.elim)
  · have h01 : Sb 1 1 ((0 : Int), (1 : Int)) := ⟨⟨by decide, by decide⟩, by decide, by decide⟩
    refine ⟨List.replicate many (0, 1), (0, 1), nm, [], z11, z12, z13, z14, rfl, by simp, ?_, h01.up (by simp) (by simp), by decide, zero_ok many, g6, app_get _ _, rfl, hB.kb (Kb.app _ _ _)⟩
    intro p hp
    have := List.eq_of_mem_replicate hp
    subst this
    exact h01.up (by simp) (by simp)
  · intro done fs rest σ s1 e h
    obtain ⟨bs, q, nm, xs, y11, y12, y13, y14, hσ, hbl, hbs, hq, hq0, hbk, g6, g8, hxs, hBx⟩ := h
    subst hσ
    have hfs := hr fs (by rw [e]; simp)
    have hdl : done.length ≤ 2 := by
      have := congrArg List.length e
      simp at this
      omega
    have hg : Gd fs := gd_row (by omega) hfs.2
    refine wpe_mono (rowTurn59 (rl := rl) (nm := nm) (great := great) (z7 := z7) (Q := fun _ _ => False) H hdl hm1 hm hfs.1 hfs.2 hbl hbs hq hq0 hbk g6 g8 (by omega) hBx (by omega) hd6 (by omega) (by omega)) ?_ (fun _ _ h => h)
    intro fl s2 hf
    have hls := least_sb (by omega) hfs.2
    have fin : ∀ σ', (grdB (some (c6, rl.map rowA)) s2 = true ∧ (∃ (z11 z12 z13 z14 : Option A), σ' = [some v, some z1, some (.cell b), some (.bl great), some (.bl !nm), some (.int many), some (.cell c6), z7, some (.cell s.length), some (.lst ((sumF bs fs).map fA)), some (fA (plusF q (leastOf fs))), z11, z12, z13, z14]) ∧
        s2[c6]? = some (.lst (rl.map rowA)) ∧ ∃ xs' : List A, s2[s.length]? = some (.lst xs') ∧ xs'.length = xs.length + 1 ∧ Box s2 b (N + 10 * done.length + 10)) →
        grdB (some (c6, rl.map rowA)) s2 = true ∧ ∃ (bs : List F) (q : F) (nm : Bool) (xs : List A) (z11 z12 z13 z14 : Option A), σ' = [some v, some z1, some (.cell b), some (.bl great), some (.bl nm), some (.int many), some (.cell c6), z7, some (.cell s.length), some (.lst (bs.map fA)), some (fA q), z11, z12, z13, z14] ∧
      bs.length = many ∧ (∀ p ∈ bs, Sb (12 + 4 * (done ++ [fs]).length) (1 + 3 * (done ++ [fs]).length) p) ∧ Sb (450 + 140 * (done ++ [fs]).length) (1 + 131 * (done ++ [fs]).length) q ∧ 0 ≤ q.1 ∧ breakOf bs q = none ∧ s2[c6]? = some (.lst (rl.map rowA)) ∧ s2[s.length]? = some (.lst xs) ∧ xs.length = (done ++ [fs]).length ∧ Box s2 b (N + 10 * (done ++ [fs]).length) := by
      rintro σ' ⟨g0, ⟨w11, w12, w13, w14, hσ'⟩, g6', xs', g8', hx', hb'⟩
      have hl1 : (done ++ [fs]).length = done.length + 1 := by simp
      rw [hl1]
      refine ⟨g0, sumF bs fs, plusF q (leastOf fs), !nm, xs', w11, w12, w13, w14, hσ', ?_, ?_, ?_, ?_, ?_, g6', g8', by omega, hb'.up (by omega)⟩
      · rw [sumF_len (by omega)]; exact hfs.1
      · intro p hp
        simp only [sumF, List.mem_map] at hp
        obtain ⟨x, hx, rfl⟩ := hp
        obtain ⟨m1, m2⟩ := List.of_mem_zip hx
        exact (sb_plus (k := 15 + 4 * done.length) (l := 4 + 3 * done.length) (hbs _ m1) (sb_row hfs.2 _ m2) (by omega) (by omega) (by omega)).up (by omega) (by omega)
      · exact (sb_plus (k := 581 + 140 * done.length) (l := 132 + 131 * done.length) hq hls.1 (by omega) (by omega) (by omega)).up (by omega) (by omega)
      · exact Int.ediv_nonneg (Int.add_nonneg (Int.mul_nonneg hq0 (Int.le_of_lt hls.1.ok.1)) (Int.mul_nonneg hls.2 (Int.le_of_lt hq.ok.1))) (by omega)
      · exact sum_ok (by omega) (fun p hp => (hbs p hp).ok.1) (fun p hp => (sb_row hfs.2 p hp).ok.1) hq.ok.1 hls.1.ok.1 hbk (least_none (fun p hp => (sb_row hfs.2 p hp).ok.1))
    cases fl with
    | nx σ' => exact fin σ' hf
    | ct σ' => exact fin σ' hf
    | bk σ' => exact False.elim hf
    | rt a => exact False.elim hf
    | ex x σ' => exact False.elim hf
  · intro σ s1 h
    obtain ⟨bs, q, nm, xs, y11, y12, y13, y14, hσ, hbl, hbs, hq, hq0, hbk, g6, g8, hxs, hBx⟩ := h
    subst hσ
    exact ⟨bs, q, nm, _, y11, y12, y13, y14, rfl, hbl, fun p hp => (hbs p hp).up (by omega) (by omega), hq.up (by omega) (by omega), hq0, hbk, hBx.up (by omega)⟩
  · rintro _ s1 ⟨bs, q, nm, y8, y11, y12, y13, y14, rfl, hbl, hbs, hq, hq0, hbk, hBx⟩
    have hg : Gd bs := gd_of (by omega) hbs
    have hlb := least_lb hg
    have gpq : Gp q := ⟨hq.ok, hq0, lt_two_pow hq.top (by omega), lt_of_abs (lt_two_pow hq.bot (by omega))⟩
    have hle := sum_le (fun p hp => (hbs p hp).ok.1) hq.ok.1 hq0 hbk
    have yl := fun s => H.less q (leastOf bs) s (hq.up (by omega) (by omega)) ⟨hlb.ok, lt_two_pow hlb.top (by omega), lt_two_pow hlb.bot (by omega)⟩
    rw [hle] at yl
    have e16 := fun s => H.same (.bl true) s (.bl true)
    rw [contB_nx]
    simp [-contB_nx, evE, evEs]
    refine wp_use (H.row bs b (N + 30) nm s1 (by omega) hg hBx (by omega)) ?_
    rintro _ s2 ⟨rfl, k2, b2⟩
    try simp [-contB_nx, asgT]
    rw [contB_nx]
    have last := fun s3 (b3 : Box s3 b (N + 40)) => last59 H (s := s3) (s0 := s0) (v := v) (z1 := z1) (z3 := .bl great) (z4 := .bl nm) (z5 := .int many) (z6 := .cell c6) (z7 := z7) (z8 := y8) (z9 := some (.lst (bs.map fA))) (z10 := some (fA q)) (z11 := y11) (z12 := some (fA (leastOf bs))) (z13 := y13) (z14 := y14) b3 (by omega)
    cases nm with
    | true =>
      simp [-contB_nx, evE, evEs, isA_fA, yl]
      refine wp_use (H.conv _ _ _ s2 (.inl rfl) (by omega) hg gpq) ?_
      rintro _ s3 ⟨rfl, k3⟩
      rw [hbk]
      simp [-contB_nx, e16]
      exact wp_use (last s3 ((b2.kb k3).up (by omega))) (fun _ _ h => h)
    | false =>
      simp [-contB_nx, evE, evEs, Es.len, isA_fA, yl]
      refine wp_use (H.conv _ _ _ s2 (.inl rfl) (by omega) hg gpq) ?_
      rintro _ s3 ⟨rfl, k3⟩
      rw [hbk]
      simp [-contB_nx, e16]
      exact wp_use (last s3 ((b2.kb k3).up (by omega))) (fun _ _ h => h)
end K59
end

section
set_option Elab.async false
set_option linter.all false
namespace K59
open PySem Dy
/-- from the rows' cell on: perhaps the second row is the first one -/
theorem five59 {cf : Nat → List A → S → Res A} (H : Cf cf) {b N c6 many : Nat} {great nm : Bool} {v z1 : A} {z7 z8 z9 z10 z11 z12 z13 z14 : Option A} {rl : List (List F)} {s s0 : S}
    (hm1 : 1 ≤ many) (hm : many ≤ 40) (hrl2 : 2 ≤ rl.length) (hrl : rl.length ≤ 3) (hr : ∀ fs ∈ rl, fs.length = many ∧ Gr fs) (h6 : s[c6]? = some (.lst (rl.map rowA))) (hB : Box s b N) (hN : N < 2 ^ 29) (hd6 : c6 ≠ b) :
    wpe (contB cf cs (dropB 4 (body1 d_law.body)) (.nx [some v, some z1, some (.cell b), some (.bl great), some (.bl nm), some (.int many), some (.cell c6), z7, z8, z9, z10, z11, z12, z13, z14]) s) (QX b s0 v) (fun _ _ => False) := by
  have ht := H.take
  have n6 : some c6 ≠ some b := fun h => hd6 (by cases h; rfl)
  simp only [dropB, body1, d_law, contB_nx]
  simp [-contB_nx, evE, evEs]
  refine use_take ht hB (by omega) (by omega) (by omega) ?_
  intro d s1 d0 d1 k1 b1
  have g6 := k1.get h6 n6
  by_cases hd : d = 0
  · subst hd
    have i6 := itemsL_c _ g6
    have l6 := get_lt g6
    match rl, hrl2, hrl, hr, g6, i6 with
    | r0 :: r1 :: rest, _, hrl, hr, g6, i6 =>
      have hix : L2.ixN ((r0 :: r1 :: rest).map rowA).length 1 = some 1 := by
        simp [L2.ixN]
        omega
      have hset : ((r0 :: r1 :: rest).map rowA).set 1 (rowA r0) = (r0 :: r0 :: rest).map rowA := by simp
      have h0 : L2.atI ((r0 :: r1 :: rest).map rowA) 0 = some (rowA r0) := at_0 _ _
      have hr0 : ∀ s, itemsT s (rowA r0) = some (r0.map fA) := fun s => rfl
      have hrd : A.lst (r0.map fA) = rowA r0 := rfl
      generalize hX : (r0 :: r1 :: rest).map rowA = X at *
      simp [-contB_nx, evE, evEs, asgT, i6, h0, hr0, hrd, hix, hset]
      have g6' : (List.set s1 c6 (C.lst ((r0 :: r0 :: rest).map rowA)))[c6]? = some (.lst ((r0 :: r0 :: rest).map rowA)) := by simp [l6]
      have b6' : Box (List.set s1 c6 (C.lst ((r0 :: r0 :: rest).map rowA))) b (N + 1) := by
        obtain ⟨g, kk, h', m, e, hx⟩ := b1
        refine ⟨g, kk, h', m, ?_, hx⟩
        rw [List.getElem?_set_ne hd6, e]
      have hl3 : (r0 :: r0 :: rest).length ≤ 3 := hrl
      have hrr : ∀ fs ∈ r0 :: r0 :: rest, fs.length = many ∧ Gr fs := by
        intro fs hfs
        apply hr fs
        rcases List.mem_cons.1 hfs with h | h
        · rw [h]; exact List.mem_cons_self
        · rcases List.mem_cons.1 h with h | h
          · rw [h]; exact List.mem_cons_self
          · exact List.mem_cons_of_mem _ (List.mem_cons_of_mem _ h)
      have hm59 := mid59 H (s0 := s0) (v := v) (z1 := z1) (great := great) (nm := nm) (z7 := z7) (z8 := z8) (z9 := z9) (z10 := z10) (z11 := z11) (z12 := z12) (z13 := z13) (z14 := z14) hm1 hm hl3 hrr g6' b6' (by omega) hd6
      rw [contB_nx]
      simp only [evB_nil, wpe_ok]
      exact wp_use hm59 (fun _ _ h => h)
  · simp [-contB_nx, hd]
    exact wp_use (mid59 H (s0 := s0) hm1 hm hrl hr g6 b1 (by omega) hd6) (fun _ _ h => h)
/-- from the number of numbers on -/
theorem four59 {cf : Nat → List A → S → Res A} (H : Cf cf) {b N many : Nat} {great nm : Bool} {v z1 : A} {z6 z7 z8 z9 z10 z11 z12 z13 z14 : Option A} {s s0 : S}
    (hm1 : 1 ≤ many) (hm : many ≤ 40) (hB : Box s b N) (hN : N < 2 ^ 28) :
    wpe (contB cf cs (dropB 3 (body1 d_law.body)) (.nx [some v, some z1, some (.cell b), some (.bl great), some (.bl nm), some (.int many), z6, z7, z8, z9, z10, z11, z12, z13, z14]) s) (QX b s0 v) (fun _ _ => False) := by
  have o2 : ok62 2 = true := ok62_of (by omega)
  have o3 : ok62 3 = true := ok62_of (by omega)
  have s2 : (2 ≤ sizeLine) := by decide
  have comp : ∀ (k : Nat) (Q : List A → S → Prop), k ≤ 3 → (∀ (rl : List (List F)) s', rl.length = k → (∀ fs ∈ rl, fs.length = many ∧ Gr fs) → Kb (some b) s s' → Box s' b (N + 400) → Q (rl.map rowA) s') →
      wpe (mapR none (compF cf cs [7] (.v 7) .no (.call 21 (.cons (.v 2) (.cons (.v 5) .nil))) [some v, some z1, some (.cell b), some (.bl great), some (.bl nm), some (.int many), z6, z7, z8, z9, z10, z11, z12, z13, z14]) (rngL 0 k) s) Q (fun _ _ => False) := by
    intro k Q hk hQ
    rw [rngL_map]
    refine wp_mapL (fun done zs s' => ∃ rl : List (List F), zs = rl.map rowA ∧ rl.length = done.length ∧ (∀ fs ∈ rl, fs.length = many ∧ Gr fs) ∧ Kb (some b) s s' ∧ Box s' b (N + 124 * done.length)) ⟨[], rfl, rfl, by simp, Kb.refl _ _, hB⟩ ?_ ?_
    · intro done x rest zs s1 e h
      obtain ⟨rl, hz, hl, hr, hk1, hb1⟩ := h
      have hdl : done.length ≤ 2 := by
        have := congrArg List.length e
        simp at this
        omega
      simp [asgT, wipeA, evC, evE, evEs]
      refine wp_use (H.nums b _ many s1 hb1 (by omega) hm) ?_
      rintro _ s2 ⟨fs, rfl, hf1, hf2, k2, b2⟩
      try simp
      refine ⟨rl ++ [fs], by simp [hz, rowA], by simp [hl], ?_, hk1.trans k2, b2.up (by omega)⟩
      intro gs hgs
      rcases List.mem_append.1 hgs with h | h
      · exact hr gs h
      · have : gs = fs := by simpa using h
        subst this
        exact ⟨hf1, hf2⟩
    · intro zs s1 h
      obtain ⟨rl, hz, hl, hr, hk1, hb1⟩ := h
      rw [List.length_range] at hl hb1
      subst hz
      exact hQ rl s1 hl hr hk1 (hb1.up (by omega))
  have done : ∀ (k : Nat) (rl : List (List F)) s', 2 ≤ k → k ≤ 3 → rl.length = k → (∀ fs ∈ rl, fs.length = many ∧ Gr fs) → Kb (some b) s s' → Box s' b (N + 400) →
      wpe (contB cf cs (dropB 4 (body1 d_law.body)) (.nx [some v, some z1, some (.cell b), some (.bl great), some (.bl nm), some (.int many), some (.cell s'.length), z7, z8, z9, z10, z11, z12, z13, z14]) (s' ++ [C.lst (rl.map rowA)])) (QX b s0 v) (fun _ _ => False) := by
    intro k rl s' h2 h3 hl hr hk hb
    have := hb.lt
    exact five59 H hm1 hm (by omega) (by omega) hr (app_get _ _) (hb.kb (Kb.app _ _ _)) (by omega) (by omega)
  simp only [dropB, body1, d_law, contB_nx]
  cases great with
  | true =>
    simp [-contB_nx, evE, evI, o2, s2]
    refine wp_use (comp 2 _ (by omega) (fun rl s' a1 a2 a3 a4 => ?_)) (fun _ _ h => h)
    simp [-contB_nx, asgT]
    exact wp_use (done 2 rl s' (by omega) (by omega) a1 a2 a3 a4) (fun _ _ h => h)
  | false =>
    simp [-contB_nx, evE, evI, o3]
    refine wp_use (comp 3 _ (by omega) (fun rl s' a1 a2 a3 a4 => ?_)) (fun _ _ h => h)
    simp [-contB_nx, asgT]
    exact wp_use (done 3 rl s' (by omega) (by omega) a1 a2 a3 a4) (fun _ _ h => h)
end K59
end

section
set_option Elab.async false
set_option linter.all false
namespace K59
open PySem Dy
/-- one cell of the law -/
theorem cell59 {n : Nat} (hn : 5 ≤ n) {ns : List Int} {k : Nat} (hk : k ≤ 3) {z1 z2 z3 z4 z5 z6 z7 z8 z9 z10 z11 z12 z13 z14 : Option A} {s : S} :
    wpe (turnF (callF G cs n) cs (.v 1) (body1 d_law.body) (.int k) [some (.ro (ns.map A.int)), z1, z2, z3, z4, z5, z6, z7, z8, z9, z10, z11, z12, z13, z14] s) (QX s.length s (.ro (ns.map A.int))) (fun _ _ => False) := by
  have H := cfOk hn
  have e13 : ∀ s, wp (callF G cs n 13 [.ro (ns.map A.int), .int k] s) (fun a s' => s' = s ∧ ∃ w : Int, a = .int w) := fun s => cell_ok (c1 := 6763) (c2 := 1000033) rfl (by omega) (by decide) (by decide) (by omega)
  have e14 : ∀ w s, wp (callF G cs n 14 [.int w] s) (fun a s' => a = .cell s.length ∧ s'.length = s.length + 1 ∧ Kb none s s' ∧ Box s' s.length 0) := fun w s => box_ok (c := 2147483629) rfl (by omega) (by decide) (by decide)
  generalize callF G cs n = cf at *
  generalize A.ro (ns.map A.int) = v at *
  have ht := H.take
  simp only [turnF_eq, body1, d_law]
  simp [-contB_nx, asgT, evE, evEs]
  refine wp_use (e13 s) ?_
  rintro _ _ ⟨rfl, w, rfl⟩
  try simp [-contB_nx]
  rename_i s
  refine wp_use (e14 w _) ?_
  rintro _ s1 ⟨rfl, _, _, b1⟩
  try simp [-contB_nx, asgT]
  have from3 : ∀ (great nm : Bool) (s2 : S), Box s2 s.length 2 → wpe (contB cf cs (dropB 2 (body1 d_law.body)) (.nx [some v, some (.int k), some (.cell s.length), some (.bl great), some (.bl nm), z5, z6, z7, z8, z9, z10, z11, z12, z13, z14]) s2) (QX s.length s v) (fun _ _ => False) := by
    intro great nm s2 b2
    simp only [dropB, body1, d_law, contB_nx]
    cases great with
    | true =>
      simp [-contB_nx, evE, asgT]
      have h := four59 H (s0 := s) (many := 40) (great := true) (nm := nm) (v := v) (z1 := .int k) (z6 := z6) (z7 := z7) (z8 := z8) (z9 := z9) (z10 := z10) (z11 := z11) (z12 := z12) (z13 := z13) (z14 := z14) (by omega) (by omega) b2 (by omega)
      exact wp_use h (fun _ _ h => h)
    | false =>
      simp [-contB_nx, evE, evEs]
      refine use_take ht b2 (by omega) (by omega) (by omega) ?_
      intro d s3 d0 d1 k3 b3
      simp [-contB_nx, asgT]
      have e : (2 + d : Int) = (((2 + d).toNat : Nat) : Int) := by omega
      rw [e]
      have h := four59 H (s0 := s) (many := (2 + d).toNat) (great := false) (nm := nm) (v := v) (z1 := .int k) (z6 := z6) (z7 := z7) (z8 := z8) (z9 := z9) (z10 := z10) (z11 := z11) (z12 := z12) (z13 := z13) (z14 := z14) (by omega) (by omega) b3 (by omega)
      exact wp_use h (fun _ _ h => h)
  rw [contB_nx]
  simp [-contB_nx, evE, evEs]
  by_cases hk0 : k = 0
  · rw [if_pos hk0]
    refine use_take ht b1 (by omega) (by omega) (by omega) ?_
    intro d s2 d0 d1 k2 b2
    try simp [-contB_nx]
    refine use_take ht b2 (by omega) (by omega) (by omega) ?_
    intro d' s3 d0' d1' k3 b3
    simp [-contB_nx, setsA]
    exact wp_use (from3 _ _ s3 b3) (fun _ _ h => h)
  · rw [if_neg hk0]
    try simp [-contB_nx]
    refine use_take ht b1 (by omega) (by omega) (by omega) ?_
    intro d s2 d0 d1 k2 b2
    simp [-contB_nx, setsA]
    exact wp_use (from3 _ _ s2 (b2.up (by omega))) (fun _ _ h => h)
theorem law_true : ∀ ns : List Int, ns.length ≤ 63 → ∃ s, callF G cs (30 + 1) 28 [.ro (ns.map A.int)] [] = .ok (.bl true) s := by
  intro ns hns
  have h : wp (callF G cs (30 + 1) 28 [.ro (ns.map A.int)] []) (fun a _ => a = .bl true) := by
    refine wp_call (d := d_law) rfl (by omega) rfl ?_
    simp only [d_law, evB_cons, evS_for, evI, wpe_bind, wpe_bindX]
    simp [-contB_nx, evE, evEs]
    obtain ⟨c, hc, he⟩ : ∃ c : Nat, c ≤ 3 ∧ (if (2 : Int) < if (ns.length : Int) < 3 then (ns.length : Int) else 3 then if (ns.length : Int) < 3 then (ns.length : Int) else 3 else 2) = (c : Int) := by
      by_cases h : ns.length < 3
      · exact ⟨2, by omega, by split <;> (try split at *) <;> (try split) <;> omega⟩
      · exact ⟨3, by omega, by split <;> (try split at *) <;> (try split) <;> omega⟩
    rw [he]
    refine ⟨ok62_of (by omega), ?_⟩
    rw [Int.toNat_natCast, rngL_map]
    refine wpe_mono (wp_forL (Q := fun fl s => ∃ σ, fl = .nx σ) (X := fun _ _ => False) (fun done σ s => ∃ zs : List (Option A), zs.length = 14 ∧ σ = some (.ro (ns.map A.int)) :: zs) ⟨List.replicate 14 none, rfl, rfl⟩ ?_ ?_) ?_ (fun _ _ h => h)
    · intro done k rest σ s e h
      obtain ⟨zs, hl, hσ⟩ := h
      subst hσ
      have hk : k < c := by
        have : k ∈ List.range c := by rw [e]; simp
        simpa using this
      match zs, hl with
      | [z1, z2, z3, z4, z5, z6, z7, z8, z9, z10, z11, z12, z13, z14], _ =>
        rw [Int.zero_add]
        refine wpe_mono (cell59 (n := 30) (ns := ns) (k := k) (by omega) (by omega)) ?_ (fun _ _ h => h)
        rintro _ s2 ⟨ys, hy, rfl⟩
        exact ⟨rfl, ys, hy, rfl⟩
    · intro σ s h
      exact ⟨σ, rfl⟩
    · rintro _ s ⟨σ, rfl⟩
      simp [evE]
  obtain ⟨a, s, e, rfl⟩ := wp_get h
  exact ⟨s, e⟩
end K59
end

section
open PySem PySem.W PyProof.Rows
set_option Elab.async false
set_option maxRecDepth 100000 in
set_option maxHeartbeats 0 in
theorem PySem.Challenge.cw_stockbench_k59_whole_k_convex_rows_added_holds : PySem.Challenge.rw_stockbench_k59_whole_k_convex_rows_added.Holds := by
  w_on; o_law; k_head; (case hw => w_witness2)
  k_fill
  refine L2.walk_of (l := PySem.Challenge.rw_stockbench_k59_whole_k_convex_rows_added) (n := 63) (k := 30 + 1) (x := "script") (CX := fun w => L2.CX PySem.Challenge.rw_stockbench_k59_whole_k_convex_rows_added.prog w) (sp := fun w => Dy.spLaw _) rfl (by decide) rfl ⟨rfl, by decide, by decide⟩ (fun w h Y => PySem.W.kIn_of Y) ?F (fun _ _ a ns hl _ hS => ⟨a, ns, rfl, hS, hl, fun _ => rfl⟩) (fun _ _ _ _ _ h => Dy.cx_no h)
  case F =>
    intro w mg fa h KX G hmg
    refine' K59.all_mk 30 KX G hmg ?a0 ?l0 ?c0 ?k0 ?a1 ?l1 ?c1 ?k1 ?a2 ?l2 ?c2 ?k2 ?a3 ?l3 ?c3 ?k3 ?a4 ?l4 ?c4 ?k4 ?a5 ?l5 ?c5 ?k5 ?a6 ?l6 ?c6 ?k6 ?a7 ?l7 ?c7 ?k7 ?a8 ?l8 ?c8 ?k8 ?a9 ?l9 ?c9 ?k9 ?a10 ?l10 ?c10 ?k10 ?a11 ?l11 ?c11 ?k11 ?a12 ?l12 ?c12 ?k12 ?a13 ?l13 ?c13 ?k13 ?a14 ?l14 ?c14 ?k14 ?a15 ?l15 ?c15 ?k15 ?a16 ?l16 ?c16 ?k16 ?a17 ?l17 ?c17 ?k17 ?a18 ?l18 ?c18 ?k18 ?a19 ?l19 ?c19 ?k19 ?a20 ?l20 ?c20 ?k20 ?a21 ?l21 ?c21 ?k21 ?a22 ?l22 ?c22 ?k22 ?a23 ?l23 ?c23 ?k23 ?a24 ?l24 ?c24 ?k24 ?a25 ?l25 ?c25 ?k25 ?a26 ?l26 ?c26 ?k26 ?a27 ?l27 ?c27 ?k27 ?a28 ?l28 ?c28 ?k28 ?z0 ?z1 ?z2 ?z3 ?z4 ?z5 ?z6 ?z7 ?z8 ?z9 ?z10 ?z11 ?z12 ?z13 ?z14 ?z15 ?z16 ?zg ?ca0 ?ca1 ?cl1 ?hLaw
    (case a0 => k_is)
    (case l0 => k_is)
    (case c0 => k_is)
    (case k0 => k_is)
    (case a1 => k_is)
    (case l1 => k_is)
    (case c1 => k_is)
    (case k1 => k_is)
    (case a2 => k_is)
    (case l2 => k_is)
    (case c2 => k_is)
    (case k2 => k_is)
    (case a3 => k_is)
    (case l3 => k_is)
    (case c3 => k_is)
    (case k3 => k_is)
    (case a4 => k_is)
    (case l4 => k_is)
    (case c4 => k_is)
    (case k4 => k_is)
    (case a5 => k_is)
    (case l5 => k_is)
    (case c5 => k_is)
    (case k5 => k_is)
    (case a6 => k_is)
    (case l6 => k_is)
    (case c6 => k_is)
    (case k6 => k_is)
    (case a7 => k_is)
    (case l7 => k_is)
    (case c7 => k_is)
    (case k7 => k_is)
    (case a8 => k_is)
    (case l8 => k_is)
    (case c8 => k_is)
    (case k8 => k_is)
    (case a9 => k_is)
    (case l9 => k_is)
    (case c9 => k_is)
    (case k9 => k_is)
    (case a10 => k_is)
    (case l10 => k_is)
    (case c10 => k_is)
    (case k10 => k_is)
    (case a11 => k_is)
    (case l11 => k_is)
    (case c11 => k_is)
    (case k11 => k_is)
    (case a12 => k_is)
    (case l12 => k_is)
    (case c12 => k_is)
    (case k12 => k_is)
    (case a13 => k_is)
    (case l13 => k_is)
    (case c13 => k_is)
    (case k13 => k_is)
    (case a14 => k_is)
    (case l14 => k_is)
    (case c14 => k_is)
    (case k14 => k_is)
    (case a15 => k_is)
    (case l15 => k_is)
    (case c15 => k_is)
    (case k15 => k_is)
    (case a16 => k_is)
    (case l16 => k_is)
    (case c16 => k_is)
    (case k16 => k_is)
    (case a17 => k_is)
    (case l17 => k_is)
    (case c17 => k_is)
    (case k17 => k_is)
    (case a18 => k_is)
    (case l18 => k_is)
    (case c18 => k_is)
    (case k18 => k_is)
    (case a19 => k_is)
    (case l19 => k_is)
    (case c19 => k_is)
    (case k19 => k_is)
    (case a20 => k_is)
    (case l20 => k_is)
    (case c20 => k_is)
    (case k20 => k_is)
    (case a21 => k_is)
    (case l21 => k_is)
    (case c21 => k_is)
    (case k21 => k_is)
    (case a22 => k_is)
    (case l22 => k_is)
    (case c22 => k_is)
    (case k22 => k_is)
    (case a23 => k_is)
    (case l23 => k_is)
    (case c23 => k_is)
    (case k23 => k_is)
    (case a24 => k_is)
    (case l24 => k_is)
    (case c24 => k_is)
    (case k24 => k_is)
    (case a25 => k_is)
    (case l25 => k_is)
    (case c25 => k_is)
    (case k25 => k_is)
    (case a26 => k_is)
    (case l26 => k_is)
    (case c26 => k_is)
    (case k26 => k_is)
    (case a27 => k_is)
    (case l27 => k_is)
    (case c27 => k_is)
    (case k27 => k_is)
    (case a28 => k_is)
    (case l28 => k_is)
    (case c28 => k_is)
    (case k28 => k_is)
    (case z0 => k_is)
    (case z1 => k_is)
    (case z2 => k_is)
    (case z3 => k_is)
    (case z4 => k_is)
    (case z5 => k_is)
    (case z6 => k_is)
    (case z7 => k_is)
    (case z8 => k_is)
    (case z9 => k_is)
    (case z10 => k_is)
    (case z11 => k_is)
    (case z12 => k_is)
    (case z13 => k_is)
    (case z14 => k_is)
    (case z15 => k_is)
    (case z16 => k_is)
    (case zg => k_is)
    (case ca0 => k_is)
    (case ca1 => k_is)
    (case cl1 => k_is)
    (case hLaw => exact K59.law_true)
end
