import PyProof.Rows.All
import Wide.All
import OpenK.AllK
import Wide.FinOn
import HandS.ForMost
import KE.SortData
import HandS.Exc
import HandS.ExcOwn
import HandS.WordsExc
import HandS.Zip
import HandS.Walk
import HandS.IsInst
import HandS.Deep
import HandS.TupAny
import HandS.TupMul
import HandS.Style
import HandS.SortKw
import HandS.Conv
import KE.DataFind
import HandS.More
import KE.GoesMore
import KE.GoesEnum
import HandS.HotCalls
import HandS.ExcIs
import HandS.ExcCtx
import HandS.TryOnly
import KE.KExcTry
import PySem.Challenge.RW_spreadplanes_k17_what_is_a_turning
set_option Elab.async false
set_option linter.all false
set_option maxRecDepth 100000
set_option maxHeartbeats 4000000
/-! Z1: an own small language for the program's text, its data, its evaluation. -/
namespace Z
open PySem

/-- data: lists are places of a store; tmp is a list just made, that nobody holds -/
inductive D where
  | non | bl (b : Bool) | int (i : Int) | str (x : Str)
  | tup (xs : List D) | lst (a : Nat) | tmp (xs : List D) | fn (k : Nat) | exc (c : Nat)
/-- a cell of the store: a list; a list that is only read -/
inductive Cell where
  | lst (xs : List D) | ro (xs : List D)
abbrev Sto := List Cell
abbrev Env := List (Option D)
inductive R (α : Type) where
  | ok (a : α) (S : Sto) | exc (c : Nat) (S : Sto) | bad
def R.bind {α β : Type} (r : R α) (f : α → Sto → R β) : R β := match r with
  | .ok a S => f a S
  | .exc c S => .exc c S
  | .bad => .bad

inductive Op where | add | sub | mul | fdiv | mod | pow | shl | shr | band | bor | bxor
inductive Cm where | eq | ne | lt | le | gt | ge | is | isnt | isin | notin
inductive Blt where | len | abs | max2 | min2 | int1 | tuple | list | sum | all | any | lrng
inductive Ty where | int | bool | str | list | tuple
inductive Met where | append | extend | pop | popat | reverse | insert | remove | index | count | clear
inductive Tg where | nm (i : Nat) | tu (is : List Nat)

mutual
inductive E where
  | var (i : Nat) | lit (d : D) | glo (d : D)
  | bin (o : Op) (a b : E) | neg (a : E) | cmp (o : Cm) (a b : E) | chn (o p : Cm) (a b c : E)
  | and (a b : E) | or (a b : E) | not (a : E) | ife (c a b : E)
  | tup (es : Es) | lst (es : Es) | idx (a b : E) | sli (a : E) (lo hi : Eo)
  | call (f : Nat) (es : Es) | calli (f : Nat) (es : Es) | blt (f : Blt) (es : Es) | isi (a : E) (t : Ty) | isi2 (a : E) | ise (a : E) (cs : List Nat)
  | met (m : Met) (o : E) (es : Es) | ext (o e : E) | srt (a : E) (rev : Bool) | rev (a : E)
  | comp (own : List Nat) (it : I) (tg : Tg) (cond : Eo) (elt : E)
inductive Eo where | no | of (e : E)
inductive Es where | nil | cons (e : E) (es : Es)
inductive I where | seq (e : E) | rng1 (a : E) | rng2 (a b : E) | rng3 (a b c : E) | enu (e : E) | zip (a b : E)
end
mutual
inductive T where
  | set (i : Nat) (e : E) | unp (is : List Nat) (e : E) | put (o i e : E) | exp (e : E) | ret (e : E) | retn
  | ife (c : E) (a b : B) | fo (it : I) (tg : Tg) (b : B) | wh (c : E) (b : B) | aug (i : Nat) (o : Op) (e : E)
  | rai (c : Nat) | brk | cnt | pas | par (is : List Nat) (es : Es) | putt (o i o2 i2 e e2 : E) | tre (b : B) (i : Nat) (cs : List Nat) (e : E)
inductive B where | nil | seq (s : T) (b : B)
end
structure Fn where
  ar : Nat
  n : Nat
  body : B

/-! ### plain data -/
mutual
def D.pure : D → Bool
  | .non => true | .bl _ => true | .int _ => true | .str _ => true
  | .tup xs => D.pureAll xs | .lst _ => false | .tmp _ => false | .fn _ => true | .exc _ => true
def D.pureAll : List D → Bool
  | [] => true
  | d :: ds => d.pure && D.pureAll ds
end
def SL (n : Nat) : Bool := Nat.ble n 16777216
def Cell.xs : Cell → List D
  | .lst xs => xs | .ro xs => xs
def at_ (old S : Sto) (a : Nat) : Option Cell := (old ++ S)[a]?
/-- what may be read item by item -/
def seqOf (old S : Sto) : D → Option (List D)
  | .tup xs => some xs
  | .tmp xs => some xs
  | .lst a => (at_ old S a).map Cell.xs
  | _ => none
/-- a list proper -/
def lstOf (old S : Sto) : D → Option (List D)
  | .tmp xs => some xs
  | .lst a => match at_ old S a with
    | some (.lst xs) => some xs
    | _ => none
  | _ => none
/-- what is only read too -/
def lstRo (old S : Sto) : D → Option (List D)
  | .tmp xs => some xs
  | .lst a => (at_ old S a).map Cell.xs
  | _ => none
def strOk (x : Str) : Bool := PySem.PyData.canLay0 (.str x)
def mapO {α β : Type} (f : α → Option β) : List α → Option (List β)
  | [] => some []
  | d :: ds => match f d with
    | none => none
    | some p => match mapO f ds with
      | none => none
      | some ps => some (p :: ps)
/-- the data as a whole; n: how deep it may lie -/
def toPy (old S : Sto) : Nat → D → Option PyData
  | 0, _ => none
  | n + 1, d => match d with
    | .non => some .none
    | .bl b => some (.bool b)
    | .int i => some (.int i)
    | .str x => if strOk x then some (.str x) else none
    | .tup xs => (mapO (toPy old S n) xs).map .tuple
    | .tmp xs => (mapO (toPy old S n) xs).map .list
    | .lst a => match at_ old S a with
      | some c => (mapO (toPy old S n) c.xs).map .list
      | none => none
    | _ => none
def eqv (old S : Sto) (x y : D) : Option Bool := match toPy old S 60 x with
  | none => none
  | some p => match toPy old S 60 y with
    | none => none
    | some q => some (PyData.eqv p q)
def isIn (old S : Sto) (x y : D) : Option Bool := match toPy old S 60 x with
    | none => none
    | some p => match toPy old S 60 y with
      | some (.list qs) => some (qs.any fun z => PyData.eqv z p)
      | some (.tuple qs) => some (qs.any fun z => PyData.eqv z p)
      | _ => none
/-- the store's new part, and the value, behind a binding -/
def own (old : Sto) (d : D) (S : Sto) : R D := match d with
  | .tmp xs => .ok (.lst (old.length + S.length)) (S ++ [.lst xs])
  | d => .ok d S

/-! ### order, for sorted -/
/-- put in ahead of the first that is not ahead of it -/
def ins {α : Type} (le : α → α → Bool) (x : α) : List α → List α
  | [] => [x]
  | y :: ys => match le x y with
    | true => x :: y :: ys
    | false => y :: ins le x ys
def insS {α : Type} (le : α → α → Bool) : List α → List α
  | [] => []
  | x :: xs => ins le x (insS le xs)
def allAl : List PyData → Bool
  | [] => true
  | p :: ps => ps.all (fun q => PySem.W.alike p q && PySem.W.alike q p) && PySem.W.alike p p && allAl ps
def srtB (ps : List PyData) : Bool := (ps.all fun p => match p with | .tuple (_ :: _) => true | _ => false) || ps.all fun p => match p with | .tuple _ => false | .none => false | _ => true
/-! ### operators -/
def okm (i j : Int) : Bool := (decide (-(2 ^ 64) < i) && decide (i < 2 ^ 64)) || (decide (-(2 ^ 64) < j) && decide (j < 2 ^ 64))
def okp (i j : Int) : Bool := decide (0 ≤ j) && decide (j ≤ 1000000) && decide (i.natAbs < 2 ^ 64)
def opV (old : Sto) (o : Op) (x y : D) (S : Sto) : R D := match o, x, y with
  | .add, .int i, .int j => .ok (.int (i + j)) S
  | .sub, .int i, .int j => .ok (.int (i - j)) S
  | .mul, .int i, .int j => if okm i j then .ok (.int (i * j)) S else .bad
  | .fdiv, .int i, .int j => if decide (0 < j) && decide (j < 1073741824) then .ok (.int (i / j)) S else .bad
  | .mod, .int i, .int j => if decide (0 < j) then .ok (.int (i % j)) S else .bad
  | .pow, .int i, .int j => if okp i j then .ok (.int (i ^ j.toNat)) S else .bad
  | .shl, .int i, .int j => if okp i j then .ok (.int (i * 2 ^ j.toNat)) S else .bad
  | .shr, .int i, .int j => if decide (0 ≤ j) then .ok (.int (i / 2 ^ j.toNat)) S else .bad
  | .band, .int i, .int j => .ok (.int (Builtin.bitAnd i j)) S
  | .bor, .int i, .int j => .ok (.int (Builtin.bitOr i j)) S
  | .bxor, .int i, .int j => .ok (.int (Builtin.bitXor i j)) S
  | .add, .str x, .str y => if SL (x.length + y.length) then .ok (.str (x ++ y)) S else .bad
  | .add, .tup xs, .tup ys => if SL (xs.length + ys.length) then .ok (.tup (xs ++ ys)) S else .bad
  | .add, x, y => match lstOf old S x with
    | none => .bad
    | some xs => match lstOf old S y with
      | none => .bad
      | some ys => if SL (xs.length + ys.length) then .ok (.tmp (xs ++ ys)) S else .bad
  | .mul, .tup xs, .int k => if decide (0 ≤ k) && decide (k ≤ 1000) && decide (xs.length ≤ 1000) && !xs.isEmpty then .ok (.tup (List.replicate k.toNat xs).flatten) S else .bad
  | .mul, x, .int k => match lstOf old S x with
    | none => .bad
    | some xs => if decide (0 ≤ k) && decide (k < 16777217) && SL (xs.length * k.toNat) then .ok (.tmp (List.replicate k.toNat xs).flatten) S else .bad
  | _, _, _ => .bad
def cmpV (old : Sto) (o : Cm) (x y : D) (S : Sto) : Option Bool := match o with
  | .eq => eqv old S x y
  | .ne => (eqv old S x y).map (!·)
  | .lt => match x, y with
    | .int i, .int j => some (decide (i < j))
    | _, _ => none
  | .le => match x, y with
    | .int i, .int j => some (decide (i ≤ j))
    | _, _ => none
  | .gt => match x, y with
    | .int i, .int j => some (decide (j < i))
    | _, _ => none
  | .ge => match x, y with
    | .int i, .int j => some (decide (j ≤ i))
    | _, _ => none
  | .is => match x, y with
    | .bl a, .bl b => some (decide (a = b))
    | .non, .non => some true
    | _, .non => some false
    | _, _ => none
  | .isnt => match x, y with
    | .bl a, .bl b => some (!decide (a = b))
    | .non, .non => some false
    | _, .non => some true
    | _, _ => none
  | .isin => isIn old S x y
  | .notin => (isIn old S x y).map (!·)
def truth (old S : Sto) : D → Option Bool
  | .non => some false
  | .bl b => some b
  | .int i => some (i != 0)
  | .tup xs => some !xs.isEmpty
  | .tmp xs => some !xs.isEmpty
  | .lst a => (at_ old S a).map fun c => !c.xs.isEmpty
  | _ => none
def bools : List D → Option (List Bool)
  | [] => some []
  | .bl b :: ds => (bools ds).map (b :: ·)
  | _ => none
def intsOf : List D → Option (List Int)
  | [] => some []
  | .int i :: ds => (intsOf ds).map (i :: ·)
  | _ => none
def bltV (old : Sto) (f : Blt) (vs : List D) (S : Sto) : R D := match f, vs with
  | .len, [.str z] => if SL z.length then .ok (.int z.length) S else .bad
  | .len, [x] => match seqOf old S x with
    | some xs => .ok (.int xs.length) S
    | none => .bad
  | .abs, [.int i] => .ok (.int (if i < 0 then -i else i)) S
  | .max2, [.int i, .int j] => .ok (.int (if j > i then j else i)) S
  | .min2, [.int i, .int j] => .ok (.int (if j < i then j else i)) S
  | .int1, [.int i] => .ok (.int i) S
  | .int1, [.bl b] => .ok (.int (if b then 1 else 0)) S
  | .tuple, [x] => match seqOf old S x with
    | some xs => .ok (.tup xs) S
    | none => .bad
  | .list, [x] => match seqOf old S x with
    | some xs => .ok (.tmp xs) S
    | none => .bad
  | .sum, [x] => match lstRo old S x with
    | none => .bad
    | some xs => match intsOf xs with
      | some ns => .ok (.int ns.sum) S
      | none => .bad
  | .all, [x] => match lstRo old S x with
    | none => .bad
    | some xs => match bools xs with
      | some bs => .ok (.bl (bs.all id)) S
      | none => .bad
  | .any, [x] => match lstRo old S x with
    | none => .bad
    | some xs => match bools xs with
      | some bs => .ok (.bl (bs.any id)) S
      | none => .bad
  | .lrng, [.int n] => if decide (-4611686018427387904 ≤ n) && decide (n ≤ 16777216) then .ok (.tmp ((List.range n.toNat).map fun k : Nat => D.int (k : Int))) S else .bad
  | _, _ => .bad
def isiV (t : Ty) : D → Option Bool
  | .non => some false
  | .bl _ => some (match t with | .bool => true | .int => true | _ => false)
  | .int _ => some (match t with | .int => true | _ => false)
  | .str _ => some (match t with | .str => true | _ => false)
  | .tup _ => some (match t with | .tuple => true | _ => false)
  | .lst _ => some (match t with | .list => true | _ => false)
  | .tmp _ => some (match t with | .list => true | _ => false)
  | _ => none
def isi2V (d : D) : Option Bool := match isiV .tuple d with
  | some a => match isiV .list d with
    | some b => some (a || b)
    | none => none
  | none => none
/-- told by an except suite -/
def scalD : D → Bool
  | .bl _ => true
  | .str _ => true
  | .int _ => true
  | .non => true
  | _ => false
/-- the place of an index, as Python counts -/
def ixN (n : Nat) (i : Int) : Option Nat := if 0 ≤ i then (if i < n then some i.toNat else none) else if -(n : Int) ≤ i then some (i + n).toNat else none
def idxV (old : Sto) (x i : D) (S : Sto) : R D := match i with
  | .int i => match x with
    | .str _ => .bad
    | x => match seqOf old S x with
      | none => .bad
      | some xs => match ixN xs.length i with
        | none => .bad
        | some k => match xs[k]? with
          | some d => .ok d S
          | none => .bad
  | _ => .bad
/-- where a slice's end lies -/
def sIx (n d : Nat) : Option Int → Nat
  | none => d
  | some i => if i < 0 then (i + n).toNat else min i.toNat n
def cut (xs : List D) (lo hi : Option Int) : List D := (xs.drop (sIx xs.length 0 lo)).take (sIx xs.length xs.length hi - sIx xs.length 0 lo)
def sliV (old : Sto) (x : D) (lo hi : Option Int) (S : Sto) : R D := match x with
  | .tup xs => .ok (.tup (cut xs lo hi)) S
  | x => match lstRo old S x with
    | some xs => .ok (.tmp (cut xs lo hi)) S
    | none => .bad

/-! ### what is walked -/
def isT : D → Bool
  | .tup _ => true
  | _ => false
inductive It where
  | seq (d : D) | rng (lo st : Int) (n : Nat) | enu (d : D) | zip (x y : D)
def It.get (old S : Sto) (k : Nat) : It → Option (Option D)
  | .seq d => (seqOf old S d).map (·[k]?)
  | .rng lo st n => some (if k < n then some (.int (lo + (k : Int) * st)) else none)
  | .enu d => match seqOf old S d with
    | none => none
    | some xs => some (match xs[k]? with
      | some x => some (.tup [.int (k : Int), x])
      | none => none)
  | .zip x y => match seqOf old S x with
    | none => none
    | some xs => match seqOf old S y with
      | none => none
      | some ys => some (match xs[k]?, ys[k]? with
        | some a, some b => some (.tup [a, b])
        | _, _ => none)
def It.size (old S : Sto) : It → Nat
  | .seq d => ((seqOf old S d).getD []).length
  | .rng _ _ n => n
  | .enu d => ((seqOf old S d).getD []).length
  | .zip x y => min ((seqOf old S x).getD []).length ((seqOf old S y).getD []).length
def setAll : List Nat → List D → Env → Option Env
  | [], [], env => some env
  | i :: is, d :: ds, env => setAll is ds (env.set i (some d))
  | _, _, _ => none
def Tg.put : Tg → D → Env → Option Env
  | .nm i, d, env => some (env.set i (some d))
  | .tu is, .tup ds, env => setAll is ds env
  | _, _, _ => none
def wipe (env : Env) : List Nat → Env
  | [] => env
  | v :: vs => (wipe env vs).set v none

/-- a comprehension's turns -/
def cloop (old : Sto) (it : It) (turn : D → Sto → R (Option D)) : Nat → Nat → Sto → R (List D)
  | 0, k, S => match it.get old S k with
    | some none => .ok [] S
    | _ => .bad
  | f + 1, k, S => match it.get old S k with
    | none => .bad
    | some none => .ok [] S
    | some (some x) => match turn x S with
      | .ok none S1 => cloop old it turn f (k + 1) S1
      | .ok (some y) S1 => match cloop old it turn f (k + 1) S1 with
        | .ok ys S2 => .ok (y :: ys) S2
        | .exc c S2 => .exc c S2
        | .bad => .bad
      | .exc c S1 => .exc c S1
      | .bad => .bad
/-- sorted -/
def srtV (old S : Sto) (xs : List D) (rev : Bool) : Option (List D) := match mapO (toPy old S 59) xs with
  | none => none
  | some ps => if allAl ps && srtB ps then some ((insS (PySem.W.dataLe rev Prod.snd) (xs.zip ps)).map Prod.fst) else none

/-! ### methods of lists -/
/-- a new content for the list at place a -/
def wr (old S : Sto) (a : Nat) (xs : List D) : Sto := S.set (a - old.length) (.lst xs)
/-- the items of a list, and a thing, as whole data -/
def pair (old S : Sto) (o x : D) : Option (List PyData × PyData) := match toPy old S 60 o with
  | some (.list qs) => match toPy old S 60 x with
    | some p => some (qs, p)
    | none => none
  | _ => none
def metV (old : Sto) (m : Met) (o : D) (vs : List D) (S : Sto) : R D := match m, vs with
  | .index, [x] => match pair old S o x with
    | some (qs, p) => if Nat.blt (qs.findIdx fun z => PyData.eqv z p) qs.length then .ok (.int ((qs.findIdx fun z => PyData.eqv z p : Nat) : Int)) S else .bad
    | none => .bad
  | .count, [x] => match pair old S o x with
    | some (qs, p) => .ok (.int ((qs.countP fun z => PyData.eqv z p : Nat) : Int)) S
    | none => .bad
  | m, vs => match o with
    | .lst a => if a < old.length then .bad else match S[a - old.length]? with
      | some (.lst xs) => match m, vs with
        | .append, [x] => if Nat.blt xs.length 16777216 then .ok .non (wr old S a (xs ++ [x])) else .bad
        | .extend, [y] => match lstOf old S y with
          | some ys => if SL (xs.length + ys.length) then .ok .non (wr old S a (xs ++ ys)) else .bad
          | none => .bad
        | .pop, [] => match xs[xs.length - 1]? with
          | some y => .ok y (wr old S a xs.dropLast)
          | none => .bad
        | .popat, [.int i] => if SL xs.length then (match ixN xs.length i with
          | some k => match xs[k]? with
            | some y => .ok y (wr old S a (xs.eraseIdx k))
            | none => .bad
          | none => .bad) else .bad
        | .insert, [.int i, x] => if decide (0 ≤ i) && decide (i ≤ 16777216) && Nat.blt xs.length 16777216 then .ok .non (wr old S a (xs.take i.toNat ++ [x] ++ xs.drop i.toNat)) else .bad
        | .reverse, [] => .ok .non (wr old S a xs.reverse)
        | .clear, [] => .ok .non (wr old S a [])
        | .remove, [x] => match pair old S o x with
          | some (qs, p) => if Nat.blt (qs.findIdx fun z => PyData.eqv z p) qs.length then .ok .non (wr old S a (xs.eraseIdx (qs.findIdx fun z => PyData.eqv z p))) else .bad
          | none => .bad
        | _, _ => .bad
      | _ => .bad
    | _ => .bad
def putV (old : Sto) (o i v : D) (S : Sto) : Option Sto := match o, i with
  | .lst a, .int i => if a < old.length then none else match S[a - old.length]? with
    | some (.lst xs) => match ixN xs.length i with
      | some k => some (wr old S a (xs.set k v))
      | none => none
    | _ => none
  | _, _ => none

/-! ### evaluation -/
def bnd {α β : Type} (r : R α) (f : α → Sto → R β) : R β := match r with
  | .ok a S => f a S
  | .exc c S => .exc c S
  | .bad => .bad
def opt {α : Type} (o : Option α) (S : Sto) : R α := match o with
  | some a => .ok a S
  | none => .bad
section
variable (cp : Nat → List D → Sto → R D) (ci : Nat → List D → Sto → Sto → R D) (old : Sto)
mutual
def ev : E → Env → Sto → R D
  | .var i, env, S => match env[i]? with
    | some (some d) => .ok d S
    | _ => .bad
  | .lit d, _, S => if d.pure = true then .ok d S else .bad
  | .glo d, _, S => if d.pure = true then .ok d S else .bad
  | .bin o a b, env, S => bnd (ev a env S) fun x S1 => bnd (ev b env S1) fun y S2 => opV old o x y S2
  | .neg a, env, S => bnd (ev a env S) fun x S1 => match x with
    | .int i => .ok (.int (-i)) S1
    | _ => .bad
  | .cmp o a b, env, S => bnd (ev a env S) fun x S1 => bnd (ev b env S1) fun y S2 => match cmpV old o x y S2 with
    | some r => .ok (.bl r) S2
    | none => .bad
  | .chn o p a b c, env, S => bnd (ev a env S) fun x S1 => bnd (ev b env S1) fun y S2 => match cmpV old o x y S2 with
    | some true => bnd (ev c env S2) fun z S3 => match cmpV old p y z S3 with
      | some r => .ok (.bl r) S3
      | none => .bad
    | some false => .ok (.bl false) S2
    | none => .bad
  | .and a b, env, S => bnd (ev a env S) fun x S1 => match x with
    | .bl k => if k = true then ev b env S1 else .ok (.bl false) S1
    | _ => .bad
  | .or a b, env, S => bnd (ev a env S) fun x S1 => match x with
    | .bl k => if k = true then .ok (.bl true) S1 else ev b env S1
    | _ => .bad
  | .not a, env, S => bnd (ev a env S) fun x S1 => match x with
    | .bl b => .ok (.bl !b) S1
    | _ => .bad
  | .ife c a b, env, S => bnd (ev c env S) fun x S1 => match truth old S1 x with
    | some k => if k = true then ev a env S1 else ev b env S1
    | none => .bad
  | .tup es, env, S => bnd (evs es env S) fun ds S1 => if SL ds.length then .ok (.tup ds) S1 else .bad
  | .lst es, env, S => bnd (evs es env S) fun ds S1 => if SL ds.length then .ok (.tmp ds) S1 else .bad
  | .idx a b, env, S => bnd (ev a env S) fun x S1 => bnd (ev b env S1) fun y S2 => idxV old x y S2
  | .sli a lo hi, env, S => bnd (ev a env S) fun x S1 => bnd (evo lo env S1) fun l S2 => bnd (evo hi env S2) fun h S3 => sliV old x l h S3
  | .call f es, env, S => bnd (evs es env S) fun ds S1 => match cp f ds (old ++ S1) with
    | .ok d more => .ok d (S1 ++ more)
    | .exc c _ => .exc c S1
    | .bad => .bad
  | .calli f es, env, S => bnd (evs es env S) fun ds S1 => ci f ds old S1
  | .blt f es, env, S => bnd (evr es env S) fun ds S1 => bltV old f ds S1
  | .isi a t, env, S => bnd (ev a env S) fun x S1 => match isiV t x with
    | some r => .ok (.bl r) S1
    | none => .bad
  | .isi2 a, env, S => bnd (ev a env S) fun x S1 => match isi2V x with
    | some r => .ok (.bl r) S1
    | none => .bad
  | .ise a cs, env, S => bnd (ev a env S) fun x S1 => match x with
    | .exc k => .ok (.bl (cs.contains k)) S1
    | _ => .bad
  | .met m o es, env, S => bnd (ev o env S) fun x S1 => match x with
    | .lst a => bnd (evs es env S1) fun ds S2 => metV old m (.lst a) ds S2
    | _ => .bad
  | .ext o e, env, S => bnd (ev o env S) fun x S1 => match x with
    | .lst a => bnd (ev e env S1) fun y S2 => metV old .extend (.lst a) [y] S2
    | _ => .bad
  | .srt a rev, env, S => bnd (ev a env S) fun x S1 => match lstRo old S1 x with
    | some xs => match srtV old S1 xs rev with
      | some ys => .ok (.tmp ys) S1
      | none => .bad
    | none => .bad
  | .rev a, env, S => bnd (ev a env S) fun x S1 => match lstRo old S1 x with
    | some xs => .ok (.tmp xs.reverse) S1
    | none => .bad
  | .comp vs it tg cond elt, env, S => bnd (evi it env S) fun j S1 => if SL (j.size old S1) then
        match cloop old j (fun x S => match tg.put x (wipe env vs) with
          | none => .bad
          | some env2 => match evc cond env2 S with
            | .ok true S2 => match ev elt env2 S2 with
              | .ok y S3 => match own old y S3 with
                | .ok z S4 => .ok (some z) S4
                | _ => .bad
              | _ => .bad
            | .ok false S2 => .ok none S2
            | _ => .bad) (j.size old S1) 0 S1 with
        | .ok ys S2 => .ok (.tmp ys) S2
        | _ => .bad
      else .bad
/-- an end of a slice -/
def evo : Eo → Env → Sto → R (Option Int)
  | .no, _, S => .ok none S
  | .of e, env, S => bnd (ev e env S) fun x S1 => match x with
    | .int i => .ok (some i) S1
    | _ => .bad
/-- a comprehension's test -/
def evc : Eo → Env → Sto → R Bool
  | .no, _, S => .ok true S
  | .of e, env, S => bnd (ev e env S) fun x S1 => match truth old S1 x with
    | some b => .ok b S1
    | none => .bad
/-- items that are held -/
def evs : Es → Env → Sto → R (List D)
  | .nil, _, S => .ok [] S
  | .cons e es, env, S => bnd (ev e env S) fun x S1 => bnd (own old x S1) fun y S2 => bnd (evs es env S2) fun ys S3 => .ok (y :: ys) S3
/-- items that are only looked at -/
def evr : Es → Env → Sto → R (List D)
  | .nil, _, S => .ok [] S
  | .cons e es, env, S => bnd (ev e env S) fun x S1 => bnd (evr es env S1) fun ys S2 => .ok (x :: ys) S2
def evi : I → Env → Sto → R It
  | .seq e, env, S => bnd (ev e env S) fun x S1 => match seqOf old S1 x with
      | some _ => .ok (.seq x) S1
      | none => .bad
  | .rng1 a, env, S => bnd (ev a env S) fun x S1 => match x with
    | .int j => if decide (-4611686018427387904 ≤ j) && decide (j < 4611686018427387904) then .ok (.rng 0 1 j.toNat) S1 else .bad
    | _ => .bad
  | .rng2 a b, env, S => bnd (ev a env S) fun x S1 => bnd (ev b env S1) fun y S2 => match x, y with
    | .int i, .int j => if decide (-4611686018427387904 ≤ i) && decide (i < 4611686018427387904) && decide (-4611686018427387904 ≤ j) && decide (j < 4611686018427387904) then .ok (.rng i 1 (j - i).toNat) S2 else .bad
    | _, _ => .bad
  | .rng3 a b c, env, S => bnd (ev a env S) fun x S1 => bnd (ev b env S1) fun y S2 => bnd (ev c env S2) fun z S3 => match x, y, z with
    | .int i, .int j, .int k => if decide (k = -1) && decide (-1000000 ≤ i) && decide (i ≤ 1000000) && decide (-1000000 ≤ j) && decide (j ≤ 1000000) then .ok (.rng i (-1) (i - j).toNat) S3 else .bad
    | _, _, _ => .bad
  | .enu e, env, S => bnd (ev e env S) fun x S1 => match seqOf old S1 x with
      | some _ => .ok (.enu x) S1
      | none => .bad
  | .zip a b, env, S => bnd (ev a env S) fun x S1 => bnd (ev b env S1) fun y S2 => match seqOf old S2 x with
        | some _ => match seqOf old S2 y with
          | some _ => .ok (.zip x y) S2
          | none => .bad
        | none => .bad
end

/-- how a block ends -/
inductive O where
  | nx (env : Env) (S : Sto) | rt (d : D) (S : Sto) | bk (env : Env) (S : Sto) | ct (env : Env) (S : Sto) | exc (c : Nat) (env : Env) (S : Sto) | bad
def floop (it : It) (tg : Tg) (body : Env → Sto → O) : Nat → Nat → Env → Sto → O
  | 0, k, env, S => match it.get old S k with
    | some none => .nx env S
    | _ => .bad
  | f + 1, k, env, S => match it.get old S k with
    | none => .bad
    | some none => .nx env S
    | some (some x) => match tg.put x env with
      | none => .bad
      | some env1 => match body env1 S with
        | .nx env2 S2 => floop it tg body f (k + 1) env2 S2
        | .ct env2 S2 => floop it tg body f (k + 1) env2 S2
        | .bk env2 S2 => .nx env2 S2
        | o => o
def wloop (test : Env → Sto → R Bool) (body : Env → Sto → O) : Nat → Env → Sto → O
  | 0, _, _ => .bad
  | f + 1, env, S => match test env S with
    | .ok false S1 => .nx env S1
    | .ok true S1 => match body env S1 with
      | .nx env2 S2 => wloop test body f env2 S2
      | .ct env2 S2 => wloop test body f env2 S2
      | .bk env2 S2 => .nx env2 S2
      | o => o
    | .exc c S1 => .exc c env S1
    | .bad => .bad
def bndO {α : Type} (r : R α) (env : Env) (f : α → Sto → O) : O := match r with
  | .ok a S => f a S
  | .exc c S => .exc c env S
  | .bad => .bad
variable (fu : Nat)
mutual
def ex : T → Env → Sto → O
  | .set i e, env, S => bndO (ev cp ci old e env S) env fun x S1 => bndO (own old x S1) env fun y S2 => .nx (env.set i (some y)) S2
  | .unp is e, env, S => bndO (ev cp ci old e env S) env fun x S1 => match x with
    | .tup ds => match setAll is ds env with
      | some env2 => .nx env2 S1
      | none => .bad
    | _ => .bad
  | .put o i e, env, S => bndO (ev cp ci old e env S) env fun x S1 => bndO (own old x S1) env fun y S2 =>
      bndO (ev cp ci old o env S2) env fun p S3 => bndO (ev cp ci old i env S3) env fun j S4 => match putV old p j y S4 with
        | some S5 => .nx env S5
        | none => .bad
  | .exp e, env, S => bndO (ev cp ci old e env S) env fun _ S1 => .nx env S1
  | .ret e, env, S => bndO (ev cp ci old e env S) env fun x S1 => .rt x S1
  | .retn, env, S => .rt .non S
  | .ife c a b, env, S => bndO (ev cp ci old c env S) env fun x S1 => match truth old S1 x with
      | some k => if k = true then exs a env S1 else exs b env S1
      | none => .bad
  | .fo it tg b, env, S => bndO (evi cp ci old it env S) env fun j S1 => floop old j tg (fun env S => exs b env S) (j.size old S1) 0 env S1
  | .wh c b, env, S => wloop (fun env S => evc cp ci old (.of c) env S) (fun env S => exs b env S) fu env S
  | .aug i o e, env, S => match env[i]? with
    | some (some x) => bndO (ev cp ci old e env S) env fun y S1 => bndO (opV old o x y S1) env fun z S2 => bndO (own old z S2) env fun z S3 => .nx (env.set i (some z)) S3
    | _ => .bad
  | .rai c, env, S => .exc c env S
  | .brk, env, S => .bk env S
  | .cnt, env, S => .ct env S
  | .pas, env, S => .nx env S
  | .par is es, env, S => bndO (evs cp ci old es env S) env fun ds S1 => match setAll is ds env with
      | some env2 => .nx env2 S1
      | none => .bad
  | .putt o i o2 i2 e e2, env, S => bndO (ev cp ci old (.tup (.cons e (.cons e2 .nil))) env S) env fun x S1 => match x with
    | .tup [y, z] => bndO (ev cp ci old o env S1) env fun p S3 => bndO (ev cp ci old i env S3) env fun j S4 => match putV old p j y S4 with
        | some S5 => bndO (ev cp ci old o2 env S5) env fun p S6 => bndO (ev cp ci old i2 env S6) env fun j S7 => match putV old p j z S7 with
          | some S8 => .nx env S8
          | none => .bad
        | none => .bad
    | _ => .bad
  | .tre b i cs e, env, S => match exs b env S with
    | .exc k env2 S2 => if cs.contains k = true then (match ev cp ci old e (env2.set i (some (.exc k))) S2 with
        | .ok d _ => if scalD d = true then .rt d S2 else .bad
        | _ => .bad) else .exc k env2 S2
    | o => o
def exs : B → Env → Sto → O
  | .nil, env, S => .nx env S
  | .seq t b, env, S => match ex t env S with
    | .nx env2 S2 => exs b env2 S2
    | o => o
end
end
def fin (o : O) : R D := match o with
  | .rt d S => .ok d S
  | .nx _ S => .ok .non S
  | .exc c _ S => .exc c S
  | _ => .bad
/-- what a call that changes nothing of what stood leaves: only what is told -/
def tidy (S : Sto) (d : D) (more : Sto) : R D := match d with
  | .tmp xs => if D.pureAll xs then .ok (.tmp xs) [] else .ok (.tmp xs) more
  | .lst a => if a < S.length then .ok (.lst a) [] else match more[a - S.length]? with
    | some (.lst xs) => if D.pureAll xs then .ok (.tmp xs) [] else .ok (.lst a) more
    | _ => .bad
  | d => if d.pure then .ok d [] else .ok d more
structure Tab where
  fns : Nat → Option Fn
  fu : Nat
def start (n : Nat) (vs : List D) : Env := vs.map some ++ List.replicate (n - vs.length) none
mutual
def cI (G : Tab) : Nat → Nat → List D → Sto → Sto → R D
  | 0, _, _, _, _ => .bad
  | d + 1, f, vs, old, S => match G.fns f with
    | none => .bad
    | some fn => if Nat.beq vs.length fn.ar then fin (exs (cP G d) (cI G d) old G.fu fn.body (start fn.n vs) S) else .bad
def cP (G : Tab) : Nat → Nat → List D → Sto → R D
  | 0, _, _, _ => .bad
  | d + 1, f, vs, S => match G.fns f with
    | none => .bad
    | some fn => if Nat.beq vs.length fn.ar then
        match fin (exs (cP G d) (cI G d) S G.fu fn.body (start fn.n vs) []) with
        | .ok r more => tidy S r more
        | .exc c _ => .exc c []
        | .bad => .bad
      else .bad
end
theorem ins_map {α β : Type} (f : α → β) {le : α → α → Bool} {le2 : β → β → Bool} (h : ∀ a b, le2 (f a) (f b) = le a b) (x : α) : ∀ ys : List α, ins le2 (f x) (ys.map f) = (ins le x ys).map f
  | [] => rfl
  | y :: ys => by
    simp only [List.map_cons, ins, h]
    cases le x y with
    | true => rfl
    | false => simp only [List.map_cons, ins_map f h x ys]
theorem insS_map {α β : Type} (f : α → β) {le : α → α → Bool} {le2 : β → β → Bool} (h : ∀ a b, le2 (f a) (f b) = le a b) : ∀ ys : List α, insS le2 (ys.map f) = (insS le ys).map f
  | [] => rfl
  | y :: ys => by rw [List.map_cons, insS, insS, insS_map f h ys, ins_map f h]
end Z
/-! Z2: what the data and the store mean in the hand layer. -/
namespace Z
open PySem PySem.Spec PyProof.Rows
open L2 (V Hp HO upd upd_same upd_ne SqL SqT Rd VK TE TT TA TS Ends WX XK)

/-- what stands fast: the written part, where defs and classes are -/
structure Cg where
  K : PySem.W.Frag
  fa : Nat → Option Addr
  ca : Nat → Option Addr
  hx : Option (Addr × Nat) := none

mutual
def RD (c : Cg) (H : Hp) (m : List Addr) : D → V → Prop
  | .non, v => v = .non
  | .bl b, v => v = .bl b
  | .int i, v => v = .int i
  | .str x, v => v = .str x
  | .tup ds, v => ∃ a vs, v = .ref a ∧ SqT c.K H a vs ∧ RDs c H m ds vs
  | .lst i, v => ∃ a, m[i]? = some a ∧ v = .ref a
  | .tmp _, _ => False
  | .fn k, v => ∃ a, c.fa k = some a ∧ v = .ref a
  | .exc k, v => ∃ a, c.hx = some (a, k) ∧ v = .ref a
def RDs (c : Cg) (H : Hp) (m : List Addr) : List D → List V → Prop
  | [], vs => vs = []
  | d :: ds, vs => ∃ v r, vs = v :: r ∧ RD c H m d v ∧ RDs c H m ds r
end
/-- a value at an expression's end: H0 is the heap at its start -/
def RV (c : Cg) (H0 H : Hp) (m mn : List Addr) (d : D) (v : V) : Prop := match d with
  | .tmp xs => ∃ a vs, v = .ref a ∧ H0 a = none ∧ a ∉ mn ∧ H a = some (.lst vs) ∧ RDs c H m xs vs
  | d => RD c H m d v
structure Ext (mn : List Addr) (H : Hp) (mn' : List Addr) (H' : Hp) : Prop where
  pre : mn <+: mn'
  fresh : ∀ a ∈ mn', a ∈ mn ∨ H a = none
  keep : ∀ a o, H a = some o → a ∉ mn → H' a = some o
structure NewOk (c : Cg) (H : Hp) (m mn : List Addr) (S : Sto) : Prop where
  nd : mn.Nodup
  len : mn.length = S.length
  at_ : ∀ (i : Nat) (a : Addr), mn[i]? = some a → ∃ xs vs, S[i]? = some (.lst xs) ∧ H a = some (.lst vs) ∧ RDs c H m xs vs
/-- a list that is read, never written -/
def Frz (c : Cg) (H : Hp) (a : Addr) (vs : List V) : Prop := (∃ o, H a = some (.frz o (.lst vs))) ∨
  ∃ (o : Obj) (its : Array Value) (n : Nat), c.K.lookup a = some o ∧ o.cls = .type "list" ∧ o.dict = none ∧ o.data = .seq its n ∧ its.size ≤ sizeLine ∧ L2.Vals vs its.toList
structure OldOk (c : Cg) (H : Hp) (m mo mn : List Addr) (old : Sto) : Prop where
  len : mo.length = old.length
  at_ : ∀ (i : Nat) (a : Addr), mo[i]? = some a → (∃ xs vs, old[i]? = some (.lst xs) ∧ H a = some (.lst vs) ∧ a ∉ mn ∧ RDs c H m xs vs) ∨ ∃ xs vs, old[i]? = some (.ro xs) ∧ Frz c H a vs ∧ RDs c H m xs vs
structure EnvOk (c : Cg) (H : Hp) (m : List Addr) (env : Env) (σ : L2.St) : Prop where
  len : env.length = σ.length
  at_ : ∀ (i : Nat) (d : D), env[i]? = some (some d) → ∃ v, σ[i]? = some (some v) ∧ RD c H m d v
structure StOk (c : Cg) (H : Hp) (mo mn : List Addr) (old S : Sto) (env : Env) (σ : L2.St) : Prop where
  o : OldOk c H (mo ++ mn) mo mn old
  n : NewOk c H (mo ++ mn) mn S
  e : EnvOk c H (mo ++ mn) env σ

section
variable {c : Cg} {H H' H1 H2 H0 : Hp} {m m' mo mn mn' mn1 mn2 : List Addr} {old S S' : Sto} {env : Env} {σ : L2.St} {d : D} {v : V} {ds : List D} {vs : List V}
theorem Ext.refl : Ext mn H mn H := ⟨List.prefix_rfl, fun a h => .inl h, fun a o h _ => h⟩
theorem Ext.trans (x : Ext mn H mn1 H1) (y : Ext mn1 H1 mn2 H2) : Ext mn H mn2 H2 := by
  refine ⟨x.pre.trans y.pre, fun a h => ?_, fun a o h hn => ?_⟩
  · rcases y.fresh a h with h1 | h1
    · exact x.fresh a h1
    · by_cases ha : a ∈ mn
      · exact .inl ha
      · refine .inr ?_
        cases e : H a with
        | none => rfl
        | some o =>
          have z := x.keep a o e ha
          rw [h1] at z; cases z
  · have h1 := x.keep a o h hn
    refine y.keep a o h1 fun hm => ?_
    rcases x.fresh a hm with z | z
    · exact hn z
    · rw [z] at h; cases h
theorem NewOk.there (n : NewOk c H m mn S) {a : Addr} (h : a ∈ mn) : ∃ vs, H a = some (.lst vs) := by
  obtain ⟨i, hi⟩ := List.getElem?_of_mem h
  obtain ⟨xs, vs, _, h2, _⟩ := n.at_ i a hi
  exact ⟨vs, h2⟩
/-- tuples stay -/
theorem Ext.tup (x : Ext mn H mn' H') (n : NewOk c H m mn S) {a : Addr} {xs : List V} (h : SqT c.K H a xs) : SqT c.K H' a xs := by
  rcases h with (h | ⟨o, h⟩) | h
  · exact .inl (.inl (x.keep a _ h fun hm => by obtain ⟨vs, e⟩ := n.there hm; rw [e] at h; cases h))
  · exact .inl (.inr ⟨o, x.keep a _ h fun hm => by obtain ⟨vs, e⟩ := n.there hm; rw [e] at h; cases h⟩)
  · exact .inr h
theorem pre_app (h : mn <+: mn') : (mo ++ mn) <+: (mo ++ mn') := by
  obtain ⟨t, rfl⟩ := h
  exact ⟨t, by rw [List.append_assoc]⟩
theorem pre_get (h : m <+: m') {i : Nat} {a : Addr} (e : m[i]? = some a) : m'[i]? = some a := by
  obtain ⟨t, rfl⟩ := h
  rw [List.getElem?_append_left (by exact (List.getElem?_eq_some_iff.mp e).1)]
  exact e
mutual
theorem RD.mono (ht : ∀ a xs, SqT c.K H a xs → SqT c.K H' a xs) (hm : m <+: m') : ∀ (d : D) (v : V), RD c H m d v → RD c H' m' d v
  | .non, v, h => h
  | .bl b, v, h => h
  | .int i, v, h => h
  | .str x, v, h => h
  | .tup ds, v, h => by
    obtain ⟨a, vs, e, h1, h2⟩ := h
    exact ⟨a, vs, e, ht a vs h1, RDs.mono ht hm ds vs h2⟩
  | .lst i, v, h => by
    obtain ⟨a, e, h1⟩ := h
    exact ⟨a, pre_get hm e, h1⟩
  | .tmp _, v, h => h.elim
  | .fn k, v, h => h
  | .exc _, v, h => h
theorem RDs.mono (ht : ∀ a xs, SqT c.K H a xs → SqT c.K H' a xs) (hm : m <+: m') : ∀ (ds : List D) (vs : List V), RDs c H m ds vs → RDs c H' m' ds vs
  | [], vs, h => h
  | d :: ds, vs, h => by
    obtain ⟨v, r, e, h1, h2⟩ := h
    exact ⟨v, r, e, RD.mono ht hm d v h1, RDs.mono ht hm ds r h2⟩
end
theorem RD.ext (x : Ext mn H mn' H') (n : NewOk c H (mo ++ mn) mn S) (h : RD c H (mo ++ mn) d v) : RD c H' (mo ++ mn') d v := RD.mono (fun _ _ => x.tup n) (pre_app x.pre) d v h
theorem RDs.ext (x : Ext mn H mn' H') (n : NewOk c H (mo ++ mn) mn S) (h : RDs c H (mo ++ mn) ds vs) : RDs c H' (mo ++ mn') ds vs := RDs.mono (fun _ _ => x.tup n) (pre_app x.pre) ds vs h
theorem RDs.len : ∀ {ds : List D} {vs : List V}, RDs c H m ds vs → ds.length = vs.length
  | [], vs, h => by subst h; rfl
  | d :: ds, vs, h => by
    obtain ⟨v, r, rfl, _, h2⟩ := h
    rw [List.length_cons, List.length_cons, RDs.len h2]
theorem RDs.get : ∀ {ds : List D} {vs : List V} {i : Nat} {d : D}, RDs c H m ds vs → ds[i]? = some d → ∃ v, vs[i]? = some v ∧ RD c H m d v
  | [], vs, i, d, h, e => by simp at e
  | x :: ds, vs, 0, d, h, e => by
    obtain ⟨v, r, rfl, h1, h2⟩ := h
    simp only [List.getElem?_cons_zero, Option.some.injEq] at e
    subst e
    exact ⟨v, rfl, h1⟩
  | x :: ds, vs, i + 1, d, h, e => by
    obtain ⟨v, r, rfl, h1, h2⟩ := h
    rw [List.getElem?_cons_succ] at e
    obtain ⟨u, e1, e2⟩ := RDs.get h2 e
    exact ⟨u, by rw [List.getElem?_cons_succ]; exact e1, e2⟩
theorem RDs.getV {ds : List D} {vs : List V} {i : Nat} {v : V} (h : RDs c H m ds vs) (e : vs[i]? = some v) : ∃ d, ds[i]? = some d ∧ RD c H m d v := by
  have hl := h.len
  have hi := (List.getElem?_eq_some_iff.mp e).1
  have h2 : ds[i]? = some ds[i] := List.getElem?_eq_getElem (by omega)
  obtain ⟨u, e1, e2⟩ := h.get h2
  rw [e] at e1; cases e1
  exact ⟨_, h2, e2⟩
theorem RDs.noneV {ds : List D} {vs : List V} {i : Nat} (h : RDs c H m ds vs) (e : ds[i]? = none) : vs[i]? = none := by
  have hl := h.len
  have := List.getElem?_eq_none_iff.mp e
  exact List.getElem?_eq_none_iff.mpr (by omega)
theorem RDs.app : ∀ {ds es : List D} {vs us : List V}, RDs c H m ds vs → RDs c H m es us → RDs c H m (ds ++ es) (vs ++ us)
  | [], es, vs, us, h, h2 => by subst h; exact h2
  | d :: ds, es, vs, us, h, h2 => by
    obtain ⟨v, r, rfl, h1, h3⟩ := h
    exact ⟨v, r ++ us, rfl, h1, RDs.app h3 h2⟩
theorem RDs.one (h : RD c H m d v) : RDs c H m [d] [v] := ⟨v, [], rfl, h, rfl⟩
theorem RDs.take : ∀ {ds : List D} {vs : List V} (n : Nat), RDs c H m ds vs → RDs c H m (ds.take n) (vs.take n)
  | _, vs, 0, h => by rw [List.take_zero, List.take_zero]; rfl
  | [], vs, n + 1, h => by subst h; rfl
  | d :: ds, vs, n + 1, h => by
    obtain ⟨v, r, rfl, h1, h3⟩ := h
    exact ⟨v, r.take n, rfl, h1, RDs.take n h3⟩
theorem RDs.drop : ∀ {ds : List D} {vs : List V} (n : Nat), RDs c H m ds vs → RDs c H m (ds.drop n) (vs.drop n)
  | _, vs, 0, h => h
  | [], vs, n + 1, h => by subst h; rfl
  | d :: ds, vs, n + 1, h => by
    obtain ⟨v, r, rfl, h1, h3⟩ := h
    exact RDs.drop n h3
theorem RDs.rev : ∀ {ds : List D} {vs : List V}, RDs c H m ds vs → RDs c H m ds.reverse vs.reverse
  | [], vs, h => by subst h; rfl
  | d :: ds, vs, h => by
    obtain ⟨v, r, rfl, h1, h3⟩ := h
    rw [List.reverse_cons, List.reverse_cons]
    exact (RDs.rev h3).app (RDs.one h1)
theorem RDs.dropLast {ds : List D} {vs : List V} (h : RDs c H m ds vs) : RDs c H m ds.dropLast vs.dropLast := by
  rw [List.dropLast_eq_take, List.dropLast_eq_take, h.len]
  exact h.take _
theorem RDs.set : ∀ {ds : List D} {vs : List V} (i : Nat), RDs c H m ds vs → RD c H m d v → RDs c H m (ds.set i d) (vs.set i v)
  | [], vs, i, h, _ => by subst h; exact rfl
  | x :: ds, vs, 0, h, hd => by
    obtain ⟨u, r, rfl, h1, h3⟩ := h
    exact ⟨v, r, rfl, hd, h3⟩
  | x :: ds, vs, i + 1, h, hd => by
    obtain ⟨u, r, rfl, h1, h3⟩ := h
    exact ⟨u, r.set i v, rfl, h1, RDs.set i h3 hd⟩
theorem RDs.erase : ∀ {ds : List D} {vs : List V} (i : Nat), RDs c H m ds vs → RDs c H m (ds.eraseIdx i) (vs.eraseIdx i)
  | [], vs, i, h => by subst h; exact rfl
  | x :: ds, vs, 0, h => by
    obtain ⟨u, r, rfl, h1, h3⟩ := h
    exact h3
  | x :: ds, vs, i + 1, h => by
    obtain ⟨u, r, rfl, h1, h3⟩ := h
    exact ⟨u, r.eraseIdx i, rfl, h1, RDs.erase i h3⟩
theorem RDs.rep {ds : List D} {vs : List V} (h : RDs c H m ds vs) : ∀ k : Nat, RDs c H m (List.replicate k ds).flatten (List.replicate k vs).flatten
  | 0 => rfl
  | k + 1 => by
    rw [List.replicate_succ, List.replicate_succ, List.flatten_cons, List.flatten_cons]
    exact h.app (RDs.rep h k)
theorem RDs.of_get : ∀ {ds : List D} {vs : List V}, ds.length = vs.length → (∀ (i : Nat) (d : D) (v : V), ds[i]? = some d → vs[i]? = some v → RD c H m d v) → RDs c H m ds vs
  | [], [], _, _ => rfl
  | [], _ :: _, h, _ => by simp at h
  | _ :: _, [], h, _ => by simp at h
  | d :: ds, v :: vs, h, g => ⟨v, vs, rfl, g 0 d v rfl rfl, RDs.of_get (by simpa using h) fun i d v e1 e2 => g (i + 1) d v (by simpa using e1) (by simpa using e2)⟩
theorem RV.ext (x : Ext mn H1 mn' H') (n : NewOk c H1 (mo ++ mn) mn S) (h : RV c H0 H1 (mo ++ mn) mn d v) : RV c H0 H' (mo ++ mn') mn' d v := by
  cases d with
  | tmp xs =>
    obtain ⟨a, vs, e, h0, hn, h1, h2⟩ := h
    refine ⟨a, vs, e, h0, fun hm => ?_, x.keep a _ h1 hn, h2.ext x n⟩
    rcases x.fresh a hm with z | z
    · exact hn z
    · rw [h1] at z; cases z
  | non => exact h
  | bl _ => exact h
  | int _ => exact h
  | str _ => exact h
  | tup _ => exact RD.ext (d := .tup _) x n h
  | lst _ => exact RD.ext (d := .lst _) x n h
  | fn _ => exact h
  | exc _ => exact h
theorem RV.of (h : RD c H m d v) : RV c H0 H m mn d v := by
  cases d <;> first | exact h | exact h.elim
theorem RV.to (h : RV c H0 H m mn d v) (hd : ∀ xs, d ≠ .tmp xs) : RD c H m d v := by
  cases d <;> first | exact h | exact absurd rfl (hd _)
/-- a later start is an earlier one -/
theorem RV.back (h : RV c H1 H' m mn d v) (hb : ∀ a, H1 a = none → H0 a = none) : RV c H0 H' m mn d v := by
  cases d with
  | tmp xs =>
    obtain ⟨a, vs, e, h0, hn, h1, h2⟩ := h
    exact ⟨a, vs, e, hb a h0, hn, h1, h2⟩
  | _ => exact h
/-- what is free now was free -/
theorem Ext.free (x : Ext mn H mn' H') (n : NewOk c H' m' mn' S') {a : Addr} (h : H' a = none) : H a = none := by
  cases e : H a with
  | none => rfl
  | some o =>
    by_cases hm : a ∈ mn
    · obtain ⟨t, ht⟩ := x.pre
      obtain ⟨vs, z⟩ := n.there (a := a) (by rw [← ht]; exact List.mem_append_left _ hm)
      rw [h] at z; cases z
    · have z := x.keep a o e hm
      rw [h] at z; cases z
theorem OldOk.ext (x : Ext mn H mn' H') (n : NewOk c H (mo ++ mn) mn S) (o : OldOk c H (mo ++ mn) mo mn old) : OldOk c H' (mo ++ mn') mo mn' old := by
  refine ⟨o.len, fun i a e => ?_⟩
  rcases o.at_ i a e with ⟨xs, vs, h1, h2, h3, h4⟩ | ⟨xs, vs, h1, h2, h3⟩
  · refine .inl ⟨xs, vs, h1, x.keep a _ h2 h3, fun hm => ?_, h4.ext x n⟩
    rcases x.fresh a hm with z | z
    · exact h3 z
    · rw [h2] at z; cases z
  · refine .inr ⟨xs, vs, h1, ?_, h3.ext x n⟩
    rcases h2 with ⟨ob, h2⟩ | h2
    · exact .inl ⟨ob, x.keep a _ h2 fun hm => by obtain ⟨us, e⟩ := n.there hm; rw [e] at h2; cases h2⟩
    · exact .inr h2
theorem EnvOk.ext (x : Ext mn H mn' H') (n : NewOk c H (mo ++ mn) mn S) (o : EnvOk c H (mo ++ mn) env σ) : EnvOk c H' (mo ++ mn') env σ :=
  ⟨o.len, fun i d e => let ⟨v, h1, h2⟩ := o.at_ i d e; ⟨v, h1, h2.ext x n⟩⟩
theorem StOk.ext (x : Ext mn H mn' H') (s : StOk c H mo mn old S env σ) (n' : NewOk c H' (mo ++ mn') mn' S') : StOk c H' mo mn' old S' env σ := ⟨s.o.ext x s.n, n', s.e.ext x s.n⟩
theorem EnvOk.set (o : EnvOk c H m env σ) (h : RD c H m d v) (i : Nat) : EnvOk c H m (env.set i (some d)) (σ.set i (some v)) := by
  refine ⟨by rw [List.length_set, List.length_set]; exact o.len, fun j e hj => ?_⟩
  rw [List.getElem?_set] at hj
  rw [List.getElem?_set]
  by_cases hij : i = j
  · rw [if_pos hij] at hj
    rw [if_pos hij]
    by_cases hl : i < env.length
    · rw [if_pos hl] at hj
      rw [if_pos (by rw [← o.len]; exact hl)]
      simp only [Option.some.injEq] at hj
      subst hj
      exact ⟨v, rfl, h⟩
    · rw [if_neg hl] at hj; cases hj
  · rw [if_neg hij] at hj
    rw [if_neg hij]
    exact o.at_ j e hj
theorem EnvOk.wipe (o : EnvOk c H m env σ) : ∀ own : List Nat, EnvOk c H m (Z.wipe env own) (L2.wipe σ own)
  | [] => o
  | i :: is => by
    have ih := EnvOk.wipe o is
    refine ⟨?_, fun j e hj => ?_⟩
    · show ((Z.wipe env is).set i none).length = ((L2.wipe σ is).set i none).length
      rw [List.length_set, List.length_set]; exact ih.len
    · have hj' : ((Z.wipe env is).set i none)[j]? = some (some e) := hj
      rw [List.getElem?_set] at hj'
      show ∃ v, ((L2.wipe σ is).set i none)[j]? = some (some v) ∧ _
      rw [List.getElem?_set]
      by_cases hij : i = j
      · rw [if_pos hij] at hj'
        by_cases hl : i < (Z.wipe env is).length
        · rw [if_pos hl] at hj'; cases hj'
        · rw [if_neg hl] at hj'; cases hj'
      · rw [if_neg hij] at hj'
        rw [if_neg hij]
        exact ih.at_ j e hj'
end
end Z

namespace Z
open PySem PySem.Spec PyProof.Rows
open L2 (V Hp HO upd upd_same upd_ne SqL SqT Rd VK TE TT TA TS Ends WX XK)
section
variable {c : Cg} {H H' H1 H2 H0 : Hp} {m m' mo mn mn' mn1 mn2 : List Addr} {old S S' : Sto} {env : Env} {σ : L2.St} {d : D} {v : V} {ds : List D} {vs : List V}
/-- the store as one -/
structure S0 (c : Cg) (H : Hp) (mo mn : List Addr) (old S : Sto) : Prop where
  o : OldOk c H (mo ++ mn) mo mn old
  n : NewOk c H (mo ++ mn) mn S
theorem StOk.s (s : StOk c H mo mn old S env σ) : S0 c H mo mn old S := ⟨s.o, s.n⟩
theorem S0.ext (x : Ext mn H mn' H') (s : S0 c H mo mn old S) (n' : NewOk c H' (mo ++ mn') mn' S') : S0 c H' mo mn' old S' := ⟨s.o.ext x s.n, n'⟩
theorem Frz.sq {a : Addr} (h : Frz c H a vs) : SqL c.K H a vs := by
  rcases h with ⟨o, h⟩ | h
  · exact .inl (.inr ⟨o, h⟩)
  · exact .inr h
/-- what a cell's place holds -/
theorem S0.cell (s : S0 c H mo mn old S) {i : Nat} {ce : Cell} (e : at_ old S i = some ce) : ∃ a vs, (mo ++ mn)[i]? = some a ∧ RDs c H (mo ++ mn) ce.xs vs ∧
    ((ce = .lst ce.xs ∧ H a = some (.lst vs)) ∨ (ce = .ro ce.xs ∧ Frz c H a vs)) := by
  unfold at_ at e
  by_cases hi : i < old.length
  · rw [List.getElem?_append_left hi] at e
    have hm : i < mo.length := by rw [s.o.len]; exact hi
    have h1 : mo[i]? = some mo[i] := List.getElem?_eq_getElem hm
    have h2 : (mo ++ mn)[i]? = some mo[i] := by rw [List.getElem?_append_left hm]; exact h1
    rcases s.o.at_ i _ h1 with ⟨xs, vs, e1, e2, _, e4⟩ | ⟨xs, vs, e1, e2, e4⟩
    · rw [e] at e1; cases e1
      exact ⟨_, vs, h2, e4, .inl ⟨rfl, e2⟩⟩
    · rw [e] at e1; cases e1
      exact ⟨_, vs, h2, e4, .inr ⟨rfl, e2⟩⟩
  · rw [List.getElem?_append_right (by omega)] at e
    have hl := s.n.len
    have hs := (List.getElem?_eq_some_iff.mp e).1
    have hm : i - mo.length < mn.length := by rw [hl, s.o.len]; exact hs
    have h1 : mn[i - mo.length]? = some mn[i - mo.length] := List.getElem?_eq_getElem hm
    have h2 : (mo ++ mn)[i]? = some mn[i - mo.length] := by
      rw [List.getElem?_append_right (by rw [s.o.len]; omega)]; exact h1
    obtain ⟨xs, vs, e1, e2, e3⟩ := s.n.at_ _ _ h1
    rw [s.o.len] at e1
    rw [e] at e1; cases e1
    exact ⟨_, vs, h2, e3, .inl ⟨rfl, e2⟩⟩
/-- reading a list -/
theorem RV.lstRo (s : S0 c H mo mn old S) (r : RV c H0 H (mo ++ mn) mn d v) (e : lstRo old S d = some ds) : ∃ a vs, v = .ref a ∧ SqL c.K H a vs ∧ RDs c H (mo ++ mn) ds vs ∧ ((H a = some (.lst vs)) ∨ ∃ o, H a = some (.frz o (.lst vs)) ∨ ∃ o', c.K.lookup a = some o' ∧ o'.cls = .type "list") := by
  cases d with
  | tmp xs =>
    obtain ⟨a, vs, rfl, _, _, h1, h2⟩ := r
    simp only [Z.lstRo, Option.some.injEq] at e
    subst e
    exact ⟨a, vs, rfl, .inl (.inl h1), h2, .inl h1⟩
  | lst i =>
    obtain ⟨a, ha, rfl⟩ := r
    simp only [Z.lstRo] at e
    obtain ⟨ce, e1, e2⟩ := Option.map_eq_some_iff.mp e
    subst e2
    obtain ⟨b, vs, hb, h1, h2⟩ := s.cell e1
    rw [ha] at hb; cases hb
    rcases h2 with ⟨_, h2⟩ | ⟨_, h2⟩
    · exact ⟨a, vs, rfl, .inl (.inl h2), h1, .inl h2⟩
    · refine ⟨a, vs, rfl, h2.sq, h1, .inr ?_⟩
      rcases h2 with ⟨o, h2⟩ | ⟨o, _, _, h2, h3, _⟩
      · exact ⟨o, .inl h2⟩
      · exact ⟨o, .inr ⟨o, h2, h3⟩⟩
  | non => cases e
  | bl _ => cases e
  | int _ => cases e
  | str _ => cases e
  | tup _ => cases e
  | fn _ => cases e
  | exc _ => cases e
/-- a list proper -/
theorem RV.lstOf (s : S0 c H mo mn old S) (r : RV c H0 H (mo ++ mn) mn d v) (e : lstOf old S d = some ds) : ∃ a vs, v = .ref a ∧ H a = some (.lst vs) ∧ RDs c H (mo ++ mn) ds vs := by
  cases d with
  | tmp xs =>
    obtain ⟨a, vs, rfl, _, _, h1, h2⟩ := r
    simp only [Z.lstOf, Option.some.injEq] at e
    subst e
    exact ⟨a, vs, rfl, h1, h2⟩
  | lst i =>
    obtain ⟨a, ha, rfl⟩ := r
    simp only [Z.lstOf] at e
    cases e1 : Z.at_ old S i with
    | none => rw [e1] at e; cases e
    | some ce =>
      rw [e1] at e
      cases ce with
      | ro xs => cases e
      | lst xs =>
        simp only [Option.some.injEq] at e
        subst e
        obtain ⟨b, vs, hb, h1, h2⟩ := s.cell e1
        rw [ha] at hb; cases hb
        rcases h2 with ⟨_, h2⟩ | ⟨h2, _⟩
        · exact ⟨a, vs, rfl, h2, h1⟩
        · cases h2
  | non => cases e
  | bl _ => cases e
  | int _ => cases e
  | str _ => cases e
  | tup _ => cases e
  | fn _ => cases e
  | exc _ => cases e
theorem RV.seqOf (s : S0 c H mo mn old S) (r : RV c H0 H (mo ++ mn) mn d v) (e : seqOf old S d = some ds) : ∃ a vs, v = .ref a ∧ RDs c H (mo ++ mn) ds vs ∧
    ((SqL c.K H a vs ∧ Z.lstRo old S d = some ds) ∨ (SqT c.K H a vs ∧ d = .tup ds)) := by
  cases d with
  | tup xs =>
    obtain ⟨a, vs, rfl, h1, h2⟩ := r
    simp only [Z.seqOf, Option.some.injEq] at e
    subst e
    exact ⟨a, vs, rfl, h2, .inr ⟨h1, rfl⟩⟩
  | tmp xs =>
    obtain ⟨a, vs, h1, h2, h3, _⟩ := r.lstRo s e
    exact ⟨a, vs, h1, h3, .inl ⟨h2, e⟩⟩
  | lst i =>
    obtain ⟨a, vs, h1, h2, h3, _⟩ := r.lstRo s e
    exact ⟨a, vs, h1, h3, .inl ⟨h2, e⟩⟩
  | non => cases e
  | bl _ => cases e
  | int _ => cases e
  | str _ => cases e
  | fn _ => cases e
  | exc _ => cases e
/-- a new untracked-by-the-store thing is laid -/
theorem Ext.new {p : Addr} {o : HO} (hp : H p = none) : Ext mn H mn (upd H p o) := ⟨List.prefix_rfl, fun a h => .inl h, fun a u h _ => by
  rw [upd_ne (L2.ne_of_none h hp)]; exact h⟩
theorem NewOk.ext (x : Ext mn H mn H') (n : NewOk c H (mo ++ mn) mn S) (hk : ∀ a, a ∈ mn → H' a = H a) : NewOk c H' (mo ++ mn) mn S := by
  refine ⟨n.nd, n.len, fun i a e => ?_⟩
  obtain ⟨xs, vs, h1, h2, h3⟩ := n.at_ i a e
  exact ⟨xs, vs, h1, by rw [hk a (List.mem_of_getElem? e)]; exact h2, h3.ext x n⟩
theorem NewOk.new {p : Addr} {o : HO} (n : NewOk c H (mo ++ mn) mn S) (hp : H p = none) : NewOk c (upd H p o) (mo ++ mn) mn S := by
  refine n.ext (Ext.new hp) fun a ha => ?_
  obtain ⟨vs, e⟩ := n.there ha
  exact upd_ne (L2.ne_of_none e hp)
/-- a list just made is held -/
theorem own_ok {mn0 : List Addr} (s : S0 c H mo mn old S) (r : RV c H0 H (mo ++ mn) mn d v) (o0 : OldOk c H0 (mo ++ mn0) mo mn0 old) :
    ∃ y S', own old d S = .ok y S' ∧ ∃ mn', (mn <+: mn') ∧ (∀ a ∈ mn', a ∈ mn ∨ H0 a = none) ∧ S0 c H mo mn' old S' ∧ RD c H (mo ++ mn') y v ∧ (∀ xs, y ≠ .tmp xs) := by
  cases d with
  | tmp xs =>
    obtain ⟨a, vs, rfl, h0, hn, h1, h2⟩ := r
    refine ⟨_, _, rfl, mn ++ [a], ⟨[a], rfl⟩, fun b hb => ?_, ⟨⟨s.o.len, fun i b e => ?_⟩, ⟨?_, ?_, fun i b e => ?_⟩⟩, ⟨a, ?_, rfl⟩, fun xs z => by cases z⟩
    · rcases List.mem_append.mp hb with hb | hb
      · exact .inl hb
      · rw [List.mem_singleton.mp hb]; exact .inr h0
    · have hp : (mo ++ mn) <+: (mo ++ (mn ++ [a])) := pre_app ⟨[a], rfl⟩
      rcases s.o.at_ i b e with ⟨xs, us, e1, e2, e3, e4⟩ | ⟨xs, us, e1, e2, e4⟩
      · by_cases hba : b = a
        · exfalso
          subst hba
          rcases o0.at_ i b e with ⟨ys, ws, f1, f2, _, _⟩ | ⟨ys, ws, f1, _, _⟩
          · rw [h0] at f2; cases f2
          · rw [e1] at f1; cases f1
        · refine .inl ⟨xs, us, e1, e2, fun hm => ?_, e4.mono (fun _ _ q => q) hp⟩
          rcases List.mem_append.mp hm with hm | hm
          · exact e3 hm
          · exact hba (List.mem_singleton.mp hm)
      · exact .inr ⟨xs, us, e1, e2, e4.mono (fun _ _ q => q) hp⟩
    · exact List.nodup_append.mpr ⟨s.n.nd, by simp, fun x hx y hy => by rw [List.mem_singleton.mp hy]; intro z; subst z; exact hn hx⟩
    · rw [List.length_append, List.length_append, s.n.len]; rfl
    · have hp : (mo ++ mn) <+: (mo ++ (mn ++ [a])) := pre_app ⟨[a], rfl⟩
      by_cases hi : i < mn.length
      · rw [List.getElem?_append_left hi] at e
        obtain ⟨ys, us, e1, e2, e3⟩ := s.n.at_ i b e
        refine ⟨ys, us, ?_, e2, e3.mono (fun _ _ q => q) hp⟩
        rw [List.getElem?_append_left (by rw [← s.n.len]; exact hi)]; exact e1
      · rw [List.getElem?_append_right (by omega)] at e
        have hi2 : i - mn.length = 0 := by
          have := (List.getElem?_eq_some_iff.mp e).1
          simp at this; omega
        rw [hi2] at e
        simp only [List.getElem?_cons_zero, Option.some.injEq] at e
        subst e
        refine ⟨xs, vs, ?_, h1, h2.mono (fun _ _ q => q) hp⟩
        rw [List.getElem?_append_right (by rw [← s.n.len]; omega)]
        have : i - S.length = 0 := by rw [← s.n.len]; exact hi2
        rw [this]; rfl
    · rw [List.getElem?_append_right (by rw [s.o.len]; omega), s.o.len]
      rw [List.getElem?_append_right (by rw [s.n.len]; omega), s.n.len]
      have : old.length + S.length - old.length - S.length = 0 := by omega
      rw [this]; rfl
  | _ => exact ⟨_, _, rfl, mn, List.prefix_rfl, fun a h => .inl h, s, r, fun xs z => by cases z⟩
end
end Z

namespace Z
open PySem PySem.Spec PyProof.Rows
open L2 (V Hp HO upd upd_same upd_ne SqL SqT Rd VK TE TT TA TS Ends WX XK)
/-! ### what an evaluation's end asks -/
section
variable {c : Cg} {α β γ : Type}
/-- from (H, mn): what is wanted of a value (related by rel) behind r; what of an exception, at the slots σ -/
def Wr (c : Cg) (mo : List Addr) (W : WX) (σ : L2.St) (rel : Hp → List Addr → α → β → Prop) (H : Hp) (mn : List Addr) (r : R α) (Q : β → Hp → Prop) : Prop := match r with
  | .ok d S' => ∀ mn' H' v, Ext mn H mn' H' → NewOk c H' (mo ++ mn') mn' S' → rel H' mn' d v → Q v H'
  | .exc x S' => ∀ mn' H' C, Ext mn H mn' H' → NewOk c H' (mo ++ mn') mn' S' → c.ca x = some C → W (.ref C) none σ H'
  | .bad => False
theorem Wr.later {mo mn mn1 : List Addr} {W : WX} {σ : L2.St} {rel rel1 : Hp → List Addr → α → β → Prop} {H H1 : Hp} {r : R α} {Q : β → Hp → Prop} (x : Ext mn H mn1 H1) (h : Wr c mo W σ rel H mn r Q)
    (hr : ∀ H' mn' d v, rel1 H' mn' d v → rel H' mn' d v) : Wr c mo W σ rel1 H1 mn1 r Q := by
  cases r with
  | ok d S' => exact fun mn' H' v x' n' r' => h mn' H' v (x.trans x') n' (hr _ _ _ _ r')
  | exc y S' => exact fun mn' H' C x' n' r' => h mn' H' C (x.trans x') n' r'
  | bad => exact h
def relD (c : Cg) (mo : List Addr) (H0 : Hp) : Hp → List Addr → D → V → Prop := fun H' mn' d v => RV c H0 H' (mo ++ mn') mn' d v
theorem Wr.laterD {mo mn mn1 : List Addr} {W : WX} {σ : L2.St} {H H1 : Hp} {r : R D} {Q : V → Hp → Prop} {S : Sto} (x : Ext mn H mn1 H1) (n : NewOk c H1 (mo ++ mn1) mn1 S) (h : Wr c mo W σ (relD c mo H) H mn r Q) :
    Wr c mo W σ (relD c mo H1) H1 mn1 r Q := h.later x fun _ _ _ _ q => RV.back q fun _ => x.free n
/-- held items; looked at items; a part; a test -/
def relS (c : Cg) (mo : List Addr) : Hp → List Addr → List D → List V → Prop := fun H' mn' d v => RDs c H' (mo ++ mn') d v
inductive RVs (c : Cg) (H0 H : Hp) (m mn : List Addr) : List D → List V → Prop where
  | nil : RVs c H0 H m mn [] []
  | cons {d v ds vs} : RV c H0 H m mn d v → RVs c H0 H m mn ds vs → RVs c H0 H m mn (d :: ds) (v :: vs)
def relR (c : Cg) (mo : List Addr) (H0 : Hp) : Hp → List Addr → List D → List V → Prop := fun H' mn' d v => RVs c H0 H' (mo ++ mn') mn' d v
def relE (β : Type) : Hp → List Addr → β → β → Prop := fun _ _ d v => d = v
end
/-! ### the readings that the evaluation gives -/
section
variable (c : Cg) (W : WX) (cp : Nat → List D → Sto → R D) (ci : Nat → List D → Sto → Sto → R D) (fu : Nat)
def den (e : E) : TE := fun σ H Q => ∃ old mo mn env S, StOk c H mo mn old S env σ ∧ Wr c mo W σ (relD c mo H) H mn (ev cp ci old e env S) Q
/-- as a test -/
def denT (e : E) : TT := fun σ H Q => ∃ old mo mn env S, StOk c H mo mn old S env σ ∧ Wr c mo W σ (relE Bool) H mn (evc cp ci old (.of e) env S) Q
def denS (es : Es) : TA := fun σ H Q => ∃ old mo mn env S, StOk c H mo mn old S env σ ∧ Wr c mo W σ (relS c mo) H mn (evs cp ci old es env S) Q
def denR (es : Es) : TA := fun σ H Q => ∃ old mo mn env S, StOk c H mo mn old S env σ ∧ Wr c mo W σ (relR c mo H) H mn (evr cp ci old es env S) Q
def denO (e : Eo) : L2.TO := fun σ H Q => ∃ old mo mn env S, StOk c H mo mn old S env σ ∧ Wr c mo W σ (relE (Option Int)) H mn (evo cp ci old e env S) Q
end
section
variable {X : L2.Cx} {e : Expr} {es : List Expr} {t t' : TE} {a a' : TA} {tt tt' : TT}
theorem pe_imp (h : L2.PE X e t) (hi : ∀ σ H Q, t' σ H Q → t σ H Q) : L2.PE X e t' := ⟨fun pins s σ H Q I w => h.run pins s σ H Q I (hi σ H Q w)⟩
theorem pt_imp (h : L2.PT X e tt) (hi : ∀ σ H Q, tt' σ H Q → tt σ H Q) : L2.PT X e tt' := ⟨fun pins s σ H Q I w => h.run pins s σ H Q I (hi σ H Q w)⟩
theorem pa_imp (h : L2.PA X es a) (hi : ∀ σ H Q, a' σ H Q → a σ H Q) : L2.PA X es a' := ⟨fun pos pins s σ H Q I w => h.run pos pins s σ H Q I (hi σ H Q w)⟩
end
end Z
/-! ZT: tuple * 1, tuple * 0. -/
namespace L2
open PySem PySem.Spec PyProof.Rows
theorem tuple_mulW1 (l : Addr) (items : Array Value) (n : Nat) (dd : Option Addr) (sl : Array (Option Value)) (u : Tok) :
    Meets (Builtin.«tuple.__mul__» ⟨[.ref l, .int 1 u], []⟩) (fun _ R s => s.heap.get? l = some { cls := .type "tuple", dict := dd, data := .seq items n, slots := sl } ∧ R (.ok (.ret (Value.ref l))) s) :=
  .of_wp fun prog w A R s h => by
    obtain ⟨hp, g, d, tk, os⟩ := s
    obtain ⟨hl, h⟩ := h
    have f1 := AutoSeq1.idx_int
    wp_walk using wpAny_loadPart' hl
    exact ⟨_, rfl, h⟩
theorem tuple_mulW0 (l : Addr) (items : Array Value) (n : Nat) (dd : Option Addr) (sl : Array (Option Value)) (u : Tok) (hi : items.isEmpty = false) :
    Meets (Builtin.«tuple.__mul__» ⟨[.ref l, .int 0 u], []⟩) (fun _ R s => s.heap.get? l = some { cls := .type "tuple", dict := dd, data := .seq items n, slots := sl } ∧
      R (.ok (.ret (Value.ref s.heap.objs.size))) { s with heap := s.heap.push { cls := Value.type "tuple", data := Data.seq #[] }, toks := s.toks }) :=
  .of_wp fun prog w A R s h => by
    obtain ⟨hp, g, d, tk, os⟩ := s
    obtain ⟨hl, h⟩ := h
    have f1 := AutoSeq1.idx_int
    have c1 : (items.isEmpty || (0 : Int) == 1) = false := by rw [hi]; rfl
    wp_walk using wpAny_loadPart' hl
    repeat (first
      | (refine wpAny_ite_false (decide_eq_false (by rw [c1]; exact Bool.false_ne_true)) ?_; wp_walk using wpAny_loadPart' hl))
    exact ⟨_, rfl, h⟩
section
variable {X : Cx}
def rRepT1 (K : PySem.W.Frag) : R2 := fun x y H Q => ∃ l xs, x = .ref l ∧ y = .int 1 ∧ SqT K H l xs ∧ Q (.ref l) H
def rRepT0 (K : PySem.W.Frag) : R2 := fun x y H Q => ∃ l xs, x = .ref l ∧ y = .int 0 ∧ SqT K H l xs ∧ xs ≠ [] ∧ ∀ p, H p = none → Q (.ref p) (upd H p (.tup []))
theorem op_repT1 : OpR X (binaryOp .Mult) (rRepT1 X.K) := by
  intro pins s σ H x y v u Q I rx ry h
  obtain ⟨l, xs, rfl, rfl, hT, q⟩ := h
  cases rx
  obtain ⟨t, rfl⟩ := ry
  obtain ⟨its, r, ⟨⟨cls, dd, data, sl⟩, ho, hc, n, hd⟩, hs⟩ := I.tuple hT
  simp only at hc hd
  subst hc hd
  refine wpAny_binaryOp_repeat_ref (T := "tuple") (U := "int") (by decide) ⟨_, ho, rfl⟩ (fun s' => typeIs_int s' 1 t) noFill_tuple_mul F.fills_int_mul F.slot_int_rmul repeat_tuple F.slot_int_index.lookup
    (call_meets F.slot_int_rmul (typeIs_int s 1 t) F.entry_int_rmul (F.args_int_rmul_2 _ _) (int_rmul_tuple 1 t l its.toArray n dd sl)
      ⟨ho, rfl, ⟨_, ho, rfl⟩, call_meets F.slot_tuple_mul ⟨_, ho, rfl⟩ F.entry_tuple_mul (F.args_tuple_mul_2 _ _) (tuple_mulW1 l its.toArray n dd sl t) ⟨ho, ?_⟩⟩)
  exact ⟨.ref l, H, I, rfl, q⟩
theorem op_repT0 : OpR X (binaryOp .Mult) (rRepT0 X.K) := by
  intro pins s σ H x y v u Q I rx ry h
  obtain ⟨l, xs, rfl, rfl, hT, hne, q⟩ := h
  cases rx
  obtain ⟨t, rfl⟩ := ry
  obtain ⟨its, r, ⟨⟨cls, dd, data, sl⟩, ho, hc, n, hd⟩, hs⟩ := I.tuple hT
  simp only at hc hd
  subst hc hd
  have hle : its.length = xs.length := r.length.symm
  have hi : its.toArray.isEmpty = false := by
    cases its with
    | nil => exact absurd (List.eq_nil_of_length_eq_zero hle.symm) hne
    | cons a b => rfl
  refine wpAny_binaryOp_repeat_ref (T := "tuple") (U := "int") (by decide) ⟨_, ho, rfl⟩ (fun s' => typeIs_int s' 0 t) noFill_tuple_mul F.fills_int_mul F.slot_int_rmul repeat_tuple F.slot_int_index.lookup
    (call_meets F.slot_int_rmul (typeIs_int s 0 t) F.entry_int_rmul (F.args_int_rmul_2 _ _) (int_rmul_tuple 0 t l its.toArray n dd sl)
      ⟨ho, rfl, ⟨_, ho, rfl⟩, call_meets F.slot_tuple_mul ⟨_, ho, rfl⟩ F.entry_tuple_mul (F.args_tuple_mul_2 _ _) (tuple_mulW0 l its.toArray n dd sl t hi) ⟨ho, ?_⟩⟩)
  refine ⟨.ref s.heap.objs.size, _, I.laid (t' := s.toks) (o := .tup []) (fun b ob q => Heap.get?_push_of_some _ q) (Nat.le_refl _) ?_, rfl, q _ (I.hok.fresh (Nat.le_refl _))⟩
  exact ⟨Nat.zero_le _, _, .nil, IsTup.new _ _⟩
end
end L2
/-! ZM: zip of two things, each a list or a tuple. -/
namespace Z
open PySem PySem.Spec PyProof.Rows L2
section
variable {prog : Program} {w : World} {A : Around} {E : Value → Shared → Prop} {s : Shared} {K : PySem.W.Frag} {H : Hp}
/-- a list (false) or a tuple (true), tracked -/
def SqB (K : PySem.W.Frag) (t : Bool) (H : Hp) (a : Addr) (xs : List V) : Prop := match t with
  | true => SqT K H a xs
  | false => SqL K H a xs
def ThB (t : Bool) (h : Heap) (l : Addr) (zs : Array Value) : Prop := match t with
  | true => h.IsTuple l zs
  | false => h.IsList l zs
def WkB (t : Bool) (h : Heap) (i l : Addr) (k : Nat) : Prop := match t with
  | true => h.IsTupleIter i l k
  | false => h.IsListIter i l k
abbrev itcB (t : Bool) : String := match t with
  | true => "tuple_iterator"
  | false => "list_iterator"
theorem ThB.but {t : Bool} {h h' : Heap} {b l : Addr} {zs : Array Value} (x : ThB t h l zs) (q : Heap.ExtBut b h h') (n : l ≠ b) : ThB t h' l zs := by
  cases t with
  | true => exact Heap.IsTuple.extBut x q n
  | false => exact Heap.IsList.extBut x q n
theorem WkB.but {t : Bool} {h h' : Heap} {b i l : Addr} {k : Nat} (x : WkB t h i l k) (q : Heap.ExtBut b h h') (n : i ≠ b) : WkB t h' i l k := by
  cases t with
  | true => exact Heap.IsTupleIter.extBut x q n
  | false => exact Heap.IsListIter.extBut x q n
theorem WkB.to {t : Bool} {h h' : Heap} {i l : Addr} {k : Nat} (x : WkB t h i l k) (e : ∀ o, h.get? i = some o → h'.get? i = some o) : WkB t h' i l k := by
  cases t with
  | true => exact Heap.IsTupleIter.at x e
  | false => exact Heap.IsListIter.at x e
theorem WkB.obj {t : Bool} {h : Heap} {i l : Addr} {k : Nat} (x : WkB t h i l k) : ∃ o, h.get? i = some o ∧ ∀ v, o.data ≠ .seq v := by
  cases t with
  | true => obtain ⟨o, e, _, d⟩ := x; exact ⟨o, e, fun v q => by rw [d] at q; cases q⟩
  | false => obtain ⟨o, e, _, d⟩ := x; exact ⟨o, e, fun v q => by rw [d] at q; cases q⟩
theorem WkB.lt {t : Bool} {h : Heap} {i l : Addr} {k : Nat} (x : WkB t h i l k) : i < h.objs.size := by
  obtain ⟨o, e, _⟩ := x.obj
  exact Heap.lt_size e
theorem ThB.lt {t : Bool} {h : Heap} {l : Addr} {zs : Array Value} (x : ThB t h l zs) : l < h.objs.size := by
  cases t with
  | true => obtain ⟨o, e, _⟩ := id (show h.IsTuple l zs from x); exact Heap.lt_size e
  | false => obtain ⟨o, e, _⟩ := id (show h.IsList l zs from x); exact Heap.lt_size e
theorem nextB_item {t : Bool} {i l : Addr} {k : Nat} {zs : Array Value} {x : Value} {Q : Value → Shared → Prop} (a : WkB t s.heap i l k) (b : ThB t s.heap l zs) (hx : zs[k]? = some x)
    (hQ : ∀ h', WkB t h' i l (k + 1) → Heap.SameBut i s.heap h' → Q x { s with heap := h' }) : wpAny (model prog w) A (Builtin.SmallTypes.nextOf (.ref i)) Q E s := by
  cases t with
  | true => exact RZ.nextOf_tuple_item a b hx hQ
  | false => exact wpAny_nextOf_list_item a b hx hQ
theorem nextB_end {t : Bool} {i l : Addr} {k : Nat} {zs : Array Value} {Q : Value → Shared → Prop} (hh : A.handled = none) (a : WkB t s.heap i l k) (b : ThB t s.heap l zs) (hx : zs[k]? = none)
    (hE : ∀ h' e, Heap.ExtBut i s.heap h' → (∃ o, h'.get? e = some o ∧ o.cls = .type "StopIteration") → E (.ref e) { s with heap := h' }) : wpAny (model prog w) A (Builtin.SmallTypes.nextOf (.ref i)) Q E s := by
  cases t with
  | true => exact RZ.nextOf_tuple_end hh a b hx hE
  | false => exact wpAny_nextOf_list_end hh a b hx hE
/-- what both turns of a zip share: its pair is taken out, and held -/
theorem zipB_item {t u : Bool} {z TI TO i j l m : Addr} {k n : Nat} {xs ys : Array Value} {x y a b : Value} {Q : Value → Shared → Prop} (D : ZipApart z TI TO i j l m)
    (hz : IsZip s.heap z TI TO .none) (hI : IsPair s.heap TI (.ref i) (.ref j)) (hO : IsPair s.heap TO a b)
    (w1 : WkB t s.heap i l k) (w2 : WkB u s.heap j m n) (t1 : ThB t s.heap l xs) (t2 : ThB u s.heap m ys) (hx : xs[k]? = some x) (hy : ys[n]? = some y)
    (hQ : ∀ h', IsZip h' z TI TO (rawInt s.heap.objs.size) → IsPair h' TO x y → WkB t h' i l (k + 1) → WkB u h' j m (n + 1) → IsPair h' s.heap.objs.size x y → h'.objs.size = s.heap.objs.size + 1 →
      (∀ c o, c ≠ z → c ≠ TO → c ≠ i → c ≠ j → s.heap.get? c = some o → h'.get? c = some o) → Q (.ref s.heap.objs.size) { s with heap := h' }) :
    wpAny (model prog w) A (Builtin.«zip.__next__» ⟨[.ref z], []⟩) (fun f s' => ∃ v, f = .done (.ret v) ∧ Q v s') E s := by
  show wpAny _ _ (field (.ref z) 2 >>= _) _ _ _
  refine wpAny_bind (wpAny_field hz rfl (x := .bool false) rfl ?_)
  show wpAny _ _ (field (.ref z) 3 >>= _) _ _ _
  refine wpAny_bind (wpAny_field hz rfl (x := .ref TI) rfl (wpAny_bind (wpAny_seqItems hI rfl ?_)))
  show wpAny _ _ (Builtin.SmallTypes.ownedTupleIsFree (.ref z) >>= _) _ _ _
  unfold Builtin.SmallTypes.ownedTupleIsFree
  refine wpAny_bind (wpAny_bind (wpAny_field hz rfl (x := .none) rfl (wpAny_pure ?_)))
  simp only [if_true]
  refine wpAny_bind (wpAny_rule (wpAny_bind (wpAny_field hz rfl (x := .ref TO) rfl ?_)))
  refine wpAny_bind (wpAny_setField_rec hz (by simp) fun a1 hz1 c1 => ?_)
  replace hz1 : IsZip a1 z TI TO .ellipsis := hz1
  refine wpAny_bind ?_
  simp only [List.zipIdx_cons, List.zipIdx_nil, List.forIn_cons, List.forIn_nil]
  -- the first one
  refine wpAny_bind (wpAny_bind (wpAny_onRaise ?_))
  show wpAny _ _ (Builtin.SmallTypes.nextOf (.ref i) >>= _) _ _ _
  refine wpAny_bind (nextB_item (s := { s with heap := a1 }) (w1.but c1.extBut D.i1z) (t1.but c1.extBut D.l1z) hx fun a2 w1a c2 => wpAny_pure ?_)
  have hO2 : IsPair a2 TO a b := c2.extBut _ _ D.TOi1 (c1.extBut _ _ D.TOz hO)
  refine wpAny_bind (wpAny_seqItems hO2 rfl (wpAny_bind (wpAny_updateSeq_pair hO2 fun a3 hO3 c3 => ?_)))
  replace hO3 : IsPair a3 TO x b := hO3
  refine wpAny_bind (wpAny_letGo (wpAny_pure ?_))
  -- the second one
  refine wpAny_bind (wpAny_bind (wpAny_onRaise ?_))
  show wpAny _ _ (Builtin.SmallTypes.nextOf (.ref j) >>= _) _ _ _
  refine wpAny_bind (nextB_item (s := { s with heap := a3 }) (((w2.but c1.extBut D.i2z).but c2.extBut D.i12.symm).but c3.extBut D.TOi2.symm) (((t2.but c1.extBut D.l2z).but c2.extBut D.l2i1).but c3.extBut D.l2TO) hy fun a4 w2a c4 => wpAny_pure ?_)
  have hO4 : IsPair a4 TO x b := c4.extBut _ _ D.TOi2 hO3
  refine wpAny_bind (wpAny_seqItems hO4 rfl (wpAny_bind (wpAny_updateSeq_pair hO4 fun a5 hO5 c5 => ?_)))
  replace hO5 : IsPair a5 TO x y := hO5
  refine wpAny_bind (wpAny_letGo (wpAny_pure (wpAny_pure ?_)))
  -- the pair that is told
  refine wpAny_bind (wpAny_seqItems hO5 rfl (wpAny_bind (wpAny_newTuple ?_)))
  have hsz : a5.objs.size = s.heap.objs.size := by rw [c5.1, c4.1, c3.1, c2.1, c1.1]
  have hz5 : IsZip a5 z TI TO .ellipsis := c5.extBut _ _ D.TOz.symm (c4.extBut _ _ D.i2z.symm (c3.extBut _ _ D.TOz.symm (c2.extBut _ _ D.i1z.symm hz1)))
  have keep : ∀ c o, c ≠ z → c ≠ TO → c ≠ i → c ≠ j → s.heap.get? c = some o → a5.get? c = some o := fun c o n1 n2 n3 n4 e =>
    c5.extBut _ _ n2 (c4.extBut _ _ n4 (c3.extBut _ _ n2 (c2.extBut _ _ n3 (c1.extBut _ _ n1 e))))
  have w1b : WkB t a5 i l (k + 1) := ((w1a.but c3.extBut D.TOi1.symm).but c4.extBut D.i12).but c5.extBut D.TOi1.symm
  have w2b : WkB u a5 j m (n + 1) := w2a.but c5.extBut D.TOi2.symm
  have hzl : z < a5.objs.size := Heap.lt_size hz5
  show wpAny _ _ (Builtin.SmallTypes.ownedTupleHandOut (.ref z) (.ref a5.objs.size) >>= _) _ _ _
  unfold Builtin.SmallTypes.ownedTupleHandOut
  have hz6 : IsZip (a5.push { cls := .type "tuple", data := .seq #[x, y] }) z TI TO .ellipsis := Heap.get?_push_of_some _ hz5
  refine wpAny_bind (wpAny_bind (wpAny_setField_rec hz6 (by simp) fun a7 hz7 c7 => ?_))
  replace hz7 : IsZip a7 z TI TO (rawInt a5.objs.size) := hz7
  refine wpAny_setField_rec hz7 (by simp) fun a8 hz8 c8 => ?_
  replace hz8 : IsZip a8 z TI TO (rawInt a5.objs.size) := hz8
  have up : ∀ c o, c ≠ z → a5.get? c = some o → a8.get? c = some o := fun c o n1 e => c8.extBut _ _ n1 (c7.extBut _ _ n1 (Heap.get?_push_of_some _ e))
  have hT : IsPair a8 a5.objs.size x y := c8.extBut _ _ (Nat.ne_of_gt hzl) (c7.extBut _ _ (Nat.ne_of_gt hzl) (Heap.get?_push_size _ rfl))
  have hl : a8.objs.size = a5.objs.size + 1 := by rw [c8.1, c7.1, Heap.size_push]
  rw [hsz] at hz8 hT hl
  refine wpAny_pure ⟨_, rfl, ?_⟩
  show Q (.ref a5.objs.size) _
  rw [hsz]
  exact hQ a8 hz8 (up _ _ D.TOz hO5) (w1b.to fun o e => up _ o D.i1z e) (w2b.to fun o e => up _ o D.i2z e) hT hl fun c o n1 n2 n3 n4 e => up c o n1 (keep c o n1 n2 n3 n4 e)
theorem zipB_end {t u : Bool} {z TI TO i j l m : Addr} {k n : Nat} {xs ys : Array Value} {a b : Value} {Q : Fin → Shared → Prop} (hh : A.handled = none) (D : ZipApart z TI TO i j l m)
    (hz : IsZip s.heap z TI TO .none) (hI : IsPair s.heap TI (.ref i) (.ref j)) (hO : IsPair s.heap TO a b)
    (w1 : WkB t s.heap i l k) (w2 : WkB u s.heap j m n) (t1 : ThB t s.heap l xs) (t2 : ThB u s.heap m ys) (hend : xs[k]? = none ∨ ys[n]? = none)
    (hE : ∀ h' e, (∀ c o, c ≠ z → c ≠ TO → c ≠ i → c ≠ j → s.heap.get? c = some o → h'.get? c = some o) → (∃ o, h'.get? e = some o ∧ o.cls = .type "StopIteration") → E (.ref e) { s with heap := h' }) :
    wpAny (model prog w) A (Builtin.«zip.__next__» ⟨[.ref z], []⟩) Q E s := by
  show wpAny _ _ (field (.ref z) 2 >>= _) _ _ _
  refine wpAny_bind (wpAny_field hz rfl (x := .bool false) rfl ?_)
  show wpAny _ _ (field (.ref z) 3 >>= _) _ _ _
  refine wpAny_bind (wpAny_field hz rfl (x := .ref TI) rfl (wpAny_bind (wpAny_seqItems hI rfl ?_)))
  show wpAny _ _ (Builtin.SmallTypes.ownedTupleIsFree (.ref z) >>= _) _ _ _
  unfold Builtin.SmallTypes.ownedTupleIsFree
  refine wpAny_bind (wpAny_bind (wpAny_field hz rfl (x := .none) rfl (wpAny_pure ?_)))
  simp only [if_true]
  refine wpAny_bind (wpAny_rule (wpAny_bind (wpAny_field hz rfl (x := .ref TO) rfl ?_)))
  refine wpAny_bind (wpAny_setField_rec hz (by simp) fun a1 hz1 c1 => ?_)
  replace hz1 : IsZip a1 z TI TO .ellipsis := hz1
  refine wpAny_bind ?_
  simp only [List.zipIdx_cons, List.zipIdx_nil, List.forIn_cons, List.forIn_nil]
  refine wpAny_bind (wpAny_bind (wpAny_onRaise ?_))
  show wpAny _ _ (Builtin.SmallTypes.nextOf (.ref i) >>= _) _ _ _
  have stop : ∀ (a3 : Heap) (e : Addr), IsZip a3 z TI TO .ellipsis → (∃ o, a3.get? e = some o ∧ o.cls = .type "StopIteration") → e ≠ z := fun a3 e q ⟨o, h1, h2⟩ x => by
    subst x; rw [q] at h1; cases h1; simp at h2
  cases hx : xs[k]? with
  | none =>
    refine wpAny_bind (nextB_end (s := { s with heap := a1 }) hh (w1.but c1.extBut D.i1z) (t1.but c1.extBut D.l1z) hx fun a2 e c2 he => ?_)
    have hz2 : IsZip a2 z TI TO .ellipsis := c2 _ _ D.i1z.symm hz1
    have hez := stop a2 e hz2 he
    obtain ⟨o, h1, h2⟩ := he
    exact wpAny_setField_rec hz2 (by simp) fun a3 _ c3 => hE a3 e (fun c o n1 _ n3 _ q => c3.extBut _ _ n1 (c2 _ _ n3 (c1.extBut _ _ n1 q))) ⟨o, c3.extBut _ _ hez h1, h2⟩
  | some x =>
    have hy : ys[n]? = none := hend.resolve_left (by rw [hx]; exact fun q => by cases q)
    refine wpAny_bind (nextB_item (s := { s with heap := a1 }) (w1.but c1.extBut D.i1z) (t1.but c1.extBut D.l1z) hx fun a2 w1a c2 => wpAny_pure ?_)
    have hO2 : IsPair a2 TO a b := c2.extBut _ _ D.TOi1 (c1.extBut _ _ D.TOz hO)
    refine wpAny_bind (wpAny_seqItems hO2 rfl (wpAny_bind (wpAny_updateSeq_pair hO2 fun a3 hO3 c3 => ?_)))
    refine wpAny_bind (wpAny_letGo (wpAny_pure ?_))
    refine wpAny_bind (wpAny_bind (wpAny_onRaise ?_))
    show wpAny _ _ (Builtin.SmallTypes.nextOf (.ref j) >>= _) _ _ _
    refine wpAny_bind (nextB_end (s := { s with heap := a3 }) hh (((w2.but c1.extBut D.i2z).but c2.extBut D.i12.symm).but c3.extBut D.TOi2.symm) (((t2.but c1.extBut D.l2z).but c2.extBut D.l2i1).but c3.extBut D.l2TO) hy fun a4 e c4 he => ?_)
    have hz4 : IsZip a4 z TI TO .ellipsis := c4 _ _ D.i2z.symm (c3.extBut _ _ D.TOz.symm (c2.extBut _ _ D.i1z.symm hz1))
    have hez := stop a4 e hz4 he
    obtain ⟨o, h1, h2⟩ := he
    exact wpAny_setField_rec hz4 (by simp) fun a5 _ c5 => hE a5 e (fun c o n1 n2 n3 n4 q => c5.extBut _ _ n1 (c4 _ _ n4 (c3.extBut _ _ n2 (c2.extBut _ _ n3 (c1.extBut _ _ n1 q))))) ⟨o, c5.extBut _ _ hez h1, h2⟩
theorem pyNextB_item {t u : Bool} {z TI TO i j l m : Addr} {k n : Nat} {xs ys : Array Value} {x y a b : Value} {Q : Option Value → Shared → Prop} (D : ZipApart z TI TO i j l m)
    (hz : IsZip s.heap z TI TO .none) (hI : IsPair s.heap TI (.ref i) (.ref j)) (hO : IsPair s.heap TO a b)
    (w1 : WkB t s.heap i l k) (w2 : WkB u s.heap j m n) (t1 : ThB t s.heap l xs) (t2 : ThB u s.heap m ys) (hx : xs[k]? = some x) (hy : ys[n]? = some y)
    (hQ : ∀ h', IsZip h' z TI TO (rawInt s.heap.objs.size) → IsPair h' TO x y → WkB t h' i l (k + 1) → WkB u h' j m (n + 1) → IsPair h' s.heap.objs.size x y → h'.objs.size = s.heap.objs.size + 1 →
      (∀ c o, c ≠ z → c ≠ TO → c ≠ i → c ≠ j → s.heap.get? c = some o → h'.get? c = some o) → Q (some (.ref s.heap.objs.size)) { s with heap := h' }) :
    wpAny (model prog w) A (pyNext (.ref z)) Q E s := by
  have hT : s.TypeIs (.ref z) "zip" := ⟨_, hz, rfl⟩
  unfold pyNext
  exact wpAny_bind (wpAny_attempt (wpAny_callSpecial?_slot (name := Str.ofString "__next__") hT F.slot_zip_next (wpAny_call_entry F.slot_zip_next hT F.entry_zip_next
      (zipB_item D hz hI hO w1 w2 t1 t2 hx hy fun h' b1 b2 b3 b4 b5 b6 b7 => wpAny_pure (hQ h' b1 b2 b3 b4 b5 b6 b7)) (F.args_zip_next_1 _))))
theorem pyNextB_end {t u : Bool} {z TI TO i j l m : Addr} {k n : Nat} {xs ys : Array Value} {a b : Value} {Q : Option Value → Shared → Prop} (hh : A.handled = none) (D : ZipApart z TI TO i j l m)
    (hz : IsZip s.heap z TI TO .none) (hI : IsPair s.heap TI (.ref i) (.ref j)) (hO : IsPair s.heap TO a b)
    (w1 : WkB t s.heap i l k) (w2 : WkB u s.heap j m n) (t1 : ThB t s.heap l xs) (t2 : ThB u s.heap m ys) (hend : xs[k]? = none ∨ ys[n]? = none)
    (hQ : ∀ h', (∀ c o, c ≠ z → c ≠ TO → c ≠ i → c ≠ j → s.heap.get? c = some o → h'.get? c = some o) → Q none { s with heap := h' }) : wpAny (model prog w) A (pyNext (.ref z)) Q E s := by
  have hT : s.TypeIs (.ref z) "zip" := ⟨_, hz, rfl⟩
  unfold pyNext
  refine wpAny_bind (wpAny_attempt (wpAny_callSpecial?_slot (name := Str.ofString "__next__") hT F.slot_zip_next (wpAny_call_entry F.slot_zip_next hT F.entry_zip_next
    (zipB_end hh D hz hI hO w1 w2 t1 t2 hend fun h' e hk he => ?_) (F.args_zip_next_1 _))))
  obtain ⟨o, ho, hc⟩ := he
  exact wpAny_bind (wpAny_isInstance (T := "StopIteration") (b := true) ⟨o, ho, hc⟩ isSubtype_stop (wpAny_pure (hQ _ hk)))
end
abbrev zH1 (t : Bool) (h : Heap) (l : Addr) : Heap := h.push { cls := .type (itcB t), data := .fields #[.ref l, .int 0 0] }
abbrev zH2 (t u : Bool) (h : Heap) (l m : Addr) : Heap := (zH1 t h l).push { cls := .type (itcB u), data := .fields #[.ref m, .int 0 0] }
abbrev zH3 (t u : Bool) (h : Heap) (l m : Addr) : Heap := (zH2 t u h l m).push { cls := .type "tuple", data := .seq #[.ref h.objs.size, .ref (zH1 t h l).objs.size] }
abbrev zH4 (t u : Bool) (h : Heap) (l m : Addr) : Heap := (zH3 t u h l m).push { cls := .type "tuple", data := .seq #[.none, .none] }
abbrev zH5 (t u : Bool) (h : Heap) (l m : Addr) : Heap := (zH4 t u h l m).push { cls := .type "zip", data := .fields #[.none, .bool false, .bool false, .ref (zH2 t u h l m).objs.size, .ref (zH3 t u h l m).objs.size] }
theorem meetsTL (l m : Addr) (xs ys : Array Value) :
    Meets (Builtin.«zip.__new__» ⟨[.type "zip", .ref l, .ref m], []⟩) (fun _ R s => s.heap.IsTuple l xs ∧ s.heap.IsList m ys ∧ R (.ok (.ret (.ref (zH4 true false s.heap l m).objs.size))) { s with heap := zH5 true false s.heap l m }) :=
  .of_wp fun prog w A R s h => by
    obtain ⟨hp, g, d, tk, os⟩ := s; obtain ⟨h1, h2, h⟩ := h
    have hsub := sub_zip
    have hL1 : Heap.IsTuple (Shared.heap ⟨hp, g, d, tk, os⟩) l xs := h1
    have hL2 : Heap.IsList (Shared.heap ⟨hp.push { cls := .type "tuple_iterator", data := .fields #[.ref l, .int 0 0] }, g, d, tk, os⟩) m ys := Heap.IsList.push h2 _
    wp_walk using wpAny_pyIter_tuple hL1, wpAny_pyIter_list hL2
    exact ⟨_, rfl, h⟩
theorem meetsLT (l m : Addr) (xs ys : Array Value) :
    Meets (Builtin.«zip.__new__» ⟨[.type "zip", .ref l, .ref m], []⟩) (fun _ R s => s.heap.IsList l xs ∧ s.heap.IsTuple m ys ∧ R (.ok (.ret (.ref (zH4 false true s.heap l m).objs.size))) { s with heap := zH5 false true s.heap l m }) :=
  .of_wp fun prog w A R s h => by
    obtain ⟨hp, g, d, tk, os⟩ := s; obtain ⟨h1, h2, h⟩ := h
    have hsub := sub_zip
    have hL1 : Heap.IsList (Shared.heap ⟨hp, g, d, tk, os⟩) l xs := h1
    have hL2 : Heap.IsTuple (Shared.heap ⟨hp.push { cls := .type "list_iterator", data := .fields #[.ref l, .int 0 0] }, g, d, tk, os⟩) m ys := Heap.IsTuple.push h2 _
    wp_walk using wpAny_pyIter_list hL1, wpAny_pyIter_tuple hL2
    exact ⟨_, rfl, h⟩
theorem meetsB (t u : Bool) (l m : Addr) (xs ys : Array Value) :
    Meets (Builtin.«zip.__new__» ⟨[.type "zip", .ref l, .ref m], []⟩) (fun _ R s => ThB t s.heap l xs ∧ ThB u s.heap m ys ∧ R (.ok (.ret (.ref (zH4 t u s.heap l m).objs.size))) { s with heap := zH5 t u s.heap l m }) := by
  cases t <;> cases u
  · exact meets_zip_new l m xs ys
  · exact meetsLT l m xs ys
  · exact meetsTL l m xs ys
  · exact RZ.meets_zipT_new l m xs ys
section
variable {prog : Program} {w : World} {A : Around} {E : Value → Shared → Prop} {s : Shared} {K : PySem.W.Frag} {H : Hp}
theorem callB {t u : Bool} {l m : Addr} {xs ys : Array Value} {Q : Value → Shared → Prop} (t1 : ThB t s.heap l xs) (t2 : ThB u s.heap m ys)
    (h : ∀ h', IsZip h' (s.heap.objs.size + 4) (s.heap.objs.size + 2) (s.heap.objs.size + 3) .none → IsPair h' (s.heap.objs.size + 2) (.ref s.heap.objs.size) (.ref (s.heap.objs.size + 1)) →
      IsPair h' (s.heap.objs.size + 3) .none .none → WkB t h' s.heap.objs.size l 0 → WkB u h' (s.heap.objs.size + 1) m 0 → h'.objs.size = s.heap.objs.size + 5 →
      (∀ c o, s.heap.get? c = some o → h'.get? c = some o) → Q (.ref (s.heap.objs.size + 4)) { s with heap := h' }) :
    wpAny (model prog w) A (call (.type "zip") [.ref l, .ref m]) Q E s := by
  refine callType_new F.called_zip (by decide) (F.typeCall_zip_2 _ _) (F.newCall_zip_2 _ _) (fun obj => F.args_object_init_3 obj _ _) F.entry_zip_new (meetsB t u l m xs ys) ⟨t1, t2, ?_⟩
  have z1 : (zH1 t s.heap l).objs.size = s.heap.objs.size + 1 := Heap.size_push ..
  have z2 : (zH2 t u s.heap l m).objs.size = s.heap.objs.size + 2 := by rw [Heap.size_push, z1]
  have z3 : (zH3 t u s.heap l m).objs.size = s.heap.objs.size + 3 := by rw [Heap.size_push, z2]
  have z4 : (zH4 t u s.heap l m).objs.size = s.heap.objs.size + 4 := by rw [Heap.size_push, z3]
  have z5 : (zH5 t u s.heap l m).objs.size = s.heap.objs.size + 5 := by rw [Heap.size_push, z4]
  have p5 : (zH5 t u s.heap l m).get? (zH4 t u s.heap l m).objs.size = some _ := Heap.get?_push_size _ rfl
  have p4 : (zH5 t u s.heap l m).get? (zH3 t u s.heap l m).objs.size = some _ := Heap.get?_push_of_some _ (Heap.get?_push_size _ rfl)
  have p3 : (zH5 t u s.heap l m).get? (zH2 t u s.heap l m).objs.size = some _ := Heap.get?_push_of_some _ (Heap.get?_push_of_some _ (Heap.get?_push_size _ rfl))
  have p2 : (zH5 t u s.heap l m).get? (zH1 t s.heap l).objs.size = some _ := Heap.get?_push_of_some _ (Heap.get?_push_of_some _ (Heap.get?_push_of_some _ (Heap.get?_push_size _ rfl)))
  have p1 : (zH5 t u s.heap l m).get? s.heap.objs.size = some _ := Heap.get?_push_of_some _ (Heap.get?_push_of_some _ (Heap.get?_push_of_some _ (Heap.get?_push_of_some _ (Heap.get?_push_size _ rfl))))
  show _ ∧ _
  rw [z2, z3, z4] at p5
  rw [z1, z2] at p3
  rw [z3] at p4
  rw [z1] at p2
  rw [z4]
  refine ⟨⟨_, p5, rfl⟩, h _ p5 p3 p4 ?_ ?_ z5 fun c o x => Heap.get?_push_of_some _ (Heap.get?_push_of_some _ (Heap.get?_push_of_some _ (Heap.get?_push_of_some _ (Heap.get?_push_of_some _ x))))⟩
  · cases t <;> exact ⟨_, p1, rfl, rfl⟩
  · cases u <;> exact ⟨_, p2, rfl, rfl⟩
theorem invB {X : Cx} {pins : List (Addr × Obj)} {σ : L2.St} {t : Bool} {a : Addr} {xs : List V} (I : Inv X pins σ H s) (h : SqB X.K t H a xs) : ∃ its : List Value, Vals xs its ∧ ThB t s.heap a its.toArray := by
  cases t with
  | true => obtain ⟨its, rv, p, _⟩ := I.tuple h; exact ⟨its, rv, p⟩
  | false => obtain ⟨its, rv, p, _⟩ := I.list h; exact ⟨its, rv, p.isList⟩
theorem injB {X : Cx} {pins : List (Addr × Obj)} {σ : L2.St} {t : Bool} {a : Addr} {xs ys : List V} (I : Inv X pins σ H s) (h1 : SqB X.K t H a xs) (h2 : SqB X.K t H a ys) : xs = ys := by
  cases t with
  | true => exact I.tuple_inj h1 h2
  | false => exact I.list_inj h1 h2
/-- two things as they stand at each turn, their items in new pairs -/
def ItzB (K : PySem.W.Frag) (t u : Bool) (a b : Addr) : L2.It :=
  ⟨fun i H => ∃ (xs ys : List V) (x y : V), SqB K t H a xs ∧ SqB K u H b ys ∧ xs[i]? = some x ∧ ys[i]? = some y,
    fun i H v H' => ∃ T x y, v = .ref T ∧ H T = none ∧ H' = upd H T (.tup [x, y]) ∧ (∀ xs, SqB K t H a xs → xs[i]? = some x) ∧ ∀ ys, SqB K u H b ys → ys[i]? = some y,
    fun i H => ∃ xs ys : List V, SqB K t H a xs ∧ SqB K u H b ys ∧ (xs.length ≤ i ∨ ys.length ≤ i)⟩
theorem turnB {P : Program} {w : World} {t u : Bool} {elts : List Expr} {kk : Nat} {tpos : Pos} {a b z TI TO i j : Addr} (D : ZipApart z TI TO i j a b) :
    Turn P w K (.Tuple elts kk tpos) (ItzB K t u a b) [z, TI, TO, i, j] z (fun k h => IsZip h z TI TO .none ∧ IsPair h TI (.ref i) (.ref j) ∧ (∃ x y, IsPair h TO x y) ∧ WkB t h i a k ∧ WkB u h j b k) where
  mem := by simp
  obj := fun k h st c hc => by
    obtain ⟨hz, hI, ⟨x, y, hO⟩, h1, h2⟩ := st
    have e' : c = z ∨ c = TI ∨ c = TO ∨ c = i ∨ c = j := by simpa using hc
    rcases e' with q | q | q | q | q
    · rw [q]; exact ⟨_, hz, fun v q => nomatch q⟩
    · rw [q]; exact ⟨_, hI, fun v q => nomatch q⟩
    · rw [q]; exact ⟨_, hO, fun v q => nomatch q⟩
    · rw [q]
      cases t with
      | true => obtain ⟨o, e, _, d⟩ := h1; exact ⟨o, e, fun v q => by rw [d] at q; cases q⟩
      | false => obtain ⟨o, e, _, d⟩ := h1; exact ⟨o, e, fun v q => by rw [d] at q; cases q⟩
    · rw [q]
      cases u with
      | true => obtain ⟨o, e, _, d⟩ := h2; exact ⟨o, e, fun v q => by rw [d] at q; cases q⟩
      | false => obtain ⟨o, e, _, d⟩ := h2; exact ⟨o, e, fun v q => by rw [d] at q; cases q⟩
  keep := fun k h h' st kp => by
    obtain ⟨hz, hI, ⟨x, y, hO⟩, h1, h2⟩ := st
    exact ⟨kp z (by simp) _ hz, kp TI (by simp) _ hI, ⟨x, y, kp TO (by simp) _ hO⟩, h1.to fun o q => kp i (by simp) o q, h2.to fun o q => kp j (by simp) o q⟩
  item := by
    intro X hP hw hK hc k pins s σ H E I hf st hg
    subst hP hw hK
    obtain ⟨hz, hI, ⟨x0, y0, hO⟩, h1, h2⟩ := st
    obtain ⟨xs, ys, x, y, hqx, hqy, hx, hy⟩ := hg
    obtain ⟨its, rv, p⟩ := invB I hqx
    obtain ⟨its2, rv2, p2⟩ := invB I hqy
    obtain ⟨v1, hu, ru⟩ := rv.get hx
    obtain ⟨v2, hu2, ru2⟩ := rv2.get hy
    have hzl : z < s.heap.objs.size := Heap.lt_size hz
    refine pyNextB_item D hz hI hO h1 h2 p p2 (x := v1) (y := v2) (by simpa using hu) (by simpa using hu2) fun h' z' O' h1' h2' hT hsz hk => ?_
    refine ⟨_, rfl, wpAny_letOwnedTupleGo_zip (s := { s with heap := h' }) z' fun h'' z'' sb => ?_⟩
    have hT2 : h''.get? s.heap.objs.size = some { cls := .type "tuple", data := .seq #[v1, v2] } := (sb.2 _ (Nat.ne_of_gt hzl)).trans hT
    have new : ObjOk X.prog X.w (upd H s.heap.objs.size (.tup [x, y])) h'' s.heap.objs.size (.tup [x, y]) :=
      ⟨by show 2 ≤ sizeLine; decide, [v1, v2], .cons ru (.cons ru2 .nil), ⟨_, hT2, rfl, _, rfl⟩⟩
    have I1 : Inv X pins σ (upd H s.heap.objs.size (.tup [x, y])) { s with heap := h'' } :=
      I.turnedNew (t' := s.toks) (ch := [z, TI, TO, i, j]) (fun c o hb q => (sb.2 c (fun q' => hb (by simp [q']))).trans (hk c o (fun q' => hb (by simp [q'])) (fun q' => hb (by simp [q'])) (fun q' => hb (by simp [q'])) (fun q' => hb (by simp [q'])) q)) hf (Nat.le_refl _) new
    refine ⟨.ref s.heap.objs.size, _, I1, rfl, ⟨_, x, y, rfl, I.hok.fresh (Nat.le_refl _), rfl, fun l hl => by rw [injB I hl hqx]; exact hx, fun l hl => by rw [injB I hl hqy]; exact hy⟩, ⟨z'', ?_, ⟨v1, v2, ?_⟩, ?_, ?_⟩, fun c hcm => ?_⟩
    · exact (sb.2 _ D.TIz).trans (hk _ _ D.TIz D.TITO D.TIi1 D.TIi2 hI)
    · exact (sb.2 _ D.TOz).trans O'
    · exact h1'.to fun o q => (sb.2 _ D.i1z).trans q
    · exact h2'.to fun o q => (sb.2 _ D.i2z).trans q
    · have hlt : c < s.heap.objs.size := by
        have e' : c = z ∨ c = TI ∨ c = TO ∨ c = i ∨ c = j := by simpa using hcm
        rcases e' with q | q | q | q | q
        · rw [q]; exact hzl
        · rw [q]; exact Heap.lt_size hI
        · rw [q]; exact Heap.lt_size hO
        · rw [q]; exact h1.lt
        · rw [q]; exact h2.lt
      rw [upd_ne (Nat.ne_of_lt hlt)]
      exact (hf c hcm).1
  done := by
    intro X hP hw hK hc k pins s σ H E I hf st hg
    subst hP hw hK
    obtain ⟨hz, hI, ⟨x0, y0, hO⟩, h1, h2⟩ := st
    obtain ⟨xs, ys, hqx, hqy, hend⟩ := hg
    obtain ⟨its, rv, p⟩ := invB I hqx
    obtain ⟨its2, rv2, p2⟩ := invB I hqy
    have l1 := rv.length
    have l2 := rv2.length
    have he : its.toArray[k]? = none ∨ its2.toArray[k]? = none := by
      rcases hend with q | q
      · exact .inl (by simp; omega)
      · exact .inr (by simp; omega)
    exact pyNextB_end (I.ok.hd hc) D hz hI hO h1 h2 p p2 he fun h' hk => ⟨rfl, I.turnedL (t' := s.toks) (ch := [z, TI, TO, i, j]) (fun c o hb q =>
      hk c o (fun q' => hb (by simp [q'])) (fun q' => hb (by simp [q'])) (fun q' => hb (by simp [q'])) (fun q' => hb (by simp [q'])) q) hf⟩
  self := fun A k s Q E st h => wpAny_pyIter_zip st.1 h
def iZipB (K : PySem.W.Frag) (ta : TA) : TI := fun σ H R => ta σ H fun vs H1 => ∃ a b xs ys t u, vs = [.ref a, .ref b] ∧ SqB K t H1 a xs ∧ SqB K u H1 b ys ∧ R (ItzB K t u a b) H1
theorem pi_zipB {X : Cx} {e e2 : Expr} {ta : TA} {p pos tpos : Pos} {elts : List Expr} {kk : Nat} (hg : Gl X "zip") (hm : X.mg "zip" = none) (ha : PA X [e, e2] ta)
    (hs : starEach [e, e2] X.env = (false, eval e X.env) :: starEach [e2] X.env := by rfl) (hpl : (backTo pos (starEach [e2] X.env)).any (·.1) = false := by rfl) :
    PI X (.Tuple elts kk tpos) (.Call (.Name "zip" p) [e, e2] [] pos) (iZipB X.K ta) := by
  refine ⟨fun pins s σ H R I h => ?_⟩
  refine Call_ (ld_blt I hg hm PyProof.Rows.boot_zip (PyProof.Rows.callWith_type1 (thn (ha.run pos pins s σ H _ I h) fun us s1 ⟨vs, H1, I1, r1, q1⟩ => ?_) hs hpl))
  obtain ⟨a, b, xs, ys, t, u, ex, hqx, hqy, q⟩ := q1
  subst ex

  cases r1 with
  | cons r rr =>
    cases rr with
    | cons r' rr =>
      cases rr
      cases r
      cases r'
      obtain ⟨its, rv, p1⟩ := invB I1 hqx
      obtain ⟨its2, rv2, p2⟩ := invB I1 hqy
      have lz : ∀ c, c ∈ [s1.heap.objs.size + 4, s1.heap.objs.size + 2, s1.heap.objs.size + 3, s1.heap.objs.size, s1.heap.objs.size + 1] → FpOk X pins H1 c := fun c hcm => by
        have hle : s1.heap.objs.size ≤ c := by
          simp only [List.mem_cons, List.not_mem_nil, or_false] at hcm
          rcases hcm with z | z | z | z | z <;> rw [z]
          · exact Nat.le_add_right _ _
          · exact Nat.le_add_right _ _
          · exact Nat.le_add_right _ _
          · exact Nat.le_refl _
          · exact Nat.le_add_right _ _
        exact I1.fpOk hle (I1.hok.fresh hle)
      refine callB p1 p2 fun h' hz hI hO h1 h2 hsz hk => wpAny_pyIter_zip hz ?_
      have I2 : Inv X pins σ H1 { s1 with heap := h' } := I1.kept (t' := s1.toks) hk
      exact ⟨s1.heap.objs.size + 4, [s1.heap.objs.size + 4, s1.heap.objs.size + 2, s1.heap.objs.size + 3, s1.heap.objs.size, s1.heap.objs.size + 1], _, _, H1, rfl, I2, turnB (PySem.W.ktu_apart s1.heap.objs.size a b p1.lt p2.lt), ⟨hz, hI, ⟨_, _, hO⟩, h1, h2⟩, lz, q⟩
end
end Z
/-! Z3: operators, built-ins, methods: what the evaluation gives is what the hand layer's rules ask. -/
namespace Z
open PySem PySem.Spec PyProof.Rows
open L2 (V Hp HO upd upd_same upd_ne SqL SqT Rd VK TE TT TA TS Ends WX XK)
section
variable {c : Cg} {H H' H1 H2 H0 Hx Hy : Hp} {m m' mo mn mn' mn1 mn2 : List Addr} {old S S' : Sto} {env : Env} {σ : L2.St} {d x y : D} {v u : V} {ds xs ys : List D} {vs us : List V} {W : WX} {Q : V → Hp → Prop}
theorem Wr.val (n : NewOk c H (mo ++ mn) mn S) (h : Wr c mo W σ (relD c mo H) H mn (.ok d S) Q) (r : RD c H (mo ++ mn) d v) : Q v H := h mn H v Ext.refl n (RV.of r)
theorem Wr.tmp {p : Addr} (n : NewOk c H (mo ++ mn) mn S) (h : Wr c mo W σ (relD c mo H) H mn (.ok (.tmp xs) S) Q) (r : RDs c H (mo ++ mn) xs vs) (hp : H p = none) : Q (.ref p) (upd H p (.lst vs)) := by
  have x := Ext.new (mn := mn) (o := .lst vs) hp
  refine h mn _ _ x (n.new hp) ⟨p, vs, rfl, hp, fun hm => ?_, upd_same, r.ext x n⟩
  obtain ⟨us, e⟩ := n.there hm
  rw [hp] at e; cases e
theorem Wr.tup {p : Addr} (n : NewOk c H (mo ++ mn) mn S) (h : Wr c mo W σ (relD c mo H) H mn (.ok (.tup xs) S) Q) (r : RDs c H (mo ++ mn) xs vs) (hp : H p = none) : Q (.ref p) (upd H p (.tup vs)) := by
  have x := Ext.new (mn := mn) (o := .tup vs) hp
  exact h mn _ _ x (n.new hp) (RV.of ⟨p, vs, rfl, .inl (.inl upd_same), r.ext x n⟩)
theorem SL_le {n : Nat} (h : SL n = true) : n ≤ sizeLine := by
  rw [sizeLine_eq]; exact Nat.le_of_ble_eq_true h
theorem RV.int {i : Int} (r : RV c H0 H m mn (.int i) v) : v = .int i := r
theorem okm_of {i j : Int} (h : okm i j = true) : L2.CMul i j := by
  unfold okm at h
  simp only [Bool.or_eq_true, Bool.and_eq_true, decide_eq_true_eq] at h
  exact h
theorem okp_of {i j : Int} (h : okp i j = true) : L2.CPow i j := by
  unfold okp at h
  simp only [Bool.and_eq_true, decide_eq_true_eq] at h
  exact ⟨h.1.1, h.1.2, h.2⟩
/-! ### operators -/
def pyOp : Op → Operator
  | .add => .Add | .sub => .Sub | .mul => .Mult | .fdiv => .FloorDiv | .mod => .Mod | .pow => .Pow | .shl => .LShift | .shr => .RShift | .band => .BitAnd | .bor => .BitOr | .bxor => .BitXor
def rStrs : L2.R2 := fun x y H Q => ∃ i j, x = .str i ∧ y = .str j ∧ i.length + j.length ≤ sizeLine ∧ Q (.str (i ++ j)) H
def rOp (c : Cg) (o : Op) : L2.R2 := match o with
  | .add => fun x y H Q => L2.rI0 (fun i j => .int (i + j)) x y H Q ∨ (rStrs x y H Q ∨ (L2.rCatA c.K x y H Q ∨ L2.rCat x y H Q))
  | .sub => L2.rI0 fun i j => .int (i - j)
  | .mul => fun x y H Q => L2.rI L2.CMul (fun i j => .int (i * j)) x y H Q ∨ (L2.rRep x y H Q ∨ (L2.rRepT c.K x y H Q ∨ (L2.rRepT1 c.K x y H Q ∨ L2.rRepT0 c.K x y H Q)))
  | .fdiv => L2.rI L2.CDiv fun i j => .int (i / j)
  | .mod => L2.rI (fun _ j => 0 < j) fun i j => .int (i % j)
  | .pow => L2.rI L2.CPow fun i j => .int (i ^ j.toNat)
  | .shl => L2.rI L2.CPow fun i j => .int (i * 2 ^ j.toNat)
  | .shr => L2.rI (fun _ j => 0 ≤ j) fun i j => .int (i / 2 ^ j.toNat)
  | .band => L2.rI0 fun i j => .int (Builtin.bitAnd i j)
  | .bor => L2.rI0 fun i j => .int (Builtin.bitOr i j)
  | .bxor => L2.rI0 fun i j => .int (Builtin.bitXor i j)
theorem op_r {X : L2.Cx} (hK : X.K = c.K) (o : Op) : L2.OpR X (binaryOp (pyOp o)) (rOp c o) := by
  cases o with
  | add => exact L2.OpR.or L2.op_add (L2.OpR.or L2.op_add_str (L2.OpR.or (by rw [← hK]; exact L2.op_catA) L2.op_cat))
  | sub => exact L2.op_sub
  | mul => exact L2.OpR.or L2.op_mul (L2.OpR.or L2.op_rep (L2.OpR.or (by rw [← hK]; exact L2.op_repT) (L2.OpR.or (by rw [← hK]; exact L2.op_repT1) (by rw [← hK]; exact L2.op_repT0))))
  | fdiv => exact L2.op_fdiv
  | mod => exact L2.op_mod
  | pow => exact L2.op_pow
  | shl => exact L2.op_shl
  | shr => exact L2.op_shr
  | band => exact L2.op_and
  | bor => exact L2.op_or
  | bxor => exact L2.op_xor
theorem cat_ok (s : S0 c H mo mn old S) (rx : RV c Hx H (mo ++ mn) mn x v) (ry : RV c Hy H (mo ++ mn) mn y u)
    (h : Wr c mo W σ (relD c mo H) H mn (match lstOf old S x with
    | none => .bad
    | some xs => match lstOf old S y with
      | none => .bad
      | some ys => if SL (xs.length + ys.length) then .ok (.tmp (xs ++ ys)) S else .bad) Q) : L2.rCat v u H Q := by
  cases ex : lstOf old S x with
  | none => rw [ex] at h; exact h.elim
  | some xs =>
    rw [ex] at h
    cases ey : lstOf old S y with
    | none => rw [ey] at h; exact h.elim
    | some ys =>
      rw [ey] at h
      simp only at h
      split at h
      · rename_i hz
        obtain ⟨a, vs, rfl, h1, r1⟩ := rx.lstOf s ex
        obtain ⟨b, us, rfl, h2, r2⟩ := ry.lstOf s ey
        exact ⟨a, b, vs, us, rfl, rfl, h1, h2, by rw [← r1.len, ← r2.len]; exact SL_le hz, fun p hp => h.tmp s.n (r1.app r2) hp⟩
      · exact h.elim
theorem opV_ok {o : Op} (s : S0 c H mo mn old S) (rx : RV c Hx H (mo ++ mn) mn x v) (ry : RV c Hy H (mo ++ mn) mn y u) (h : Wr c mo W σ (relD c mo H) H mn (opV old o x y S) Q) : rOp c o v u H Q := by
  unfold opV at h
  split at h
  · cases rx; cases ry; exact .inl ⟨_, _, rfl, rfl, h.val s.n rfl⟩
  · cases rx; cases ry; exact ⟨_, _, rfl, rfl, h.val s.n rfl⟩
  · split at h
    · rename_i hz
      cases rx; cases ry; exact .inl ⟨_, _, rfl, rfl, okm_of hz, h.val s.n rfl⟩
    · exact h.elim
  · split at h
    · rename_i hz
      simp only [Bool.and_eq_true, decide_eq_true_eq] at hz
      cases rx; cases ry; exact ⟨_, _, rfl, rfl, hz, h.val s.n rfl⟩
    · exact h.elim
  · split at h
    · rename_i hz
      cases rx; cases ry; exact ⟨_, _, rfl, rfl, of_decide_eq_true hz, h.val s.n rfl⟩
    · exact h.elim
  · split at h
    · rename_i hz
      cases rx; cases ry; exact ⟨_, _, rfl, rfl, okp_of hz, h.val s.n rfl⟩
    · exact h.elim
  · split at h
    · rename_i hz
      cases rx; cases ry; exact ⟨_, _, rfl, rfl, okp_of hz, h.val s.n rfl⟩
    · exact h.elim
  · split at h
    · rename_i hz
      cases rx; cases ry; exact ⟨_, _, rfl, rfl, of_decide_eq_true hz, h.val s.n rfl⟩
    · exact h.elim
  · cases rx; cases ry; exact ⟨_, _, rfl, rfl, h.val s.n rfl⟩
  · cases rx; cases ry; exact ⟨_, _, rfl, rfl, h.val s.n rfl⟩
  · cases rx; cases ry; exact ⟨_, _, rfl, rfl, h.val s.n rfl⟩
  · split at h
    · rename_i hz
      cases rx; cases ry; exact .inr (.inl ⟨_, _, rfl, rfl, SL_le hz, h.val s.n rfl⟩)
    · exact h.elim
  · split at h
    · rename_i hz
      obtain ⟨a, vs, rfl, h1, r1⟩ := rx
      obtain ⟨b, us, rfl, h2, r2⟩ := ry
      refine .inr (.inr (.inl ⟨a, b, vs, us, rfl, rfl, h1, h2, by rw [← r1.len, ← r2.len]; exact SL_le hz, fun e => ?_, fun e e2 => ?_, fun e e2 p hp => h.tup s.n (r1.app r2) hp⟩))
      · subst e
        have e3 := r1.len
        rw [List.length_nil] at e3
        rw [List.eq_nil_of_length_eq_zero e3] at h
        exact h.val s.n ⟨b, us, rfl, h2, r2⟩
      · subst e2
        have e3 := r2.len
        rw [List.length_nil] at e3
        rw [List.eq_nil_of_length_eq_zero e3, List.append_nil] at h
        exact h.val s.n ⟨a, vs, rfl, h1, r1⟩
    · exact h.elim
  · exact .inr (.inr (.inr (cat_ok s rx ry h)))
  · cases ry
    split at h
    · rename_i xs k hz
      simp only [Bool.and_eq_true, decide_eq_true_eq, Bool.not_eq_true', List.isEmpty_eq_false_iff] at hz
      obtain ⟨⟨⟨hz0, hz1⟩, hz2⟩, hz3⟩ := hz
      obtain ⟨a, vs, rfl, h1, r1⟩ := rx
      have hne : vs ≠ [] := fun e => hz3 (List.eq_nil_of_length_eq_zero (by rw [r1.len, e]; rfl))
      by_cases k0 : k = 0
      · subst k0
        exact .inr (.inr (.inr (.inr ⟨a, vs, rfl, rfl, h1, hne, fun p hp => h.tup s.n (r1.rep 0) hp⟩)))
      by_cases k1 : k = 1
      · subst k1
        have e : (List.replicate (1 : Int).toNat xs).flatten = xs := by simp
        rw [e] at h
        exact .inr (.inr (.inr (.inl ⟨a, vs, rfl, rfl, h1, h.val s.n ⟨a, vs, rfl, h1, r1⟩⟩)))
      exact .inr (.inr (.inl ⟨a, k, vs, rfl, rfl, h1, hne, by omega, hz1, by rw [← r1.len]; exact hz2, fun p hp => h.tup s.n (r1.rep _) hp⟩))
    · exact h.elim
  · cases ry
    cases ex : lstOf old S x with
    | none => rw [ex] at h; exact h.elim
    | some xs =>
      rw [ex] at h
      simp only at h
      split at h
      · rename_i hz
        simp only [Bool.and_eq_true, decide_eq_true_eq] at hz
        obtain ⟨a, vs, rfl, h1, r1⟩ := rx.lstOf s ex
        exact .inr (.inl ⟨a, _, vs, rfl, rfl, h1, by omega, by omega, by rw [← r1.len]; exact SL_le hz.2, fun p hp => h.tmp s.n (r1.rep _) hp⟩)
      · exact h.elim
  · exact h.elim
/-! ### whole data -/
theorem mapO_ok (s : S0 c H mo mn old S) {n : Nat} (ih : ∀ (d : D) (p : PyData) (v : V) (Hx : Hp), toPy old S n d = some p → RV c Hx H (mo ++ mn) mn d v → L2.Dp c.K H v p ∧ p.canLay0 = true ∧ p.depth ≤ n) :
    ∀ (ds : List D) (ps : List PyData) (vs : List V), mapO (toPy old S n) ds = some ps → RDs c H (mo ++ mn) ds vs → L2.DpAll c.K H vs ps ∧ PyData.canLayAll0 ps = true ∧ PyData.depthAll ps ≤ n
  | [], ps, vs, h, r => by
    simp only [mapO, Option.some.injEq] at h
    subst h
    cases r
    exact ⟨.nil, rfl, by simp [PyData.depthAll]⟩
  | d :: ds, ps, vs, h, r => by
    obtain ⟨v, rs, rfl, r1, r2⟩ := r
    simp only [mapO] at h
    cases e1 : toPy old S n d with
    | none => rw [e1] at h; cases h
    | some p =>
      rw [e1] at h
      simp only at h
      cases e2 : mapO (toPy old S n) ds with
      | none => rw [e2] at h; cases h
      | some qs =>
        rw [e2] at h
        simp only [Option.some.injEq] at h
        subst h
        obtain ⟨a1, a2, a3⟩ := ih d p v (fun _ => none) e1 (RV.of r1)
        obtain ⟨b1, b2, b3⟩ := mapO_ok s ih ds qs rs e2 r2
        refine ⟨.cons a1 b1, by simp [PyData.canLayAll0, a2, b2], ?_⟩
        simp only [PyData.depthAll]; omega
theorem toPy_ok (s : S0 c H mo mn old S) : ∀ (n : Nat) (d : D) (p : PyData) (v : V) (Hx : Hp), toPy old S n d = some p → RV c Hx H (mo ++ mn) mn d v → L2.Dp c.K H v p ∧ p.canLay0 = true ∧ p.depth ≤ n
  | 0, d, p, v, Hx, h, r => by simp [toPy] at h
  | n + 1, d, p, v, Hx, h, r => by
    have ih := mapO_ok s (toPy_ok s n)
    cases d with
    | non => simp only [toPy, Option.some.injEq] at h; subst h; cases r; exact ⟨.non, rfl, by simp [PyData.depth]⟩
    | bl b => simp only [toPy, Option.some.injEq] at h; subst h; cases r; exact ⟨.bl _, rfl, by simp [PyData.depth]⟩
    | int i => simp only [toPy, Option.some.injEq] at h; subst h; cases r; exact ⟨.int _, rfl, by simp [PyData.depth]⟩
    | str x =>
      simp only [toPy] at h
      split at h
      · rename_i hz
        simp only [Option.some.injEq] at h; subst h; cases r; exact ⟨.str _, hz, by simp [PyData.depth]⟩
      · cases h
    | tup xs =>
      simp only [toPy] at h
      obtain ⟨ps, h1, rfl⟩ := Option.map_eq_some_iff.mp h
      obtain ⟨a, vs, rfl, h2, h3⟩ := r
      obtain ⟨q1, q2, q3⟩ := ih xs ps vs h1 h3
      refine ⟨.tup h2 q1, by simpa [PyData.canLay0] using q2, ?_⟩
      simp only [PyData.depth]; omega
    | tmp xs =>
      simp only [toPy] at h
      obtain ⟨ps, h1, rfl⟩ := Option.map_eq_some_iff.mp h
      obtain ⟨a, vs, rfl, _, _, h2, h3⟩ := r
      obtain ⟨q1, q2, q3⟩ := ih xs ps vs h1 h3
      refine ⟨.lst (.inl (.inl h2)) q1, by simpa [PyData.canLay0] using q2, ?_⟩
      simp only [PyData.depth]; omega
    | lst a =>
      simp only [toPy] at h
      cases e : at_ old S a with
      | none => rw [e] at h; cases h
      | some ce =>
        rw [e] at h
        simp only at h
        obtain ⟨ps, h1, rfl⟩ := Option.map_eq_some_iff.mp h
        obtain ⟨b, hb, rfl⟩ := r
        obtain ⟨b', vs, e1, e2, e3⟩ := s.cell e
        rw [hb] at e1; cases e1
        obtain ⟨q1, q2, q3⟩ := ih ce.xs ps vs h1 e2
        refine ⟨.lst ?_ q1, by simpa [PyData.canLay0] using q2, ?_⟩
        · rcases e3 with ⟨_, e3⟩ | ⟨_, e3⟩
          · exact .inl (.inl e3)
          · exact e3.sq
        · simp only [PyData.depth]; omega
    | fn k => simp [toPy] at h
    | exc k => simp [toPy] at h
theorem toPy_shaped (s : S0 c H mo mn old S) {d : D} {p : PyData} {v : V} (h : toPy old S 60 d = some p) (r : RV c H0 H (mo ++ mn) mn d v) : L2.Dp c.K H v p ∧ SeqAt.shaped p = true := by
  obtain ⟨h1, h2, h3⟩ := toPy_ok s 60 d p v H0 h r
  exact ⟨h1, by unfold SeqAt.shaped; rw [h2]; simp; omega⟩
end
end Z

namespace Z
open PySem PySem.Spec PyProof.Rows
open L2 (V Hp HO upd upd_same upd_ne SqL SqT Rd VK TE TT TA TS Ends WX XK)
section
variable {c : Cg} {H H' H1 H2 H0 Hx Hy : Hp} {m m' mo mn mn' mn1 mn2 : List Addr} {old S S' : Sto} {env : Env} {σ : L2.St} {d x y : D} {v u : V} {ds xs ys : List D} {vs us : List V} {W : WX} {Q : V → Hp → Prop} {b : Bool}
/-! ### comparisons -/
def pyCm : Cm → CmpOp
  | .eq => .Eq | .ne => .NotEq | .lt => .Lt | .le => .LtE | .gt => .Gt | .ge => .GtE | .is => .Is | .isnt => .IsNot | .isin => .In | .notin => .NotIn
def rInT (K : PySem.W.Frag) (neg : Bool) : L2.R2 := fun x y H Q => ∃ d ds, L2.Dp K H x d ∧ L2.Dp K H y (.tuple ds) ∧ SeqAt.shaped d = true ∧ SeqAt.shaped (.tuple ds) = true ∧ Q (.bl (if neg then !ds.any fun z => PyData.eqv z d else ds.any fun z => PyData.eqv z d)) H
theorem op_inT {X : L2.Cx} (hu : X.A.units + 65 < cLine) : L2.OpR X (compareOp .In) (rInT X.K false) := by
  intro pins s σ H x y v u Q I rx ry h
  obtain ⟨d, ds, hd, he, sd, se, q⟩ := h
  obtain ⟨as, r1⟩ := L2.Dp.reads I d x v hd rx
  obtain ⟨bs, r2⟩ := L2.Dp.reads I (.tuple ds) y u he ry
  exact SeqAt.in_tuple_reads r2 r1 (SeqAt.canLay_of_shaped se) (SeqAt.canLay_of_shaped sd) (room_in_shaped sd hu) ⟨.bl _, H, I, rfl, q⟩
theorem op_notinT {X : L2.Cx} (hu : X.A.units + 65 < cLine) : L2.OpR X (compareOp .NotIn) (rInT X.K true) := by
  intro pins s σ H x y v u Q I rx ry h
  obtain ⟨d, ds, hd, he, sd, se, q⟩ := h
  obtain ⟨as, r1⟩ := L2.Dp.reads I d x v hd rx
  obtain ⟨bs, r2⟩ := L2.Dp.reads I (.tuple ds) y u he ry
  exact SeqAt.notIn_tuple_reads r2 r1 (SeqAt.canLay_of_shaped se) (SeqAt.canLay_of_shaped sd) (room_in_shaped sd hu) ⟨.bl _, H, I, rfl, q⟩
def rIsN : L2.R2 := fun x y H Q => y = .non ∧ Q (.bl (decide (x = .non))) H
def rNotN : L2.R2 := fun x y H Q => y = .non ∧ Q (.bl (!decide (x = .non))) H
def rCm (c : Cg) (o : Cm) : L2.R2 := match o with
  | .eq => L2.rEqD c.K
  | .ne => L2.rNeD c.K
  | .lt => L2.rI0 fun i j => .bl (decide (i < j))
  | .le => L2.rI0 fun i j => .bl (decide (i ≤ j))
  | .gt => L2.rI0 fun i j => .bl (decide (j < i))
  | .ge => L2.rI0 fun i j => .bl (decide (j ≤ i))
  | .is => fun x y H Q => rIsN x y H Q ∨ L2.rIsB x y H Q
  | .isnt => fun x y H Q => rNotN x y H Q ∨ L2.rNotB x y H Q
  | .isin => fun x y H Q => L2.rInD c.K x y H Q ∨ rInT c.K false x y H Q
  | .notin => fun x y H Q => L2.rNotInD c.K x y H Q ∨ rInT c.K true x y H Q
theorem cm_r {X : L2.Cx} (hK : X.K = c.K) (hu : X.A.units + 65 < cLine) (o : Cm) : L2.OpR X (compareOp (pyCm o)) (rCm c o) := by
  cases o with
  | eq => show L2.OpR _ _ (L2.rEqD c.K); rw [← hK]; exact L2.op_eqD (by omega)
  | ne => show L2.OpR _ _ (L2.rNeD c.K); rw [← hK]; exact L2.op_neD (by omega)
  | lt => exact L2.op_lt
  | le => exact L2.op_le
  | gt => exact L2.op_gt
  | ge => exact L2.op_ge
  | is => exact L2.OpR.or L2.op_isN L2.op_isBl
  | isnt => exact L2.OpR.or L2.op_notN L2.op_notBl
  | isin => exact L2.OpR.or (by rw [← hK]; exact L2.op_inD hu) (by rw [← hK]; exact op_inT hu)
  | notin => exact L2.OpR.or (by rw [← hK]; exact L2.op_notInD hu) (by rw [← hK]; exact op_notinT hu)
theorem eqv_ok (s : S0 c H mo mn old S) (rx : RV c Hx H (mo ++ mn) mn x v) (ry : RV c Hy H (mo ++ mn) mn y u) (e : eqv old S x y = some b) :
    ∃ d e, L2.Dp c.K H v d ∧ L2.Dp c.K H u e ∧ SeqAt.shaped d = true ∧ SeqAt.shaped e = true ∧ b = PyData.eqv d e := by
  unfold Z.eqv at e
  cases e1 : toPy old S 60 x with
  | none => rw [e1] at e; cases e
  | some p =>
    rw [e1] at e
    simp only at e
    cases e2 : toPy old S 60 y with
    | none => rw [e2] at e; cases e
    | some q =>
      rw [e2] at e
      simp only [Option.some.injEq] at e
      obtain ⟨a1, a2⟩ := toPy_shaped s e1 rx
      obtain ⟨b1, b2⟩ := toPy_shaped s e2 ry
      exact ⟨p, q, a1, b1, a2, b2, e.symm⟩
theorem isIn_ok (s : S0 c H mo mn old S) (rx : RV c Hx H (mo ++ mn) mn x v) (ry : RV c Hy H (mo ++ mn) mn y u) (e : isIn old S x y = some b) :
    ∃ d ds, L2.Dp c.K H v d ∧ SeqAt.shaped d = true ∧ b = (ds.any fun z => PyData.eqv z d) ∧ ((L2.Dp c.K H u (.list ds) ∧ SeqAt.shaped (.list ds) = true) ∨ (L2.Dp c.K H u (.tuple ds) ∧ SeqAt.shaped (.tuple ds) = true)) := by
  unfold Z.isIn at e
  cases e1 : toPy old S 60 x with
  | none => rw [e1] at e; cases e
  | some p =>
    rw [e1] at e
    simp only at e
    obtain ⟨a1, a2⟩ := toPy_shaped s e1 rx
    cases e2 : toPy old S 60 y with
    | none => rw [e2] at e; cases e
    | some q =>
      rw [e2] at e
      obtain ⟨b1, b2⟩ := toPy_shaped s e2 ry
      cases q with
      | list qs => simp only [Option.some.injEq] at e; exact ⟨p, qs, a1, a2, e.symm, .inl ⟨b1, b2⟩⟩
      | tuple qs => simp only [Option.some.injEq] at e; exact ⟨p, qs, a1, a2, e.symm, .inr ⟨b1, b2⟩⟩
      | none => cases e
      | bool _ => cases e
      | int _ => cases e
      | str _ => cases e
      | dict _ => cases e
theorem cmpV_ok {o : Cm} (s : S0 c H mo mn old S) (rx : RV c Hx H (mo ++ mn) mn x v) (ry : RV c Hy H (mo ++ mn) mn y u) (e : cmpV old o x y S = some b) (h : Q (.bl b) H) : rCm c o v u H Q := by
  cases o with
  | eq =>
    obtain ⟨p, q, h1, h2, h3, h4, rfl⟩ := eqv_ok s rx ry e
    exact ⟨p, q, h1, h2, h3, h4, h⟩
  | ne =>
    simp only [cmpV] at e
    obtain ⟨b', e', rfl⟩ := Option.map_eq_some_iff.mp e
    obtain ⟨p, q, h1, h2, h3, h4, rfl⟩ := eqv_ok s rx ry e'
    exact ⟨p, q, h1, h2, h3, h4, h⟩
  | lt =>
    simp only [cmpV] at e
    split at e
    · simp only [Option.some.injEq] at e; subst e; cases rx; cases ry; exact ⟨_, _, rfl, rfl, h⟩
    · cases e
  | le =>
    simp only [cmpV] at e
    split at e
    · simp only [Option.some.injEq] at e; subst e; cases rx; cases ry; exact ⟨_, _, rfl, rfl, h⟩
    · cases e
  | gt =>
    simp only [cmpV] at e
    split at e
    · simp only [Option.some.injEq] at e; subst e; cases rx; cases ry; exact ⟨_, _, rfl, rfl, h⟩
    · cases e
  | ge =>
    simp only [cmpV] at e
    split at e
    · simp only [Option.some.injEq] at e; subst e; cases rx; cases ry; exact ⟨_, _, rfl, rfl, h⟩
    · cases e
  | is =>
    simp only [cmpV] at e
    split at e
    · simp only [Option.some.injEq] at e; subst e; cases rx; cases ry; exact .inr ⟨_, _, rfl, rfl, h⟩
    · simp only [Option.some.injEq] at e; subst e; cases rx; cases ry; exact .inl ⟨rfl, h⟩
    · rename_i hn
      simp only [Option.some.injEq] at e; subst e; cases ry
      refine .inl ⟨rfl, ?_⟩
      have hv : v ≠ .non := by
        cases x with
        | non => exact absurd rfl hn
        | bl _ => cases rx; intro z; cases z
        | int _ => cases rx; intro z; cases z
        | str _ => cases rx; intro z; cases z
        | tup _ => obtain ⟨_, _, rfl, _⟩ := rx; intro z; cases z
        | lst _ => obtain ⟨_, _, rfl⟩ := rx; intro z; cases z
        | tmp _ => obtain ⟨_, _, rfl, _⟩ := rx; intro z; cases z
        | fn _ => obtain ⟨_, _, rfl⟩ := rx; intro z; cases z
        | exc _ => obtain ⟨_, _, rfl⟩ := rx; intro z; cases z
      rw [decide_eq_false hv]; exact h
    · cases e
  | isnt =>
    simp only [cmpV] at e
    split at e
    · simp only [Option.some.injEq] at e; subst e; cases rx; cases ry; exact .inr ⟨_, _, rfl, rfl, h⟩
    · simp only [Option.some.injEq] at e; subst e; cases rx; cases ry; exact .inl ⟨rfl, h⟩
    · rename_i hn
      simp only [Option.some.injEq] at e; subst e; cases ry
      refine .inl ⟨rfl, ?_⟩
      have hv : v ≠ .non := by
        cases x with
        | non => exact absurd rfl hn
        | bl _ => cases rx; intro z; cases z
        | int _ => cases rx; intro z; cases z
        | str _ => cases rx; intro z; cases z
        | tup _ => obtain ⟨_, _, rfl, _⟩ := rx; intro z; cases z
        | lst _ => obtain ⟨_, _, rfl⟩ := rx; intro z; cases z
        | tmp _ => obtain ⟨_, _, rfl, _⟩ := rx; intro z; cases z
        | fn _ => obtain ⟨_, _, rfl⟩ := rx; intro z; cases z
        | exc _ => obtain ⟨_, _, rfl⟩ := rx; intro z; cases z
      rw [decide_eq_false hv]; exact h
    · cases e
  | isin =>
    obtain ⟨p, q, h1, h2, rfl, h4⟩ := isIn_ok s rx ry e
    rcases h4 with ⟨h4, h5⟩ | ⟨h4, h5⟩
    · exact .inl ⟨p, q, h1, h4, h2, h5, h⟩
    · exact .inr ⟨p, q, h1, h4, h2, h5, h⟩
  | notin =>
    simp only [cmpV] at e
    obtain ⟨b', e', rfl⟩ := Option.map_eq_some_iff.mp e
    obtain ⟨p, q, h1, h2, rfl, h4⟩ := isIn_ok s rx ry e'
    rcases h4 with ⟨h4, h5⟩ | ⟨h4, h5⟩
    · exact .inl ⟨p, q, h1, h4, h2, h5, h⟩
    · exact .inr ⟨p, q, h1, h4, h2, h5, h⟩
/-! ### truth -/
theorem empt {xs : List D} {vs : List V} (h : xs.length = vs.length) : (!xs.isEmpty) = !vs.isEmpty := by
  cases xs <;> cases vs <;> simp_all
theorem truth_ok (s : S0 c H mo mn old S) (rx : RV c Hx H (mo ++ mn) mn x v) (e : truth old S x = some b) : L2.TruV c.K v H b := by
  cases x with
  | non => simp only [truth, Option.some.injEq] at e; subst e; cases rx; exact rfl
  | bl _ => simp only [truth, Option.some.injEq] at e; subst e; cases rx; exact rfl
  | int _ => simp only [truth, Option.some.injEq] at e; subst e; cases rx; exact rfl
  | str _ => cases e
  | tup xs =>
    simp only [truth, Option.some.injEq] at e; subst e
    obtain ⟨a, vs, rfl, h1, h2⟩ := rx
    exact .inr (.inl ⟨vs, h1, empt h2.len⟩)
  | tmp xs =>
    simp only [truth, Option.some.injEq] at e; subst e
    obtain ⟨a, vs, rfl, _, _, h1, h2⟩ := rx
    exact .inl ⟨vs, .inl (.inl h1), empt h2.len⟩
  | lst a =>
    simp only [truth] at e
    obtain ⟨ce, e1, rfl⟩ := Option.map_eq_some_iff.mp e
    obtain ⟨a, vs, rfl, h1, h2, _⟩ := rx.lstRo (ds := ce.xs) s (by simp only [Z.lstRo, e1, Option.map])
    exact .inl ⟨vs, h1, empt h2.len⟩
  | fn _ => cases e
  | exc _ => cases e
/-! ### built-ins -/
theorem bools_ok : ∀ {ds : List D} {bs : List Bool} {vs : List V}, bools ds = some bs → RDs c H m ds vs → vs = bs.map V.bl
  | [], bs, vs, e, r => by simp only [bools, Option.some.injEq] at e; subst e; exact r
  | .bl b :: ds, bs, vs, e, r => by
    simp only [bools] at e
    obtain ⟨cs, e1, rfl⟩ := Option.map_eq_some_iff.mp e
    obtain ⟨v, rs, rfl, r1, r2⟩ := r
    cases r1
    rw [bools_ok e1 r2]; rfl
  | .non :: _, _, _, e, _ => by cases e
  | .int _ :: _, _, _, e, _ => by cases e
  | .str _ :: _, _, _, e, _ => by cases e
  | .tup _ :: _, _, _, e, _ => by cases e
  | .lst _ :: _, _, _, e, _ => by cases e
  | .tmp _ :: _, _, _, e, _ => by cases e
  | .fn _ :: _, _, _, e, _ => by cases e
  | .exc _ :: _, _, _, e, _ => by cases e
theorem ints_ok : ∀ {ds : List D} {bs : List Int} {vs : List V}, intsOf ds = some bs → RDs c H m ds vs → vs = bs.map V.int
  | [], bs, vs, e, r => by simp only [intsOf, Option.some.injEq] at e; subst e; exact r
  | .int b :: ds, bs, vs, e, r => by
    simp only [intsOf] at e
    obtain ⟨cs, e1, rfl⟩ := Option.map_eq_some_iff.mp e
    obtain ⟨v, rs, rfl, r1, r2⟩ := r
    cases r1
    rw [ints_ok e1 r2]; rfl
  | .non :: _, _, _, e, _ => by cases e
  | .bl _ :: _, _, _, e, _ => by cases e
  | .str _ :: _, _, _, e, _ => by cases e
  | .tup _ :: _, _, _, e, _ => by cases e
  | .lst _ :: _, _, _, e, _ => by cases e
  | .tmp _ :: _, _, _, e, _ => by cases e
  | .fn _ :: _, _, _, e, _ => by cases e
  | .exc _ :: _, _, _, e, _ => by cases e
def rB (c : Cg) (f : Blt) : List V → Hp → VK → Prop := match f with
  | .len => fun xs H Q => (∃ p ys, xs = [.ref p] ∧ (SqL c.K H p ys ∨ SqT c.K H p ys) ∧ Q (.int ys.length) H) ∨ ∃ z, xs = [.str z] ∧ z.length ≤ sizeLine ∧ Q (.int z.length) H
  | .abs => fun xs H Q => ∃ i, xs = [.int i] ∧ Q (.int (if i < 0 then -i else i)) H
  | .max2 => fun xs H Q => ∃ i j, xs = [.int i, .int j] ∧ Q (.int (if j > i then j else i)) H
  | .min2 => fun xs H Q => ∃ i j, xs = [.int i, .int j] ∧ Q (.int (if j < i then j else i)) H
  | .int1 => fun xs H Q => (∃ i, xs = [.int i] ∧ Q (.int i) H) ∨ ∃ k, xs = [.bl k] ∧ Q (.int (if k then 1 else 0)) H
  | .tuple => fun xs H Q => ∃ p ys, xs = [.ref p] ∧ ((SqL c.K H p ys ∧ ∀ l, H l = none → Q (.ref l) (upd H l (.tup ys))) ∨ (SqT c.K H p ys ∧ Q (.ref p) H))
  | .list => fun xs H Q => ∃ p ys, xs = [.ref p] ∧ (SqL c.K H p ys ∨ SqT c.K H p ys) ∧ ∀ l, H l = none → Q (.ref l) (upd H l (.lst ys))
  | .sum => L2.rSum c.K
  | .all => L2.rAll c.K
  | .any => L2.rAny c.K
  | .lrng => fun xs H Q => ∃ n, xs = [.int n] ∧ L2.RgOk 0 n ∧ ∀ q, H q = none → Q (.ref q) (upd H q (.lst (L2.rgV 0 n)))
def bltNm : Blt → Str × Value
  | .len => ("len", .builtin "len") | .abs => ("abs", .builtin "abs") | .max2 => ("max", .builtin "max") | .min2 => ("min", .builtin "min")
  | .int1 => ("int", .type "int") | .tuple => ("tuple", .type "tuple") | .list => ("list", .type "list") | .sum => ("sum", .builtin "sum") | .all => ("all", .builtin "all") | .any => ("any", .builtin "any")
  | .lrng => ("list", .type "list")
/-- built-ins that may ask whether a refusal is handled -/
def bltC : Blt → Bool
  | .max2 => true | .min2 => true | .sum => true | .all => true | .any => true | .lrng => true
  | _ => false
theorem blt_r {X : L2.Cx} (hK : X.K = c.K) (f : Blt) (hc : bltC f = true → X.calm = true) (hf : f ≠ .lrng) : L2.CallR X (bltNm f).2 (rB c f) := by
  cases f with
  | len => exact L2.CallR.or (by rw [← hK]; exact L2.call_len_seq) L2.call_len_str
  | abs => exact L2.call_abs
  | max2 => exact L2.call_max2 (hc rfl)
  | min2 => exact L2.call_min2 (hc rfl)
  | int1 => exact L2.call_int1
  | tuple => show L2.CallR _ _ (fun xs H Q => ∃ p ys, xs = [.ref p] ∧ ((SqL c.K H p ys ∧ _) ∨ (SqT c.K H p ys ∧ _))); rw [← hK]; exact L2.call_tuple_of
  | list => show L2.CallR _ _ (fun xs H Q => ∃ p ys, xs = [.ref p] ∧ (SqL c.K H p ys ∨ SqT c.K H p ys) ∧ _); rw [← hK]; exact L2.call_list_of
  | sum => show L2.CallR _ _ (L2.rSum c.K); rw [← hK]; exact L2.cr_sum (hc rfl)
  | all => show L2.CallR _ _ (L2.rAll c.K); rw [← hK]; exact L2.cr_all (hc rfl)
  | any => show L2.CallR _ _ (L2.rAny c.K); rw [← hK]; exact L2.cr_any (hc rfl)
  | lrng => exact absurd rfl hf
theorem RVs.one (h : RVs c H0 H m mn [x] vs) : ∃ v, vs = [v] ∧ RV c H0 H m mn x v := by
  cases h with
  | cons r rs => cases rs; exact ⟨_, rfl, r⟩
theorem RVs.two (h : RVs c H0 H m mn [x, y] vs) : ∃ v u, vs = [v, u] ∧ RV c H0 H m mn x v ∧ RV c H0 H m mn y u := by
  cases h with
  | cons r rs => obtain ⟨u, rfl, r2⟩ := rs.one; exact ⟨_, _, rfl, r, r2⟩
theorem rgV_rel (n : Int) : RDs c H m ((List.range n.toNat).map fun k : Nat => D.int (k : Int)) (L2.rgV 0 n) := by
  refine RDs.of_get ?_ fun i d v e1 e2 => ?_
  · rw [L2.rgV_length, List.length_map, List.length_range]; congr 1; omega
  · unfold L2.rgV at e2
    rw [List.getElem?_map] at e1 e2
    obtain ⟨k, e3, rfl⟩ := Option.map_eq_some_iff.mp e1
    obtain ⟨k', e4, rfl⟩ := Option.map_eq_some_iff.mp e2
    have h1 := List.getElem?_eq_some_iff.mp e3
    have h2 := List.getElem?_eq_some_iff.mp e4
    obtain ⟨h1, h3⟩ := h1
    obtain ⟨h2, h4⟩ := h2
    rw [List.getElem_range] at h3 h4
    subst h3
    subst h4
    show V.int _ = V.int _
    congr 1
    omega
theorem bltV_ok {f : Blt} (s : S0 c H mo mn old S) (r : RVs c H0 H (mo ++ mn) mn ds vs) (h : Wr c mo W σ (relD c mo H) H mn (bltV old f ds S) Q) : rB c f vs H Q := by
  unfold bltV at h
  split at h
  · obtain ⟨v, rfl, r1⟩ := r.one
    split at h
    · rename_i hz
      cases r1; exact .inr ⟨_, rfl, SL_le hz, h.val s.n rfl⟩
    · exact h.elim
  · obtain ⟨v, rfl, r1⟩ := r.one
    split at h
    · rename_i e
      obtain ⟨a, us, rfl, h1, h2⟩ := r1.seqOf s e
      refine .inl ⟨a, us, rfl, h2.elim (fun q => .inl q.1) fun q => .inr q.1, h.val s.n ?_⟩
      rw [h1.len]; rfl
    · exact h.elim
  · obtain ⟨v, rfl, r1⟩ := r.one; cases r1; exact ⟨_, rfl, h.val s.n rfl⟩
  · obtain ⟨v, u, rfl, r1, r2⟩ := r.two; cases r1; cases r2; exact ⟨_, _, rfl, h.val s.n rfl⟩
  · obtain ⟨v, u, rfl, r1, r2⟩ := r.two; cases r1; cases r2; exact ⟨_, _, rfl, h.val s.n rfl⟩
  · obtain ⟨v, rfl, r1⟩ := r.one; cases r1; exact .inl ⟨_, rfl, h.val s.n rfl⟩
  · obtain ⟨v, rfl, r1⟩ := r.one; cases r1; exact .inr ⟨_, rfl, h.val s.n rfl⟩
  · obtain ⟨v, rfl, r1⟩ := r.one
    split at h
    · rename_i e
      obtain ⟨a, us, rfl, h1, h2⟩ := r1.seqOf s e
      refine ⟨a, us, rfl, ?_⟩
      rcases h2 with ⟨h2, _⟩ | ⟨h2, _⟩
      · exact .inl ⟨h2, fun p hp => h.tup s.n h1 hp⟩
      · exact .inr ⟨h2, h.val s.n ⟨a, us, rfl, h2, h1⟩⟩
    · exact h.elim
  · obtain ⟨v, rfl, r1⟩ := r.one
    split at h
    · rename_i e
      obtain ⟨a, us, rfl, h1, h2⟩ := r1.seqOf s e
      exact ⟨a, us, rfl, h2.elim (fun q => .inl q.1) fun q => .inr q.1, fun p hp => h.tmp s.n h1 hp⟩
    · exact h.elim
  · obtain ⟨v, rfl, r1⟩ := r.one
    split at h
    · exact h.elim
    · rename_i e
      split at h
      · rename_i e2
        obtain ⟨a, us, rfl, h1, h2, _⟩ := r1.lstRo s e
        have h3 := ints_ok e2 h2
        subst h3
        exact ⟨a, _, rfl, h1, h.val s.n rfl⟩
      · exact h.elim
  · obtain ⟨v, rfl, r1⟩ := r.one
    split at h
    · exact h.elim
    · rename_i e
      split at h
      · rename_i e2
        obtain ⟨a, us, rfl, h1, h2, _⟩ := r1.lstRo s e
        have h3 := bools_ok e2 h2
        subst h3
        exact ⟨a, _, rfl, h1, h.val s.n rfl⟩
      · exact h.elim
  · obtain ⟨v, rfl, r1⟩ := r.one
    split at h
    · exact h.elim
    · rename_i e
      split at h
      · rename_i e2
        obtain ⟨a, us, rfl, h1, h2, _⟩ := r1.lstRo s e
        have h3 := bools_ok e2 h2
        subst h3
        exact ⟨a, _, rfl, h1, h.val s.n rfl⟩
      · exact h.elim
  · obtain ⟨v, rfl, r1⟩ := r.one
    cases r1
    split at h
    · rename_i hz
      simp only [Bool.and_eq_true, decide_eq_true_eq] at hz
      refine ⟨_, rfl, ⟨by decide, by decide, by omega, by omega, by omega⟩, fun p hp => h.tmp s.n (rgV_rel _) hp⟩
    · exact h.elim
  · exact h.elim
end
end Z
/-! Z4: subscripts, slices, methods of lists. -/
namespace Z
open PySem PySem.Spec PyProof.Rows
open L2 (V Hp HO upd upd_same upd_ne SqL SqT Rd VK TE TT TA TS Ends WX XK)
section
variable {c : Cg} {H H' H1 H2 H0 Hx Hy : Hp} {m m' mo mn mn' mn1 mn2 : List Addr} {old S S' : Sto} {env : Env} {σ : L2.St} {d x y : D} {v u : V} {ds xs ys zs : List D} {vs us ws : List V} {W : WX} {Q : V → Hp → Prop} {b : Bool}
/-! ### subscripts -/
theorem ixN_eq (n : Nat) (i : Int) : ixN n i = L2.ixN n i := rfl
def rIdx (c : Cg) : L2.R2 := fun x y H Q => L2.rIxL c.K x y H Q ∨ L2.rIxT c.K x y H Q
theorem idx_r {X : L2.Cx} (hK : X.K = c.K) : L2.IxR X (rIdx c) := by
  unfold rIdx
  rw [← hK]
  exact L2.ix_list.or L2.ix_tup
theorem idx_get (s : S0 c H mo mn old S) (rx : RV c Hx H (mo ++ mn) mn x v) (i : Int) (hq : Wr c mo W σ (relD c mo H) H mn (match seqOf old S x with
      | none => .bad
      | some xs => match ixN xs.length i with
        | none => .bad
        | some k => match xs[k]? with
          | some d => .ok d S
          | none => .bad) Q) : rIdx c v (.int i) H Q := by
  cases e : seqOf old S x with
  | none => rw [e] at hq; exact hq.elim
  | some xs =>
    rw [e] at hq
    simp only at hq
    obtain ⟨a, vs, rfl, h1, h2⟩ := rx.seqOf s e
    cases e2 : ixN xs.length i with
    | none => rw [e2] at hq; exact hq.elim
    | some k =>
      rw [e2] at hq
      simp only at hq
      cases e3 : xs[k]? with
      | none => rw [e3] at hq; exact hq.elim
      | some d =>
        rw [e3] at hq
        obtain ⟨u, e4, r⟩ := h1.get e3
        have e5 : L2.atI vs i = some u := by
          unfold L2.atI
          rw [← h1.len, ← ixN_eq, e2]
          exact e4
        have q := hq.val s.n r
        rcases h2 with ⟨h2, _⟩ | ⟨h2, _⟩
        · exact .inl ⟨a, vs, i, u, rfl, rfl, h2, e5, q⟩
        · exact .inr ⟨a, vs, i, u, rfl, rfl, h2, e5, q⟩
theorem idxV_ok (s : S0 c H mo mn old S) (rx : RV c Hx H (mo ++ mn) mn x v) (ry : RV c Hy H (mo ++ mn) mn y u) (h : Wr c mo W σ (relD c mo H) H mn (idxV old x y S) Q) : rIdx c v u H Q := by
  cases y with
  | int i =>
    cases ry
    cases x with
    | str _ => exact h.elim
    | _ => exact idx_get s rx i h
  | _ => exact h.elim
/-! ### slices -/
def rSli (c : Cg) : V → Option Int → Option Int → Hp → VK → Prop := fun x lo hi H Q => L2.rSlA c.K x lo hi H Q ∨ L2.rSlL c.K x lo hi H Q
theorem sli_r {X : L2.Cx} (hK : X.K = c.K) : L2.SlR X (rSli c) := by
  unfold rSli
  rw [← hK]
  exact L2.sl_tupA.or L2.sl_list
theorem sIx_eq (n d : Nat) (o : Option Int) : sIx n d o = HT.sIx n d o := by cases o <;> rfl
theorem cut_rel (r : RDs c H m xs vs) (lo hi : Option Int) : RDs c H m (cut xs lo hi) (L2.cutV vs lo hi) := by
  unfold cut L2.cutV
  rw [sIx_eq, sIx_eq, r.len]
  exact (r.drop _).take _
theorem cut_whole {xs : List D} {lo hi : Option Int} (h : sIx xs.length 0 lo = 0 ∧ sIx xs.length xs.length hi = xs.length) : cut xs lo hi = xs := by
  unfold cut
  rw [h.1, h.2, List.drop_zero, Nat.sub_zero, List.take_length]
theorem sliV_ok {lo hi : Option Int} (s : S0 c H mo mn old S) (rx : RV c Hx H (mo ++ mn) mn x v) (h : Wr c mo W σ (relD c mo H) H mn (sliV old x lo hi S) Q) : rSli c v lo hi H Q := by
  have lst : ∀ x, RV c Hx H (mo ++ mn) mn x v → Wr c mo W σ (relD c mo H) H mn (match lstRo old S x with
    | some xs => .ok (.tmp (cut xs lo hi)) S
    | none => .bad) Q → rSli c v lo hi H Q := by
    intro x rx h
    cases e : lstRo old S x with
    | none => rw [e] at h; exact h.elim
    | some xs =>
      rw [e] at h
      obtain ⟨a, vs, rfl, h1, h2, _⟩ := rx.lstRo s e
      exact .inr ⟨a, vs, rfl, h1, fun p hp => h.tmp s.n (cut_rel h2 _ _) hp⟩
  cases x with
  | tup xs =>
    obtain ⟨a, vs, rfl, h1, h2⟩ := rx
    have r := cut_rel h2 lo hi
    refine .inl ⟨a, vs, rfl, h1, fun hw => ?_, fun hw p hp => Wr.tup s.n h r hp⟩
    rw [← h2.len, ← sIx_eq, ← sIx_eq] at hw
    have h' : Wr c mo W σ (relD c mo H) H mn (.ok (.tup xs) S) Q := by
      have e := cut_whole hw
      have h0 : Wr c mo W σ (relD c mo H) H mn (.ok (.tup (cut xs lo hi)) S) Q := h
      rw [e] at h0; exact h0
    exact h'.val s.n ⟨a, vs, rfl, h1, h2⟩
  | _ => exact lst _ rx h
/-! ### methods -/
theorem RVs.of : ∀ {ds : List D} {vs : List V}, RDs c H m ds vs → RVs c H0 H m mn ds vs
  | [], vs, h => by cases h; exact .nil
  | d :: ds, vs, h => by
    obtain ⟨v, r, rfl, h1, h2⟩ := h
    exact .cons (RV.of h1) (RVs.of h2)
/-- a list of the store's new part is changed -/
theorem wr_ok {a : Nat} {p : Addr} (s : S0 c H mo mn old S) (hp : (mo ++ mn)[a]? = some p) (ha : ¬ a < old.length) (e : S[a - old.length]? = some (.lst xs)) (hH : H p = some (.lst vs)) (r : RDs c H (mo ++ mn) zs ws) :
    Ext mn H mn (upd H p (.lst ws)) ∧ NewOk c (upd H p (.lst ws)) (mo ++ mn) mn (wr old S a zs) := by
  have hm : mn[a - old.length]? = some p := by
    rw [List.getElem?_append_right (by rw [s.o.len]; omega), s.o.len] at hp; exact hp
  have hpm : p ∈ mn := List.mem_of_getElem? hm
  have x : Ext mn H mn (upd H p (.lst ws)) := ⟨List.prefix_rfl, fun b h => .inl h, fun b o h hn => by
    rw [upd_ne (fun z => hn (by rw [z]; exact hpm))]; exact h⟩
  refine ⟨x, s.n.nd, by unfold wr; rw [List.length_set]; exact s.n.len, fun i b hb => ?_⟩
  unfold wr
  rw [List.getElem?_set]
  by_cases hi : a - old.length = i
  · subst hi
    rw [hm] at hb; cases hb
    rw [if_pos rfl, if_pos (List.getElem?_eq_some_iff.mp e).1]
    exact ⟨zs, ws, rfl, upd_same, r.ext x s.n⟩
  · rw [if_neg hi]
    obtain ⟨ys, us, h1, h2, h3⟩ := s.n.at_ i b hb
    have hne : b ≠ p := by
      intro z
      subst z
      apply hi
      have h4 := List.getElem?_eq_some_iff.mp hb
      have h5 := List.getElem?_eq_some_iff.mp hm
      obtain ⟨l4, e4⟩ := h4
      obtain ⟨l5, e5⟩ := h5
      exact (List.getElem_inj s.n.nd).mp (e5.trans e4.symm)
    exact ⟨ys, us, h1, by rw [upd_ne hne]; exact h2, h3.ext x s.n⟩
theorem wr_non {a : Nat} {p : Addr} (s : S0 c H mo mn old S) (hp : (mo ++ mn)[a]? = some p) (ha : ¬ a < old.length) (e : S[a - old.length]? = some (.lst xs)) (hH : H p = some (.lst vs)) (r : RDs c H (mo ++ mn) zs ws)
    (hd : RD c H (mo ++ mn) d v) (h : Wr c mo W σ (relD c mo H) H mn (.ok d (wr old S a zs)) Q) : Q v (upd H p (.lst ws)) := by
  obtain ⟨x, n⟩ := wr_ok s hp ha e hH r
  exact h mn _ _ x n (RV.of (hd.ext x s.n))
theorem wr_none {a : Nat} {p : Addr} (s : S0 c H mo mn old S) (hp : (mo ++ mn)[a]? = some p) (ha : ¬ a < old.length) (e : S[a - old.length]? = some (.lst xs)) (hH : H p = some (.lst vs)) (r : RDs c H (mo ++ mn) zs ws)
    (h : Wr c mo W σ (relD c mo H) H mn (.ok .non (wr old S a zs)) Q) : Q .non (upd H p (.lst ws)) := wr_non (d := .non) s hp ha e hH r rfl h
theorem pair_lst {a : Nat} {ce : Cell} {qs : List PyData} {p : PyData} (s : S0 c H mo mn old S) (e : pair old S (.lst a) y = some (qs, p)) (ea : at_ old S a = some ce) (r : RDs c H (mo ++ mn) ce.xs vs) : L2.DpAll c.K H vs qs := by
  unfold pair at e
  have e0 : toPy old S 60 (.lst a) = (mapO (toPy old S 59) ce.xs).map PyData.list := by
    show (match at_ old S a with
      | some c => (mapO (toPy old S 59) c.xs).map PyData.list
      | none => none) = _
    rw [ea]
  rw [e0] at e
  cases e1 : mapO (toPy old S 59) ce.xs with
  | none => rw [e1] at e; cases e
  | some ps =>
    rw [e1] at e
    simp only [Option.map] at e
    cases e2 : toPy old S 60 y with
    | none => rw [e2] at e; cases e
    | some q =>
      rw [e2] at e
      simp only [Option.some.injEq, Prod.mk.injEq] at e
      obtain ⟨rfl, rfl⟩ := e
      exact (mapO_ok s (toPy_ok s 59) ce.xs ps vs e1 r).1
theorem pair_ok {qs : List PyData} {p : PyData} (s : S0 c H mo mn old S) (rx : RV c Hx H (mo ++ mn) mn x v) (ry : RV c Hy H (mo ++ mn) mn y u) (e : pair old S x y = some (qs, p)) :
    L2.Dp c.K H v (.list qs) ∧ L2.Dp c.K H u p ∧ SeqAt.shaped (.list qs) = true ∧ SeqAt.shaped p = true := by
  unfold pair at e
  cases e1 : toPy old S 60 x with
  | none => rw [e1] at e; cases e
  | some q =>
    rw [e1] at e
    obtain ⟨a1, a2⟩ := toPy_shaped s e1 rx
    cases q with
    | list ps =>
      simp only at e
      cases e2 : toPy old S 60 y with
      | none => rw [e2] at e; cases e
      | some q =>
        rw [e2] at e
        simp only [Option.some.injEq, Prod.mk.injEq] at e
        obtain ⟨rfl, rfl⟩ := e
        obtain ⟨b1, b2⟩ := toPy_shaped s e2 ry
        exact ⟨a1, b1, a2, b2⟩
    | none => cases e
    | bool _ => cases e
    | int _ => cases e
    | str _ => cases e
    | tuple _ => cases e
    | dict _ => cases e
/-- remove, count of things of any depth -/
def rRemD (K : PySem.W.Frag) : V → List V → Hp → VK → Prop := fun x xs H Q => ∃ (a : Addr) (zs : List V) (y : V) (d : PyData) (ds : List PyData) (j : Nat) (z : PyData), x = V.ref a ∧ xs = [y] ∧ H a = some (.lst zs) ∧ L2.DpAll K H zs ds ∧ L2.Dp K H y d ∧
  SeqAt.shaped (.list ds) = true ∧ SeqAt.shaped d = true ∧ ds[j]? = some z ∧ PyData.eqv z d = true ∧ (∀ (m : Nat) (z' : PyData), m < j → ds[m]? = some z' → PyData.eqv z' d = false) ∧ Q .non (upd H a (.lst (zs.eraseIdx j)))
theorem mt_removeD {X : L2.Cx} (hu : X.A.units + 65 < cLine) : L2.MtR X "list.remove" (rRemD X.K) := by
  intro pins s σ H x xs v us Q I rx rxs h
  obtain ⟨a, zs, y, d, ds, j, z, rfl, rfl, hH, ha, hy, sl, sd, hz, hzj, hno, q⟩ := h
  cases rx
  obtain ⟨uy, rfl, ry⟩ := rxs.one
  obtain ⟨bs, r1⟩ := L2.Dp.reads I d y uy hy ry
  have hxs : PyData.canLayAll0 ds = true := SeqAt.canLay_of_shaped sl
  have hroom : X.A.units + 1 + min (PyData.depthAll ds) d.depth < cLine := room_in_shaped sd hu
  obtain ⟨hzl, its, n, r, hl, e⟩ := I.lstM hH
  obtain ⟨as, h4⟩ := L2.Dp.readsAll I ds _ its ha r
  have hn : its.length = ds.length := SeqAt.ReadsAll.length ds its as h4
  have hmap : its.map (SeqAt.readOf s.heap) = ds := SeqAt.readsAll_map ds its as hxs h4
  obtain ⟨hjd, _⟩ := List.getElem?_eq_some_iff.mp hz
  have hjl : j < its.length := by omega
  have hj : j < its.toArray.size := by simpa using hjl
  have at_ : ∀ (m : Nat) (hm : m < its.toArray.size) (z' : PyData), ds[m]? = some z' → SeqAt.readOf s.heap its.toArray[m] = z' := by
    intro m hm z' hz'
    have hml : m < its.length := by simpa using hm
    rw [← hmap, List.getElem?_map, List.getElem?_eq_getElem hml] at hz'
    have e1 : SeqAt.readOf s.heap its[m] = z' := Option.some.inj (show some (SeqAt.readOf s.heap its[m]) = some z' from hz')
    simpa using e1
  refine call_meets PySem.F.slot_list_remove ⟨_, e, rfl⟩ PySem.F.entry_list_remove (PySem.F.args_list_remove_2 _ _)
    (SeqAt.list_removeAt a its.toArray n none _ uy (fun u => PyData.eqv (SeqAt.readOf s.heap u) d) j hj ?_ ?_ (by rw [List.size_toArray]; omega)) ⟨e, SeqAt.items_eqAt (vs := its.toArray) (show ReadsAll s.heap its.toArray.toList ds as from h4) r1 hxs (SeqAt.canLay_of_shaped sd) hroom, ?_⟩
  · show PyData.eqv (SeqAt.readOf s.heap its.toArray[j]) d = true
    rw [at_ j hj z hz]
    exact hzj
  · intro m hm hmj
    have hmd : m < ds.length := by omega
    have hz' : ds[m]? = some ds[m] := List.getElem?_eq_getElem hmd
    show PyData.eqv (SeqAt.readOf s.heap its.toArray[m]) d = false
    rw [at_ m hm _ hz']
    exact hno m _ hmj hz'
  · refine ⟨.non, _, I.lset (its' := its.eraseIdx j) (t' := s.toks) hH e ?_ (r.eraseIdx j) ?_, rfl, q⟩
    · show its.toArray.eraseIdxIfInBounds j = (its.eraseIdx j).toArray
      rw [List.eraseIdxIfInBounds_toArray]
    · have z2 := L2.len_erase zs j
      omega
def rCntD (K : PySem.W.Frag) : V → List V → Hp → VK → Prop := fun x xs H Q => ∃ (a : Addr) (y : V) (d : PyData) (ds : List PyData), x = V.ref a ∧ xs = [y] ∧ L2.Dp K H (V.ref a) (.list ds) ∧ L2.Dp K H y d ∧
  SeqAt.shaped (.list ds) = true ∧ SeqAt.shaped d = true ∧ Q (.int (ds.countP fun z => PyData.eqv z d : Nat)) H
theorem mt_countD {X : L2.Cx} (hu : X.A.units + 65 < cLine) : L2.MtR X "list.count" (rCntD X.K) := by
  intro pins s σ H x xs v us Q I rx rxs h
  obtain ⟨a, y, d, ds, rfl, rfl, hl, hy, sl, sd, q⟩ := h
  cases rx
  obtain ⟨uy, rfl, ry⟩ := rxs.one
  obtain ⟨bs, r1⟩ := L2.Dp.reads I d y uy hy ry
  have hxs : PyData.canLayAll0 ds = true := SeqAt.canLay_of_shaped sl
  have hroom : X.A.units + 1 + min (PyData.depthAll ds) d.depth < cLine := room_in_shaped sd hu
  cases hl with
  | lst hs ha =>
    obtain ⟨its, rv, ⟨⟨cls, dd, data, sls⟩, n, ho, hc, hdn, hdt⟩, hlen⟩ := I.list hs
    simp only at hc hdt
    subst hc hdt
    obtain ⟨as, h4⟩ := L2.Dp.readsAll I ds _ its ha rv
    have hmap : its.map (SeqAt.readOf s.heap) = ds := SeqAt.readsAll_map ds its as hxs h4
    refine call_meets PySem.F.slot_list_count ⟨_, ho, rfl⟩ PySem.F.entry_list_count (PySem.F.args_list_count_2 _ _)
      (SeqAt.list_countAt a its.toArray n dd sls uy (fun u => PyData.eqv (SeqAt.readOf s.heap u) d)) ⟨ho, SeqAt.items_eqAt (vs := its.toArray) (show ReadsAll s.heap its.toArray.toList ds as from h4) r1 hxs (SeqAt.canLay_of_shaped sd) hroom, ?_⟩
    have ec : its.toArray.toList.countP (fun u => PyData.eqv (SeqAt.readOf s.heap u) d) = ds.countP fun z => PyData.eqv z d := by
      rw [← hmap, List.countP_map]; rfl
    refine ⟨.int (ds.countP fun z => PyData.eqv z d : Nat), H, I.tok _, ⟨s.toks, ?_⟩, q⟩
    show Value.int ((its.toArray.toList.countP (fun u => PyData.eqv (SeqAt.readOf s.heap u) d) : Nat) : Int) s.toks = _
    rw [ec]
def rInsert : V → List V → Hp → VK → Prop := fun x vs H Q => ∃ (l : Addr) (xs : List V) (i : Int) (y : V), x = .ref l ∧ vs = [.int i, y] ∧ H l = some (.lst xs) ∧ xs.length < sizeLine ∧ 0 ≤ i ∧ i < 2 ^ 63 ∧
    Q .non (upd H l (.lst (xs.take i.toNat ++ [y] ++ xs.drop i.toNat)))
def rM (c : Cg) (m : Met) : V → List V → Hp → VK → Prop := match m with
  | .append => L2.rAppend
  | .extend => L2.rExtend
  | .pop => L2.rPop
  | .popat => L2.rPopAt
  | .reverse => L2.rReverse
  | .clear => L2.rClear
  | .insert => rInsert
  | .remove => rRemD c.K
  | .index => L2.rIndexD c.K
  | .count => rCntD c.K
def metId : Met → Str × String
  | .append => ("append", "list.append") | .extend => ("extend", "list.extend") | .pop => ("pop", "list.pop") | .popat => ("pop", "list.pop") | .reverse => ("reverse", "list.reverse")
  | .clear => ("clear", "list.clear") | .insert => ("insert", "list.insert") | .remove => ("remove", "list.remove") | .index => ("index", "list.index") | .count => ("count", "list.count")
theorem met_r {X : L2.Cx} (hK : X.K = c.K) (hu : X.A.units + 65 < cLine) (m : Met) : L2.MtR X (metId m).2 (rM c m) := by
  cases m with
  | append => exact L2.mt_append
  | extend => exact L2.mt_extend
  | pop => exact L2.mt_pop
  | popat => exact L2.mt_popAt
  | reverse => exact L2.mt_reverse
  | clear => exact L2.mt_clear
  | insert => exact L2.mt_insert
  | remove => show L2.MtR _ _ (rRemD c.K); rw [← hK]; exact mt_removeD hu
  | index => show L2.MtR _ _ (L2.rIndexD c.K); rw [← hK]; exact L2.mt_indexD hu
  | count => show L2.MtR _ _ (rCntD c.K); rw [← hK]; exact mt_countD hu
theorem met_slot (m : Met) : Slot "list" (metId m).1 (metId m).2 := by
  cases m with
  | append => exact PySem.F.slot_list_append
  | extend => exact PySem.F.slot_list_extend
  | pop => exact PySem.F.slot_list_pop
  | popat => exact PySem.F.slot_list_pop
  | reverse => exact PySem.F.slot_list_reverse
  | clear => exact PySem.F.slot_list_clear
  | insert => exact PySem.F.slot_list_insert
  | remove => exact PySem.F.slot_list_remove
  | index => exact PySem.F.slot_list_index
  | count => exact PySem.F.slot_list_count
theorem met_ty (m : Met) : typeOf (.builtin (metId m).2) = pure (.type "method_descriptor") := by
  cases m with
  | append => exact PySem.F.type_list_append
  | extend => exact PySem.F.type_list_extend
  | pop => exact PySem.F.type_list_pop
  | popat => exact PySem.F.type_list_pop
  | reverse => exact PySem.F.type_list_reverse
  | clear => exact PySem.F.type_list_clear
  | insert => exact PySem.F.type_list_insert
  | remove => exact PySem.F.type_list_remove
  | index => exact PySem.F.type_list_index
  | count => exact PySem.F.type_list_count
theorem first_of {qs : List PyData} {p : PyData} (h : Nat.blt (qs.findIdx fun z => PyData.eqv z p) qs.length = true) :
    ∃ z, qs[qs.findIdx fun z => PyData.eqv z p]? = some z ∧ PyData.eqv z p = true ∧ ∀ (m : Nat) (z' : PyData), m < (qs.findIdx fun z => PyData.eqv z p) → qs[m]? = some z' → PyData.eqv z' p = false := by
  have hl : (qs.findIdx fun z => PyData.eqv z p) < qs.length := Nat.le_of_ble_eq_true h
  refine ⟨_, List.getElem?_eq_getElem hl, List.findIdx_getElem (p := fun z => PyData.eqv z p), fun m z' hm hz => ?_⟩
  obtain ⟨hml, hz⟩ := List.getElem?_eq_some_iff.mp hz
  have := List.not_of_lt_findIdx (p := fun z => PyData.eqv z p) hm
  rw [← hz]
  simpa using this
theorem blt_of {n k : Nat} (h : Nat.blt n k = true) : n < k := Nat.le_of_ble_eq_true h
theorem sl16 : sizeLine = 16777216 := sizeLine_eq
theorem tyV_of {a : Nat} (s : S0 c H mo mn old S) (r : RV c Hx H (mo ++ mn) mn (.lst a) v) {ce : Cell} (e : at_ old S a = some ce) : L2.tyV c.K "list" v H := by
  obtain ⟨p, vs, rfl, h1, _⟩ := r.lstRo (ds := ce.xs) s (by simp only [lstRo, e, Option.map])
  exact .inl ⟨rfl, vs, h1⟩
theorem at_new {a : Nat} (h : ¬ a < old.length) : at_ old S a = S[a - old.length]? := by
  unfold at_
  rw [List.getElem?_append_right (by omega)]
/-- what a method asks -/
theorem metV_ok {mt : Met} (s : S0 c H mo mn old S) (rx : RV c Hx H (mo ++ mn) mn x v) (r : RVs c H0 H (mo ++ mn) mn ds vs) (rh : mt ≠ .extend → RDs c H (mo ++ mn) ds vs) (h : Wr c mo W σ (relD c mo H) H mn (metV old mt x ds S) Q) :
    L2.tyV c.K "list" v H ∧ rM c mt v vs H Q := by
  unfold metV at h
  split at h
  · -- index
    obtain ⟨u, rfl, r1⟩ := r.one
    split at h
    · rename_i qs p e
      obtain ⟨h1, h2, h3, h4⟩ := pair_ok s rx r1 e
      split at h
      · rename_i hb
        obtain ⟨z, f1, f2, f3⟩ := first_of hb
        cases h1 with
        | lst g1 g2 => exact ⟨.inl ⟨rfl, _, g1⟩, _, u, p, qs, _, z, rfl, rfl, .lst g1 g2, h2, h3, h4, f1, f2, f3, h.val s.n rfl⟩
      · exact h.elim
    · exact h.elim
  · -- count
    obtain ⟨u, rfl, r1⟩ := r.one
    split at h
    · rename_i qs p e
      obtain ⟨h1, h2, h3, h4⟩ := pair_ok s rx r1 e
      cases h1 with
      | lst g1 g2 => exact ⟨.inl ⟨rfl, _, g1⟩, _, u, p, qs, rfl, rfl, .lst g1 g2, h2, h3, h4, h.val s.n rfl⟩
    · exact h.elim
  · split at h
    · rename_i a
      split at h
      · exact h.elim
      · rename_i ha
        split at h
        · rename_i xs e
          have ec := (at_new (S := S) ha).trans e
          refine ⟨tyV_of s rx ec, ?_⟩
          obtain ⟨p, vs0, hp, hr, hh⟩ := s.cell ec
          rcases hh with ⟨_, hH⟩ | ⟨z, _⟩
          · obtain ⟨p', hp', rfl⟩ := rx
            rw [hp] at hp'; cases hp'
            simp only [Cell.xs] at hr
            split at h
            · -- append
              obtain ⟨u, rfl, r1⟩ := r.one
              split at h
              · rename_i hb
                have hl := blt_of hb
                exact ⟨p, vs0, u, rfl, rfl, hH, by rw [← hr.len, sl16]; exact hl, wr_none s hp ha e hH (hr.app (rh (by intro z; cases z))) h⟩
              · exact h.elim
            · -- extend
              obtain ⟨u, rfl, r1⟩ := r.one
              split at h
              · rename_i ys ey
                split at h
                · rename_i hb
                  obtain ⟨b, us, rfl, h2, r2⟩ := r1.lstOf s ey
                  exact ⟨p, b, vs0, us, rfl, rfl, hH, h2, by rw [← hr.len, ← r2.len]; exact SL_le hb, wr_none s hp ha e hH (hr.app r2) h⟩
                · exact h.elim
              · exact h.elim
            · -- pop
              cases r
              split at h
              · rename_i y ey
                obtain ⟨u, e1, r1⟩ := hr.get ey
                rw [hr.len] at e1
                exact ⟨p, vs0, u, rfl, rfl, hH, e1, wr_non s hp ha e hH hr.dropLast r1 h⟩
              · exact h.elim
            · -- popat
              obtain ⟨u, rfl, r1⟩ := r.one
              cases r1
              split at h
              · rename_i hb
                have hl := SL_le hb
                split at h
                · rename_i k ek
                  split at h
                  · rename_i y ey
                    rw [ixN_eq, hr.len] at ek
                    obtain ⟨g1, g2, g3, g4⟩ := L2.ixN_seq ek
                    rw [sl16] at hl
                    rw [hr.len] at hl
                    obtain ⟨u, e1, r1⟩ := hr.get ey
                    exact ⟨p, vs0, _, k, u, rfl, rfl, hH, by omega, by omega, g1, e1, wr_non s hp ha e hH (hr.erase k) r1 h⟩
                  · exact h.elim
                · exact h.elim
              · exact h.elim
            · -- insert
              obtain ⟨u, w, rfl, r1, r2⟩ := r.two
              cases r1
              split at h
              · rename_i hb
                simp only [Bool.and_eq_true, decide_eq_true_eq] at hb
                have hl := blt_of hb.2
                exact ⟨p, vs0, _, w, rfl, rfl, hH, by rw [← hr.len, sl16]; exact hl, hb.1.1, by omega, wr_none s hp ha e hH (((hr.take _).app (by obtain ⟨v1, r1, e1, _, e2⟩ := rh (by intro z; cases z); cases e1; exact e2)).app (hr.drop _)) h⟩
              · exact h.elim
            · cases r
              exact ⟨p, vs0, rfl, rfl, hH, wr_none s hp ha e hH hr.rev h⟩
            · cases r
              exact ⟨p, vs0, rfl, rfl, hH, wr_none (zs := []) (ws := []) s hp ha e hH rfl h⟩
            · -- remove
              obtain ⟨u, rfl, r1⟩ := r.one
              split at h
              · rename_i qs q ep
                obtain ⟨h1, h2, h3, h4⟩ := pair_ok (v := .ref p) s (x := .lst a) (Hx := H) ⟨p, hp, rfl⟩ r1 ep
                split at h
                · rename_i hb
                  obtain ⟨z, f1, f2, f3⟩ := first_of hb
                  exact ⟨p, vs0, u, q, qs, _, z, rfl, rfl, hH, pair_lst s ep ec hr, h2, h3, h4, f1, f2, f3, wr_none s hp ha e hH (hr.erase _) h⟩
                · exact h.elim
              · exact h.elim
            · exact h.elim
          · cases z
        · exact h.elim
    · exact h.elim
end
end Z
/-! Z5: enumerate over tuples; what is walked. -/
namespace PySem
open Sem (wp)
open AutoSeq1 (wpAny_loadPart')
theorem z_meets_enum {v : Value} {o : Obj} {H : Heap → Prop} (B : Begins v o H) :
    Meets (Builtin.«enumerate.__new__» ⟨[.type "enumerate", v], []⟩) (fun _ R s => H s.heap ∧
      R (.ok (.ret (.ref (s.heap.push o).objs.size))) { s with heap := (s.heap.push o).push { cls := .type "enumerate", data := .fields #[.none, .bool false, .ref s.heap.objs.size, rawInt 0, .none, .none] } }) :=
  .of_wp fun prog w A R s h => by
    obtain ⟨hp, g, d, tk, os⟩ := s; obtain ⟨h1, h⟩ := h
    have hsub := sub_enumerate
    have q1 : ∀ {A' : Around} {E : Value → Shared → Prop} {Q : Value → Shared → Prop}, Q (.ref hp.objs.size) ⟨hp.push o, g, d, tk, os⟩ → wpAny (model prog w) A' (pyIter v) Q E ⟨hp, g, d, tk, os⟩ :=
      fun q => B.iter prog w _ _ ⟨hp, g, d, tk, os⟩ _ h1 q
    wp_walk using q1
    refine wpAny_stack_any fun st => wpAny_pure ?_
    split
    · rename_i c _ _ _ _ _
      cases (c == Value.type "enumerate")
      · wp_walk using q1
        exact ⟨_, rfl, h⟩
      · wp_walk using q1
        exact ⟨_, rfl, h⟩
    · wp_walk using q1
      exact ⟨_, rfl, h⟩
section
variable {prog : Program} {w : World} {A : Around} {E : Value → Shared → Prop} {s : Shared}
theorem z_enum_begins {v : Value} {o : Obj} {H : Heap → Prop} {Q : Value → Shared → Prop} (B : Begins v o H) (h1 : H s.heap)
    (h : ∀ h', IsEnum h' (s.heap.objs.size + 1) s.heap.objs.size 0 .none → h'.get? s.heap.objs.size = some o → h'.objs.size = s.heap.objs.size + 2 →
      (∀ b o, s.heap.get? b = some o → h'.get? b = some o) → Q (.ref (s.heap.objs.size + 1)) { s with heap := h' }) :
    wpAny (model prog w) A (call (.type "enumerate") [v]) Q E s := by
  refine callType_new F.called_enumerate (by decide) (F.typeCall_enumerate_1 _) (F.newCall_enumerate_1 _) (fun obj => F.args_object_init_2 obj _) F.entry_enumerate_new
    (z_meets_enum B) ⟨h1, ?_⟩
  have hz : (s.heap.push o).objs.size = s.heap.objs.size + 1 := Heap.size_push ..
  show _ ∧ _
  rw [hz]
  have he : IsEnum ((s.heap.push o).push { cls := .type "enumerate", data := .fields #[.none, .bool false, .ref s.heap.objs.size, rawInt 0, .none, .none] }) (s.heap.objs.size + 1) s.heap.objs.size 0 .none := by
    have := Heap.get?_push_size (s.heap.push o) (o := { cls := .type "enumerate", data := .fields #[.none, .bool false, .ref s.heap.objs.size, rawInt 0, .none, .none] }) rfl
    rw [hz] at this; exact this
  refine ⟨⟨_, he, rfl⟩, h _ he (Heap.get?_push_of_some _ (Heap.get?_push_size _ B.free)) (by rw [Heap.size_push, hz]) fun b o x => Heap.get?_push_of_some _ (Heap.get?_push_of_some _ x)⟩
end
end PySem
namespace L2
open PySem PySem.Spec PyProof.Rows
/-- enumerate over the tuple at a -/
def IteT (K : PySem.W.Frag) (a : Addr) : It :=
  ⟨fun i H => ∃ (xs : List V) (x : V), SqT K H a xs ∧ xs[i]? = some x, fun i H v H' => ∃ T x, v = .ref T ∧ H T = none ∧ H' = upd H T (.tup [.int (i : Nat), x]) ∧ ∀ xs, SqT K H a xs → xs[i]? = some x, fun i H => ∃ xs : List V, SqT K H a xs ∧ xs.length = i⟩
theorem turn_enumT {P : Program} {w : World} {K : PySem.W.Frag} {elts : List Expr} {kk : Nat} {tpos : Pos} (a e it : Addr) (hae : a ≠ it) :
    Turn P w K (.Tuple elts kk tpos) (IteT K a) [e, it] e (fun i h => (∃ old, IsEnum h e it ((i : Nat) : Int) old) ∧ h.IsTupleIter it a i ∧ e ≠ it) where
  mem := by simp
  obj := fun i h st b hb => by
    obtain ⟨⟨old, he⟩, ⟨o, ho, hc, hd⟩, _⟩ := st
    have e' : b = e ∨ b = it := by simpa using hb
    rcases e' with z | z
    · rw [z]; exact ⟨_, he, fun v q => nomatch q⟩
    · rw [z]; exact ⟨o, ho, fun v q => by rw [hd] at q; cases q⟩
  keep := fun i h h' st k => let ⟨⟨old, he⟩, hi, hne⟩ := st; ⟨⟨old, k e (by simp) _ he⟩, hi.at fun o q => k it (by simp) o q, hne⟩
  item := by
    intro X hP hw hK hc i pins s σ H E I hf st hg
    subst hP hw hK
    obtain ⟨⟨old, he⟩, hit, hne⟩ := st
    obtain ⟨xs, x, hq, hx⟩ := hg
    obtain ⟨its, rv, p, hz⟩ := I.tuple hq
    obtain ⟨u, hu, ru⟩ := rv.get hx
    have hel : e < s.heap.objs.size := Heap.lt_size he
    have hil : it < s.heap.objs.size := by obtain ⟨_, q, _⟩ := hit; exact Heap.lt_size q
    have hea : e ≠ a := by
      intro z
      subst z
      obtain ⟨o, ho, hcl, _⟩ := p
      rw [he] at ho; cases ho; exact absurd (Value.type.inj hcl) (by decide)
    have hl : i < its.toArray.size := by
      have := (List.getElem?_eq_some_iff.mp hu).1
      simpa using this
    have D := PySem.Draws.tuple (prog := X.prog) (w := X.w) (A := X.A.in1) (by show X.A.handled = none; exact I.ok.hd hc) it a hae its.toArray
    have ht : s.heap.IsTuple a its.toArray := p
    refine wpAny_pyNext_enum_itemD D he ⟨hit, ht⟩ hl hne (by simp [hne, hea]) fun y h' tk hy ho hit' hT hsz hk => ?_
    have hyu : y = u := by
      have e1 : its.toArray[i]? = some u := by simpa using hu
      have e2 : its.toArray[i]? = some y := hy
      rw [e1] at e2
      exact (Option.some.inj e2).symm
    subst hyu
    refine ⟨_, rfl, wpAny_letOwnedTupleGo_enum (s := { s with heap := h', toks := tk + 1 }) ho fun h'' he' sb => ?_⟩
    have hT2 : h''.get? s.heap.objs.size = some { cls := .type "tuple", data := .seq #[.int i tk, y] } := (sb.2 _ (Nat.ne_of_gt hel)).trans hT
    have new : ObjOk X.prog X.w (upd H s.heap.objs.size (.tup [.int (i : Nat), x])) h'' s.heap.objs.size (.tup [.int (i : Nat), x]) :=
      ⟨by show 2 ≤ sizeLine; decide, [.int i tk, y], .cons ⟨_, rfl⟩ (.cons ru .nil), ⟨_, hT2, rfl, _, rfl⟩⟩
    have I1 : Inv X pins σ (upd H s.heap.objs.size (.tup [.int (i : Nat), x])) { s with heap := h'', toks := tk + 1 } :=
      I.turnedNew (ch := [e, it]) (fun b ob hb q => (sb.2 b (fun z => hb (by simp [z]))).trans (hk b ob (fun z => hb (by simp [z])) (fun z => hb (by simp [z])) q)) hf (Nat.le_refl _) new
    refine ⟨.ref s.heap.objs.size, _, I1, rfl, ⟨_, x, rfl, I.hok.fresh (Nat.le_refl _), rfl, fun ys hy => by rw [I.tuple_inj hy hq]; exact hx⟩, ⟨⟨y, ?_⟩, hit'.1.at fun o q => (sb.2 it (Ne.symm hne)).trans q, hne⟩, fun b hb => ?_⟩
    · have e1 : ((i + 1 : Nat) : Int) = (i : Int) + 1 := by omega
      rw [e1]; exact he'
    · have hb' : b < s.heap.objs.size := by
        have e' : b = e ∨ b = it := by simpa using hb
        rcases e' with z | z
        · rw [z]; exact hel
        · rw [z]; exact hil
      rw [upd_ne (Nat.ne_of_lt hb')]
      exact (hf b hb).1
  done := by
    intro X hP hw hK hc i pins s σ H E I hf st hg
    subst hP hw hK
    obtain ⟨⟨old, he⟩, hit, hne⟩ := st
    obtain ⟨xs, hq, hx⟩ := hg
    obtain ⟨its, rv, p, hz⟩ := I.tuple hq
    obtain ⟨f0, f1, f2, f3, f4, f5⟩ := hf it (by simp)
    have hl := rv.length
    have D := PySem.Draws.tuple (prog := X.prog) (w := X.w) (A := X.A.in1) (by show X.A.handled = none; exact I.ok.hd hc) it a hae its.toArray
    have ht : s.heap.IsTuple a its.toArray := p
    have hi : its.toArray.size = i := by simp; omega
    exact wpAny_pyNext_enum_endD D he (by rw [hi]; exact ⟨hit, ht⟩) fun h' eb => ⟨rfl, I.turned (t' := s.toks) (fun b o hb q => eb b o hb q) f0 f1 f3 f4 f5⟩
  self := fun A i s Q E st h => let ⟨⟨_, he⟩, _⟩ := st; wpAny_pyIter_enum he h
def iEnumT (K : PySem.W.Frag) (ta : TA) : TI := fun σ H R => ta σ H fun vs H1 => ∃ a xs, vs = [.ref a] ∧ ((SqL K H1 a xs ∧ R (Ite K a) H1) ∨ (SqT K H1 a xs ∧ R (IteT K a) H1))
theorem pi_enumT {X : Cx} {e : Expr} {ta : TA} {p pos tpos : Pos} {elts : List Expr} {kk : Nat} (hg : Gl X "enumerate") (hm : X.mg "enumerate" = none) (ha : PA X [e] ta) (hs : starEach [e] X.env = [(false, eval e X.env)] := by rfl) :
    PI X (.Tuple elts kk tpos) (.Call (.Name "enumerate" p) [e] [] pos) (iEnumT X.K ta) := by
  refine ⟨fun pins s σ H R I h => ?_⟩
  refine Call_ (ld_blt I hg hm boot_enumerate (PyProof.Rows.callWith_type1 (thn (ha.run pos pins s σ H _ I h) fun us s1 ⟨vs, H1, I1, r1, q1⟩ => ?_) hs rfl))
  obtain ⟨a, xs, ex, hq⟩ := q1
  subst ex
  cases r1 with
  | cons r rr =>
    cases rr
    cases r
    have fp : ∀ b ∈ [s1.heap.objs.size + 1, s1.heap.objs.size], FpOk X pins H1 b := fun b hb => by
      have e' : b = s1.heap.objs.size + 1 ∨ b = s1.heap.objs.size := by simpa using hb
      have hle : s1.heap.objs.size ≤ b := by
        rcases e' with z | z
        · rw [z]; exact Nat.le_add_right _ _
        · rw [z]; exact Nat.le_refl _
      exact I1.fpOk hle (I1.hok.fresh hle)
    rcases hq with ⟨hq, q⟩ | ⟨hq, q⟩
    · obtain ⟨its, rv, p', hz⟩ := I1.list hq
      refine call_enumerate_list p'.isList fun h' he hit hsz hk => wpAny_pyIter_enum he ?_
      have I2 : Inv X pins σ H1 { s1 with heap := h' } := I1.kept (t' := s1.toks) hk
      exact ⟨s1.heap.objs.size + 1, [s1.heap.objs.size + 1, s1.heap.objs.size], _, _, H1, rfl, I2, turn_enum a (s1.heap.objs.size + 1) s1.heap.objs.size, ⟨⟨.none, he⟩, hit, Nat.succ_ne_self _⟩, fp, q⟩
    · obtain ⟨its, rv, p', hz⟩ := I1.tuple hq
      have ht : s1.heap.IsTuple a its.toArray := p'
      refine z_enum_begins (begins_tuple a its.toArray) ht fun h' he ho hsz hk => wpAny_pyIter_enum he ?_
      have I2 : Inv X pins σ H1 { s1 with heap := h' } := I1.kept (t' := s1.toks) hk
      have hal : a ≠ s1.heap.objs.size := by
        obtain ⟨o, h1, _⟩ := ht
        exact Nat.ne_of_lt (Heap.lt_size h1)
      exact ⟨s1.heap.objs.size + 1, [s1.heap.objs.size + 1, s1.heap.objs.size], _, _, H1, rfl, I2, turn_enumT a (s1.heap.objs.size + 1) s1.heap.objs.size hal, ⟨⟨.none, he⟩, ⟨_, ho, rfl, rfl⟩, Nat.succ_ne_self _⟩, fp, q⟩
end L2
/-! Z6: what is walked; loops, comprehensions, blocks: the evaluation gives what the hand layer's readings ask. -/
namespace Z
open PySem PySem.Spec PyProof.Rows
open L2 (V Hp HO upd upd_same upd_ne SqL SqT Rd VK TE TT TA TS Ends WX XK)
abbrev H00 : Hp := fun _ => none
section
variable {c : Cg} {H H' H1 H2 H0 Hx Hy : Hp} {m m' mo mn mn' mn1 mn2 : List Addr} {old S S' : Sto} {env : Env} {σ : L2.St} {d x y : D} {v u : V} {ds xs ys zs : List D} {vs us ws : List V} {W : WX} {Q : V → Hp → Prop} {b : Bool}
inductive ItR (c : Cg) (H : Hp) (m mn : List Addr) : It → L2.It → Prop where
  | seqL {d a} : RV c H00 H m mn d (.ref a) → isT d = false → ItR c H m mn (.seq d) (L2.Itl c.K a)
  | seqT {d a} : RV c H00 H m mn d (.ref a) → isT d = true → ItR c H m mn (.seq d) (L2.Itt c.K a)
  | rng {lo n} : ItR c H m mn (.rng lo 1 n) (L2.Itr lo n)
  | rngC {lo n} : ItR c H m mn (.rng lo (-1) n) (L2.Itc lo (-1) n)
  | enuL {d a} : RV c H00 H m mn d (.ref a) → isT d = false → ItR c H m mn (.enu d) (L2.Ite c.K a)
  | enuT {d a} : RV c H00 H m mn d (.ref a) → isT d = true → ItR c H m mn (.enu d) (L2.IteT c.K a)
  | zipB {d e a b} : RV c H00 H m mn d (.ref a) → RV c H00 H m mn e (.ref b) → ItR c H m mn (.zip d e) (ItzB c.K (isT d) (isT e) a b)
theorem ItR.ext {j : It} {J : L2.It} (x : Ext mn H mn' H') (n : NewOk c H (mo ++ mn) mn S) (r : ItR c H (mo ++ mn) mn j J) : ItR c H' (mo ++ mn') mn' j J := by
  cases r with
  | seqL h1 h2 => exact .seqL (h1.ext x n) h2
  | seqT h1 h2 => exact .seqT (h1.ext x n) h2
  | rng => exact .rng
  | rngC => exact .rngC
  | enuL h1 h2 => exact .enuL (h1.ext x n) h2
  | enuT h1 h2 => exact .enuT (h1.ext x n) h2
  | zipB h1 h2 => exact .zipB (h1.ext x n) (h2.ext x n)
theorem seqL_at (s : S0 c H mo mn old S) (r : RV c Hx H (mo ++ mn) mn d (.ref a)) (ht : isT d = false) (e : seqOf old S d = some xs) : ∃ vs, SqL c.K H a vs ∧ RDs c H (mo ++ mn) xs vs := by
  obtain ⟨b, vs, hb, h1, h2⟩ := r.seqOf s e
  cases hb
  rcases h2 with ⟨h2, _⟩ | ⟨_, h2⟩
  · exact ⟨vs, h2, h1⟩
  · subst h2; cases ht
theorem seqT_at (s : S0 c H mo mn old S) (r : RV c Hx H (mo ++ mn) mn d (.ref a)) (ht : isT d = true) (e : seqOf old S d = some xs) : ∃ vs, SqT c.K H a vs ∧ RDs c H (mo ++ mn) xs vs := by
  cases d with
  | tup ds =>
    obtain ⟨b, vs, hb, h1, h2⟩ := r
    cases hb
    simp only [seqOf, Option.some.injEq] at e
    subst e
    exact ⟨vs, h1, h2⟩
  | _ => cases ht
theorem seqB_at (s : S0 c H mo mn old S) (r : RV c Hx H (mo ++ mn) mn d (.ref a)) (e : seqOf old S d = some xs) : ∃ vs, SqB c.K (isT d) H a vs ∧ RDs c H (mo ++ mn) xs vs := by
  cases h : isT d with
  | true => exact seqT_at s r h e
  | false => exact seqL_at s r h e
/-- a pair of a turn, laid in the heap -/
theorem pair_new {T : Addr} (n : NewOk c H (mo ++ mn) mn S) (hT : H T = none) (h1 : RD c H (mo ++ mn) x v) (h2 : RD c H (mo ++ mn) y u) :
    Ext mn H mn (upd H T (.tup [v, u])) ∧ (∀ b ∈ mn, upd H T (.tup [v, u]) b = H b) ∧ RD c (upd H T (.tup [v, u])) (mo ++ mn) (.tup [x, y]) (.ref T) := by
  have e : Ext mn H mn (upd H T (.tup [v, u])) := Ext.new hT
  refine ⟨e, fun b hb => ?_, T, [v, u], rfl, .inl (.inl upd_same), v, [u], rfl, h1.ext e n, u, [], rfl, h2.ext e n, rfl⟩
  obtain ⟨vs, z⟩ := n.there hb
  exact upd_ne (L2.ne_of_none z hT)
/-- one turn -/
theorem it_step {j : It} {J : L2.It} {k : Nat} (s : S0 c H mo mn old S) (r : ItR c H (mo ++ mn) mn j J) (hk : ∀ ds, j = .enu (.tup ds) → k ≤ ds.length) :
    match j.get old S k with
    | none => True
    | some none => J.stop k H
    | some (some x) => J.go k H ∧ ∀ v H', J.yld k H v H' → Ext mn H mn H' ∧ (∀ b ∈ mn, H' b = H b) ∧ RD c H' (mo ++ mn) x v := by
  cases r with
  | @seqL d a h1 h2 =>
    simp only [It.get]
    cases e : seqOf old S d with
    | none => trivial
    | some xs =>
      obtain ⟨vs, q1, q2⟩ := seqL_at s h1 h2 e
      simp only [Option.map]
      cases e2 : xs[k]? with
      | none => exact ⟨vs, q1, by have := List.getElem?_eq_none_iff.mp e2; rw [q2.len] at this; exact this⟩
      | some x =>
        obtain ⟨v, q3, q4⟩ := q2.get e2
        refine ⟨⟨vs, v, q1, q3⟩, fun v' H' hy => ?_⟩
        obtain ⟨rfl, hy⟩ := hy
        have := hy vs q1
        rw [q3] at this; cases this
        exact ⟨Ext.refl, fun _ _ => rfl, q4⟩
  | @seqT d a h1 h2 =>
    simp only [It.get]
    cases e : seqOf old S d with
    | none => trivial
    | some xs =>
      obtain ⟨vs, q1, q2⟩ := seqT_at s h1 h2 e
      simp only [Option.map]
      cases e2 : xs[k]? with
      | none => exact ⟨vs, q1, by have := List.getElem?_eq_none_iff.mp e2; rw [q2.len] at this; exact this⟩
      | some x =>
        obtain ⟨v, q3, q4⟩ := q2.get e2
        refine ⟨⟨vs, v, q1, q3⟩, fun v' H' hy => ?_⟩
        obtain ⟨rfl, hy⟩ := hy
        have := hy vs q1
        rw [q3] at this; cases this
        exact ⟨Ext.refl, fun _ _ => rfl, q4⟩
  | @rng lo n =>
    simp only [It.get]
    by_cases h : k < n
    · rw [if_pos h]
      refine ⟨h, fun v H' hy => ?_⟩
      obtain ⟨rfl, rfl⟩ := hy
      refine ⟨Ext.refl, fun _ _ => rfl, ?_⟩
      show V.int _ = V.int _
      rw [Int.mul_one]
    · rw [if_neg h]
      exact Nat.le_of_not_lt h
  | @rngC lo n =>
    simp only [It.get]
    by_cases h : k < n
    · rw [if_pos h]
      refine ⟨h, fun v H' hy => ?_⟩
      obtain ⟨rfl, rfl⟩ := hy
      exact ⟨Ext.refl, fun _ _ => rfl, rfl⟩
    · rw [if_neg h]
      exact Nat.le_of_not_lt h
  | @enuL d a h1 h2 =>
    simp only [It.get]
    cases e : seqOf old S d with
    | none => trivial
    | some xs =>
      obtain ⟨vs, q1, q2⟩ := seqL_at s h1 h2 e
      simp only
      cases e2 : xs[k]? with
      | none => exact ⟨vs, q1, by have := List.getElem?_eq_none_iff.mp e2; rw [q2.len] at this; exact this⟩
      | some x =>
        obtain ⟨v, q3, q4⟩ := q2.get e2
        refine ⟨⟨vs, v, q1, q3⟩, fun v' H' hy => ?_⟩
        obtain ⟨T, y, rfl, hT, rfl, hy⟩ := hy
        have := hy vs q1
        rw [q3] at this; cases this
        exact pair_new s.n hT rfl q4
  | @enuT d a h1 h2 =>
    simp only [It.get]
    cases e : seqOf old S d with
    | none => trivial
    | some xs =>
      obtain ⟨vs, q1, q2⟩ := seqT_at s h1 h2 e
      simp only
      cases e2 : xs[k]? with
      | none =>
        have h3 : k ≤ xs.length := by
          cases d with
          | tup ds =>
            simp only [seqOf, Option.some.injEq] at e
            subst e
            exact hk _ rfl
          | _ => cases h2
        have h4 := List.getElem?_eq_none_iff.mp e2
        exact ⟨vs, q1, by rw [← q2.len]; omega⟩
      | some x =>
        obtain ⟨v, q3, q4⟩ := q2.get e2
        refine ⟨⟨vs, v, q1, q3⟩, fun v' H' hy => ?_⟩
        obtain ⟨T, y, rfl, hT, rfl, hy⟩ := hy
        have := hy vs q1
        rw [q3] at this; cases this
        exact pair_new s.n hT rfl q4
  | @zipB d e a b h1 h2 =>
    simp only [It.get]
    cases e1 : seqOf old S d with
    | none => trivial
    | some xs =>
      obtain ⟨vs, q1, q2⟩ := seqB_at s h1 e1
      simp only
      cases e2 : seqOf old S e with
      | none => trivial
      | some ys =>
        obtain ⟨us, p1, p2⟩ := seqB_at s h2 e2
        simp only
        cases f1 : xs[k]? with
        | none => exact ⟨vs, us, q1, p1, .inl (by have := List.getElem?_eq_none_iff.mp f1; rw [q2.len] at this; exact this)⟩
        | some x =>
          cases f2 : ys[k]? with
          | none => exact ⟨vs, us, q1, p1, .inr (by have := List.getElem?_eq_none_iff.mp f2; rw [p2.len] at this; exact this)⟩
          | some y =>
            obtain ⟨v, q3, q4⟩ := q2.get f1
            obtain ⟨u, p3, p4⟩ := p2.get f2
            refine ⟨⟨vs, us, v, u, q1, p1, q3, p3⟩, fun v' H' hy => ?_⟩
            obtain ⟨T, z, w, rfl, hT, rfl, hy, hy2⟩ := hy
            have := hy vs q1
            rw [q3] at this; cases this
            have := hy2 us p1
            rw [p3] at this; cases this
            exact pair_new s.n hT q4 p4
/-! ### targets -/
def semGs : List Nat → L2.TGs
  | [] => L2.gNil
  | i :: is => L2.gCons (L2.gName i) (semGs is)
def semG (c : Cg) : Tg → L2.TG
  | .nm i => L2.gName i
  | .tu is => L2.gTup c.K is.length (semGs is)
theorem setAll_ok : ∀ {is : List Nat} {ds : List D} {vs : List V} {env env1 : Env} {σ : L2.St} {Q : L2.St → Hp → Prop}, setAll is ds env = some env1 → RDs c H m ds vs → EnvOk c H m env σ → (∀ σ1, EnvOk c H m env1 σ1 → (∀ own : List Nat, (∀ i ∈ is, i ∈ own) → L2.wipe σ1 own = L2.wipe σ own) → Q σ1 H) → semGs is vs σ H Q
  | [], [], vs, env, env1, σ, Q, e, r, o, q => by
    simp only [setAll, Option.some.injEq] at e
    subst e
    cases r
    exact ⟨rfl, q σ o fun _ _ => rfl⟩
  | i :: is, d :: ds, vs, env, env1, σ, Q, e, r, o, q => by
    obtain ⟨v, rs, rfl, r1, r2⟩ := r
    simp only [setAll] at e
    refine ⟨v, rs, rfl, ?_⟩
    refine setAll_ok e r2 (o.set r1 i) fun σ1 o1 hw => q σ1 o1 fun own ho => ?_
    rw [hw own fun k hk => ho k (List.mem_cons_of_mem _ hk)]
    exact wipe_set own (ho i List.mem_cons_self)
  | [], _ :: _, _, _, _, _, _, e, _, _, _ => by cases e
  | _ :: _, [], _, _, _, _, _, e, _, _, _ => by cases e
where
  wipe_set {σ : L2.St} {i : Nat} {v : Option V} : ∀ (own : List Nat), i ∈ own → L2.wipe (σ.set i v) own = L2.wipe σ own
    | [], h => by cases h
    | k :: ks, h => by
      show (L2.wipe (σ.set i v) ks).set k none = (L2.wipe σ ks).set k none
      by_cases hk : i ∈ ks
      · rw [wipe_set ks hk]
      · have hik : i = k := by
          rcases List.mem_cons.mp h with h | h
          · exact h
          · exact absurd h hk
        subst hik
        exact wipe_out i ks hk
  wipe_out {σ : L2.St} {v : Option V} (i : Nat) : ∀ (ks : List Nat), i ∉ ks → (L2.wipe (σ.set i v) ks).set i none = (L2.wipe σ ks).set i none
    | [], _ => by
      show (σ.set i v).set i none = σ.set i none
      rw [List.set_set]
    | k :: ks, h => by
      have h1 : k ≠ i := fun z => h (by rw [z]; exact List.mem_cons_self)
      have h2 : i ∉ ks := fun z => h (List.mem_cons_of_mem _ z)
      show ((L2.wipe (σ.set i v) ks).set k none).set i none = ((L2.wipe σ ks).set k none).set i none
      rw [List.set_comm _ _ h1, List.set_comm _ _ h1, wipe_out i ks h2]
def tgIn : Tg → List Nat → Bool
  | .nm i, own => own.contains i
  | .tu is, own => is.all fun i => own.contains i
theorem put_ok {tg : Tg} {env1 : Env} {Q : L2.St → Hp → Prop} (e : tg.put x env = some env1) (r : RD c H m x v) (o : EnvOk c H m env σ)
    (q : ∀ σ1, EnvOk c H m env1 σ1 → (∀ own : List Nat, tgIn tg own = true → L2.wipe σ1 own = L2.wipe σ own) → Q σ1 H) (hl : ∀ is ds, tg = .tu is → x = .tup ds → is.length = ds.length) : semG c tg v σ H Q := by
  cases tg with
  | nm i =>
    simp only [Tg.put, Option.some.injEq] at e
    subst e
    refine q _ (o.set r i) fun own ho => setAll_ok.wipe_set own ?_
    simpa [tgIn] using ho
  | tu is =>
    cases x with
    | tup ds =>
      obtain ⟨a, vs, rfl, h1, h2⟩ := r
      refine ⟨a, vs, rfl, h1, by rw [← h2.len]; exact (hl is ds rfl rfl).symm, setAll_ok e h2 o fun σ1 o1 hw => q σ1 o1 fun own ho => hw own fun i hi => ?_⟩
      have := List.all_eq_true.mp ho i hi
      simpa using this
    | _ => cases e
theorem setAll_len : ∀ {is : List Nat} {ds : List D} {env env1 : Env}, setAll is ds env = some env1 → is.length = ds.length
  | [], [], _, _, _ => rfl
  | i :: is, d :: ds, env, env1, e => by
    rw [List.length_cons, List.length_cons, setAll_len (is := is) (ds := ds) e]
  | [], _ :: _, _, _, e => by cases e
  | _ :: _, [], _, _, e => by cases e
theorem put_len {tg : Tg} {env1 : Env} (e : tg.put x env = some env1) : ∀ is ds, tg = .tu is → x = .tup ds → is.length = ds.length := by
  rintro is ds rfl rfl
  exact setAll_len e
end
end Z
/-! Z7: loops, comprehensions, blocks. -/
namespace Z
open PySem PySem.Spec PyProof.Rows
open L2 (V Hp HO upd upd_same upd_ne SqL SqT Rd VK TE TT TA TS Ends WX XK)
/-- what is wanted behind a block -/
def WO (c : Cg) (mo : List Addr) (W : WX) (old : Sto) (H : Hp) (mn : List Addr) (o : O) (D : Ends) : Prop := match o with
  | .nx env S => ∀ mn' H' σ', Ext mn H mn' H' → StOk c H' mo mn' old S env σ' → D.nx σ' H'
  | .rt d S => ∀ mn' H' v, Ext mn H mn' H' → NewOk c H' (mo ++ mn') mn' S → RV c H H' (mo ++ mn') mn' d v → D.rt v H'
  | .bk env S => ∀ mn' H' σ', Ext mn H mn' H' → StOk c H' mo mn' old S env σ' → D.bk σ' H'
  | .ct env S => ∀ mn' H' σ', Ext mn H mn' H' → StOk c H' mo mn' old S env σ' → D.ct σ' H'
  | .exc x env S => ∀ mn' H' σ' C, Ext mn H mn' H' → StOk c H' mo mn' old S env σ' → c.ca x = some C → W (.ref C) none σ' H'
  | .bad => False
def relI (c : Cg) (mo : List Addr) : Hp → List Addr → It → L2.It → Prop := fun H' mn' j J => ItR c H' (mo ++ mn') mn' j J
section
variable (c : Cg) (W : WX) (cp : Nat → List D → Sto → R D) (ci : Nat → List D → Sto → Sto → R D) (fu : Nat)
def denI (it : I) : L2.TI := fun σ H Q => ∃ old mo mn env S, StOk c H mo mn old S env σ ∧ Wr c mo W σ (relI c mo) H mn (evi cp ci old it env S) Q
def denC (e : Eo) : TT := fun σ H Q => ∃ old mo mn env S, StOk c H mo mn old S env σ ∧ Wr c mo W σ (relE Bool) H mn (evc cp ci old e env S) Q
def denSt (t : T) : TS := fun D σ H => ∃ old mo mn env S, StOk c H mo mn old S env σ ∧ WO c mo W old H mn (ex cp ci old fu t env S) D
def denB (b : B) : TS := fun D σ H => ∃ old mo mn env S, StOk c H mo mn old S env σ ∧ WO c mo W old H mn (exs cp ci old fu b env S) D
end
section
variable {c : Cg} {H H' H1 H2 H0 Hx Hy : Hp} {m m' mo mn mn' mn1 mn2 : List Addr} {old S S' : Sto} {env : Env} {σ : L2.St} {d x y : D} {v u : V} {ds xs ys zs : List D} {vs us ws : List V} {W : WX} {Q : V → Hp → Prop} {b : Bool}
  {cp : Nat → List D → Sto → R D} {ci : Nat → List D → Sto → Sto → R D} {fu : Nat} {D' : Ends}
theorem WO.later {o : O} (x : Ext mn H mn1 H1) (n : NewOk c H1 (mo ++ mn1) mn1 S) (h : WO c mo W old H mn o D') : WO c mo W old H1 mn1 o D' := by
  cases o with
  | nx env S => exact fun mn' H' σ' x' s' => h mn' H' σ' (x.trans x') s'
  | rt d S => exact fun mn' H' v x' n' r' => h mn' H' v (x.trans x') n' (r'.back fun _ => x.free n)
  | bk env S => exact fun mn' H' σ' x' s' => h mn' H' σ' (x.trans x') s'
  | ct env S => exact fun mn' H' σ' x' s' => h mn' H' σ' (x.trans x') s'
  | exc y env S => exact fun mn' H' σ' C x' s' => h mn' H' σ' C (x.trans x') s'
  | bad => exact h
/-- a turn that is taken: the heap may have a pair more -/
theorem S0.turn (s : StOk c H mo mn old S env σ) (x : Ext mn H mn H') (hk : ∀ b ∈ mn, H' b = H b) : StOk c H' mo mn old S env σ := s.ext x (s.n.ext x hk)
theorem w_for {it : I} {tg : Tg} {bo : B} (h : denSt c W cp ci fu (.fo it tg bo) D' σ H) : L2.tFor (denI c W cp ci it) (semG c tg) (denB c W cp ci fu bo) D' σ H := by
  obtain ⟨old, mo, mn, env, S, st, h⟩ := h
  refine ⟨old, mo, mn, env, S, st, ?_⟩
  simp only [ex] at h
  cases ei : evi cp ci old it env S with
  | bad => rw [ei] at h; exact h.elim
  | exc y S1 =>
    rw [ei] at h
    simp only [bndO] at h
    exact fun mn1 H1 C x1 n1 hC => h mn1 H1 σ C x1 (st.ext x1 n1) hC
  | ok j S1 =>
    rw [ei] at h
    simp only [bndO] at h
    intro mn1 H1 J x1 n1 r1
    have h1 : WO c mo W old H1 mn1 (floop old j tg (fun env S => exs cp ci old fu bo env S) (j.size old S1) 0 env S1) D' := WO.later x1 n1 h
    clear h
    refine ⟨fun i m σ2 H2 => ∃ mn2 env2 S2, Ext mn1 H1 mn2 H2 ∧ StOk c H2 mo mn2 old S2 env2 σ2 ∧ i + m = j.size old S1 ∧
      WO c mo W old H1 mn1 (floop old j tg (fun env S => exs cp ci old fu bo env S) m i env2 S2) D', ⟨_, mn1, env, S1, Ext.refl, st.ext x1 n1, Nat.zero_add _, h1⟩, ?_⟩
    rintro i m σ2 H2 ⟨mn2, env2, S2, x2, s2, him, h2⟩
    have r2 := ItR.ext x2 n1 r1
    cases m with
    | zero =>
      simp only [floop] at h2
      have hst := it_step (k := i) s2.s r2 (fun ds z => by subst z; simp only [It.size, seqOf, Option.getD] at him; omega)
      split at h2
      · rename_i e
        rw [e] at hst
        exact .inl ⟨hst, h2 mn2 H2 σ2 x2 s2⟩
      · exact h2.elim
    | succ m =>
      simp only [floop] at h2
      have hst := it_step (k := i) s2.s r2 (fun ds z => by subst z; simp only [It.size, seqOf, Option.getD] at him; omega)
      split at h2
      · exact h2.elim
      · rename_i e
        rw [e] at hst
        exact .inl ⟨hst, h2 mn2 H2 σ2 x2 s2⟩
      · rename_i x e
        rw [e] at hst
        obtain ⟨hgo, hy⟩ := hst
        refine .inr ⟨hgo, fun σ' H' => ∃ m', m' < m + 1 ∧ ∃ mn2 env2 S2, Ext mn1 H1 mn2 H' ∧ StOk c H' mo mn2 old S2 env2 σ' ∧ (i + 1) + m' = j.size old S1 ∧
          WO c mo W old H1 mn1 (floop old j tg (fun env S => exs cp ci old fu bo env S) m' (i + 1) env2 S2) D', fun σ' H' z => z, fun v H3 hyld => ?_⟩
        obtain ⟨x3, k3, rx⟩ := hy v H3 hyld
        have s3 := S0.turn s2 x3 k3
        split at h2
        · exact h2.elim
        · rename_i env3 ep
          refine put_ok ep rx s3.e (fun σ3 o3 _ => ?_) (put_len ep)
          refine ⟨old, mo, mn2, env3, S2, ⟨s3.o, s3.n, o3⟩, ?_⟩
          have x13 := x2.trans x3
          have go : ∀ {env4 : Env} {S4 : Sto}, WO c mo W old H1 mn1 (floop old j tg (fun env S => exs cp ci old fu bo env S) m (i + 1) env4 S4) D' → ∀ mn' H' σ', Ext mn2 H3 mn' H' → StOk c H' mo mn' old S4 env4 σ' →
              ∃ m', m' < m + 1 ∧ ∃ mn2 env2 S2, Ext mn1 H1 mn2 H' ∧ StOk c H' mo mn2 old S2 env2 σ' ∧ (i + 1) + m' = j.size old S1 ∧
              WO c mo W old H1 mn1 (floop old j tg (fun env S => exs cp ci old fu bo env S) m' (i + 1) env2 S2) D' := by
            intro env4 S4 h4 mn' H' σ' x' s'
            exact ⟨m, Nat.lt_succ_self _, mn', env4, S4, x13.trans x', s', by omega, h4⟩
          split at h2
          · rename_i env4 S4 eb
            rw [eb]
            exact go h2
          · rename_i env4 S4 eb
            rw [eb]
            exact go h2
          · rename_i env4 S4 eb
            rw [eb]
            exact fun mn' H' σ' x' s' => h2 mn' H' σ' (x13.trans x') s'
          · rename_i o e1 e2 e3
            have h5 := WO.later x13 s3.n h2
            cases eb : exs cp ci old fu bo env3 S2 with
            | nx a b => exact absurd eb (e1 a b)
            | ct a b => exact absurd eb (e2 a b)
            | bk a b => exact absurd eb (e3 a b)
            | rt d S => rw [eb] at h5; exact h5
            | exc y e S => rw [eb] at h5; exact h5
            | bad => rw [eb] at h5; exact h5.elim
theorem w_while {e : E} {bo : B} (h : denSt c W cp ci fu (.wh e bo) D' σ H) : L2.tWhile (denC c W cp ci (.of e)) (denB c W cp ci fu bo) D' σ H := by
  obtain ⟨old, mo, mn, env, S, st, h⟩ := h
  simp only [ex] at h
  refine ⟨fun m σ2 H2 => ∃ mn2 env2 S2, Ext mn H mn2 H2 ∧ StOk c H2 mo mn2 old S2 env2 σ2 ∧ WO c mo W old H mn (wloop (fun env S => evc cp ci old (.of e) env S) (fun env S => exs cp ci old fu bo env S) m env2 S2) D',
    ⟨fu, mn, env, S, Ext.refl, st, h⟩, ?_⟩
  rintro m σ2 H2 ⟨mn2, env2, S2, x2, s2, h2⟩
  cases m with
  | zero => exact h2.elim
  | succ m =>
    simp only [wloop] at h2
    refine ⟨old, mo, mn2, env2, S2, s2, ?_⟩
    split at h2
    · rename_i S3 e3
      rw [e3]
      intro mn3 H3 b x3 n3 hb
      cases hb
      exact h2 mn3 H3 σ2 (x2.trans x3) (s2.ext x3 n3)
    · rename_i S3 e3
      rw [e3]
      intro mn3 H3 b x3 n3 hb
      cases hb
      have s3 := s2.ext x3 n3
      have x13 := x2.trans x3
      refine ⟨fun σ' H' => ∃ m', m' < m + 1 ∧ ∃ mn2 env2 S2, Ext mn H mn2 H' ∧ StOk c H' mo mn2 old S2 env2 σ' ∧ WO c mo W old H mn (wloop (fun env S => evc cp ci old (.of e) env S) (fun env S => exs cp ci old fu bo env S) m' env2 S2) D',
        fun σ' H' z => z, ⟨old, mo, mn3, env2, S3, s3, ?_⟩⟩
      split at h2
      · rename_i env4 S4 eb
        rw [eb]
        exact fun mn' H' σ' x' s' => ⟨m, Nat.lt_succ_self _, mn', env4, S4, x13.trans x', s', h2⟩
      · rename_i env4 S4 eb
        rw [eb]
        exact fun mn' H' σ' x' s' => ⟨m, Nat.lt_succ_self _, mn', env4, S4, x13.trans x', s', h2⟩
      · rename_i env4 S4 eb
        rw [eb]
        exact fun mn' H' σ' x' s' => h2 mn' H' σ' (x13.trans x') s'
      · rename_i o e1 e2 e5
        have h5 := WO.later x13 s3.n h2
        cases eb : exs cp ci old fu bo env2 S3 with
        | nx a b => exact absurd eb (e1 a b)
        | ct a b => exact absurd eb (e2 a b)
        | bk a b => exact absurd eb (e5 a b)
        | rt d S => rw [eb] at h5; exact h5
        | exc y e S => rw [eb] at h5; exact h5
        | bad => rw [eb] at h5; exact h5.elim
    · rename_i y S3 e3
      rw [e3]
      intro mn3 H3 C x3 n3 hC
      exact h2 mn3 H3 σ2 C (x2.trans x3) (s2.ext x3 n3) hC
    · exact h2.elim
/-! ### comprehensions -/
abbrev WF : WX := fun _ _ _ _ => False
/-- the list that grows is written: tuples and the rest stay -/
theorem tup_upd {p : Addr} {vs ws : List V} (hp : H p = some (.lst vs)) {a : Addr} {xs : List V} (h : SqT c.K H a xs) : SqT c.K (upd H p (.lst ws)) a xs := by
  rcases h with (h | ⟨o, h⟩) | h
  · refine .inl (.inl ?_)
    rw [upd_ne (fun z => by rw [z, hp] at h; cases h)]; exact h
  · refine .inl (.inr ⟨o, ?_⟩)
    rw [upd_ne (fun z => by rw [z, hp] at h; cases h)]; exact h
  · exact .inr h
theorem NewOk.updL {p : Addr} {vs ws : List V} (n : NewOk c H m mn S) (hp : H p = some (.lst vs)) (hn : p ∉ mn) : NewOk c (upd H p (.lst ws)) m mn S := by
  refine ⟨n.nd, n.len, fun i a e => ?_⟩
  obtain ⟨xs, us, h1, h2, h3⟩ := n.at_ i a e
  exact ⟨xs, us, h1, by rw [upd_ne (fun z => hn (by rw [← z]; exact List.mem_of_getElem? e))]; exact h2, h3.mono (fun _ _ q => tup_upd hp q) List.prefix_rfl⟩
theorem w_comp {own_ : List Nat} {it : I} {tg : Tg} {cond : Eo} {elt : E} (ht : tgIn tg own_ = true) (h : den c W cp ci (.comp own_ it tg cond elt) σ H Q) :
    L2.tLc (denI c W cp ci it) (semG c tg) (denC c WF cp ci cond) (den c WF cp ci elt) own_ σ H Q := by
  obtain ⟨old, mo, mn, env, S, st, h⟩ := h
  refine ⟨old, mo, mn, env, S, st, ?_⟩
  simp only [ev] at h
  cases ei : evi cp ci old it env S with
  | bad => rw [ei] at h; exact h.elim
  | exc y S1 => rw [ei] at h; exact h
  | ok j S1 =>
    rw [ei] at h
    simp only [bnd] at h
    intro mn1 H1 J x1 n1 r1 Dd hD
    split at h
    · rename_i hsz
      have hsl := Nat.le_of_ble_eq_true hsz
      have st1 := st.ext x1 n1
      have h1 := Wr.laterD x1 n1 h
      clear h
      have xD : Ext mn1 H1 mn1 (upd H1 Dd (.lst [])) := Ext.new hD
      have nD : NewOk c (upd H1 Dd (.lst [])) (mo ++ mn1) mn1 S1 := n1.new hD
      refine ⟨fun i m H2 => ∃ mn2 S2 dacc acc, Ext mn1 H1 mn2 H2 ∧ NewOk c H2 (mo ++ mn2) mn2 S2 ∧ H2 Dd = some (.lst acc) ∧ Dd ∉ mn2 ∧ RDs c H2 (mo ++ mn2) dacc acc ∧ dacc.length ≤ i ∧ i + m = j.size old S1 ∧
        Wr c mo W σ (relD c mo H1) H1 mn1 (match cloop old j (fun x S => match tg.put x (wipe env own_) with
          | none => .bad
          | some env2 => match evc cp ci old cond env2 S with
            | .ok true S2 => match ev cp ci old elt env2 S2 with
              | .ok y S3 => match own old y S3 with
                | .ok z S4 => .ok (some z) S4
                | _ => .bad
              | _ => .bad
            | .ok false S2 => .ok none S2
            | _ => .bad) m i S2 with
        | .ok ys S2 => .ok (.tmp (dacc ++ ys)) S2
        | _ => .bad) Q, ⟨_, mn1, S1, [], [], xD, nD, upd_same, fun hm => ?_, rfl, Nat.zero_le _, Nat.zero_add _, h1⟩, ?_⟩
      · obtain ⟨us, e⟩ := n1.there hm
        rw [hD] at e; cases e
      · rintro i m H2 ⟨mn2, S2, dacc, acc, x2, n2, hDd, hDn, racc, hlen, him, h2⟩
        have s2 := st1.ext x2 n2
        have r2 := ItR.ext x2 n1 r1
        have hst := it_step (k := i) s2.s r2 (fun ds z => by subst z; simp only [It.size, seqOf, Option.getD] at him; omega)
        have stop : (j.get old S2 i = some none) → Wr c mo W σ (relD c mo H1) H1 mn1 (.ok (.tmp (dacc ++ [])) S2) Q → J.stop i H2 ∧ Q (.ref Dd) H2 := by
          intro e h3
          rw [e] at hst
          rw [List.append_nil] at h3
          exact ⟨hst, h3 mn2 H2 (.ref Dd) x2 n2 ⟨Dd, acc, rfl, hD, hDn, hDd, racc⟩⟩
        cases m with
        | zero =>
          simp only [cloop] at h2
          split at h2
          · rename_i ys S3 e
            split at e
            · rename_i eg
              cases e
              exact .inl (stop eg h2)
            · cases e
          · exact h2.elim
        | succ m =>
          simp only [cloop] at h2
          cases eg : j.get old S2 i with
          | none => rw [eg] at h2; exact h2.elim
          | some g =>
            cases g with
            | none => rw [eg] at h2; exact .inl (stop eg h2)
            | some x =>
              rw [eg] at h2 hst
              simp only at h2
              obtain ⟨hgo, hy⟩ := hst
              refine .inr ⟨hgo, fun H' => ∃ m', m' < m + 1 ∧ ∃ mn2 S2 dacc acc, Ext mn1 H1 mn2 H' ∧ NewOk c H' (mo ++ mn2) mn2 S2 ∧ H' Dd = some (.lst acc) ∧ Dd ∉ mn2 ∧ RDs c H' (mo ++ mn2) dacc acc ∧ dacc.length ≤ i + 1 ∧ (i + 1) + m' = j.size old S1 ∧
                Wr c mo W σ (relD c mo H1) H1 mn1 (match cloop old j (fun x S => match tg.put x (wipe env own_) with
                  | none => .bad
                  | some env2 => match evc cp ci old cond env2 S with
                    | .ok true S2 => match ev cp ci old elt env2 S2 with
                      | .ok y S3 => match own old y S3 with
                        | .ok z S4 => .ok (some z) S4
                        | _ => .bad
                      | _ => .bad
                    | .ok false S2 => .ok none S2
                    | _ => .bad) m' (i + 1) S2 with
                | .ok ys S2 => .ok (.tmp (dacc ++ ys)) S2
                | _ => .bad) Q, fun H' z => z, fun v H3 hyld => ?_⟩
              obtain ⟨x3, k3, rx⟩ := hy v H3 hyld
              have s3 := S0.turn s2 x3 k3
              have x13 := x2.trans x3
              have hD3 : H3 Dd = some (.lst acc) := x3.keep Dd _ hDd hDn
              have racc3 := racc.ext x3 n2
              cases ep : tg.put x (wipe env own_) with
              | none => rw [ep] at h2; exact h2.elim
              | some env2 =>
                rw [ep] at h2
                simp only at h2
                refine put_ok ep rx (s3.e.wipe own_) (fun σ3 o3 hw => ⟨?_, ?_⟩) (put_len ep)
                · rw [hw own_ ht]
                  exact wipe2 σ own_
                · refine ⟨old, mo, mn2, env2, S2, ⟨s3.o, s3.n, o3⟩, ?_⟩
                  cases ec : evc cp ci old cond env2 S2 with
                  | bad => rw [ec] at h2; exact h2.elim
                  | exc y S4 => rw [ec] at h2; exact h2.elim
                  | ok bb S4 =>
                    rw [ec] at h2
                    intro mn4 H4 b4 x4 n4 hb4
                    cases hb4
                    have x14 := x13.trans x4
                    have hD4 : H4 Dd = some (.lst acc) := x4.keep Dd _ hD3 hDn
                    have hDn4 : Dd ∉ mn4 := fun hm => by
                      rcases x4.fresh Dd hm with z | z
                      · exact hDn z
                      · rw [hD3] at z; cases z
                    have racc4 := racc3.ext x4 s3.n
                    cases bb with
                    | false =>
                      simp only at h2
                      rw [if_neg (by decide)]
                      exact ⟨m, Nat.lt_succ_self _, mn4, S4, dacc, acc, x14, n4, hD4, hDn4, racc4, by omega, by omega, h2⟩
                    | true =>
                      simp only at h2
                      rw [if_pos rfl]
                      have s4 : StOk c H4 mo mn4 old S4 env2 σ3 := StOk.ext x4 ⟨s3.o, s3.n, o3⟩ n4
                      refine ⟨old, mo, mn4, env2, S4, s4, ?_⟩
                      cases ee : ev cp ci old elt env2 S4 with
                      | bad => rw [ee] at h2; exact h2.elim
                      | exc y S5 => rw [ee] at h2; exact h2.elim
                      | ok y S5 =>
                        rw [ee] at h2
                        simp only at h2
                        intro mn5 H5 v5 x5 n5 r5
                        have x15 := x14.trans x5
                        have hD5 : H5 Dd = some (.lst acc) := x5.keep Dd _ hD4 hDn4
                        have hDn5 : Dd ∉ mn5 := fun hm => by
                          rcases x5.fresh Dd hm with z | z
                          · exact hDn4 z
                          · rw [hD4] at z; cases z
                        have racc5 := racc4.ext x5 n4
                        have s5 := s4.ext x5 n5
                        obtain ⟨z, S6, eo, mn6, p6, f6, s6, r6, _⟩ := own_ok s5.s r5 s4.o
                        rw [eo] at h2
                        simp only at h2
                        have hDn6 : Dd ∉ mn6 := fun hm => by
                          rcases f6 Dd hm with q | q
                          · exact hDn5 q
                          · rw [hD4] at q; cases q
                        have x6 : Ext mn1 H1 mn6 (upd H5 Dd (.lst (acc ++ [v5]))) := by
                          refine ⟨x15.pre.trans p6, fun a ha => ?_, fun a o e hn => ?_⟩
                          · rcases f6 a ha with q | q
                            · exact x15.fresh a q
                            · exact .inr (x14.free n4 q)
                          · rw [upd_ne (fun q => by rw [q, hD] at e; cases e)]
                            exact x15.keep a o e hn
                        refine ⟨acc, hD5, ?_, m, Nat.lt_succ_self _, mn6, S6, dacc ++ [z], acc ++ [v5], x6, s6.n.updL hD5 hDn6, upd_same, hDn6, ?_, ?_, by omega, ?_⟩
                        · rw [← racc5.len, sl16]
                          omega
                        · refine RDs.app ?_ (RDs.one ?_)
                          · exact racc5.mono (fun _ _ q => tup_upd hD5 q) (pre_app p6)
                          · exact r6.mono (fun _ _ q => tup_upd hD5 q) List.prefix_rfl
                        · rw [List.length_append]; simp; omega
                        · cases eq : cloop old j (fun x S => match tg.put x (wipe env own_) with
                            | none => .bad
                            | some env2 => match evc cp ci old cond env2 S with
                              | .ok true S2 => match ev cp ci old elt env2 S2 with
                                | .ok y S3 => match own old y S3 with
                                  | .ok z S4 => .ok (some z) S4
                                  | _ => .bad
                                | _ => .bad
                              | .ok false S2 => .ok none S2
                              | _ => .bad) m (i + 1) S6 with
                          | ok ys S7 =>
                            rw [eq] at h2
                            simp only at h2 ⊢
                            rw [List.append_assoc]
                            exact h2
                          | exc y S7 => rw [eq] at h2; exact h2.elim
                          | bad => rw [eq] at h2; exact h2.elim
    · exact h.elim
where
  wipe2 (σ : L2.St) : ∀ own : List Nat, L2.wipe (L2.wipe σ own) own = L2.wipe σ own := by
    intro own
    apply List.ext_getElem?
    intro k
    by_cases hk : k ∈ own
    · rw [wipe_at hk, wipe_at hk, L2.wipe_length]
    · rw [L2.wipe_out hk]
  wipe_at {σ : L2.St} {k : Nat} : ∀ {own : List Nat}, k ∈ own → (L2.wipe σ own)[k]? = if k < σ.length then some none else none
    | [], h => by cases h
    | i :: is, h => by
      show ((L2.wipe σ is).set i none)[k]? = _
      rw [List.getElem?_set]
      by_cases hik : i = k
      · rw [if_pos hik, L2.wipe_length]
        subst hik; rfl
      · rw [if_neg hik]
        rcases List.mem_cons.mp h with q | q
        · exact absurd q.symm hik
        · exact wipe_at q
end
end Z
/-! Z8: expressions and statements: the readings. -/
namespace Z
open PySem PySem.Spec PyProof.Rows
open L2 (V Hp HO upd upd_same upd_ne SqL SqT Rd VK TE TT TA TS Ends WX XK)
section
variable {c : Cg} {H H' H1 H2 H0 Hx Hy : Hp} {m m' mo mn mn' mn1 mn2 : List Addr} {old S S' S1 : Sto} {env : Env} {σ : L2.St} {d x y : D} {v u : V} {ds xs ys zs : List D} {vs us ws : List V} {W : WX} {Q : V → Hp → Prop} {b : Bool}
  {cp : Nat → List D → Sto → R D} {ci : Nat → List D → Sto → Sto → R D} {fu : Nat} {D' : Ends} {α β γ δ : Type}
/-- one evaluation, then what hangs on it -/
theorem step {rel1 : Hp → List Addr → α → β → Prop} {relF : Hp → List Addr → γ → δ → Prop} {r : R α} {f : α → Sto → R γ} {QF : δ → Hp → Prop} {Q1 : β → Hp → Prop} (st : StOk c H mo mn old S env σ)
    (h : Wr c mo W σ relF H mn (bnd r f) QF)
    (k : ∀ x S1 mn1 H1 v1, r = .ok x S1 → Ext mn H mn1 H1 → StOk c H1 mo mn1 old S1 env σ → rel1 H1 mn1 x v1 → Wr c mo W σ relF H mn (f x S1) QF → Q1 v1 H1) : Wr c mo W σ rel1 H mn r Q1 := by
  cases r with
  | ok x S1 => exact fun mn1 H1 v1 x1 n1 r1 => k x S1 mn1 H1 v1 rfl x1 (st.ext x1 n1) r1 h
  | exc y S1 => exact h
  | bad => exact h
theorem stepO {rel1 : Hp → List Addr → α → β → Prop} {r : R α} {f : α → Sto → O} {Q1 : β → Hp → Prop} (st : StOk c H mo mn old S env σ)
    (h : WO c mo W old H mn (bndO r env f) D')
    (k : ∀ x S1 mn1 H1 v1, r = .ok x S1 → Ext mn H mn1 H1 → StOk c H1 mo mn1 old S1 env σ → rel1 H1 mn1 x v1 → WO c mo W old H mn (f x S1) D' → Q1 v1 H1) : Wr c mo W σ rel1 H mn r Q1 := by
  cases r with
  | ok x S1 => exact fun mn1 H1 v1 x1 n1 r1 => k x S1 mn1 H1 v1 rfl x1 (st.ext x1 n1) r1 h
  | exc y S1 => exact fun mn1 H1 C x1 n1 hC => h mn1 H1 σ C x1 (st.ext x1 n1) hC
  | bad => exact h
theorem w_var {i : Nat} (h : den c W cp ci (.var i) σ H Q) : L2.tVar i σ H Q := by
  obtain ⟨old, mo, mn, env, S, st, h⟩ := h
  simp only [ev] at h
  split at h
  · rename_i d e
    obtain ⟨v, e1, r⟩ := st.e.at_ i d e
    exact ⟨v, e1, h.val st.n r⟩
  · exact h.elim
theorem w_lit {d : D} (hr : ∀ H m, RD c H m d v) (h : den c W cp ci (.lit d) σ H Q) : L2.tC v σ H Q := by
  obtain ⟨old, mo, mn, env, S, st, h⟩ := h
  simp only [ev] at h
  split at h
  · exact Wr.val (d := d) st.n h (hr H _)
  · exact h.elim
theorem w_glo {d : D} (hr : ∀ H m, RD c H m d v) (h : den c W cp ci (.glo d) σ H Q) : L2.tC v σ H Q := by
  obtain ⟨old, mo, mn, env, S, st, h⟩ := h
  simp only [ev] at h
  split at h
  · exact Wr.val (d := d) st.n h (hr H _)
  · exact h.elim
theorem w_bin {o : Op} {a b : E} (h : den c W cp ci (.bin o a b) σ H Q) : L2.tOp (rOp c o) (den c W cp ci a) (den c W cp ci b) σ H Q := by
  obtain ⟨old, mo, mn, env, S, st, h⟩ := h
  simp only [ev] at h
  refine ⟨old, mo, mn, env, S, st, step st h fun x S1 mn1 H1 v1 _ x1 s1 r1 h1 => ⟨old, mo, mn1, env, S1, s1, ?_⟩⟩
  refine step s1 (h1.laterD x1 s1.n) fun y S2 mn2 H2 v2 _ x2 s2 r2 h2 => ?_
  exact opV_ok s2.s (RV.ext x2 s1.n r1) r2 (h2.laterD x2 s2.n)
theorem w_neg {a : E} (h : den c W cp ci (.neg a) σ H Q) : L2.tUn (L2.rU fun i => .int (-i)) (den c W cp ci a) σ H Q := by
  obtain ⟨old, mo, mn, env, S, st, h⟩ := h
  simp only [ev] at h
  refine ⟨old, mo, mn, env, S, st, step st h fun x S1 mn1 H1 v1 _ x1 s1 r1 h1 => ?_⟩
  split at h1
  · rename_i i _
    cases r1
    exact ⟨i, rfl, Wr.val (d := .int (-i)) s1.n (Wr.laterD x1 s1.n h1) rfl⟩
  · exact h1.elim
theorem w_cmp {o : Cm} {a b : E} (h : den c W cp ci (.cmp o a b) σ H Q) : L2.tOp (rCm c o) (den c W cp ci a) (den c W cp ci b) σ H Q := by
  obtain ⟨old, mo, mn, env, S, st, h⟩ := h
  simp only [ev] at h
  refine ⟨old, mo, mn, env, S, st, step st h fun x S1 mn1 H1 v1 _ x1 s1 r1 h1 => ⟨old, mo, mn1, env, S1, s1, ?_⟩⟩
  refine step s1 (h1.laterD x1 s1.n) fun y S2 mn2 H2 v2 _ x2 s2 r2 h2 => ?_
  split at h2
  · rename_i r e
    exact cmpV_ok s2.s (RV.ext x2 s1.n r1) r2 e (Wr.val (d := .bl r) s2.n (h2.laterD x2 s2.n) rfl)
  · exact h2.elim
theorem w_chn {o p : Cm} {a b d : E} (h : den c W cp ci (.chn o p a b d) σ H Q) : L2.tChain (rCm c o) (rCm c p) (den c W cp ci a) (den c W cp ci b) (den c W cp ci d) σ H Q := by
  obtain ⟨old, mo, mn, env, S, st, h⟩ := h
  simp only [ev] at h
  refine ⟨old, mo, mn, env, S, st, step st h fun x S1 mn1 H1 v1 _ x1 s1 r1 h1 => ⟨old, mo, mn1, env, S1, s1, ?_⟩⟩
  refine step s1 (h1.laterD x1 s1.n) fun y S2 mn2 H2 v2 _ x2 s2 r2 h2 => ?_
  have h3 := Wr.laterD x2 s2.n h2
  split at h3
  · rename_i e
    refine cmpV_ok (Q := fun z H3 => ∃ k, z = .bl k ∧ if k = true then den c W cp ci d σ H3 fun w' H4 => rCm c p v2 w' H4 Q else Q (.bl false) H3) s2.s (RV.ext x2 s1.n r1) r2 e ⟨true, rfl, ?_⟩
    rw [if_pos rfl]
    refine ⟨old, mo, mn2, env, S2, s2, step s2 h3 fun z S3 mn3 H3 v3 _ x3 s3 r3 h4 => ?_⟩
    split at h4
    · rename_i r e4
      exact cmpV_ok s3.s (RV.ext x3 s2.n r2) r3 e4 (Wr.val (d := .bl r) s3.n (h4.laterD x3 s3.n) rfl)
    · exact h4.elim
  · rename_i e
    refine cmpV_ok (Q := fun z H3 => ∃ k, z = .bl k ∧ if k = true then den c W cp ci d σ H3 fun w' H4 => rCm c p v2 w' H4 Q else Q (.bl false) H3) s2.s (RV.ext x2 s1.n r1) r2 e ⟨false, rfl, ?_⟩
    rw [if_neg (by decide)]
    exact Wr.val (d := .bl false) s2.n h3 rfl
  · exact h3.elim
theorem w_and {a b : E} (h : den c W cp ci (.and a b) σ H Q) : L2.tAndV (den c W cp ci a) (den c W cp ci b) σ H Q := by
  obtain ⟨old, mo, mn, env, S, st, h⟩ := h
  simp only [ev] at h
  refine ⟨old, mo, mn, env, S, st, step st h fun x S1 mn1 H1 v1 _ x1 s1 r1 h1 => ?_⟩
  split at h1
  · rename_i k _
    cases r1
    refine ⟨k, rfl, ?_⟩
    cases k with
    | true => rw [if_pos rfl] at h1 ⊢; exact ⟨old, mo, mn1, env, S1, s1, Wr.laterD x1 s1.n h1⟩
    | false => rw [if_neg (by decide)] at h1 ⊢; exact Wr.val (d := .bl false) s1.n (Wr.laterD x1 s1.n h1) rfl
  · exact h1.elim
theorem w_or {a b : E} (h : den c W cp ci (.or a b) σ H Q) : L2.tOrV (den c W cp ci a) (den c W cp ci b) σ H Q := by
  obtain ⟨old, mo, mn, env, S, st, h⟩ := h
  simp only [ev] at h
  refine ⟨old, mo, mn, env, S, st, step st h fun x S1 mn1 H1 v1 _ x1 s1 r1 h1 => ?_⟩
  split at h1
  · rename_i k _
    cases r1
    refine ⟨k, rfl, ?_⟩
    cases k with
    | true => rw [if_pos rfl] at h1 ⊢; exact Wr.val (d := .bl true) s1.n (Wr.laterD x1 s1.n h1) rfl
    | false => rw [if_neg (by decide)] at h1 ⊢; exact ⟨old, mo, mn1, env, S1, s1, Wr.laterD x1 s1.n h1⟩
  · exact h1.elim
theorem w_not {a : E} (h : den c W cp ci (.not a) σ H Q) : L2.tNotV (den c W cp ci a) σ H Q := by
  obtain ⟨old, mo, mn, env, S, st, h⟩ := h
  simp only [ev] at h
  refine ⟨old, mo, mn, env, S, st, step st h fun x S1 mn1 H1 v1 _ x1 s1 r1 h1 => ?_⟩
  split at h1
  · rename_i k _
    cases r1
    exact ⟨k, rfl, Wr.val (d := .bl !k) s1.n (Wr.laterD x1 s1.n h1) rfl⟩
  · exact h1.elim
/-! tests -/
theorem w_evc {e : E} {Q : Bool → Hp → Prop} (h : denC c W cp ci (.of e) σ H Q) : den c W cp ci e σ H fun x H1 => ∃ k, L2.TruV c.K x H1 k ∧ Q k H1 := by
  obtain ⟨old, mo, mn, env, S, st, h⟩ := h
  simp only [evc] at h
  refine ⟨old, mo, mn, env, S, st, step st h fun x S1 mn1 H1 v1 _ x1 s1 r1 h1 => ?_⟩
  split at h1
  · rename_i b e
    exact ⟨b, truth_ok s1.s r1 e, h1 mn1 H1 b x1 s1.n rfl⟩
  · exact h1.elim
theorem w_evcB {e : E} {Q : Bool → Hp → Prop} (h : denC c W cp ci (.of e) σ H Q) (hb : ∀ old env S x S1, ev cp ci old e env S = .ok x S1 → ∃ k, x = .bl k) : den c W cp ci e σ H fun x H1 => ∃ k, x = .bl k ∧ Q k H1 := by
  obtain ⟨old, mo, mn, env, S, st, h⟩ := h
  simp only [evc] at h
  refine ⟨old, mo, mn, env, S, st, step st h fun x S1 mn1 H1 v1 e1 x1 s1 r1 h1 => ?_⟩
  obtain ⟨k, rfl⟩ := hb _ _ _ _ _ e1
  simp only [truth] at h1
  cases r1
  exact ⟨k, rfl, h1 mn1 H1 k x1 s1.n rfl⟩
theorem w_evcAnd {a b : E} {Q : Bool → Hp → Prop} (h : denC c W cp ci (.of (.and a b)) σ H Q) : L2.tAnd (denC c W cp ci (.of a)) (denC c W cp ci (.of b)) σ H Q := by
  obtain ⟨old, mo, mn, env, S, st, h⟩ := h
  refine ⟨old, mo, mn, env, S, st, ?_⟩
  simp only [evc, ev] at h ⊢
  cases e : ev cp ci old a env S with
  | bad => rw [e] at h; exact h.elim
  | exc y S1 => rw [e] at h; exact h
  | ok x S1 =>
    rw [e] at h
    simp only [bnd] at h ⊢
    cases x with
    | bl k =>
      simp only [truth] at h ⊢
      intro mn1 H1 v1 x1 n1 r1
      cases r1
      cases k with
      | true =>
        rw [if_pos rfl] at h ⊢
        refine ⟨old, mo, mn1, env, S1, st.ext x1 n1, ?_⟩
        simp only [evc, bnd]
        exact Wr.later x1 h fun _ _ _ _ q => q
      | false =>
        rw [if_neg (by decide)] at h ⊢
        exact h mn1 H1 false x1 n1 rfl
    | _ => exact h.elim
theorem w_evcOr {a b : E} {Q : Bool → Hp → Prop} (h : denC c W cp ci (.of (.or a b)) σ H Q) : L2.tOr (denC c W cp ci (.of a)) (denC c W cp ci (.of b)) σ H Q := by
  obtain ⟨old, mo, mn, env, S, st, h⟩ := h
  refine ⟨old, mo, mn, env, S, st, ?_⟩
  simp only [evc, ev] at h ⊢
  cases e : ev cp ci old a env S with
  | bad => rw [e] at h; exact h.elim
  | exc y S1 => rw [e] at h; exact h
  | ok x S1 =>
    rw [e] at h
    simp only [bnd] at h ⊢
    cases x with
    | bl k =>
      simp only [truth] at h ⊢
      intro mn1 H1 v1 x1 n1 r1
      cases r1
      cases k with
      | false =>
        rw [if_neg (by decide)] at h ⊢
        refine ⟨old, mo, mn1, env, S1, st.ext x1 n1, ?_⟩
        simp only [evc, bnd]
        exact Wr.later x1 h fun _ _ _ _ q => q
      | true =>
        rw [if_pos rfl] at h ⊢
        exact h mn1 H1 true x1 n1 rfl
    | _ => exact h.elim
theorem w_evcNot {a : E} {Q : Bool → Hp → Prop} (h : denC c W cp ci (.of (.not a)) σ H Q) : L2.tNot (denC c W cp ci (.of a)) σ H Q := by
  obtain ⟨old, mo, mn, env, S, st, h⟩ := h
  refine ⟨old, mo, mn, env, S, st, ?_⟩
  simp only [evc, ev] at h ⊢
  cases e : ev cp ci old a env S with
  | bad => rw [e] at h; exact h.elim
  | exc y S1 => rw [e] at h; exact h
  | ok x S1 =>
    rw [e] at h
    simp only [bnd] at h ⊢
    cases x with
    | bl k =>
      simp only [truth] at h ⊢
      intro mn1 H1 v1 x1 n1 r1
      cases r1
      exact h mn1 H1 _ x1 n1 rfl
    | _ => exact h.elim
theorem w_ife {e a b : E} (h : den c W cp ci (.ife e a b) σ H Q) : L2.tIf (denC c W cp ci (.of e)) (den c W cp ci a) (den c W cp ci b) σ H Q := by
  obtain ⟨old, mo, mn, env, S, st, h⟩ := h
  refine ⟨old, mo, mn, env, S, st, ?_⟩
  simp only [evc, ev] at h ⊢
  cases e1 : ev cp ci old e env S with
  | bad => rw [e1] at h; exact h.elim
  | exc y S1 => rw [e1] at h; exact h
  | ok x S1 =>
    rw [e1] at h
    simp only [bnd] at h ⊢
    cases e2 : truth old S1 x with
    | none => rw [e2] at h; exact h.elim
    | some k =>
      rw [e2] at h
      simp only at h
      intro mn1 H1 v1 x1 n1 r1
      cases r1
      cases k with
      | true => rw [if_pos rfl] at h ⊢; exact ⟨old, mo, mn1, env, S1, st.ext x1 n1, Wr.laterD x1 n1 h⟩
      | false => rw [if_neg (by decide)] at h ⊢; exact ⟨old, mo, mn1, env, S1, st.ext x1 n1, Wr.laterD x1 n1 h⟩
/-! items -/
/-- behind a binding -/
theorem own_st (st : StOk c H mo mn old S env σ) (x1 : Ext mn H mn1 H1) (s1 : StOk c H1 mo mn1 old S1 env σ) (r1 : RV c H H1 (mo ++ mn1) mn1 x v) :
    ∃ y S2, own old x S1 = .ok y S2 ∧ ∃ mn2, Ext mn H mn2 H1 ∧ StOk c H1 mo mn2 old S2 env σ ∧ RD c H1 (mo ++ mn2) y v := by
  obtain ⟨y, S2, e, mn2, p2, f2, s2, r2, _⟩ := own_ok s1.s r1 st.o
  have x2 : Ext mn H mn2 H1 := ⟨x1.pre.trans p2, fun a ha => (f2 a ha).elim (x1.fresh a) .inr, x1.keep⟩
  exact ⟨y, S2, e, mn2, x2, st.ext x2 s2.n, r2⟩
theorem w_evsN {Q : List V → Hp → Prop} (h : denS c W cp ci .nil σ H Q) : L2.tNil σ H Q := by
  obtain ⟨old, mo, mn, env, S, st, h⟩ := h
  exact h mn H [] Ext.refl st.n rfl
theorem w_evs {e : E} {es : Es} {Q : List V → Hp → Prop} (h : denS c W cp ci (.cons e es) σ H Q) : L2.tCons (den c W cp ci e) (denS c W cp ci es) σ H Q := by
  obtain ⟨old, mo, mn, env, S, st, h⟩ := h
  simp only [evs] at h
  refine ⟨old, mo, mn, env, S, st, step st h fun x S1 mn1 H1 v1 _ x1 s1 r1 h1 => ?_⟩
  obtain ⟨y, S2, eo, mn2, x2, s2, r2⟩ := own_st st x1 s1 r1
  rw [eo] at h1
  simp only [bnd] at h1
  refine ⟨old, mo, mn2, env, S2, s2, ?_⟩
  refine step s2 (Wr.later x2 h1 fun _ _ _ _ q => q) fun ys S3 mn3 H3 vs _ x3 s3 r3 h3 => ?_
  exact h3 mn3 H3 (v1 :: vs) x3 s3.n ⟨v1, vs, rfl, r2.ext x3 s2.n, r3⟩
theorem w_evrN {Q : List V → Hp → Prop} (h : denR c W cp ci .nil σ H Q) : L2.tNil σ H Q := by
  obtain ⟨old, mo, mn, env, S, st, h⟩ := h
  exact h mn H [] Ext.refl st.n .nil
theorem RVs.back (h : RVs c H1 H' m mn ds vs) (hb : ∀ a, H1 a = none → H0 a = none) : RVs c H0 H' m mn ds vs := by
  induction h with
  | nil => exact .nil
  | cons r _ ih => exact .cons (r.back hb) ih
theorem w_evr {e : E} {es : Es} {Q : List V → Hp → Prop} (h : denR c W cp ci (.cons e es) σ H Q) : L2.tCons (den c W cp ci e) (denR c W cp ci es) σ H Q := by
  obtain ⟨old, mo, mn, env, S, st, h⟩ := h
  simp only [evr] at h
  refine ⟨old, mo, mn, env, S, st, step st h fun x S1 mn1 H1 v1 _ x1 s1 r1 h1 => ?_⟩
  refine ⟨old, mo, mn1, env, S1, s1, ?_⟩
  refine step (rel1 := relR c mo H1) s1 (Wr.later (rel1 := relR c mo H) x1 h1 fun _ _ _ _ q => q) fun ys S2 mn2 H2 vs _ x2 s2 r2 h2 => ?_
  exact h2 mn2 H2 (v1 :: vs) x2 s2.n (.cons (r1.ext x2 s1.n) (RVs.back r2 fun _ => x1.free s1.n))
theorem w_tup {es : Es} (h : den c W cp ci (.tup es) σ H Q) : L2.tTup (denS c W cp ci es) σ H Q := by
  obtain ⟨old, mo, mn, env, S, st, h⟩ := h
  simp only [ev] at h
  refine ⟨old, mo, mn, env, S, st, step st h fun ds S1 mn1 H1 vs _ x1 s1 r1 h1 => ?_⟩
  have h2 := Wr.laterD x1 s1.n h1
  split at h2
  · rename_i hz
    exact ⟨by rw [← RDs.len r1]; exact SL_le hz, fun p hp => h2.tup s1.n r1 hp⟩
  · exact h2.elim
theorem w_lst {es : Es} (h : den c W cp ci (.lst es) σ H Q) : L2.tLst (denS c W cp ci es) σ H Q := by
  obtain ⟨old, mo, mn, env, S, st, h⟩ := h
  simp only [ev] at h
  refine ⟨old, mo, mn, env, S, st, step st h fun ds S1 mn1 H1 vs _ x1 s1 r1 h1 => ?_⟩
  have h2 := Wr.laterD x1 s1.n h1
  split at h2
  · rename_i hz
    exact ⟨by rw [← RDs.len r1]; exact SL_le hz, fun p hp => h2.tmp s1.n r1 hp⟩
  · exact h2.elim
theorem w_idx {a b : E} (h : den c W cp ci (.idx a b) σ H Q) : L2.tOp (rIdx c) (den c W cp ci a) (den c W cp ci b) σ H Q := by
  obtain ⟨old, mo, mn, env, S, st, h⟩ := h
  simp only [ev] at h
  refine ⟨old, mo, mn, env, S, st, step st h fun x S1 mn1 H1 v1 _ x1 s1 r1 h1 => ⟨old, mo, mn1, env, S1, s1, ?_⟩⟩
  refine step s1 (h1.laterD x1 s1.n) fun y S2 mn2 H2 v2 _ x2 s2 r2 h2 => ?_
  exact idxV_ok s2.s (RV.ext x2 s1.n r1) r2 (h2.laterD x2 s2.n)
theorem w_evoN {Q : Option Int → Hp → Prop} (h : denO c W cp ci .no σ H Q) : L2.tNoPart σ H Q := by
  obtain ⟨old, mo, mn, env, S, st, h⟩ := h
  exact h mn H none Ext.refl st.n rfl
theorem w_evo {e : E} {Q : Option Int → Hp → Prop} (h : denO c W cp ci (.of e) σ H Q) : L2.tPart (den c W cp ci e) σ H Q := by
  obtain ⟨old, mo, mn, env, S, st, h⟩ := h
  simp only [evo] at h
  refine ⟨old, mo, mn, env, S, st, step st h fun x S1 mn1 H1 v1 _ x1 s1 r1 h1 => ?_⟩
  split at h1
  · rename_i i _
    cases r1
    exact ⟨i, rfl, h1 mn1 H1 (some i) x1 s1.n rfl⟩
  · exact h1.elim
theorem w_sli {a : E} {lo hi : Eo} (h : den c W cp ci (.sli a lo hi) σ H Q) : L2.tSl (rSli c) (den c W cp ci a) (denO c W cp ci lo) (denO c W cp ci hi) σ H Q := by
  obtain ⟨old, mo, mn, env, S, st, h⟩ := h
  simp only [ev] at h
  refine ⟨old, mo, mn, env, S, st, step st h fun x S1 mn1 H1 v1 _ x1 s1 r1 h1 => ⟨old, mo, mn1, env, S1, s1, ?_⟩⟩
  refine step s1 (h1.laterD x1 s1.n) fun l S2 mn2 H2 l2 _ x2 s2 r2 h2 => ⟨old, mo, mn2, env, S2, s2, ?_⟩
  cases r2
  refine step s2 (h2.laterD x2 s2.n) fun hh S3 mn3 H3 h3 _ x3 s3 r3 h4 => ?_
  cases r3
  exact sliV_ok s3.s (RV.ext x3 s2.n (RV.ext x2 s1.n r1)) (h4.laterD x3 s3.n)
theorem w_blt {f : Blt} {es : Es} (h : den c W cp ci (.blt f es) σ H Q) : L2.tCB (rB c f) (denR c W cp ci es) σ H Q := by
  obtain ⟨old, mo, mn, env, S, st, h⟩ := h
  simp only [ev] at h
  refine ⟨old, mo, mn, env, S, st, step st h fun ds S1 mn1 H1 vs _ x1 s1 r1 h1 => ?_⟩
  exact bltV_ok s1.s r1 (h1.laterD x1 s1.n)
/-! isinstance -/
def tyNm : Ty → String
  | .int => "int" | .bool => "bool" | .str => "str" | .list => "list" | .tuple => "tuple"
theorem isi_ty {t0 : Ty} {b0 : Bool} (s : S0 c H mo mn old S) (r : RV c H0 H (mo ++ mn) mn x v) (e0 : isiV t0 x = some b0) : ∃ tv, L2.TyX c.K H v tv ∧ ∀ (t : Ty) (b : Bool), isiV t x = some b → PySem.W.kitOne c.K tv (.type (tyNm t)) = some b := by
  cases x with
  | non =>
    cases r
    refine ⟨_, .base .non, fun t b e => ?_⟩
    simp only [isiV, Option.some.injEq] at e
    subst e
    exact L2.kit_ty (by cases t <;> decide +kernel)
  | bl k =>
    cases r
    refine ⟨_, .base (.bl k), fun t b e => L2.kit_ty ?_⟩
    cases t <;> simp only [isiV, Option.some.injEq] at e <;> subst e <;> decide +kernel
  | int k =>
    cases r
    refine ⟨_, .base (.int k), fun t b e => L2.kit_ty ?_⟩
    cases t <;> simp only [isiV, Option.some.injEq] at e <;> subst e <;> decide +kernel
  | str k =>
    cases r
    refine ⟨_, .base (.str k), fun t b e => L2.kit_ty ?_⟩
    cases t <;> simp only [isiV, Option.some.injEq] at e <;> subst e <;> decide +kernel
  | tup ds =>
    obtain ⟨a, vs, rfl, h1, _⟩ := r
    have hk : ∀ (t : Ty) (b : Bool), isiV t (.tup ds) = some b → L2.kitB "tuple" (tyNm t) = some b := fun t b e => by cases t <;> simp only [isiV, Option.some.injEq] at e <;> subst e <;> decide +kernel
    refine ⟨.type "tuple", ?_, fun t b e => L2.kit_ty (hk t b e)⟩
    rcases h1 with (h1 | ⟨o, h1⟩) | ⟨o, _, _, h1, h2, _⟩
    · exact .base (.tup h1)
    · exact .fTuple h1
    · exact .kTuple h1 h2
  | lst a =>
    have hk : ∀ (t : Ty) (b : Bool), isiV t (.lst a) = some b → L2.kitB "list" (tyNm t) = some b := fun t b e => by cases t <;> simp only [isiV, Option.some.injEq] at e <;> subst e <;> decide +kernel
    refine ⟨.type "list", ?_, fun t b e => L2.kit_ty (hk t b e)⟩
    obtain ⟨p, hp, rfl⟩ := r
    have hl : a < (mo ++ mn).length := (List.getElem?_eq_some_iff.mp hp).1
    have hl2 : a < (old ++ S).length := by
      rw [List.length_append] at hl ⊢
      rw [← s.o.len, ← s.n.len]; exact hl
    obtain ⟨q, vs, hq, _, hh⟩ := s.cell (i := a) (ce := (old ++ S)[a]) (List.getElem?_eq_getElem hl2)
    rw [hp] at hq; cases hq
    rcases hh with ⟨_, hh⟩ | ⟨_, hh⟩
    · exact .base (.lst hh)
    · rcases hh with ⟨o, hh⟩ | ⟨o, _, _, h1, h2, _⟩
      · exact .base (.frz hh)
      · exact .kList h1 h2
  | tmp xs =>
    have hk : ∀ (t : Ty) (b : Bool), isiV t (.tmp xs) = some b → L2.kitB "list" (tyNm t) = some b := fun t b e => by cases t <;> simp only [isiV, Option.some.injEq] at e <;> subst e <;> decide +kernel
    refine ⟨.type "list", ?_, fun t b e => L2.kit_ty (hk t b e)⟩
    obtain ⟨a, vs, rfl, _, _, h1, _⟩ := r
    exact .base (.lst h1)
  | fn k => cases e0
  | exc k => cases e0
theorem isi2_ty (s : S0 c H mo mn old S) (r : RV c H0 H (mo ++ mn) mn x v) (e : isi2V x = some b) : ∃ tv, L2.TyX c.K H v tv ∧ PySem.W.kitAny c.K tv [.type "tuple", .type "list"] = some b := by
  unfold isi2V at e
  split at e
  · rename_i b1 e1
    split at e
    · rename_i b2 e2
      cases e
      obtain ⟨tv, t1, t2⟩ := isi_ty s r e1
      have k1 : PySem.W.kitOne c.K tv (.type "tuple") = some b1 := t2 .tuple b1 e1
      have k2 : PySem.W.kitOne c.K tv (.type "list") = some b2 := t2 .list b2 e2
      refine ⟨tv, t1, L2.kitAny_cons k1 (fun h => L2.kitAny_cons k2 (fun h2 => by rw [h, h2]; exact L2.kitAny_nil) fun h2 => by rw [h, h2]; rfl) fun h => by rw [h]; rfl⟩
    · cases e
  · cases e
theorem w_isi2 {a : E} (h : den c W cp ci (.isi2 a) σ H Q) : L2.tCB (L2.rIsiT c.K) (L2.tCons (den c W cp ci a) (L2.tCons (L2.tTup (L2.tCons (L2.tC (.ty "tuple")) (L2.tCons (L2.tC (.ty "list")) L2.tNil))) L2.tNil)) σ H Q := by
  obtain ⟨old, mo, mn, env, S, st, h⟩ := h
  simp only [ev] at h
  refine ⟨old, mo, mn, env, S, st, step st h fun x S1 mn1 H1 v1 _ x1 s1 r1 h1 => ?_⟩
  split at h1
  · rename_i b e
    refine ⟨by show 2 ≤ sizeLine; rw [sizeLine_eq]; omega, fun p hp => ?_⟩
    have x2 : Ext mn1 H1 mn1 (upd H1 p (.tup [.ty "tuple", .ty "list"])) := Ext.new hp
    have n2 := s1.n.new (o := .tup [.ty "tuple", .ty "list"]) hp
    obtain ⟨tv, t1, t2⟩ := isi2_ty (s1.s.ext x2 n2) (RV.ext x2 s1.n r1) e
    exact ⟨v1, p, [.ty "tuple", .ty "list"], tv, [.type "tuple", .type "list"], b, rfl, upd_same, .cons (.ty _) (.cons (.ty _) .nil), t1, t2, Wr.val (d := .bl b) n2 ((h1.laterD x1 s1.n).laterD x2 n2) rfl⟩
  · exact h1.elim
theorem w_isi {a : E} {t : Ty} (h : den c W cp ci (.isi a t) σ H Q) : L2.tCB (L2.rIsi c.K) (L2.tCons (den c W cp ci a) (L2.tCons (L2.tC (.ty (tyNm t))) L2.tNil)) σ H Q := by
  obtain ⟨old, mo, mn, env, S, st, h⟩ := h
  simp only [ev] at h
  refine ⟨old, mo, mn, env, S, st, step st h fun x S1 mn1 H1 v1 _ x1 s1 r1 h1 => ?_⟩
  split at h1
  · rename_i b e
    obtain ⟨tv, t1, t2⟩ := isi_ty s1.s r1 e
    exact ⟨v1, .ty (tyNm t), tv, .type (tyNm t), b, rfl, .ty _, t1, t2 t b e, Wr.val (d := .bl b) s1.n (h1.laterD x1 s1.n) rfl⟩
  · exact h1.elim
/-! methods -/
theorem tyV_lst {a : Nat} (s : S0 c H mo mn old S) (r : RV c Hx H (mo ++ mn) mn (.lst a) v) : L2.tyV c.K "list" v H := by
  obtain ⟨p, hp, rfl⟩ := id r
  have hl : a < (mo ++ mn).length := (List.getElem?_eq_some_iff.mp hp).1
  have hl2 : a < (old ++ S).length := by
    rw [List.length_append] at hl ⊢
    rw [← s.o.len, ← s.n.len]; exact hl
  exact tyV_of s r (ce := (old ++ S)[a]) (List.getElem?_eq_getElem hl2)
theorem w_met {mt : Met} {o : E} {es : Es} (h : den c W cp ci (.met mt o es) σ H Q) : L2.tBM c.K "list" (rM c mt) (den c W cp ci o) (denS c W cp ci es) σ H Q := by
  obtain ⟨old, mo, mn, env, S, st, h⟩ := h
  simp only [ev] at h
  refine ⟨old, mo, mn, env, S, st, step st h fun x S1 mn1 H1 v1 _ x1 s1 r1 h1 => ?_⟩
  split at h1
  · rename_i a _
    refine ⟨tyV_lst s1.s r1, old, mo, mn1, env, S1, s1, ?_⟩
    refine step s1 (h1.laterD x1 s1.n) fun ds S2 mn2 H2 vs _ x2 s2 r2 h2 => ?_
    exact (metV_ok s2.s (RV.ext x2 s1.n r1) (RVs.of (H0 := H2) r2) (fun _ => r2) (h2.laterD x2 s2.n)).2
  · exact h1.elim
theorem w_met0 {mt : Met} {o : E} (h : den c W cp ci (.met mt o .nil) σ H Q) : L2.tBM0 c.K "list" (rM c mt) (den c W cp ci o) σ H Q := by
  obtain ⟨old, mo, mn, env, S, st, h⟩ := h
  simp only [ev] at h
  refine ⟨old, mo, mn, env, S, st, step st h fun x S1 mn1 H1 v1 _ x1 s1 r1 h1 => ?_⟩
  split at h1
  · rename_i a _
    refine ⟨tyV_lst s1.s r1, ?_⟩
    simp only [evs, bnd] at h1
    exact (metV_ok s1.s r1 (RVs.nil (H0 := H1)) (fun _ => rfl) (h1.laterD x1 s1.n)).2
  · exact h1.elim
theorem w_ext {o e : E} (h : den c W cp ci (.ext o e) σ H Q) : L2.tBM c.K "list" (rM c .extend) (den c W cp ci o) (L2.tCons (den c W cp ci e) L2.tNil) σ H Q := by
  obtain ⟨old, mo, mn, env, S, st, h⟩ := h
  simp only [ev] at h
  refine ⟨old, mo, mn, env, S, st, step st h fun x S1 mn1 H1 v1 _ x1 s1 r1 h1 => ?_⟩
  split at h1
  · rename_i a _
    refine ⟨tyV_lst s1.s r1, old, mo, mn1, env, S1, s1, ?_⟩
    refine step s1 (h1.laterD x1 s1.n) fun y S2 mn2 H2 v2 _ x2 s2 r2 h2 => ?_
    exact (metV_ok s2.s (RV.ext x2 s1.n r1) (.cons r2 .nil) (fun z => absurd rfl z) (h2.laterD x2 s2.n)).2
  · exact h1.elim
end
end Z
/-! Z9: calls, statements. -/
namespace Z
open PySem PySem.Spec PyProof.Rows
open L2 (V Hp HO upd upd_same upd_ne SqL SqT Rd VK TE TT TA TS Ends WX XK)
/-- a pure call's answer of a call's -/
def tid (S : Sto) (r : R D) : R D := match r with
  | .ok d more => tidy S d more
  | .exc c _ => .exc c []
  | .bad => .bad
theorem cP_eq (G : Tab) (n f : Nat) (vs : List D) (S : Sto) : cP G n f vs S = tid S (cI G n f vs S []) := by
  cases n with
  | zero => rfl
  | succ n =>
    simp only [cP, cI]
    cases G.fns f with
    | none => rfl
    | some fn =>
      simp only
      cases h : Nat.beq vs.length fn.ar with
      | false => rfl
      | true =>
        simp only [if_true]
        cases fin (exs (cP G n) (cI G n) S G.fu fn.body (start fn.n vs) []) <;> rfl
section
variable {c : Cg} {H H' H1 H2 H0 Hx Hy : Hp} {m m' mo mn mn' mn1 mn2 : List Addr} {old S S' S1 : Sto} {env : Env} {σ : L2.St} {d x y : D} {v u : V} {ds xs ys zs : List D} {vs us ws : List V} {W : WX} {Q : V → Hp → Prop} {b : Bool}
  {cp : Nat → List D → Sto → R D} {ci : Nat → List D → Sto → Sto → R D} {fu : Nat} {D' : Ends} {α β γ δ : Type}
/-- a def's promise -/
def spF (c : Cg) (ci : Nat → List D → Sto → Sto → R D) (ar f : Nat) : L2.Sp := fun vs H Q E => vs.length = ar ∧ ∃ old mo mn S ds, S0 c H mo mn old S ∧ RDs c H (mo ++ mn) ds vs ∧
  Wr c mo (fun C d _ H' => E C d H') [] (relD c mo H) H mn (ci f ds old S) Q
mutual
theorem RD.pure : ∀ {d : D} {v : V}, d.pure = true → RD c H m d v → RD c H m' d v
  | .non, v, _, h => h
  | .bl _, v, _, h => h
  | .int _, v, _, h => h
  | .str _, v, _, h => h
  | .tup ds, v, hp, h => by
    obtain ⟨a, vs, e, h1, h2⟩ := h
    exact ⟨a, vs, e, h1, RDs.pure (by simpa [D.pure] using hp) h2⟩
  | .lst _, v, hp, _ => by simp [D.pure] at hp
  | .tmp _, v, hp, _ => by simp [D.pure] at hp
  | .fn _, v, _, h => h
  | .exc _, v, _, h => h
theorem RDs.pure : ∀ {ds : List D} {vs : List V}, D.pureAll ds = true → RDs c H m ds vs → RDs c H m' ds vs
  | [], vs, _, h => h
  | d :: ds, vs, hp, h => by
    obtain ⟨v, r, e, h1, h2⟩ := h
    have hp' : d.pure = true ∧ D.pureAll ds = true := by simpa [D.pureAll] using hp
    exact ⟨v, r, e, RD.pure hp'.1 h1, RDs.pure hp'.2 h2⟩
end
/-- all that stood stands: the store is kept -/
theorem keep_n (n : NewOk c H (mo ++ mn) mn S) (x : Ext [] H mn' H') : Ext mn H mn H' ∧ NewOk c H' (mo ++ mn) mn S := by
  have e : Ext mn H mn H' := ⟨List.prefix_rfl, fun a h => .inl h, fun a o h _ => x.keep a o h (by simp)⟩
  refine ⟨e, n.ext e fun a ha => ?_⟩
  obtain ⟨vs, h⟩ := n.there ha
  rw [h]
  exact x.keep a _ h (by simp)
/-- what the callee has made is taken over -/
theorem join_n (n : NewOk c H (mo ++ mn) mn S) (x : Ext [] H mn' H') (n' : NewOk c H' ((mo ++ mn) ++ mn') mn' S') : Ext mn H (mn ++ mn') H' ∧ NewOk c H' (mo ++ (mn ++ mn')) (mn ++ mn') (S ++ S') := by
  have fr : ∀ a ∈ mn', H a = none := fun a ha => (x.fresh a ha).resolve_left (by simp)
  have e : Ext mn H (mn ++ mn') H' := ⟨⟨mn', rfl⟩, fun a h => (List.mem_append.mp h).elim .inl fun h => .inr (fr a h), fun a o h _ => x.keep a o h (by simp)⟩
  have e0 := (keep_n n x)
  refine ⟨e, ?_, by rw [List.length_append, List.length_append, n.len, n'.len], fun i a hi => ?_⟩
  · refine List.nodup_append.mpr ⟨n.nd, n'.nd, fun a ha b hb z => ?_⟩
    subst z
    obtain ⟨vs, h⟩ := n.there ha
    rw [fr a hb] at h; cases h
  · by_cases hl : i < mn.length
    · rw [List.getElem?_append_left hl] at hi
      obtain ⟨xs, vs, h1, h2, h3⟩ := e0.2.at_ i a hi
      refine ⟨xs, vs, by rw [List.getElem?_append_left (by rw [← n.len]; exact hl)]; exact h1, h2, h3.mono (fun _ _ q => q) (pre_app ⟨mn', rfl⟩)⟩
    · rw [List.getElem?_append_right (by omega)] at hi
      obtain ⟨xs, vs, h1, h2, h3⟩ := n'.at_ _ a hi
      refine ⟨xs, vs, by rw [List.getElem?_append_right (by rw [← n.len]; omega), ← n.len]; exact h1, h2, ?_⟩
      rw [← List.append_assoc]; exact h3
/-- tidying -/
theorem tidy_ok {d2 : D} {more more2 : Sto} (s : S0 c H mo mn old S) (x : Ext [] H mn' H') (n' : NewOk c H' ((mo ++ mn) ++ mn') mn' more) (r : RV c H H' ((mo ++ mn) ++ mn') mn' d v) (e : tidy (old ++ S) d more = .ok d2 more2) :
    ∃ mn2, Ext mn H mn2 H' ∧ NewOk c H' (mo ++ mn2) mn2 (S ++ more2) ∧ RV c H H' (mo ++ mn2) mn2 d2 v := by
  have K := keep_n s.n x
  have J := join_n s.n x n'
  have fr : ∀ a ∈ mn', H a = none := fun a ha => (x.fresh a ha).resolve_left (by simp)
  have small : ∀ {d : D}, RV c H H' (mo ++ mn) mn d v → ∃ mn2, Ext mn H mn2 H' ∧ NewOk c H' (mo ++ mn2) mn2 (S ++ []) ∧ RV c H H' (mo ++ mn2) mn2 d v := fun r => ⟨mn, K.1, by rw [List.append_nil]; exact K.2, r⟩
  have big : ∀ {d : D}, RV c H H' (mo ++ (mn ++ mn')) (mn ++ mn') d v → ∃ mn2, Ext mn H mn2 H' ∧ NewOk c H' (mo ++ mn2) mn2 (S ++ more) ∧ RV c H H' (mo ++ mn2) mn2 d v := fun r => ⟨mn ++ mn', J.1, J.2, r⟩
  have nmn : ∀ a, H a = none → a ∉ mn := fun a h ha => by
    obtain ⟨vs, z⟩ := s.n.there ha
    rw [h] at z; cases z
  cases d with
  | tmp xs =>
    obtain ⟨a, vs, rfl, h0, hn, h1, h2⟩ := r
    simp only [tidy] at e
    split at e
    · rename_i hp
      cases e
      exact small ⟨a, vs, rfl, h0, nmn a h0, h1, h2.pure hp⟩
    · cases e
      refine big ⟨a, vs, rfl, h0, fun hm => ?_, h1, by rw [← List.append_assoc]; exact h2⟩
      rcases List.mem_append.mp hm with q | q
      · exact nmn a h0 q
      · exact hn q
  | lst i =>
    obtain ⟨a, ha, rfl⟩ := r
    have hlen : (mo ++ mn).length = (old ++ S).length := by rw [List.length_append, List.length_append, s.o.len, s.n.len]
    simp only [tidy] at e
    split at e
    · rename_i hi
      cases e
      refine small (d := .lst i) ⟨a, ?_, rfl⟩
      rw [List.getElem?_append_left (by rw [hlen]; exact hi)] at ha
      exact ha
    · rename_i hi
      rw [List.getElem?_append_right (by rw [hlen]; omega), hlen] at ha
      split at e
      · rename_i xs ex
        obtain ⟨ys, vs, g1, g2, g3⟩ := n'.at_ _ a ha
        rw [ex] at g1; cases g1
        have ham := List.mem_of_getElem? ha
        split at e
        · rename_i hp
          cases e
          exact small ⟨a, vs, rfl, fr a ham, nmn a (fr a ham), g2, g3.pure hp⟩
        · cases e
          refine big (d := .lst i) ⟨a, ?_, rfl⟩
          rw [← List.append_assoc, List.getElem?_append_right (by rw [hlen]; omega), hlen]
          exact ha
      · cases e
  | tup ds =>
    simp only [tidy] at e
    split at e
    · rename_i hp
      cases e
      exact small (RV.of (RD.pure hp r))
    · cases e
      refine big (RV.of ?_)
      rw [← List.append_assoc]; exact r
  | non => cases e; exact small (d := .non) r
  | bl _ => cases e; exact small (d := .bl _) r
  | int _ => cases e; exact small (d := .int _) r
  | str _ => cases e; exact small (d := .str _) r
  | fn _ => cases e; exact small (d := .fn _) r
  | exc _ => cases e; exact small (d := .exc _) r
theorem w_calli {ar f : Nat} {es : Es} (hl : ∀ es env old S ds S1, evs cp ci old es env S = .ok ds S1 → True) (h : den c W cp ci (.calli f es) σ H Q) (har : ∀ (ds : List D) (old S : Sto), ci f ds old S ≠ .bad → ds.length = ar) :
    L2.tCallS (spF c ci ar f) (L2.WE W) (denS c W cp ci es) σ H Q := by
  obtain ⟨old, mo, mn, env, S, st, h⟩ := h
  simp only [ev] at h
  refine ⟨old, mo, mn, env, S, st, step st h fun ds S1 mn1 H1 vs _ x1 s1 r1 h1 => ?_⟩
  have h2 := Wr.laterD x1 s1.n h1
  refine ⟨?_, old, mo, mn1, S1, ds, s1.s, r1, ?_⟩
  · rw [← RDs.len r1]
    refine har ds old S1 fun z => ?_
    rw [z] at h2; exact h2
  · cases e : ci f ds old S1 with
    | ok d S2 => rw [e] at h2; exact h2
    | exc y S2 => rw [e] at h2; exact h2
    | bad => rw [e] at h2; exact h2
theorem w_call {ar f : Nat} {es : Es} (h : den c W cp ci (.call f es) σ H Q) (hcp : ∀ ds S, cp f ds S = tid S (ci f ds S [])) (har : ∀ (ds : List D) (old S : Sto), ci f ds old S ≠ .bad → ds.length = ar) :
    L2.tCallS (spF c ci ar f) (L2.WE W) (denS c W cp ci es) σ H Q := by
  obtain ⟨old, mo, mn, env, S, st, h⟩ := h
  simp only [ev] at h
  refine ⟨old, mo, mn, env, S, st, step st h fun ds S1 mn1 H1 vs _ x1 s1 r1 h1 => ?_⟩
  have h2 := Wr.laterD x1 s1.n h1
  rw [hcp] at h2
  have nb : ci f ds (old ++ S1) [] ≠ .bad := fun z => by
    rw [z] at h2; exact h2
  have so : S0 c H1 (mo ++ mn1) [] (old ++ S1) [] := by
    refine ⟨⟨by rw [List.length_append, List.length_append, s1.o.len, s1.n.len], fun i a e => ?_⟩, ⟨List.nodup_nil, rfl, fun i a e => by simp at e⟩⟩
    rw [List.append_nil]
    by_cases hi : i < mo.length
    · rw [List.getElem?_append_left hi] at e
      rcases s1.o.at_ i a e with ⟨xs, us, e1, e2, _, e4⟩ | ⟨xs, us, e1, e2, e4⟩
      · exact .inl ⟨xs, us, by rw [List.getElem?_append_left (by rw [← s1.o.len]; exact hi)]; exact e1, e2, by simp, e4⟩
      · exact .inr ⟨xs, us, by rw [List.getElem?_append_left (by rw [← s1.o.len]; exact hi)]; exact e1, e2, e4⟩
    · rw [List.getElem?_append_right (by omega)] at e
      obtain ⟨xs, us, e1, e2, e3⟩ := s1.n.at_ _ a e
      exact .inl ⟨xs, us, by rw [List.getElem?_append_right (by rw [← s1.o.len]; omega), ← s1.o.len]; exact e1, e2, by simp, e3⟩
  refine ⟨by rw [← RDs.len r1]; exact har ds _ _ nb, old ++ S1, mo ++ mn1, [], [], ds, so, by rw [List.append_nil]; exact r1, ?_⟩
  cases e : ci f ds (old ++ S1) [] with
  | bad => exact absurd e nb
  | exc y S2 =>
    rw [e] at h2
    intro mn' H' C x' n' hC
    have K := keep_n s1.n x'
    exact h2 mn1 H' C K.1 K.2 hC
  | ok d more =>
    rw [e] at h2
    simp only [tid] at h2
    intro mn' H' v x' n' r'
    cases e2 : tidy (old ++ S1) d more with
    | bad => rw [e2] at h2; exact h2.elim
    | exc y S2 =>
      exfalso
      cases d <;> simp only [tidy] at e2 <;> (repeat' split at e2) <;> cases e2
    | ok d2 more2 =>
      rw [e2] at h2
      obtain ⟨mn2, q1, q2, q3⟩ := tidy_ok s1.s x' n' r' e2
      exact h2 mn2 H' v q1 q2 q3
/-! ### statements -/
theorem w_set {i : Nat} {e : E} (h : denSt c W cp ci fu (.set i e) D' σ H) : L2.tAsg (den c W cp ci e) (L2.gName i) D' σ H := by
  obtain ⟨old, mo, mn, env, S, st, h⟩ := h
  simp only [ex] at h
  refine ⟨old, mo, mn, env, S, st, stepO st h fun x S1 mn1 H1 v1 _ x1 s1 r1 h1 => ?_⟩
  obtain ⟨y, S2, eo, mn2, x2, s2, r2⟩ := own_st st x1 s1 r1
  rw [eo] at h1
  exact h1 mn2 H1 _ x2 ⟨s2.o, s2.n, s2.e.set r2 i⟩
theorem w_unp {is : List Nat} {e : E} (h : denSt c W cp ci fu (.unp is e) D' σ H) : L2.tAsg (den c W cp ci e) (L2.gTup c.K is.length (semGs is)) D' σ H := by
  obtain ⟨old, mo, mn, env, S, st, h⟩ := h
  simp only [ex] at h
  refine ⟨old, mo, mn, env, S, st, stepO st h fun x S1 mn1 H1 v1 _ x1 s1 r1 h1 => ?_⟩
  split at h1
  · rename_i ds _
    split at h1
    · rename_i env2 e2
      obtain ⟨a, vs, rfl, g1, g2⟩ := r1
      exact ⟨a, vs, rfl, g1, by rw [← g2.len]; exact (setAll_len e2).symm, setAll_ok e2 g2 s1.e fun σ1 o1 _ => h1 mn1 H1 σ1 x1 ⟨s1.o, s1.n, o1⟩⟩
    · exact h1.elim
  · exact h1.elim
theorem w_put {o i e : E} (h : denSt c W cp ci fu (.put o i e) D' σ H) : L2.tAsg (den c W cp ci e) (L2.gSub (den c W cp ci o) (den c W cp ci i) L2.rSetL) D' σ H := by
  obtain ⟨old, mo, mn, env, S, st, h⟩ := h
  simp only [ex] at h
  refine ⟨old, mo, mn, env, S, st, stepO st h fun x S1 mn1 H1 v1 _ x1 s1 r1 h1 => ?_⟩
  obtain ⟨y, S2, eo, mn2, x2, s2, r2⟩ := own_st st x1 s1 r1
  rw [eo] at h1
  simp only [bndO] at h1
  refine ⟨old, mo, mn2, env, S2, s2, stepO s2 (WO.later x2 s2.n h1) fun p S3 mn3 H3 pv _ x3 s3 r3 h3 => ⟨old, mo, mn3, env, S3, s3, ?_⟩⟩
  refine stepO s3 (WO.later x3 s3.n h3) fun j S4 mn4 H4 jv _ x4 s4 r4 h4 => ?_
  have h5 := WO.later x4 s4.n h4
  split at h5
  · rename_i S5 e5
    have rp := RV.ext x4 s3.n r3
    have ry := (r2.ext x3 s2.n).ext x4 s3.n
    unfold putV at e5
    split at e5
    · rename_i a i
      split at e5
      · cases e5
      · rename_i ha
        split at e5
        · rename_i xs exs
          split at e5
          · rename_i k ek
            cases e5
            obtain ⟨q, vs0, hq, hr, hh⟩ := s4.s.cell ((at_new (S := S4) ha).trans exs)
            obtain ⟨q', hq', rfl⟩ := rp
            rw [hq] at hq'; cases hq'
            cases r4
            rcases hh with ⟨_, hH⟩ | ⟨z, _⟩
            · simp only [Cell.xs] at hr
              obtain ⟨xw, nw⟩ := wr_ok s4.s hq ha exs hH (hr.set k ry)
              refine ⟨q, vs0, _, k, rfl, rfl, hH, by rw [← hr.len]; exact ek, h5 mn4 _ σ xw (s4.ext xw nw)⟩
            · cases z
          · cases e5
        · cases e5
    · cases e5
  · exact h5.elim
theorem w_exp {e : E} (h : denSt c W cp ci fu (.exp e) D' σ H) : L2.tDrop (den c W cp ci e) D' σ H := by
  obtain ⟨old, mo, mn, env, S, st, h⟩ := h
  simp only [ex] at h
  exact ⟨old, mo, mn, env, S, st, stepO st h fun x S1 mn1 H1 v1 _ x1 s1 r1 h1 => h1 mn1 H1 σ x1 s1⟩
theorem w_ret {e : E} (h : denSt c W cp ci fu (.ret e) D' σ H) : L2.tRet (den c W cp ci e) D' σ H := by
  obtain ⟨old, mo, mn, env, S, st, h⟩ := h
  simp only [ex] at h
  exact ⟨old, mo, mn, env, S, st, stepO st h fun x S1 mn1 H1 v1 _ x1 s1 r1 h1 => h1 mn1 H1 v1 x1 s1.n r1⟩
theorem w_retn (h : denSt c W cp ci fu .retn D' σ H) : L2.tRetN D' σ H := by
  obtain ⟨old, mo, mn, env, S, st, h⟩ := h
  exact h mn H .non Ext.refl st.n rfl
theorem w_brk (h : denSt c W cp ci fu .brk D' σ H) : L2.tBreak D' σ H := by
  obtain ⟨old, mo, mn, env, S, st, h⟩ := h
  exact h mn H σ Ext.refl st
theorem w_cnt (h : denSt c W cp ci fu .cnt D' σ H) : L2.tCont D' σ H := by
  obtain ⟨old, mo, mn, env, S, st, h⟩ := h
  exact h mn H σ Ext.refl st
theorem w_pas (h : denSt c W cp ci fu .pas D' σ H) : L2.tNext D' σ H := by
  obtain ⟨old, mo, mn, env, S, st, h⟩ := h
  exact h mn H σ Ext.refl st
theorem w_if {e : E} {a b : B} (h : denSt c W cp ci fu (.ife e a b) D' σ H) : L2.tIfS (denC c W cp ci (.of e)) (denB c W cp ci fu a) (denB c W cp ci fu b) D' σ H := by
  obtain ⟨old, mo, mn, env, S, st, h⟩ := h
  refine ⟨old, mo, mn, env, S, st, ?_⟩
  simp only [ex, evc] at h ⊢
  cases e1 : ev cp ci old e env S with
  | bad => rw [e1] at h; exact h.elim
  | exc y S1 =>
    rw [e1] at h
    exact fun mn1 H1 C x1 n1 hC => h mn1 H1 σ C x1 (st.ext x1 n1) hC
  | ok x S1 =>
    rw [e1] at h
    simp only [bnd, bndO] at h ⊢
    cases e2 : truth old S1 x with
    | none => rw [e2] at h; exact h.elim
    | some k =>
      rw [e2] at h
      simp only at h
      intro mn1 H1 v1 x1 n1 r1
      cases r1
      cases k with
      | true => rw [if_pos rfl] at h ⊢; exact ⟨old, mo, mn1, env, S1, st.ext x1 n1, WO.later x1 n1 h⟩
      | false => rw [if_neg (by decide)] at h ⊢; exact ⟨old, mo, mn1, env, S1, st.ext x1 n1, WO.later x1 n1 h⟩
theorem w_par2 {i j : Nat} {es : Es} (h : denSt c W cp ci fu (.par [i, j] es) D' σ H) : L2.tPar i j (denS c W cp ci es) D' σ H := by
  obtain ⟨old, mo, mn, env, S, st, h⟩ := h
  simp only [ex] at h
  refine ⟨old, mo, mn, env, S, st, stepO st h fun ds S1 mn1 H1 vs _ x1 s1 r1 h1 => ?_⟩
  split at h1
  · rename_i env2 e2
    match ds, e2, r1 with
    | [x, y], e2, r1 =>
      obtain ⟨v, us, rfl, q1, w, us2, rfl, q2, q3⟩ := r1
      cases q3
      simp only [setAll, Option.some.injEq] at e2
      subst e2
      exact ⟨v, w, rfl, h1 mn1 H1 _ x1 ⟨s1.o, s1.n, (s1.e.set q1 i).set q2 j⟩⟩
    | [], e2, _ => simp [setAll] at e2
    | [x], e2, _ => simp [setAll] at e2
    | x :: y :: z :: w, e2, _ => simp [setAll] at e2
  · exact h1.elim
theorem w_par3 {i j l : Nat} {es : Es} (h : denSt c W cp ci fu (.par [i, j, l] es) D' σ H) : L2.tPar3 i j l (denS c W cp ci es) D' σ H := by
  obtain ⟨old, mo, mn, env, S, st, h⟩ := h
  simp only [ex] at h
  refine ⟨old, mo, mn, env, S, st, stepO st h fun ds S1 mn1 H1 vs _ x1 s1 r1 h1 => ?_⟩
  split at h1
  · rename_i env2 e2
    match ds, e2, r1 with
    | [x, y, z], e2, r1 =>
      obtain ⟨v, us, rfl, q1, w, us2, rfl, q2, u, us3, rfl, q3, q4⟩ := r1
      cases q4
      simp only [setAll, Option.some.injEq] at e2
      subst e2
      exact ⟨v, w, u, rfl, h1 mn1 H1 _ x1 ⟨s1.o, s1.n, ((s1.e.set q1 i).set q2 j).set q3 l⟩⟩
    | [], e2, _ => simp [setAll] at e2
    | [x], e2, _ => simp [setAll] at e2
    | [x, y], e2, _ => simp [setAll] at e2
    | x :: y :: z :: t :: w, e2, _ => simp [setAll] at e2
  · exact h1.elim
theorem gsub_ok {o i : E} {Kk : Sto → O} {Q : L2.St → Hp → Prop} (st : StOk c H mo mn old S env σ) (r : RD c H (mo ++ mn) y v)
    (h : WO c mo W old H mn (bndO (ev cp ci old o env S) env fun p S3 => bndO (ev cp ci old i env S3) env fun j S4 => match putV old p j y S4 with
      | some S5 => Kk S5
      | none => .bad) D')
    (k : ∀ S5 mn5 H5, Ext mn H mn5 H5 → StOk c H5 mo mn5 old S5 env σ → WO c mo W old H5 mn5 (Kk S5) D' → Q σ H5) : L2.gSub (den c W cp ci o) (den c W cp ci i) L2.rSetL v σ H Q := by
  refine ⟨old, mo, mn, env, S, st, stepO st h fun p S3 mn3 H3 pv _ x3 s3 r3 h3 => ⟨old, mo, mn3, env, S3, s3, ?_⟩⟩
  refine stepO s3 (WO.later x3 s3.n h3) fun j S4 mn4 H4 jv _ x4 s4 r4 h4 => ?_
  have h5 := WO.later x4 s4.n h4
  split at h5
  · rename_i S5 e5
    have rp := RV.ext x4 s3.n r3
    have ry := (r.ext x3 st.n).ext x4 s3.n
    unfold putV at e5
    split at e5
    · rename_i a i
      split at e5
      · cases e5
      · rename_i ha
        split at e5
        · rename_i xs exs
          split at e5
          · rename_i m ek
            cases e5
            obtain ⟨q, vs0, hq, hr, hh⟩ := s4.s.cell ((at_new (S := S4) ha).trans exs)
            obtain ⟨q', hq', rfl⟩ := rp
            rw [hq] at hq'; cases hq'
            cases r4
            rcases hh with ⟨_, hH⟩ | ⟨z, _⟩
            · simp only [Cell.xs] at hr
              obtain ⟨xw, nw⟩ := wr_ok s4.s hq ha exs hH (hr.set m ry)
              refine ⟨q, vs0, _, m, rfl, rfl, hH, by rw [← hr.len]; exact ek, k _ mn4 _ ((x3.trans x4).trans xw) (s4.ext xw nw) (WO.later xw nw h5)⟩
            · cases z
          · cases e5
        · cases e5
    · cases e5
  · exact h5.elim
theorem w_putt {o i o2 i2 e e2 : E} (h : denSt c W cp ci fu (.putt o i o2 i2 e e2) D' σ H) : L2.tAsg (den c W cp ci (.tup (.cons e (.cons e2 .nil)))) (L2.gTup c.K 2 (L2.gCons (L2.gSub (den c W cp ci o) (den c W cp ci i) L2.rSetL) (L2.gCons (L2.gSub (den c W cp ci o2) (den c W cp ci i2) L2.rSetL) L2.gNil))) D' σ H := by
  obtain ⟨old, mo, mn, env, S, st, h⟩ := h
  rw [ex] at h
  refine ⟨old, mo, mn, env, S, st, stepO st h fun x S1 mn1 H1 v1 _ x1 s1 r1 h1 => ?_⟩
  have h2 := WO.later x1 s1.n h1
  split at h2
  · rename_i y z
    obtain ⟨a, vs, rfl, g1, g2⟩ := r1
    obtain ⟨v, us, rfl, q1, w, us2, rfl, q2, q3⟩ := g2
    cases q3
    refine ⟨a, [v, w], rfl, g1, rfl, v, [w], rfl, gsub_ok s1 q1 h2 fun S5 mn5 H5 x5 s5 h5 => ⟨w, [], rfl, gsub_ok s5 (q2.ext x5 s1.n) h5 fun S8 mn8 H8 x8 s8 h8 => ⟨rfl, h8 mn8 H8 _ Ext.refl s8⟩⟩⟩
  · exact h2.elim
theorem w_aug {i : Nat} {o : Op} {e : E} (h : denSt c W cp ci fu (.aug i o e) D' σ H) : L2.tAug i (den c W cp ci e) (fun x y H Q => rOp c o x y H Q) D' σ H := by
  obtain ⟨old, mo, mn, env, S, st, h⟩ := h
  simp only [ex] at h
  split at h
  · rename_i x e1
    obtain ⟨v, e2, r⟩ := st.e.at_ i x e1
    refine ⟨v, e2, old, mo, mn, env, S, st, stepO st h fun y S1 mn1 H1 v1 _ x1 s1 r1 h1 => ?_⟩
    have h2 := WO.later x1 s1.n h1
    refine opV_ok (σ := σ) (W := W) s1.s (RV.of (H0 := H1) (r.ext x1 st.n)) r1 ?_
    cases e3 : opV old o x y S1 with
    | bad => rw [e3] at h2; exact h2.elim
    | exc z S2 =>
      rw [e3] at h2
      exact fun mn3 H3 C x3 n3 hC => h2 mn3 H3 σ C x3 (s1.ext x3 n3) hC
    | ok z S2 =>
      rw [e3] at h2
      simp only [bndO] at h2
      intro mn3 H3 v3 x3 n3 r3
      obtain ⟨w, S4, eo, mn4, x4, s4, r4⟩ := own_st s1 x3 (s1.ext x3 n3) r3
      rw [eo] at h2
      exact h2 mn4 H3 _ x4 ⟨s4.o, s4.n, s4.e.set r4 i⟩
  · exact h.elim
theorem w_rai {y : Nat} {C : Addr} (hC : c.ca y = some C) (h : denSt c W cp ci fu (.rai y) D' σ H) : W (.ref C) none σ H := by
  obtain ⟨old, mo, mn, env, S, st, h⟩ := h
  exact h mn H σ C Ext.refl st hC
theorem w_nil (h : denB c W cp ci fu .nil D' σ H) : L2.tNext D' σ H := by
  obtain ⟨old, mo, mn, env, S, st, h⟩ := h
  exact h mn H σ Ext.refl st
theorem w_seq {t : T} {b : B} (h : denB c W cp ci fu (.seq t b) D' σ H) : L2.tSeq (denSt c W cp ci fu t) (denB c W cp ci fu b) D' σ H := by
  obtain ⟨old, mo, mn, env, S, st, h⟩ := h
  refine ⟨old, mo, mn, env, S, st, ?_⟩
  simp only [exs] at h
  cases e : ex cp ci old fu t env S with
  | nx env2 S2 =>
    rw [e] at h
    exact fun mn1 H1 σ1 x1 s1 => ⟨old, mo, mn1, env2, S2, s1, WO.later x1 s1.n h⟩
  | rt d S2 => rw [e] at h; exact h
  | bk env2 S2 => rw [e] at h; exact h
  | ct env2 S2 => rw [e] at h; exact h
  | exc y env2 S2 => rw [e] at h; exact h
  | bad => rw [e] at h; exact h.elim
end
end Z
/-! Z10: the text is held against the own language; what is held keeps the readings. -/
namespace L2
open PySem PySem.Spec PyProof.Rows
/-- a list or a tuple is walked -/
def iSeq (K : PySem.W.Frag) (tl : TE) : TI := fun σ H R => tl σ H fun x H1 => ∃ a, x = .ref a ∧ ((∃ xs, SqL K H1 a xs ∧ R (Itl K a) H1) ∨ ∃ xs, SqT K H1 a xs ∧ R (Itt K a) H1)
theorem pi_seq {X : Cx} {tg l : Expr} {tl : TE} (hl : PE X l tl) : PI X tg l (iSeq X.K tl) := by
  refine ⟨fun pins s σ H R I h => ?_⟩
  refine thn (hl.run pins s σ H _ I h) fun v s1 ⟨x, H1, I1, r1, q1⟩ => ?_
  obtain ⟨a, e, q⟩ := q1
  subst e
  cases r1
  rcases q with ⟨xs, hq, q⟩ | ⟨xs, hq, q⟩
  · obtain ⟨its, rv, p, hz⟩ := I1.list hq
    refine wpAny_pyIter_list p.isList ?_
    refine ⟨s1.heap.objs.size, [s1.heap.objs.size], _, _, H1, rfl, I1.kept (t' := s1.toks) fun b o e => Heap.get?_push_of_some _ e, turn_list a _, ⟨_, Heap.get?_push_size _ rfl, rfl, rfl⟩, fun b hb => ?_, q⟩
    have e : b = s1.heap.objs.size := by simpa using hb
    subst e
    exact I1.fpOk (Nat.le_refl _) (I1.hok.fresh (Nat.le_refl _))
  · obtain ⟨its, rv, p, hz⟩ := I1.tuple hq
    refine wpAny_pyIter_tuple (show s1.heap.IsTuple a its.toArray from p) ?_
    refine ⟨s1.heap.objs.size, [s1.heap.objs.size], _, _, H1, rfl, I1.kept (t' := s1.toks) fun b o e => Heap.get?_push_of_some _ e, turn_tuple a _, ⟨_, Heap.get?_push_size _ rfl, rfl, rfl⟩, fun b hb => ?_, q⟩
    have e : b = s1.heap.objs.size := by simpa using hb
    subst e
    exact I1.fpOk (Nat.le_refl _) (I1.hok.fresh (Nat.le_refl _))
theorem pi_imp {X : Cx} {tg l : Expr} {wi wi' : TI} (h : PI X tg l wi) (hi : ∀ σ H R, wi' σ H R → wi σ H R) : PI X tg l wi' := ⟨fun pins s σ H R I w => h.run pins s σ H R I (hi σ H R w)⟩
theorem pw_imp {X : Cx} {l : Expr} {t t' : TT} (h : PW X l t) (hi : ∀ σ H R, t' σ H R → t σ H R) : PW X l t' := ⟨fun whole pins s σ H R I w => h.run whole pins s σ H R I (hi σ H R w)⟩
theorem ps_imp {X : Cx} {l : Stmt} {t t' : TS} (h : PS X l t) (hi : ∀ D σ H, t' D σ H → t D σ H) : PS X l t' := ⟨fun pins s σ H D I w => h.run pins s σ H D I (hi D σ H w)⟩
theorem pss_imp {X : Cx} {l : List Stmt} {t t' : TS} (h : PSs X l t) (hi : ∀ D σ H, t' D σ H → t D σ H) : PSs X l t' := ⟨fun pins s σ H D I w => h.run pins s σ H D I (hi D σ H w)⟩
theorem po_imp {X : Cx} {l : Option Expr} {t t' : TO} (h : PO X l t) (hi : ∀ σ H R, t' σ H R → t σ H R) : PO X l t' := ⟨fun pins s σ H R I w => h.run pins s σ H R I (hi σ H R w)⟩
end L2
namespace Z
open PySem PySem.Spec PyProof.Rows
open L2 (V Hp HO upd upd_same upd_ne SqL SqT Rd VK TE TT TA TS Ends WX XK)
section
variable {c : Cg} {H H' H1 H2 H0 Hx Hy : Hp} {m m' mo mn mn' mn1 mn2 : List Addr} {old S S' S1 : Sto} {env : Env} {σ : L2.St} {d x y : D} {v u : V} {ds xs ys zs : List D} {vs us ws : List V} {W : WX} {b : Bool}
  {cp : Nat → List D → Sto → R D} {ci : Nat → List D → Sto → Sto → R D} {fu : Nat} {D' : Ends} {R' : L2.It → Hp → Prop}
/-! ### what is walked -/
theorem RV.h00 (r : RV c H0 H m mn d v) : RV c H00 H m mn d v := r.back fun _ _ => rfl
theorem w_iseq {e : E} (h : denI c W cp ci (.seq e) σ H R') : L2.iSeq c.K (den c W cp ci e) σ H R' := by
  obtain ⟨old, mo, mn, env, S, st, h⟩ := h
  simp only [evi] at h
  refine ⟨old, mo, mn, env, S, st, step st h fun x S1 mn1 H1 v1 _ x1 s1 r1 h1 => ?_⟩
  split at h1
  · rename_i xs e
    obtain ⟨a, vs, rfl, q1, q2⟩ := RV.seqOf s1.s r1 e
    refine ⟨a, rfl, ?_⟩
    rcases q2 with ⟨q2, q3⟩ | ⟨q2, q3⟩
    · refine .inl ⟨vs, q2, h1 mn1 H1 _ x1 s1.n (.seqL (RV.h00 r1) ?_)⟩
      cases x with
      | tup _ => cases q3
      | _ => rfl
    · subst q3
      exact .inr ⟨vs, q2, h1 mn1 H1 _ x1 s1.n (.seqT (RV.h00 r1) rfl)⟩
  · exact h1.elim
theorem w_rng1 {a : E} (h : denI c W cp ci (.rng1 a) σ H R') : L2.iRng1 (L2.tCons (den c W cp ci a) L2.tNil) σ H R' := by
  obtain ⟨old, mo, mn, env, S, st, h⟩ := h
  simp only [evi] at h
  refine ⟨old, mo, mn, env, S, st, step st h fun x S1 mn1 H1 v1 _ x1 s1 r1 h1 => ?_⟩
  split at h1
  · rename_i j _
    cases r1
    split at h1
    · rename_i hz
      simp only [Bool.and_eq_true, decide_eq_true_eq] at hz
      exact ⟨j, rfl, by omega, by omega, h1 mn1 H1 _ x1 s1.n .rng⟩
    · exact h1.elim
  · exact h1.elim
theorem w_rng2 {a b : E} (h : denI c W cp ci (.rng2 a b) σ H R') : L2.iRng2 (L2.tCons (den c W cp ci a) (L2.tCons (den c W cp ci b) L2.tNil)) σ H R' := by
  obtain ⟨old, mo, mn, env, S, st, h⟩ := h
  simp only [evi] at h
  refine ⟨old, mo, mn, env, S, st, step st h fun x S1 mn1 H1 v1 _ x1 s1 r1 h1 => ⟨old, mo, mn1, env, S1, s1, ?_⟩⟩
  refine step s1 (Wr.later (rel1 := relI c mo) x1 h1 fun _ _ _ _ q => q) fun y S2 mn2 H2 v2 _ x2 s2 r2 h2 => ?_
  split at h2
  · rename_i i j _ _
    cases r1
    cases r2
    split at h2
    · rename_i hz
      simp only [Bool.and_eq_true, decide_eq_true_eq] at hz
      exact ⟨i, j, rfl, ⟨by omega, by omega, by omega, by omega⟩, h2 mn2 H2 _ x2 s2.n .rng⟩
    · exact h2.elim
  · exact h2.elim
theorem w_rng3 {a b d : E} (h : denI c W cp ci (.rng3 a b d) σ H R') : L2.iRng3 (L2.tCons (den c W cp ci a) (L2.tCons (den c W cp ci b) (L2.tCons (den c W cp ci d) L2.tNil))) σ H R' := by
  obtain ⟨old, mo, mn, env, S, st, h⟩ := h
  simp only [evi] at h
  refine ⟨old, mo, mn, env, S, st, step st h fun x S1 mn1 H1 v1 _ x1 s1 r1 h1 => ⟨old, mo, mn1, env, S1, s1, ?_⟩⟩
  refine step s1 (Wr.later (rel1 := relI c mo) x1 h1 fun _ _ _ _ q => q) fun y S2 mn2 H2 v2 _ x2 s2 r2 h2 => ⟨old, mo, mn2, env, S2, s2, ?_⟩
  refine step s2 (Wr.later (rel1 := relI c mo) x2 h2 fun _ _ _ _ q => q) fun z S3 mn3 H3 v3 _ x3 s3 r3 h3 => ?_
  split at h3
  · rename_i i j k _ _ _
    cases r1
    cases r2
    cases r3
    split at h3
    · rename_i hz
      simp only [Bool.and_eq_true, decide_eq_true_eq] at hz
      obtain ⟨⟨⟨⟨hk, h1⟩, h2⟩, h4⟩, h5⟩ := hz
      subst hk
      exact ⟨i, j, -1, _, rfl, L2.RgC.neg (by omega) (by omega) (by omega) (by omega), h3 mn3 H3 _ x3 s3.n .rngC⟩
    · exact h3.elim
  · exact h3.elim
theorem w_enu {e : E} (h : denI c W cp ci (.enu e) σ H R') : L2.iEnumT c.K (L2.tCons (den c W cp ci e) L2.tNil) σ H R' := by
  obtain ⟨old, mo, mn, env, S, st, h⟩ := h
  simp only [evi] at h
  refine ⟨old, mo, mn, env, S, st, step st h fun x S1 mn1 H1 v1 _ x1 s1 r1 h1 => ?_⟩
  split at h1
  · rename_i xs e
    obtain ⟨a, vs, rfl, q1, q2⟩ := RV.seqOf s1.s r1 e
    refine ⟨a, vs, rfl, ?_⟩
    rcases q2 with ⟨q2, q3⟩ | ⟨q2, q3⟩
    · refine .inl ⟨q2, h1 mn1 H1 _ x1 s1.n (.enuL (RV.h00 r1) ?_)⟩
      cases x with
      | tup _ => cases q3
      | _ => rfl
    · subst q3
      exact .inr ⟨q2, h1 mn1 H1 _ x1 s1.n (.enuT (RV.h00 r1) rfl)⟩
  · exact h1.elim
theorem sqB_of {x : D} {p : Addr} {vs : List V} {H : Hp} (q : (SqL c.K H p vs ∧ ¬ (∃ ds, x = .tup ds)) ∨ (SqT c.K H p vs ∧ ∃ ds, x = .tup ds)) : SqB c.K (isT x) H p vs := by
  rcases q with ⟨q1, q2⟩ | ⟨q1, ds, rfl⟩
  · cases x with
    | tup ds => exact absurd ⟨ds, rfl⟩ q2
    | _ => exact q1
  · exact q1
theorem w_zip {a b : E} (h : denI c W cp ci (.zip a b) σ H R') : iZipB c.K (L2.tCons (den c W cp ci a) (L2.tCons (den c W cp ci b) L2.tNil)) σ H R' := by
  obtain ⟨old, mo, mn, env, S, st, h⟩ := h
  simp only [evi] at h
  refine ⟨old, mo, mn, env, S, st, step st h fun x S1 mn1 H1 v1 _ x1 s1 r1 h1 => ⟨old, mo, mn1, env, S1, s1, ?_⟩⟩
  refine step s1 (Wr.later (rel1 := relI c mo) x1 h1 fun _ _ _ _ q => q) fun y S2 mn2 H2 v2 _ x2 s2 r2 h2 => ?_
  split at h2
  · rename_i xs e1
    split at h2
    · rename_i ys e2
      have r1' := RV.ext x2 s1.n r1
      obtain ⟨p, vs, rfl, q1, q2⟩ := RV.seqOf s2.s r1' e1
      obtain ⟨q, us, rfl, p1, p2⟩ := RV.seqOf s2.s r2 e2
      refine ⟨p, q, vs, us, isT x, isT y, rfl, ?_, ?_, h2 mn2 H2 _ x2 s2.n (.zipB (RV.h00 r1') (RV.h00 r2))⟩
      · rcases q2 with ⟨q2, q3⟩ | ⟨q2, q3⟩
        · exact sqB_of (.inl ⟨q2, fun ⟨ds, e⟩ => by subst e; cases q3⟩)
        · exact sqB_of (.inr ⟨q2, _, q3⟩)
      · rcases p2 with ⟨p2, p3⟩ | ⟨p2, p3⟩
        · exact sqB_of (.inl ⟨p2, fun ⟨ds, e⟩ => by subst e; cases p3⟩)
        · exact sqB_of (.inr ⟨p2, _, p3⟩)
    · exact h2.elim
  · exact h2.elim
end
end Z
/-! ZS: sorted. -/
namespace Z
open PySem PySem.Spec PyProof.Rows
open L2 (V Hp HO upd upd_same upd_ne SqL SqT Rd VK TE TT TA TS Ends WX XK)
theorem ins_mid {α : Type} {le : α → α → Bool} {a : α} : ∀ {l1 l2 : List α}, (∀ b ∈ l1, le a b = false) → (∀ b ∈ l2, le a b = true) → ins le a (l1 ++ l2) = l1 ++ a :: l2
  | [], [], _, _ => rfl
  | [], y :: l2, _, h => by simp only [List.nil_append, ins, h y (.head _)]
  | x :: l1, l2, h, h2 => by simp only [List.cons_append, ins, h x (.head _), ins_mid (fun b hb => h b (.tail _ hb)) h2]
theorem insS_eq {α : Type} {le : α → α → Bool} (T : PySem.W.TotalLe le) : ∀ l : List α, insS le l = l.mergeSort le
  | [] => by simp [insS]
  | a :: l => by
    have htot : ∀ a b : α, (le a b || le b a) = true := fun a b => by
      rcases T.total a b with h | h <;> simp [h]
    obtain ⟨l1, l2, h1, h2, h3⟩ := List.mergeSort_cons T.trans htot a l
    have hs := List.pairwise_mergeSort T.trans htot (a :: l)
    rw [h1] at hs
    rw [h1, insS, insS_eq T l, h2]
    refine ins_mid (fun b hb => by simpa using h3 b hb) (fun b hb => ?_)
    exact (List.pairwise_cons.mp (List.pairwise_append.mp hs).2.1).1 b hb
theorem ins_in {α : Type} {le : α → α → Bool} {a x : α} : ∀ {l : List α}, x ∈ ins le a l → x = a ∨ x ∈ l
  | [], h => by simp only [ins, List.mem_singleton] at h; exact .inl h
  | y :: l, h => by
    simp only [ins] at h
    split at h
    · rcases List.mem_cons.mp h with h | h
      · exact .inl h
      · exact .inr h
    · rcases List.mem_cons.mp h with h | h
      · exact .inr (by rw [h]; exact .head _)
      · rcases ins_in h with h | h
        · exact .inl h
        · exact .inr (.tail _ h)
theorem insS_in {α : Type} {le : α → α → Bool} {x : α} : ∀ {l : List α}, x ∈ insS le l → x ∈ l
  | [], h => h
  | y :: l, h => by
    rw [insS] at h
    rcases ins_in h with h | h
    · rw [h]; exact .head _
    · exact .tail _ (insS_in h)
theorem al_of : ∀ {ps : List PyData}, allAl ps = true → PySem.W.AllAlike ps
  | [], _ => fun d hd => by cases hd
  | p :: ps, h => by
    simp only [allAl, Bool.and_eq_true, List.all_eq_true] at h
    obtain ⟨⟨h1, h2⟩, h3⟩ := h
    have ih := al_of h3
    intro d hd d' hd'
    rcases List.mem_cons.mp hd with e | e
    · rcases List.mem_cons.mp hd' with e' | e'
      · rw [e, e']; exact h2
      · rw [e]; exact (h1 d' e').1
    · rcases List.mem_cons.mp hd' with e' | e'
      · rw [e']; exact (h1 d e).2
      · exact ih d e d' e'
theorem srtB_of {ps : List PyData} (h : srtB ps = true) : PySem.W.Sortable ps := by
  simp only [srtB, Bool.or_eq_true, List.all_eq_true] at h
  rcases h with h | h
  · refine .inl fun d hd => ?_
    have := h d hd
    split at this
    · exact ⟨_, _, rfl⟩
    · cases this
  · refine .inr fun d hd => ?_
    have := h d hd
    split at this
    · cases this
    · cases this
    · rename_i h1 h2
      exact ⟨fun e => h2 e, fun xs e => h1 xs e⟩
/-- what sorted asks and gives -/
def rSrt (K : PySem.W.Frag) (rev : Bool) : List V → Hp → VK → Prop := fun vs H Q => ∃ (a : Addr) (bs : List (V × PyData)), vs = [.ref a] ∧ SqL K H a (bs.map Prod.fst) ∧ (∀ b ∈ bs, L2.Dp K H b.1 b.2 ∧ b.2.depth ≤ 60) ∧
  PySem.W.AllAlike (bs.map Prod.snd) ∧ PySem.W.Sortable (bs.map Prod.snd) ∧ ∀ p, H p = none → Q (.ref p) (upd H p (.lst ((insS (PySem.W.dataLe rev Prod.snd) bs).map Prod.fst)))
section
variable {X : L2.Cx} {pins : List (Addr × Obj)} {s : Shared} {σ : L2.St} {H : Hp}
theorem each_vals : ∀ {us : List Value} {bs : List (V × PyData)}, PySem.W.EachIs (fun u b => L2.RelV b.1 u) us bs → L2.Vals (bs.map Prod.fst) us
  | _, _, .nil => .nil
  | _, _, .cons h t => .cons h (each_vals t)
theorem vals_each : ∀ {us : List Value} {bs : List (V × PyData)}, L2.Vals (bs.map Prod.fst) us → PySem.W.EachIs (fun u b => L2.RelV b.1 u) us bs
  | us, [], h => by cases h; exact .nil
  | us, b :: bs, h => by
    cases h with
    | cons h t => exact .cons h (vals_each t)
theorem each_reads (I : L2.Inv X pins σ H s) : ∀ {us : List Value} {bs : List (V × PyData)}, PySem.W.EachIs (fun u b => L2.RelV b.1 u) us bs → (∀ b ∈ bs, L2.Dp X.K H b.1 b.2) → PySem.W.EachIs (fun u b => ∃ as, Reads s.heap u b.2 as) us bs
  | _, _, .nil, _ => .nil
  | _, _, .cons h t, hd => .cons (L2.Dp.reads I _ _ _ (hd _ (.head _)) h) (each_reads I t fun b hb => hd b (.tail _ hb))
theorem srt_laid (I : L2.Inv X pins σ H s) {a : Addr} {bs : List (V × PyData)} {us out : List Value} {rev : Bool} {Q : VK} (hz : (bs.map Prod.fst).length ≤ sizeLine) (hl : out.length = bs.length) (ho : PySem.W.EachIs (fun u b => L2.RelV b.1 u) out (bs.mergeSort (PySem.W.dataLe rev Prod.snd)))
    (q : ∀ p, H p = none → Q (.ref p) (upd H p (.lst ((insS (PySem.W.dataLe rev Prod.snd) bs).map Prod.fst)))) : L2.EP X pins σ Q (.ref (s.heap.objs.size + 1)) { s with heap := PyProof.Rows.sortedAll s.heap us (List.toArray out) } := by
  obtain ⟨ep, he'⟩ := PyProof.Rows.sortedAll_at s.heap us out.toArray
  have hv := each_vals ho
  have T : PySem.W.TotalLe (PySem.W.dataLe rev (Prod.snd (α := V) (β := PyData))) := PySem.W.sortLe_total _ _ _
  rw [← insS_eq T] at hv
  have hn : ((insS (PySem.W.dataLe rev Prod.snd) bs).map Prod.fst).length ≤ sizeLine := by
    have := hv.length
    rw [this, hl]
    simpa using hz
  exact ⟨.ref _, upd H (s.heap.objs.size + 1) (.lst ((insS (PySem.W.dataLe rev Prod.snd) bs).map Prod.fst)), I.laid (t' := s.toks) (fun _ _ => PyProof.Rows.sortedAll_old) (Nat.le_succ _) ⟨hn, _, ep, hv, he'⟩, rfl, q _ (I.hok.fresh (Nat.le_succ _))⟩
theorem cr_srt (hu : X.A.units + 65 < cLine) : L2.CallR X (.builtin "sorted") (rSrt X.K false) := by
  intro pins s σ H vs us Q I r h
  obtain ⟨a, bs, rfl, hs, hd, h1, h2, q⟩ := h
  obtain rfl := L2.Vals.ref1 r
  obtain ⟨its, rv, hl, hz⟩ := I.list hs
  have he := vals_each rv
  refine PySem.W.sorted_data hl.isList he (each_reads I he fun b hb => (hd b hb).1) h1 h2 (by simpa using hz) (fun b hb => by have := (hd b hb).2; omega) fun out ho hr => ?_
  exact srt_laid (a := a) I hz ho hr q
theorem cr_srtR (hu : X.A.units + 65 < cLine) (rev : Bool) : L2.CallRK X (.builtin "sorted") [Str.ofString "reverse"] (fun vs zs H Q => zs = [.bl rev] ∧ rSrt X.K rev vs H Q) := by
  intro pins s σ H vs zs us ws Q I r rz h
  obtain ⟨rfl, a, bs, rfl, hs, hd, h1, h2, q⟩ := h
  obtain rfl := L2.Vals.ref1 r
  obtain ⟨w1, rfl, e1⟩ := L2.vals1 rz
  obtain rfl : w1 = Value.bool rev := e1
  obtain ⟨its, rv, hl, hz⟩ := I.list hs
  have he := vals_each rv
  refine PySem.W.sorted_rev_data hl.isList he (each_reads I he fun b hb => (hd b hb).1) h1 h2 (by simpa using hz) (fun b hb => by have := (hd b hb).2; omega) fun out ho hr => ?_
  exact srt_laid (a := a) I hz ho hr q
end
section
variable {c : Cg} {H H' H1 H2 H0 Hx Hy : Hp} {m m' mo mn mn' mn1 mn2 : List Addr} {old S S' S1 : Sto} {env : Env} {σ : L2.St} {d x y : D} {v u : V} {ds xs ys zs : List D} {vs us ws : List V} {W : WX} {Q : V → Hp → Prop} {b : Bool}
  {cp : Nat → List D → Sto → R D} {ci : Nat → List D → Sto → Sto → R D}
/-- items, what they are, and their data side by side -/
def tri : List D → List V → List PyData → List (D × V × PyData)
  | d :: ds, v :: vs, p :: ps => (d, v, p) :: tri ds vs ps
  | _, _, _ => []
theorem tri_ok (s : S0 c H mo mn old S) : ∀ {ds : List D} {vs : List V} {ps : List PyData}, RDs c H (mo ++ mn) ds vs → mapO (toPy old S 59) ds = some ps →
    ds.zip ps = (tri ds vs ps).map (fun t => (t.1, t.2.2)) ∧ vs = ((tri ds vs ps).map fun t => (t.2.1, t.2.2)).map Prod.fst ∧ ps = ((tri ds vs ps).map fun t => (t.2.1, t.2.2)).map Prod.snd ∧ ∀ t ∈ tri ds vs ps, RD c H (mo ++ mn) t.1 t.2.1 ∧ L2.Dp c.K H t.2.1 t.2.2 ∧ t.2.2.depth ≤ 60
  | [], vs, ps, r, h => by
    cases r
    simp only [mapO, Option.some.injEq] at h
    subst h
    exact ⟨rfl, rfl, rfl, fun t ht => by cases ht⟩
  | d :: ds, vs, ps, r, h => by
    obtain ⟨v, vs, rfl, r1, r2⟩ := r
    simp only [mapO] at h
    cases e1 : toPy old S 59 d with
    | none => rw [e1] at h; cases h
    | some p =>
      rw [e1] at h
      cases e2 : mapO (toPy old S 59) ds with
      | none => rw [e2] at h; cases h
      | some ps' =>
        rw [e2] at h
        simp only [Option.some.injEq] at h
        subst h
        obtain ⟨a1, a2, a3, a4⟩ := tri_ok s r2 e2
        have hrv : RV c H H (mo ++ mn) mn d v := by
          cases d with
          | tmp xs => exact r1.elim
          | _ => exact r1
        obtain ⟨b1, b2, b3⟩ := toPy_ok s 59 d p v H e1 hrv
        refine ⟨?_, ?_, ?_, fun t ht => ?_⟩
        · simp only [tri, List.zip_cons_cons, List.map_cons, ← a1]
        · simp only [tri, List.map_cons, ← a2]
        · simp only [tri, List.map_cons, ← a3]
        · rcases List.mem_cons.mp ht with e | e
          · rw [e]; exact ⟨r1, b1, Nat.le_succ_of_le b3⟩
          · exact a4 t e
theorem rds_of : ∀ {ts : List (D × V × PyData)}, (∀ t ∈ ts, RD c H m t.1 t.2.1) → RDs c H m (ts.map fun t => t.1) (ts.map fun t => t.2.1)
  | [], _ => rfl
  | t :: ts, h => ⟨_, _, rfl, h t (.head _), rds_of fun u hu => h u (.tail _ hu)⟩
theorem w_srt {a : E} {rev : Bool} (h : den c W cp ci (.srt a rev) σ H Q) : L2.tCB (rSrt c.K rev) (L2.tCons (den c W cp ci a) L2.tNil) σ H Q := by
  obtain ⟨old, mo, mn, env, S, st, h⟩ := h
  simp only [ev] at h
  refine ⟨old, mo, mn, env, S, st, step st h fun x S1 mn1 H1 v1 _ x1 s1 r1 h1 => ?_⟩
  cases e : lstRo old S1 x with
  | none => rw [e] at h1; exact h1.elim
  | some xs =>
    rw [e] at h1
    simp only at h1
    cases e2 : srtV old S1 xs rev with
    | none => rw [e2] at h1; exact h1.elim
    | some ys =>
      rw [e2] at h1
      simp only at h1
      obtain ⟨p, us, rfl, q1, q2, _⟩ := r1.lstRo s1.s e
      unfold srtV at e2
      cases e3 : mapO (toPy old S1 59) xs with
      | none => rw [e3] at e2; cases e2
      | some ps =>
        rw [e3] at e2
        simp only at e2
        split at e2
        · rename_i hb
          simp only [Bool.and_eq_true] at hb
          injection e2 with e2
          obtain ⟨a1, a2, a3, a4⟩ := tri_ok s1.s q2 e3
          have hA := al_of hb.1
          have hS := srtB_of hb.2
          rw [a3] at hA hS
          rw [a2] at q1
          refine ⟨p, (tri xs us ps).map fun t => (t.2.1, t.2.2), rfl, q1, fun b hb => ?_, hA, hS, fun w hw => ?_⟩
          · obtain ⟨t, ht, rfl⟩ := List.mem_map.mp hb
            exact (a4 t ht).2
          · have hk := (h1.laterD x1 s1.n)
            have k1 := insS_map (fun t : D × V × PyData => (t.1, t.2.2)) (le := PySem.W.dataLe rev fun t => t.2.2) (le2 := PySem.W.dataLe rev Prod.snd) (fun a b => rfl) (tri xs us ps)
            have k2 := insS_map (fun t : D × V × PyData => (t.2.1, t.2.2)) (le := PySem.W.dataLe rev fun t => t.2.2) (le2 := PySem.W.dataLe rev Prod.snd) (fun a b => rfl) (tri xs us ps)
            rw [a1, k1, List.map_map] at e2
            rw [k2, List.map_map]
            subst e2
            exact hk.tmp s1.n (rds_of fun t ht => (a4 t (insS_in ht)).1) hw
        · cases e2
theorem w_revl {a : E} (h : den c W cp ci (.rev a) σ H Q) : L2.tRevL c.K (den c W cp ci a) σ H Q := by
  obtain ⟨old, mo, mn, env, S, st, h⟩ := h
  simp only [ev] at h
  refine ⟨old, mo, mn, env, S, st, step st h fun x S1 mn1 H1 v1 _ x1 s1 r1 h1 => ?_⟩
  cases e : lstRo old S1 x with
  | none => rw [e] at h1; exact h1.elim
  | some xs =>
    rw [e] at h1
    obtain ⟨p, vs, rfl, q1, q2, _⟩ := r1.lstRo s1.s e
    exact ⟨p, vs, rfl, q1, fun w hw => (h1.laterD x1 s1.n).tmp s1.n (RDs.rev q2) hw⟩
end
end Z
/-! ZX: what is done while a refusal is handled: calls of defs, isinstance of it. -/
namespace Z
open PySem PySem.Spec PyProof.Rows
open L2 (V Hp HO upd upd_same upd_ne SqL SqT Rd VK XK TE TT TA TS Ends WX Vals RelV PA PE PSs Cx Inv)
open L2H (RoomH Hot1 PinOk HotC)
/-- a def's promise there; of the handled refusal Ok holds -/
structure FnX (P : Program) (w : World) (K : PySem.W.Frag) (mg : Str → Option Value) (base : Heap) (CX : L2.CXT) (Ok : Addr × Obj → Prop) (k : Nat) (f : Addr) (fd : FuncData) (ps : List Str) (sp : L2.Sp) : Prop where
  lens : ∀ vs H Q E, sp vs H Q E → vs.length = ps.length
  go : ∀ (p : Addr × Obj) (Ar : Around) (out : List PySem.Env) (s : Shared) (H : Hp) (gs : Args) (us : List Value) (vs : List V) (Q : VK) (E : XK), Ok p → Hot1 Ar p → PinOk out H s p → RoomH k Ar → L2.Env0 P w K mg base Ar out s H → BindsTo s fd gs (ps.zip us) → Vals vs us → sp vs H Q E →
    codeAny (model P w) Ar (.call (.ref f) gs) (L2.CR CX out P w H s Q E) s
section
variable {P : Program} {w : World} {K : PySem.W.Frag} {mg : Str → Option Value} {base : Heap} {CX : L2.CXT} {Ok : Addr × Obj → Prop} {k : Nat} {f : Addr} {name qual : Str} {st : Stmt} {fd : FuncData} {N ps : List Str} {sp : L2.Sp}
/-- a def of the text keeps its promise there when its body does -/
theorem fnX_of {params : Arguments} {body : List Stmt} {scope : Scope} {dV kV doc pm cdv ct oc : Value} {an od : Option Addr} {osl : Array (Option Value)}
    (lk : K.lookup f = some ⟨oc, od, .func (PySem.W.fnOf name qual params body scope dV kV doc pm an cdv ct), osl⟩) (hcd : PySem.W.codeIn K cdv qual = true) (S : L2.FnScope N ps scope) (hl : ∀ vs H Q E, sp vs H Q E → vs.length = ps.length)
    (hb : ∀ (p : Addr × Obj) (Ar : Around) (out : List PySem.Env) (s : Shared) (H : Hp) (vs : List V) (Q : VK) (E : XK), Ok p → Hot1 Ar p → RoomH k (Ar.deeper (envOfC qual scope s.heap.objs.size f cdv)) → sp vs H Q E →
      ∃ t, PSs (L2H.cxH CX P w K mg base N qual scope f cdv Ar out s H E p) body t ∧ t { nx := fun _ H' => Q .non H', rt := Q } (L2.start N vs) H) :
    FnX P w K mg base CX Ok (k + 1) f (PySem.W.fnOf name qual params body scope dV kV doc pm an cdv ct) ps sp := by
  refine ⟨hl, ?_⟩
  intro p Ar out s H gs us vs Q E ok hot pin room e0 bind rv hsp
  have ln := hl _ _ _ _ hsp
  have KX : K.In s.heap := e0.mod.kin.keeps fun b o e => (e0.bs b o e).1
  have kinds : ∀ y ∈ ps.zip us, scope.names.lookup y.1 = some .local ∨ (scope.names.lookup y.1 = some .cell ∧ ((cellsFrom (s.heap.objs.size + 1) scope.names []).lookup y.1).isSome = true) := by
    rintro ⟨n, v⟩ hy
    rcases S.par n (List.of_mem_zip hy).1 with q | q
    · exact .inl q
    · exact .inr ⟨q, PySem.W.cellsFrom_some _ _ _ (.inl q)⟩
  refine codeAny_call_function room.depth (KX _ _ lk) rfl S.co S.gen rfl (PySem.W.codeRec_of KX hcd) (bind _ _ _ _ ?_)
  refine wpAny_newFunctionEnv_cells S.kind kinds ?_
  intro env he s1 x
  subst he
  refine ⟨(e0.mod.nolimit.keeps fun b o e => (e0.bs b o e).1).keeps x.toInCall.keep, codeAny_func ?_⟩
  obtain ⟨t, ht, hq⟩ := hb p Ar out s H vs Q E ok hot (room.deeper _) hsp
  have I : Inv (L2H.cxH CX P w K mg base N qual scope f cdv Ar out s H E p) [] (L2.start N vs) H s1 := L2H.inv_startH S pin e0 ln rv x
  have fin : ∀ {σ' : L2.St} {H' : Hp} {v : V} {u : Value} {s' : Shared}, Inv (L2H.cxH CX P w K mg base N qual scope f cdv Ar out s H E p) [] σ' H' s' → RelV v u → Q v H' → L2.CE out P w H s Q u s' := by
    intro σ' H' v u s' J r q
    exact ⟨v, H', J.os, J.bare, J.base, J.hok, r, q⟩
  refine wpAny_mono (ht.run [] s1 (L2.start N vs) H _ I hq) ?_ ?_
  · intro fl s' hs
    cases fl with
    | ret u => obtain ⟨v, σ', H', J, r, q⟩ := hs; exact fin J r q
    | next => obtain ⟨σ', H', J, q⟩ := hs; exact fin (v := V.non) (u := Value.none) J rfl q
    | brk => obtain ⟨_, _, _, q⟩ := hs; exact False.elim q
    | cont => obtain ⟨_, _, _, q⟩ := hs; exact False.elim q
  · intro e s' hs; exact hs
/-- the same where none is handled -/
theorem okN_of {fa : Addr} (h : L2.Fun K name qual st fa fd) (S : L2.FnScope N ps (L2.defScope st)) (hl : ∀ vs H Q E, sp vs H Q E → vs.length = ps.length)
    (hb : ∀ (cdv : Value) (Ar : Around) (out : List PySem.Env) (s : Shared) (H : Hp) (vs : List V) (Q : VK) (E : XK), L2.Room k (Ar.deeper (envOfC qual (L2.defScope st) s.heap.objs.size fa cdv)) → sp vs H Q E →
      ∃ t, PSs (L2.cxOf CX P w K mg base N qual (L2.defScope st) fa cdv Ar out s H E) (L2.defBody st) t ∧ t { nx := fun _ H' => Q .non H', rt := Q } (L2.start N vs) H) :
    L2.FnOk P w K mg base CX (k + 1) fa fd ps sp := by
  obtain ⟨⟨_, _, _, _, _, _, _, _, _, rfl, lk, hcd⟩, _⟩ := h
  exact L2.fn_of lk hcd S hl fun Ar out s H vs Q E => hb _ Ar out s H vs Q E
/-- the def named in the text -/
theorem okX_of {fa : Addr} (h : L2.Fun K name qual st fa fd) (S : L2.FnScope N ps (L2.defScope st)) (hl : ∀ vs H Q E, sp vs H Q E → vs.length = ps.length)
    (hb : ∀ (cdv : Value) (p : Addr × Obj) (Ar : Around) (out : List PySem.Env) (s : Shared) (H : Hp) (vs : List V) (Q : VK) (E : XK), Ok p → Hot1 Ar p → RoomH k (Ar.deeper (envOfC qual (L2.defScope st) s.heap.objs.size fa cdv)) → sp vs H Q E →
      ∃ t, PSs (L2H.cxH CX P w K mg base N qual (L2.defScope st) fa cdv Ar out s H E p) (L2.defBody st) t ∧ t { nx := fun _ H' => Q .non H', rt := Q } (L2.start N vs) H) :
    FnX P w K mg base CX Ok (k + 1) fa fd ps sp := by
  obtain ⟨⟨_, _, _, _, _, _, _, _, _, rfl, lk, hcd⟩, _⟩ := h
  exact fnX_of lk hcd S hl fun p Ar out s H vs Q E => hb _ p Ar out s H vs Q E
end
section
variable {X : Cx} {CX : L2.CXT} {Ok : Addr × Obj → Prop} {k : Nat} {f : Addr} {fd : FuncData} {ps : List Str} {sp : L2.Sp} {E : L2.St → XK} {x : Str} {q pos : Pos} {e : Expr} {es : List Expr} {t : TA}
/-- a call there -/
theorem pe_callX {p : Addr × Obj} (F : FnX X.prog X.w X.K X.mg X.base CX Ok k f fd ps sp) (room : RoomH k X.A) (ok : Ok p) (hot : Hot1 X.A p) (hp : p ∈ X.pn) (hg : L2.Gl X x) (hm : X.mg x = some (.ref f)) (hk : PySem.W.keepIn X.K (.ref f) = true) (hb : L2.Binds X.K fd ps []) (hx : ∀ σ, L2.PassesAt CX X σ (E σ))
    (ha : PA X (e :: es) t) (hdb : (x == ("__debug__" : Str)) = false) (he : starEach (e :: es) X.env = (false, eval e X.env) :: starEach es X.env) (hpl : (backTo pos (starEach es X.env)).any (·.1) = false) :
    PE X (.Call (.Name x q) (e :: es) [] pos) (L2.tCallS sp E t) := by
  refine ⟨?_⟩
  intro pins s σ H Q I h
  refine wpAny_Call_Name_kw (L2.ld_glob I hg hm ?_ hdb)
  refine PySem.W.callWith_K (h₀ := X.base) I.ok.mod.kin hk (L2.thn (ha.run pos pins s σ H _ I h) ?_) he hpl
  rintro us s1 ⟨vs, H1, I1, r, q⟩
  refine ⟨I1.kIn, ?_⟩
  have ln : us.length = ps.length := r.length.symm.trans (F.lens _ _ _ _ q)
  have b := hb s1 us I1.kIn (by rw [List.append_nil]; exact ln)
  rw [List.append_nil] at b
  have P1 := I1.pin p (List.mem_append_left _ hp)
  have pin : PinOk X.stack H1 s1 p := by
    refine ⟨P1.1, P1.2.1, fun hm => ?_, P1.2.2.2.2⟩
    rcases List.mem_cons.mp (I1.stkSub p.1 hm) with z | z
    · exact P1.2.2.1 z
    · exact P1.2.2.2.1 z
  refine wpAny_call (codeAny_mono (F.go p X.A X.stack s1 H1 ⟨us, []⟩ us vs Q (E σ) ok hot pin room I1.env0 b r q) ?_)
  intro rr s' hq
  cases rr with
  | error y => exact hx σ pins H1 s1 y s' I1 hq
  | ok fl => cases fl with
    | ret u => exact I1.after hq
    | next => exact False.elim hq
    | brk => exact False.elim hq
    | cont => exact False.elim hq
end
/-! isinstance of the handled refusal -/
section
variable {X : Cx}
/-- isinstance(e, C), isinstance(e, (C1, ..)) -/
def rIse (K : PySem.W.Frag) (a D : Addr) : List V → Hp → VK → Prop := fun xs H Q => (∃ (c : V) (cv : Value) (b : Bool), xs = [.ref a, c] ∧ L2.ClsV c cv ∧ PySem.W.kitOne K (.ref D) cv = some b ∧ Q (.bl b) H) ∨
  ∃ (tp : Addr) (cs : List V) (us : List Value) (b : Bool), xs = [.ref a, .ref tp] ∧ H tp = some (.tup cs) ∧ Paired L2.ClsV cs us ∧ PySem.W.kitAny K (.ref D) us = some b ∧ Q (.bl b) H
theorem call_ise {D : Addr} {p : Addr × Obj} (C : L2.ExcC X.K D) (hp : p ∈ X.pn) (hz : L2.Zc (.ref D) none p.2) (hf : ∃ vs, p.2.data = .fields vs) : L2.CallR X (.builtin "isinstance") (rIse X.K p.1 D) := by
  intro pins s σ H xs us Q I r h
  have Z := PySem.W.handS_kitx_exc (x := p.1) (ox := p.2) C.hg C.hk C.hs C.hd C.ha C.hn C.ht C.hm
  have J : PySem.W.InstAt s.heap p.1 p.2 D none := by
    have hget := (I.pin p (List.mem_append_left _ hp)).1
    obtain ⟨a, oc, od, oda, osl⟩ := p
    obtain ⟨vs, hv⟩ := hf
    obtain ⟨h1, h2⟩ := hz
    dsimp only at h1 h2 hv
    subst h1 h2 hv
    exact ⟨hget, rfl, rfl, trivial⟩
  rcases h with ⟨c, cv, b, rfl, k, e, q⟩ | ⟨tp, cs, ws, b, rfl, hT, k, e, q⟩
  · obtain ⟨u1, u2, rfl, r1, r2⟩ := L2.vals2 r
    obtain rfl := k.eq r2
    cases (show u1 = Value.ref p.1 from r1)
    exact PySem.W.kia_one Z I.kIn J e (fun z => nomatch z) fun tk => ⟨.bl b, H, I.tok tk, rfl, q⟩
  · obtain ⟨u1, u2, rfl, r1, r2⟩ := L2.vals2 r
    cases (show u2 = Value.ref tp from r2)
    cases (show u1 = Value.ref p.1 from r1)
    obtain ⟨_, its, rv, o, h1, h2, n, h3⟩ := (show L2.ObjOk X.prog X.w H s.heap tp (.tup cs) from I.hok tp _ hT)
    obtain rfl := L2.ClsV.all k rv
    obtain ⟨oc, od, dt, sl⟩ := o
    simp only at h2 h3
    subst h2 h3
    exact PySem.W.kia_tup Z I.kIn J h1 e (fun z => nomatch z) fun tk => ⟨.bl b, H, I.tok tk, rfl, q⟩
end
/-! what is read with a refusal at hand -/
section
variable {c : Cg} {H H' H0 : Hp} {m m' mo mn : List Addr} {old S : Sto} {env : Env} {σ : L2.St}
/-- with the refusal k at a -/
abbrev Cg.at (c : Cg) (a : Addr) (k : Nat) : Cg := { c with hx := some (a, k) }
mutual
theorem RD.hot {a : Addr} {k : Nat} (h0 : c.hx = none) : ∀ (d : D) (v : V), RD c H m d v → RD (c.at a k) H m d v
  | .non, _, h => h | .bl _, _, h => h | .int _, _, h => h | .str _, _, h => h
  | .tup ds, v, h => by
    obtain ⟨b, vs, e, h1, h2⟩ := h
    exact ⟨b, vs, e, h1, RDs.hot h0 ds vs h2⟩
  | .lst _, _, h => h
  | .tmp _, _, h => h.elim
  | .fn _, _, h => h
  | .exc _, _, h => by
    obtain ⟨_, e, _⟩ := h
    rw [h0] at e; cases e
theorem RDs.hot {a : Addr} {k : Nat} (h0 : c.hx = none) : ∀ (ds : List D) (vs : List V), RDs c H m ds vs → RDs (c.at a k) H m ds vs
  | [], _, h => h
  | d :: ds, _, h => by
    obtain ⟨v, r, e, h1, h2⟩ := h
    exact ⟨v, r, e, RD.hot h0 d v h1, RDs.hot h0 ds r h2⟩
end
mutual
/-- what was read without a refusal bears none -/
theorem RD.cool {a : Addr} {k : Nat} (hm : m' <+: m) (h0 : c.hx = none) : ∀ (d : D) (v u : V), RD c H0 m' d u → RD (c.at a k) H m d v → RD c H m' d v
  | .non, _, _, _, h => h | .bl _, _, _, _, h => h | .int _, _, _, _, h => h | .str _, _, _, _, h => h
  | .tup ds, v, u, g, h => by
    obtain ⟨b, vs, e, h1, h2⟩ := h
    obtain ⟨_, us, _, _, g2⟩ := g
    exact ⟨b, vs, e, h1, RDs.cool hm h0 ds vs us g2 h2⟩
  | .lst _, _, _, g, h => by
    obtain ⟨b, e, h1⟩ := h
    obtain ⟨b', e', _⟩ := g
    have e : m[_]? = some b := e
    rw [pre_get hm e'] at e
    cases e
    exact ⟨b, e', h1⟩
  | .tmp _, _, _, _, h => h.elim
  | .fn _, _, _, _, h => h
  | .exc _, _, _, g, _ => by
    obtain ⟨_, e, _⟩ := g
    rw [h0] at e; cases e
theorem RDs.cool {a : Addr} {k : Nat} (hm : m' <+: m) (h0 : c.hx = none) : ∀ (ds : List D) (vs us : List V), RDs c H0 m' ds us → RDs (c.at a k) H m ds vs → RDs c H m' ds vs
  | [], _, _, _, h => h
  | d :: ds, _, _, g, h => by
    obtain ⟨v, r, e, h1, h2⟩ := h
    obtain ⟨_, _, _, g1, g2⟩ := g
    exact ⟨v, r, e, RD.cool hm h0 d v _ g1 h1, RDs.cool hm h0 ds r _ g2 h2⟩
end
theorem NewOk.hot {a : Addr} {k : Nat} (h0 : c.hx = none) (n : NewOk c H m mn S) : NewOk (c.at a k) H m mn S :=
  ⟨n.nd, n.len, fun i b e => let ⟨xs, vs, e1, e2, e3⟩ := n.at_ i b e; ⟨xs, vs, e1, e2, e3.hot h0⟩⟩
theorem OldOk.hot {a : Addr} {k : Nat} (h0 : c.hx = none) (n : OldOk c H m mo mn old) : OldOk (c.at a k) H m mo mn old :=
  ⟨n.len, fun i b e => (n.at_ i b e).imp (fun ⟨xs, vs, e1, e2, e3, e4⟩ => ⟨xs, vs, e1, e2, e3, e4.hot h0⟩) fun ⟨xs, vs, e1, e2, e3⟩ => ⟨xs, vs, e1, e2, e3.hot h0⟩⟩
theorem EnvOk.hot {a : Addr} {k : Nat} (h0 : c.hx = none) (n : EnvOk c H m env σ) : EnvOk (c.at a k) H m env σ :=
  ⟨n.len, fun i d e => let ⟨v, h1, h2⟩ := n.at_ i d e; ⟨v, h1, h2.hot h0⟩⟩
theorem StOk.hot {a : Addr} {k : Nat} (h0 : c.hx = none) (n : StOk c H mo mn old S env σ) : StOk (c.at a k) H mo mn old S env σ := ⟨n.o.hot h0, n.n.hot h0, n.e.hot h0⟩
theorem NewOk.cool {a : Addr} {k : Nat} {mn2 : List Addr} {t : Sto} (h0 : c.hx = none) (hm : mn <+: mn2) (g : NewOk c H0 (mo ++ mn) mn S) (n : NewOk (c.at a k) H (mo ++ mn2) mn2 (S ++ t)) : NewOk c H (mo ++ mn) mn S := by
  refine ⟨g.nd, g.len, fun i b e => ?_⟩
  obtain ⟨xs, vs, e1, e2, e3⟩ := n.at_ i b (pre_get hm e)
  obtain ⟨ys, us, f1, f2, f3⟩ := g.at_ i _ e
  rw [List.getElem?_append_left (List.getElem?_eq_some_iff.mp f1).1, f1] at e1
  cases e1
  exact ⟨xs, vs, f1, e2, RDs.cool (pre_app hm) h0 xs vs us f3 e3⟩
end
/-! an except suite's telling: it changes nothing -/
mutual
def hE : E → Bool
  | .var _ => true | .lit _ => true | .glo _ => true
  | .bin _ a b => hE a && hE b
  | .cmp _ a b => hE a && hE b
  | .and a b => hE a && hE b
  | .or a b => hE a && hE b
  | .not a => hE a
  | .ife c a b => hE c && hE a && hE b
  | .neg a => hE a
  | .call _ es => hEs es
  | .blt _ es => hEs es
  | .ise a _ => hE a
  | _ => false
def hEs : Es → Bool
  | .nil => true
  | .cons e es => hE e && hEs es
end
theorem ext_tr {S S1 S2 : Sto} (h1 : ∃ t, S1 = S ++ t) (h2 : ∃ t, S2 = S1 ++ t) : ∃ t, S2 = S ++ t := by
  obtain ⟨t, rfl⟩ := h1
  obtain ⟨u, rfl⟩ := h2
  exact ⟨t ++ u, by rw [List.append_assoc]⟩
theorem bnd_ok {α β : Type} {r : R α} {f : α → Sto → R β} {b : β} {S : Sto} (h : bnd r f = .ok b S) : ∃ a S1, r = .ok a S1 ∧ f a S1 = .ok b S := by
  cases r with
  | ok a S1 => exact ⟨a, S1, rfl, h⟩
  | exc c S1 => cases h
  | bad => cases h
theorem opV_same {old : Sto} {o : Op} {x y d : D} {S S1 : Sto} (h : opV old o x y S = .ok d S1) : S1 = S := by
  unfold opV at h
  repeat' (split at h)
  all_goals first | (cases h; rfl) | cases h
theorem bltV_same {old : Sto} {f : Blt} {xs : List D} {d : D} {S S1 : Sto} (h : bltV old f xs S = .ok d S1) : S1 = S := by
  unfold bltV at h
  repeat' (split at h)
  all_goals first | (cases h; rfl) | cases h
section
variable {cp : Nat → List D → Sto → R D} {ci : Nat → List D → Sto → Sto → R D} {old : Sto}
theorem hE_same {es : Es} : True := trivial
mutual
theorem hE_grow : ∀ (e : E) (env : Env) (S : Sto) (d : D) (S1 : Sto), hE e = true → ev cp ci old e env S = .ok d S1 → ∃ t, S1 = S ++ t
  | .var i, env, S, d, S1, _, h => by
    simp only [ev] at h
    split at h
    · cases h; exact ⟨[], by simp⟩
    · cases h
  | .lit k, env, S, d, S1, _, h => by
    simp only [ev] at h
    split at h
    · cases h; exact ⟨[], by simp⟩
    · cases h
  | .glo k, env, S, d, S1, _, h => by
    simp only [ev] at h
    split at h
    · cases h; exact ⟨[], by simp⟩
    · cases h
  | .bin o a b, env, S, d, S1, g, h => by
    simp only [hE, Bool.and_eq_true] at g
    simp only [ev] at h
    obtain ⟨x, S2, h1, h⟩ := bnd_ok h
    obtain ⟨y, S3, h2, h⟩ := bnd_ok h
    obtain rfl := opV_same h
    exact ext_tr (hE_grow a _ _ _ _ g.1 h1) (hE_grow b _ _ _ _ g.2 h2)
  | .cmp o a b, env, S, d, S1, g, h => by
    simp only [hE, Bool.and_eq_true] at g
    simp only [ev] at h
    obtain ⟨x, S2, h1, h⟩ := bnd_ok h
    obtain ⟨y, S3, h2, h⟩ := bnd_ok h
    split at h
    · cases h; exact ext_tr (hE_grow a _ _ _ _ g.1 h1) (hE_grow b _ _ _ _ g.2 h2)
    · cases h
  | .and a b, env, S, d, S1, g, h => by
    simp only [hE, Bool.and_eq_true] at g
    simp only [ev] at h
    obtain ⟨x, S2, h1, h⟩ := bnd_ok h
    have q := hE_grow a _ _ _ _ g.1 h1
    split at h
    · split at h
      · exact ext_tr q (hE_grow b _ _ _ _ g.2 h)
      · cases h; exact q
    · cases h
  | .or a b, env, S, d, S1, g, h => by
    simp only [hE, Bool.and_eq_true] at g
    simp only [ev] at h
    obtain ⟨x, S2, h1, h⟩ := bnd_ok h
    have q := hE_grow a _ _ _ _ g.1 h1
    split at h
    · split at h
      · cases h; exact q
      · exact ext_tr q (hE_grow b _ _ _ _ g.2 h)
    · cases h
  | .not a, env, S, d, S1, g, h => by
    simp only [ev] at h
    obtain ⟨x, S2, h1, h⟩ := bnd_ok h
    have q := hE_grow a _ _ _ _ g h1
    split at h
    · cases h; exact q
    · cases h
  | .neg a, env, S, d, S1, g, h => by
    simp only [ev] at h
    obtain ⟨x, S2, h1, h⟩ := bnd_ok h
    have q := hE_grow a _ _ _ _ g h1
    split at h
    · cases h; exact q
    · cases h
  | .ise a cs, env, S, d, S1, g, h => by
    simp only [ev] at h
    obtain ⟨x, S2, h1, h⟩ := bnd_ok h
    have q := hE_grow a _ _ _ _ g h1
    split at h
    · cases h; exact q
    · cases h
  | .ife k a b, env, S, d, S1, g, h => by
    simp only [hE, Bool.and_eq_true] at g
    simp only [ev] at h
    obtain ⟨x, S2, h1, h⟩ := bnd_ok h
    have q := hE_grow k _ _ _ _ g.1.1 h1
    split at h
    · split at h
      · exact ext_tr q (hE_grow a _ _ _ _ g.1.2 h)
      · exact ext_tr q (hE_grow b _ _ _ _ g.2 h)
    · cases h
  | .call f es, env, S, d, S1, g, h => by
    simp only [ev] at h
    obtain ⟨x, S2, h1, h⟩ := bnd_ok h
    have q := hEs_grow es _ _ _ _ g h1
    split at h
    · cases h; exact ext_tr q ⟨_, rfl⟩
    · cases h
    · cases h
  | .blt f es, env, S, d, S1, g, h => by
    simp only [ev] at h
    obtain ⟨x, S2, h1, h⟩ := bnd_ok h
    obtain rfl := bltV_same h
    exact hEr_grow es _ _ _ _ g h1
  | .chn .., _, _, _, _, g, _ => by cases g
  | .tup _, _, _, _, _, g, _ => by cases g
  | .lst _, _, _, _, _, g, _ => by cases g
  | .idx _ _, _, _, _, _, g, _ => by cases g
  | .sli .., _, _, _, _, g, _ => by cases g
  | .calli _ _, _, _, _, _, g, _ => by cases g
  | .isi _ _, _, _, _, _, g, _ => by cases g
  | .isi2 _, _, _, _, _, g, _ => by cases g
  | .met .., _, _, _, _, g, _ => by cases g
  | .ext _ _, _, _, _, _, g, _ => by cases g
  | .srt _ _, _, _, _, _, g, _ => by cases g
  | .rev _, _, _, _, _, g, _ => by cases g
  | .comp .., _, _, _, _, g, _ => by cases g
theorem hEs_grow : ∀ (es : Es) (env : Env) (S : Sto) (d : List D) (S1 : Sto), hEs es = true → evs cp ci old es env S = .ok d S1 → ∃ t, S1 = S ++ t
  | .nil, env, S, d, S1, _, h => by
    simp only [evs] at h
    cases h; exact ⟨[], by simp⟩
  | .cons e es, env, S, d, S1, g, h => by
    simp only [hEs, Bool.and_eq_true] at g
    simp only [evs] at h
    obtain ⟨x, S2, h1, h⟩ := bnd_ok h
    obtain ⟨y, S3, h2, h⟩ := bnd_ok h
    obtain ⟨ys, S4, h3, h⟩ := bnd_ok h
    cases h
    have q : ∃ t, S3 = S2 ++ t := by
      unfold own at h2
      split at h2
      · cases h2; exact ⟨_, rfl⟩
      · cases h2; exact ⟨[], by simp⟩
    exact ext_tr (hE_grow e _ _ _ _ g.1 h1) (ext_tr q (hEs_grow es _ _ _ _ g.2 h3))
theorem hEr_grow : ∀ (es : Es) (env : Env) (S : Sto) (d : List D) (S1 : Sto), hEs es = true → evr cp ci old es env S = .ok d S1 → ∃ t, S1 = S ++ t
  | .nil, env, S, d, S1, _, h => by
    simp only [evr] at h
    cases h; exact ⟨[], by simp⟩
  | .cons e es, env, S, d, S1, g, h => by
    simp only [hEs, Bool.and_eq_true] at g
    simp only [evr] at h
    obtain ⟨x, S2, h1, h⟩ := bnd_ok h
    obtain ⟨ys, S4, h3, h⟩ := bnd_ok h
    cases h
    exact ext_tr (hE_grow e _ _ _ _ g.1 h1) (hEr_grow es _ _ _ _ g.2 h3)
end
end
section
variable {c : Cg} {H : Hp} {σ : L2.St} {W : L2.WX} {D' : Ends} {cp : Nat → List D → Sto → R D} {ci : Nat → List D → Sto → Sto → R D} {fu : Nat} {K : PySem.W.Frag}
/-- try, and what is told of a refusal -/
theorem w_tre {b : B} {i : Nat} {cs : List Nat} {e : E} {cv : Value} (h0 : c.hx = none) (he : hE e = true) (hx : ∀ k C, c.ca k = some C → PySem.W.exmOne K (.ref C) cv = some (cs.contains k)) (h : denSt c W cp ci fu (.tre b i cs e) D' σ H) :
    denB c (L2.wAs K cv i (fun a cls dd D σ H => ∃ k C, cls = .ref C ∧ dd = none ∧ c.ca k = some C ∧ den (c.at a k) WF cp ci e σ H fun v H' => D.rt v H') W D') cp ci fu b D' σ H := by
  obtain ⟨old, mo, mn, env, S, st, h⟩ := h
  refine ⟨old, mo, mn, env, S, st, ?_⟩
  simp only [ex] at h
  cases q : exs cp ci old fu b env S with
  | nx env2 S2 => rw [q] at h; exact h
  | rt d S2 => rw [q] at h; exact h
  | bk env2 S2 => rw [q] at h; exact h
  | ct env2 S2 => rw [q] at h; exact h
  | bad => rw [q] at h; exact h.elim
  | exc k env2 S2 =>
    rw [q] at h
    intro mn' H' σ' C x' s' hC
    refine ⟨cs.contains k, hx k C hC, fun hk a ha => ?_, fun hk => ?_⟩
    · refine ⟨k, C, rfl, rfl, hC, ?_⟩
      simp only [hk, if_true] at h
      have s2 := s'.hot (a := a) (k := k) h0
      refine ⟨old, mo, mn', env2.set i (some (.exc k)), S2, ⟨s2.o, s2.n, s2.e.set (d := .exc k) ⟨a, rfl, rfl⟩ i⟩, ?_⟩
      cases qe : ev cp ci old e (env2.set i (some (.exc k))) S2 with
      | exc y S3 => rw [qe] at h; exact h.elim
      | bad => rw [qe] at h; exact h.elim
      | ok d S3 =>
        rw [qe] at h
        simp only at h
        split at h
        · rename_i hs
          obtain ⟨t, rfl⟩ := hE_grow e _ _ _ _ he qe
          intro mn2 H2 v x2 n2 r2
          have n3 := NewOk.cool h0 x2.pre s'.n n2
          have x3 : Ext mn' H' mn' H2 := ⟨List.prefix_rfl, fun a h => .inl h, fun b o hb hn => ?_⟩
          · refine h mn' H2 v (x'.trans x3) n3 ?_
            have r3 : RV c H' H2 (mo ++ mn') mn' d v := by
              cases d <;> first | exact r2 | (simp [scalD] at hs)
            exact r3.back fun b hb => x'.free s'.n hb
          · exact x2.keep b o hb hn
        · exact h.elim
    · simp only [hk, Bool.false_eq_true, if_false] at h
      exact h mn' H' σ' C x' s' hC
theorem ex_unl {is : List Nat} {own : List Nat} {it : I} {tg : Tg} {cond : Eo} {elt : E} {env : Env} {S : Sto} {old : Sto} : ex cp ci old fu (.unp is (.blt .tuple (.cons (.comp own it tg cond elt) .nil))) env S =
    bndO (ev cp ci old (.comp own it tg cond elt) env S) env fun x S1 => match x with
      | .tmp ds => (match setAll is ds env with
        | some env2 => .nx env2 S1
        | none => .bad)
      | _ => .bad := by
  simp only [ex]
  rw [ev, evr]
  simp only [evr]
  have key : ∀ r : R D, (∀ x S1, r = .ok x S1 → ∃ ds, x = .tmp ds) →
      (bndO (bnd (bnd r fun x S1 => bnd (.ok [] S1) fun ys S2 => .ok (x :: ys) S2) fun ds S1 => bltV old .tuple ds S1) env fun x S1 => match x with
        | .tup ds => (match setAll is ds env with
          | some env2 => O.nx env2 S1
          | none => .bad)
        | _ => .bad) = bndO r env fun x S1 => match x with
        | .tmp ds => (match setAll is ds env with
          | some env2 => .nx env2 S1
          | none => .bad)
        | _ => .bad := by
    intro r hr
    cases r with
    | ok x S1 =>
      obtain ⟨ds, rfl⟩ := hr x S1 rfl
      rfl
    | exc _ _ => rfl
    | bad => rfl
  refine key _ fun x S1 e => ?_
  rw [ev] at e
  revert e
  cases evi cp ci old it env S with
  | ok j S2 =>
    intro e
    have e : (if SL (j.size old S2) = true then _ else R.bad) = R.ok x S1 := e
    split at e
    · split at e
      · cases e; exact ⟨_, rfl⟩
      · cases e
    · cases e
  | exc _ _ => intro e; cases e
  | bad => intro e; cases e
theorem w_unl {is : List Nat} {own : List Nat} {it : I} {tg : Tg} {cond : Eo} {elt : E} (h : denSt c W cp ci fu (.unp is (.blt .tuple (.cons (.comp own it tg cond elt) .nil))) D' σ H) : L2.tAsg (den c W cp ci (.comp own it tg cond elt)) (L2.gLst c.K is.length (semGs is)) D' σ H := by
  obtain ⟨old, mo, mn, env, S, st, h⟩ := h
  rw [ex_unl] at h
  refine ⟨old, mo, mn, env, S, st, stepO st h fun x S1 mn1 H1 v1 _ x1 s1 r1 h1 => ?_⟩
  split at h1
  · split at h1
    · rename_i env2 e2
      obtain ⟨a, vs, rfl, g1, g2⟩ := RV.seqOf s1.s r1 rfl
      rcases g2 with ⟨g2, _⟩ | ⟨_, g2⟩
      · exact ⟨a, vs, rfl, g2, by rw [← g1.len]; exact (setAll_len e2).symm, setAll_ok e2 g1 s1.e fun σ1 o1 _ => h1 mn1 H1 σ1 x1 ⟨s1.o, s1.n, o1⟩⟩
      · cases g2
    · exact h1.elim
  · exact h1.elim
end
end Z
/-! Z11: the checker, and that what it lets by is sound. -/
namespace Z
open PySem PySem.Spec PyProof.Rows
open L2 (V Hp HO upd upd_same upd_ne SqL SqT Rd VK TE TT TA TS Ends WX XK)
/-- what is known of the text: the def's names by place; the defs; the classes; the constants; built-in names that are no globals -/
structure Info where
  N : List Str
  fnm : Nat → Option (Str × Nat)
  cls : Nat → Option Str
  con : List (Str × D)
  bln : List Str
  hfm : Nat → Option (Str × Nat) := fun _ => none
  isx : List (Str × List Nat) := []
/-- a scope; of a comprehension: its own names too -/
structure Sc where
  sc : Scope
  raw : Option Scope
  hot : Bool := false
def visB (sc : Scope) (x : Str) : Bool := match sc.names.lookup x with
  | some .local => true | some .cell => true | some .free => true
  | _ => false
def glB (sc : Scope) (x : Str) : Bool := match sc.names.lookup x with
  | some .globalImplicit => true
  | _ => false
def okn (x : Str) : Bool := !(x == ("__debug__" : Str)) && !(x == ("__classdict__" : Str))
def opB : Op → Operator → Bool
  | .add, .Add => true | .sub, .Sub => true | .mul, .Mult => true | .fdiv, .FloorDiv => true | .mod, .Mod => true | .pow, .Pow => true | .shl, .LShift => true | .shr, .RShift => true | .band, .BitAnd => true | .bor, .BitOr => true | .bxor, .BitXor => true
  | _, _ => false
def cmB : Cm → CmpOp → Bool
  | .eq, .Eq => true | .ne, .NotEq => true | .lt, .Lt => true | .le, .LtE => true | .gt, .Gt => true | .ge, .GtE => true | .is, .Is => true | .isnt, .IsNot => true | .isin, .In => true | .notin, .NotIn => true
  | _, _ => false
def litB : D → Const → Bool
  | .non, .none => true
  | .bl b, .bool k => b == k
  | .int i, .int k => decide (i = k)
  | .str x, .str k => decide (x = k)
  | _, _ => false
mutual
def deq : D → D → Bool
  | .non, .non => true
  | .bl a, .bl b => a == b
  | .int a, .int b => decide (a = b)
  | .str a, .str b => decide (a = b)
  | .tup a, .tup b => deqs a b
  | .fn a, .fn b => Nat.beq a b
  | _, _ => false
def deqs : List D → List D → Bool
  | [], [] => true
  | a :: as, b :: bs => deq a b && deqs as bs
  | _, _ => false
end
mutual
theorem deq_eq : ∀ {a b : D}, deq a b = true → a = b
  | .non, b, h => by cases b <;> first | rfl | simp [deq] at h
  | .bl _, b, h => by cases b <;> simp [deq] at h; rw [h]
  | .int _, b, h => by cases b <;> simp [deq] at h; rw [h]
  | .str _, b, h => by cases b <;> simp [deq] at h; rw [h]
  | .tup as, b, h => by
    cases b <;> simp [deq] at h
    rw [deqs_eq h]
  | .fn _, b, h => by cases b <;> simp [deq] at h; rw [h]
  | .lst _, b, h => by cases b <;> simp [deq] at h
  | .tmp _, b, h => by cases b <;> simp [deq] at h
  | .exc _, b, h => by cases b <;> simp [deq] at h
theorem deqs_eq : ∀ {a b : List D}, deqs a b = true → a = b
  | [], [], _ => rfl
  | [], _ :: _, h => by simp [deqs] at h
  | _ :: _, [], h => by simp [deqs] at h
  | a :: as, b :: bs, h => by
    simp only [deqs, Bool.and_eq_true] at h
    rw [deq_eq h.1, deqs_eq h.2]
end
def notSet : Expr → Bool
  | .Set _ _ _ => false
  | _ => true
def notStar : Expr → Bool
  | .Starred _ _ => false
  | _ => true
def notSlice : Expr → Bool
  | .Slice _ _ _ _ => false
  | _ => true
def notCall0 : Expr → Bool
  | .Call (.Name _ _) [] [] _ => false
  | _ => true
def plainT : Expr → Bool
  | .UnaryOp .Not _ _ => false
  | .BoolOp _ _ _ => false
  | .IfExp _ _ _ _ => false
  | .Compare _ _ _ _ => false
  | _ => true
def isBool : Expr → Bool
  | .BoolOp _ _ _ => true
  | _ => false
def notComp : Expr → Bool
  | .ListComp _ _ _ _ => false
  | .SetComp _ _ _ _ => false
  | .DictComp _ _ _ _ _ => false
  | _ => true
def notTup : Expr → Bool
  | .Tuple _ _ _ => false
  | _ => true
section
variable {env : Env} {e : Expr} {es : List Expr}
end
theorem star_cons {e : Expr} (h : notStar e = true) (es : List Expr) (env : PySem.Env) : starEach (e :: es) env = (false, eval e env) :: starEach es env := by
  cases e <;> first | rfl | exact absurd h (by simp [notStar])
def noStars : List Expr → Bool
  | [] => true
  | e :: es => notStar e && noStars es
theorem star_all : ∀ {es : List Expr} (pos : Pos) (env : PySem.Env), noStars es = true → (backTo pos (starEach es env)).any (·.1) = false
  | [], pos, env, _ => rfl
  | e :: es, pos, env, h => by
    simp only [noStars, Bool.and_eq_true] at h
    rw [star_cons h.1]
    show (false || (backTo pos (starEach es env)).any (·.1)) = false
    rw [star_all pos env h.2]; rfl
theorem star_all2 : ∀ {es : List Expr} (pos : Pos) (env : PySem.Env), noStars es = true → (backTo pos (starEach es env)).all (fun x => !x.1) = true
  | [], pos, env, _ => rfl
  | e :: es, pos, env, h => by
    simp only [noStars, Bool.and_eq_true] at h
    rw [star_cons h.1]
    show (true && (backTo pos (starEach es env)).all (fun x => !x.1)) = true
    rw [star_all2 pos env h.2]; rfl
theorem plainIx_of {e : Expr} (h : notSlice e = true) : L2.PlainIx e := by
  intro o i
  cases e <;> first | rfl | exact absurd h (by simp [notSlice])
theorem noMark_of {e : Expr} {op : CmpOp} (h : notSet e = true) : behindInMarks op e = false := by
  cases e <;> first | rfl | exact absurd h (by simp [notSet])
theorem attr_base {e : Expr} {nm : Str} {env : PySem.Env} (h : notCall0 e = true) : attributeBase e nm env (eval e env) = eval e env := by
  cases e with
  | Call f as ks p =>
    cases f with
    | Name n q =>
      cases as with
      | nil =>
        cases ks with
        | nil => exact absurd h (by simp [notCall0])
        | cons k ks => rfl
      | cons a as => rfl
    | _ => rfl
  | _ => rfl
theorem plainT_of {e : Expr} {env : PySem.Env} (h : plainT e = true) : ∀ whole, isTrue e env whole = (do let v ← whole; standAt e.pos; holding [v] (truthy v)) := by
  intro whole
  cases e with
  | UnaryOp op x p => cases op <;> first | rfl | exact absurd h (by simp [plainT])
  | BoolOp _ _ _ => exact absurd h (by simp [plainT])
  | IfExp _ _ _ _ => exact absurd h (by simp [plainT])
  | Compare _ _ _ _ => exact absurd h (by simp [plainT])
  | _ => rfl
theorem folded_of {e : Expr} {env : PySem.Env} (h : notSet e = true) : ∀ x, foldedSetIterable e env x = pure x := by
  intro x
  cases e <;> first | rfl | exact absurd h (by simp [notSet])
theorem swaps_of {e : Expr} {t : Option Expr} {l : Nat} {env : PySem.Env} (h : notComp e = true) : swapsWith e t l env = pure false := by
  cases e <;> first | rfl | exact absurd h (by simp [notComp])
def celB (s : Sc) (n : Str) : Bool := match s.sc.names.lookup n with
  | some .local => true
  | some .cell => (match s.raw with
    | none => true
    | some r => (match r.names.lookup n with
      | some .cell => true
      | _ => false))
  | _ => false
def chkN (N : List Str) (s : Sc) (i : Nat) : Expr → Bool
  | .Name n _ => decide (N[i]? = some n) && celB s n
  | _ => false
def chkNs (N : List Str) (s : Sc) : List Nat → List Expr → Bool
  | [], [] => true
  | i :: is, e :: es => chkN N s i e && chkNs N s is es
  | _, _ => false
def chkTg (N : List Str) (s : Sc) : Tg → Expr → Bool
  | .nm i, e => chkN N s i e
  | .tu is, .Tuple es _ _ => chkNs N s is es
  | _, _ => false
def isTup : Expr → Bool
  | .Tuple _ _ _ => true
  | _ => false
def tstOk : E → Bool
  | .ife _ _ _ => false
  | .and a b => tstOk a && tstOk b
  | .or a b => tstOk a && tstOk b
  | .not a => tstOk a
  | _ => true
def scR (scope sc : Scope) : Scope :=
  { scope with names := scope.names.map fun (n, k) => if (k == .free && sc.kind == .function && sc.names.lookup n == some .cell) then (n, .cell) else (n, k) }
def isLr : Blt → Bool
  | .lrng => true
  | _ => false
def kwB (rev : Bool) : List Keyword → Bool
  | [] => !rev
  | [⟨some k, .Constant (.bool b) _ _, _⟩] => decide (k = Str.ofString "reverse") && b == rev
  | _ => false
variable (J : Info)
def ownl (own : List Nat) : List (Str × Nat) := own.map fun i => (J.N.getD i ⟨#[]⟩, i)
def blB (n : Str) : Bool := J.bln.contains n
/-- a class's name; names of classes -/
def isxN (s : Sc) (cs : List Nat) : Expr → Bool
  | .Name n _ => glB s.sc n && (match J.isx.lookup n with
    | some l => decide (l = cs)
    | none => false)
  | _ => false
def isxNs (s : Sc) : List Nat → List Expr → Bool
  | cs, [] => cs.isEmpty
  | cs, .Name n _ :: es => glB s.sc n && (match J.isx.lookup n with
    | some l => decide (cs.take l.length = l) && isxNs s (cs.drop l.length) es
    | none => false)
  | _, _ => false
def isxE (s : Sc) (cs : List Nat) : Expr → Bool
  | .Tuple ys _ _ => isxNs J s cs ys && decide (ys.length < 100)
  | y => isxN J s cs y
mutual
def chkE : E → Sc → Expr → Bool
  | .var i, s, x => match x with
    | .Name n _ => decide (J.N[i]? = some n) && visB s.sc n && okn n
    | _ => false
  | .lit d, _, x => match x with
    | .Constant k _ _ => litB d k
    | _ => false
  | .glo d, s, x => match x with
    | .Name n _ => glB s.sc n && okn n && (match J.con.lookup n with
      | some e => deq e d
      | none => false)
    | _ => false
  | .bin o a b, s, x => match x with
    | .BinOp l op r _ => opB o op && chkE a s l && chkE b s r
    | _ => false
  | .neg a, s, x => match x with
    | .UnaryOp .USub l _ => chkE a s l
    | _ => false
  | .cmp o a b, s, x => match x with
    | .Compare l [op] [r] _ => cmB o op && notSet r && chkE a s l && chkE b s r
    | _ => false
  | .chn o p a b d, s, x => match x with
    | .Compare l [op, pp] [r, t] _ => cmB o op && cmB p pp && notSet t && chkE a s l && chkE b s r && chkE d s t
    | _ => false
  | .and a b, s, x => match x with
    | .BoolOp .And (l :: r :: rest) p => chkE a s l && (match rest with
      | [] => chkE b s r
      | _ => isBool (.BoolOp .And (r :: rest) p) && chkE b s (.BoolOp .And (r :: rest) p))
    | _ => false
  | .or a b, s, x => match x with
    | .BoolOp .Or (l :: r :: rest) p => chkE a s l && (match rest with
      | [] => chkE b s r
      | _ => isBool (.BoolOp .Or (r :: rest) p) && chkE b s (.BoolOp .Or (r :: rest) p))
    | _ => false
  | .not a, s, x => match x with
    | .UnaryOp .Not l _ => chkE a s l
    | _ => false
  | .ife t a b, s, x => match x with
    | .IfExp q l r _ => tstOk t && chkE t s q && chkE a s l && chkE b s r
    | _ => false
  | .tup es, s, x => match x with
    | .Tuple xs _ _ => chkEs es s xs
    | _ => false
  | .lst es, s, x => match x with
    | .List xs _ => chkEs es s xs
    | _ => false
  | .idx a b, s, x => match x with
    | .Subscript l r _ => notSlice r && chkE a s l && chkE b s r
    | _ => false
  | .sli a lo hi, s, x => match x with
    | .Subscript l (.Slice u w none _) _ => chkE a s l && chkO lo s u && chkO hi s w
    | _ => false
  | .call f es, s, x => match x with
    | .Call (.Name n _) (e :: xs) [] _ => glB s.sc n && okn n && (match (if s.hot = true then J.hfm f else J.fnm f) with
      | some q => decide (q.1 = n)
      | none => false) && noStars (e :: xs) && chkEs es s (e :: xs)
    | _ => false
  | .calli f es, s, x => match x with
    | .Call (.Name n _) (e :: xs) [] _ => !s.hot && glB s.sc n && okn n && (match J.fnm f with
      | some q => decide (q.1 = n)
      | none => false) && noStars (e :: xs) && chkEs es s (e :: xs)
    | _ => false
  | .blt f es, s, x => if (s.hot && bltC f) = true then false else if isLr f = true then (match x with
      | .Call (.Name n _) [.Call (.Name n2 _) [a] [] _] [] _ => decide (n = "list") && decide (n2 = "range") && glB s.sc n && glB s.sc n2 && blB J n && blB J n2 && notStar a && chkRs es s [a]
      | _ => false) else match x with
      | .Call (.Name n _) (e :: xs) [] _ => decide (n = (bltNm f).1) && glB s.sc n && blB J n && noStars (e :: xs) && chkRs es s (e :: xs)
      | _ => false
  | .isi a t, s, x => match x with
    | .Call (.Name n _) [e, .Name m _] [] _ => decide (n = "isinstance") && decide (m = Str.ofString (tyNm t)) && glB s.sc n && glB s.sc m && blB J n && blB J m && notStar e && chkE a s e
    | _ => false
  | .isi2 a, s, x => match x with
    | .Call (.Name n _) [e, .Tuple [.Name m _, .Name m2 _] _ _] [] _ => decide (n = "isinstance") && decide (m = Str.ofString (tyNm .tuple)) && decide (m2 = Str.ofString (tyNm .list)) && glB s.sc n && glB s.sc m && glB s.sc m2 && blB J n && blB J m && blB J m2 && notStar e && chkE a s e
    | _ => false
  | .ise a cs, s, x => if s.hot = true then (match x with
    | .Call (.Name n _) [e, y] [] _ => decide (n = "isinstance") && glB s.sc n && blB J n && notStar e && chkE a s e && isxE J s cs y
    | _ => false) else false
  | .met m o es, s, x => match x with
    | .Call (.Attribute l nm ap) xs [] cp => decide (nm = (metId m).1) && notCall0 l && (ap.endLine == cp.line) && noStars xs && decide (xs.length < 20) && chkE o s l && chkEs es s xs
    | _ => false
  | .ext o e, s, x => match x with
    | .Call (.Attribute l nm ap) [r] [] cp => decide (nm = "extend") && notCall0 l && (ap.endLine == cp.line) && notStar r && chkE o s l && chkE e s r
    | _ => false
  | .srt a rev, s, x => match x with
    | .Call (.Name n _) [e] kws _ => decide (n = "sorted") && glB s.sc n && blB J n && notStar e && kwB rev kws && chkE a s e
    | _ => false
  | .rev a, s, x => match x with
    | .Subscript l (.Slice none none (some (.UnaryOp .USub (.Constant (.int i) _ _) _)) _) _ => decide (i = 1) && chkE a s l
    | _ => false
  | .comp own it tg cond elt, s, x => if s.hot = true then false else match x with
    | .ListComp xe [⟨xt, xi, ifs, 0⟩] scope _ => L2.blkC J.N s.sc scope (ownl J own) && notSet xi && tgIn tg own && chkTg J.N ⟨scR scope s.sc, some scope, false⟩ tg xt && chkI it s xi xt && chkC cond ⟨scR scope s.sc, some scope, false⟩ ifs && chkE elt ⟨scR scope s.sc, some scope, false⟩ xe
    | _ => false
def chkO : Eo → Sc → Option Expr → Bool
  | .no, _, none => true
  | .of e, s, some x => chkE e s x
  | _, _, _ => false
def chkC : Eo → Sc → List Expr → Bool
  | .no, _, [] => true
  | .of e, s, [x] => tstOk e && chkE e s x
  | _, _, _ => false
def chkEs : Es → Sc → List Expr → Bool
  | .nil, _, [] => true
  | .cons e es, s, x :: xs => notStar x && chkE e s x && chkEs es s xs
  | _, _, _ => false
def chkRs : Es → Sc → List Expr → Bool
  | .nil, _, [] => true
  | .cons e es, s, x :: xs => notStar x && chkE e s x && chkRs es s xs
  | _, _, _ => false
def chkI : I → Sc → Expr → Expr → Bool
  | .seq e, s, x, _ => chkE e s x
  | .rng1 a, s, x, _ => match x with
    | .Call (.Name n _) [l] [] _ => decide (n = "range") && glB s.sc n && blB J n && notStar l && chkE a s l
    | _ => false
  | .rng2 a b, s, x, _ => match x with
    | .Call (.Name n _) [l, r] [] _ => decide (n = "range") && glB s.sc n && blB J n && notStar l && notStar r && chkE a s l && chkE b s r
    | _ => false
  | .rng3 a b d, s, x, _ => match x with
    | .Call (.Name n _) [l, r, t] [] _ => decide (n = "range") && glB s.sc n && blB J n && notStar l && notStar r && notStar t && chkE a s l && chkE b s r && chkE d s t
    | _ => false
  | .enu e, s, x, t => match x with
    | .Call (.Name n _) [l] [] _ => isTup t && decide (n = "enumerate") && glB s.sc n && blB J n && notStar l && chkE e s l
    | _ => false
  | .zip a b, s, x, t => match x with
    | .Call (.Name n _) [l, r] [] _ => isTup t && decide (n = "zip") && glB s.sc n && blB J n && notStar l && notStar r && chkE a s l && chkE b s r
    | _ => false
end

/-! ### what the context gives -/
structure Good (X : L2.Cx) (c : Cg) (J : Info) (G : Tab) (d : Nat) (W : WX) (s : Sc) : Prop where
  K : X.K = c.K
  calm : s.hot = false → X.calm = true
  N : X.N = J.N
  nd : X.N.Nodup
  sc : X.env.scope = s.sc
  kind : s.sc.kind = .function
  cel : ∀ n, celB s n = true → X.fn n = true ∨ s.sc.names.lookup n = some .local
  room : L2H.RoomH d X.A
  rhd : s.hot = false → X.A.handled = none
  cx : s.hot = false → c.hx = none
  takes : L2N.Takes X W
  bln : ∀ n, blB J n = true → X.mg n = none
  fns : ∀ f q, s.hot = false → J.fnm f = some q → (∃ a fd ps, X.mg q.1 = some (.ref a) ∧ PySem.W.keepIn X.K (.ref a) = true ∧ L2.Binds X.K fd ps [] ∧ L2.FnOk X.prog X.w X.K X.mg X.base (L2N.CX X.prog X.w) d a fd ps (spF c (cI G d) q.2 f)) ∧ ∀ fn, G.fns f = some fn → fn.ar = q.2
  hfn : ∀ f q, J.hfm f = some q → (∃ a fd ps, X.mg q.1 = some (.ref a) ∧ PySem.W.keepIn X.K (.ref a) = true ∧ L2.Binds X.K fd ps [] ∧ ∀ p1 k C, c.ca k = some C → FnX X.prog X.w X.K X.mg X.base (L2N.CX X.prog X.w) (fun p => p.1 = p1 ∧ L2.Zc (.ref C) none p.2) d a fd ps (spF (c.at p1 k) (cI G d) q.2 f)) ∧ ∀ fn, G.fns f = some fn → fn.ar = q.2
  isx : ∀ n l, J.isx.lookup n = some l → ∃ v cv, L2.ClsV v cv ∧ L2.RelV v cv ∧ (X.mg n = some cv ∨ (X.mg n = none ∧ bootBuiltins n = some cv ∧ n ≠ "__name__")) ∧ (n == ("__debug__" : Str)) = false ∧ ∀ k C, c.ca k = some C → PySem.W.kitOne X.K (.ref C) cv = some (l.contains k) ∧ PySem.W.exmOne X.K (.ref C) cv = some (l.contains k)
  hx : s.hot = true → ∃ p C k, c.hx = some (p.1, k) ∧ c.ca k = some C ∧ L2.ExcC X.K C ∧ L2.Zc (.ref C) none p.2 ∧ (∃ vs, p.2.data = .fields vs) ∧ L2H.Hot1 X.A p ∧ p ∈ X.pn
  con : ∀ n e, J.con.lookup n = some e → ∃ u v, X.mg n = some u ∧ L2.RelV v u ∧ ∀ H m, RD c H m e v
  bb : ∀ n, blB J n = true → n ≠ "__name__" ∧ (n == ("__debug__" : Str)) = false
section
variable {X : L2.Cx} {c : Cg} {J : Info} {G : Tab} {d : Nat} {W : WX} {s : Sc} {x : Expr}
theorem Good.hu (g : Good X c J G d W s) : X.A.units + 65 < cLine := by have := g.room.un; omega
theorem vis_of {sc : Scope} {n : Str} (h : visB sc n = true) : L2.Vis sc n := by
  unfold visB at h
  split at h
  · rename_i e; exact .inl e
  · rename_i e; exact .inr (.inl e)
  · rename_i e; exact .inr (.inr e)
  · cases h
theorem Good.gl (g : Good X c J G d W s) {n : Str} (h : glB s.sc n = true) : L2.Gl X n := by
  show X.env.scope.names.lookup n = some .globalImplicit
  rw [g.sc]
  unfold glB at h
  split at h
  · rename_i e; exact e
  · cases h
theorem okn_of {n : Str} (h : okn n = true) : (n == ("__debug__" : Str)) = false ∧ (n == ("__classdict__" : Str)) = false := by
  unfold okn at h
  simp only [Bool.and_eq_true, Bool.not_eq_true'] at h
  exact h
theorem op_of {o : Op} {op : Operator} (h : opB o op = true) : op = pyOp o := by
  cases o <;> cases op <;> first | rfl | simp [opB] at h
theorem cm_of {o : Cm} {op : CmpOp} (h : cmB o op = true) : op = pyCm o := by
  cases o <;> cases op <;> first | rfl | simp [cmB] at h
theorem takesF {X : L2.Cx} : L2N.Takes X WF := fun _ _ x => by
  obtain ⟨_, _, _, _, _, _, _, _, _, _, _, _, _, _, _, _, z⟩ := x
  exact z.elim
/-- the block of a comprehension -/
theorem Good.blk (g : Good X c J G d W s) (h0 : s.hot = false) {scope : Scope} (hk : scope.kind = .function) (s1 : Shared) (H1 : Hp) (C : Addr) (cl : List (Str × Addr)) (fp : List Addr) :
    Good (X.blk s1 H1 scope (compEnvC scope cl C X.env) fp) c J G d WF ⟨scR scope s.sc, some scope, false⟩ where
  K := g.K
  calm := fun _ => g.calm h0
  N := g.N
  nd := g.nd
  sc := by
    show relabel scope X.env = scR scope s.sc
    unfold relabel scR
    rw [← g.sc]
    rfl
  kind := hk
  cel := fun n h => by
    unfold celB at h
    split at h
    · rename_i e; exact .inr e
    · split at h
      · rename_i e2; cases e2
      · rename_i r e2
        cases e2
        split at h
        · rename_i e3
          refine .inl ?_
          show (scope.names.lookup n == some .cell) = true
          rw [e3]; rfl
        · cases h
    · cases h
  room := g.room
  rhd := fun _ => g.rhd h0
  cx := fun _ => g.cx h0
  takes := takesF
  bln := g.bln
  fns := fun f q _ => g.fns f q h0
  hfn := g.hfn
  isx := g.isx
  hx := fun z => by cases z
  con := g.con
  bb := g.bb
theorem Good.nm (g : Good X c J G d W s) {i : Nat} (h : chkN J.N s i x = true) : L2.PG X x (L2.gName i) := by
  cases x with
  | Name n p =>
    simp only [chkN, Bool.and_eq_true, decide_eq_true_eq] at h
    have hl := g.cel n h.2
    refine L2.pg_name g.nd (by rw [g.N]; exact h.1) ?_ ?_
    · rw [g.sc]
      have h2 := h.2
      unfold celB at h2
      split at h2
      · rename_i e; exact .inl e
      · rename_i e; exact .inr e
      · cases h2
    · rw [g.sc]; exact hl
  | _ => exact absurd h (by simp [chkN])
theorem chkN_plain {N : List Str} {i : Nat} {e : Expr} (h : chkN N s i e = true) : ∃ n p, e = .Name n p := by
  cases e with
  | Name n p => exact ⟨n, p, rfl⟩
  | _ => exact absurd h (by simp [chkN])
theorem Good.nms (g : Good X c J G d W s) : ∀ {is : List Nat} {es : List Expr}, chkNs J.N s is es = true → L2.PGs X es (semGs is) ∧ (assignEach es X.env).length = is.length ∧ (assignEach es X.env).findIdx? (·.1) = none
  | [], [], _ => ⟨L2.pgs_nil, rfl, rfl⟩
  | i :: is, e :: es, h => by
    simp only [chkNs, Bool.and_eq_true] at h
    obtain ⟨h1, h2, h3⟩ := g.nms h.2
    obtain ⟨n, p, rfl⟩ := chkN_plain h.1
    refine ⟨L2.pgs_cons (g.nm h.1) h1 rfl, ?_, ?_⟩
    · show (assignEach es X.env).length + 1 = is.length + 1
      rw [h2]
    · have hh : assignEach (Expr.Name n p :: es) X.env = (false, assign (.Name n p) X.env) :: assignEach es X.env := rfl
      rw [hh, List.findIdx?_cons]
      simp only [Bool.false_eq_true, if_false]
      rw [h3]; rfl
  | [], _ :: _, h => by simp [chkNs] at h
  | _ :: _, [], h => by simp [chkNs] at h
theorem Good.tg (g : Good X c J G d W s) (h0 : s.hot = false) {tg : Tg} (h : chkTg J.N s tg x = true) : L2.PG X x (semG c tg) := by
  cases tg with
  | nm i => exact g.nm h
  | tu is =>
    cases x with
    | Tuple es k p =>
      obtain ⟨h1, h2, h3⟩ := g.nms h
      show L2.PG X _ (L2.gTup c.K is.length (semGs is))
      rw [← g.K]
      exact L2.pg_tup (g.calm h0) h1 h2 h3
    | _ => exact absurd h (by simp [chkTg])
end
end Z
/-! Z12: what the checker lets by is sound: expressions. -/
namespace Z
open PySem PySem.Spec PyProof.Rows
open L2 (V Hp HO upd upd_same upd_ne SqL SqT Rd VK TE TT TA TS Ends WX XK)
section
variable {c : Cg} {J : Info} {G : Tab} {d : Nat}
theorem beq_len {α : Type} {l : List α} {n : Nat} (h : ¬ Nat.beq l.length n = false) : l.length = n := by
  cases e : Nat.beq l.length n with
  | false => exact absurd e h
  | true => exact Nat.eq_of_beq_eq_true e
theorem cI_len {f ar : Nat} (hf : ∀ fn, G.fns f = some fn → fn.ar = ar) : ∀ (d : Nat) (ds : List D) (old S : Sto), cI G d f ds old S ≠ .bad → ds.length = ar
  | 0, ds, old, S, h => absurd rfl h
  | d + 1, ds, old, S, h => by
    simp only [cI] at h
    cases e : G.fns f with
    | none => rw [e] at h; exact absurd rfl h
    | some fn =>
      rw [e] at h
      simp only at h
      rw [← hf fn e]
      refine beq_len fun z => ?_
      rw [z] at h
      exact h rfl
theorem cmp_bl {cp : Nat → List D → Sto → R D} {ci : Nat → List D → Sto → Sto → R D} {o : Cm} {a b : E} : ∀ old env S x S1, ev cp ci old (.cmp o a b) env S = .ok x S1 → ∃ k, x = .bl k := by
  intro old env S x S1 h
  simp only [ev] at h
  cases e : ev cp ci old a env S with
  | bad => rw [e] at h; cases h
  | exc y S2 => rw [e] at h; cases h
  | ok y S2 =>
    rw [e] at h
    simp only [bnd] at h
    cases e2 : ev cp ci old b env S2 with
    | bad => rw [e2] at h; cases h
    | exc y S2 => rw [e2] at h; cases h
    | ok z S3 =>
      rw [e2] at h
      simp only at h
      split at h
      · cases h; exact ⟨_, rfl⟩
      · cases h
theorem chn_bl {cp : Nat → List D → Sto → R D} {ci : Nat → List D → Sto → Sto → R D} {o p : Cm} {a b t : E} : ∀ old env S x S1, ev cp ci old (.chn o p a b t) env S = .ok x S1 → ∃ k, x = .bl k := by
  intro old env S x S1 h
  simp only [ev] at h
  cases e : ev cp ci old a env S with
  | bad => rw [e] at h; cases h
  | exc y S2 => rw [e] at h; cases h
  | ok y S2 =>
    rw [e] at h
    simp only [bnd] at h
    cases e2 : ev cp ci old b env S2 with
    | bad => rw [e2] at h; cases h
    | exc y S2 => rw [e2] at h; cases h
    | ok z S3 =>
      rw [e2] at h
      simp only at h
      split at h
      · cases e3 : ev cp ci old t env S3 with
        | bad => rw [e3] at h; cases h
        | exc y S2 => rw [e3] at h; cases h
        | ok q S4 =>
          rw [e3] at h
          simp only at h
          split at h
          · cases h; exact ⟨_, rfl⟩
          · cases h
      · cases h; exact ⟨_, rfl⟩
      · cases h
theorem lit_rel {dd : D} {k : Const} (h : litB dd k = true) : ∃ v : V, (∀ (H : Hp) (m : List Addr), RD c H m dd v) ∧ ∀ {X : L2.Cx} {j pos}, L2.PE X (.Constant k j pos) (L2.tC v) := by
  cases dd with
  | non => cases k <;> first | exact ⟨.non, fun _ _ => rfl, L2.pe_non⟩ | exact absurd h (by simp [litB])
  | bl b => cases k with
    | bool b' => simp [litB] at h; subst h; exact ⟨.bl b, fun _ _ => rfl, L2.pe_bl⟩
    | _ => exact absurd h (by simp [litB])
  | int i => cases k with
    | int j => simp [litB] at h; subst h; exact ⟨.int i, fun _ _ => rfl, L2.pe_int⟩
    | _ => exact absurd h (by simp [litB])
  | str z => cases k with
    | str w => simp [litB] at h; subst h; exact ⟨.str z, fun _ _ => rfl, L2.pe_str⟩
    | _ => exact absurd h (by simp [litB])
  | _ => exact absurd h (by simp [litB])
/-- a test that has no form of its own -/
theorem plain_test {X : L2.Cx} {W : WX} {s : Sc} {x : Expr} {e : E} (g : Good X c J G d W s) (hp : plainT x = true) (h : L2.PE X x (den c W (cP G d) (cI G d) e)) : L2.PT X x (denC c W (cP G d) (cI G d) (.of e)) := by
  refine pt_imp (L2.pt_truth h (plainT_of hp)) fun σ H Q w => ?_
  rw [g.K]
  exact w_evc w
theorem bln_rule {X : L2.Cx} {W : WX} {s : Sc} (g : Good X c J G d W s) {f : Blt} (hf : f ≠ .lrng) (h0 : (s.hot && bltC f) = false) {n : Str} {e : Expr} {es : List Expr} {t : TA} {p pos : Pos} (hn : n = (bltNm f).1) (hg : glB s.sc n = true) (hb : blB J n = true) (hs : noStars (e :: es) = true) (ha : L2.PA X (e :: es) t) :
    L2.PE X (.Call (.Name n p) (e :: es) [] pos) (L2.tCB (rB c f) t) := by
  have hr := blt_r (c := c) g.K f (fun z => g.calm (by rw [z, Bool.and_true] at h0; exact h0)) hf
  obtain ⟨b1, b2⟩ := g.bb n hb
  have hs' := hs
  simp only [noStars, Bool.and_eq_true] at hs'
  have q1 := star_cons hs'.1 es X.env
  have q2 := star_all pos X.env hs'.2
  cases f with
  | len => subst hn; exact L2.pe_callB hr (g.gl hg) (g.bln _ hb) (by decide +kernel) ha b1 b2 q1 q2
  | abs => subst hn; exact L2.pe_callB hr (g.gl hg) (g.bln _ hb) (by decide +kernel) ha b1 b2 q1 q2
  | max2 => subst hn; exact L2.pe_callB hr (g.gl hg) (g.bln _ hb) (by decide +kernel) ha b1 b2 q1 q2
  | min2 => subst hn; exact L2.pe_callB hr (g.gl hg) (g.bln _ hb) (by decide +kernel) ha b1 b2 q1 q2
  | sum => subst hn; exact L2.pe_callB hr (g.gl hg) (g.bln _ hb) (by decide +kernel) ha b1 b2 q1 q2
  | all => subst hn; exact L2.pe_callB hr (g.gl hg) (g.bln _ hb) (by decide +kernel) ha b1 b2 q1 q2
  | any => subst hn; exact L2.pe_callB hr (g.gl hg) (g.bln _ hb) (by decide +kernel) ha b1 b2 q1 q2
  | int1 => subst hn; exact L2.pe_callTy hr (g.gl hg) (g.bln _ hb) (by decide +kernel) ha b1 b2 q1 q2
  | tuple => subst hn; exact L2.pe_callTy hr (g.gl hg) (g.bln _ hb) (by decide +kernel) ha b1 b2 q1 q2
  | list => subst hn; exact L2.pe_callTy hr (g.gl hg) (g.bln _ hb) (by decide +kernel) ha b1 b2 q1 q2
  | lrng => exact absurd rfl hf
theorem ty_name {X : L2.Cx} {W : WX} {s : Sc} (g : Good X c J G d W s) {t : Ty} {p : Pos} (hg : glB s.sc (Str.ofString (tyNm t)) = true) (hb : blB J (Str.ofString (tyNm t)) = true) : L2.PE X (.Name (Str.ofString (tyNm t)) p) (L2.tC (.ty (tyNm t))) := by
  obtain ⟨b1, b2⟩ := g.bb _ hb
  cases t <;> exact L2.pe_bltn (g.gl hg) (g.bln _ hb) (by decide +kernel) rfl b1 b2
theorem Wr.mono {α β : Type} {mo mn : List Addr} {W : WX} {σ : L2.St} {rel : Hp → List Addr → α → β → Prop} {H : Hp} {r : R α} {Q Q' : β → Hp → Prop} (h : Wr c mo W σ rel H mn r Q) (hq : ∀ v H, Q v H → Q' v H) : Wr c mo W σ rel H mn r Q' := by
  cases r with
  | ok x S => exact fun mn' H' v x' n' r' => hq _ _ (h mn' H' v x' n' r')
  | exc y S => exact h
  | bad => exact h
theorem den_mono {W : WX} {cp : Nat → List D → Sto → R D} {ci : Nat → List D → Sto → Sto → R D} {e : E} {σ : L2.St} {H : Hp} {Q Q' : VK} (h : den c W cp ci e σ H Q) (hq : ∀ v H, Q v H → Q' v H) : den c W cp ci e σ H Q' :=
  let ⟨old, mo, mn, env, S, st, w⟩ := h
  ⟨old, mo, mn, env, S, st, w.mono hq⟩
/-- the statement about an expression -/
def SE (c : Cg) (J : Info) (G : Tab) (d : Nat) (e : E) : Prop := ∀ (X : L2.Cx) (W : WX) (s : Sc) (x : Expr), Good X c J G d W s → chkE J e s x = true →
  L2.PE X x (den c W (cP G d) (cI G d) e) ∧ (tstOk e = true → L2.PT X x (denC c W (cP G d) (cI G d) (.of e))) ∧ (tstOk e = true → isBool x = true → L2.PW X x (denC c W (cP G d) (cI G d) (.of e)))
theorem pes_of {X : L2.Cx} {W : WX} {s : Sc} {x : Expr} {e : E} (g : Good X c J G d W s) (hp : plainT x = true) (hb : isBool x = false) (h : L2.PE X x (den c W (cP G d) (cI G d) e)) :
    L2.PE X x (den c W (cP G d) (cI G d) e) ∧ (tstOk e = true → L2.PT X x (denC c W (cP G d) (cI G d) (.of e))) ∧ (tstOk e = true → isBool x = true → L2.PW X x (denC c W (cP G d) (cI G d) (.of e))) :=
  ⟨h, fun _ => plain_test g hp h, fun _ z => by rw [hb] at z; cases z⟩
theorem call_rule {X : L2.Cx} {W : WX} {s : Sc} (g : Good X c J G d W s) {f : Nat} {n : Str} {e : Expr} {es : List Expr} {t : TA} {p pos : Pos} (hg : glB s.sc n = true) (ho : okn n = true) (hs : noStars (e :: es) = true)
    (hq : (match (if s.hot = true then J.hfm f else J.fnm f) with
      | some q => decide (q.1 = n)
      | none => false) = true) (ha : L2.PA X (e :: es) t) : ∃ ar, (∀ (ds : List D) (old S : Sto), cI G d f ds old S ≠ .bad → ds.length = ar) ∧ L2.PE X (.Call (.Name n p) (e :: es) [] pos) (L2.tCallS (spF c (cI G d) ar f) (L2.WE W) t) := by
  cases eq : (if s.hot = true then J.hfm f else J.fnm f) with
  | none => rw [eq] at hq; cases hq
  | some q =>
    rw [eq] at hq
    simp only [decide_eq_true_eq] at hq
    subst hq
    cases hh : s.hot with
    | true =>
      rw [hh, if_pos rfl] at eq
      obtain ⟨⟨a, fd, ps, h1, h2, h3, h4⟩, h5⟩ := g.hfn f q eq
      obtain ⟨p, C, k, i1, i2, i3, i4, i5, i6, i7⟩ := g.hx hh
      have h4 := h4 p.1 k C i2
      rw [show c.at p.1 k = c by cases c; simp only [Cg.at] at *; rw [i1]] at h4
      have hs' := hs
      simp only [noStars, Bool.and_eq_true] at hs'
      exact ⟨q.2, cI_len h5 d, pe_callX h4 g.room ⟨rfl, i4⟩ i6 i7 (g.gl hg) h1 h2 h3 (fun σ => L2N.passAt g.takes σ) ha (okn_of ho).1 (star_cons hs'.1 es X.env) (star_all _ X.env hs'.2)⟩
    | false =>
    rw [hh, if_neg (by decide)] at eq
    obtain ⟨⟨a, fd, ps, h1, h2, h3, h4⟩, h5⟩ := g.fns f q hh eq
    have hs' := hs
    simp only [noStars, Bool.and_eq_true] at hs'
    exact ⟨q.2, cI_len h5 d, L2.pe_callS h4 ⟨g.rhd hh, g.room.dp, g.room.un⟩ (g.gl hg) h1 h2 h3 (fun σ => L2N.passAt g.takes σ) ha (okn_of ho).1 (star_cons hs'.1 es X.env) (star_all pos X.env hs'.2)⟩
/-- names of classes -/
def tConsts : List V → TA
  | [] => L2.tNil
  | v :: vs => L2.tCons (L2.tC v) (tConsts vs)
theorem tConsts_of : ∀ {vs : List V} {σ : L2.St} {H : Hp} {Q : List V → Hp → Prop}, Q vs H → tConsts vs σ H Q
  | [], _, _, _, h => h
  | v :: vs, _, _, Q, h => tConsts_of (Q := fun us H1 => Q (v :: us) H1) h
/-- what isinstance's second part gives -/
def IsxOk (c : Cg) (cs : List Nat) (k : Nat) (C : Addr) (ty : TE) : Prop := ∀ (σ : L2.St) (H : Hp) (a : Addr) (Q : VK), (∀ p u, H p = none → Q (.bl (cs.contains k)) (upd H p u)) → Q (.bl (cs.contains k)) H → ty σ H fun y H1 => rIse c.K a C [.ref a, y] H1 Q
theorem isx_pe {X : L2.Cx} {W : WX} {s : Sc} (g : Good X c J G d W s) {n : Str} {l : List Nat} {p : Pos} (hg : glB s.sc n = true) (hl : J.isx.lookup n = some l) : ∃ v cv, L2.PE X (.Name n p) (L2.tC v) ∧ L2.ClsV v cv ∧ ∀ k C, c.ca k = some C → PySem.W.kitOne c.K (.ref C) cv = some (l.contains k) := by
  obtain ⟨v, cv, h1, h2, h3, h4, h5⟩ := g.isx n l hl
  refine ⟨v, cv, ?_, h1, fun k C hC => by rw [← g.K]; exact (h5 k C hC).1⟩
  rcases h3 with h3 | ⟨h3, h6, h7⟩
  · exact L2.pe_glob (g.gl hg) h3 h2 h4
  · exact L2.pe_bltn (g.gl hg) h3 h6 h2 h7 h4
theorem isxs_rule {X : L2.Cx} {W : WX} {s : Sc} (g : Good X c J G d W s) : ∀ {ys : List Expr} {cs : List Nat}, isxNs J s cs ys = true → ∃ vs cvs, L2.PA X ys (tConsts vs) ∧ Paired L2.ClsV vs cvs ∧ vs.length = ys.length ∧ ∀ k C, c.ca k = some C → PySem.W.kitAny c.K (.ref C) cvs = some (cs.contains k)
  | [], cs, h => by
    have : cs = [] := by simpa [isxNs] using h
    subst this
    exact ⟨[], [], L2.pa_nil, .nil, rfl, fun k C _ => rfl⟩
  | y :: ys, cs, h => by
    cases y with
    | Name n p =>
      simp only [isxNs, Bool.and_eq_true] at h
      obtain ⟨h1, h2⟩ := h
      cases e : J.isx.lookup n with
      | none => rw [e] at h2; cases h2
      | some l =>
        rw [e] at h2
        simp only [Bool.and_eq_true, decide_eq_true_eq] at h2
        obtain ⟨v, cv, q1, q2, q3⟩ := isx_pe (p := p) g h1 e
        obtain ⟨vs, cvs, r1, r2, r3, r4⟩ := isxs_rule g h2.2
        refine ⟨v :: vs, cv :: cvs, L2.pa_cons q1 r1 rfl, .cons q2 r2, by rw [List.length_cons, List.length_cons, r3], fun k C hC => ?_⟩
        have hc : cs.contains k = (l.contains k || (cs.drop l.length).contains k) := by
          rw [← List.contains_append]
          congr 1
          conv => lhs; rw [← List.take_append_drop l.length cs, h2.1]
        rw [hc]
        refine L2.kitAny_cons (q3 k C hC) (fun z => ?_) fun z => by rw [z]; rfl
        rw [z, Bool.false_or]
        exact r4 k C hC
    | _ => simp [isxNs] at h
theorem isx_rule {X : L2.Cx} {W : WX} {s : Sc} (g : Good X c J G d W s) {cs : List Nat} {y : Expr} (h : isxE J s cs y = true) : ∃ ty, L2.PE X y ty ∧ (∀ {k C}, c.ca k = some C → IsxOk c cs k C ty) ∧ starEach [y] X.env = [(false, eval y X.env)] := by
  cases y with
  | Name n p =>
    have h : isxN J s cs (.Name n p) = true := h
    simp only [isxN, Bool.and_eq_true] at h
    obtain ⟨h1, h2⟩ := h
    cases e : J.isx.lookup n with
    | none => rw [e] at h2; cases h2
    | some l =>
      rw [e] at h2
      simp only [decide_eq_true_eq] at h2
      subst h2
      obtain ⟨v, cv, q1, q2, q3⟩ := isx_pe (p := p) g h1 e
      exact ⟨_, q1, fun {k C} hC σ H a Q _ q => .inl ⟨v, cv, _, rfl, q2, q3 k C hC, q⟩, rfl⟩
  | Tuple ys kk p =>
    have h : (isxNs J s cs ys && decide (ys.length < 100)) = true := h
    simp only [Bool.and_eq_true, decide_eq_true_eq] at h
    obtain ⟨vs, cvs, r1, r2, r3, r4⟩ := isxs_rule g h.1
    refine ⟨_, L2.pe_tup r1, fun {k C} hC σ H a Q q _ => ?_, rfl⟩
    refine tConsts_of ⟨by rw [r3, sizeLine_eq]; omega, fun p hp => ?_⟩
    exact .inr ⟨p, vs, cvs, _, rfl, upd_same, r2, r4 k C hC, q p _ hp⟩
  | _ => exact absurd h (by simp [isxE, isxN])
theorem w_ise {W : WX} {cp : Nat → List D → Sto → R D} {ci : Nat → List D → Sto → Sto → R D} {a : E} {cs : List Nat} {σ : L2.St} {H : Hp} {Q : VK} {p : Addr} {k : Nat} {C : Addr} {ty : TE} (h0 : c.hx = some (p, k)) (ht : IsxOk c cs k C ty)
    (h : den c W cp ci (.ise a cs) σ H Q) : L2.tCB (rIse c.K p C) (L2.tCons (den c W cp ci a) (L2.tCons ty L2.tNil)) σ H Q := by
  obtain ⟨old, mo, mn, env, S, st, h⟩ := h
  simp only [ev] at h
  refine ⟨old, mo, mn, env, S, st, step st h fun x S1 mn1 H1 v1 _ x1 s1 r1 h1 => ?_⟩
  split at h1
  · rename_i k' _
    obtain ⟨a', e1, rfl⟩ := (show ∃ a', c.hx = some (a', k') ∧ v1 = .ref a' from r1)
    rw [h0] at e1
    cases e1
    refine ht σ H1 p Q (fun q u hq => ?_) ?_
    · have x2 : Ext mn1 H1 mn1 (upd H1 q u) := Ext.new hq
      have n2 := s1.n.new (o := u) hq
      exact Wr.val (d := .bl _) n2 ((h1.laterD x1 s1.n).laterD x2 n2) rfl
    · exact Wr.val (d := .bl _) s1.n (h1.laterD x1 s1.n) rfl
  · exact h1.elim
mutual
theorem sE : ∀ (e : E), SE c J G d e
  | .var i => by
    intro X W s x g h
    cases x with
    | Name n p =>
      simp only [chkE, Bool.and_eq_true, decide_eq_true_eq] at h
      refine pes_of g rfl rfl (pe_imp (L2.pe_var (i := i) (by rw [g.N]; exact h.1.1) (by rw [g.sc]; exact vis_of h.1.2) (okn_of h.2).1 (okn_of h.2).2) fun σ H Q w => w_var w)
    | _ => exact absurd h (by simp [chkE])
  | .lit dd => by
    intro X W s x g h
    cases x with
    | Constant k j p =>
      simp only [chkE] at h
      obtain ⟨v, h1, h2⟩ := lit_rel (c := c) h
      exact pes_of g rfl rfl (pe_imp h2 fun σ H Q w => w_lit h1 w)
    | _ => exact absurd h (by simp [chkE])
  | .glo dd => by
    intro X W s x g h
    cases x with
    | Name n p =>
      simp only [chkE, Bool.and_eq_true] at h
      cases e : J.con.lookup n with
      | none => rw [e] at h; exact absurd h.2 (by simp)
      | some dd' =>
        rw [e] at h
        have := deq_eq h.2
        subst this
        obtain ⟨u, v, h1, h2, h3⟩ := g.con n dd' e
        exact pes_of g rfl rfl (pe_imp (L2.pe_glob (g.gl h.1.1) h1 h2 (okn_of h.1.2).1) fun σ H Q w => w_glo h3 w)
    | _ => exact absurd h (by simp [chkE])
  | .bin o a b => by
    intro X W s x g h
    cases x with
    | BinOp l op r p =>
      simp only [chkE, Bool.and_eq_true] at h
      obtain ⟨⟨h1, h2⟩, h3⟩ := h
      have := op_of h1
      subst this
      exact pes_of g rfl rfl (pe_imp (L2.pe_op (op_r g.K o) (sE a _ _ _ _ g h2).1 (sE b _ _ _ _ g h3).1) fun σ H Q w => w_bin w)
    | _ => exact absurd h (by simp [chkE])
  | .neg a => by
    intro X W s x g h
    cases x with
    | UnaryOp op l p =>
      cases op with
      | USub =>
        simp only [chkE] at h
        exact pes_of g rfl rfl (pe_imp (L2.pe_un L2.un_neg (sE a _ _ _ _ g h).1) fun σ H Q w => w_neg w)
      | _ => exact absurd h (by simp [chkE])
    | _ => exact absurd h (by simp [chkE])
  | .cmp o a b => by
    intro X W s x g h
    cases x with
    | Compare l ops rs p =>
      match ops, rs, h with
      | [op], [r], h =>
        simp only [chkE, Bool.and_eq_true] at h
        obtain ⟨⟨⟨h1, h2⟩, h3⟩, h4⟩ := h
        have := cm_of h1
        subst this
        have e1 := (sE a _ _ _ _ g h3).1
        have e2 := (sE b _ _ _ _ g h4).1
        refine ⟨pe_imp (L2.pe_cmpR (cm_r g.K g.hu o) e1 e2 (noMark_of h2)) fun σ H Q w => w_cmp w, fun _ => pt_imp (L2.pt_cmpR (cm_r g.K g.hu o) e1 e2 (noMark_of h2)) fun σ H Q w => ?_, fun _ z => by cases z⟩
        exact w_cmp (w_evcB w cmp_bl)
      | [], _, h => exact absurd h (by simp [chkE])
      | _ :: _ :: _, _, h => exact absurd h (by simp [chkE])
      | [_], [], h => exact absurd h (by simp [chkE])
      | [_], _ :: _ :: _, h => exact absurd h (by simp [chkE])
    | _ => exact absurd h (by simp [chkE])
  | .chn o q a b t => by
    intro X W s x g h
    cases x with
    | Compare l ops rs p =>
      match ops, rs, h with
      | [op, op2], [r, r2], h =>
        simp only [chkE, Bool.and_eq_true] at h
        obtain ⟨⟨⟨⟨⟨h1, h2⟩, h3⟩, h4⟩, h5⟩, h6⟩ := h
        have := cm_of h1
        subst this
        have := cm_of h2
        subst this
        have e1 := (sE a _ _ _ _ g h4).1
        have e2 := (sE b _ _ _ _ g h5).1
        have e3 := (sE t _ _ _ _ g h6).1
        have hm : lastMarks [pyCm o, pyCm q] [r, r2] = false := noMark_of h3
        refine ⟨pe_imp (L2.pe_chain (cm_r g.K g.hu o) (cm_r g.K g.hu q) e1 e2 e3 hm) fun σ H Q w => w_chn w, fun _ => pt_imp (L2.pt_chain (cm_r g.K g.hu o) (cm_r g.K g.hu q) e1 e2 e3 hm) fun σ H Q w => ?_, fun _ z => by cases z⟩
        exact w_chn (w_evcB w chn_bl)
      | [], _, h => exact absurd h (by simp [chkE])
      | [_], _, h => exact absurd h (by simp [chkE])
      | _ :: _ :: _ :: _, _, h => exact absurd h (by simp [chkE])
      | [_, _], [], h => exact absurd h (by simp [chkE])
      | [_, _], [_], h => exact absurd h (by simp [chkE])
      | [_, _], _ :: _ :: _ :: _, h => exact absurd h (by simp [chkE])
    | _ => exact absurd h (by simp [chkE])
  | .and a b => by
    intro X W s x g h
    cases x with
    | BoolOp op vs p =>
      cases op with
      | Or => exact absurd h (by simp [chkE])
      | And =>
        match vs, h with
        | [l, r], h =>
          simp only [chkE, Bool.and_eq_true] at h
          obtain ⟨a1, a2, _⟩ := sE a _ _ _ _ g h.1
          obtain ⟨b1, b2, _⟩ := sE b _ _ _ _ g h.2
          have pw : tstOk (.and a b) = true → L2.PW X (.BoolOp .And [l, r] p) (denC c W (cP G d) (cI G d) (.of (.and a b))) := fun ht => by
            simp only [tstOk, Bool.and_eq_true] at ht
            exact L2.pw_imp (L2.pw_and (a2 ht.1) (L2.pw_and1 (b2 ht.2))) fun σ H Q w => w_evcAnd w
          exact ⟨pe_imp (L2.pe_and a1 (L2.pe_one b1)) fun σ H Q w => w_and w, fun ht => (pw ht).pt, fun ht _ => pw ht⟩
        | l :: r :: r2 :: rest, h =>
          simp only [chkE, Bool.and_eq_true] at h
          obtain ⟨a1, a2, _⟩ := sE a _ _ _ _ g h.1
          obtain ⟨b1, b2, b3⟩ := sE b _ _ _ _ g h.2.2
          have pw : tstOk (.and a b) = true → L2.PW X (.BoolOp .And (l :: r :: r2 :: rest) p) (denC c W (cP G d) (cI G d) (.of (.and a b))) := fun ht => by
            simp only [tstOk, Bool.and_eq_true] at ht
            exact L2.pw_imp (L2.pw_and (a2 ht.1) (b3 ht.2 rfl)) fun σ H Q w => w_evcAnd w
          exact ⟨pe_imp (L2.pe_and a1 b1) fun σ H Q w => w_and w, fun ht => (pw ht).pt, fun ht _ => pw ht⟩
        | [], h => exact absurd h (by simp [chkE])
        | [_], h => exact absurd h (by simp [chkE])
    | _ => exact absurd h (by simp [chkE])
  | .or a b => by
    intro X W s x g h
    cases x with
    | BoolOp op vs p =>
      cases op with
      | And => exact absurd h (by simp [chkE])
      | Or =>
        match vs, h with
        | [l, r], h =>
          simp only [chkE, Bool.and_eq_true] at h
          obtain ⟨a1, a2, _⟩ := sE a _ _ _ _ g h.1
          obtain ⟨b1, b2, _⟩ := sE b _ _ _ _ g h.2
          have pw : tstOk (.or a b) = true → L2.PW X (.BoolOp .Or [l, r] p) (denC c W (cP G d) (cI G d) (.of (.or a b))) := fun ht => by
            simp only [tstOk, Bool.and_eq_true] at ht
            exact L2.pw_imp (L2.pw_or (a2 ht.1) (L2.pw_or1 (b2 ht.2))) fun σ H Q w => w_evcOr w
          exact ⟨pe_imp (L2.pe_or a1 (L2.pe_one b1)) fun σ H Q w => w_or w, fun ht => (pw ht).pt, fun ht _ => pw ht⟩
        | l :: r :: r2 :: rest, h =>
          simp only [chkE, Bool.and_eq_true] at h
          obtain ⟨a1, a2, _⟩ := sE a _ _ _ _ g h.1
          obtain ⟨b1, b2, b3⟩ := sE b _ _ _ _ g h.2.2
          have pw : tstOk (.or a b) = true → L2.PW X (.BoolOp .Or (l :: r :: r2 :: rest) p) (denC c W (cP G d) (cI G d) (.of (.or a b))) := fun ht => by
            simp only [tstOk, Bool.and_eq_true] at ht
            exact L2.pw_imp (L2.pw_or (a2 ht.1) (b3 ht.2 rfl)) fun σ H Q w => w_evcOr w
          exact ⟨pe_imp (L2.pe_or a1 b1) fun σ H Q w => w_or w, fun ht => (pw ht).pt, fun ht _ => pw ht⟩
        | [], h => exact absurd h (by simp [chkE])
        | [_], h => exact absurd h (by simp [chkE])
    | _ => exact absurd h (by simp [chkE])
  | .not a => by
    intro X W s x g h
    cases x with
    | UnaryOp op l p =>
      cases op with
      | Not =>
        simp only [chkE] at h
        obtain ⟨a1, a2, _⟩ := sE a _ _ _ _ g h
        exact ⟨pe_imp (L2.pe_not a1) fun σ H Q w => w_not w, fun ht => pt_imp (L2.pt_not (a2 ht)) fun σ H Q w => w_evcNot w, fun _ z => by cases z⟩
      | _ => exact absurd h (by simp [chkE])
    | _ => exact absurd h (by simp [chkE])
  | .ife t a b => by
    intro X W s x g h
    cases x with
    | IfExp q l r p =>
      simp only [chkE, Bool.and_eq_true] at h
      obtain ⟨⟨⟨h1, h2⟩, h3⟩, h4⟩ := h
      exact ⟨pe_imp (L2.pe_ifExp ((sE t _ _ _ _ g h2).2.1 h1) (sE a _ _ _ _ g h3).1 (sE b _ _ _ _ g h4).1) fun σ H Q w => w_ife w, fun ht => absurd ht (by simp [tstOk]), fun ht => absurd ht (by simp [tstOk])⟩
    | _ => exact absurd h (by simp [chkE])
  | .tup es => by
    intro X W s x g h
    cases x with
    | Tuple xs k p =>
      simp only [chkE] at h
      exact pes_of g rfl rfl (pe_imp (L2.pe_tup (sEs es g h)) fun σ H Q w => w_tup w)
    | _ => exact absurd h (by simp [chkE])
  | .lst es => by
    intro X W s x g h
    cases x with
    | List xs p =>
      simp only [chkE] at h
      exact pes_of g rfl rfl (pe_imp (L2.pe_lst (sEs es g h)) fun σ H Q w => w_lst w)
    | _ => exact absurd h (by simp [chkE])
  | .idx a b => by
    intro X W s x g h
    cases x with
    | Subscript l r p =>
      simp only [chkE, Bool.and_eq_true] at h
      obtain ⟨⟨h1, h2⟩, h3⟩ := h
      exact pes_of g rfl rfl (pe_imp (L2.pe_ix (idx_r g.K) (sE a _ _ _ _ g h2).1 (sE b _ _ _ _ g h3).1 (plainIx_of h1)) fun σ H Q w => w_idx w)
    | _ => exact absurd h (by simp [chkE])
  | .sli a lo hi => by
    intro X W s x g h
    cases x with
    | Subscript l r p =>
      cases r with
      | Slice u w st q =>
        cases st with
        | none =>
          simp only [chkE, Bool.and_eq_true] at h
          obtain ⟨⟨h1, h2⟩, h3⟩ := h
          exact pes_of g rfl rfl (pe_imp (L2.pe_slice (sli_r g.K) (sE a _ _ _ _ g h1).1 (sO lo g h2) (sO hi g h3)) fun σ H Q w => w_sli w)
        | some _ => exact absurd h (by simp [chkE])
      | _ => exact absurd h (by simp [chkE])
    | _ => exact absurd h (by simp [chkE])
  | .rev a => by
    intro X W s x g h
    simp only [chkE] at h
    split at h
    · simp only [Bool.and_eq_true, decide_eq_true_eq] at h
      obtain ⟨rfl, h1⟩ := h
      exact pes_of g rfl rfl (pe_imp (L2.pe_revL (sE a _ _ _ _ g h1).1) fun σ H Q w => by rw [g.K]; exact w_revl w)
    · cases h
  | .call f es => by
    intro X W s x g h
    cases x with
    | Call fe as ks p =>
      match fe, as, ks, h with
      | .Name n q, e :: xs, [], h =>
        simp only [chkE, Bool.and_eq_true] at h
        obtain ⟨⟨⟨⟨h1, h2⟩, h3⟩, h4⟩, h5⟩ := h
        obtain ⟨ar, r1, r2⟩ := call_rule (p := q) (pos := p) g h1 h2 h4 h3 (sEs es g h5)
        exact pes_of g rfl rfl (pe_imp r2 fun σ H Q w => w_call w (fun ds S => cP_eq G d f ds S) r1)
      | .Name n q, [], _, h => exact absurd h (by simp [chkE])
      | .Name n q, _ :: _, _ :: _, h => exact absurd h (by simp [chkE])
    | _ => exact absurd h (by simp [chkE])
  | .calli f es => by
    intro X W s x g h
    cases x with
    | Call fe as ks p =>
      match fe, as, ks, h with
      | .Name n q, e :: xs, [], h =>
        simp only [chkE, Bool.and_eq_true] at h
        obtain ⟨⟨⟨⟨⟨h0, h1⟩, h2⟩, h3⟩, h4⟩, h5⟩ := h
        have h0 : s.hot = false := by simpa using h0
        obtain ⟨ar, r1, r2⟩ := call_rule (p := q) (pos := p) g h1 h2 h4 (by rw [h0, if_neg (by decide)]; exact h3) (sEs es g h5)
        exact pes_of g rfl rfl (pe_imp r2 fun σ H Q w => w_calli (fun _ _ _ _ _ _ _ => trivial) w r1)
      | .Name n q, [], _, h => exact absurd h (by simp [chkE])
      | .Name n q, _ :: _, _ :: _, h => exact absurd h (by simp [chkE])
    | _ => exact absurd h (by simp [chkE])
  | .blt f es => by
    intro X W s x g h
    simp only [chkE] at h
    split at h
    · cases h
    rename_i hcm
    have hcm : (s.hot && bltC f) = false := by simpa using hcm
    split at h
    · rename_i hl
      have hf : f = .lrng := by cases f <;> first | rfl | exact absurd hl (by simp [isLr])
      subst hf
      split at h
      · rename_i n q n2 q2 a p2 p
        simp only [Bool.and_eq_true, decide_eq_true_eq] at h
        obtain ⟨⟨⟨⟨⟨⟨⟨h1, h2⟩, h3⟩, h4⟩, h5⟩, h6⟩, h7⟩, h8⟩ := h
        subst h1
        subst h2
        have pe := sR1 es g h8
        obtain ⟨e, rfl, pe⟩ := pe
        refine pes_of g rfl rfl (pe_imp (L2.pe_listRg (g.calm (by simpa [bltC] using hcm)) (g.gl h3) (g.bln _ h5) (L2.prg_1 (g.gl h4) (g.bln _ h6) pe (star_cons h7 [] X.env)) rfl) fun σ H Q w => ?_)
        refine den_mono (w_evr (w_blt w)) fun v H1 w3 => ?_
        obtain ⟨n, e1, e2, e3⟩ := w_evrN w3
        cases e1
        exact ⟨n, rfl, e2, e3⟩
      · cases h
    · rename_i hl
      have hf : f ≠ .lrng := fun z => hl (by subst z; rfl)
      split at h
      · simp only [Bool.and_eq_true, decide_eq_true_eq] at h
        obtain ⟨⟨⟨⟨h1, h2⟩, h3⟩, h4⟩, h5⟩ := h
        exact pes_of g rfl rfl (pe_imp (bln_rule g hf hcm h1 h2 h3 h4 (sRs es g h5)) fun σ H Q w => w_blt w)
      · cases h
  | .isi a t => by
    intro X W s x g h
    simp only [chkE] at h
    split at h
    · rename_i n q e m q2 p
      simp only [Bool.and_eq_true, decide_eq_true_eq] at h
      obtain ⟨⟨⟨⟨⟨⟨⟨h1, h2⟩, h3⟩, h4⟩, h5⟩, h6⟩, h7⟩, h8⟩ := h
      subst h1
      subst h2
      have pe := (sE a _ _ _ _ g h8).1
      have pa : L2.PA X [e, .Name (Str.ofString (tyNm t)) q2] (L2.tCons (den c W (cP G d) (cI G d) a) (L2.tCons (L2.tC (.ty (tyNm t))) L2.tNil)) := L2.pa_cons pe (L2.pa_cons (ty_name g h4 h6) L2.pa_nil rfl) (star_cons h7 _ X.env)
      have hr : L2.CallR X (.builtin "isinstance") (L2.rIsi c.K) := by rw [← g.K]; exact L2.call_isi
      exact pes_of g rfl rfl (pe_imp (L2.pe_callB hr (g.gl h3) (g.bln _ h5) (by decide +kernel) pa (g.bb _ h5).1 (g.bb _ h5).2 (star_cons h7 _ X.env) rfl) fun σ H Q w => w_isi w)
    · cases h
  | .met m o es => by
    intro X W s x g h
    simp only [chkE] at h
    split at h
    · rename_i l nm ap xs cp
      simp only [Bool.and_eq_true, decide_eq_true_eq] at h
      obtain ⟨⟨⟨⟨⟨⟨h1, h2⟩, h3⟩, h4⟩, h5⟩, h6⟩, h7⟩ := h
      subst h1
      have pe := (sE o _ _ _ _ g h6).1
      have pa := sEs es g h7
      have hm := met_r (c := c) (X := X) g.K g.hu m
      cases xs with
      | nil =>
        have he : es = .nil := by
          cases es with
          | nil => rfl
          | cons _ _ => exact absurd h7 (by simp [chkEs])
        subst he
        refine pes_of g rfl rfl (pe_imp (L2.pe_bm0 PySem.F.plainAttrs_list (met_slot m) (met_ty m) hm pe (attr_base h2) h3) fun σ H Q w => ?_)
        rw [g.K]
        exact w_met0 w
      | cons e xs =>
        have h4' := h4
        simp only [noStars, Bool.and_eq_true] at h4'
        refine pes_of g rfl rfl (pe_imp (L2.pe_bm PySem.F.plainAttrs_list (met_slot m) (met_ty m) hm pe pa (attr_base h2) ?_ h3 (star_cons h4'.1 xs X.env) (star_all cp X.env h4'.2)) fun σ H Q w => ?_)
        · rw [star_all2 cp X.env h4]
          simp only [List.length_cons] at h5
          simp [keywordEach, backToKw]
          omega
        · rw [g.K]
          exact w_met w
    · cases h
  | .ext o e => by
    intro X W s x g h
    simp only [chkE] at h
    split at h
    · rename_i l nm ap r cp
      simp only [Bool.and_eq_true, decide_eq_true_eq] at h
      obtain ⟨⟨⟨⟨⟨h1, h2⟩, h3⟩, h4⟩, h5⟩, h6⟩ := h
      subst h1
      have pe := (sE o _ _ _ _ g h5).1
      have pa : L2.PA X [r] (L2.tCons (den c W (cP G d) (cI G d) e) L2.tNil) := L2.pa_cons (sE e _ _ _ _ g h6).1 L2.pa_nil (star_cons h4 [] X.env)
      have hm := met_r (c := c) (X := X) g.K g.hu .extend
      refine pes_of g rfl rfl (pe_imp (L2.pe_bm PySem.F.plainAttrs_list (met_slot .extend) (met_ty .extend) hm pe pa (attr_base h2) ?_ h3 (star_cons h4 [] X.env) rfl) fun σ H Q w => ?_)
      · rw [star_all2 cp X.env (by simp [noStars, h4])]
        simp [keywordEach, backToKw]
      · rw [g.K]
        exact w_ext w
    · cases h
  | .srt a rev => by
    intro X W s x g h
    simp only [chkE] at h
    split at h
    · rename_i n q e kws p
      simp only [Bool.and_eq_true, decide_eq_true_eq] at h
      obtain ⟨⟨⟨⟨⟨h1, h2⟩, h3⟩, h4⟩, h5⟩, h6⟩ := h
      subst h1
      have pe := (sE a _ _ _ _ g h6).1
      have pa : L2.PA X [e] (L2.tCons (den c W (cP G d) (cI G d) a) L2.tNil) := L2.pa_cons pe L2.pa_nil (star_cons h4 [] X.env)
      have hns : noStars [e] = true := by simp only [noStars, h4, Bool.and_self]
      have q1 := star_cons h4 [] X.env
      unfold kwB at h5
      split at h5
      · have hrev : rev = false := by simpa using h5
        subst hrev
        have hr : L2.CallR X (.builtin "sorted") (rSrt c.K false) := by rw [← g.K]; exact cr_srt g.hu
        exact pes_of g rfl rfl (pe_imp (L2.pe_callB hr (g.gl h2) (g.bln _ h3) (by decide +kernel) pa (g.bb _ h3).1 (g.bb _ h3).2 q1 rfl) fun σ H Q w => w_srt w)
      · rename_i k b j p2 p3
        simp only [Bool.and_eq_true, decide_eq_true_eq, beq_iff_eq] at h5
        obtain ⟨rfl, rfl⟩ := h5
        have hr : L2.CallRK X (.builtin "sorted") [Str.ofString "reverse"] (fun vs zs H Q => zs = [.bl b] ∧ rSrt c.K b vs H Q) := by rw [← g.K]; exact cr_srtR g.hu b
        have hk : L2.PK X [⟨some (Str.ofString "reverse"), .Constant (.bool b) j p2, p3⟩] (L2.tCons (L2.tC (.bl b)) L2.tNil) := L2.pk_cons L2.pe_bl L2.pk_nil
        refine pes_of g rfl rfl (pe_imp (L2.pe_callBK hr (g.gl h2) (g.bln _ h3) (by decide +kernel) pa hk (g.bb _ h3).1 (g.bb _ h3).2 (by rw [q1]; rfl) (star_all p X.env hns) rfl rfl rfl) fun σ H Q w => ?_)
        have w1 := w_srt w
        exact den_mono w1 fun v H1 w3 => ⟨rfl, w3⟩
      · cases h5
    · cases h
  | .isi2 a => by
    intro X W s x g h
    simp only [chkE] at h
    split at h
    · rename_i n q e m q2 m2 q3 kk q4 p
      simp only [Bool.and_eq_true, decide_eq_true_eq] at h
      obtain ⟨⟨⟨⟨⟨⟨⟨⟨⟨⟨h1, h2⟩, h3⟩, h4⟩, h5⟩, h6⟩, h7⟩, h8⟩, h9⟩, h10⟩, h11⟩ := h
      subst h1
      subst h2
      subst h3
      have pe := (sE a _ _ _ _ g h11).1
      have p1 : L2.PE X (.Name (Str.ofString (tyNm .tuple)) q2) (L2.tC (.ty "tuple")) := ty_name (t := .tuple) g h5 h8
      have p2 : L2.PE X (.Name (Str.ofString (tyNm .list)) q3) (L2.tC (.ty "list")) := ty_name (t := .list) g h6 h9
      have pa : L2.PA X [e, .Tuple [.Name (Str.ofString (tyNm .tuple)) q2, .Name (Str.ofString (tyNm .list)) q3] kk q4] (L2.tCons (den c W (cP G d) (cI G d) a) (L2.tCons (L2.tTup (L2.tCons (L2.tC (.ty "tuple")) (L2.tCons (L2.tC (.ty "list")) L2.tNil))) L2.tNil)) :=
        L2.pa_cons pe (L2.pa_cons (L2.pe_tup (L2.pa_cons p1 (L2.pa_cons p2 L2.pa_nil rfl) rfl)) L2.pa_nil rfl) (star_cons h10 _ X.env)
      have hr : L2.CallR X (.builtin "isinstance") (L2.rIsiT c.K) := by rw [← g.K]; exact L2.call_isiT
      exact pes_of g rfl rfl (pe_imp (L2.pe_callB hr (g.gl h4) (g.bln _ h7) (by decide +kernel) pa (g.bb _ h7).1 (g.bb _ h7).2 (star_cons h10 _ X.env) rfl) fun σ H Q w => w_isi2 w)
    · cases h
  | .ise a cs => by
    intro X W s x g h
    simp only [chkE] at h
    split at h
    · rename_i hh
      split at h
      · rename_i n q e y p
        simp only [Bool.and_eq_true, decide_eq_true_eq] at h
        obtain ⟨⟨⟨⟨⟨h1, h2⟩, h3⟩, h4⟩, h5⟩, h6⟩ := h
        subst h1
        have pe := (sE a _ _ _ _ g h5).1
        obtain ⟨pp, C, k, i1, i2, i3, i4, i5, i6, i7⟩ := g.hx hh
        have hr : L2.CallR X (.builtin "isinstance") (rIse c.K pp.1 C) := by rw [← g.K]; exact call_ise i3 i7 i4 i5
        obtain ⟨ty, py, hq, hst⟩ := isx_rule g h6
        have pa : L2.PA X [e, y] (L2.tCons (den c W (cP G d) (cI G d) a) (L2.tCons ty L2.tNil)) := L2.pa_cons pe (L2.pa_cons py L2.pa_nil hst) (star_cons h4 _ X.env)
        refine pes_of g rfl rfl (pe_imp (L2.pe_callB hr (g.gl h2) (g.bln _ h3) (by decide +kernel) pa (g.bb _ h3).1 (g.bb _ h3).2 (star_cons h4 _ X.env) (by rw [hst]; rfl)) fun σ H Q w => ?_)
        exact w_ise i1 (hq i2) w
      · cases h
    · cases h
  | .comp own it tg cond elt => by
    intro X W s x g h
    simp only [chkE] at h
    split at h
    · cases h
    rename_i hh
    have h0 : s.hot = false := by simpa using hh
    split at h
    · rename_i xe xt xi ifs scope p
      simp only [Bool.and_eq_true] at h
      obtain ⟨⟨⟨⟨⟨⟨h1, h2⟩, h3⟩, h4⟩, h5⟩, h6⟩, h7⟩ := h
      have ok : L2.BlkOk X.N X.env.scope scope (ownl J own) := by
        rw [g.N, g.sc]; exact L2.blkOk_by h1
      have hk : scope.kind = .function := ok.kind
      have gb := fun s1 H1 C cl fp => g.blk h0 hk s1 H1 C cl fp
      refine pes_of g rfl rfl (pe_imp (L2.pe_lc (g.calm h0) g.nd (sI it g h5) ok (fun s1 H1 C cl fp => (gb s1 H1 C cl fp).tg rfl h4) (fun s1 H1 C cl fp => sC cond (gb s1 H1 C cl fp) h6) (fun s1 H1 C cl fp => (sE elt _ _ _ _ (gb s1 H1 C cl fp) h7).1) (folded_of h2)) fun σ H Q w => ?_)
      have hown : (ownl J own).map (·.2) = own := by
        unfold ownl
        rw [List.map_map]
        exact List.map_id own
      rw [hown]
      exact w_comp h3 w
    · cases h
theorem sR1 : ∀ (es : Es) {X : L2.Cx} {W : WX} {s : Sc} {a : Expr}, Good X c J G d W s → chkRs J es s [a] = true → ∃ e, es = .cons e .nil ∧ L2.PE X a (den c W (cP G d) (cI G d) e)
  | .cons e .nil, X, W, s, a, g, h => by
    simp only [chkRs, Bool.and_eq_true] at h
    exact ⟨e, rfl, (sE e _ _ _ _ g h.1.2).1⟩
  | .nil, X, W, s, a, g, h => absurd h (by simp [chkRs])
  | .cons _ (.cons _ _), X, W, s, a, g, h => absurd h (by simp [chkRs])
theorem sC : ∀ (e : Eo) {X : L2.Cx} {W : WX} {s : Sc} {xs : List Expr}, Good X c J G d W s → chkC J e s xs = true → L2.PTs X xs (denC c W (cP G d) (cI G d) e)
  | .no, X, W, s, [], g, h => by
    refine ⟨fun pins sh σ H Q I w => ?_⟩
    obtain ⟨old, mo, mn, env, S, st, w⟩ := w
    exact L2.pts_nil.run pins sh σ H Q I (w mn H true Ext.refl st.n rfl)
  | .of e, X, W, s, [x], g, h => by
    simp only [chkC, Bool.and_eq_true] at h
    exact L2.pts_one ((sE e _ _ _ _ g h.2).2.1 h.1)
  | .no, X, W, s, _ :: _, g, h => absurd h (by simp [chkC])
  | .of e, X, W, s, [], g, h => absurd h (by simp [chkC])
  | .of e, X, W, s, _ :: _ :: _, g, h => absurd h (by simp [chkC])
theorem sI : ∀ (it : I) {X : L2.Cx} {W : WX} {s : Sc} {x t : Expr}, Good X c J G d W s → chkI J it s x t = true → L2.PI X t x (denI c W (cP G d) (cI G d) it)
  | .seq e, X, W, s, x, t, g, h => by
    simp only [chkI] at h
    refine L2.pi_imp (L2.pi_seq (sE e _ _ _ _ g h).1) fun σ H R w => ?_
    rw [g.K]
    exact w_iseq w
  | .rng1 a, X, W, s, x, t, g, h => by
    simp only [chkI] at h
    split at h
    · simp only [Bool.and_eq_true, decide_eq_true_eq] at h
      obtain ⟨⟨⟨⟨h1, h2⟩, h3⟩, h4⟩, h5⟩ := h
      subst h1
      exact L2.pi_imp (L2.pi_range1 (g.gl h2) (g.bln _ h3) (L2.pa_cons (sE a _ _ _ _ g h5).1 L2.pa_nil (star_cons h4 [] X.env)) (star_cons h4 [] X.env)) fun σ H R w => w_rng1 w
    · cases h
  | .rng2 a b, X, W, s, x, t, g, h => by
    simp only [chkI] at h
    split at h
    · rename_i n q l r p
      simp only [Bool.and_eq_true, decide_eq_true_eq] at h
      obtain ⟨⟨⟨⟨⟨⟨h1, h2⟩, h3⟩, h4⟩, h5⟩, h6⟩, h7⟩ := h
      subst h1
      refine L2.pi_imp (L2.pi_range2 (g.gl h2) (g.bln _ h3) (L2.pa_cons (sE a _ _ _ _ g h6).1 (L2.pa_cons (sE b _ _ _ _ g h7).1 L2.pa_nil (star_cons h5 [] X.env)) (star_cons h4 [r] X.env)) ?_ (star_cons h5 [] X.env)) fun σ H R w => w_rng2 w
      rw [star_cons h4 [r] X.env, star_cons h5 [] X.env]; rfl
    · cases h
  | .rng3 a b e, X, W, s, x, t, g, h => by
    simp only [chkI] at h
    split at h
    · rename_i n q l r u p
      simp only [Bool.and_eq_true, decide_eq_true_eq] at h
      obtain ⟨⟨⟨⟨⟨⟨⟨⟨h1, h2⟩, h3⟩, h4⟩, h5⟩, h6⟩, h7⟩, h8⟩, h9⟩ := h
      subst h1
      exact L2.pi_imp (L2.pi_range3 (g.gl h2) (g.bln _ h3) (L2.pa_cons (sE a _ _ _ _ g h7).1 (L2.pa_cons (sE b _ _ _ _ g h8).1 (L2.pa_cons (sE e _ _ _ _ g h9).1 L2.pa_nil (star_cons h6 [] X.env)) (star_cons h5 [u] X.env)) (star_cons h4 [r, u] X.env)) (star_cons h4 [r, u] X.env)
        (star_all p X.env (by simp [noStars, h5, h6]))) fun σ H R w => w_rng3 w
    · cases h
  | .enu e, X, W, s, x, t, g, h => by
    simp only [chkI] at h
    split at h
    · rename_i n q l p
      simp only [Bool.and_eq_true, decide_eq_true_eq] at h
      obtain ⟨⟨⟨⟨⟨h0, h1⟩, h2⟩, h3⟩, h4⟩, h5⟩ := h
      subst h1
      cases t with
      | Tuple elts kk tp =>
        refine L2.pi_imp (L2.pi_enumT (g.gl h2) (g.bln _ h3) (L2.pa_cons (sE e _ _ _ _ g h5).1 L2.pa_nil (star_cons h4 [] X.env)) (star_cons h4 [] X.env)) fun σ H R w => ?_
        rw [g.K]
        exact w_enu w
      | _ => exact absurd h0 (by simp [isTup])
    · cases h
  | .zip a b, X, W, s, x, t, g, h => by
    simp only [chkI] at h
    split at h
    · rename_i n q l r p
      simp only [Bool.and_eq_true, decide_eq_true_eq] at h
      obtain ⟨⟨⟨⟨⟨⟨⟨h0, h1⟩, h2⟩, h3⟩, h4⟩, h5⟩, h6⟩, h7⟩ := h
      subst h1
      cases t with
      | Tuple elts kk tp =>
        refine L2.pi_imp (pi_zipB (g.gl h2) (g.bln _ h3) (L2.pa_cons (sE a _ _ _ _ g h6).1 (L2.pa_cons (sE b _ _ _ _ g h7).1 L2.pa_nil (star_cons h5 [] X.env)) (star_cons h4 [r] X.env)) (star_cons h4 [r] X.env) (star_all p X.env (by simp [noStars, h5]))) fun σ H R w => ?_
        rw [g.K]
        exact w_zip w
      | _ => exact absurd h0 (by simp [isTup])
    · cases h
theorem sO : ∀ (e : Eo) {X : L2.Cx} {W : WX} {s : Sc} {x : Option Expr}, Good X c J G d W s → chkO J e s x = true → L2.PO X x (denO c W (cP G d) (cI G d) e)
  | .no, X, W, s, none, g, h => L2.po_imp L2.po_none fun σ H Q w => w_evoN w
  | .of e, X, W, s, some x, g, h => by
    simp only [chkO] at h
    exact L2.po_imp (L2.po_some (sE e _ _ _ _ g h).1) fun σ H Q w => w_evo w
  | .no, X, W, s, some x, g, h => absurd h (by simp [chkO])
  | .of e, X, W, s, none, g, h => absurd h (by simp [chkO])
theorem sEs : ∀ (es : Es) {X : L2.Cx} {W : WX} {s : Sc} {xs : List Expr}, Good X c J G d W s → chkEs J es s xs = true → L2.PA X xs (denS c W (cP G d) (cI G d) es)
  | .nil, X, W, s, [], g, h => pa_imp L2.pa_nil fun σ H Q w => w_evsN w
  | .cons e es, X, W, s, x :: xs, g, h => by
    simp only [chkEs, Bool.and_eq_true] at h
    exact pa_imp (L2.pa_cons (sE e _ _ _ _ g h.1.2).1 (sEs es g h.2) (star_cons h.1.1 xs X.env)) fun σ H Q w => w_evs w
  | .nil, X, W, s, _ :: _, g, h => absurd h (by simp [chkEs])
  | .cons _ _, X, W, s, [], g, h => absurd h (by simp [chkEs])
theorem sRs : ∀ (es : Es) {X : L2.Cx} {W : WX} {s : Sc} {xs : List Expr}, Good X c J G d W s → chkRs J es s xs = true → L2.PA X xs (denR c W (cP G d) (cI G d) es)
  | .nil, X, W, s, [], g, h => pa_imp L2.pa_nil fun σ H Q w => w_evrN w
  | .cons e es, X, W, s, x :: xs, g, h => by
    simp only [chkRs, Bool.and_eq_true] at h
    exact pa_imp (L2.pa_cons (sE e _ _ _ _ g h.1.2).1 (sRs es g h.2) (star_cons h.1.1 xs X.env)) fun σ H Q w => w_evr w
  | .nil, X, W, s, _ :: _, g, h => absurd h (by simp [chkRs])
  | .cons _ _, X, W, s, [], g, h => absurd h (by simp [chkRs])
end
end
end Z
/-! Z13: statements, defs. -/
namespace Z
open PySem PySem.Spec PyProof.Rows
open L2 (V Hp HO upd upd_same upd_ne SqL SqT Rd VK TE TT TA TS Ends WX XK)
section
variable (J : Info)
def swapB (s : Sc) (n : Str) (p' : Pos) (v : Expr) : Bool := match v with
  | .ListComp _ _ scope _ => (match s.sc.names.lookup n with
    | some .local => true
    | _ => false) && p'.line == v.pos.line && !(scope.names.any fun (m, k) => m == n && (k == .local || k == .cell))
  | _ => false
def notSD : Expr → Bool
  | .SetComp _ _ _ _ => false
  | .DictComp _ _ _ _ _ => false
  | _ => true
def locB (s : Sc) (n : Str) : Bool := match s.sc.names.lookup n with
  | some .local => true
  | _ => false
def foldB (vs : List Expr) : Bool := vs.all notStar && !(vs.all (foldedForSure 8)) && !(vs.all (constantsAlone 8))
mutual
def chkT : T → Sc → Stmt → Bool
  | .set i e, s, x => match x with
    | .Assign [.Name n p'] v _ => chkN J.N s i (.Name n p') && notSD v && chkE J e s v
    | _ => false
  | .par is es, s, x => match x with
    | .Assign [.Tuple ts _ _] (.Tuple vs _ _) _ => (match is, ts, vs with
      | [i, j], [.Name n p, .Name m q], [_, _] => !s.hot && decide (J.N[i]? = some n) && decide (J.N[j]? = some m) && locB s n && locB s m && !decide (i = j) && !decide (n = m) && (p.line == q.line) && foldB vs && chkEs J es s vs
      | [i, j, l], [.Name n p, .Name m q, .Name o r], [_, _, _] => !s.hot && decide (J.N[i]? = some n) && decide (J.N[j]? = some m) && decide (J.N[l]? = some o) && locB s n && locB s m && locB s o && !decide (i = j) && !decide (i = l) && !decide (j = l) && !decide (n = m) && !decide (n = o) && !decide (m = o) && (p.line == q.line) && (p.line == r.line) && foldB vs && chkEs J es s vs
      | _, _, _ => false)
    | _ => false
  | .putt o i o2 i2 e e2, s, x => match x with
    | .Assign [.Tuple [.Subscript ox ix _, .Subscript ox2 ix2 _] _ _] (.Tuple [v, v2] k2 p2) _ => !s.hot && notSlice ix && notSlice ix2 && chkE J o s ox && chkE J i s ix && chkE J o2 s ox2 && chkE J i2 s ix2 && chkE J (.tup (.cons e (.cons e2 .nil))) s (.Tuple [v, v2] k2 p2)
    | _ => false
  | .unp is e, s, x => match x with
    | .Assign [.Tuple ts _ _] v _ => !s.hot && chkNs J.N s is ts && notTup v && ((notComp v && chkE J e s v) || (match e with
      | .blt .tuple (.cons (.comp a1 a2 a3 a4 a5) .nil) => chkE J (.comp a1 a2 a3 a4 a5) s v
      | _ => false))
    | _ => false
  | .put o i e, s, x => match x with
    | .Assign [.Subscript ox ix _] v _ => notComp v && notSlice ix && chkE J o s ox && chkE J i s ix && chkE J e s v
    | _ => false
  | .exp e, s, x => match x with
    | .Expr v _ => notComp v && chkE J e s v
    | _ => false
  | .ret e, s, x => match x with
    | .Return (some v) _ => chkE J e s v
    | _ => false
  | .retn, s, x => match x with
    | .Return none _ => true
    | _ => false
  | .ife c a b, s, x => match x with
    | .If t xs ys _ => tstOk c && chkE J c s t && chkB a s xs && chkB b s ys
    | _ => false
  | .fo it tg b, s, x => match x with
    | .For t i xs [] _ => !s.hot && notSet i && chkTg J.N s tg t && chkI J it s i t && chkB b s xs
    | _ => false
  | .wh c b, s, x => match x with
    | .While t xs [] _ => tstOk c && chkE J c s t && chkB b s xs
    | _ => false
  | .aug i o e, s, x => false
  | .rai c, s, x => match x with
    | .Raise (some (.Call (.Name n _) [.Constant (.str _) _ _] [] _)) none _ => !s.hot && glB s.sc n && okn n && (match J.cls c with
      | some m => decide (m = n)
      | none => false)
    | _ => false
  | .tre b i cs e, s, x => match x with
    | .Try body [.ExceptHandler (some (.Name n _)) (some m) [.Return (some v) _] _] [] [] _ => !s.hot && isxN J s cs (.Name n ⟨0, 0, 0, 0⟩) && decide (J.N[i]? = some m) && locB s m && hE e && chkE J e { s with hot := true } v && chkB b s body
    | _ => false
  | .brk, s, x => match x with
    | .Break _ => true
    | _ => false
  | .cnt, s, x => match x with
    | .Continue _ => true
    | _ => false
  | .pas, s, x => match x with
    | .Pass _ => true
    | _ => false
def chkB : B → Sc → List Stmt → Bool
  | .nil, _, [] => true
  | .seq t b, s, x :: xs => chkT t s x && chkB b s xs
  | _, _, _ => false
end
end
/-- what the statements want besides -/
structure GoodS (X : L2.Cx) (c : Cg) (J : Info) (G : Tab) (d : Nat) (W : WX) (s : Sc) : Prop extends Good X c J G d W s where
  passes : PassesOwn (model X.prog X.w) X.A X.env X.xe
  fn : ∀ n, X.fn n = true
  raw : s.raw = none
  exs : ∀ k C, c.ca k = some C → L2.ExcC X.K C
  frm : s.hot = false → X.stack = X.env :: X.outer ∧ X.env.frame = some X.env.locals
  exc : ∀ y n, J.cls y = some n → ∃ C, X.mg n = some (.ref C) ∧ c.ca y = some C ∧ PySem.W.excIn X.K C PySem.HandSPX.veTail "ValueError.__new__" = true ∧ PySem.W.keepIn X.K (.ref C) = true ∧ L2.Raises X (.ref C)
section
variable {c : Cg} {J : Info} {G : Tab} {d : Nat}
theorem sole_of {t e : Expr} {l : Nat} {env : PySem.Env} (h : notComp e = true) : swapsWithSole [t] e l env = pure false := by
  rw [show swapsWithSole [t] e l env = swapsWith e (some t) l env by simp only [swapsWithSole]]
  exact swaps_of h
theorem sub_assign {ox ix : Expr} {p : Pos} {env : PySem.Env} (h : notSlice ix = true) : ∀ v, assign (.Subscript ox ix p) env v = (do
      let ov ← holding [v] (eval ox env)
      let iv ← holding [v, ov] (eval ix env)
      standAt p
      holding [v, ov, iv] (setItem ov iv v)
      release [v, ov, iv] []) := by
  intro v
  cases ix <;> first | rfl | exact absurd h (by simp [notSlice])
theorem locB_of {s : Sc} {n : Str} (h : locB s n = true) : s.sc.names.lookup n = some .local := by
  unfold locB at h
  split at h
  · rename_i e; exact e
  · cases h
theorem swp_none {a b c e v v2 : Expr} {p q r p2 : Pos} {k k2 : Nat} {env : PySem.Env} : swappedStores [.Tuple [.Subscript a b p, .Subscript c e q] k r] (.Tuple [v, v2] k2 p2) env = pure none := by
  simp only [swappedStores]
  repeat' split
  all_goals first
    | rfl
    | simp_all
theorem ns_false {a : Expr} (h : notStar a = true) : (match a with
        | .Starred _ _ => true
        | _ => false) = false := by
  cases a <;> first | rfl | exact absurd h (by simp [notStar])
theorem sw2 {n m : Str} {p q pt p2 : Pos} {a b : Expr} {kt k2 : Nat} {env : PySem.Env} (hk : env.scope.kind = .function) (h1 : env.kindOf n = some .local) (h2 : env.kindOf m = some .local) (hn : ¬ n = m) (hl : (p.line == q.line) = true)
    (f1 : notStar a = true) (f4 : notStar b = true) (f2 : [a, b].all (foldedForSure 8) = false) (f3 : [a, b].all (constantsAlone 8) = false) :
    swappedStores [.Tuple [.Name n p, .Name m q] kt pt] (.Tuple [a, b] k2 p2) env = pure (some [n, m]) := by
  have hb : env.blockKind = .function := by unfold Env.blockKind; rw [hk]; rfl
  have hl2 : (q.line == p.line) = true := by rw [beq_iff_eq] at hl ⊢; exact hl.symm
  simp only [swappedStores, hb, f2, f3]
  simp only [List.head?_cons, Option.map_some, Option.getD_some, List.filterMap_cons, List.filterMap_nil, h1, h2, hl2, Expr.pos]
  simp [List.eraseDups_cons, Ne.symm (a := n) (b := m) hn]
  rintro (h | h)
  · cases a <;> first | exact Bool.noConfusion (show false = true from f1) | exact Bool.noConfusion (show false = true from h)
  · cases b <;> first | exact Bool.noConfusion (show false = true from f4) | exact Bool.noConfusion (show false = true from h)
theorem sw3 {n m o : Str} {p q r pt p2 : Pos} {a b e : Expr} {kt k2 : Nat} {env : PySem.Env} (hk : env.scope.kind = .function) (h1 : env.kindOf n = some .local) (h2 : env.kindOf m = some .local) (h3 : env.kindOf o = some .local) (hn : ¬ n = m) (hn2 : ¬ n = o) (hn3 : ¬ m = o) (hl : (p.line == q.line) = true) (hl3 : (p.line == r.line) = true)
    (f1 : notStar a = true) (f4 : notStar b = true) (f5 : notStar e = true) (f2 : [a, b, e].all (foldedForSure 8) = false) (f3 : [a, b, e].all (constantsAlone 8) = false) :
    swappedStores [.Tuple [.Name n p, .Name m q, .Name o r] kt pt] (.Tuple [a, b, e] k2 p2) env = pure (some [n, m, o]) := by
  have hb : env.blockKind = .function := by unfold Env.blockKind; rw [hk]; rfl
  have hl2 : (q.line == p.line) = true := by rw [beq_iff_eq] at hl ⊢; exact hl.symm
  have hl4 : (r.line == p.line) = true := by rw [beq_iff_eq] at hl3 ⊢; exact hl3.symm
  simp only [swappedStores, hb, f2, f3]
  simp only [List.head?_cons, Option.map_some, Option.getD_some, List.filterMap_cons, List.filterMap_nil, h1, h2, h3, hl2, hl4, Expr.pos]
  simp [List.eraseDups_cons, Ne.symm (a := n) (b := m) hn, Ne.symm (a := n) (b := o) hn2, Ne.symm (a := m) (b := o) hn3]
  rintro (h | h | h)
  · cases a <;> first | exact Bool.noConfusion (show false = true from f1) | exact Bool.noConfusion (show false = true from h)
  · cases b <;> first | exact Bool.noConfusion (show false = true from f4) | exact Bool.noConfusion (show false = true from h)
  · cases e <;> first | exact Bool.noConfusion (show false = true from f5) | exact Bool.noConfusion (show false = true from h)
theorem Good.kd {X : L2.Cx} {c : Cg} {W : WX} {s : Sc} (g : Good X c J G d W s) : X.env.scope.kind = .function := by rw [g.sc]; exact g.kind
theorem fold_of {a b : Expr} (h : foldB [a, b] = true) : (notStar a = true ∧ notStar b = true) ∧ [a, b].all (foldedForSure 8) = false ∧ [a, b].all (constantsAlone 8) = false := by
  unfold foldB at h
  rw [Bool.and_eq_true, Bool.and_eq_true, Bool.not_eq_true', Bool.not_eq_true'] at h
  obtain ⟨⟨h1, h2⟩, h3⟩ := h
  simp only [List.all_cons, List.all_nil, Bool.and_true, Bool.and_eq_true] at h1
  exact ⟨h1, h2, h3⟩
theorem fold3_of {a b e : Expr} (h : foldB [a, b, e] = true) : (notStar a = true ∧ notStar b = true ∧ notStar e = true) ∧ [a, b, e].all (foldedForSure 8) = false ∧ [a, b, e].all (constantsAlone 8) = false := by
  unfold foldB at h
  rw [Bool.and_eq_true, Bool.and_eq_true, Bool.not_eq_true', Bool.not_eq_true'] at h
  obtain ⟨⟨h1, h2⟩, h3⟩ := h
  simp only [List.all_cons, List.all_nil, Bool.and_true, Bool.and_eq_true] at h1
  exact ⟨h1, h2, h3⟩
/-- the context of a try's body -/
theorem GoodS.tr {X : L2.Cx} {W W' : WX} {s : Sc} (g : GoodS X c J G d W s) (h0 : s.hot = false) {pn : List (Addr × Obj)} {xe : Value → Shared → Prop} (tk : L2N.Takes (X.tr pn xe) W') (ps : PassesOwn (model X.prog X.w) X.A X.env xe) : GoodS (X.tr pn xe) c J G d W' s :=
  { K := g.K, calm := g.calm, N := g.N, nd := g.nd, sc := g.sc, kind := g.kind, cel := g.cel, room := g.room, rhd := g.rhd, cx := g.cx, takes := tk, bln := g.bln, fns := g.fns, hfn := g.hfn, isx := g.isx, hx := (fun z => by rw [h0] at z; cases z), con := g.con, bb := g.bb, passes := ps, fn := g.fn, raw := g.raw, exs := g.exs, frm := g.frm, exc := g.exc }
/-- the context of an except suite -/
theorem GoodS.suite {X : L2.Cx} {W : WX} {s : Sc} (g : GoodS X c J G d W s) (h0 : s.hot = false) {a : Addr} {oe : Obj} {k : Nat} {C : Addr} {pn : List (Addr × Obj)} (hC : c.ca k = some C) (hz : L2N.Zn (.ref C) none oe) (hf : ∃ vs, oe.data = .fields vs) :
    Good (X.suite a ((a, oe) :: pn)) (c.at a k) J G d WF { s with hot := true } where
  K := g.K
  calm := fun z => by cases z
  N := g.N
  nd := g.nd
  sc := g.sc
  kind := g.kind
  cel := g.cel
  room := ⟨g.room.dp, g.room.un⟩
  rhd := fun z => by cases z
  cx := fun z => by cases z
  takes := takesF
  bln := g.bln
  fns := fun f q z => by cases z
  hfn := g.hfn
  isx := g.isx
  hx := fun _ => ⟨(a, oe), C, k, rfl, hC, g.exs k C hC, ⟨hz.1, hz.2.1⟩, hf, by
    obtain ⟨vs, hv⟩ := hf
    exact ⟨rfl, vs, hv, hz.2.2 vs hv⟩, List.mem_cons_self⟩
  con := fun n e h => let ⟨u, v, h1, h2, h3⟩ := g.con n e h; ⟨u, v, h1, h2, fun H m => RD.hot (g.cx h0) _ _ (h3 H m)⟩
  bb := g.bb
theorem pss_empty {X : L2.Cx} {W : WX} : L2.PSs X [] (denB c W (cP G d) (cI G d) G.fu .nil) := L2.pss_imp L2.pss_nil fun D σ H w => w_nil w
mutual
theorem sT : ∀ (t : T) (X : L2.Cx) (W : WX) (s : Sc) (x : Stmt), GoodS X c J G d W s → chkT J t s x = true → L2.PS X x (denSt c W (cP G d) (cI G d) G.fu t)
  | .set i e => by
    intro X W s x g h
    simp only [chkT] at h
    split at h
    · rename_i n p' v pos
      simp only [Bool.and_eq_true] at h
      obtain ⟨⟨h1, h2⟩, h3⟩ := h
      have h1' := h1
      simp only [chkN, Bool.and_eq_true, decide_eq_true_eq] at h1'
      have hi : X.N[i]? = some n := by rw [g.N]; exact h1'.1
      have hloc : L2.Loc X.env.scope n := by
        rw [g.sc]
        have h2 := h1'.2
        unfold celB at h2
        split at h2
        · rename_i e; exact .inl e
        · rename_i e; exact .inr e
        · cases h2
      by_cases hs : swapB s n p' v = true
      · cases v with
        | ListComp xe gens scope vp =>
          simp only [swapB, Bool.and_eq_true, Bool.not_eq_true'] at hs
          obtain ⟨⟨q1, q2⟩, q3⟩ := hs
          have ql : X.env.scope.names.lookup n = some .local := by
            rw [g.sc]
            split at q1
            · rename_i e; exact e
            · cases q1
          have hk : X.env.scope.kind = .function := by rw [g.sc]; exact g.kind
          cases e with
          | comp own it tg cond elt =>
            simp only [chkE] at h3
            split at h3
            · cases h3
            rename_i hcx
            split at h3
            · rename_i xe' xt xi ifs scope' p2 heq
              cases heq
              simp only [Bool.and_eq_true] at h3
              obtain ⟨⟨⟨⟨⟨⟨r1, r2⟩, r3⟩, r4⟩, r5⟩, r6⟩, r7⟩ := h3
              have h0 : s.hot = false := by simpa using hcx
              have ok : L2.BlkOk X.N X.env.scope scope (ownl J own) := by
                rw [g.N, g.sc]; exact L2.blkOk_by r1
              have gb := fun s1 H1 C cl fp => g.toGood.blk h0 ok.kind s1 H1 C cl fp
              refine L2.ps_imp (L2.ps_setLc (g.calm h0) g.nd hi ql (L2.sw_true hk ql q2 q3) (sI it g.toGood r5) ok (fun s1 H1 C cl fp => (gb s1 H1 C cl fp).tg rfl r4) (fun s1 H1 C cl fp => sC cond (gb s1 H1 C cl fp) r6) (fun s1 H1 C cl fp => (sE elt _ _ _ _ (gb s1 H1 C cl fp) r7).1) (folded_of r2)) fun D σ H w => ?_
              have hown : (ownl J own).map (·.2) = own := by
                unfold ownl
                rw [List.map_map]
                exact List.map_id own
              rw [hown]
              exact w_comp r3 (w_set w)
            · cases h3
          | _ => exact absurd h3 (by simp [chkE])
        | _ => exact absurd hs (by simp [swapB])
      · have pe := (sE e _ _ _ _ g.toGood h3).1
        refine L2.ps_imp (L2.ps_set g.nd hi hloc pe ?_ (.inl (g.fn n))) fun D σ H w => w_set w
        cases v with
        | ListComp xe gens scope vp =>
          have hs' : swapB s n p' (.ListComp xe gens scope vp) = false := by
            cases hh : swapB s n p' (.ListComp xe gens scope vp) with
            | false => rfl
            | true => exact absurd hh hs
          show (pure _ : Sem Bool) = pure false
          congr 1
          simp only [swapB] at hs'
          have hl : (X.env.kindOf n == some .local) = (match s.sc.names.lookup n with
            | some .local => true
            | _ => false) := by
            show (X.env.scope.names.lookup n == some .local) = _
            rw [g.sc]
            cases s.sc.names.lookup n with
            | none => rfl
            | some k => cases k <;> rfl
          rw [Bool.and_assoc, Bool.and_assoc, hl]
          rw [Bool.and_assoc] at hs'
          rw [hs']
          exact Bool.and_false _
        | SetComp _ _ _ _ => exact absurd h2 (by simp [notSD])
        | DictComp _ _ _ _ _ => exact absurd h2 (by simp [notSD])
        | _ => rfl
    · cases h
  | .unp is e => by
    intro X W s x g h
    simp only [chkT] at h
    split at h
    · rename_i ts k p' v pos
      simp only [Bool.and_eq_true, Bool.or_eq_true] at h
      obtain ⟨⟨⟨h0, h1⟩, h3⟩, h4⟩ := h
      have h0 : s.hot = false := by simpa using h0
      obtain ⟨n1, n2, n3⟩ := g.toGood.nms h1
      have hw : swappedStores [.Tuple ts k p'] v X.env = pure none := by
        cases v <;> first | rfl | exact absurd h3 (by simp [notTup])
      rcases h4 with ⟨h2, h4⟩ | h4
      · have pe := (sE e _ _ _ _ g.toGood h4).1
        refine L2.ps_imp (L2.ps_asg pe (L2.pg_tup (g.calm h0) n1 n2 n3) (sole_of h2) hw rfl) fun D σ H w => ?_
        rw [g.K]
        exact w_unp w
      · split at h4
        · rename_i a1 a2 a3 a4 a5
          have pe := (sE (.comp a1 a2 a3 a4 a5) _ _ _ _ g.toGood h4).1
          refine L2.ps_imp (L2.ps_asg pe (L2.pg_lst (g.calm h0) n1 n2 n3) (by cases v <;> rfl) hw rfl) fun D σ H w => ?_
          rw [g.K]
          exact w_unl w
        · cases h4
    · cases h
  | .par is es => by
    intro X W s x g h
    simp only [chkT] at h
    split at h
    · rename_i ts k p' vs k2 p2 pos
      split at h
      · rename_i i j n p m q a b
        simp only [Bool.and_eq_true, decide_eq_true_eq, Bool.not_eq_true', decide_eq_false_iff_not] at h
        obtain ⟨⟨⟨⟨⟨⟨⟨⟨⟨h0, h1⟩, h2⟩, h3⟩, h4⟩, h5⟩, h6⟩, h7⟩, h8⟩, h9⟩ := h
        refine L2.ps_imp (L2.ps_par (g.calm h0) g.nd (by rw [g.N]; exact h1) (by rw [g.N]; exact h2) h5 (by rw [g.sc]; exact locB_of h3) (by rw [g.sc]; exact locB_of h4) (sEs es g.toGood h9) (sw2 g.toGood.kd (by show X.env.scope.names.lookup _ = _; rw [g.sc]; exact locB_of h3) (by show X.env.scope.names.lookup _ = _; rw [g.sc]; exact locB_of h4) h6 h7 (fold_of h8).1.1 (fold_of h8).1.2 (fold_of h8).2.1 (fold_of h8).2.2) (sole_of rfl)) fun D σ H w => w_par2 w
      · rename_i i j l n p m q o r a b c'
        simp only [Bool.and_eq_true, decide_eq_true_eq, Bool.not_eq_true', decide_eq_false_iff_not] at h
        obtain ⟨⟨⟨⟨⟨⟨⟨⟨⟨⟨⟨⟨⟨⟨⟨⟨h0, h1⟩, h2⟩, h3⟩, h4⟩, h5⟩, h6⟩, h7⟩, h8⟩, h9⟩, h10⟩, h11⟩, h12⟩, h13⟩, h14⟩, h15⟩, h16⟩ := h
        refine L2.ps_imp (L2.ps_par3 (g.calm h0) g.nd (by rw [g.N]; exact h1) (by rw [g.N]; exact h2) (by rw [g.N]; exact h3) h7 h8 h9 (by rw [g.sc]; exact locB_of h4) (by rw [g.sc]; exact locB_of h5) (by rw [g.sc]; exact locB_of h6) (sEs es g.toGood h16) (sw3 g.toGood.kd (by show X.env.scope.names.lookup _ = _; rw [g.sc]; exact locB_of h4) (by show X.env.scope.names.lookup _ = _; rw [g.sc]; exact locB_of h5) (by show X.env.scope.names.lookup _ = _; rw [g.sc]; exact locB_of h6) h10 h11 h12 h13 h14 (fold3_of h15).1.1 (fold3_of h15).1.2.1 (fold3_of h15).1.2.2 (fold3_of h15).2.1 (fold3_of h15).2.2) (sole_of rfl)) fun D σ H w => w_par3 w
      · cases h
    · cases h
  | .putt o i o2 i2 e e2 => by
    intro X W s x g h
    simp only [chkT] at h
    split at h
    · rename_i ox ix p' ox2 ix2 p3 k p4 v v2 k2 p2 pos
      simp only [Bool.and_eq_true] at h
      obtain ⟨⟨⟨⟨⟨⟨⟨h0, h1⟩, h2⟩, h3⟩, h4⟩, h5⟩, h6⟩, h7⟩ := h
      have h0 : s.hot = false := by simpa using h0
      have pe := (sE (.tup (.cons e (.cons e2 .nil))) _ _ _ _ g.toGood h7).1
      have a1 := L2.pg_sub (pos := p') (sE o _ _ _ _ g.toGood h3).1 (sE i _ _ _ _ g.toGood h4).1 L2.set_list (sub_assign h1)
      have a2 := L2.pg_sub (pos := p3) (sE o2 _ _ _ _ g.toGood h5).1 (sE i2 _ _ _ _ g.toGood h6).1 L2.set_list (sub_assign h2)
      refine L2.ps_imp (L2.ps_asg pe (L2.pg_tup (n := 2) (g.calm h0) (L2.pgs_cons a1 (L2.pgs_cons a2 L2.pgs_nil rfl) rfl) rfl rfl) (sole_of rfl) swp_none rfl) fun D σ H w => ?_
      rw [g.K]
      exact w_putt w
    · cases h
  | .put o i e => by
    intro X W s x g h
    simp only [chkT] at h
    split at h
    · rename_i ox ix p' v pos
      simp only [Bool.and_eq_true] at h
      obtain ⟨⟨⟨⟨h1, h2⟩, h3⟩, h4⟩, h5⟩ := h
      have pe := (sE e _ _ _ _ g.toGood h5).1
      have hw : swappedStores [.Subscript ox ix p'] v X.env = pure none := by
        cases v <;> rfl
      exact L2.ps_imp (L2.ps_asg pe (L2.pg_sub (sE o _ _ _ _ g.toGood h3).1 (sE i _ _ _ _ g.toGood h4).1 L2.set_list (sub_assign h2)) (sole_of h1) hw rfl) fun D σ H w => w_put w
    · cases h
  | .exp e => by
    intro X W s x g h
    simp only [chkT] at h
    split at h
    · simp only [Bool.and_eq_true] at h
      exact L2.ps_imp (L2.ps_expr (sE e _ _ _ _ g.toGood h.2).1 (swaps_of h.1)) fun D σ H w => w_exp w
    · cases h
  | .ret e => by
    intro X W s x g h
    simp only [chkT] at h
    split at h
    · exact L2.ps_imp (L2.ps_ret (sE e _ _ _ _ g.toGood h).1) fun D σ H w => w_ret w
    · cases h
  | .retn => by
    intro X W s x g h
    simp only [chkT] at h
    split at h
    · exact L2.ps_imp L2.ps_retN fun D σ H w => w_retn w
    · cases h
  | .ife e a b => by
    intro X W s x g h
    simp only [chkT] at h
    split at h
    · simp only [Bool.and_eq_true] at h
      obtain ⟨⟨⟨h1, h2⟩, h3⟩, h4⟩ := h
      exact L2.ps_imp (L2.ps_if ((sE e _ _ _ _ g.toGood h2).2.1 h1) (sB a _ _ _ _ g h3) (sB b _ _ _ _ g h4)) fun D σ H w => w_if w
    · cases h
  | .fo it tg b => by
    intro X W s x g h
    simp only [chkT] at h
    split at h
    · simp only [Bool.and_eq_true] at h
      obtain ⟨⟨⟨⟨h0, h1⟩, h2⟩, h3⟩, h4⟩ := h
      have h0 : s.hot = false := by simpa using h0
      exact L2.ps_imp (L2.ps_for g.passes (g.calm h0) (sI it g.toGood h3) (g.toGood.tg h0 h2) (sB b _ _ _ _ g h4) (folded_of h1)) fun D σ H w => w_for w
    · cases h
  | .wh e b => by
    intro X W s x g h
    simp only [chkT] at h
    split at h
    · simp only [Bool.and_eq_true] at h
      obtain ⟨⟨h1, h2⟩, h3⟩ := h
      exact L2.ps_imp (L2.ps_while g.passes ((sE e _ _ _ _ g.toGood h2).2.1 h1) (sB b _ _ _ _ g h3)) fun D σ H w => w_while w
    · cases h
  | .aug i o e => by
    intro X W s x g h
    exact absurd h (by simp [chkT])
  | .rai y => by
    intro X W s x g h
    simp only [chkT] at h
    split at h
    · rename_i n p m j p2 p3 p4
      simp only [Bool.and_eq_true] at h
      obtain ⟨⟨⟨h0, h1⟩, h2⟩, h3⟩ := h
      have h0 : s.hot = false := by simpa using h0
      cases eq : J.cls y with
      | none => rw [eq] at h3; cases h3
      | some n' =>
        rw [eq] at h3
        simp only [decide_eq_true_eq] at h3
        subst h3
        obtain ⟨C, q1, q2, q3, q4, q5⟩ := g.exc y n' eq
        exact L2.ps_imp (L2N.ps_raise (g.calm h0) g.takes (L2N.pmk_own PySem.F.excBase_ValueError q3 q1 q4 q5 (g.toGood.gl h1) (okn_of h2).1)) fun D σ H w => w_rai q2 w
    · cases h
  | .tre b i cs e => by
    intro X W s x g h
    simp only [chkT] at h
    split at h
    · rename_i body n np m v rp hp pos
      simp only [Bool.and_eq_true, decide_eq_true_eq] at h
      obtain ⟨⟨⟨⟨⟨⟨h0, h1⟩, h2⟩, h3⟩, h4⟩, h5⟩, h6⟩ := h
      have h0 : s.hot = false := by simpa using h0
      simp only [isxN, Bool.and_eq_true] at h1
      obtain ⟨h1, h7⟩ := h1
      cases el : J.isx.lookup n with
      | none => rw [el] at h7; cases h7
      | some l =>
        rw [el] at h7
        simp only [decide_eq_true_eq] at h7
        subst h7
        obtain ⟨vc, cv, q1, q2, q3, q4, q5⟩ := g.isx n l el
        have hc : L2.Names X n cv := ⟨g.toGood.gl h1, q4, q3⟩
        refine L2.ps_imp (L2N.ps_try_as (Wout := W) (tb := fun W' => denB c W' (cP G d) (cI G d) G.fu b) (ts := fun a cls dd D σ H => ∃ k C, cls = .ref C ∧ dd = none ∧ c.ca k = some C ∧ den (c.at a k) WF (cP G d) (cI G d) e σ H fun v H' => D.rt v H') (g.frm h0).1 (g.frm h0).2 g.nd (by rw [g.N]; exact h2)
          (by show X.env.scope.names.lookup m = _; rw [g.sc]; exact locB_of h3) hc g.takes (fun W' pn xe tk ps => ?_) (fun a oe cls dd pn hz hf => ?_)) fun D σ H w => w_tre (g.cx h0) h4 (fun k C hC => (q5 k C hC).2) w
        · exact sB b _ _ _ _ (g.tr h0 tk ps) h6
        · refine ⟨fun pins sh σ H D I w => ?_⟩
          obtain ⟨k, C, e1, e2, hC, w⟩ := w
          subst e1 e2
          exact (L2.pss_one (L2.ps_ret (sE e _ _ _ _ (g.suite h0 hC hz hf) h5).1)).run pins sh σ H D I w
    · cases h
  | .brk => by
    intro X W s x g h
    simp only [chkT] at h
    split at h
    · exact L2.ps_imp L2.ps_break fun D σ H w => w_brk w
    · cases h
  | .cnt => by
    intro X W s x g h
    simp only [chkT] at h
    split at h
    · exact L2.ps_imp L2.ps_continue fun D σ H w => w_cnt w
    · cases h
  | .pas => by
    intro X W s x g h
    simp only [chkT] at h
    split at h
    · exact L2.ps_imp L2.ps_pass fun D σ H w => w_pas w
    · cases h
theorem sB : ∀ (b : B) (X : L2.Cx) (W : WX) (s : Sc) (xs : List Stmt), GoodS X c J G d W s → chkB J b s xs = true → L2.PSs X xs (denB c W (cP G d) (cI G d) G.fu b)
  | .nil, X, W, s, [], g, h => pss_empty
  | .seq t b, X, W, s, x :: xs, g, h => by
    simp only [chkB, Bool.and_eq_true] at h
    exact L2.pss_imp (L2.pss_cons (sT t _ _ _ _ g h.1) (sB b _ _ _ _ g h.2)) fun D σ H w => w_seq w
  | .nil, X, W, s, _ :: _, g, h => absurd h (by simp [chkB])
  | .seq _ _, X, W, s, [], g, h => absurd h (by simp [chkB])
end
end
end Z
/-! Z14: all defs of a text keep their promises; the text's facts off the written part. -/
namespace Z
open PySem PySem.Spec PyProof.Rows
open L2 (V Hp HO upd upd_same upd_ne SqL SqT Rd VK TE TT TA TS Ends WX XK)
/-- a def of the text -/
structure DefE where
  id : Nat
  name : Str
  ps : List Str
  N : List Str
  fn : Fn
  st : Stmt
  hot : Bool := false
def scopeB (N P : List Str) (sc : Scope) : Bool :=
  (match sc.kind with | .function => true | _ => false) && !sc.isCoroutine && !sc.isGenerator && decide N.Nodup && decide (N.take P.length = P) &&
    (P.all fun x => match sc.names.lookup x with | some .local => true | some .cell => true | _ => false) && (sc.names.all fun y => match y.2 with | .free => false | _ => true)
theorem scope_of {N P : List Str} {sc : Scope} (h : scopeB N P sc = true) : L2.FnScope N P sc := by
  simp only [scopeB, Bool.and_eq_true, Bool.not_eq_true', decide_eq_true_eq, List.all_eq_true] at h
  obtain ⟨⟨⟨⟨⟨⟨h1, h2⟩, h3⟩, h4⟩, h5⟩, h6⟩, h7⟩ := h
  refine ⟨?_, h2, h3, h4, h5, fun x hx => ?_, fun y hy => ?_⟩
  · cases e : sc.kind with
    | function => rfl
    | _ => rw [e] at h1; cases h1
  · have := h6 x hx
    split at this
    · rename_i e; exact .inl e
    · rename_i e; exact .inr e
    · cases this
  · intro z
    have := h7 y hy
    rw [z] at this; cases this
/-- what of a def is looked at in the text -/
def defB (fnm hfm : Nat → Option (Str × Nat)) (cls : Nat → Option Str) (isx : List (Str × List Nat)) (con : List (Str × D)) (bln : List Str) (e : DefE) : Bool :=
  scopeB e.N e.ps (L2.defScope e.st) && Nat.beq e.fn.ar e.ps.length && Nat.beq e.fn.n e.N.length && chkB ⟨e.N, fnm, cls, con, bln, hfm, isx⟩ e.fn.body ⟨L2.defScope e.st, none, e.hot⟩ (L2.defBody e.st)
/-- where it stands -/
def Stands (K : PySem.W.Frag) (mg : Str → Option Value) (e : DefE) : Prop := ∃ a fd, mg e.name = some (.ref a) ∧ L2.Fun K e.name e.name e.st a fd ∧ ∀ us : List Value, us.length = e.ps.length → bindArgs fd ⟨us, []⟩ = pure (e.ps.zip us)
section
variable {P : Program} {w : World} {K : PySem.W.Frag} {mg : Str → Option Value} {base : Heap} {c : Cg} {G : Tab} {defs : List DefE} {fnm hfm : Nat → Option (Str × Nat)} {cls : Nat → Option Str} {isx : List (Str × List Nat)} {con : List (Str × D)} {bln : List Str}
/-- all that is asked of the text -/
structure Text (K : PySem.W.Frag) (mg : Str → Option Value) (c : Cg) (G : Tab) (defs : List DefE) (fnm hfm : Nat → Option (Str × Nat)) (cls : Nat → Option Str) (isx : List (Str × List Nat)) (con : List (Str × D)) (bln : List Str) : Prop where
  hc0 : c.hx = none
  hK : c.K = K
  st : ∀ e ∈ defs, Stands K mg e
  chk : ∀ e ∈ defs, defB fnm hfm cls isx con bln e = true
  fns : ∀ f q, fnm f = some q → ∃ e ∈ defs, e.id = f ∧ e.name = q.1 ∧ e.ps.length = q.2 ∧ e.hot = false
  hfn : ∀ f q, hfm f = some q → ∃ e ∈ defs, e.id = f ∧ e.name = q.1 ∧ e.ps.length = q.2 ∧ e.hot = true
  isx : ∀ n l, isx.lookup n = some l → ∃ v cv, L2.ClsV v cv ∧ L2.RelV v cv ∧ (mg n = some cv ∨ (mg n = none ∧ bootBuiltins n = some cv ∧ n ≠ "__name__")) ∧ (n == ("__debug__" : Str)) = false ∧ ∀ k C, c.ca k = some C → PySem.W.kitOne K (.ref C) cv = some (l.contains k) ∧ PySem.W.exmOne K (.ref C) cv = some (l.contains k)
  exs : ∀ k C, c.ca k = some C → L2.ExcC K C
  tab : ∀ e ∈ defs, G.fns e.id = some e.fn
  con : ∀ n e, con.lookup n = some e → ∃ u v, mg n = some u ∧ L2.RelV v u ∧ ∀ H m, RD c H m e v
  bln : ∀ n, bln.contains n = true → mg n = none ∧ n ≠ "__name__" ∧ (n == ("__debug__" : Str)) = false
  exc : ∀ y n, cls y = some n → ∃ C, mg n = some (.ref C) ∧ c.ca y = some C ∧ PySem.W.excIn K C PySem.HandSPX.veTail "ValueError.__new__" = true ∧ PySem.W.keepIn K (.ref C) = true ∧ PySem.W.subIn K (.ref C) (.type "BaseException") = some true ∧ PySem.W.typeIn K (.ref C) = some (.type "type")
theorem start_rel {H : Hp} {m : List Addr} {N : List Str} {ds : List D} {vs : List V} {k : Nat} (hk : k = N.length) (r : RDs c H m ds vs) : EnvOk c H m (start k ds) (L2.start N vs) := by
  have hl := r.len
  refine ⟨?_, fun i x e => ?_⟩
  · simp only [start, L2.start, List.length_append, List.length_map, List.length_replicate, hl, hk]
  · unfold start at e
    unfold L2.start
    by_cases hi : i < ds.length
    · rw [List.getElem?_append_left (by simpa using hi)] at e
      rw [List.getElem?_map] at e
      obtain ⟨y, e1, e2⟩ := Option.map_eq_some_iff.mp e
      cases e2
      obtain ⟨v, e3, e4⟩ := r.get e1
      refine ⟨v, ?_, e4⟩
      rw [List.getElem?_append_left (by simpa using (by omega : i < vs.length)), List.getElem?_map, e3]; rfl
    · rw [List.getElem?_append_right (by simpa using hi)] at e
      rw [List.getElem?_replicate] at e
      split at e <;> cases e
theorem ar_of (T : Text K mg c G defs fnm hfm cls isx con bln) {e : DefE} (he : e ∈ defs) {fn : Fn} (h : G.fns e.id = some fn) : fn.ar = e.ps.length := by
  have t := T.tab e he
  rw [h] at t
  cases t
  have hc' := T.chk e he
  simp only [defB, Bool.and_eq_true] at hc'
  exact Nat.eq_of_beq_eq_true hc'.1.1.2
/-- a def's body at its start -/
theorem run_body {e : DefE} {d : Nat} (tab : G.fns e.id = some e.fn) (ca : e.fn.ar = e.ps.length) (cn : e.fn.n = e.N.length) {vs : List V} {H : Hp} {Q : VK} {E : XK} {c' : Cg} (h : spF c' (cI G (d + 1)) e.ps.length e.id vs H Q E) :
    denB c' (fun C dd _ H => E C dd H) (cP G d) (cI G d) G.fu e.fn.body { nx := fun _ H' => Q .non H', rt := Q } (L2.start e.N vs) H := by
  obtain ⟨hl, old, mo, mn, So, ds, s0, rds, hw⟩ := h
  refine ⟨old, mo, mn, start e.fn.n ds, So, ⟨s0.o, s0.n, start_rel cn rds⟩, ?_⟩
  have e1 : cI G (d + 1) e.id ds old So = fin (exs (cP G d) (cI G d) old G.fu e.fn.body (start e.fn.n ds) So) := by
    simp only [cI, tab]
    have : Nat.beq ds.length e.fn.ar = true := by
      rw [rds.len, hl, ca]; exact Nat.beq_refl _
    rw [if_pos this]
  rw [e1] at hw
  cases eb : exs (cP G d) (cI G d) old G.fu e.fn.body (start e.fn.n ds) So with
  | nx env S' =>
    rw [eb] at hw
    exact fun mn' H' σ' x' s' => hw mn' H' .non x' s'.n rfl
  | rt dd S' =>
    rw [eb] at hw
    exact fun mn' H' v x' n' r' => hw mn' H' v x' n' r'
  | exc y env S' =>
    rw [eb] at hw
    exact fun mn' H' σ' C x' s' hC => hw mn' H' C x' s'.n hC
  | bk env S' => rw [eb] at hw; exact hw.elim
  | ct env S' => rw [eb] at hw; exact hw.elim
  | bad => rw [eb] at hw; exact hw.elim
theorem sp_zero {c' : Cg} {ar f : Nat} {vs : List V} {H : Hp} {Q : VK} {E : XK} (h : spF c' (cI G 0) ar f vs H Q E) : False := by
  obtain ⟨_, old, mo, mn, S, ds, _, _, h⟩ := h
  exact h.elim
theorem chk_of (T : Text K mg c G defs fnm hfm cls isx con bln) {e : DefE} (he : e ∈ defs) : L2.FnScope e.N e.ps (L2.defScope e.st) ∧ e.fn.ar = e.ps.length ∧ e.fn.n = e.N.length ∧ chkB ⟨e.N, fnm, cls, con, bln, hfm, isx⟩ e.fn.body ⟨L2.defScope e.st, none, e.hot⟩ (L2.defBody e.st) = true := by
  have hc := T.chk e he
  simp only [defB, Bool.and_eq_true] at hc
  obtain ⟨⟨⟨c1, c2⟩, c3⟩, c4⟩ := hc
  exact ⟨scope_of c1, Nat.eq_of_beq_eq_true c2, Nat.eq_of_beq_eq_true c3, c4⟩
/-- THE RULE, where a refusal is handled -/
theorem all_hot (T : Text K mg c G defs fnm hfm cls isx con bln) : ∀ (d : Nat) (e : DefE), e ∈ defs → e.hot = true → ∃ a fd, mg e.name = some (.ref a) ∧ PySem.W.keepIn K (.ref a) = true ∧ (∀ us : List Value, us.length = e.ps.length → bindArgs fd ⟨us, []⟩ = pure (e.ps.zip us)) ∧
    ∀ (base : Heap) (p1 : Addr) (k : Nat) (C : Addr), c.ca k = some C → FnX P w K mg base (L2N.CX P w) (fun p => p.1 = p1 ∧ L2.Zc (.ref C) none p.2) d a fd e.ps (spF (c.at p1 k) (cI G d) e.ps.length e.id)
  | 0, e, he, _ => by
    obtain ⟨a, fd, h1, h2, h3⟩ := T.st e he
    refine ⟨a, fd, h1, h2.kp, h3, fun base p1 k C hC => ⟨fun vs H Q E h => h.1, fun p Ar out s H gs us vs Q E _ _ _ _ _ _ _ h => (sp_zero h).elim⟩⟩
  | d + 1, e, he, hh => by
    obtain ⟨a, fd, h1, h2, h3⟩ := T.st e he
    obtain ⟨S, c2, c3, c4⟩ := chk_of T he
    rw [hh] at c4
    refine ⟨a, fd, h1, h2.kp, h3, fun base p1 k C hC => okX_of h2 S (fun vs H Q E h => h.1) fun cdv p Ar out s H vs Q E ok hot hr hsp => ?_⟩
    obtain ⟨rfl, hz⟩ := ok
    refine ⟨denB (c.at p.1 k) (fun C dd _ H => E C dd H) (cP G d) (cI G d) G.fu e.fn.body, ?_, run_body (T.tab e he) c2 c3 hsp⟩
    refine sB e.fn.body _ _ _ _ (J := ⟨e.N, fnm, cls, con, bln, hfm, isx⟩) ?_ c4
    have hot2 : ∃ vs, p.2.data = .fields vs := by
      obtain ⟨_, vs, hv, _⟩ := hot
      exact ⟨vs, hv⟩
    have hcon : ∀ n e, con.lookup n = some e → ∃ u v, mg n = some u ∧ L2.RelV v u ∧ ∀ H m, RD (c.at p.1 k) H m e v := fun n e h => by
      obtain ⟨u, v, h1, h2, h3⟩ := T.con n e h
      exact ⟨u, v, h1, h2, fun H m => RD.hot T.hc0 _ _ (h3 H m)⟩
    refine { K := T.hK.symm, calm := fun z => (by cases z), N := rfl, nd := S.nd, sc := rfl, kind := S.kind, cel := fun n _ => .inl rfl, room := hr, rhd := fun z => (by cases z), cx := fun z => (by cases z), takes := L2N.takes_of rfl rfl rfl rfl, bln := fun n h => (T.bln n h).1, fns := fun f q z => (by cases z), hfn := fun f q hq => ?_, isx := T.isx, hx := fun _ => ⟨p, C, k, rfl, hC, T.exs k C hC, hz, hot2, hot, List.mem_cons_self⟩, con := hcon, bb := fun n h => (T.bln n h).2, passes := L2.passes_of rfl, fn := fun _ => rfl, raw := rfl, exs := T.exs, frm := fun z => (by cases z), exc := fun y n hy => ?_ }
    · obtain ⟨e', he', i1, i2, i3, i4⟩ := T.hfn f q hq
      refine ⟨?_, fun fn hfn => by rw [← i3]; exact ar_of T he' (i1 ▸ hfn)⟩
      obtain ⟨a', fd', j1, j2, j3, j4⟩ := all_hot T d e' he' i4
      rw [i2] at j1
      rw [i3, i1] at j4
      exact ⟨a', fd', e'.ps, j1, j2, .all j3, j4 base⟩
    · obtain ⟨C, q1, q2, q3, q4, q5, q6⟩ := T.exc y n hy
      exact ⟨C, q1, q2, q3, q4, L2.raises_own q5 q6⟩
/-- THE RULE -/
theorem all_ok (T : Text K mg c G defs fnm hfm cls isx con bln) : ∀ (d : Nat) (e : DefE), e ∈ defs → e.hot = false → ∃ a fd, mg e.name = some (.ref a) ∧ PySem.W.keepIn K (.ref a) = true ∧ (∀ us : List Value, us.length = e.ps.length → bindArgs fd ⟨us, []⟩ = pure (e.ps.zip us)) ∧ ∀ base : Heap, L2.FnOk P w K mg base (L2N.CX P w) d a fd e.ps (spF c (cI G d) e.ps.length e.id)
  | 0, e, he, _ => by
    obtain ⟨a, fd, h1, h2, h3⟩ := T.st e he
    refine ⟨a, fd, h1, h2.kp, h3, fun base => ⟨fun vs H Q E (h : spF c (cI G 0) e.ps.length e.id vs H Q E) => h.1, fun A outer s H args us vs Q E _ _ _ _ h => (sp_zero h).elim⟩⟩
  | d + 1, e, he, hh => by
    obtain ⟨a, fd, h1, h2, h3⟩ := T.st e he
    obtain ⟨S, c2, c3, c4⟩ := chk_of T he
    rw [hh] at c4
    refine ⟨a, fd, h1, h2.kp, h3, fun base => okN_of h2 S (fun vs H Q E h => h.1) fun cdv A outer s H vs Q E hr hsp => ?_⟩
    refine ⟨denB c (fun C dd _ H => E C dd H) (cP G d) (cI G d) G.fu e.fn.body, ?_, run_body (T.tab e he) c2 c3 hsp⟩
    refine sB e.fn.body _ _ _ _ (J := ⟨e.N, fnm, cls, con, bln, hfm, isx⟩) ?_ c4
    refine { K := T.hK.symm, calm := fun _ => rfl, N := rfl, nd := S.nd, sc := rfl, kind := S.kind, cel := fun n _ => .inl rfl, room := ⟨hr.dp, hr.un⟩, rhd := fun _ => hr.hd, cx := fun _ => T.hc0, takes := L2N.takes_of rfl rfl rfl rfl, bln := fun n h => (T.bln n h).1, fns := fun f q _ hq => ?_, hfn := fun f q hq => ?_, isx := T.isx, hx := fun z => (by cases z), con := T.con, bb := fun n h => (T.bln n h).2, passes := L2.passes_of rfl, fn := fun _ => rfl, raw := rfl, exs := T.exs, frm := fun _ => ⟨rfl, rfl⟩, exc := fun y n hy => ?_ }
    · obtain ⟨e', he', i1, i2, i3, i4⟩ := T.fns f q hq
      refine ⟨?_, fun fn hfn => by rw [← i3]; exact ar_of T he' (i1 ▸ hfn)⟩
      obtain ⟨a', fd', j1, j2, j3, j4⟩ := all_ok T d e' he' i4
      rw [i2] at j1
      rw [i3, i1] at j4
      exact ⟨a', fd', e'.ps, j1, j2, .all j3, j4 base⟩
    · obtain ⟨e', he', i1, i2, i3, i4⟩ := T.hfn f q hq
      refine ⟨?_, fun fn hfn => by rw [← i3]; exact ar_of T he' (i1 ▸ hfn)⟩
      obtain ⟨a', fd', j1, j2, j3, j4⟩ := all_hot (P := P) (w := w) T d e' he' i4
      rw [i2] at j1
      rw [i3, i1] at j4
      exact ⟨a', fd', e'.ps, j1, j2, .all j3, j4 base⟩
    · obtain ⟨C, q1, q2, q3, q4, q5, q6⟩ := T.exc y n hy
      exact ⟨C, q1, q2, q3, q4, L2.raises_own q5 q6⟩
end
end Z
/-! Z15: a text's facts off the written part; the end. -/
namespace Z
open PySem PySem.Spec PyProof.Rows
open L2 (V Hp HO upd upd_same upd_ne SqL SqT Rd VK TE TT TA TS Ends WX XK)
theorem lk_zip : ∀ {ps : List Str} {us : List Value}, ps.Nodup → us.length = ps.length → ∀ (n : Str), n ∈ ps → ((ps.zip us).lookup n).isSome = true := by
  intro ps
  induction ps with
  | nil => intro us _ _ n h; cases h
  | cons p ps ih =>
    intro us nd hl n h
    cases us with
    | nil => cases hl
    | cons u us =>
      rw [List.zip_cons_cons, List.lookup_cons]
      cases e : n == p with
      | true => rfl
      | false =>
        rcases List.mem_cons.mp h with h | h
        · subst h; rw [beq_self_eq_true] at e; cases e
        · exact ih (List.nodup_cons.mp nd).2 (by simpa using hl) n h
theorem fm_zip : ∀ {ps : List Str} {us : List Value}, ps.Nodup → us.length = ps.length → ∀ {L : List (Str × Value)}, (∀ n ∈ ps, L.lookup n = (ps.zip us).lookup n) → (ps.filterMap fun n => (L.lookup n).map fun v => (n, v)) = ps.zip us := by
  intro ps
  induction ps with
  | nil => intro us _ hl L _; rfl
  | cons p ps ih =>
    intro us nd hl L hL
    cases us with
    | nil => cases hl
    | cons u us =>
      have h1 := hL p (.head _)
      rw [List.zip_cons_cons, List.lookup_cons, beq_self_eq_true] at h1
      rw [List.filterMap_cons, h1]
      simp only [Option.map_some, List.zip_cons_cons]
      rw [ih (List.nodup_cons.mp nd).2 (by simpa using hl) (L := L)]
      intro n hn
      rw [hL n (.tail _ hn), List.zip_cons_cons, List.lookup_cons]
      have : (n == p) = false := by
        apply beq_eq_false_iff_ne.mpr
        intro e; subst e
        exact (List.nodup_cons.mp nd).1 hn
      rw [this]
theorem mem_lk {x : Str} {v : Value} : ∀ {L : List (Str × Value)}, L.lookup x = some v → (x, v) ∈ L := by
  intro L
  induction L with
  | nil => intro h; cases h
  | cons p L ih =>
    intro h
    obtain ⟨y, w⟩ := p
    rw [List.lookup_cons] at h
    cases e : x == y with
    | true =>
      rw [e] at h
      cases h
      rw [beq_iff_eq] at e
      subst e
      exact .head _
    | false =>
      rw [e] at h
      exact .tail _ (ih h)
def argB (a : Arguments) (ps : List Str) : Bool := a.posonlyargs.isEmpty && decide (a.args.map (·.arg) = ps) && a.vararg.isNone && a.kwonlyargs.isEmpty && a.kwarg.isNone && decide ps.Nodup
theorem bind_of {a : Arguments} {ps : List Str} (h : argB a ps = true) {fd : FuncData} (e1 : fd.params = a) (e2 : fd.defaults = .none) {us : List Value} (hl : us.length = ps.length) : bindArgs fd ⟨us, []⟩ = pure (ps.zip us) := by
  simp only [argB, Bool.and_eq_true, decide_eq_true_eq, List.isEmpty_iff, Option.isNone_iff_eq_none] at h
  obtain ⟨⟨⟨⟨⟨h1, h2⟩, h3⟩, h4⟩, h5⟩, nd⟩ := h
  have hm : (ps.take ps.length).filter (fun n => ((ps.zip us).lookup n).isNone) = [] := by
    rw [List.filter_eq_nil_iff]
    intro n hn
    have := lk_zip nd hl n (List.mem_of_mem_take hn)
    cases e : (ps.zip us).lookup n with
    | none => rw [e] at this; cases this
    | some v => intro z; cases z
  have hf := fm_zip nd hl (L := ps.zip us) (fun _ _ => rfl)
  have hq : seqItems? Value.none = pure none := rfl
  have hg : ¬ (us.length > ps.length) := by omega
  unfold bindArgs
  rw [e1, e2, hq]
  simp only [h1, h2, h3, h4, h5, List.map_nil, List.nil_append, List.append_nil, pure_bind, Option.getD_none, List.drop_nil, List.length_nil, Nat.sub_zero, hm, hf, List.isEmpty_nil, Bool.not_true]
  simp [hl, hm, hf]
  intro x hx hn
  exfalso
  have := lk_zip nd hl x hx
  cases e : (ps.zip us).lookup x with
  | none => rw [e] at this; cases this
  | some v => exact hn v (mem_lk e)

/-- a constant of the text, off the written part -/
def prim : D → Value → Option V
  | .non, .none => some .non
  | .bl b, .bool k => if b = k then some (.bl b) else none
  | .int i, .int k _ => if i = k then some (.int i) else none
  | .str x, .str k _ => if x = k then some (.str x) else none
  | _, _ => none
mutual
def conV (K : PySem.W.Frag) : D → Value → Option V
  | .tup ds, u => match u with
    | .ref a => match K.lookup a with
      | some o => match o.data with
        | .seq its _ => match conVs K ds its.toList with
          | some _ => if o.cls = .type "tuple" ∧ its.size ≤ sizeLine then some (.ref a) else none
          | none => none
        | _ => none
      | none => none
    | _ => none
  | .non, u => prim .non u
  | .bl b, u => prim (.bl b) u
  | .int i, u => prim (.int i) u
  | .str x, u => prim (.str x) u
  | _, _ => none
def conVs (K : PySem.W.Frag) : List D → List Value → Option (List V)
  | [], [] => some []
  | d :: ds, u :: us => match conV K d u with
    | none => none
    | some v => match conVs K ds us with
      | none => none
      | some vs => some (v :: vs)
  | _, _ => none
end
theorem prim_ok {c : Cg} {H : Hp} {m : List Addr} {d : D} {u : Value} {v : V} (h : prim d u = some v) : L2.RelV v u ∧ RD c H m d v := by
  unfold prim at h
  split at h
  · cases h; exact ⟨rfl, rfl⟩
  · split at h
    · rename_i e; cases h; subst e; exact ⟨rfl, rfl⟩
    · cases h
  · split at h
    · rename_i e; cases h; subst e; exact ⟨⟨_, rfl⟩, rfl⟩
    · cases h
  · split at h
    · rename_i e; cases h; subst e; exact ⟨⟨_, rfl⟩, rfl⟩
    · cases h
  · cases h
mutual
theorem conV_ok {c : Cg} {H : Hp} {m : List Addr} : ∀ (d : D) (u : Value) (v : V), conV c.K d u = some v → L2.RelV v u ∧ RD c H m d v
  | .tup ds, u, v, h => by
    simp only [conV] at h
    split at h
    · split at h
      · rename_i o hk
        split at h
        · rename_i its ep hd
          split at h
          · rename_i vs hs
            split at h
            · rename_i hc
              cases h
              obtain ⟨h1, h2⟩ := conVs_ok (H := H) (m := m) _ _ _ hs
              exact ⟨rfl, _, _, rfl, .inr ⟨_, _, _, hk, hc.1, hd, hc.2, h1⟩, h2⟩
            · cases h
          · cases h
        · cases h
      · cases h
    · cases h
  | .non, u, v, h => prim_ok (by simpa [conV] using h)
  | .bl _, u, v, h => prim_ok (by simpa [conV] using h)
  | .int _, u, v, h => prim_ok (by simpa [conV] using h)
  | .str _, u, v, h => prim_ok (by simpa [conV] using h)
  | .lst _, u, v, h => by simp [conV] at h
  | .tmp _, u, v, h => by simp [conV] at h
  | .fn _, u, v, h => by simp [conV] at h
  | .exc _, u, v, h => by simp [conV] at h
theorem conVs_ok {c : Cg} {H : Hp} {m : List Addr} : ∀ (ds : List D) (us : List Value) (vs : List V), conVs c.K ds us = some vs → L2.Vals vs us ∧ RDs c H m ds vs
  | [], us, vs, h => by
    cases us with
    | nil => simp only [conVs] at h; cases h; exact ⟨.nil, rfl⟩
    | cons u us => simp [conVs] at h
  | d :: ds, us, vs, h => by
    cases us with
    | nil => simp [conVs] at h
    | cons u us =>
      simp only [conVs] at h
      split at h
      · cases h
      · rename_i v1 e1
        split at h
        · cases h
        · rename_i vs1 e2
          cases h
          obtain ⟨a1, a2⟩ := conV_ok (H := H) (m := m) d u v1 e1
          obtain ⟨b1, b2⟩ := conVs_ok (H := H) (m := m) ds us vs1 e2
          exact ⟨.cons a1 b1, _, _, rfl, a2, b2⟩
end
/-! ### the text as data, and its looks off the written part -/
structure Txt where
  defs : List DefE
  cls : List (Nat × Str)
  con : List (Str × D)
  bln : List Str
  isx : List (Str × List Nat) := []
def Txt.get (t : Txt) (f : Nat) : Option DefE := t.defs.find? fun e => Nat.beq e.id f
def Txt.fnmB (t : Txt) (b : Bool) (f : Nat) : Option (Str × Nat) := match t.get f with
  | some e => if (e.hot == b) = true then some (e.name, e.ps.length) else none
  | none => none
abbrev Txt.fnm (t : Txt) := t.fnmB false
abbrev Txt.hfm (t : Txt) := t.fnmB true
def Txt.tab (t : Txt) (fu : Nat) : Tab := ⟨fun f => (t.get f).map (·.fn), fu⟩
def Txt.clsN (t : Txt) (y : Nat) : Option Str := (t.cls.find? fun q => Nat.beq q.1 y).map (·.2)
/-- closed: the text is what its own language says -/
def Txt.okB (t : Txt) : Bool := t.defs.all (fun e => defB t.fnm t.hfm t.clsN t.isx t.con t.bln e && argB (L2.defArgs e.st) e.ps) && decide (t.defs.map (·.id)).Nodup && t.bln.all fun n => !decide (n = "__name__") && !(n == ("__debug__" : Str))
def at1 (K : PySem.W.Frag) (n : Str) : Option Value := match PySem.W.nsIn K mainGlobals n with
  | some (some u) => some u
  | _ => none
abbrev Probe := Str × Str × Arguments × FuncBody × Scope × Addr × List (Str × Addr) × Value × Addr × Bool × Bool
def probe (K : PySem.W.Frag) (n : Str) : Option Probe := match at1 K n with
  | some (.ref a) => match K.lookup a with
    | some ⟨_, _, .func fd, _⟩ => some (fd.name, fd.qualname, fd.params, fd.body, fd.scope, fd.globals, fd.closure, fd.defaults, fd.builtins, PySem.W.codeIn K fd.code n, PySem.W.keepIn K (.ref a))
    | _ => none
  | _ => none
def wantP (e : DefE) : Option Probe := some (e.name, e.name, L2.defArgs e.st, .stmts (L2.defBody e.st), L2.defScope e.st, mainGlobals, [], .none, builtinsNs, true, true)
def absentB (K : PySem.W.Frag) (n : Str) : Bool := match PySem.W.nsIn K mainGlobals n with
  | some none => true
  | _ => false
def conB (K : PySem.W.Frag) (q : Str × D) : Bool := match at1 K q.1 with
  | some u => (conV K q.2 u).isSome
  | none => false
def clsB (K : PySem.W.Frag) (n : Str) : Bool := match at1 K n with
  | some (.ref C) => PySem.W.excIn K C PySem.HandSPX.veTail "ValueError.__new__" && PySem.W.keepIn K (.ref C) && (match PySem.W.subIn K (.ref C) (.type "BaseException") with | some b => b | none => false) && (match PySem.W.typeIn K (.ref C) with | some (.type t) => t == "type" | _ => false)
  | _ => false
/-- what isinstance asks of a class of refusals -/
def excCB (K : PySem.W.Frag) (D : Addr) : Bool :=
  (PySem.W.findIn K (.ref D) "__getattribute__" == some (some (.builtin "BaseException.__getattribute__"))) && (PySem.W.findIn K (.ref D) "__getattr__" == some none) && (PySem.W.subIn K (.ref D) (.type "BaseException") == some true) && PySem.W.hasDictIn K D &&
  (PySem.W.findIn K (.ref D) "__class__" == some (some (.builtin "object.__class__"))) && (PySem.W.specialIn K (.builtin "object.__class__") "__get__" == some (some (.builtin "getset_descriptor.__get__"))) && (PySem.W.takesIn K (.builtin "object.__class__") == some true) && (PySem.W.mroIn K D (.type "object") == some true)
theorem excC_of {K : PySem.W.Frag} {D : Addr} (h : excCB K D = true) : L2.ExcC K D := by
  simp only [excCB, Bool.and_eq_true, beq_iff_eq] at h
  obtain ⟨⟨⟨⟨⟨⟨⟨h1, h2⟩, h3⟩, h4⟩, h5⟩, h6⟩, h7⟩, h8⟩ := h
  exact ⟨h1, h2, h3, h4, h5, h6, h7, h8⟩
def clsA (K : PySem.W.Frag) (n : Str) : Option Addr := match at1 K n with
  | some (.ref C) => some C
  | _ => none
/-- a class that isinstance, or an except clause, names -/
def isxV (K : PySem.W.Frag) (n : Str) : Option Value := match at1 K n with
  | some (.ref C) => some (.ref C)
  | some _ => none
  | none => if (absentB K n && !decide (n = "__name__")) = true then (match bootBuiltins n with
    | some (.type m) => some (.type m)
    | _ => none) else none
def isxB (K : PySem.W.Frag) (cls : List (Nat × Str)) (q : Str × List Nat) : Bool := !(q.1 == ("__debug__" : Str)) && match isxV K q.1 with
  | some cv => cls.all fun y => match clsA K y.2 with
    | some C => (PySem.W.kitOne K (.ref C) cv == some (q.2.contains y.1)) && (PySem.W.exmOne K (.ref C) cv == some (q.2.contains y.1))
    | none => true
  | none => false
structure Seen (K : PySem.W.Frag) (t : Txt) : Prop where
  fns : (t.defs.map fun e => probe K e.name) = t.defs.map wantP
  abs : (t.bln.all fun n => absentB K n) = true
  con : (t.con.all fun q => conB K q) = true
  cls : (t.cls.all fun q => clsB K q.2) = true
  isx : (t.isx.all (fun q => isxB K t.cls q) && t.cls.all fun q => match clsA K q.2 with | some C => excCB K C | none => true) = true
def cg (K : PySem.W.Frag) (t : Txt) : Cg := { K := K, fa := fun _ => none, ca := fun y => match t.clsN y with
  | some n => clsA K n
  | none => none }
theorem at1_of {K : PySem.W.Frag} {h : Heap} {mg : Str → Option Value} {n : Str} {v : Value} (X : K.In h) (G : h.Ns mainGlobals mg) (e : at1 K n = some v) : mg n = some v := by
  unfold at1 at e
  split at e
  · rename_i e2; cases e; exact PySem.W.mg_of X G e2
  · cases e
theorem map_at {α β : Type} {f g : α → β} : ∀ {l : List α}, l.map f = l.map g → ∀ a ∈ l, f a = g a
  | [], _, a, h => by cases h
  | x :: l, e, a, h => by
    rw [List.map_cons, List.map_cons] at e
    injection e with e1 e2
    rcases List.mem_cons.mp h with h | h
    · subst h; exact e1
    · exact map_at e2 a h
theorem stands_of {K : PySem.W.Frag} {h : Heap} {mg : Str → Option Value} (X : K.In h) (G : h.Ns mainGlobals mg) {e : DefE} (p : probe K e.name = wantP e) (ha : argB (L2.defArgs e.st) e.ps = true) : Stands K mg e := by
  unfold probe at p
  split at p
  · rename_i a e1
    split at p
    · rename_i oc od fd osl e2
      unfold wantP at p
      injection p with p
      obtain ⟨nm, ql, pr, bd, sc, gl, cl, df, kd, dc, pm, an, cd, ct, bu⟩ := fd
      simp only [Prod.mk.injEq] at p
      obtain ⟨p1, p2, p3, p4, p5, p6, p7, p8, p9, p10, p11⟩ := p
      subst p1 p3 p4 p5 p6 p7 p8 p9
      have hf : L2.Fun K e.name e.name e.st a _ := ⟨⟨_, _, _, _, _, _, _, _, _, rfl, by rw [e2, p2], p10⟩, p11⟩
      exact ⟨a, _, at1_of X G e1, hf, fun us hl => bind_of ha rfl rfl hl⟩
    · cases p
  · cases p
theorem find_nd {α : Type} {f : α → Nat} : ∀ {l : List α}, (l.map f).Nodup → ∀ a ∈ l, l.find? (fun e => Nat.beq (f e) (f a)) = some a
  | [], _, a, h => by cases h
  | x :: l, nd, a, h => by
    rw [List.find?_cons]
    rw [List.map_cons, List.nodup_cons] at nd
    rcases List.mem_cons.mp h with h | h
    · subst h
      rw [Nat.beq_refl]
    · have : Nat.beq (f x) (f a) = false := by
        cases e : Nat.beq (f x) (f a) with
        | false => rfl
        | true => exact absurd (List.mem_map.mpr ⟨a, h, (Nat.eq_of_beq_eq_true e).symm⟩) nd.1
      rw [this]
      exact find_nd nd.2 a h
theorem fnmB_of {t : Txt} {b : Bool} {f : Nat} {q : Str × Nat} (h : t.fnmB b f = some q) : ∃ e ∈ t.defs, e.id = f ∧ e.name = q.1 ∧ e.ps.length = q.2 ∧ e.hot = b := by
  unfold Txt.fnmB at h
  split at h
  · rename_i e h1
    split at h
    · rename_i h2
      cases h
      exact ⟨e, List.mem_of_find?_eq_some h1, Nat.eq_of_beq_eq_true (List.find?_some (p := fun e : DefE => Nat.beq e.id f) h1), rfl, rfl, by simpa using h2⟩
    · cases h
  · cases h
theorem lk_mem {α : Type} {n : Str} {d : α} : ∀ {L : List (Str × α)}, L.lookup n = some d → (n, d) ∈ L := by
  intro L
  induction L with
  | nil => intro hd; cases hd
  | cons p L ih =>
    intro hd
    obtain ⟨y, w⟩ := p
    rw [List.lookup_cons] at hd
    cases e : n == y with
    | true =>
      rw [e] at hd
      cases hd
      rw [beq_iff_eq] at e
      subst e
      exact .head _
    | false =>
      rw [e] at hd
      exact .tail _ (ih hd)
theorem text_of {K : PySem.W.Frag} {h : Heap} {mg : Str → Option Value} {t : Txt} (fu : Nat) (X : K.In h) (G : h.Ns mainGlobals mg) (o : t.okB = true) (S : Seen K t) : Text K mg (cg K t) (t.tab fu) t.defs t.fnm t.hfm t.clsN t.isx t.con t.bln := by
  simp only [Txt.okB, Bool.and_eq_true, List.all_eq_true, decide_eq_true_eq, Bool.not_eq_true', decide_eq_false_iff_not] at o
  obtain ⟨⟨o1, o2⟩, o3⟩ := o
  refine { hc0 := rfl, hK := rfl, st := fun e he => stands_of X G (map_at S.fns e he) (o1 e he).2, chk := fun e he => (o1 e he).1, fns := fun f q hq => ?_, hfn := fun f q hq => ?_, isx := fun n l hl => ?_, exs := fun k C hC => ?_, tab := fun e he => ?_, con := fun n d hd => ?_, bln := fun n hn => ?_, exc := fun y n hy => ?_ }
  · exact fnmB_of hq
  · exact fnmB_of hq
  · have hm := lk_mem hl
    have hb := S.isx
    rw [Bool.and_eq_true] at hb
    have hb := List.all_eq_true.mp hb.1 _ hm
    unfold isxB at hb
    rw [Bool.and_eq_true, Bool.not_eq_true'] at hb
    obtain ⟨hd, hb⟩ := hb
    split at hb
    · rename_i cv ev
      have hk : ∀ k C, (cg K t).ca k = some C → PySem.W.kitOne K (.ref C) cv = some (l.contains k) ∧ PySem.W.exmOne K (.ref C) cv = some (l.contains k) := by
        intro k C hC
        simp only [cg] at hC
        split at hC
        · rename_i m hm2
          obtain ⟨q, g1, g2⟩ := Option.map_eq_some_iff.mp hm2
          have hq := List.all_eq_true.mp hb q (List.mem_of_find?_eq_some g1)
          have hi : q.1 = k := Nat.eq_of_beq_eq_true (List.find?_some (p := fun q : Nat × Str => Nat.beq q.1 k) g1)
          rw [g2, hC, hi] at hq
          simpa [Bool.and_eq_true] using hq
        · cases hC
      unfold isxV at ev
      split at ev
      · rename_i C e1
        cases ev
        exact ⟨.ref C, .ref C, .own C, rfl, .inl (at1_of X G e1), hd, hk⟩
      · cases ev
      · rename_i e1
        split at ev
        · rename_i e2
          rw [Bool.and_eq_true, Bool.not_eq_true', decide_eq_false_iff_not] at e2
          split at ev
          · rename_i m e3
            cases ev
            refine ⟨.ty m, .type m, .ty m, rfl, .inr ⟨?_, e3, e2.2⟩, hd, hk⟩
            have ha := e2.1
            unfold absentB at ha
            split at ha
            · rename_i e; exact PySem.W.mg_none_of X G e
            · cases ha
          · cases ev
        · cases ev
    · cases hb
  · have hb := S.isx
    simp only [cg] at hC
    split at hC
    · rename_i m hm2
      obtain ⟨q, g1, g2⟩ := Option.map_eq_some_iff.mp hm2
      rw [Bool.and_eq_true] at hb
      have hq := List.all_eq_true.mp hb.2 q (List.mem_of_find?_eq_some g1)
      rw [g2, hC] at hq
      exact excC_of hq
    · cases hC
  · show (t.get e.id).map (·.fn) = _
    unfold Txt.get
    rw [find_nd o2 e he]; rfl
  · have hm : (n, d) ∈ t.con := by
      clear o1 o3
      generalize t.con = L at hd
      induction L with
      | nil => cases hd
      | cons p L ih =>
        obtain ⟨y, w⟩ := p
        rw [List.lookup_cons] at hd
        cases e : n == y with
        | true =>
          rw [e] at hd
          cases hd
          rw [beq_iff_eq] at e
          subst e
          exact .head _
        | false =>
          rw [e] at hd
          exact .tail _ (ih hd)
    have hb := List.all_eq_true.mp S.con _ hm
    unfold conB at hb
    split at hb
    · rename_i u e1
      obtain ⟨v, hv⟩ := Option.isSome_iff_exists.mp hb
      refine ⟨u, v, at1_of X G e1, (conV_ok (c := cg K t) (H := fun _ => none) (m := []) d u v hv).1, fun H m => (conV_ok (c := cg K t) d u v hv).2⟩
    · cases hb
  · have hm : n ∈ t.bln := List.contains_iff_mem.mp hn
    have ha := List.all_eq_true.mp S.abs n hm
    refine ⟨?_, o3 n hm⟩
    unfold absentB at ha
    split at ha
    · rename_i e; exact PySem.W.mg_none_of X G e
    · cases ha
  · obtain ⟨q, h1, h2⟩ := Option.map_eq_some_iff.mp hy
    have hb := List.all_eq_true.mp S.cls q (List.mem_of_find?_eq_some h1)
    rw [h2] at hb
    unfold clsB at hb
    split at hb
    · rename_i C e1
      simp only [Bool.and_eq_true] at hb
      obtain ⟨⟨⟨b1, b2⟩, b3⟩, b4⟩ := hb
      refine ⟨C, at1_of X G e1, ?_, b1, b2, ?_, ?_⟩
      · simp only [cg, hy, clsA, e1]
      · split at b3
        · rename_i b e; rw [e, b3]
        · cases b3
      · split at b4
        · rename_i b e
          rw [e, beq_iff_eq.mp b4]
        · cases b4
    · cases hb
theorem fin_of {P : Program} {w : World} {K : PySem.W.Frag} {h : Heap} {mg : Str → Option Value} {fa : Addr} {t : Txt} {e : DefE} {x : Str} (fu d : Nat) (X : K.In h) (G : h.Ns mainGlobals mg) (hmg : mg e.name = some (.ref fa)) (o : t.okB = true) (S : Seen K t) (he : e ∈ t.defs) (hh : e.hot = false) (hx : e.ps = [x]) :
    ∃ fd : FuncData, (∀ (s : Shared) (u : Value), BindsTo s fd ⟨[u], []⟩ [(x, u)]) ∧ ∀ base : Heap, K.In base → base.Ns mainGlobals mg → L2.FnOk P w K mg base (L2N.CX P w) d fa fd [x] (spF (cg K t) (cI (t.tab fu) d) 1 e.id) := by
  obtain ⟨a, fd, h1, h2, h3, h4⟩ := all_ok (P := P) (w := w) (text_of fu X G o S) d e he hh
  rw [hmg] at h1
  cases h1
  rw [hx] at h3 h4
  exact ⟨fd, fun s u => .of_eq (h3 [u] rfl), fun base _ _ => h4 base⟩
/-! ### the end -/
theorem rd_ints {c : Cg} {H : Hp} {m : List Addr} : ∀ ns : List Int, RDs c H m (ns.map D.int) (ns.map V.int)
  | [] => rfl
  | n :: ns => ⟨_, _, rfl, rfl, rd_ints ns⟩
/-- the given list, as a store -/
def given (ns : List Int) : Sto := [.ro (ns.map D.int)]
theorem sp_of {K : PySem.W.Frag} {t : Txt} {fu d f : Nat} {H : Hp} {a : Addr} {ns : List Int} (hO : L2.Only H) (hS : SqL K H a (ns.map V.int)) {S' : Sto} (hr : cI (t.tab fu) d f [.lst 0] (given ns) [] = .ok (.bl true) S') :
    spF (cg K t) (cI (t.tab fu) d) 1 f [.ref a] H (fun v _ => v = .bl true) fun _ _ _ => False := by
  refine ⟨rfl, given ns, [a], [], [], [.lst 0], ⟨⟨rfl, fun i b hb => ?_⟩, ⟨.nil, rfl, fun i b hb => by cases hb⟩⟩, ⟨_, _, rfl, ⟨a, rfl, rfl⟩, rfl⟩, ?_⟩
  · cases i with
    | succ i => simp at hb
    | zero =>
      simp at hb
      subst hb
      refine .inr ⟨_, _, rfl, ?_, rd_ints ns⟩
      rcases hS with (h | ⟨o, h⟩) | h
      · rcases hO a with z | ⟨o, xs, z⟩
        · rw [z] at h; cases h
        · rw [z] at h; cases h
      · exact .inl ⟨o, h⟩
      · exact .inr h
  · rw [hr]
    exact fun mn' H' v x n' r => r
/-- THE WALK of a law -/
theorem walk {l : PySem.W.OpenLaw} {q : Program} {loose : List Str} {XP : (Str → Option Value) → Heap → Prop} {YP : World → Heap → Prop} {d : DefRec} {K : Params → PySem.W.Frag} {t : Txt} {e : DefE} (fu k : Nat)
    (hn : l.most = some 63) (hdf : d.params.defaults = []) (hr : L2.Room k callerA) (hY : ∀ (w : World) (h : Heap), YP w h → (K w.params).In h) (o : t.okB = true) (S : ∀ w : World, Seen (K w.params) t) (he : e ∈ t.defs) (hh : e.hot = false) (hx : e.ps = [("_law_script" : Str)]) (hd : e.name = d.name)
    (hlaw : ∀ ns : List Int, ns.length ≤ 63 → ∃ S', cI (t.tab fu) k e.id [.lst 0] (given ns) [] = .ok (.bl true) S') :
    PySem.W.WalkO q loose XP YP l.row.toRowW d [] (fun f vs => PySem.call f vs) :=
  L2.walk_of (n := 63) (k := k) (x := "_law_script") (CX := fun w => L2N.CX l.prog w) (sp := fun w => spF (cg (K w.params) t) (cI (t.tab fu) k) 1 e.id) hn (by decide) hdf hr hY
    (fun w mg fa h X G hmg => fin_of fu k X G (by rw [hd]; exact hmg) o (S w) he hh hx)
    (fun w H a ns hl hO hS => by obtain ⟨S', e⟩ := hlaw ns hl; exact sp_of hO hS e)
    (fun w H s e s' h => by obtain ⟨_, _, _, _, _, _, _, _, _, _, _, _, z⟩ := h; exact z)
end Z
/-! A1: the fields of 2, 3, 4, 5 numbers. -/
namespace A
inductive Q4 where | q2 | q3 | q4 | q5
def Q4.n : Q4 → Nat
  | .q2 => 2 | .q3 => 3 | .q4 => 4 | .q5 => 5
def F (k : Q4) : Type := Fin k.n
instance (k : Q4) : DecidableEq (F k) := inferInstanceAs (DecidableEq (Fin k.n))
instance (k : Q4) (p : F k → Prop) [h : DecidablePred p] : Decidable (∀ a, p a) := @Nat.decidableForallFin k.n p h
theorem Q4.pos (k : Q4) : 0 < k.n := by cases k <;> decide
def mk (k : Q4) (n : Nat) : F k := ⟨n % k.n, Nat.mod_lt _ k.pos⟩
def F.val {k : Q4} (a : F k) : Nat := Fin.val (n := k.n) a
theorem F.ext {k : Q4} {a b : F k} (h : a.val = b.val) : a = b := Fin.ext h
theorem F.lt {k : Q4} (a : F k) : a.val < k.n := Fin.isLt (n := k.n) a
def F.add {k : Q4} (a b : F k) : F k := match k with
  | .q4 => mk .q4 (a.val ^^^ b.val)
  | k => mk k (a.val + b.val)
def F.neg {k : Q4} (a : F k) : F k := match k with
  | .q4 => a
  | k => mk k (k.n - a.val)
def F.mul {k : Q4} (a b : F k) : F k := match k with
  | .q4 => mk .q4 (if a.val = 0 ∨ b.val = 0 then 0 else 1 + (a.val + b.val - 2) % 3)
  | k => mk k (a.val * b.val)
def F.inv {k : Q4} (a : F k) : F k := match k with
  | .q2 => a
  | .q3 => a
  | .q4 => F.mul a a
  | .q5 => F.mul a (F.mul a a)
instance (k : Q4) : Add (F k) := ⟨F.add⟩
instance (k : Q4) : Mul (F k) := ⟨F.mul⟩
instance (k : Q4) : Neg (F k) := ⟨F.neg⟩
instance (k : Q4) : Sub (F k) := ⟨fun a b => a + -b⟩
instance (k : Q4) : Inv (F k) := ⟨F.inv⟩
instance (k : Q4) : Div (F k) := ⟨fun a b => a * b⁻¹⟩
def nat (k : Q4) : Nat → F k
  | 0 => mk k 0
  | n + 1 => nat k n + mk k 1
instance (k : Q4) (n : Nat) : OfNat (F k) n := ⟨nat k n⟩
def npow {k : Q4} (a : F k) : Nat → F k
  | 0 => 1
  | n + 1 => npow a n * a
def zint (k : Q4) : Int → F k
  | .ofNat n => nat k n
  | .negSucc n => -(nat k (n + 1))
instance (k : Q4) : NatCast (F k) := ⟨nat k⟩
instance (k : Q4) : IntCast (F k) := ⟨zint k⟩
instance (k : Q4) : SMul Nat (F k) := ⟨fun n a => nat k n * a⟩
instance (k : Q4) : SMul Int (F k) := ⟨fun n a => zint k n * a⟩
instance (k : Q4) : HPow (F k) Nat (F k) := ⟨npow⟩
def zpow {k : Q4} (a : F k) : Int → F k
  | .ofNat n => npow a n
  | .negSucc n => (npow a (n + 1))⁻¹
instance (k : Q4) : HPow (F k) Int (F k) := ⟨zpow⟩
theorem add_comm' (k : Q4) : ∀ a b : F k, a + b = b + a := by cases k <;> decide +kernel
theorem add_assoc' (k : Q4) : ∀ a b c : F k, a + b + c = a + (b + c) := by cases k <;> decide +kernel
theorem add_zero' (k : Q4) : ∀ a : F k, a + 0 = a := by cases k <;> decide +kernel
theorem neg_add' (k : Q4) : ∀ a : F k, -a + a = 0 := by cases k <;> decide +kernel
theorem mul_comm' (k : Q4) : ∀ a b : F k, a * b = b * a := by cases k <;> decide +kernel
theorem mul_assoc' (k : Q4) : ∀ a b c : F k, a * b * c = a * (b * c) := by cases k <;> decide +kernel
theorem mul_one' (k : Q4) : ∀ a : F k, a * 1 = a := by cases k <;> decide +kernel
theorem zero_mul' (k : Q4) : ∀ a : F k, 0 * a = 0 := by cases k <;> decide +kernel
theorem distrib' (k : Q4) : ∀ a b c : F k, a * (b + c) = a * b + a * c := by cases k <;> decide +kernel
theorem mul_inv' (k : Q4) : ∀ a : F k, a ≠ 0 → a * a⁻¹ = 1 := by cases k <;> decide +kernel
theorem inv_zero' (k : Q4) : (0 : F k)⁻¹ = 0 := by cases k <;> decide +kernel
theorem zero_one' (k : Q4) : (0 : F k) ≠ 1 := by cases k <;> decide +kernel
theorem one_mk (k : Q4) : (1 : F k) = mk k 1 := by cases k <;> decide +kernel
theorem neg_mul' (k : Q4) : ∀ a b : F k, (-a) * b = -(a * b) := by cases k <;> decide +kernel
theorem neg_neg' (k : Q4) : ∀ a : F k, -(-a) = a := by cases k <;> decide +kernel
theorem neg_zero' (k : Q4) : -(0 : F k) = 0 := by cases k <;> decide +kernel
theorem inv_inv' (k : Q4) : ∀ a : F k, (a⁻¹)⁻¹ = a := by cases k <;> decide +kernel
theorem zint_neg (k : Q4) : ∀ i : Int, zint k (-i) = -(zint k i)
  | .ofNat 0 => (neg_zero' k).symm
  | .ofNat (n + 1) => rfl
  | .negSucc n => by
    show nat k (n + 1) = -(-(nat k (n + 1)))
    rw [neg_neg']
instance (k : Q4) : Lean.Grind.Semiring (F k) where
  natCast := ⟨nat k⟩
  ofNat n := ⟨nat k n⟩
  nsmul := inferInstance
  npow := inferInstance
  add_zero := add_zero' k
  add_comm := add_comm' k
  add_assoc := add_assoc' k
  mul_assoc := mul_assoc' k
  mul_one := mul_one' k
  one_mul a := by rw [mul_comm', mul_one']
  left_distrib := distrib' k
  right_distrib a b c := by rw [mul_comm', distrib', mul_comm' k c a, mul_comm' k c b]
  zero_mul := zero_mul' k
  mul_zero a := by rw [mul_comm', zero_mul']
  pow_zero a := rfl
  pow_succ a n := rfl
  ofNat_succ n := by
    show nat k n + mk k 1 = nat k n + 1
    rw [one_mk]
  ofNat_eq_natCast n := rfl
  nsmul_eq_natCast_mul n a := rfl
instance (k : Q4) : Lean.Grind.Ring (F k) where
  intCast := ⟨zint k⟩
  zsmul := inferInstance
  neg_add_cancel := neg_add' k
  sub_eq_add_neg a b := rfl
  neg_zsmul i a := by
    show zint k (-i) * a = -(zint k i * a)
    rw [zint_neg, neg_mul']
  zsmul_natCast_eq_nsmul n a := rfl
  intCast_ofNat n := rfl
  intCast_neg i := zint_neg k i
instance (k : Q4) : Lean.Grind.CommRing (F k) where
  mul_comm := mul_comm' k
theorem inv_one' (k : Q4) : (1 : F k)⁻¹ = 1 := by cases k <;> decide +kernel
instance (k : Q4) : Lean.Grind.Field (F k) where
  zpow := inferInstance
  div_eq_mul_inv a b := rfl
  zero_ne_one := zero_one' k
  inv_zero := inv_zero' k
  mul_inv_cancel h := mul_inv' k _ h
  zpow_zero a := rfl
  zpow_succ a n := rfl
  zpow_neg a n := by
    cases n with
    | ofNat n =>
      cases n with
      | zero => exact (inv_one' k).symm
      | succ n => rfl
    | negSucc n => exact (inv_inv' k _).symm
end A
/-! A2: vectors, what comes of them, the lowest form. -/
namespace A
variable {k : Q4} {n : Nat}
def V (k : Q4) (n : Nat) : Type := Fin n → F k
instance : CoeFun (V k n) (fun _ => Fin n → F k) := ⟨id⟩
theorem V.ext {u v : V k n} (h : ∀ i, u i = v i) : u = v := funext h
instance : DecidableEq (V k n) := fun u v => @decidable_of_iff _ (∀ i : Fin n, (u : Fin n → F k) i = (v : Fin n → F k) i) ⟨V.ext, fun h i => by rw [h]⟩ (@Nat.decidableForallFin n _ fun i => inferInstanceAs (Decidable ((u : Fin n → F k) i = (v : Fin n → F k) i)))
instance : Add (V k n) := ⟨fun u v i => u i + v i⟩
instance : Sub (V k n) := ⟨fun u v i => u i - v i⟩
instance : Zero (V k n) := ⟨fun _ => 0⟩
def sm (c : F k) (v : V k n) : V k n := fun i => c * v i
@[simp] theorem add_ap (u v : V k n) (i : Fin n) : (u + v) i = u i + v i := rfl
@[simp] theorem sub_ap (u v : V k n) (i : Fin n) : (u - v) i = u i - v i := rfl
@[simp] theorem zero_ap (i : Fin n) : (0 : V k n) i = 0 := rfl
@[simp] theorem sm_ap (c : F k) (v : V k n) (i : Fin n) : sm c v i = c * v i := rfl
/-- v comes of the rows -/
def Sp : List (V k n) → V k n → Prop
  | [], v => v = 0
  | b :: B, v => ∃ c, Sp B (v - sm c b)
theorem Sp.zero : ∀ B : List (V k n), Sp B 0
  | [] => rfl
  | b :: B => ⟨0, by
    have : (0 : V k n) - sm 0 b = 0 := V.ext fun i => by simp; grind
    rw [this]; exact Sp.zero B⟩
theorem Sp.add : ∀ {B : List (V k n)} {u v : V k n}, Sp B u → Sp B v → Sp B (u + v)
  | [], u, v, h1, h2 => by
    have e1 : u = 0 := h1
    have e2 : v = 0 := h2
    subst e1 e2
    exact V.ext fun i => by simp; grind
  | b :: B, u, v, ⟨c, h1⟩, ⟨d, h2⟩ => ⟨c + d, by
    have := Sp.add h1 h2
    have e : u + v - sm (c + d) b = (u - sm c b) + (v - sm d b) := V.ext fun i => by simp; grind
    rw [e]; exact this⟩
theorem Sp.sm : ∀ {B : List (V k n)} {u : V k n} (c : F k), Sp B u → Sp B (sm c u)
  | [], u, c, h1 => by
    have e1 : u = 0 := h1
    subst e1
    exact V.ext fun i => by simp; grind
  | b :: B, u, c, ⟨d, h1⟩ => ⟨c * d, by
    have := Sp.sm c h1
    have e : A.sm c u - A.sm (c * d) b = A.sm c (u - A.sm d b) := V.ext fun i => by simp; grind
    rw [e]; exact this⟩
theorem Sp.sub {B : List (V k n)} {u v : V k n} (h1 : Sp B u) (h2 : Sp B v) : Sp B (u - v) := by
  have := h1.add (h2.sm (-1))
  have e : u - v = u + A.sm (-1) v := V.ext fun i => by simp; grind
  rw [e]; exact this
theorem Sp.skip {B : List (V k n)} {u b : V k n} (h : Sp B u) : Sp (b :: B) u := ⟨0, by
  have e : u - A.sm 0 b = u := V.ext fun i => by simp; grind
  rw [e]; exact h⟩
theorem Sp.head {B : List (V k n)} {b : V k n} : Sp (b :: B) b := ⟨1, by
  have e : b - A.sm 1 b = 0 := V.ext fun i => by simp; grind
  rw [e]; exact Sp.zero B⟩
theorem Sp.mem : ∀ {B : List (V k n)} {b : V k n}, b ∈ B → Sp B b
  | _ :: B, b, h => by
    rcases List.mem_cons.mp h with h | h
    · subst h; exact Sp.head
    · exact (Sp.mem h).skip
theorem Sp.mono : ∀ {C B : List (V k n)} {v : V k n}, (∀ a ∈ C, Sp B a) → Sp C v → Sp B v
  | [], B, v, _, h => by
    have e : v = 0 := h
    subst e; exact Sp.zero B
  | a :: C, B, v, h, ⟨c, h1⟩ => by
    have h2 := Sp.mono (fun x hx => h x (.tail _ hx)) h1
    have h3 := h2.add ((h a (.head _)).sm c)
    have e : v = v - A.sm c a + A.sm c a := V.ext fun i => by simp; grind
    rw [e]; exact h3
/-- the same comes of both -/
def Same (A B : List (V k n)) : Prop := ∀ v, Sp A v ↔ Sp B v
theorem same_of {A B : List (V k n)} (h1 : ∀ a ∈ A, Sp B a) (h2 : ∀ b ∈ B, Sp A b) : Same A B := fun _ => ⟨Sp.mono h1, Sp.mono h2⟩
theorem Same.refl (A : List (V k n)) : Same A A := fun _ => Iff.rfl
theorem Same.symm {A B : List (V k n)} (h : Same A B) : Same B A := fun v => (h v).symm
theorem Same.trans {A B C : List (V k n)} (h : Same A B) (h2 : Same B C) : Same A C := fun v => (h v).trans (h2 v)
theorem Same.perm {A B : List (V k n)} (h : A.Perm B) : Same A B := same_of (fun a ha => Sp.mem (h.mem_iff.mp ha)) fun b hb => Sp.mem (h.mem_iff.mpr hb)
theorem Same.cons {A B : List (V k n)} (h : Same A B) (x : V k n) : Same (x :: A) (x :: B) :=
  fun v => ⟨fun ⟨c, h1⟩ => ⟨c, (h _).mp h1⟩, fun ⟨c, h1⟩ => ⟨c, (h _).mpr h1⟩⟩
/-- what is nought at a place for all rows is nought there for what comes of them -/
theorem Sp.at0 : ∀ {B : List (V k n)} {v : V k n} {i : Fin n}, (∀ b ∈ B, b i = 0) → Sp B v → v i = 0
  | [], v, i, _, h => by
    have e : v = 0 := h
    subst e; rfl
  | b :: B, v, i, h, ⟨c, h1⟩ => by
    have h2 := Sp.at0 (fun x hx => h x (.tail _ hx)) h1
    have h3 := h b (.head _)
    simp at h2
    grind
/-- the lowest form, each row with the place of its lead -/
structure Low (L : List (Fin n × V k n)) : Prop where
  up : (L.map Prod.fst).Pairwise (· < ·)
  pre : ∀ p ∈ L, ∀ j, j < p.1 → p.2 j = 0
  one : ∀ p ∈ L, p.2 p.1 = 1
  off : ∀ p ∈ L, ∀ r ∈ L, r.1 ≠ p.1 → p.2 r.1 = 0
abbrev rows (L : List (Fin n × V k n)) : List (V k n) := L.map Prod.snd
/-- a row less the rows by its numbers at their leads -/
def rd : List (Fin n × V k n) → V k n → V k n
  | [], v => v
  | p :: L, v => rd L (v - sm (v p.1) p.2)
theorem Low.tail {p : Fin n × V k n} {L : List (Fin n × V k n)} (h : Low (p :: L)) : Low L where
  up := (List.pairwise_cons.mp h.up).2
  pre := fun q hq => h.pre q (.tail _ hq)
  one := fun q hq => h.one q (.tail _ hq)
  off := fun q hq r hr => h.off q (.tail _ hq) r (.tail _ hr)
theorem Low.ne {p : Fin n × V k n} {L : List (Fin n × V k n)} (h : Low (p :: L)) {q : Fin n × V k n} (hq : q ∈ L) : q.1 ≠ p.1 := fun e => by
  have := (List.pairwise_cons.mp h.up).1 q.1 (List.mem_map.mpr ⟨q, hq, rfl⟩)
  rw [e] at this
  exact absurd this (by simp)
theorem rd_sp : ∀ {L : List (Fin n × V k n)} (v : V k n), Sp (rows L) (v - rd L v)
  | [], v => V.ext fun i => by simp [rd]; grind
  | p :: L, v => ⟨v p.1, by
    have := rd_sp (L := L) (v - sm (v p.1) p.2)
    have e : v - rd (p :: L) v - sm (v p.1) p.2 = v - sm (v p.1) p.2 - rd L (v - sm (v p.1) p.2) := V.ext fun i => by simp [rd]; grind
    rw [e]; exact this⟩
theorem rd_keep : ∀ {L : List (Fin n × V k n)} {v : V k n} {i : Fin n}, (∀ p ∈ L, p.2 i = 0) → rd L v i = v i
  | [], v, i, _ => rfl
  | p :: L, v, i, h => by
    rw [rd, rd_keep fun q hq => h q (.tail _ hq)]
    have := h p (.head _)
    simp
    grind
theorem rd_lead : ∀ {L : List (Fin n × V k n)} {v : V k n}, Low L → ∀ p ∈ L, rd L v p.1 = 0
  | q :: L, v, h, p, hp => by
    rw [rd]
    rcases List.mem_cons.mp hp with e | e
    · subst e
      rw [rd_keep fun r hr => h.off r (.tail _ hr) p (.head _) (Ne.symm (h.ne hr))]
      have := h.one p (.head _)
      simp
      grind
    · exact rd_lead h.tail p e
/-- in the span, and nought at all leads: nought -/
theorem Low.zero : ∀ {L : List (Fin n × V k n)} {v : V k n}, Low L → Sp (rows L) v → (∀ p ∈ L, v p.1 = 0) → v = 0
  | [], v, _, h, _ => h
  | p :: L, v, hL, ⟨c, h⟩, h0 => by
    have h1 : (v - sm c p.2) p.1 = 0 := Sp.at0 (fun b hb => by
      obtain ⟨q, hq, rfl⟩ := List.mem_map.mp hb
      exact hL.off q (.tail _ hq) p (.head _) (Ne.symm (hL.ne hq))) h
    have h2 := h0 p (.head _)
    have h3 := hL.one p (.head _)
    simp at h1
    have hc : c = 0 := by grind
    subst hc
    have e : v - sm 0 p.2 = v := V.ext fun i => by simp; grind
    rw [e] at h
    exact Low.zero hL.tail h fun q hq => h0 q (.tail _ hq)
theorem Low.sp_iff {L : List (Fin n × V k n)} {v : V k n} (h : Low L) : Sp (rows L) v ↔ rd L v = 0 := by
  constructor
  · intro hs
    refine h.zero ?_ (rd_lead h)
    have := hs.sub (rd_sp (L := L) v)
    have e : v - (v - rd L v) = rd L v := V.ext fun i => by simp; grind
    rwa [e] at this
  · intro h0
    have := rd_sp (L := L) v
    rw [h0] at this
    have e : v - 0 = v := V.ext fun i => by simp; grind
    rwa [e] at this
/-- where the first number other than nought stands -/
def Ld (v : V k n) (i : Fin n) : Prop := v i ≠ 0 ∧ ∀ j, j < i → v j = 0
theorem Ld.uniq {v : V k n} {i j : Fin n} (h : Ld v i) (h2 : Ld v j) : i = j := by
  rcases Nat.lt_trichotomy i.val j.val with e | e | e
  · exact absurd (h2.2 i e) h.1
  · exact Fin.ext e
  · exact absurd (h.2 j e) h2.1
theorem Low.ld {L : List (Fin n × V k n)} (h : Low L) {p : Fin n × V k n} (hp : p ∈ L) : Ld p.2 p.1 := ⟨by rw [h.one p hp]; exact Ne.symm (zero_one' k), h.pre p hp⟩
/-- the lead of what comes of a lowest form is one of its leads -/
theorem Low.lead : ∀ {L : List (Fin n × V k n)} {v : V k n}, Low L → Sp (rows L) v → v ≠ 0 → ∃ p ∈ L, Ld v p.1
  | [], v, _, h, h0 => absurd h h0
  | p :: L, v, hL, ⟨c, h⟩, h0 => by
    have h3 := hL.one p (.head _)
    have h1 : (v - sm c p.2) p.1 = 0 := Sp.at0 (fun b hb => by
      obtain ⟨q, hq, rfl⟩ := List.mem_map.mp hb
      exact hL.off q (.tail _ hq) p (.head _) (Ne.symm (hL.ne hq))) h
    simp at h1
    have hv : v p.1 = c := by grind
    by_cases hc : c = 0
    · subst hc
      have e : v - sm 0 p.2 = v := V.ext fun i => by simp; grind
      rw [e] at h
      obtain ⟨q, hq, hl⟩ := hL.tail.lead h h0
      exact ⟨q, .tail _ hq, hl⟩
    · refine ⟨p, .head _, by rw [hv]; exact hc, fun j hj => ?_⟩
      have h4 := hL.pre p (.head _) j hj
      have h5 : (v - sm c p.2) j = 0 := Sp.at0 (fun b hb => by
        obtain ⟨q, hq, rfl⟩ := List.mem_map.mp hb
        have := (List.pairwise_cons.mp hL.up).1 q.1 (List.mem_map.mpr ⟨q, hq, rfl⟩)
        exact hL.pre q (.tail _ hq) j (Nat.lt_trans hj this)) h
      simp at h5
      grind
theorem sorted_eq {m : Nat} : ∀ {a b : List (Fin m)}, a.Pairwise (· < ·) → b.Pairwise (· < ·) → (∀ x, x ∈ a ↔ x ∈ b) → a = b
  | [], [], _, _, _ => rfl
  | [], y :: b, _, _, h => absurd ((h y).mpr (.head _)) (by simp)
  | x :: a, [], _, _, h => absurd ((h x).mp (.head _)) (by simp)
  | x :: a, y :: b, ha, hb, h => by
    obtain ⟨ha1, ha2⟩ := List.pairwise_cons.mp ha
    obtain ⟨hb1, hb2⟩ := List.pairwise_cons.mp hb
    have hxy : x = y := by
      rcases List.mem_cons.mp ((h x).mp (.head _)) with e | e
      · exact e
      · rcases List.mem_cons.mp ((h y).mpr (.head _)) with e2 | e2
        · exact e2.symm
        · exact absurd (Nat.lt_trans (hb1 x e) (ha1 y e2)) (Nat.lt_irrefl _)
    subst hxy
    rw [sorted_eq ha2 hb2 fun z => ?_]
    constructor
    · intro hz
      rcases List.mem_cons.mp ((h z).mp (.tail _ hz)) with e | e
      · subst e; exact absurd (ha1 z hz) (Nat.lt_irrefl _)
      · exact e
    · intro hz
      rcases List.mem_cons.mp ((h z).mpr (.tail _ hz)) with e | e
      · subst e; exact absurd (hb1 z hz) (Nat.lt_irrefl _)
      · exact e
theorem pairs_eq {α β : Type} : ∀ {a b : List (α × β)}, a.map Prod.fst = b.map Prod.fst → (∀ x ∈ a, ∀ y ∈ b, x.1 = y.1 → x.2 = y.2) → a = b
  | [], [], _, _ => rfl
  | [], _ :: _, h, _ => by simp at h
  | _ :: _, [], h, _ => by simp at h
  | x :: a, y :: b, h, h2 => by
    simp only [List.map_cons, List.cons.injEq] at h
    have e := h2 x (.head _) y (.head _) h.1
    rw [pairs_eq h.2 fun u hu v hv => h2 u (.tail _ hu) v (.tail _ hv)]
    rw [Prod.ext h.1 e]
/-- THE RULE: two lowest forms of which the same comes are one -/
theorem Low.uniq {L M : List (Fin n × V k n)} (hL : Low L) (hM : Low M) (h : Same (rows L) (rows M)) : L = M := by
  have key : ∀ {L M : List (Fin n × V k n)}, Low L → Low M → Same (rows L) (rows M) → ∀ p ∈ L, ∃ q ∈ M, q.1 = p.1 := by
    intro L M hL hM h p hp
    have hs : Sp (rows M) p.2 := (h _).mp (Sp.mem (List.mem_map.mpr ⟨p, hp, rfl⟩))
    have h0 : p.2 ≠ 0 := fun e => by
      have := hL.one p hp
      rw [e] at this
      exact zero_one' k this
    obtain ⟨q, hq, hl⟩ := hM.lead hs h0
    exact ⟨q, hq, hl.uniq (hL.ld hp)⟩
  have hf : L.map Prod.fst = M.map Prod.fst := by
    refine sorted_eq hL.up hM.up fun x => ⟨fun hx => ?_, fun hx => ?_⟩
    · obtain ⟨p, hp, rfl⟩ := List.mem_map.mp hx
      obtain ⟨q, hq, e⟩ := key hL hM h p hp
      exact List.mem_map.mpr ⟨q, hq, e⟩
    · obtain ⟨p, hp, rfl⟩ := List.mem_map.mp hx
      obtain ⟨q, hq, e⟩ := key hM hL h.symm p hp
      exact List.mem_map.mpr ⟨q, hq, e⟩
  refine pairs_eq hf fun p hp q hq e => ?_
  have hs : Sp (rows M) (p.2 - q.2) := ((h _).mp (Sp.mem (List.mem_map.mpr ⟨p, hp, rfl⟩))).sub (Sp.mem (List.mem_map.mpr ⟨q, hq, rfl⟩))
  have h0 : p.2 - q.2 = 0 := by
    refine hM.zero hs fun r hr => ?_
    obtain ⟨r', hr', er⟩ := key hM hL h.symm r hr
    by_cases hrq : r.1 = q.1
    · have h1 := hM.one q hq
      have h2 := hL.one p hp
      rw [sub_ap, hrq]
      rw [e] at h2
      rw [h1, h2]
      grind
    · have h1 := hM.off q hq r hr hrq
      have h2 := hL.off p hp r' hr' (by rw [er, e]; exact hrq)
      rw [er] at h2
      rw [sub_ap, h1, h2]
      grind
  exact V.ext fun i => by
    have := congrFun h0 i
    have h1 : p.2 i - q.2 i = 0 := this
    grind
end A
/-! A3: the program's way to the lowest form, and the laws' way. -/
namespace A
open Z (ins insS)
variable {k : Q4} {n : Nat}
/-- the place of the first number other than nought -/
def lead (v : V k n) : Option (Fin n) := (List.finRange n).find? fun i => decide (v i ≠ 0)
theorem find_first {α : Type} {p : α → Bool} : ∀ {l : List α} {x : α}, l.find? p = some x → ∃ a b, l = a ++ x :: b ∧ ∀ y ∈ a, p y = false
  | [], x, h => by cases h
  | y :: l, x, h => by
    rw [List.find?_cons] at h
    cases e : p y with
    | true =>
      rw [e] at h
      cases h
      exact ⟨[], l, rfl, fun z hz => by cases hz⟩
    | false =>
      rw [e] at h
      obtain ⟨a, b, h1, h2⟩ := find_first h
      refine ⟨y :: a, b, by rw [h1]; rfl, fun z hz => ?_⟩
      rcases List.mem_cons.mp hz with q | q
      · rw [q]; exact e
      · exact h2 z q
theorem finRange_up (n : Nat) : (List.finRange n).Pairwise (· < ·) := by
  rw [List.pairwise_iff_getElem]
  intro i j hi hj h
  simp only [List.getElem_finRange]
  exact h
theorem lead_some {v : V k n} {i : Fin n} (h : lead v = some i) : Ld v i := by
  have h1 := List.find?_some h
  refine ⟨by simpa using h1, fun j hj => ?_⟩
  obtain ⟨a, b, e, h2⟩ := find_first h
  have hup := finRange_up n
  rw [e] at hup
  obtain ⟨u1, u2, u3⟩ := List.pairwise_append.mp hup
  have hj' : j ∈ a ++ i :: b := by rw [← e]; exact List.mem_finRange j
  rcases List.mem_append.mp hj' with q | q
  · simpa using h2 j q
  · rcases List.mem_cons.mp q with q | q
    · rw [q] at hj; exact absurd hj (by simp)
    · have := (List.pairwise_cons.mp u2).1 j q
      exact absurd (Nat.lt_trans hj this) (Nat.lt_irrefl _)
theorem lead_none {v : V k n} (h : lead v = none) : v = 0 := V.ext fun i => by
  have := List.find?_eq_none.mp h i (List.mem_finRange i)
  simpa using this
theorem lead_of_ld {v : V k n} {i : Fin n} (h : Ld v i) : lead v = some i := by
  cases e : lead v with
  | none => exact absurd (by rw [lead_none e]; rfl) h.1
  | some j => rw [(lead_some e).uniq h]
theorem lead_zero : lead (0 : V k n) = none := by
  cases e : lead (0 : V k n) with
  | none => rfl
  | some i => exact absurd rfl (lead_some e).1
/-- sorting of rows, greatest first: rows of unlike leads -/
structure Gr (ge : V k n → V k n → Bool) : Prop where
  tot : PySem.W.TotalLe ge
  lead : ∀ u v i j, Ld u i → Ld v j → i < j → ge u v = true ∧ ge v u = false
theorem perm_sorted {α : Type} {le : α → α → Bool} : ∀ {a b : List α}, a.Perm b → a.Pairwise (fun x y => le x y = true) → b.Pairwise (fun x y => le x y = true) → (∀ x ∈ a, ∀ y ∈ a, le x y = true → le y x = true → x = y) → a = b
  | [], b, h, _, _, _ => by rw [List.nil_perm.mp h]
  | x :: a, [], h, _, _, _ => by simp at h
  | x :: a, y :: b, h, ha, hb, hs => by
    obtain ⟨ha1, ha2⟩ := List.pairwise_cons.mp ha
    obtain ⟨hb1, hb2⟩ := List.pairwise_cons.mp hb
    have hxy : x = y := by
      rcases List.mem_cons.mp (h.mem_iff.mp (.head a)) with e | e
      · exact e
      · rcases List.mem_cons.mp (h.mem_iff.mpr (.head b)) with e2 | e2
        · exact e2.symm
        · exact hs x (.head _) y (.tail _ e2) (ha1 y e2) (hb1 x e)
    subst hxy
    rw [perm_sorted (List.perm_cons _ |>.mp h) ha2 hb2 fun u hu v hv => hs u (.tail _ hu) v (.tail _ hv)]
theorem insS_perm {α : Type} {le : α → α → Bool} (T : PySem.W.TotalLe le) (l : List α) : (insS le l).Perm l ∧ (insS le l).Pairwise fun x y => le x y = true := by
  have htot : ∀ a b : α, (le a b || le b a) = true := fun a b => by
    rcases T.total a b with h | h <;> simp [h]
  rw [Z.insS_eq T]
  exact ⟨List.mergeSort_perm l le, List.pairwise_mergeSort T.trans htot l⟩
/-- sorted rows of a lowest form -/
theorem sort_low {ge : V k n → V k n → Bool} (g : Gr ge) {L : List (Fin n × V k n)} (h : Low L) {l : List (V k n)} (hp : l.Perm (rows L)) : insS ge l = rows L := by
  obtain ⟨p1, p2⟩ := insS_perm g.tot l
  have hL : (rows L).Pairwise fun x y => ge x y = true := by
    have : L.Pairwise fun p q => p.1 < q.1 := List.pairwise_map.mp h.up
    refine List.pairwise_map.mpr (this.imp_of_mem fun {p q} hp hq hpq => (g.lead _ _ _ _ (h.ld hp) (h.ld hq) hpq).1)
  refine perm_sorted (p1.trans hp) p2 hL fun x hx y hy h1 h2 => ?_
  have hx' := (p1.trans hp).mem_iff.mp hx
  have hy' := (p1.trans hp).mem_iff.mp hy
  obtain ⟨p, hp', rfl⟩ := List.mem_map.mp hx'
  obtain ⟨q, hq', rfl⟩ := List.mem_map.mp hy'
  rcases Nat.lt_trichotomy p.1.val q.1.val with e | e | e
  · have := (g.lead _ _ _ _ (h.ld hp') (h.ld hq') e).2
    rw [h2] at this; cases this
  · have e' : p.1 = q.1 := Fin.ext e
    have hup : L.Pairwise fun p q => p.1 < q.1 := List.pairwise_map.mp h.up
    have : p = q := by
      clear hx hy h1 h2 hx' hy' p1 p2 hL hp e
      induction L with
      | nil => cases hp'
      | cons r L ih =>
        obtain ⟨u1, u2⟩ := List.pairwise_cons.mp hup
        rcases List.mem_cons.mp hp' with a | a
        · rcases List.mem_cons.mp hq' with b | b
          · rw [a, b]
          · have := u1 q b
            rw [← a, e'] at this
            exact absurd this (by simp)
        · rcases List.mem_cons.mp hq' with b | b
          · have := u1 p a
            rw [← b, e'] at this
            exact absurd this (by simp)
          · exact ih h.tail a b u2
    rw [this]
  · have := (g.lead _ _ _ _ (h.ld hq') (h.ld hp') e).2
    rw [h1] at this; cases this
/-- the program's step: a row less the rows found -/
def less (found : List (V k n)) (row : V k n) : V k n := found.foldl (fun r one => match lead one with | some l => r - sm (r l) one | none => r) row
theorem less_rd : ∀ {L : List (Fin n × V k n)} (h : Low L) (v : V k n), less (rows L) v = rd L v
  | [], _, v => rfl
  | p :: L, h, v => by
    show less (rows L) (match lead p.2 with | some l => v - sm (v l) p.2 | none => v) = rd L (v - sm (v p.1) p.2)
    rw [lead_of_ld (h.ld (.head _))]
    exact less_rd h.tail _
def withOne (ge : V k n → V k n → Bool) (found : List (V k n)) (row : V k n) : List (V k n) :=
  match lead (less found row) with
  | none => found
  | some i => insS ge (found.map (fun one => one - sm (one i) (sm (less found row i)⁻¹ (less found row))) ++ [sm (less found row i)⁻¹ (less found row)])
/-- the place of a new row -/
def putIn (x : Fin n × V k n) : List (Fin n × V k n) → List (Fin n × V k n)
  | [] => [x]
  | y :: L => if x.1 < y.1 then x :: y :: L else y :: putIn x L
theorem putIn_perm (x : Fin n × V k n) : ∀ L, (putIn x L).Perm (x :: L)
  | [] => List.Perm.refl _
  | y :: L => by
    rw [putIn]
    split
    · exact List.Perm.refl _
    · exact ((putIn_perm x L).cons y).trans (List.Perm.swap x y L)
theorem putIn_up {x : Fin n × V k n} : ∀ {L : List (Fin n × V k n)}, (L.map Prod.fst).Pairwise (· < ·) → (∀ p ∈ L, p.1 ≠ x.1) → ((putIn x L).map Prod.fst).Pairwise (· < ·)
  | [], _, _ => by simp [putIn]
  | y :: L, h, hx => by
    obtain ⟨h1, h2⟩ := List.pairwise_cons.mp h
    rw [putIn]
    split
    · rename_i e
      refine List.pairwise_cons.mpr ⟨fun z hz => ?_, h⟩
      rcases List.mem_cons.mp hz with q | q
      · rw [q]; exact e
      · exact Nat.lt_trans e (h1 z q)
    · rename_i e
      refine List.pairwise_cons.mpr ⟨fun z hz => ?_, putIn_up h2 fun p hp => hx p (.tail _ hp)⟩
      obtain ⟨r, hr, rfl⟩ := List.mem_map.mp hz
      rcases List.mem_cons.mp ((putIn_perm x L).mem_iff.mp hr) with q | q
      · have := hx y (.head _)
        rw [q]
        show y.1.val < x.1.val
        have e1 : ¬ x.1.val < y.1.val := e
        have e2 : y.1.val ≠ x.1.val := fun z => this (Fin.ext z)
        omega
      · exact h1 r.1 (List.mem_map.mpr ⟨r, q, rfl⟩)
/-- a new row with a lead of its own, taken off the others -/
theorem Low.add {L : List (Fin n × V k n)} (h : Low L) {w : V k n} {i : Fin n} (hw : Ld w i) (h1 : w i = 1) (h0 : ∀ p ∈ L, w p.1 = 0) :
    Low (putIn (i, w) (L.map fun p => (p.1, p.2 - sm (p.2 i) w))) ∧ Same (rows (putIn (i, w) (L.map fun p => (p.1, p.2 - sm (p.2 i) w)))) (w :: rows L) := by
  have hni : ∀ p ∈ L, p.1 ≠ i := fun p hp e => by
    have := h0 p hp
    rw [e, h1] at this
    exact zero_one' k this.symm
  have hmem : ∀ q, q ∈ putIn (i, w) (L.map fun p => (p.1, p.2 - sm (p.2 i) w)) ↔ q = (i, w) ∨ ∃ p ∈ L, q = (p.1, p.2 - sm (p.2 i) w) := by
    intro q
    rw [(putIn_perm _ _).mem_iff, List.mem_cons, List.mem_map]
    constructor
    · rintro (e | ⟨p, hp, e⟩)
      · exact .inl e
      · exact .inr ⟨p, hp, e.symm⟩
    · rintro (e | ⟨p, hp, e⟩)
      · exact .inl e
      · exact .inr ⟨p, hp, e.symm⟩
  refine ⟨⟨putIn_up ?_ ?_, fun q hq j hj => ?_, fun q hq => ?_, fun q hq r hr hne => ?_⟩, same_of (fun v hv => ?_) fun v hv => ?_⟩
  · rw [List.map_map]; exact h.up
  · intro p hp
    obtain ⟨q, hq, rfl⟩ := List.mem_map.mp hp
    exact hni q hq
  · rcases (hmem q).mp hq with rfl | ⟨p, hp, rfl⟩
    · exact hw.2 j hj
    · have e1 := h.pre p hp j hj
      simp only [sub_ap, sm_ap, e1]
      by_cases hij : i < p.1
      · rw [h.pre p hp i hij]; grind
      · have e2 : j < i := by
          have h1 : p.1.val ≠ i.val := fun z => hni p hp (Fin.ext z)
          have h2 : ¬ i.val < p.1.val := hij
          have h3 : j.val < p.1.val := hj
          show j.val < i.val
          omega
        rw [hw.2 j e2]; grind
  · rcases (hmem q).mp hq with rfl | ⟨p, hp, rfl⟩
    · exact h1
    · have e1 := h.one p hp
      simp only [sub_ap, sm_ap, e1, h0 p hp]; grind
  · rcases (hmem q).mp hq with rfl | ⟨p, hp, rfl⟩
    · rcases (hmem r).mp hr with rfl | ⟨s, hs, rfl⟩
      · exact absurd rfl hne
      · exact h0 s hs
    · rcases (hmem r).mp hr with rfl | ⟨s, hs, rfl⟩
      · simp only [sub_ap, sm_ap, h1]; grind
      · simp only [sub_ap, sm_ap, h0 s hs, h.off p hp s hs hne]; grind
  · obtain ⟨q, hq, rfl⟩ := List.mem_map.mp hv
    rcases (hmem q).mp hq with rfl | ⟨p, hp, rfl⟩
    · exact Sp.head
    · exact (Sp.mem (List.mem_map.mpr ⟨p, hp, rfl⟩)).skip.sub (Sp.head.sm _)
  · have hwm : Sp (rows (putIn (i, w) (L.map fun p => (p.1, p.2 - sm (p.2 i) w)))) w := Sp.mem (List.mem_map.mpr ⟨(i, w), (hmem _).mpr (.inl rfl), rfl⟩)
    rcases List.mem_cons.mp hv with rfl | e
    · exact hwm
    · obtain ⟨p, hp, rfl⟩ := List.mem_map.mp e
      have := (Sp.mem (B := rows (putIn (i, w) (L.map fun p => (p.1, p.2 - sm (p.2 i) w)))) (List.mem_map.mpr ⟨(p.1, p.2 - sm (p.2 i) w), (hmem _).mpr (.inr ⟨p, hp, rfl⟩), rfl⟩)).add (hwm.sm (p.2 i))
      have e : p.2 - sm (p.2 i) w + sm (p.2 i) w = p.2 := V.ext fun j => by simp; grind
      rwa [e] at this
theorem scale_ld {w : V k n} {i : Fin n} (h : Ld w i) : Ld (sm (w i)⁻¹ w) i ∧ sm (w i)⁻¹ w i = 1 := by
  have h1 : sm (w i)⁻¹ w i = 1 := by
    simp only [sm_ap]
    have := mul_inv' k (w i) h.1
    grind
  refine ⟨⟨by rw [h1]; exact Ne.symm (zero_one' k), fun j hj => ?_⟩, h1⟩
  simp only [sm_ap, h.2 j hj]; grind
theorem withOne_ok {ge : V k n → V k n → Bool} (g : Gr ge) {L : List (Fin n × V k n)} (h : Low L) (row : V k n) : ∃ M, Low M ∧ withOne ge (rows L) row = rows M ∧ Same (rows M) (row :: rows L) := by
  unfold withOne
  rw [less_rd h]
  have hsp : Sp (rows L) (row - rd L row) := rd_sp row
  cases e : lead (rd L row) with
  | none =>
    refine ⟨L, h, rfl, same_of (fun v hv => (Sp.mem hv).skip) fun v hv => ?_⟩
    rcases List.mem_cons.mp hv with rfl | q
    · exact h.sp_iff.mpr (lead_none e)
    · exact Sp.mem q
  | some i =>
    simp only
    have hl := lead_some e
    obtain ⟨s1, s2⟩ := scale_ld hl
    obtain ⟨a1, a2⟩ := h.add s1 s2 fun p hp => by
      have := rd_lead (v := row) h p hp
      simp only [sm_ap, this]; grind
    refine ⟨_, a1, sort_low g a1 ?_, a2.trans ?_⟩
    · have p1 := (putIn_perm (i, sm (rd L row i)⁻¹ (rd L row)) (L.map fun p => (p.1, p.2 - sm (p.2 i) (sm (rd L row i)⁻¹ (rd L row))))).map Prod.snd
      refine List.Perm.trans ?_ p1.symm
      simp only [List.map_cons, List.map_map]
      exact List.perm_append_comm
    · refine same_of (fun v hv => ?_) fun v hv => ?_
      · rcases List.mem_cons.mp hv with rfl | q
        · refine Sp.sm _ ?_
          have := (Sp.head (B := rows L) (b := row)).sub hsp.skip
          have e2 : row - (row - rd L row) = rd L row := V.ext fun j => by simp; grind
          rwa [e2] at this
        · exact (Sp.mem q).skip
      · rcases List.mem_cons.mp hv with rfl | q
        · have h2 := (Sp.head (B := rows L) (b := sm (rd L v i)⁻¹ (rd L v))).sm (rd L v i)
          have e3 : sm (rd L v i) (sm (rd L v i)⁻¹ (rd L v)) = rd L v := V.ext fun j => by
            simp only [sm_ap]
            have := mul_inv' k _ hl.1
            grind
          rw [e3] at h2
          have := h2.add (hsp.skip (b := sm (rd L v i)⁻¹ (rd L v)))
          have e2 : rd L v + (v - rd L v) = v := V.ext fun j => by simp; grind
          rwa [e2] at this
        · exact (Sp.mem q).skip
/-- the program's lowest form -/
def lowest (ge : V k n → V k n → Bool) (vs : List (V k n)) : List (V k n) := vs.foldl (withOne ge) []
theorem low_nil : Low ([] : List (Fin n × V k n)) := ⟨.nil, fun p hp => (by cases hp), fun p hp => (by cases hp), fun p hp => (by cases hp)⟩
theorem lowest_from {ge : V k n → V k n → Bool} (g : Gr ge) : ∀ (vs : List (V k n)) {L : List (Fin n × V k n)}, Low L → ∃ M, Low M ∧ vs.foldl (withOne ge) (rows L) = rows M ∧ Same (rows M) (vs ++ rows L)
  | [], L, h => ⟨L, h, rfl, Same.refl _⟩
  | v :: vs, L, h => by
    obtain ⟨M, m1, m2, m3⟩ := withOne_ok g h v
    obtain ⟨N, n1, n2, n3⟩ := lowest_from g vs m1
    refine ⟨N, n1, by rw [List.foldl_cons, m2]; exact n2, n3.trans ?_⟩
    refine same_of (fun u hu => ?_) fun u hu => ?_
    · rcases List.mem_append.mp hu with q | q
      · exact Sp.mem (List.mem_append.mpr (.inl (.tail _ q)))
      · refine Sp.mono (fun x hx => ?_) ((m3 u).mp (Sp.mem q))
        rcases List.mem_cons.mp hx with rfl | q2
        · exact Sp.mem (.head _)
        · exact Sp.mem (List.mem_append.mpr (.inr q2))
    · rcases List.mem_append.mp hu with q | q
      · rcases List.mem_cons.mp q with rfl | q2
        · refine Sp.mono (fun x hx => Sp.mem (List.mem_append.mpr (.inr hx))) ((m3 u).mpr Sp.head)
        · exact Sp.mem (List.mem_append.mpr (.inl q2))
      · exact Sp.mono (fun x hx => Sp.mem (List.mem_append.mpr (.inr hx))) ((m3 u).mpr (Sp.mem q).skip)
theorem lowest_ok {ge : V k n → V k n → Bool} (g : Gr ge) (vs : List (V k n)) : ∃ M, Low M ∧ lowest ge vs = rows M ∧ Same (rows M) vs := by
  obtain ⟨M, m1, m2, m3⟩ := lowest_from g vs low_nil
  refine ⟨M, m1, m2, ?_⟩
  have : vs ++ rows ([] : List (Fin n × V k n)) = vs := List.append_nil _
  rwa [this] at m3
/-- of the same rows the same lowest form -/
theorem lowest_same {ge : V k n → V k n → Bool} (g : Gr ge) {us vs : List (V k n)} : lowest ge us = lowest ge vs ↔ Same us vs := by
  obtain ⟨M, m1, m2, m3⟩ := lowest_ok g us
  obtain ⟨N, n1, n2, n3⟩ := lowest_ok g vs
  constructor
  · intro h
    rw [m2, n2] at h
    exact m3.symm.trans ((h ▸ Same.refl _ : Same (rows M) (rows N)).trans n3)
  · intro h
    rw [m2, n2, m1.uniq n1 (m3.trans (h.trans n3.symm))]
end A
/-! A4: the laws' way to the lowest form. -/
namespace A
open Z (ins insS)
variable {k : Q4} {n : Nat}
def lawStep (st : List (V k n) × List (V k n)) (i : Fin n) : List (V k n) × List (V k n) :=
  match st.1.filter (fun r => decide (r i ≠ 0)) with
  | [] => st
  | s :: _ => ((st.1.erase s).map (fun r => r - sm (r i) (sm (s i)⁻¹ s)), st.2.map (fun r => r - sm (r i) (sm (s i)⁻¹ s)) ++ [sm (s i)⁻¹ s])
def lawLow (vs : List (V k n)) : List (V k n) := ((List.finRange n).foldl lawStep (vs, [])).2
theorem putIn_end {x : Fin n × V k n} : ∀ {L : List (Fin n × V k n)}, (∀ p ∈ L, p.1 < x.1) → putIn x L = L ++ [x]
  | [], _ => rfl
  | y :: L, h => by
    rw [putIn, if_neg (fun z : x.1 < y.1 => Nat.lt_asymm (h y (.head _)) z), putIn_end fun p hp => h p (.tail _ hp)]; rfl
structure LawInv (vs : List (V k n)) (c : Nat) (st : List (V k n) × List (V k n)) : Prop where
  low : ∃ L : List (Fin n × V k n), Low L ∧ st.2 = rows L ∧ ∀ p ∈ L, p.1.val < c
  zero : ∀ r ∈ st.1, ∀ j : Fin n, j.val < c → r j = 0
  same : Same (st.1 ++ st.2) vs
theorem same_app {A B C D : List (V k n)} (h1 : Same A B) (h2 : Same C D) : Same (A ++ C) (B ++ D) := by
  refine same_of (fun v hv => ?_) fun v hv => ?_
  · rcases List.mem_append.mp hv with q | q
    · exact Sp.mono (fun x hx => Sp.mem (List.mem_append.mpr (.inl hx))) ((h1 v).mp (Sp.mem q))
    · exact Sp.mono (fun x hx => Sp.mem (List.mem_append.mpr (.inr hx))) ((h2 v).mp (Sp.mem q))
  · rcases List.mem_append.mp hv with q | q
    · exact Sp.mono (fun x hx => Sp.mem (List.mem_append.mpr (.inl hx))) ((h1 v).mpr (Sp.mem q))
    · exact Sp.mono (fun x hx => Sp.mem (List.mem_append.mpr (.inr hx))) ((h2 v).mpr (Sp.mem q))
theorem law_step {vs : List (V k n)} {st : List (V k n) × List (V k n)} (i : Fin n) (h : LawInv vs i.val st) : LawInv vs (i.val + 1) (lawStep st i) := by
  obtain ⟨left, found⟩ := st
  obtain ⟨⟨L, hL, hf, hlt⟩, hz, hs⟩ := h
  simp only at hf hz hs
  subst hf
  unfold lawStep
  simp only
  cases e : left.filter (fun r => decide (r i ≠ 0)) with
  | nil =>
    refine ⟨⟨L, hL, rfl, fun p hp => Nat.lt_succ_of_lt (hlt p hp)⟩, fun r hr j hj => ?_, hs⟩
    by_cases hij : j.val < i.val
    · exact hz r hr j hij
    · have hji : j = i := Fin.ext (by omega)
      subst hji
      have := List.filter_eq_nil_iff.mp e r hr
      simpa using this
  | cons s t =>
    simp only
    have hsm : s ∈ left.filter (fun r => decide (r i ≠ 0)) := by rw [e]; exact .head _
    obtain ⟨hs1, hs2⟩ := List.mem_filter.mp hsm
    have hs3 : s i ≠ 0 := by simpa using hs2
    have hl : Ld s i := ⟨hs3, fun j hj => hz s hs1 j hj⟩
    obtain ⟨s1, s2⟩ := scale_ld hl
    generalize hw : sm (s i)⁻¹ s = w at s1 s2 ⊢
    have hws : s = sm (s i) w := V.ext fun j => by
      rw [← hw]
      simp only [sm_ap]
      have := mul_inv' k _ hs3
      grind
    have h0 : ∀ p ∈ L, w p.1 = 0 := fun p hp => s1.2 p.1 (hlt p hp)
    obtain ⟨a1, a2⟩ := hL.add s1 s2 h0
    have hpe : putIn (i, w) (L.map fun p => (p.1, p.2 - sm (p.2 i) w)) = (L.map fun p => (p.1, p.2 - sm (p.2 i) w)) ++ [(i, w)] := putIn_end fun p hp => by
      obtain ⟨q, hq, rfl⟩ := List.mem_map.mp hp
      exact hlt q hq
    have hrows : (rows L).map (fun r => r - sm (r i) w) ++ [w] = rows ((L.map fun p => (p.1, p.2 - sm (p.2 i) w)) ++ [(i, w)]) := by
      simp only [rows, List.map_append, List.map_map, List.map_cons, List.map_nil]
      rfl
    rw [hpe] at a1 a2
    refine ⟨⟨_, a1, hrows, fun p hp => ?_⟩, fun r hr j hj => ?_, ?_⟩
    · rcases List.mem_append.mp hp with q | q
      · obtain ⟨p', hp', rfl⟩ := List.mem_map.mp q
        exact Nat.lt_succ_of_lt (hlt p' hp')
      · rw [List.mem_singleton] at q
        rw [q]; exact Nat.lt_succ_self _
    · obtain ⟨r', hr', rfl⟩ := List.mem_map.mp hr
      have hr'' := List.mem_of_mem_erase hr'
      simp only [sub_ap, sm_ap]
      by_cases hij : j.val < i.val
      · rw [hz r' hr'' j hij, s1.2 j hij]; grind
      · have hji : j = i := Fin.ext (by omega)
        subst hji
        rw [s2]; grind
    · rw [hrows]
      refine Same.trans ?_ hs
      have hperm : left.Perm (s :: left.erase s) := List.perm_cons_erase hs1
      refine same_of (fun v hv => ?_) fun v hv => ?_
      · rcases List.mem_append.mp hv with q | q
        · obtain ⟨r', hr', rfl⟩ := List.mem_map.mp q
          have hr'' := List.mem_of_mem_erase hr'
          have hw' : Sp (left ++ rows L) w := by
            rw [← hw]
            exact (Sp.mem (List.mem_append.mpr (.inl hs1))).sm _
          exact (Sp.mem (List.mem_append.mpr (.inl hr''))).sub (hw'.sm _)
        · have hw' : Sp (left ++ rows L) w := by
            rw [← hw]
            exact (Sp.mem (List.mem_append.mpr (.inl hs1))).sm _
          refine Sp.mono (fun x hx => ?_) ((a2 v).mp (Sp.mem q))
          rcases List.mem_cons.mp hx with rfl | q2
          · exact hw'
          · exact Sp.mem (List.mem_append.mpr (.inr q2))
      · have hwm : Sp (rows ((L.map fun p => (p.1, p.2 - sm (p.2 i) w)) ++ [(i, w)])) w := (a2 w).mpr Sp.head
        have hwm2 : Sp ((left.erase s).map (fun r => r - sm (r i) w) ++ rows ((L.map fun p => (p.1, p.2 - sm (p.2 i) w)) ++ [(i, w)])) w := Sp.mono (fun x hx => Sp.mem (List.mem_append.mpr (.inr hx))) hwm
        rcases List.mem_append.mp hv with q | q
        · rcases List.mem_cons.mp (hperm.mem_iff.mp q) with e1 | q2
          · have h3 := hwm2.sm (s i)
            rw [← hws] at h3
            rw [e1]; exact h3
          · have h1 : Sp ((left.erase s).map (fun r => r - sm (r i) w) ++ rows ((L.map fun p => (p.1, p.2 - sm (p.2 i) w)) ++ [(i, w)])) (v - sm (v i) w) := Sp.mem (List.mem_append.mpr (.inl (List.mem_map.mpr ⟨v, q2, rfl⟩)))
            have h2 := h1.add (hwm2.sm (v i))
            have e : v - sm (v i) w + sm (v i) w = v := V.ext fun j => by simp; grind
            rwa [e] at h2
        · exact Sp.mono (fun x hx => Sp.mem (List.mem_append.mpr (.inr hx))) ((a2 v).mpr (Sp.mem q).skip)
theorem law_fold {vs : List (V k n)} : ∀ (l : List (Fin n)) (c : Nat) (st : List (V k n) × List (V k n)), (∀ j (h : j < l.length), (l[j]).val = c + j) → LawInv vs c st → LawInv vs (c + l.length) (l.foldl lawStep st)
  | [], c, st, _, h => h
  | i :: l, c, st, hl, h => by
    have h0 : i.val = c + 0 := hl 0 (Nat.zero_lt_succ _)
    rw [Nat.add_zero] at h0
    have h1 := law_step i (h0 ▸ h)
    rw [h0] at h1
    have := law_fold l (c + 1) _ (fun j hj => by
      have := hl (j + 1) (Nat.succ_lt_succ hj)
      simp only [List.getElem_cons_succ] at this
      omega) h1
    rw [List.foldl_cons, List.length_cons]
    rwa [show c + (l.length + 1) = c + 1 + l.length by omega]
theorem lawLow_ok (vs : List (V k n)) : ∃ M, Low M ∧ lawLow vs = rows M ∧ Same (rows M) vs := by
  have h := law_fold (vs := vs) (List.finRange n) 0 (vs, []) (fun j hj => by simp) ⟨⟨[], low_nil, rfl, fun p hp => (by cases hp)⟩, fun r _ j hj => absurd hj (Nat.not_lt_zero _), by
    show Same (vs ++ []) vs
    rw [List.append_nil]; exact Same.refl _⟩
  obtain ⟨⟨M, m1, m2, _⟩, hz, hs⟩ := h
  refine ⟨M, m1, m2, Same.trans ?_ hs⟩
  rw [m2]
  refine same_of (fun v hv => Sp.mem (List.mem_append.mpr (.inr hv))) fun v hv => ?_
  rcases List.mem_append.mp hv with q | q
  · have : v = 0 := V.ext fun j => hz v q j (by simp)
    rw [this]; exact Sp.zero _
  · exact Sp.mem q
/-- THE RULE: both ways lead to the same -/
theorem law_lowest {ge : V k n → V k n → Bool} (g : Gr ge) (vs : List (V k n)) : lowest ge vs = lawLow vs := by
  obtain ⟨M, m1, m2, m3⟩ := lowest_ok g vs
  obtain ⟨N, n1, n2, n3⟩ := lawLow_ok vs
  rw [m2, n2, m1.uniq n1 (m3.trans n3.symm)]
end A
/-! Y1: evaluation without a store: values alone, each name with what is known of how it is held. -/
namespace Z
open PySem
/-- how a thing is held: shared; a list that this name alone holds; a list of such lists; a sole one, locked -/
inductive KT where | sh | ex | tb | lk
/-- c: no list in it stood ahead of the call -/
structure K where
  t : KT
  c : Bool
abbrev VEnv := List (Option (PyData × K))
inductive Vo where
  | v (p : PyData) (k : K) | top (i : Nat)
inductive VR (α : Type) where
  | ok (a : α) (v : VEnv) | exc (c : Nat) (v : VEnv) | bad
def vb {α β : Type} (r : VR α) (f : α → VEnv → VR β) : VR β := match r with
  | .ok a v => f a v
  | .exc c v => .exc c v
  | .bad => .bad
mutual
def pur : PyData → Bool
  | .none => true | .bool _ => true | .int _ => true | .str _ => true
  | .list _ => false | .tuple xs => purs xs | .dict _ => false
def purs : List PyData → Bool
  | [] => true
  | x :: xs => pur x && purs xs
end
def flatP : PyData → Bool
  | .list xs => purs xs
  | _ => false
def dOk : Nat → PyData → Bool
  | 0, _ => false
  | n + 1, .list xs => xs.all (dOk n)
  | n + 1, .tuple xs => xs.all (dOk n)
  | _ + 1, .dict _ => false
  | _ + 1, _ => true
def ent (v : VEnv) (i : Nat) : Option (PyData × K) := match v[i]? with
  | some o => o
  | none => none
/-- what is known of a kind by the value -/
def nK (p : PyData) (k : K) : K := match k with
  | ⟨.sh, c⟩ => ⟨.sh, c || pur p⟩
  | ⟨.tb, c⟩ => ⟨.tb, c⟩
  | ⟨t, c⟩ => ⟨t, c || (pur p || flatP p)⟩
def exK : K → Option Bool
  | ⟨.ex, c⟩ => some c
  | ⟨.tb, _⟩ => some true
  | _ => none
/-- read, its items shared -/
def Vo.rd (o : Vo) (v : VEnv) : Option (PyData × Bool × VEnv) := match o with
  | .v p ⟨.tb, _⟩ => none
  | .v p ⟨_, c⟩ => some (p, c, v)
  | .top i => match ent v i with
    | some (p, ⟨.tb, _⟩) => some (p, true, v.set i (some (p, ⟨.ex, true⟩)))
    | some (p, ⟨_, c⟩) => some (p, c, v)
    | none => none
/-- held elsewhere from here on -/
def Vo.esc (o : Vo) (v : VEnv) : Option ((PyData × K) × VEnv) := match o with
  | .v p k => some ((p, k), v)
  | .top i => match ent v i with
    | some (p, ⟨.lk, _⟩) => none
    | some (p, ⟨_, c⟩) => some ((p, ⟨.sh, c⟩), v.set i (some (p, ⟨.sh, c⟩)))
    | none => none
def optV {α β : Type} (o : Option (α × VEnv)) (f : α → VEnv → VR β) : VR β := match o with
  | some (a, v) => f a v
  | none => .bad
def rdv {β : Type} (o : Vo) (v : VEnv) (f : PyData → Bool → VEnv → VR β) : VR β := match o.rd v with
  | some (p, c, v1) => f p c v1
  | none => .bad
def escv {β : Type} (o : Vo) (v : VEnv) (f : PyData → K → VEnv → VR β) : VR β := match o.esc v with
  | some ((p, k), v1) => f p k v1
  | none => .bad
/-! operators on values -/
def opP (o : Op) (x y : PyData) : Option PyData := match o, x, y with
  | .add, .int i, .int j => some (.int (i + j))
  | .sub, .int i, .int j => some (.int (i - j))
  | .mul, .int i, .int j => if okm i j then some (.int (i * j)) else none
  | .fdiv, .int i, .int j => if decide (0 < j) && decide (j < 1073741824) then some (.int (i / j)) else none
  | .mod, .int i, .int j => if decide (0 < j) then some (.int (i % j)) else none
  | .pow, .int i, .int j => if okp i j then some (.int (i ^ j.toNat)) else none
  | .shl, .int i, .int j => if okp i j then some (.int (i * 2 ^ j.toNat)) else none
  | .shr, .int i, .int j => if decide (0 ≤ j) then some (.int (i / 2 ^ j.toNat)) else none
  | .band, .int i, .int j => some (.int (Builtin.bitAnd i j))
  | .bor, .int i, .int j => some (.int (Builtin.bitOr i j))
  | .bxor, .int i, .int j => some (.int (Builtin.bitXor i j))
  | .add, .str x, .str y => if SL (x.length + y.length) && strOk (x ++ y) then some (.str (x ++ y)) else none
  | .add, .tuple xs, .tuple ys => if SL (xs.length + ys.length) then some (.tuple (xs ++ ys)) else none
  | .add, .list xs, .list ys => if SL (xs.length + ys.length) then some (.list (xs ++ ys)) else none
  | .mul, .tuple xs, .int k => if decide (0 ≤ k) && decide (k ≤ 1000) && decide (xs.length ≤ 1000) && !xs.isEmpty then some (.tuple (List.replicate k.toNat xs).flatten) else none
  | .mul, .list xs, .int k => if decide (0 ≤ k) && decide (k < 16777217) && SL (xs.length * k.toNat) then some (.list (List.replicate k.toNat xs).flatten) else none
  | _, _, _ => none
def eqP (x y : PyData) : Option Bool := if dOk 60 x && dOk 60 y then some (PyData.eqv x y) else none
def inP (x y : PyData) : Option Bool := if dOk 60 x && dOk 60 y then (match y with
  | .list qs => some (qs.any fun z => PyData.eqv z x)
  | .tuple qs => some (qs.any fun z => PyData.eqv z x)
  | _ => none) else none
def cmpP (o : Cm) (x y : PyData) : Option Bool := match o with
  | .eq => eqP x y
  | .ne => (eqP x y).map (!·)
  | .lt => match x, y with
    | .int i, .int j => some (decide (i < j))
    | _, _ => none
  | .le => match x, y with
    | .int i, .int j => some (decide (i ≤ j))
    | _, _ => none
  | .gt => match x, y with
    | .int i, .int j => some (decide (j < i))
    | _, _ => none
  | .ge => match x, y with
    | .int i, .int j => some (decide (j ≤ i))
    | _, _ => none
  | .is => match x, y with
    | .bool a, .bool b => some (decide (a = b))
    | .none, .none => some true
    | _, .none => some false
    | _, _ => none
  | .isnt => match x, y with
    | .bool a, .bool b => some (!decide (a = b))
    | .none, .none => some false
    | _, .none => some true
    | _, _ => none
  | .isin => inP x y
  | .notin => (inP x y).map (!·)
def truP : PyData → Option Bool
  | .none => some false
  | .bool b => some b
  | .int i => some (i != 0)
  | .tuple xs => some !xs.isEmpty
  | .list xs => some !xs.isEmpty
  | _ => none
/-- a list that is only read -/
def roK (ns : List Int) : List (PyData × PyData) := (.none, .none) :: ns.map fun n => (.int n, .none)
/-- a refusal -/
def excP (c : Nat) : PyData := .dict [(.none, .int c)]
def seqP : PyData → Option (List PyData)
  | .list xs => some xs
  | .tuple xs => some xs
  | .dict ((.none, .none) :: kvs) => some (kvs.map (·.1))
  | _ => none
def boolsP : List PyData → Option (List Bool)
  | [] => some []
  | .bool b :: ds => (boolsP ds).map (b :: ·)
  | _ => none
def intsP : List PyData → Option (List Int)
  | [] => some []
  | .int i :: ds => (intsP ds).map (i :: ·)
  | _ => none
def bltP (f : Blt) (ps : List PyData) : Option PyData := match f, ps with
  | .len, [.str z] => if SL z.length then some (.int z.length) else none
  | .len, [.list xs] => some (.int xs.length)
  | .len, [.tuple xs] => some (.int xs.length)
  | .len, [.dict ((.none, .none) :: kvs)] => some (.int kvs.length)
  | .abs, [.int i] => some (.int (if i < 0 then -i else i))
  | .max2, [.int i, .int j] => some (.int (if j > i then j else i))
  | .min2, [.int i, .int j] => some (.int (if j < i then j else i))
  | .int1, [.int i] => some (.int i)
  | .int1, [.bool b] => some (.int (if b then 1 else 0))
  | .tuple, [.list xs] => some (.tuple xs)
  | .tuple, [.tuple xs] => some (.tuple xs)
  | .list, [.list xs] => some (.list xs)
  | .list, [.tuple xs] => some (.list xs)
  | .sum, [.list xs] => (intsP xs).map fun ns => .int ns.sum
  | .all, [.list xs] => (boolsP xs).map fun bs => .bool (bs.all id)
  | .any, [.list xs] => (boolsP xs).map fun bs => .bool (bs.any id)
  | .lrng, [.int n] => if decide (-4611686018427387904 ≤ n) && decide (n ≤ 16777216) then some (.list ((List.range n.toNat).map fun k : Nat => PyData.int (k : Int))) else none
  | _, _ => none
def isiP (t : Ty) : PyData → Option Bool
  | .none => some false
  | .bool _ => some (match t with | .bool => true | .int => true | _ => false)
  | .int _ => some (match t with | .int => true | _ => false)
  | .str _ => some (match t with | .str => true | _ => false)
  | .tuple _ => some (match t with | .tuple => true | _ => false)
  | .list _ => some (match t with | .list => true | _ => false)
  | .dict _ => none
def isi2P (p : PyData) : Option Bool := match isiP .tuple p with
  | some a => match isiP .list p with
    | some b => some (a || b)
    | none => none
  | none => none
/-- the kind of a refusal -/
def excN : PyData → Option Nat
  | .dict [(.none, .int k)] => if 0 ≤ k then some k.toNat else none
  | _ => none
def scalP : PyData → Bool
  | .bool _ => true
  | .str _ => true
  | .int _ => true
  | .none => true
  | _ => false
def idxP (x i : PyData) : Option PyData := match i with
  | .int i => match seqP x with
    | some xs => match ixN xs.length i with
      | some k => xs[k]?
      | none => none
    | none => none
  | _ => none
def cutP (xs : List PyData) (lo hi : Option Int) : List PyData := (xs.drop (sIx xs.length 0 lo)).take (sIx xs.length xs.length hi - sIx xs.length 0 lo)
def sliP (x : PyData) (lo hi : Option Int) : Option PyData := match x with
  | .tuple xs => some (.tuple (cutP xs lo hi))
  | .list xs => some (.list (cutP xs lo hi))
  | _ => none
def srtP (xs : List PyData) (rev : Bool) : Option (List PyData) := if xs.all (dOk 59) && (allAl xs && srtB xs) then some (insS (PySem.W.dataLe rev id) xs) else none
/-- a list's method: the list behind it, and what is told -/
def metP (m : Met) (xs : List PyData) (vs : List PyData) : Option (List PyData × PyData) := match m, vs with
  | .append, [x] => if Nat.blt xs.length 16777216 then some (xs ++ [x], .none) else none
  | .pop, [] => match xs[xs.length - 1]? with
    | some y => some (xs.dropLast, y)
    | none => none
  | .popat, [.int i] => if SL xs.length then (match ixN xs.length i with
    | some k => match xs[k]? with
      | some y => some (xs.eraseIdx k, y)
      | none => none
    | none => none) else none
  | .insert, [.int i, x] => if decide (0 ≤ i) && decide (i ≤ 16777216) && Nat.blt xs.length 16777216 then some (xs.take i.toNat ++ [x] ++ xs.drop i.toNat, .none) else none
  | .reverse, [] => some (xs.reverse, .none)
  | .clear, [] => some ([], .none)
  | .remove, [x] => if xs.all (dOk 59) && dOk 60 x then (if Nat.blt (xs.findIdx fun z => PyData.eqv z x) xs.length then some (xs.eraseIdx (xs.findIdx fun z => PyData.eqv z x), .none) else none) else none
  | _, _ => none
def lookP (m : Met) (xs : List PyData) (x : PyData) : Option PyData := if xs.all (dOk 59) && dOk 60 x then (match m with
  | .index => if Nat.blt (xs.findIdx fun z => PyData.eqv z x) xs.length then some (.int ((xs.findIdx fun z => PyData.eqv z x : Nat) : Int)) else none
  | .count => some (.int ((xs.countP fun z => PyData.eqv z x : Nat) : Int))
  | _ => none) else none
def litP (d : D) : Option PyData := if d.pure = true then toPy [] [] 60 d else none
def optR {α β : Type} (o : Option α) (f : α → VR β) : VR β := match o with
  | some a => f a
  | none => .bad
def brV {α : Type} (b : Bool) (x y : VR α) : VR α := match b with
  | true => x
  | false => y
def top0 : K := ⟨.ex, true⟩
/-- nothing in it changes a thing -/
def smp : E → Bool
  | .var _ => true
  | .lit _ => true
  | .glo _ => true
  | .bin _ a b => smp a && smp b
  | _ => false
def isTbx (a b : E) (v : VEnv) : Bool := match a with
  | .idx (.var x) i => smp i && smp b && (match ent v x with
    | some (_, ⟨.tb, _⟩) => true
    | _ => false)
  | _ => false
def isLs (v : VEnv) (x : Nat) : Bool := match ent v x with
  | some (.list _, _) => true
  | _ => false
def isLook : Met → Bool
  | .index => true
  | .count => true
  | _ => false
def varV (i : Nat) (p : PyData) (k : K) (v : VEnv) : VR Vo := match k.t with
  | .sh => .ok (.v p k) v
  | _ => if pur p = true then .ok (.v p top0) v else .ok (.top i) v
/-! ### calls -/
inductive RC where
  | ok (p : PyData) (k : K) | exc (c : Nat) | bad
inductive RI where
  | ok (p : PyData) (k : K) (outs : VEnv) | exc (c : Nat) (outs : VEnv) | bad
/-- arguments that stay where they are are looked at -/
def argV (v : VEnv) : Vo → Option (PyData × Bool)
  | .v p k => some (p, k.c || pur p)
  | .top i => (ent v i).map fun e => (e.1, e.2.c)
def rsv (v : VEnv) : List Vo → Option (List PyData × Bool)
  | [] => some ([], true)
  | o :: os => match argV v o with
    | none => none
    | some (p, c) => match rsv v os with
      | none => none
      | some (ps, cs) => some (p :: ps, c && cs)
/-- names whose lists may be told are no longer sole -/
def dgr : List Vo → VEnv → Option VEnv
  | [], v => some v
  | .top i :: os, v => match ent v i with
    | some (p, ⟨.lk, _⟩) => none
    | some (p, ⟨_, c⟩) => dgr os (v.set i (some (p, ⟨.sh, c⟩)))
    | none => none
  | _ :: os, v => dgr os v
inductive Va where
  | io (i : Nat) | v (p : PyData) (k : K)
/-- what is handed in; names whose lists are handed in to be changed are moved in -/
def mvIn : List Va → VEnv → Option (List (PyData × K) × VEnv)
  | [], v => some ([], v)
  | .v p k :: as, v => match mvIn as v with
    | some (es, v1) => some ((p, k) :: es, v1)
    | none => none
  | .io i :: as, v => match ent v i with
    | some (p, ⟨.ex, c⟩) => match mvIn as (v.set i none) with
      | some (es, v1) => some ((p, ⟨.ex, c⟩) :: es, v1)
      | none => none
    | _ => none
def noLk : Option (PyData × K) → Option (PyData × K)
  | some (_, ⟨.lk, _⟩) => none
  | o => o
def mvOut : List Va → VEnv → VEnv → VEnv
  | .io i :: as, o :: os, v => mvOut as os (v.set i (noLk o))
  | .v _ _ :: as, _ :: os, v => mvOut as os v
  | _, _, v => v
def callP (r : RC) (os : List Vo) (cs : Bool) (v : VEnv) : VR Vo := match r with
  | .ok p k => if (k.c || pur p) = true then .ok (.v p ⟨k.t, true⟩) v else (match dgr os v with
    | some v1 => .ok (.v p ⟨k.t, cs⟩) v1
    | none => .bad)
  | .exc c => .exc c v
  | .bad => .bad
def callI (r : RI) (as : List Va) (v : VEnv) : VR Vo := match r with
  | .ok p k outs => .ok (.v p k) (mvOut as outs v)
  | .exc c outs => .exc c (mvOut as outs v)
  | .bad => .bad
/-! ### what is walked -/
def Tg.nms : Tg → List Nat
  | .nm i => [i]
  | .tu is => is
structure Vi where
  xs : List PyData
  c : Bool
  os : List Vo
def tops : List Vo → List Nat
  | [] => []
  | .top i :: os => i :: tops os
  | _ :: os => tops os
def unlike (l : List Nat) : Bool := decide l.Nodup
def rdL : List Vo → VEnv → Option (List (PyData × Bool) × VEnv)
  | [], v => some ([], v)
  | o :: os, v => match o.rd v with
    | none => none
    | some (p, c, v1) => match rdL os v1 with
      | none => none
      | some (ps, v2) => some ((p, c) :: ps, v2)
/-- what is walked is shared from here on -/
def escL : List Vo → VEnv → Option VEnv
  | [], v => some v
  | o :: os, v => match o.esc v with
    | none => none
    | some (_, v1) => escL os v1
def setAllV (c : Bool) : List Nat → List PyData → VEnv → Option VEnv
  | [], [], v => some v
  | i :: is, p :: ps, v => setAllV c is ps (v.set i (some (p, ⟨.sh, c || pur p⟩)))
  | _, _, _ => none
def tgV (c : Bool) : Tg → PyData → VEnv → Option VEnv
  | .nm i, p, v => some (v.set i (some (p, ⟨.sh, c || pur p⟩)))
  | .tu is, .tuple ps, v => setAllV c is ps v
  | _, _, _ => none
def wipeV (v : VEnv) : List Nat → VEnv
  | [] => v
  | i :: is => (wipeV v is).set i none
def backV (v1 : VEnv) : List Nat → VEnv → VEnv
  | [], v => v
  | i :: is, v => (backV v1 is v).set i (ent v1 i)
def vcl (turn : PyData → VEnv → VR (Option (PyData × K))) : List PyData → VEnv → VR (List (PyData × K))
  | [], v => .ok [] v
  | x :: xs, v => match turn x v with
    | .ok none v1 => vcl turn xs v1
    | .ok (some y) v1 => match vcl turn xs v1 with
      | .ok ys v2 => .ok (y :: ys) v2
      | _ => .bad
    | _ => .bad
/-- a list made of these is a table -/
def isTb (ys : List (PyData × K)) : Bool := ys.all fun e => flatP e.1 && (match e.2 with | ⟨.ex, true⟩ => true | _ => false)
def frE : E → Bool
  | .blt .list _ => true
  | .lst _ => true
  | .comp _ _ _ _ _ => true
  | _ => false
def lsK (fr : Bool) (ys : List (PyData × K)) : K := if fr && isTb ys then ⟨.tb, true⟩ else ⟨.ex, ys.all fun e => (nK e.1 e.2).c⟩
section
variable (cp : Nat → List PyData → RC) (ci : Nat → List (PyData × K) → RI) (io : Nat → List Nat)
/-- items that are held -/
def compV (own : List Nat) (tg : Tg) (c : Bool) (cond : VEnv → VR Bool) (elt : VEnv → VR Vo) (x : PyData) (v : VEnv) : VR (Option (PyData × K)) := match tgV c tg x v with
  | none => .bad
  | some v1 => vb (cond v1) fun b v2 => brV b (vb (elt v2) fun o v3 => escv o v3 fun p k v4 => .ok (some (p, k)) (wipeV v4 own)) (.ok none (wipeV v2 own))
mutual
def vev : E → VEnv → VR Vo
  | .var i, v => match ent v i with
    | some (p, k) => varV i p k v
    | none => .bad
  | .lit d, v => optR (litP d) fun p => .ok (.v p top0) v
  | .glo d, v => optR (litP d) fun p => .ok (.v p top0) v
  | .bin o a b, v => vb (vev a v) fun x v1 => vb (vev b v1) fun y v2 => rdv x v2 fun p c v3 => rdv y v3 fun q e v4 => optR (opP o p q) fun r => .ok (.v r ⟨.ex, c && e⟩) v4
  | .neg a, v => vb (vev a v) fun x v1 => rdv x v1 fun p _ v2 => match p with
    | .int i => .ok (.v (.int (-i)) top0) v2
    | _ => .bad
  | .cmp o a b, v => vb (vev a v) fun x v1 => vb (vev b v1) fun y v2 => rdv x v2 fun p c v3 => rdv y v3 fun q e v4 => optR (cmpP o p q) fun r => .ok (.v (.bool r) top0) v4
  | .chn o p a b c, v => vb (vev a v) fun x v1 => vb (vev b v1) fun y v2 => rdv x v2 fun px _ v3 => rdv y v3 fun py _ v4 => optR (cmpP o px py) fun r =>
      brV r (vb (vev c v4) fun z v5 => rdv y v5 fun py _ v6 => rdv z v6 fun pz _ v7 => optR (cmpP p py pz) fun r => .ok (.v (.bool r) top0) v7) (.ok (.v (.bool false) top0) v4)
  | .and a b, v => vb (vev a v) fun x v1 => rdv x v1 fun p _ v2 => match p with
    | .bool k => brV k (vev b v2) (.ok (.v (.bool false) top0) v2)
    | _ => .bad
  | .or a b, v => vb (vev a v) fun x v1 => rdv x v1 fun p _ v2 => match p with
    | .bool k => brV k (.ok (.v (.bool true) top0) v2) (vev b v2)
    | _ => .bad
  | .not a, v => vb (vev a v) fun x v1 => rdv x v1 fun p _ v2 => match p with
    | .bool k => .ok (.v (.bool !k) top0) v2
    | _ => .bad
  | .ife c a b, v => vb (vev c v) fun x v1 => rdv x v1 fun p _ v2 => optR (truP p) fun r => brV r (vev a v2) (vev b v2)
  | .tup es, v => vb (vevs es v) fun ps v1 => if SL ps.length then .ok (.v (.tuple (ps.map (·.1))) ⟨.ex, ps.all fun e => (nK e.1 e.2).c⟩) v1 else .bad
  | .lst es, v => vb (vevs es v) fun ps v1 => if SL ps.length then .ok (.v (.list (ps.map (·.1))) (lsK false ps)) v1 else .bad
  | .idx a b, v => if isTbx a b v = true then (match a with
      | .idx (.var x) i => vb (vev i v) fun o v1 => rdv o v1 fun q _ v2 => vb (vev b v2) fun u v3 => rdv u v3 fun r _ v4 => match ent v4 x with
        | some (p, ⟨.tb, _⟩) => optR (idxP p q) fun row => optR (idxP row r) fun z => .ok (.v z ⟨.ex, true⟩) v4
        | _ => .bad
      | _ => .bad)
    else vb (vev a v) fun x v1 => vb (vev b v1) fun y v2 => rdv y v2 fun q _ v3 => rdv x v3 fun p c v4 => optR (idxP p q) fun r => .ok (.v r ⟨.sh, c⟩) v4
  | .sli a lo hi, v => vb (vev a v) fun x v1 => vb (vevo lo v1) fun l v2 => vb (vevo hi v2) fun h v3 => rdv x v3 fun p c v4 => optR (sliP p l h) fun r => .ok (.v r ⟨.ex, c⟩) v4
  | .call f es, v => vb (vevA es v) fun os v1 => match rsv v1 os with
    | some (ps, cs) => callP (cp f ps) os cs v1
    | none => .bad
  | .calli f es, v => vb (vevI (io f) 0 es v) fun as v1 => match mvIn as v1 with
    | some (ps, v2) => callI (ci f ps) as v2
    | none => .bad
  | .blt f es, v => vb (vevR es v) fun os v1 => optR (rdL os v1) fun q => optR (bltP f (q.1.map (·.1))) fun r => .ok (.v r ⟨.ex, q.1.all (·.2)⟩) q.2
  | .isi a t, v => vb (vev a v) fun x v1 => rdv x v1 fun p _ v2 => optR (isiP t p) fun r => .ok (.v (.bool r) top0) v2
  | .isi2 a, v => vb (vev a v) fun x v1 => rdv x v1 fun p _ v2 => optR (isi2P p) fun r => .ok (.v (.bool r) top0) v2
  | .ise a cs, v => vb (vev a v) fun x v1 => rdv x v1 fun p _ v2 => optR (excN p) fun k => .ok (.v (.bool (cs.contains k)) top0) v2
  | .met m o es, v => match o with
    | .var x => if isLs v x = true then (vb (vevs es v) fun ps v1 => if isLook m = true then (match ps with
        | [q] => rdv (.top x) v1 fun p _ v2 => (match p with
          | .list xs => optR (lookP m xs q.1) fun r => .ok (.v r top0) v2
          | _ => .bad)
        | _ => .bad) else (match ent v1 x with
        | some (.list xs, k) => optR (exK k) fun c => optR (metP m xs (ps.map (·.1))) fun r => .ok (.v r.2 ⟨.sh, c && ps.all fun e => (nK e.1 e.2).c⟩) (v1.set x (some (.list r.1, nK (.list r.1) ⟨.ex, c && ps.all fun e => (nK e.1 e.2).c⟩)))
        | _ => .bad)) else .bad
    | _ => .bad
  | .ext o e, v => match o with
    | .var x => if isLs v x = true then (vb (vev e v) fun z v1 => rdv z v1 fun q d v2 => (match q with
      | .list ys => match ent v2 x with
        | some (.list xs, k) => optR (exK k) fun c => if SL (xs.length + ys.length) then .ok (.v .none top0) (v2.set x (some (.list (xs ++ ys), nK (.list (xs ++ ys)) ⟨.ex, c && d⟩))) else .bad
        | _ => .bad
      | _ => .bad)) else .bad
    | _ => .bad
  | .srt a rev, v => vb (vev a v) fun x v1 => rdv x v1 fun p c v2 => match p with
    | .list xs => optR (srtP xs rev) fun ys => .ok (.v (.list ys) ⟨.ex, c⟩) v2
    | _ => .bad
  | .rev a, v => vb (vev a v) fun x v1 => rdv x v1 fun p c v2 => match p with
    | .list xs => .ok (.v (.list xs.reverse) ⟨.ex, c⟩) v2
    | _ => .bad
  | .comp own it tg cond elt, v => vb (vevi it v) fun j v1 => if SL j.xs.length && tg.nms.all (own.contains ·) && unlike (tops j.os) then
      (match vcl (compV own tg j.c (fun v => vevc cond v) (fun v => vev elt v)) j.xs (wipeV (wipeV v1 (tops j.os)) own) with
        | .ok ys v3 => .ok (.v (.list (ys.map (·.1))) (lsK (frE elt) ys)) (backV v1 (tops j.os) v3)
        | _ => .bad) else .bad
def vevo : Eo → VEnv → VR (Option Int)
  | .no, v => .ok none v
  | .of e, v => vb (vev e v) fun x v1 => rdv x v1 fun p _ v2 => match p with
    | .int i => .ok (some i) v2
    | _ => .bad
def vevc : Eo → VEnv → VR Bool
  | .no, v => .ok true v
  | .of e, v => vb (vev e v) fun x v1 => rdv x v1 fun p _ v2 => optR (truP p) fun r => .ok r v2
def vevs : Es → VEnv → VR (List (PyData × K))
  | .nil, v => .ok [] v
  | .cons e es, v => vb (vev e v) fun x v1 => escv x v1 fun p k v2 => vb (vevs es v2) fun ps v3 => .ok ((p, k) :: ps) v3
/-- items that are only looked at -/
def vevR : Es → VEnv → VR (List Vo)
  | .nil, v => .ok [] v
  | .cons e es, v => vb (vev e v) fun x v1 => vb (vevR es v1) fun os v2 => .ok (x :: os) v2
/-- arguments of a call that changes nothing -/
def vevA : Es → VEnv → VR (List Vo)
  | .nil, v => .ok [] v
  | .cons e es, v => vb (vev e v) fun x v1 => vb (vevA es v1) fun os v3 => .ok (x :: os) v3
/-- arguments of a call that changes some of them -/
def vevI (io : List Nat) : Nat → Es → VEnv → VR (List Va)
  | _, .nil, v => .ok [] v
  | n, .cons e es, v => vb (vev e v) fun x v1 => if io.contains n = true then (match x with
      | .top i => vb (vevI io (n + 1) es v1) fun os v3 => .ok (.io i :: os) v3
      | .v p ⟨.ex, c⟩ => vb (vevI io (n + 1) es v1) fun os v3 => .ok (.v p ⟨.ex, c⟩ :: os) v3
      | .v p _ => vb (vevI io (n + 1) es v1) fun os v3 => .ok (.v p ⟨.sh, pur p⟩ :: os) v3)
    else escv x v1 fun p k v2 => vb (vevI io (n + 1) es v2) fun os v3 => .ok (.v p ⟨.sh, pur p⟩ :: os) v3
def vevi : I → VEnv → VR Vi
  | .seq e, v => vb (vev e v) fun x v1 => rdv x v1 fun p c v2 => optR (seqP p) fun xs => .ok ⟨xs, c, [x]⟩ v2
  | .rng1 a, v => vb (vev a v) fun x v1 => rdv x v1 fun p _ v2 => match p with
    | .int j => if decide (-4611686018427387904 ≤ j) && decide (j < 4611686018427387904) then .ok ⟨(List.range j.toNat).map fun k : Nat => .int (k : Int), true, []⟩ v2 else .bad
    | _ => .bad
  | .rng2 a b, v => vb (vev a v) fun x v1 => vb (vev b v1) fun y v2 => rdv x v2 fun p _ v3 => rdv y v3 fun q _ v4 => match p, q with
    | .int i, .int j => if decide (-4611686018427387904 ≤ i) && decide (i < 4611686018427387904) && decide (-4611686018427387904 ≤ j) && decide (j < 4611686018427387904) then .ok ⟨(List.range (j - i).toNat).map fun k : Nat => .int (i + (k : Int)), true, []⟩ v4 else .bad
    | _, _ => .bad
  | .rng3 a b c, v => vb (vev a v) fun x v1 => vb (vev b v1) fun y v2 => vb (vev c v2) fun z v3 => rdv x v3 fun p _ v4 => rdv y v4 fun q _ v5 => rdv z v5 fun r _ v6 => match p, q, r with
    | .int i, .int j, .int k => if decide (k = -1) && decide (-1000000 ≤ i) && decide (i ≤ 1000000) && decide (-1000000 ≤ j) && decide (j ≤ 1000000) then .ok ⟨(List.range (i - j).toNat).map fun k : Nat => .int (i + (k : Int) * (-1)), true, []⟩ v6 else .bad
    | _, _, _ => .bad
  | .enu e, v => vb (vev e v) fun x v1 => rdv x v1 fun p c v2 => optR (seqP p) fun xs => .ok ⟨xs.zipIdx.map fun q => .tuple [.int (q.2 : Int), q.1], c, [x]⟩ v2
  | .zip a b, v => vb (vev a v) fun x v1 => vb (vev b v1) fun y v2 => rdv x v2 fun p c v3 => rdv y v3 fun q d v4 => optR (seqP p) fun xs => optR (seqP q) fun ys => .ok ⟨(xs.zip ys).map fun q => .tuple [q.1, q.2], c && d, [x, y]⟩ v4
end
/-! ### statements -/
inductive VO where
  | nx (v : VEnv) | rt (p : PyData) (k : K) (v : VEnv) | bk (v : VEnv) | ct (v : VEnv) | exc (c : Nat) (v : VEnv) | bad
def vbO {α : Type} (r : VR α) (f : α → VEnv → VO) : VO := match r with
  | .ok a v => f a v
  | .exc c v => .exc c v
  | .bad => .bad
def optO {α : Type} (o : Option α) (f : α → VO) : VO := match o with
  | some a => f a
  | none => .bad
def brW (b : Bool) (x y : VO) : VO := match b with
  | true => x
  | false => y
def thV (o : VO) (f : VEnv → VO) : VO := match o with
  | .nx v => f v
  | o => o
/-- names that first stood within a loop stand no longer -/
def scp : VEnv → VEnv → VEnv
  | none :: v0, _ :: v => none :: scp v0 v
  | some _ :: v0, e :: v => e :: scp v0 v
  | _, _ => []
def vfl (v0 : VEnv) (turn : PyData → VEnv → VO) : List PyData → VEnv → VO
  | [], v => .nx v
  | x :: xs, v => match turn x v with
    | .nx v1 => vfl v0 turn xs (scp v0 v1)
    | .ct v1 => vfl v0 turn xs (scp v0 v1)
    | .bk v1 => .nx (scp v0 v1)
    | o => o
def vwl (v0 : VEnv) (test : VEnv → VR Bool) (body : VEnv → VO) : Nat → VEnv → VO
  | 0, _ => .bad
  | f + 1, v => match test v with
    | .ok false v1 => .nx v1
    | .ok true v1 => match body v1 with
      | .nx v2 => vwl v0 test body f (scp v0 v2)
      | .ct v2 => vwl v0 test body f (scp v0 v2)
      | .bk v2 => .nx (scp v0 v2)
      | o => o
    | .exc c v1 => .exc c v1
    | .bad => .bad
def setK (M : List Nat) (i : Nat) (p : PyData) (k : K) : K := if M.contains i = true then nK p k else ⟨.sh, (nK p k).c⟩
/-- several names at once -/
def parV (M : List Nat) : List Nat → List (PyData × K) → VEnv → Option VEnv
  | [], [], v => some v
  | i :: is, (p, k) :: ps, v => parV M is ps (v.set i (some (p, setK M i p k)))
  | _, _, _ => none
/-- a sole list of a name of the def's own is told as such -/
def mvR (R : List Nat) (o : Vo) (v : VEnv) : Option ((PyData × K) × VEnv) := match o with
  | .v p k => some ((p, k), v)
  | .top i => match ent v i with
    | some (p, ⟨.ex, c⟩) => if R.contains i = true then o.esc v else some ((p, ⟨.ex, c⟩), v.set i none)
    | _ => o.esc v
def forV (tg : Tg) (c : Bool) (body : VEnv → VO) (x : PyData) (v : VEnv) : VO := optO (tgV c tg x v) body
/-- a place of a name's list -/
def putY (y : Nat) (p : PyData) (k : K) (i : E) (v : VEnv) (KV : VEnv → VO) : VO := if isLs v y = true then vbO (vev cp ci io i v) fun j v3 => optO (j.rd v3) fun q => (match q.1, ent q.2.2 y with
      | .int n, some (.list xs, k2) => optO (exK k2) fun c => optO (ixN xs.length n) fun m => KV (q.2.2.set y (some (.list (xs.set m p), nK (.list (xs.set m p)) ⟨.ex, c && (nK p k).c⟩)))
      | _, _ => .bad) else .bad
/-- what is told of a refusal -/
def scalO (r : VR Vo) (v : VEnv) : VO := match r with
  | .ok o v3 => optO (o.rd v3) fun q => if scalP q.1 = true then .rt q.1 top0 v else .bad
  | _ => .bad
variable (M R : List Nat) (fu : Nat)
mutual
def vx : T → VEnv → VO
  | .set i e, v => if R.contains i = true then .bad else vbO (vev cp ci io e v) fun x v1 => optO (x.esc v1) fun r => .nx (r.2.set i (some (r.1.1, setK M i r.1.1 r.1.2)))
  | .unp is e, v => if is.any (R.contains ·) = true then .bad else vbO (vev cp ci io e v) fun x v1 => optO (x.esc v1) fun r => optO (tgV r.1.2.c (.tu is) r.1.1 r.2) fun v2 => .nx v2
  | .put o i e, v => vbO (vev cp ci io e v) fun x v1 => optO (x.esc v1) fun r => (match o with
    | .var y => if isLs r.2 y = true then vbO (vev cp ci io i r.2) fun j v3 => optO (j.rd v3) fun q => (match q.1, ent q.2.2 y with
      | .int n, some (.list xs, k) => optO (exK k) fun c => optO (ixN xs.length n) fun m => .nx (q.2.2.set y (some (.list (xs.set m r.1.1), nK (.list (xs.set m r.1.1)) ⟨.ex, c && (nK r.1.1 r.1.2).c⟩)))
      | _, _ => .bad) else .bad
    | .idx (.var y) h => if smp h && smp i && isLs r.2 y then (vbO (vev cp ci io h r.2) fun j v3 => optO (j.rd v3) fun q => vbO (vev cp ci io i q.2.2) fun j2 v4 => optO (j2.rd v4) fun q2 => (match q.1, q2.1, ent q2.2.2 y with
      | .int n, .int n2, some (.list xs, ⟨.tb, _⟩) => optO (ixN xs.length n) fun m => (match xs[m]? with
        | some (.list ys) => optO (ixN ys.length n2) fun m2 => if pur r.1.1 = true then .nx (q2.2.2.set y (some (.list (xs.set m (.list (ys.set m2 r.1.1))), ⟨.tb, true⟩))) else .bad
        | _ => .bad)
      | _, _, _ => .bad)) else .bad
    | _ => .bad)
  | .exp e, v => vbO (vev cp ci io e v) fun _ v1 => .nx v1
  | .ret e, v => vbO (vev cp ci io e v) fun x v1 => optO (mvR R x v1) fun r => .rt r.1.1 r.1.2 r.2
  | .retn, v => .rt .none top0 v
  | .ife c a b, v => vbO (vev cp ci io c v) fun x v1 => optO (x.rd v1) fun q => optO (truP q.1) fun r => brW r (vxs a q.2.2) (vxs b q.2.2)
  | .fo it tg b, v => if tg.nms.any (R.contains ·) = true then .bad else vbO (vevi cp ci io it v) fun j v1 => optO (escL j.os v1) fun v2 => vfl v2 (forV tg j.c (fun v => vxs b v)) j.xs v2
  | .wh c b, v => vwl v (fun v => vevc cp ci io (.of c) v) (fun v => vxs b v) fu v
  | .aug i o e, v => if R.contains i = true then .bad else (match ent v i with
    | some (.int n, _) => vbO (vev cp ci io e v) fun y v1 => optO (y.rd v1) fun q => optO (opP o (.int n) q.1) fun r => (match r with
      | .int m => .nx (q.2.2.set i (some (.int m, ⟨.sh, true⟩)))
      | _ => .bad)
    | _ => .bad)
  | .rai c, v => .exc c v
  | .brk, v => .bk v
  | .cnt, v => .ct v
  | .pas, v => .nx v
  | .par is es, v => if is.any (R.contains ·) = true then .bad else vbO (vevs cp ci io es v) fun ps v1 => optO (parV M is ps v1) fun v2 => .nx v2
  | .putt o i o2 i2 e e2, v => match o, o2 with
    | .var y, .var y2 => vbO (vevs cp ci io (.cons e (.cons e2 .nil)) v) fun ps v1 => (match ps with
      | [(p, k), (p2, k2)] => putY cp ci io y p k i v1 fun v2 => putY cp ci io y2 p2 k2 i2 v2 fun v3 => .nx v3
      | _ => .bad)
    | _, _ => .bad
  | .tre b i cs e, v => if R.contains i = true then .bad else match vxs b v with
    | .exc k v2 => if cs.contains k = true then scalO (vev cp ci io e (v2.set i (some (excP k, ⟨.sh, false⟩)))) v2 else .exc k v2
    | o => o
def vxs : B → VEnv → VO
  | .nil, v => .nx v
  | .seq t b, v => match vx t v with
    | .nx v1 => vxs b v1
    | o => o
end
end
/-- how a told thing is held: whatever is new and flat is sole -/
def flK (p : PyData) (k : K) : K := match k with
  | ⟨.sh, true⟩ => if flatP p = true then ⟨.ex, true⟩ else ⟨.sh, true⟩
  | k => k
def retK (p : PyData) (k : K) : K := if pur p = true then top0 else flK p (nK p k)
def retI (p : PyData) (k : K) : K := if pur p = true then top0 else nK p k
def finC (o : VO) : RC := match o with
  | .rt p k _ => .ok p (retK p k)
  | .nx _ => .ok .none top0
  | .exc c _ => .exc c
  | _ => .bad
def finI (o : VO) (n : Nat) : RI := match o with
  | .rt p k v => .ok p (retI p k) (v.take n)
  | .nx v => .ok .none top0 (v.take n)
  | .exc c v => .exc c (v.take n)
  | _ => .bad
structure VT where
  G : Tab
  mu : Nat → List Nat
  io : Nat → List Nat
def vstart (n : Nat) (es : List (PyData × K)) : VEnv := es.map some ++ List.replicate (n - es.length) none
mutual
def vI (G : VT) : Nat → Nat → List (PyData × K) → RI
  | 0, _, _ => .bad
  | d + 1, f, es => match G.G.fns f with
    | none => .bad
    | some fn => if Nat.beq es.length fn.ar then finI (vxs (vP G d) (vI G d) G.io (G.mu f) (G.io f) G.G.fu fn.body (vstart fn.n es)) fn.ar else .bad
def vP (G : VT) : Nat → Nat → List PyData → RC
  | 0, _, _ => .bad
  | d + 1, f, ps => match G.G.fns f with
    | none => .bad
    | some fn => if Nat.beq ps.length fn.ar then finC (vxs (vP G d) (vI G d) G.io (G.mu f) [] G.G.fu fn.body (vstart fn.n (ps.map fun p => (p, ⟨.sh, pur p⟩)))) else .bad
end
end Z
/-! Y2: a value as data in the store; operators. -/
namespace Z
open PySem
mutual
/-- the thing d reads as the value; P: which places of the store it may use -/
def Val (P : Nat → Prop) (old S : Sto) : PyData → D → Prop
  | .none, d => d = .non
  | .bool b, d => d = .bl b
  | .int i, d => d = .int i
  | .str x, d => d = .str x ∧ strOk x = true
  | .tuple ps, d => ∃ xs, d = .tup xs ∧ Vals P old S ps xs
  | .list ps, d => ∃ xs, Vals P old S ps xs ∧ ∃ a, d = .lst a ∧ P a ∧ at_ old S a = some (.lst xs)
  | .dict kvs, d => (∃ c, kvs = [(.none, .int (c : Nat))] ∧ d = .exc c) ∨ ∃ ns a, kvs = roK ns ∧ d = .lst a ∧ P a ∧ at_ old S a = some (.ro (ns.map D.int))
def Vals (P : Nat → Prop) (old S : Sto) : List PyData → List D → Prop
  | [], ds => ds = []
  | p :: ps, ds => ∃ x xs, ds = x :: xs ∧ Val P old S p x ∧ Vals P old S ps xs
end
/-- a thing just made may be a list that nobody holds -/
def ValF (P : Nat → Prop) (old S : Sto) (p : PyData) (d : D) : Prop := match p with
  | .list ps => ∃ xs, Vals P old S ps xs ∧ (d = .tmp xs ∨ ∃ a, d = .lst a ∧ P a ∧ at_ old S a = some (.lst xs))
  | p => Val P old S p d
/-- its own list may stand anywhere -/
def ValE (P : Nat → Prop) (old S : Sto) (p : PyData) (d : D) : Prop := match p with
  | .list ps => ∃ xs, Vals P old S ps xs ∧ (d = .tmp xs ∨ ∃ a, d = .lst a ∧ at_ old S a = some (.lst xs))
  | p => Val P old S p d
def nl (d : D) : Prop := ∀ a, d ≠ .lst a
section
variable {P Q : Nat → Prop} {old S : Sto} {p : PyData} {d : D} {ps qs : List PyData} {xs ys : List D}
theorem Val.toF (h : Val P old S p d) : ValF P old S p d := by
  cases p with
  | list ps => obtain ⟨xs, h1, h2⟩ := h; exact ⟨xs, h1, .inr h2⟩
  | _ => exact h
theorem ValF.toE (h : ValF P old S p d) : ValE P old S p d := by
  cases p with
  | list ps =>
    obtain ⟨xs, h1, h2⟩ := h
    exact ⟨xs, h1, h2.imp id fun ⟨a, h2, _, h3⟩ => ⟨a, h2, h3⟩⟩
  | _ => exact h
theorem Val.toE (h : Val P old S p d) : ValE P old S p d := h.toF.toE
theorem Val.nt (h : Val P old S p d) : ∀ zs, d ≠ .tmp zs := by
  intro zs e
  subst e
  cases p with
  | none => cases h
  | bool b => cases h
  | int b => cases h
  | str b => cases h.1
  | tuple ps => obtain ⟨_, q, _⟩ := h; cases q
  | list ps => obtain ⟨_, _, _, q, _⟩ := h; cases q
  | dict ps => rcases h with ⟨_, _, q⟩ | ⟨_, _, _, q, _⟩ <;> cases q
theorem ValF.toV (h : ValF P old S p d) (ht : ∀ zs, d ≠ .tmp zs) : Val P old S p d := by
  cases p with
  | list ps =>
    obtain ⟨xs, h1, h2⟩ := h
    exact ⟨xs, h1, h2.resolve_left (ht xs)⟩
  | _ => exact h
mutual
theorem Val.mono (hPQ : ∀ a, P a → Q a) : ∀ (p : PyData) (d : D), Val P old S p d → Val Q old S p d
  | .none, _, h => h | .bool _, _, h => h | .int _, _, h => h | .str _, _, h => h
  | .dict _, _, h => h.imp id fun ⟨ns, a, e1, e2, e3, e4⟩ => ⟨ns, a, e1, e2, hPQ a e3, e4⟩
  | .tuple ps, d, ⟨xs, h1, h2⟩ => ⟨xs, h1, Vals.mono hPQ ps xs h2⟩
  | .list ps, d, ⟨xs, h1, h2⟩ => ⟨xs, Vals.mono hPQ ps xs h1, by obtain ⟨a, e1, e2, e3⟩ := h2; exact ⟨a, e1, hPQ a e2, e3⟩⟩
theorem Vals.mono (hPQ : ∀ a, P a → Q a) : ∀ (ps : List PyData) (xs : List D), Vals P old S ps xs → Vals Q old S ps xs
  | [], _, h => h
  | p :: ps, _, ⟨x, xs, e, h1, h2⟩ => ⟨x, xs, e, Val.mono hPQ p x h1, Vals.mono hPQ ps xs h2⟩
end
mutual
/-- what holds no list reads the same anywhere -/
theorem Val.pure (o2 S2 : Sto) : ∀ (p : PyData) (d : D), pur p = true → Val P old S p d → Val Q o2 S2 p d
  | .none, _, _, h => h | .bool _, _, _, h => h | .int _, _, _, h => h | .str _, _, _, h => h | .dict _, _, hp, h => by simp [pur] at hp
  | .tuple ps, d, hp, ⟨xs, h1, h2⟩ => ⟨xs, h1, Vals.pure o2 S2 ps xs (by simpa only [pur] using hp) h2⟩
  | .list ps, d, hp, _ => by simp [pur] at hp
theorem Vals.pure (o2 S2 : Sto) : ∀ (ps : List PyData) (xs : List D), purs ps = true → Vals P old S ps xs → Vals Q o2 S2 ps xs
  | [], _, _, h => h
  | p :: ps, _, hp, ⟨x, xs, e, h1, h2⟩ => by
    simp only [purs, Bool.and_eq_true] at hp
    exact ⟨x, xs, e, Val.pure o2 S2 p x hp.1 h1, Vals.pure o2 S2 ps xs hp.2 h2⟩
end
mutual
theorem Val.isPure : ∀ (p : PyData) (d : D), pur p = true → Val P old S p d → d.pure = true
  | .none, _, _, h => by rw [h]; rfl
  | .bool _, _, _, h => by rw [h]; rfl
  | .int _, _, _, h => by rw [h]; rfl
  | .str _, _, _, h => by rw [h.1]; rfl
  | .dict _, _, hp, h => by simp [pur] at hp
  | .tuple ps, d, hp, ⟨xs, h1, h2⟩ => by
    rw [h1]
    simp only [D.pure]
    exact Vals.isPure ps xs (by simpa only [pur] using hp) h2
  | .list ps, d, hp, _ => by simp [pur] at hp
theorem Vals.isPure : ∀ (ps : List PyData) (xs : List D), purs ps = true → Vals P old S ps xs → D.pureAll xs = true
  | [], _, _, h => by rw [h]; rfl
  | p :: ps, _, hp, ⟨x, xs, e, h1, h2⟩ => by
    simp only [purs, Bool.and_eq_true] at hp
    rw [e]
    simp only [D.pureAll, Val.isPure p x hp.1 h1, Vals.isPure ps xs hp.2 h2, Bool.and_self]
end
/-! stores that change -/
theorem at_app {old S more : Sto} {a : Nat} {c : Cell} (h : at_ old S a = some c) : at_ old (S ++ more) a = some c := by
  unfold at_ at h ⊢
  rw [← List.append_assoc, List.getElem?_append_left (List.getElem?_eq_some_iff.mp h).1]
  exact h
theorem at_wr {old S : Sto} {a b : Nat} {c : Cell} {ys : List D} (h : at_ old S b = some c) (ha : old.length ≤ a) (hb : b ≠ a) : at_ old (wr old S a ys) b = some c := by
  unfold at_ wr at *
  by_cases hlt : b < old.length
  · rw [List.getElem?_append_left hlt] at h ⊢; exact h
  · rw [List.getElem?_append_right (by omega)] at h ⊢
    rw [List.getElem?_set_ne (by omega)]; exact h
mutual
theorem Val.app {more : Sto} : ∀ (p : PyData) (d : D), Val P old S p d → Val P old (S ++ more) p d
  | .none, _, h => h | .bool _, _, h => h | .int _, _, h => h | .str _, _, h => h
  | .dict _, _, h => h.imp id fun ⟨ns, a, e1, e2, e3, e4⟩ => ⟨ns, a, e1, e2, e3, at_app e4⟩
  | .tuple ps, d, ⟨xs, h1, h2⟩ => ⟨xs, h1, Vals.app ps xs h2⟩
  | .list ps, d, ⟨xs, h1, h2⟩ => ⟨xs, Vals.app ps xs h1, by obtain ⟨a, e1, e2, e3⟩ := h2; exact ⟨a, e1, e2, at_app e3⟩⟩
theorem Vals.app {more : Sto} : ∀ (ps : List PyData) (xs : List D), Vals P old S ps xs → Vals P old (S ++ more) ps xs
  | [], _, h => h
  | p :: ps, _, ⟨x, xs, e, h1, h2⟩ => ⟨x, xs, e, Val.app p x h1, Vals.app ps xs h2⟩
end
mutual
theorem Val.wr {a : Nat} {ws : List D} (ha : old.length ≤ a) (hP : ¬ P a) : ∀ (p : PyData) (d : D), Val P old S p d → Val P old (wr old S a ws) p d
  | .none, _, h => h | .bool _, _, h => h | .int _, _, h => h | .str _, _, h => h
  | .dict _, _, h => h.imp id fun ⟨ns, b, e1, e2, e3, e4⟩ => ⟨ns, b, e1, e2, e3, at_wr e4 ha (fun e => hP (e ▸ e3))⟩
  | .tuple ps, d, ⟨xs, h1, h2⟩ => ⟨xs, h1, Vals.wr ha hP ps xs h2⟩
  | .list ps, d, ⟨xs, h1, h2⟩ => ⟨xs, Vals.wr ha hP ps xs h1, by obtain ⟨b, e1, e2, e3⟩ := h2; exact ⟨b, e1, e2, at_wr e3 ha (fun e => hP (e ▸ e2))⟩⟩
theorem Vals.wr {a : Nat} {ws : List D} (ha : old.length ≤ a) (hP : ¬ P a) : ∀ (ps : List PyData) (xs : List D), Vals P old S ps xs → Vals P old (wr old S a ws) ps xs
  | [], _, h => h
  | p :: ps, _, ⟨x, xs, e, h1, h2⟩ => ⟨x, xs, e, Val.wr ha hP p x h1, Vals.wr ha hP ps xs h2⟩
end
mutual
/-- the new part counted to the old one -/
theorem Val.froz : ∀ (p : PyData) (d : D), Val P (old ++ S) [] p d ↔ Val P old S p d
  | .none, _ => Iff.rfl | .bool _, _ => Iff.rfl | .int _, _ => Iff.rfl | .str _, _ => Iff.rfl
  | .dict _, d => by
    have e : ∀ a, at_ (old ++ S) [] a = at_ old S a := fun a => by unfold at_; rw [List.append_nil]
    exact ⟨fun h => h.imp id fun ⟨ns, a, e1, e2, e3, e4⟩ => ⟨ns, a, e1, e2, e3, by rw [← e]; exact e4⟩, fun h => h.imp id fun ⟨ns, a, e1, e2, e3, e4⟩ => ⟨ns, a, e1, e2, e3, by rw [e]; exact e4⟩⟩
  | .tuple ps, d => ⟨fun ⟨xs, h1, h2⟩ => ⟨xs, h1, (Vals.froz ps xs).mp h2⟩, fun ⟨xs, h1, h2⟩ => ⟨xs, h1, (Vals.froz ps xs).mpr h2⟩⟩
  | .list ps, d => by
    have e : ∀ a, at_ (old ++ S) [] a = at_ old S a := fun a => by unfold at_; rw [List.append_nil]
    exact ⟨fun ⟨xs, h1, h2⟩ => ⟨xs, (Vals.froz ps xs).mp h1, by obtain ⟨a, e1, e2, e3⟩ := h2; exact ⟨a, e1, e2, by rw [← e]; exact e3⟩⟩,
      fun ⟨xs, h1, h2⟩ => ⟨xs, (Vals.froz ps xs).mpr h1, by obtain ⟨a, e1, e2, e3⟩ := h2; exact ⟨a, e1, e2, by rw [e]; exact e3⟩⟩⟩
theorem Vals.froz : ∀ (ps : List PyData) (xs : List D), Vals P (old ++ S) [] ps xs ↔ Vals P old S ps xs
  | [], _ => Iff.rfl
  | p :: ps, _ => ⟨fun ⟨x, xs, e, h1, h2⟩ => ⟨x, xs, e, (Val.froz p x).mp h1, (Vals.froz ps xs).mp h2⟩, fun ⟨x, xs, e, h1, h2⟩ => ⟨x, xs, e, (Val.froz p x).mpr h1, (Vals.froz ps xs).mpr h2⟩⟩
end
mutual
theorem Val.froz2 {more : Sto} : ∀ (p : PyData) (d : D), Val P (old ++ S) more p d ↔ Val P old (S ++ more) p d
  | .none, _ => Iff.rfl | .bool _, _ => Iff.rfl | .int _, _ => Iff.rfl | .str _, _ => Iff.rfl
  | .dict _, d => by
    have e : ∀ a, at_ (old ++ S) more a = at_ old (S ++ more) a := fun a => by unfold at_; rw [List.append_assoc]
    exact ⟨fun h => h.imp id fun ⟨ns, a, e1, e2, e3, e4⟩ => ⟨ns, a, e1, e2, e3, by rw [← e]; exact e4⟩, fun h => h.imp id fun ⟨ns, a, e1, e2, e3, e4⟩ => ⟨ns, a, e1, e2, e3, by rw [e]; exact e4⟩⟩
  | .tuple ps, d => ⟨fun ⟨xs, h1, h2⟩ => ⟨xs, h1, (Vals.froz2 ps xs).mp h2⟩, fun ⟨xs, h1, h2⟩ => ⟨xs, h1, (Vals.froz2 ps xs).mpr h2⟩⟩
  | .list ps, d => by
    have e : ∀ a, at_ (old ++ S) more a = at_ old (S ++ more) a := fun a => by unfold at_; rw [List.append_assoc]
    exact ⟨fun ⟨xs, h1, h2⟩ => ⟨xs, (Vals.froz2 ps xs).mp h1, by obtain ⟨a, e1, e2, e3⟩ := h2; exact ⟨a, e1, e2, by rw [← e]; exact e3⟩⟩,
      fun ⟨xs, h1, h2⟩ => ⟨xs, (Vals.froz2 ps xs).mpr h1, by obtain ⟨a, e1, e2, e3⟩ := h2; exact ⟨a, e1, e2, by rw [e]; exact e3⟩⟩⟩
theorem Vals.froz2 {more : Sto} : ∀ (ps : List PyData) (xs : List D), Vals P (old ++ S) more ps xs ↔ Vals P old (S ++ more) ps xs
  | [], _ => Iff.rfl
  | p :: ps, _ => ⟨fun ⟨x, xs, e, h1, h2⟩ => ⟨x, xs, e, (Val.froz2 p x).mp h1, (Vals.froz2 ps xs).mp h2⟩, fun ⟨x, xs, e, h1, h2⟩ => ⟨x, xs, e, (Val.froz2 p x).mpr h1, (Vals.froz2 ps xs).mpr h2⟩⟩
end
theorem ValF.mono (hPQ : ∀ a, P a → Q a) (h : ValF P old S p d) : ValF Q old S p d := by
  cases p with
  | list ps => obtain ⟨xs, h1, h2⟩ := h; exact ⟨xs, Vals.mono hPQ _ _ h1, h2.imp id fun ⟨a, e1, e2, e3⟩ => ⟨a, e1, hPQ a e2, e3⟩⟩
  | _ => exact Val.mono hPQ _ _ h
theorem ValF.app {more : Sto} (h : ValF P old S p d) : ValF P old (S ++ more) p d := by
  cases p with
  | list ps => obtain ⟨xs, h1, h2⟩ := h; exact ⟨xs, Vals.app _ _ h1, h2.imp id fun ⟨a, e1, e2, e3⟩ => ⟨a, e1, e2, at_app e3⟩⟩
  | _ => exact Val.app _ _ h
theorem ValF.wr {a : Nat} {ws : List D} (ha : old.length ≤ a) (hP : ¬ P a) (h : ValF P old S p d) : ValF P old (Z.wr old S a ws) p d := by
  cases p with
  | list ps => obtain ⟨xs, h1, h2⟩ := h; exact ⟨xs, Vals.wr ha hP _ _ h1, h2.imp id fun ⟨b, e1, e2, e3⟩ => ⟨b, e1, e2, at_wr e3 ha (fun e => hP (e ▸ e2))⟩⟩
  | _ => exact Val.wr ha hP _ _ h
theorem ValF.froz2 {more : Sto} (h : ValF P (old ++ S) more p d) : ValF P old (S ++ more) p d := by
  cases p with
  | list ps =>
    obtain ⟨xs, h1, h2⟩ := h
    refine ⟨xs, (Vals.froz2 _ _).mp h1, h2.imp id fun ⟨b, e1, e2, e3⟩ => ⟨b, e1, e2, ?_⟩⟩
    unfold at_ at e3 ⊢
    rwa [List.append_assoc] at e3
  | _ => exact (Val.froz2 _ _).mp h
theorem ValF.pure (o2 S2 : Sto) (hp : pur p = true) (h : ValF P old S p d) : ValF Q o2 S2 p d := by
  cases p with
  | list ps => simp [pur] at hp
  | _ => exact Val.pure (P := P) (old := old) (S := S) o2 S2 _ _ hp h
/-! lists of values -/
theorem Vals.len : ∀ {ps : List PyData} {xs : List D}, Vals P old S ps xs → xs.length = ps.length
  | [], _, h => by rw [h]; rfl
  | p :: ps, _, ⟨x, xs, e, h1, h2⟩ => by rw [e, List.length_cons, List.length_cons, h2.len]
theorem Vals.get : ∀ {ps : List PyData} {xs : List D} {k : Nat} {q : PyData}, Vals P old S ps xs → ps[k]? = some q → ∃ y, xs[k]? = some y ∧ Val P old S q y
  | [], _, k, q, h, e => by simp at e
  | p :: ps, _, 0, q, ⟨x, xs, e, h1, h2⟩, e2 => by
    simp at e2; subst e2; rw [e]; exact ⟨x, rfl, h1⟩
  | p :: ps, _, k + 1, q, ⟨x, xs, e, h1, h2⟩, e2 => by
    rw [e]; simp at e2 ⊢; exact h2.get e2
theorem Vals.of : ∀ {ps : List PyData} {xs : List D}, xs.length = ps.length → (∀ (k : Nat) (q : PyData) (y : D), ps[k]? = some q → xs[k]? = some y → Val P old S q y) → Vals P old S ps xs
  | [], [], _, _ => rfl
  | p :: ps, x :: xs, h, hk => ⟨x, xs, rfl, hk 0 p x rfl rfl, Vals.of (by simpa using h) fun k q y h1 h2 => hk (k + 1) q y (by simpa using h1) (by simpa using h2)⟩
theorem Vals.get2 (h : Vals P old S ps xs) {k : Nat} {y : D} {q : PyData} (h1 : ps[k]? = some q) (h2 : xs[k]? = some y) : Val P old S q y := by
  obtain ⟨z, h3, h4⟩ := h.get h1
  rw [h2] at h3; cases h3; exact h4
theorem Vals.append : ∀ {ps qs : List PyData} {xs ys : List D}, Vals P old S ps xs → Vals P old S qs ys → Vals P old S (ps ++ qs) (xs ++ ys)
  | [], _, _, _, h, h2 => by rw [h]; exact h2
  | p :: ps, _, _, _, ⟨x, xs, e, h1, h3⟩, h2 => by rw [e]; exact ⟨x, _, rfl, h1, h3.append h2⟩
theorem Vals.drop : ∀ {ps : List PyData} {xs : List D} (k : Nat), Vals P old S ps xs → Vals P old S (ps.drop k) (xs.drop k)
  | _, _, 0, h => h
  | [], _, k + 1, h => by rw [h]; rfl
  | p :: ps, _, k + 1, ⟨x, xs, e, h1, h3⟩ => by rw [e]; exact h3.drop k
theorem Vals.take : ∀ {ps : List PyData} {xs : List D} (k : Nat), Vals P old S ps xs → Vals P old S (ps.take k) (xs.take k)
  | _, _, 0, h => rfl
  | [], _, k + 1, h => by rw [h]; rfl
  | p :: ps, _, k + 1, ⟨x, xs, e, h1, h3⟩ => by rw [e]; exact ⟨x, _, rfl, h1, h3.take k⟩
theorem Vals.one (h : Val P old S p d) : Vals P old S [p] [d] := ⟨d, [], rfl, h, rfl⟩
theorem Vals.reverse : ∀ {ps : List PyData} {xs : List D}, Vals P old S ps xs → Vals P old S ps.reverse xs.reverse
  | [], _, h => by rw [h]; rfl
  | p :: ps, _, ⟨x, xs, e, h1, h3⟩ => by
    rw [e, List.reverse_cons, List.reverse_cons]; exact h3.reverse.append (.one h1)
theorem Vals.erase : ∀ {ps : List PyData} {xs : List D} (k : Nat), Vals P old S ps xs → Vals P old S (ps.eraseIdx k) (xs.eraseIdx k)
  | [], _, k, h => by rw [h]; rfl
  | p :: ps, _, 0, ⟨x, xs, e, h1, h3⟩ => by rw [e]; exact h3
  | p :: ps, _, k + 1, ⟨x, xs, e, h1, h3⟩ => by rw [e]; exact ⟨x, _, rfl, h1, h3.erase k⟩
theorem Vals.set : ∀ {ps : List PyData} {xs : List D} (k : Nat), Vals P old S ps xs → Val P old S p d → Vals P old S (ps.set k p) (xs.set k d)
  | [], _, k, h, _ => by rw [h]; rfl
  | p :: ps, _, 0, ⟨x, xs, e, h1, h3⟩, h => by rw [e]; exact ⟨d, xs, rfl, h, h3⟩
  | p :: ps, _, k + 1, ⟨x, xs, e, h1, h3⟩, h => by rw [e]; exact ⟨x, _, rfl, h1, h3.set k h⟩
theorem Vals.dropLast (h : Vals P old S ps xs) : Vals P old S ps.dropLast xs.dropLast := by
  rw [List.dropLast_eq_take, List.dropLast_eq_take, h.len]; exact h.take _
theorem Vals.flat (h : Vals P old S ps xs) : ∀ k : Nat, Vals P old S (List.replicate k ps).flatten (List.replicate k xs).flatten
  | 0 => rfl
  | k + 1 => by
    rw [List.replicate_succ, List.replicate_succ, List.flatten_cons, List.flatten_cons]; exact h.append (h.flat k)
theorem Vals.ints (ns : List Nat) (f : Nat → Int) : Vals P old S (ns.map fun k => PyData.int (f k)) (ns.map fun k => D.int (f k)) := by
  induction ns with
  | nil => rfl
  | cons n ns ih => exact ⟨_, _, rfl, rfl, ih⟩
/-! whole data -/
theorem cx_l {xs : List D} : Cell.xs (.lst xs) = xs := rfl
theorem cx_r {xs : List D} : Cell.xs (.ro xs) = xs := rfl
mutual
theorem Val.py : ∀ (n : Nat) (p : PyData) (d : D), dOk n p = true → ValE P old S p d → toPy old S n d = some p
  | 0, p, d, h, _ => by simp [dOk] at h
  | n + 1, .none, d, _, h => by rw [show d = .non from h]; rfl
  | n + 1, .bool b, d, _, h => by rw [show d = .bl b from h]; rfl
  | n + 1, .int b, d, _, h => by rw [show d = .int b from h]; rfl
  | n + 1, .str b, d, _, h => by
    obtain ⟨h1, h2⟩ : d = .str b ∧ strOk b = true := h
    rw [h1, toPy, h2]; rfl
  | n + 1, .dict b, d, hd, h => by simp [dOk] at hd
  | n + 1, .tuple ps, d, hd, h => by
    obtain ⟨xs, h1, h2⟩ : ∃ xs, d = .tup xs ∧ Vals P old S ps xs := h
    rw [h1]
    show (mapO (toPy old S n) xs).map PyData.tuple = _
    rw [Vals.py n ps xs (by simpa only [dOk] using hd) h2]; rfl
  | n + 1, .list ps, d, hd, h => by
    obtain ⟨xs, h1, h2⟩ : ∃ xs, Vals P old S ps xs ∧ (d = .tmp xs ∨ ∃ a, d = .lst a ∧ at_ old S a = some (.lst xs)) := h
    have := Vals.py n ps xs (by simpa only [dOk] using hd) h1
    rcases h2 with h2 | ⟨a, h2, h3⟩
    · rw [h2]
      show (mapO (toPy old S n) xs).map PyData.list = _
      rw [this]; rfl
    · rw [h2]
      show (match at_ old S a with | some c => (mapO (toPy old S n) c.xs).map PyData.list | none => none) = _
      rw [h3]
      simp only [cx_l, this]; rfl
theorem Vals.py : ∀ (n : Nat) (ps : List PyData) (xs : List D), ps.all (dOk n) = true → Vals P old S ps xs → mapO (toPy old S n) xs = some ps
  | n, [], _, _, h => by rw [h]; rfl
  | n, p :: ps, _, hd, ⟨x, xs, e, h1, h2⟩ => by
    simp only [List.all_cons, Bool.and_eq_true] at hd
    rw [e, mapO, Val.py n p x hd.1 h1.toE]
    simp only
    rw [Vals.py n ps xs hd.2 h2]
end
theorem eq_ok {x y : PyData} {dx dy : D} {b : Bool} (hx : ValE P old S x dx) (hy : ValE Q old S y dy) (h : eqP x y = some b) : eqv old S dx dy = some b := by
  unfold eqP at h
  split at h
  · rename_i hd
    simp only [Bool.and_eq_true] at hd
    unfold eqv
    rw [Val.py 60 x dx hd.1 hx, Val.py 60 y dy hd.2 hy]
    exact h
  · cases h
theorem in_ok {x y : PyData} {dx dy : D} {b : Bool} (hx : ValE P old S x dx) (hy : ValE Q old S y dy) (h : inP x y = some b) : isIn old S dx dy = some b := by
  unfold inP at h
  split at h
  · rename_i hd
    simp only [Bool.and_eq_true] at hd
    unfold isIn
    rw [Val.py 60 x dx hd.1 hx, Val.py 60 y dy hd.2 hy]
    cases y <;> simp_all
  · cases h
theorem vInt {i : Int} (h : ValE P old S (.int i) d) : d = .int i := h
theorem vBool {b : Bool} (h : ValE P old S (.bool b) d) : d = .bl b := h
theorem vNone (h : ValE P old S .none d) : d = .non := h
theorem cmp_ok {o : Cm} {x y : PyData} {dx dy : D} {b : Bool} (hx : ValE P old S x dx) (hy : ValE Q old S y dy) (h : cmpP o x y = some b) : cmpV old o dx dy S = some b := by
  cases o with
  | eq => exact eq_ok hx hy h
  | ne =>
    simp only [cmpP, Option.map_eq_some_iff] at h
    obtain ⟨k, h1, h2⟩ := h
    simp only [cmpV, eq_ok hx hy h1, Option.map_some, h2]
  | lt =>
    simp only [cmpP] at h
    split at h
    · rw [vInt hx, vInt hy]; exact h
    · cases h
  | le =>
    simp only [cmpP] at h
    split at h
    · rw [vInt hx, vInt hy]; exact h
    · cases h
  | gt =>
    simp only [cmpP] at h
    split at h
    · rw [vInt hx, vInt hy]; exact h
    · cases h
  | ge =>
    simp only [cmpP] at h
    split at h
    · rw [vInt hx, vInt hy]; exact h
    · cases h
  | is =>
    simp only [cmpP] at h
    split at h
    · rw [vBool hx, vBool hy]; exact h
    · rw [vNone hx, vNone hy]; exact h
    · rename_i h3 
      rw [vNone hy]
      cases x with
      | none => exact absurd rfl h3
      | bool b => rw [vBool hx]; exact h
      | int b => rw [vInt hx]; exact h
      | str b => rw [(show dx = .str b ∧ _ from hx).1]; exact h
      | tuple b => obtain ⟨xs, e, _⟩ := (show ∃ xs, dx = .tup xs ∧ _ from hx); rw [e]; exact h
      | list b => obtain ⟨xs, _, e | ⟨a, e, _⟩⟩ := hx <;> (rw [e]; exact h)
      | dict b => rcases hx with ⟨c, _, e⟩ | ⟨ns, a, _, e, _⟩ <;> (rw [e]; exact h)
    · cases h
  | isnt =>
    simp only [cmpP] at h
    split at h
    · rw [vBool hx, vBool hy]; exact h
    · rw [vNone hx, vNone hy]; exact h
    · rename_i h3 
      rw [vNone hy]
      cases x with
      | none => exact absurd rfl h3
      | bool b => rw [vBool hx]; exact h
      | int b => rw [vInt hx]; exact h
      | str b => rw [(show dx = .str b ∧ _ from hx).1]; exact h
      | tuple b => obtain ⟨xs, e, _⟩ := (show ∃ xs, dx = .tup xs ∧ _ from hx); rw [e]; exact h
      | list b => obtain ⟨xs, _, e | ⟨a, e, _⟩⟩ := hx <;> (rw [e]; exact h)
      | dict b => rcases hx with ⟨c, _, e⟩ | ⟨ns, a, _, e, _⟩ <;> (rw [e]; exact h)
    · cases h
  | isin => exact in_ok hx hy h
  | notin =>
    simp only [cmpP, Option.map_eq_some_iff] at h
    obtain ⟨k, h1, h2⟩ := h
    simp only [cmpV, in_ok hx hy h1, Option.map_some, h2]
theorem vList (h : ValE P old S (.list ps) d) : ∃ xs, Vals P old S ps xs ∧ seqOf old S d = some xs ∧ lstRo old S d = some xs ∧ isT d = false ∧ lstOf old S d = some xs := by
  obtain ⟨xs, h1, e | ⟨a, e, h2⟩⟩ := h
  · exact ⟨xs, h1, by rw [e]; rfl, by rw [e]; rfl, by rw [e]; rfl, by rw [e]; rfl⟩
  · refine ⟨xs, h1, ?_, ?_, by rw [e]; rfl, ?_⟩
    · rw [e]; simp only [seqOf, h2, Option.map_some, cx_l]
    · rw [e]; simp only [lstRo, h2, Option.map_some, cx_l]
    · rw [e]; simp only [lstOf, h2]
theorem vTup (h : ValE P old S (.tuple ps) d) : ∃ xs, Vals P old S ps xs ∧ d = .tup xs := by
  obtain ⟨xs, e, h1⟩ : ∃ xs, d = .tup xs ∧ Vals P old S ps xs := h
  exact ⟨xs, h1, e⟩
theorem vSeq (h : ValE P old S p d) (e : seqP p = some ps) : ∃ xs, Vals P old S ps xs ∧ seqOf old S d = some xs := by
  cases p <;> try (simp [seqP] at e; done)
  · simp [seqP] at e
    subst e
    obtain ⟨xs, h1, h2, _⟩ := vList h
    exact ⟨xs, h1, h2⟩
  · simp [seqP] at e
    subst e
    obtain ⟨xs, h1, h2⟩ := vTup h
    exact ⟨xs, h1, by rw [h2]; rfl⟩
  · rename_i kvs
    rcases h with ⟨c, e1, _⟩ | ⟨ns, a, e1, e2, _, e3⟩
    · subst e1; simp [seqP] at e
    · subst e1
      simp only [seqP, roK, Option.some.injEq] at e
      subst e
      refine ⟨ns.map D.int, ?_, by rw [e2]; simp only [seqOf, e3, Option.map_some, cx_r]⟩
      clear e3
      induction ns with
      | nil => rfl
      | cons n ns ih => exact ⟨_, _, rfl, rfl, ih⟩
theorem tru_ok {b : Bool} (h : ValE P old S p d) (e : truP p = some b) : truth old S d = some b := by
  cases p with
  | none => rw [vNone h]; exact e
  | bool _ => rw [vBool h]; exact e
  | int _ => rw [vInt h]; exact e
  | tuple ps =>
    obtain ⟨xs, h1, h2⟩ := vTup h
    rw [h2]
    simp only [truP] at e
    show some (!xs.isEmpty) = some b
    rw [← e]
    have := h1.len
    cases xs <;> cases ps <;> simp_all
  | list ps =>
    obtain ⟨xs, h1, e2 | ⟨a, e2, h2⟩⟩ := h
    · rw [e2]
      simp only [truP] at e
      show some (!xs.isEmpty) = some b
      rw [← e]
      have := h1.len
      cases xs <;> cases ps <;> simp_all
    · rw [e2]
      simp only [truP] at e
      simp only [truth, h2, Option.map_some, cx_l]
      rw [← e]
      have := h1.len
      cases xs <;> cases ps <;> simp_all
  | str _ => cases e
  | dict _ => cases e
theorem isi_ok {t : Ty} {b : Bool} (h : ValE P old S p d) (e : isiP t p = some b) : isiV t d = some b := by
  cases p with
  | none => rw [vNone h]; exact e
  | bool _ => rw [vBool h]; exact e
  | int _ => rw [vInt h]; exact e
  | tuple ps => obtain ⟨xs, h1, h2⟩ := vTup h; rw [h2]; exact e
  | list ps => obtain ⟨xs, h1, e2 | ⟨a, e2, h2⟩⟩ := h <;> (rw [e2]; exact e)
  | str _ => rw [(show d = .str _ ∧ _ from h).1]; exact e
  | dict _ => cases e
theorem isi2_ok {b : Bool} (h : ValE P old S p d) (e : isi2P p = some b) : isi2V d = some b := by
  unfold isi2P at e
  split at e
  · rename_i a e1
    split at e
    · rename_i b e2
      unfold isi2V
      rw [isi_ok h e1]
      simp only
      rw [isi_ok h e2]
      exact e
    · cases e
  · cases e
theorem exc_ok {k : Nat} (h : ValE P old S p d) (e : excN p = some k) : d = .exc k := by
  unfold excN at e
  split at e
  · rename_i i
    split at e
    · rename_i hi
      cases e
      have h : (∃ c, [(PyData.none, PyData.int i)] = [(PyData.none, .int ((c : Nat) : Int))] ∧ d = .exc c) ∨ ∃ ns a, [(PyData.none, PyData.int i)] = roK ns ∧ d = .lst a ∧ P a ∧ at_ old S a = some (.ro (ns.map D.int)) := h
      rcases h with ⟨c, h1, h2⟩ | ⟨ns, a, h1, _⟩
      · simp only [List.cons.injEq, Prod.mk.injEq, PyData.int.injEq, and_true, true_and] at h1
        rw [h2, h1, Int.toNat_natCast]
      · simp [roK] at h1
    · cases e
  · cases e
theorem y_bools_ok : ∀ {ps : List PyData} {xs : List D} {bs : List Bool}, Vals P old S ps xs → boolsP ps = some bs → bools xs = some bs
  | [], _, bs, h, e => by rw [h]; exact e
  | p :: ps, _, bs, ⟨x, xs, e1, h1, h2⟩, e => by
    cases p <;> simp [boolsP] at e
    obtain ⟨cs, h3, h4⟩ := e
    rw [e1, show x = .bl _ from h1]
    simp only [bools, y_bools_ok h2 h3, Option.map_some, h4]
theorem y_ints_ok : ∀ {ps : List PyData} {xs : List D} {bs : List Int}, Vals P old S ps xs → intsP ps = some bs → intsOf xs = some bs
  | [], _, bs, h, e => by rw [h]; exact e
  | p :: ps, _, bs, ⟨x, xs, e1, h1, h2⟩, e => by
    cases p <;> simp [intsP] at e
    obtain ⟨cs, h3, h4⟩ := e
    rw [e1, show x = .int _ from h1]
    simp only [intsOf, y_ints_ok h2 h3, Option.map_some, h4]
theorem nl_int {i : Int} : nl (.int i) := fun _ h => by cases h
theorem nl_bl {i : Bool} : nl (.bl i) := fun _ h => by cases h
theorem nl_non : nl .non := fun _ h => by cases h
theorem nl_str {i : Str} : nl (.str i) := fun _ h => by cases h
theorem nl_tup : nl (.tup xs) := fun _ h => by cases h
theorem nl_tmp : nl (.tmp xs) := fun _ h => by cases h
theorem op_ok {o : Op} {x y r : PyData} {dx dy : D} (hx : ValE P old S x dx) (hy : ValE P old S y dy) (h : opP o x y = some r) : ∃ dr, opV old o dx dy S = .ok dr S ∧ ValF P old S r dr ∧ nl dr := by
  unfold opP at h
  split at h
  case h_1 => cases h; rw [vInt hx, vInt hy]; exact ⟨_, rfl, rfl, nl_int⟩
  case h_2 => cases h; rw [vInt hx, vInt hy]; exact ⟨_, rfl, rfl, nl_int⟩
  case h_3 =>
    split at h
    · rename_i e
      cases h; rw [vInt hx, vInt hy]; exact ⟨_, by simp only [opV]; rw [if_pos e], rfl, nl_int⟩
    · cases h
  case h_4 =>
    split at h
    · rename_i e
      cases h; rw [vInt hx, vInt hy]; exact ⟨_, by simp only [opV]; rw [if_pos e], rfl, nl_int⟩
    · cases h
  case h_5 =>
    split at h
    · rename_i e
      cases h; rw [vInt hx, vInt hy]; exact ⟨_, by simp only [opV]; rw [if_pos e], rfl, nl_int⟩
    · cases h
  case h_6 =>
    split at h
    · rename_i e
      cases h; rw [vInt hx, vInt hy]; exact ⟨_, by simp only [opV]; rw [if_pos e], rfl, nl_int⟩
    · cases h
  case h_7 =>
    split at h
    · rename_i e
      cases h; rw [vInt hx, vInt hy]; exact ⟨_, by simp only [opV]; rw [if_pos e], rfl, nl_int⟩
    · cases h
  case h_8 =>
    split at h
    · rename_i e
      cases h; rw [vInt hx, vInt hy]; exact ⟨_, by simp only [opV]; rw [if_pos e], rfl, nl_int⟩
    · cases h
  case h_9 => cases h; rw [vInt hx, vInt hy]; exact ⟨_, rfl, rfl, nl_int⟩
  case h_10 => cases h; rw [vInt hx, vInt hy]; exact ⟨_, rfl, rfl, nl_int⟩
  case h_11 => cases h; rw [vInt hx, vInt hy]; exact ⟨_, rfl, rfl, nl_int⟩
  case h_12 =>
    split at h
    · rename_i e
      simp only [Bool.and_eq_true] at e
      cases h; rw [(show dx = .str _ ∧ _ from hx).1, (show dy = .str _ ∧ _ from hy).1]; exact ⟨_, by simp only [opV]; rw [if_pos e.1], ⟨rfl, e.2⟩, nl_str⟩
    · cases h
  case h_13 xs ys =>
    split at h
    · rename_i e
      obtain ⟨as, a1, a2⟩ := vTup hx
      obtain ⟨bs, b1, b2⟩ := vTup hy
      cases h; rw [a2, b2]
      rw [← a1.len, ← b1.len] at e
      exact ⟨_, by simp only [opV]; rw [if_pos e], ⟨_, rfl, a1.append b1⟩, nl_tup⟩
    · cases h
  case h_14 xs ys =>
    split at h
    · rename_i e
      obtain ⟨as, a1, _, _, _, a2⟩ := vList hx
      obtain ⟨bs, b1, _, _, _, b2⟩ := vList hy
      cases h
      rw [← a1.len, ← b1.len] at e
      refine ⟨.tmp (as ++ bs), ?_, ⟨_, a1.append b1, .inl rfl⟩, nl_tmp⟩
      rcases hx with ⟨_, _, ex | ⟨_, ex, _⟩⟩ <;> rcases hy with ⟨_, _, ey | ⟨_, ey, _⟩⟩ <;> (subst ex ey; simp only [opV, a2, b2]; rw [if_pos e])
    · cases h
  case h_15 xs k =>
    split at h
    · rename_i e
      obtain ⟨as, a1, a2⟩ := vTup hx
      cases h
      rw [a2, vInt hy]
      have e2 : xs.isEmpty = as.isEmpty := by
        have := a1.len
        cases xs <;> cases as <;> first | rfl | (simp at this)
      rw [← a1.len, e2] at e
      exact ⟨_, by simp only [opV]; rw [if_pos e], ⟨_, rfl, a1.flat _⟩, nl_tup⟩
    · cases h
  case h_16 xs k =>
    split at h
    · rename_i e
      obtain ⟨as, a1, _, _, _, a2⟩ := vList hx
      cases h
      rw [← a1.len] at e
      refine ⟨.tmp (List.replicate k.toNat as).flatten, ?_, ⟨_, a1.flat _, .inl rfl⟩, nl_tmp⟩
      rw [vInt hy]
      rcases hx with ⟨_, _, ex | ⟨_, ex, _⟩⟩ <;> (subst ex; simp only [opV, a2]; rw [if_pos e])
    · cases h
  case h_17 => cases h
def ValsE (P : Nat → Prop) (old S : Sto) : List PyData → List D → Prop
  | [], ds => ds = []
  | p :: ps, ds => ∃ x xs, ds = x :: xs ∧ ValE P old S p x ∧ ValsE P old S ps xs
theorem vE1 {ds : List D} (h : ValsE P old S [p] ds) : ∃ x, ds = [x] ∧ ValE P old S p x := by
  obtain ⟨x, xs, e, h1, h2⟩ := h
  exact ⟨x, by rw [e, show xs = [] from h2], h1⟩
theorem vE2 {ds : List D} {q : PyData} (h : ValsE P old S [p, q] ds) : ∃ x y, ds = [x, y] ∧ ValE P old S p x ∧ ValE P old S q y := by
  obtain ⟨x, xs, e, h1, h2⟩ := h
  obtain ⟨y, e2, h3⟩ := vE1 h2
  exact ⟨x, y, by rw [e, e2], h1, h3⟩
theorem blt_ok {f : Blt} {r : PyData} {ds : List D} (hv : ValsE P old S ps ds) (h : bltP f ps = some r) : ∃ dr, bltV old f ds S = .ok dr S ∧ ValF P old S r dr ∧ nl dr := by
  unfold bltP at h
  split at h
  case h_1 z =>
    obtain ⟨x, rfl, hx⟩ := vE1 hv
    split at h
    · rename_i e
      cases h
      rw [(show x = .str _ ∧ _ from hx).1]
      exact ⟨_, by simp only [bltV]; rw [if_pos e], rfl, nl_int⟩
    · cases h
  case h_2 xs =>
    obtain ⟨x, rfl, hx⟩ := vE1 hv
    obtain ⟨ys, h1, h2, _⟩ := vList hx
    cases h
    refine ⟨.int ys.length, ?_, by rw [h1.len]; rfl, nl_int⟩
    rcases hx with ⟨_, _, ex | ⟨_, ex, _⟩⟩ <;> (subst ex; simp only [bltV, h2])
  case h_3 xs =>
    obtain ⟨x, rfl, hx⟩ := vE1 hv
    obtain ⟨ys, h1, rfl⟩ := vTup hx
    cases h
    exact ⟨.int ys.length, rfl, by rw [h1.len]; rfl, nl_int⟩
  case h_4 kvs =>
    obtain ⟨x, rfl, hx⟩ := vE1 hv
    cases h
    obtain ⟨ys, h1, h2⟩ := vSeq hx (ps := kvs.map (·.1)) rfl
    refine ⟨.int ys.length, ?_, by rw [h1.len, List.length_map]; rfl, nl_int⟩
    rcases hx with ⟨c, e1, ex⟩ | ⟨ns, a, e1, ex, _⟩
    · simp at e1
    · subst ex; simp only [bltV, h2]
  case h_5 i => obtain ⟨x, rfl, hx⟩ := vE1 hv; cases h; rw [vInt hx]; exact ⟨_, rfl, rfl, nl_int⟩
  case h_6 i j => obtain ⟨x, y, rfl, hx, hy⟩ := vE2 hv; cases h; rw [vInt hx, vInt hy]; exact ⟨_, rfl, rfl, nl_int⟩
  case h_7 i j => obtain ⟨x, y, rfl, hx, hy⟩ := vE2 hv; cases h; rw [vInt hx, vInt hy]; exact ⟨_, rfl, rfl, nl_int⟩
  case h_8 i => obtain ⟨x, rfl, hx⟩ := vE1 hv; cases h; rw [vInt hx]; exact ⟨_, rfl, rfl, nl_int⟩
  case h_9 i => obtain ⟨x, rfl, hx⟩ := vE1 hv; cases h; rw [vBool hx]; exact ⟨_, rfl, rfl, nl_int⟩
  case h_10 xs =>
    obtain ⟨x, rfl, hx⟩ := vE1 hv
    obtain ⟨ys, h1, h2, _⟩ := vList hx
    cases h
    refine ⟨.tup ys, ?_, ⟨ys, rfl, h1⟩, nl_tup⟩
    simp only [bltV, h2]
  case h_11 xs =>
    obtain ⟨x, rfl, hx⟩ := vE1 hv
    obtain ⟨ys, h1, rfl⟩ := vTup hx
    cases h
    exact ⟨.tup ys, rfl, ⟨ys, rfl, h1⟩, nl_tup⟩
  case h_12 xs =>
    obtain ⟨x, rfl, hx⟩ := vE1 hv
    obtain ⟨ys, h1, h2, _⟩ := vList hx
    cases h
    refine ⟨.tmp ys, ?_, ⟨ys, h1, .inl rfl⟩, nl_tmp⟩
    simp only [bltV, h2]
  case h_13 xs =>
    obtain ⟨x, rfl, hx⟩ := vE1 hv
    obtain ⟨ys, h1, rfl⟩ := vTup hx
    cases h
    exact ⟨.tmp ys, rfl, ⟨ys, h1, .inl rfl⟩, nl_tmp⟩
  case h_14 xs =>
    obtain ⟨x, rfl, hx⟩ := vE1 hv
    obtain ⟨ys, h1, _, h2, _⟩ := vList hx
    simp only [Option.map_eq_some_iff] at h
    obtain ⟨ns, h3, rfl⟩ := h
    exact ⟨_, by simp only [bltV, h2, y_ints_ok h1 h3], rfl, nl_int⟩
  case h_15 xs =>
    obtain ⟨x, rfl, hx⟩ := vE1 hv
    obtain ⟨ys, h1, _, h2, _⟩ := vList hx
    simp only [Option.map_eq_some_iff] at h
    obtain ⟨ns, h3, rfl⟩ := h
    exact ⟨_, by simp only [bltV, h2, y_bools_ok h1 h3], rfl, nl_bl⟩
  case h_16 xs =>
    obtain ⟨x, rfl, hx⟩ := vE1 hv
    obtain ⟨ys, h1, _, h2, _⟩ := vList hx
    simp only [Option.map_eq_some_iff] at h
    obtain ⟨ns, h3, rfl⟩ := h
    exact ⟨_, by simp only [bltV, h2, y_bools_ok h1 h3], rfl, nl_bl⟩
  case h_17 n =>
    obtain ⟨x, rfl, hx⟩ := vE1 hv
    split at h
    · rename_i e
      cases h
      rw [vInt hx]
      exact ⟨_, by simp only [bltV]; rw [if_pos e], ⟨_, Vals.ints (List.range n.toNat) (fun k => (k : Int)), .inl rfl⟩, nl_tmp⟩
    · cases h
  case h_18 => cases h
theorem idx_ok {q r : PyData} {dx dq : D} (hx : ValE P old S p dx) (hq : ValE Q old S q dq) (h : idxP p q = some r) : ∃ dr, idxV old dx dq S = .ok dr S ∧ Val P old S r dr := by
  cases q <;> try (simp [idxP] at h; done)
  rename_i i
  rw [vInt hq]
  simp only [idxP] at h
  cases e : seqP p with
  | none => rw [e] at h; cases h
  | some ps =>
    rw [e] at h
    simp only at h
    obtain ⟨xs, h1, h2⟩ := vSeq hx e
    cases e2 : ixN ps.length i with
    | none => rw [e2] at h; cases h
    | some k =>
      rw [e2] at h
      simp only at h
      obtain ⟨y, h3, h4⟩ := h1.get h
      refine ⟨y, ?_, h4⟩
      cases dx <;> first | (simp [seqOf] at h2; done) | (simp only [idxV, h2, h1.len, e2, h3])
theorem cut_ok {xs : List D} (h : Vals P old S ps xs) (lo hi : Option Int) : Vals P old S (cutP ps lo hi) (cut xs lo hi) := by
  unfold cutP cut
  rw [h.len]
  exact (h.drop _).take _
theorem sli_ok {r : PyData} {dx : D} {lo hi : Option Int} (hx : ValE P old S p dx) (h : sliP p lo hi = some r) : ∃ dr, sliV old dx lo hi S = .ok dr S ∧ ValF P old S r dr ∧ nl dr := by
  cases p <;> try (simp [sliP] at h; done)
  · simp [sliP] at h
    subst h
    obtain ⟨xs, h1, _, h2, h3, _⟩ := vList hx
    refine ⟨.tmp (cut xs lo hi), ?_, ⟨_, cut_ok h1 lo hi, .inl rfl⟩, nl_tmp⟩
    rcases hx with ⟨_, _, ex | ⟨_, ex, _⟩⟩ <;> (subst ex; simp only [sliV, h2])
  · simp [sliP] at h
    subst h
    obtain ⟨xs, h1, rfl⟩ := vTup hx
    exact ⟨.tup (cut xs lo hi), rfl, ⟨_, rfl, cut_ok h1 lo hi⟩, nl_tup⟩
theorem ins_mem {α : Type} {le : α → α → Bool} {x : α} : ∀ {ys : List α} {z : α}, z ∈ ins le x ys → z = x ∨ z ∈ ys
  | [], z, h => by simp [ins] at h; exact .inl h
  | y :: ys, z, h => by
    unfold ins at h
    split at h
    · rcases List.mem_cons.mp h with h | h
      · exact .inl h
      · exact .inr h
    · rcases List.mem_cons.mp h with h | h
      · exact .inr (by rw [h]; exact .head _)
      · rcases ins_mem h with h | h
        · exact .inl h
        · exact .inr (.tail _ h)
theorem insS_mem {α : Type} {le : α → α → Bool} : ∀ {ys : List α} {z : α}, z ∈ insS le ys → z ∈ ys
  | [], z, h => h
  | y :: ys, z, h => by
    rcases ins_mem h with h | h
    · rw [h]; exact .head _
    · exact .tail _ (insS_mem h)
theorem Vals.zip {ps : List PyData} {xs : List D} (h : Vals P old S ps xs) : ∀ z ∈ xs.zip ps, Val P old S z.2 z.1 := by
  induction ps generalizing xs with
  | nil => intro z hz; rw [show xs = [] from h] at hz; cases hz
  | cons p ps ih =>
    obtain ⟨x, ys, e, h1, h2⟩ := h
    intro z hz
    rw [e, List.zip_cons_cons] at hz
    rcases List.mem_cons.mp hz with hz | hz
    · rw [hz]; exact h1
    · exact ih h2 z hz
theorem Vals.pairs : ∀ {zs : List (D × PyData)}, (∀ z ∈ zs, Val P old S z.2 z.1) → Vals P old S (zs.map (·.2)) (zs.map (·.1))
  | [], _ => rfl
  | z :: zs, h => ⟨_, _, rfl, h z (.head _), Vals.pairs fun y hy => h y (.tail _ hy)⟩
theorem zip_snd : ∀ {xs : List D} {ps : List PyData}, xs.length = ps.length → (xs.zip ps).map Prod.snd = ps
  | [], [], _ => rfl
  | x :: xs, p :: ps, h => by
    rw [List.zip_cons_cons, List.map_cons, zip_snd (by simpa using h)]
theorem srt_ok {xs : List D} {rev : Bool} {rs : List PyData} (h : Vals P old S ps xs) (e : srtP ps rev = some rs) : ∃ ys, srtV old S xs rev = some ys ∧ Vals P old S rs ys := by
  unfold srtP at e
  split at e
  · rename_i hd
    simp only [Bool.and_eq_true] at hd
    cases e
    refine ⟨(insS (PySem.W.dataLe rev Prod.snd) (xs.zip ps)).map Prod.fst, ?_, ?_⟩
    · unfold srtV
      rw [Vals.py 59 ps xs hd.1 h]
      simp only
      rw [if_pos (by rw [hd.2.1, hd.2.2]; rfl)]
    · have : insS (PySem.W.dataLe rev id) ps = (insS (PySem.W.dataLe rev Prod.snd) (xs.zip ps)).map Prod.snd := by
        rw [← insS_map (le := PySem.W.dataLe rev Prod.snd) (le2 := PySem.W.dataLe rev id) Prod.snd (fun a b => rfl), zip_snd h.len]
      rw [this]
      exact Vals.pairs fun z hz => h.zip z (insS_mem hz)
  · cases e
mutual
theorem lit_val : ∀ (n : Nat) (d : D) (p : PyData), d.pure = true → toPy [] [] n d = some p → Val P old S p d
  | 0, d, p, _, h => by simp [toPy] at h
  | n + 1, .non, p, _, h => by simp [toPy] at h; subst h; rfl
  | n + 1, .bl b, p, _, h => by simp [toPy] at h; subst h; rfl
  | n + 1, .int b, p, _, h => by simp [toPy] at h; subst h; rfl
  | n + 1, .str b, p, _, h => by
    simp only [toPy] at h
    split at h
    · rename_i e; cases h; exact ⟨rfl, e⟩
    · cases h
  | n + 1, .tup xs, p, hp, h => by
    simp only [toPy, Option.map_eq_some_iff] at h
    obtain ⟨ps, h1, rfl⟩ := h
    simp only [D.pure] at hp
    exact ⟨xs, rfl, lits_val n xs ps hp h1⟩
  | n + 1, .lst a, p, hp, h => by simp [D.pure] at hp
  | n + 1, .tmp a, p, hp, h => by simp [D.pure] at hp
  | n + 1, .fn a, p, hp, h => by simp [toPy] at h
  | n + 1, .exc a, p, hp, h => by simp [toPy] at h
theorem lits_val : ∀ (n : Nat) (xs : List D) (ps : List PyData), D.pureAll xs = true → mapO (toPy [] [] n) xs = some ps → Vals P old S ps xs
  | n, [], ps, _, h => by simp [mapO] at h; subst h; rfl
  | n, x :: xs, ps, hp, h => by
    simp only [D.pureAll, Bool.and_eq_true] at hp
    simp only [mapO] at h
    cases e : toPy [] [] n x with
    | none => rw [e] at h; cases h
    | some q =>
      rw [e] at h
      simp only at h
      cases e2 : mapO (toPy [] [] n) xs with
      | none => rw [e2] at h; cases h
      | some qs =>
        rw [e2] at h
        cases h
        exact ⟨x, xs, rfl, lit_val n x q hp.1 e, lits_val n xs qs hp.2 e2⟩
end
theorem lit_ok {d : D} {p : PyData} (h : litP d = some p) : d.pure = true ∧ Val P old S p d := by
  unfold litP at h
  split at h
  · rename_i e; exact ⟨e, lit_val 60 d p e h⟩
  · cases h
/-- a list's own place in the new part -/
def NewL (old S : Sto) (a : Nat) (xs : List D) : Prop := old.length ≤ a ∧ S[a - old.length]? = some (.lst xs)
theorem NewL.at_ {a : Nat} (h : NewL old S a xs) : at_ old S a = some (.lst xs) := by
  unfold Z.at_
  rw [List.getElem?_append_right h.1]; exact h.2
theorem met_ok {m : Met} {a : Nat} {vs : List PyData} {dvs : List D} {r : List PyData × PyData} (hn : NewL old S a xs) (hx : Vals P old S ps xs) (hv : Vals P old S vs dvs) (h : metP m ps vs = some r) :
    ∃ ys dr, metV old m (.lst a) dvs S = .ok dr (wr old S a ys) ∧ Vals P old S r.1 ys ∧ Val P old S r.2 dr := by
  have hna : ¬ a < old.length := by have := hn.1; omega
  have hL : lstOf old S (.lst a) = some xs := by simp only [lstOf, hn.at_]
  unfold metP at h
  split at h
  case h_1 x =>
    obtain ⟨d, ds, rfl, h1, h2⟩ := hv
    rw [show ds = [] from h2]
    split at h
    · rename_i e
      cases h
      rw [← hx.len] at e
      exact ⟨_, _, by simp only [metV]; rw [if_neg hna, hn.2]; simp only; rw [if_pos e], hx.append (.one h1), rfl⟩
    · cases h
  case h_2 =>
    rw [show dvs = [] from hv]
    split at h
    · rename_i y e
      cases h
      rw [← hx.len] at e
      obtain ⟨z, h1, h2⟩ := hx.get e
      exact ⟨_, _, by simp only [metV]; rw [if_neg hna, hn.2]; simp only [h1], hx.dropLast, h2⟩
    · cases h
  case h_3 i =>
    obtain ⟨d, ds, rfl, h1, h2⟩ := hv
    rw [show ds = [] from h2, show d = .int i from h1]
    split at h
    · rename_i e
      rw [← hx.len] at e
      split at h
      · rename_i k e2
        rw [← hx.len] at e2
        split at h
        · rename_i y e3
          cases h
          obtain ⟨z, h3, h4⟩ := hx.get e3
          exact ⟨_, _, by simp only [metV]; rw [if_neg hna, hn.2]; simp only [e2, h3]; rw [if_pos e], hx.erase k, h4⟩
        · cases h
      · cases h
    · cases h
  case h_4 i x =>
    obtain ⟨d, ds, rfl, h1, d2, ds2, rfl, h2, h3⟩ := hv
    rw [show ds2 = [] from h3, show d = .int i from h1]
    split at h
    · rename_i e
      rw [← hx.len] at e
      cases h
      exact ⟨_, _, by simp only [metV]; rw [if_neg hna, hn.2]; simp only; rw [if_pos e], ((hx.take _).append (.one h2)).append (hx.drop _), rfl⟩
    · cases h
  case h_5 =>
    rw [show dvs = [] from hv]
    cases h
    exact ⟨_, _, by simp only [metV]; rw [if_neg hna, hn.2], hx.reverse, rfl⟩
  case h_6 =>
    rw [show dvs = [] from hv]
    cases h
    exact ⟨[], _, by simp only [metV]; rw [if_neg hna, hn.2], rfl, rfl⟩
  case h_7 x =>
    obtain ⟨d, ds, rfl, h1, h2⟩ := hv
    rw [show ds = [] from h2]
    split at h
    · rename_i hd
      simp only [Bool.and_eq_true] at hd
      split at h
      · rename_i e
        cases h
        have hp : pair old S (.lst a) d = some (ps, x) := by
          unfold pair
          rw [Val.py 60 (.list ps) (.lst a) (by simp only [dOk]; exact hd.1) ⟨xs, hx, .inr ⟨a, rfl, hn.at_⟩⟩, Val.py 60 x d hd.2 h1.toE]
        exact ⟨_, _, by simp only [metV]; rw [if_neg hna, hn.2]; simp only [hp]; rw [if_pos e], hx.erase _, rfl⟩
      · cases h
    · cases h
  case h_8 => cases h
theorem look_ok {m : Met} {x r : PyData} {d dx : D} (hd : ValE P old S (.list ps) d) (hx : Val Q old S x dx) (h : lookP m ps x = some r) : ∃ dr, metV old m d [dx] S = .ok dr S ∧ (∀ P, Val P old S r dr) ∧ nl dr := by
  unfold lookP at h
  split at h
  · rename_i hk
    simp only [Bool.and_eq_true] at hk
    have hp : pair old S d dx = some (ps, x) := by
      unfold pair
      rw [Val.py 60 (.list ps) d (by simp only [dOk]; exact hk.1) hd, Val.py 60 x dx hk.2 hx.toE]
    cases m <;> simp only [reduceCtorEq] at h
    · split at h
      · rename_i e
        cases h
        exact ⟨_, by simp only [metV, hp]; rw [if_pos e], fun _ => rfl, nl_int⟩
      · cases h
    · cases h
      exact ⟨_, by simp only [metV, hp], fun _ => rfl, nl_int⟩
  · cases h
mutual
/-- what holds no place reads the same anywhere -/
theorem Val.dpure (o2 S2 : Sto) : ∀ (p : PyData) (d : D), d.pure = true → Val P old S p d → Val Q o2 S2 p d
  | .none, _, _, h => h | .bool _, _, _, h => h | .int _, _, _, h => h | .str _, _, _, h => h
  | .dict _, d, hp, h => by
    rcases h with h | ⟨ns, a, _, e, _⟩
    · exact .inl h
    · rw [e] at hp; simp [D.pure] at hp
  | .tuple ps, d, hp, ⟨xs, h1, h2⟩ => by
    rw [h1] at hp
    simp only [D.pure] at hp
    exact ⟨xs, h1, Vals.dpure o2 S2 ps xs hp h2⟩
  | .list ps, d, hp, ⟨xs, _, a, e, _⟩ => by rw [e] at hp; simp [D.pure] at hp
theorem Vals.dpure (o2 S2 : Sto) : ∀ (ps : List PyData) (xs : List D), D.pureAll xs = true → Vals P old S ps xs → Vals Q o2 S2 ps xs
  | [], _, _, h => h
  | p :: ps, _, hp, ⟨x, xs, e, h1, h2⟩ => by
    rw [e] at hp
    simp only [D.pureAll, Bool.and_eq_true] at hp
    exact ⟨x, xs, e, Val.dpure o2 S2 p x hp.1 h1, Vals.dpure o2 S2 ps xs hp.2 h2⟩
end
mutual
/-- a thing reads as one value alone -/
theorem Val.det : ∀ (p q : PyData) (d : D), Val P old S p d → Val Q old S q d → p = q
  | .none, q, d, h1, h2 => by
    rw [show d = .non from h1] at h2
    cases q with
    | none => rfl
    | bool b => cases h2
    | int b => cases h2
    | str b => cases h2.1
    | tuple b => obtain ⟨_, e, _⟩ := h2; cases e
    | list b => obtain ⟨_, _, _, e, _⟩ := h2; cases e
    | dict b => rcases h2 with ⟨_, _, e⟩ | ⟨_, _, _, e, _⟩ <;> cases e
  | .bool b, q, d, h1, h2 => by
    rw [show d = .bl b from h1] at h2
    cases q with
    | none => cases h2
    | bool b => cases h2; rfl
    | int b => cases h2
    | str b => cases h2.1
    | tuple b => obtain ⟨_, e, _⟩ := h2; cases e
    | list b => obtain ⟨_, _, _, e, _⟩ := h2; cases e
    | dict b => rcases h2 with ⟨_, _, e⟩ | ⟨_, _, _, e, _⟩ <;> cases e
  | .int b, q, d, h1, h2 => by
    rw [show d = .int b from h1] at h2
    cases q with
    | none => cases h2
    | bool b => cases h2
    | int b => cases h2; rfl
    | str b => cases h2.1
    | tuple b => obtain ⟨_, e, _⟩ := h2; cases e
    | list b => obtain ⟨_, _, _, e, _⟩ := h2; cases e
    | dict b => rcases h2 with ⟨_, _, e⟩ | ⟨_, _, _, e, _⟩ <;> cases e
  | .str b, q, d, h1, h2 => by
    rw [(show d = .str b ∧ _ from h1).1] at h2
    cases q with
    | none => cases h2
    | bool b => cases h2
    | int b => cases h2
    | str b => cases h2.1; rfl
    | tuple b => obtain ⟨_, e, _⟩ := h2; cases e
    | list b => obtain ⟨_, _, _, e, _⟩ := h2; cases e
    | dict b => rcases h2 with ⟨_, _, e⟩ | ⟨_, _, _, e, _⟩ <;> cases e
  | .tuple b, q, d, ⟨xs, h0, h1⟩, h2 => by
    rw [h0] at h2
    cases q with
    | none => cases h2
    | bool b => cases h2
    | int b => cases h2
    | str b => cases h2.1
    | tuple b2 => obtain ⟨_, e, h3⟩ := h2; cases e; rw [Vals.det b b2 xs h1 h3]
    | list b => obtain ⟨_, _, _, e, _⟩ := h2; cases e
    | dict b => rcases h2 with ⟨_, _, e⟩ | ⟨_, _, _, e, _⟩ <;> cases e
  | .list b, q, d, ⟨xs, h1, a, h0, _, h4⟩, h2 => by
    rw [h0] at h2
    cases q with
    | none => cases h2
    | bool b => cases h2
    | int b => cases h2
    | str b => cases h2.1
    | tuple b2 => obtain ⟨_, e, h3⟩ := h2; cases e
    | list b2 =>
      obtain ⟨ys, h3, a2, e, _, h5⟩ := h2
      cases e
      rw [h4] at h5
      cases h5
      rw [Vals.det b b2 xs h1 h3]
    | dict b =>
      rcases h2 with ⟨_, _, e⟩ | ⟨ns, a2, _, e, _, h5⟩
      · cases e
      · cases e; rw [h4] at h5; cases h5
  | .dict b, q, d, h1, h2 => by
    rcases h1 with ⟨c, e1, e2⟩ | ⟨ns, a, e1, e2, _, e3⟩
    · rw [e2] at h2
      cases q with
      | none => cases h2
      | bool b => cases h2
      | int b => cases h2
      | str b => cases h2.1
      | tuple b2 => obtain ⟨_, e, h3⟩ := h2; cases e
      | list b => obtain ⟨_, _, _, e, _⟩ := h2; cases e
      | dict b2 =>
        rcases h2 with ⟨c2, f1, f2⟩ | ⟨_, _, _, e, _⟩
        · cases f2; rw [e1, f1]
        · cases e
    · rw [e2] at h2
      cases q with
      | none => cases h2
      | bool b => cases h2
      | int b => cases h2
      | str b => cases h2.1
      | tuple b2 => obtain ⟨_, e, h3⟩ := h2; cases e
      | list b =>
        obtain ⟨ys, h3, a2, e, _, h5⟩ := h2
        cases e
        rw [e3] at h5; cases h5
      | dict b2 =>
        rcases h2 with ⟨c2, f1, f2⟩ | ⟨ns2, a2, f1, f2, _, f3⟩
        · cases f2
        · cases f2
          rw [e3] at f3
          have : ns.map D.int = ns2.map D.int := by injection Option.some.inj f3
          have h : ns = ns2 := by
            have hinj : ∀ (l1 l2 : List Int), l1.map D.int = l2.map D.int → l1 = l2 := by
              intro l1
              induction l1 with
              | nil => intro l2 h; cases l2 with
                | nil => rfl
                | cons y l2 => cases h
              | cons x l1 ih => intro l2 h; cases l2 with
                | nil => cases h
                | cons y l2 =>
                  rw [List.map_cons, List.map_cons] at h
                  injection h with h1 h2
                  injection h1 with h1
                  rw [h1, ih l2 h2]
            exact hinj _ _ this
          rw [e1, f1, h]
theorem Vals.det : ∀ (ps qs : List PyData) (xs : List D), Vals P old S ps xs → Vals Q old S qs xs → ps = qs
  | [], [], _, _, _ => rfl
  | [], q :: qs, xs, h1, ⟨x, ys, e, _⟩ => by rw [show xs = [] from h1] at e; cases e
  | p :: ps, [], xs, ⟨x, ys, e, _⟩, h2 => by rw [show xs = [] from h2] at e; cases e
  | p :: ps, q :: qs, xs, ⟨x, ys, e, h1, h2⟩, ⟨x2, ys2, e2, h3, h4⟩ => by
    rw [e] at e2
    cases e2
    rw [Val.det p q x h1 h3, Vals.det ps qs ys h2 h4]
end
mutual
/-- each place on the way is itself readable -/
theorem Val.self : ∀ (p : PyData) (d : D), Val P old S p d → Val (fun a => P a ∧ ∃ q, Val P old S q (.lst a)) old S p d
  | .none, _, h => h | .bool _, _, h => h | .int _, _, h => h | .str _, _, h => h
  | .dict kvs, d, h => by
    rcases h with h | ⟨ns, a, e1, e2, e3, e4⟩
    · exact .inl h
    · exact .inr ⟨ns, a, e1, e2, ⟨e3, .dict kvs, .inr ⟨ns, a, e1, rfl, e3, e4⟩⟩, e4⟩
  | .tuple ps, d, ⟨xs, h1, h2⟩ => ⟨xs, h1, Vals.self ps xs h2⟩
  | .list ps, d, ⟨xs, h1, a, h2, h3, h4⟩ => ⟨xs, Vals.self ps xs h1, a, h2, ⟨h3, .list ps, xs, h1, a, rfl, h3, h4⟩, h4⟩
theorem Vals.self : ∀ (ps : List PyData) (xs : List D), Vals P old S ps xs → Vals (fun a => P a ∧ ∃ q, Val P old S q (.lst a)) old S ps xs
  | [], _, h => h
  | p :: ps, _, ⟨x, xs, e, h1, h2⟩ => ⟨x, xs, e, Val.self p x h1, Vals.self ps xs h2⟩
end
mutual
/-- readings of two stores that agree on what is read -/
theorem Val.both {S2 : Sto} : ∀ (p : PyData) (d : D), Val P old S p d → Val Q old [] p d → Val P old [] p d
  | .none, _, h, _ => h | .bool _, _, h, _ => h | .int _, _, h, _ => h | .str _, _, h, _ => h
  | .dict kvs, d, h, h2 => by
    rcases h with h | ⟨ns, a, e1, e2, e3, e4⟩
    · exact .inl h
    · rcases h2 with ⟨_, _, f⟩ | ⟨ns2, a2, f1, f2, _, f4⟩
      · rw [e2] at f; cases f
      · rw [e2] at f2; cases f2
        exact .inr ⟨ns2, a, f1, e2, e3, f4⟩
  | .tuple ps, d, ⟨xs, h1, h2⟩, ⟨ys, h3, h4⟩ => by
    rw [h1] at h3; cases h3
    exact ⟨xs, h1, Vals.both (S2 := S2) ps xs h2 h4⟩
  | .list ps, d, ⟨xs, h1, a, h2, h3, h4⟩, ⟨ys, g1, a2, g2, _, g4⟩ => by
    rw [h2] at g2; cases g2
    have : at_ old S a = some (.lst ys) := by
      have := at_app (more := S) g4
      simpa using this
    rw [h4] at this
    cases this
    exact ⟨xs, Vals.both (S2 := S2) ps xs h1 g1, a, h2, h3, g4⟩
theorem Vals.both {S2 : Sto} : ∀ (ps : List PyData) (xs : List D), Vals P old S ps xs → Vals Q old [] ps xs → Vals P old [] ps xs
  | [], _, h, _ => h
  | p :: ps, _, ⟨x, xs, e, h1, h2⟩, ⟨y, ys, e2, h3, h4⟩ => by
    rw [e] at e2
    cases e2
    exact ⟨x, xs, e, Val.both (S2 := S2) p x h1 h3, Vals.both (S2 := S2) ps xs h2 h4⟩
end
end
end Z
/-! Y3: how names and values stand to the store. -/
namespace Z
open PySem
structure Ent where
  d : D
  p : PyData
  k : K
  as : List Nat
/-- places that a shared thing may use -/
def Al (B : Nat → Prop) (old : Sto) (X : List Nat) (c : Bool) (a : Nat) : Prop := B a ∧ (c = true → old.length ≤ a) ∧ a ∉ X
def Rows (old S : Sto) : List PyData → List D → List Nat → Prop
  | [], xs, bs => xs = [] ∧ bs = []
  | p :: ps, xs, bs => ∃ qs ys b xs' bs', p = .list qs ∧ purs qs = true ∧ NewL old S b ys ∧ (∀ P o2 S2, Vals P o2 S2 qs ys) ∧ xs = .lst b :: xs' ∧ bs = b :: bs' ∧ Rows old S ps xs' bs'
def EntOk (B : Nat → Prop) (old S : Sto) (X : List Nat) (e : Ent) : Prop := match e.k.t with
  | .sh => e.as = [] ∧ ValF (Al B old X e.k.c) old S e.p e.d
  | .tb => ∃ ps xs bs, e.p = .list ps ∧ Rows old S ps xs bs ∧ ((e.d = .tmp xs ∧ e.as = bs) ∨ ∃ a, e.d = .lst a ∧ NewL old S a xs ∧ e.as = a :: bs)
  | _ => (nl e.d ∧ e.as = [] ∧ ValF (Al B old X e.k.c) old S e.p e.d) ∨ ∃ a ps xs, e.d = .lst a ∧ e.p = .list ps ∧ e.as = [a] ∧ NewL old S a xs ∧ Vals (Al B old X e.k.c) old S ps xs
structure Inv (B : Nat → Prop) (old S : Sto) (F : List Ent) : Prop where
  nd : (F.flatMap Ent.as).Nodup
  ok : ∀ e ∈ F, EntOk B old S (F.flatMap Ent.as) e
  ls : ∀ c ∈ S, ∃ xs, c = Cell.lst xs
  up : ∀ a, old.length ≤ a → B a
section
variable {B : Nat → Prop} {old S : Sto} {X Y : List Nat} {e : Ent} {F F' T A : List Ent} {p : PyData} {d : D} {c : Bool} {ps : List PyData} {xs : List D}
theorem Al.sub (h : ∀ a ∈ Y, a ∈ X) : ∀ a, Al B old X c a → Al B old Y c a := fun a ⟨h1, h2, h3⟩ => ⟨h1, h2, fun q => h3 (h a q)⟩
theorem Al.weak : ∀ a, Al B old X true a → Al B old X c a := fun a ⟨h1, h2, h3⟩ => ⟨h1, fun _ => h2 rfl, h3⟩
theorem at_lt {a : Nat} {c : Cell} (h : at_ old S a = some c) : a < old.length + S.length := by
  have := (List.getElem?_eq_some_iff.mp h).1
  rwa [List.length_append] at this
mutual
theorem Val.lt {P : Nat → Prop} : ∀ (p : PyData) (d : D), Val P old S p d → Val (fun a => P a ∧ a < old.length + S.length) old S p d
  | .none, _, h => h | .bool _, _, h => h | .int _, _, h => h | .str _, _, h => h
  | .dict _, _, h => h.imp id fun ⟨ns, a, e1, e2, e3, e4⟩ => ⟨ns, a, e1, e2, ⟨e3, at_lt e4⟩, e4⟩
  | .tuple ps, d, ⟨xs, h1, h2⟩ => ⟨xs, h1, Vals.lt ps xs h2⟩
  | .list ps, d, ⟨xs, h1, h2⟩ => ⟨xs, Vals.lt ps xs h1, by obtain ⟨a, e1, e2, e3⟩ := h2; exact ⟨a, e1, ⟨e2, at_lt e3⟩, e3⟩⟩
theorem Vals.lt {P : Nat → Prop} : ∀ (ps : List PyData) (xs : List D), Vals P old S ps xs → Vals (fun a => P a ∧ a < old.length + S.length) old S ps xs
  | [], _, h => h
  | p :: ps, _, ⟨x, xs, e, h1, h2⟩ => ⟨x, xs, e, Val.lt p x h1, Vals.lt ps xs h2⟩
end
theorem ValF.lt {P : Nat → Prop} (h : ValF P old S p d) : ValF (fun a => P a ∧ a < old.length + S.length) old S p d := by
  cases p with
  | list ps => obtain ⟨xs, h1, h2⟩ := h; exact ⟨xs, Vals.lt _ _ h1, h2.imp id fun ⟨a, e1, e2, e3⟩ => ⟨a, e1, ⟨e2, at_lt e3⟩, e3⟩⟩
  | _ => exact Val.lt _ _ h
theorem Al.subN (h : ∀ a ∈ Y, a ∈ X ∨ old.length + S.length ≤ a) : ∀ a, Al B old X c a ∧ a < old.length + S.length → Al B old Y c a := fun a ⟨⟨h1, h2, h3⟩, h4⟩ => ⟨h1, h2, fun q => (h a q).elim h3 (by omega)⟩
theorem Val.subN (h : ∀ a ∈ Y, a ∈ X ∨ old.length + S.length ≤ a) (hv : Val (Al B old X c) old S p d) : Val (Al B old Y c) old S p d := Val.mono (Al.subN h) _ _ (Val.lt _ _ hv)
theorem ValF.subN (h : ∀ a ∈ Y, a ∈ X ∨ old.length + S.length ≤ a) (hv : ValF (Al B old X c) old S p d) : ValF (Al B old Y c) old S p d := ValF.mono (Al.subN h) (ValF.lt hv)
theorem Vals.subN (h : ∀ a ∈ Y, a ∈ X ∨ old.length + S.length ≤ a) (hv : Vals (Al B old X c) old S ps xs) : Vals (Al B old Y c) old S ps xs := Vals.mono (Al.subN h) _ _ (Vals.lt _ _ hv)
theorem EntOk.subN (h : ∀ a ∈ Y, a ∈ X ∨ old.length + S.length ≤ a) (he : EntOk B old S X e) : EntOk B old S Y e := by
  unfold EntOk at *
  split
  · rename_i q; rw [q] at he; exact ⟨he.1, ValF.subN h he.2⟩
  · rename_i q; rw [q] at he; exact he
  · rename_i q1 q2
    have he' : (nl e.d ∧ e.as = [] ∧ ValF (Al B old X e.k.c) old S e.p e.d) ∨ ∃ a ps xs, e.d = .lst a ∧ e.p = .list ps ∧ e.as = [a] ∧ NewL old S a xs ∧ Vals (Al B old X e.k.c) old S ps xs := by
      split at he
      · rename_i q; exact absurd q q1
      · rename_i q; exact absurd q q2
      · exact he
    rcases he' with ⟨h1, h2, h3⟩ | ⟨a, ps, xs, h1, h2, h3, h4, h5⟩
    · exact .inl ⟨h1, h2, ValF.subN h h3⟩
    · exact .inr ⟨a, ps, xs, h1, h2, h3, h4, Vals.subN h h5⟩
theorem EntOk.sub (h : ∀ a ∈ Y, a ∈ X) (he : EntOk B old S X e) : EntOk B old S Y e := he.subN fun a ha => .inl (h a ha)
theorem NewL.app {a : Nat} {more : Sto} (h : NewL old S a xs) : NewL old (S ++ more) a xs := ⟨h.1, by rw [List.getElem?_append_left (List.getElem?_eq_some_iff.mp h.2).1]; exact h.2⟩
theorem NewL.wr {a b : Nat} {ys : List D} (h : NewL old S b xs) (ha : old.length ≤ a) (hb : b ≠ a) : NewL old (Z.wr old S a ys) b xs := ⟨h.1, by
  have := h.1
  unfold Z.wr
  rw [List.getElem?_set_ne (by omega)]; exact h.2⟩
theorem NewL.self {a : Nat} {ys : List D} (h : NewL old S a xs) : NewL old (Z.wr old S a ys) a ys := ⟨h.1, by
  unfold Z.wr
  rw [List.getElem?_set_self (List.getElem?_eq_some_iff.mp h.2).1]⟩
theorem Rows.app {more : Sto} : ∀ {ps : List PyData} {xs : List D} {bs : List Nat}, Rows old S ps xs bs → Rows old (S ++ more) ps xs bs
  | [], _, _, h => h
  | p :: ps, _, _, ⟨qs, ys, b, xs', bs', h1, h2, h3, h4, h5, h6, h7⟩ => ⟨qs, ys, b, xs', bs', h1, h2, h3.app, h4, h5, h6, h7.app⟩
theorem Rows.wr {a : Nat} {ws : List D} (ha : old.length ≤ a) : ∀ {ps : List PyData} {xs : List D} {bs : List Nat}, a ∉ bs → Rows old S ps xs bs → Rows old (Z.wr old S a ws) ps xs bs
  | [], _, _, _, h => h
  | p :: ps, _, _, hn, ⟨qs, ys, b, xs', bs', h1, h2, h3, h4, h5, h6, h7⟩ => by
    rw [h6] at hn
    simp only [List.mem_cons, not_or] at hn
    exact ⟨qs, ys, b, xs', bs', h1, h2, h3.wr ha (fun q => hn.1 q.symm), h4, h5, h6, h7.wr ha hn.2⟩
theorem EntOk.app {more : Sto} (he : EntOk B old S X e) : EntOk B old (S ++ more) X e := by
  unfold EntOk at *
  split
  · rename_i q; rw [q] at he; exact ⟨he.1, ValF.app he.2⟩
  · rename_i q; rw [q] at he
    obtain ⟨ps, xs, bs, h1, h2, h3⟩ := he
    exact ⟨ps, xs, bs, h1, h2.app, h3.imp id fun ⟨a, q1, q2, q3⟩ => ⟨a, q1, q2.app, q3⟩⟩
  · rename_i q1 q2
    split at he
    · rename_i q; exact absurd q q1
    · rename_i q; exact absurd q q2
    · rcases he with ⟨h1, h2, h3⟩ | ⟨a, ps, xs, h1, h2, h3, h4, h5⟩
      · exact .inl ⟨h1, h2, ValF.app h3⟩
      · exact .inr ⟨a, ps, xs, h1, h2, h3, h4.app, Vals.app _ _ h5⟩
/-- a place of another one is written -/
theorem EntOk.wr {a : Nat} {ws : List D} (ha : old.length ≤ a) (hX : a ∈ X) (hn : a ∉ e.as) (he : EntOk B old S X e) : EntOk B old (Z.wr old S a ws) X e := by
  have hP : ∀ c, ¬ Al B old X c a := fun c h => h.2.2 hX
  unfold EntOk at *
  split
  · rename_i q; rw [q] at he; exact ⟨he.1, ValF.wr ha (hP _) he.2⟩
  · rename_i q; rw [q] at he
    obtain ⟨ps, xs, bs, h1, h2, h3⟩ := he
    rcases h3 with ⟨q1, q2⟩ | ⟨b, q1, q2, q3⟩
    · rw [q2] at hn
      exact ⟨ps, xs, bs, h1, h2.wr ha hn, .inl ⟨q1, q2⟩⟩
    · rw [q3] at hn
      simp only [List.mem_cons, not_or] at hn
      exact ⟨ps, xs, bs, h1, h2.wr ha hn.2, .inr ⟨b, q1, q2.wr ha (fun z => hn.1 z.symm), q3⟩⟩
  · rename_i q1 q2
    split at he
    · rename_i q; exact absurd q q1
    · rename_i q; exact absurd q q2
    · rcases he with ⟨h1, h2, h3⟩ | ⟨b, ps, xs, h1, h2, h3, h4, h5⟩
      · exact .inl ⟨h1, h2, ValF.wr ha (hP _) h3⟩
      · rw [h3] at hn
        simp only [List.mem_singleton] at hn
        exact .inr ⟨b, ps, xs, h1, h2, h3, h4.wr ha (fun z => hn z.symm), Vals.wr ha (hP _) _ _ h5⟩
theorem mem_fm {a : Nat} : a ∈ F.flatMap Ent.as ↔ ∃ e ∈ F, a ∈ e.as := List.mem_flatMap
theorem Inv.perm (h : Inv B old S F) (hp : F.Perm F') : Inv B old S F' := by
  have hq : (F.flatMap Ent.as).Perm (F'.flatMap Ent.as) := hp.flatMap_right _
  exact ⟨hq.nodup_iff.mp h.nd, fun e he => (h.ok e (hp.mem_iff.mpr he)).sub fun a ha => hq.mem_iff.mpr ha, h.ls, h.up⟩
theorem fm_sub (hs : F'.Sublist F) : (F'.flatMap Ent.as).Sublist (F.flatMap Ent.as) := by
  induction hs with
  | slnil => exact List.Sublist.slnil
  | cons a h ih => rw [List.flatMap_cons]; exact ih.trans (List.sublist_append_right _ _)
  | cons_cons a h ih => rw [List.flatMap_cons, List.flatMap_cons]; exact (List.Sublist.refl _).append ih
theorem Inv.sub (h : Inv B old S F) (hs : F'.Sublist F) : Inv B old S F' :=
  ⟨(fm_sub hs).nodup h.nd, fun e he => (h.ok e (hs.subset he)).sub fun a ha => (fm_sub hs).subset ha, h.ls, h.up⟩
theorem Inv.app (h : Inv B old S F) {more : Sto} (hm : ∀ c ∈ more, ∃ xs, c = Cell.lst xs) : Inv B old (S ++ more) F :=
  ⟨h.nd, fun e he => (h.ok e he).app, fun c hc => (List.mem_append.mp hc).elim (h.ls c) (hm c), h.up⟩
/-- one entry in the place of another one -/
theorem Inv.repl {e2 : Ent} (h : Inv B old S (e :: F)) (hs : e2.as.Sublist e.as) (ho : EntOk B old S (e2.as ++ F.flatMap Ent.as) e2) : Inv B old S (e2 :: F) := by
  have h1 : ((e2 :: F).flatMap Ent.as).Sublist ((e :: F).flatMap Ent.as) := by
    rw [List.flatMap_cons, List.flatMap_cons]; exact hs.append (List.Sublist.refl _)
  refine ⟨h1.nodup h.nd, fun x hx => ?_, h.ls, h.up⟩
  rcases List.mem_cons.mp hx with q | q
  · rw [q, List.flatMap_cons]; exact ho
  · exact (h.ok x (.tail _ q)).sub fun a ha => h1.subset ha
theorem Inv.add (h : Inv B old S F) {e2 : Ent} (has : e2.as = []) (ho : EntOk B old S (F.flatMap Ent.as) e2) : Inv B old S (e2 :: F) := by
  have h1 : (e2 :: F).flatMap Ent.as = F.flatMap Ent.as := by rw [List.flatMap_cons, has]; rfl
  refine ⟨by rw [h1]; exact h.nd, fun x hx => ?_, h.ls, h.up⟩
  rw [h1]
  rcases List.mem_cons.mp hx with q | q
  · rw [q]; exact ho
  · exact h.ok x q
/-! kinds -/
theorem ok_sh {e : Ent} (hk : e.k.t = .sh) : EntOk B old S X e ↔ e.as = [] ∧ ValF (Al B old X e.k.c) old S e.p e.d := by unfold EntOk; rw [hk]
theorem ok_ex {e : Ent} (hk : e.k.t = .ex ∨ e.k.t = .lk) : EntOk B old S X e ↔ ((nl e.d ∧ e.as = [] ∧ ValF (Al B old X e.k.c) old S e.p e.d) ∨ ∃ a ps xs, e.d = .lst a ∧ e.p = .list ps ∧ e.as = [a] ∧ NewL old S a xs ∧ Vals (Al B old X e.k.c) old S ps xs) := by
  unfold EntOk; rcases hk with hk | hk <;> rw [hk]
theorem ok_tb {e : Ent} (hk : e.k.t = .tb) : EntOk B old S X e ↔ ∃ ps xs bs, e.p = .list ps ∧ Rows old S ps xs bs ∧ ((e.d = .tmp xs ∧ e.as = bs) ∨ ∃ a, e.d = .lst a ∧ NewL old S a xs ∧ e.as = a :: bs) := by unfold EntOk; rw [hk]
theorem Rows.vals {P : Nat → Prop} : ∀ {ps : List PyData} {xs : List D} {bs : List Nat}, Rows old S ps xs bs → (∀ b ∈ bs, P b) → Vals P old S ps xs
  | [], _, _, h, _ => h.1
  | p :: ps, _, _, ⟨qs, ys, b, xs', bs', h1, h2, h3, h4, h5, h6, h7⟩, hP => by
    rw [h6] at hP
    exact ⟨_, _, h5, by rw [h1]; exact ⟨ys, h4 _ _ _, b, rfl, hP b (.head _), h3.at_⟩, h7.vals fun b hb => hP b (.tail _ hb)⟩
theorem Rows.ge : ∀ {ps : List PyData} {xs : List D} {bs : List Nat}, Rows old S ps xs bs → ∀ b ∈ bs, old.length ≤ b
  | [], _, _, h, b, hb => by rw [h.2] at hb; cases hb
  | p :: ps, _, _, ⟨qs, ys, b, xs', bs', h1, h2, h3, h4, h5, h6, h7⟩, a, ha => by
    rw [h6] at ha
    rcases List.mem_cons.mp ha with q | q
    · rw [q]; exact h3.1
    · exact h7.ge a q
/-- what any entry reads, its own list apart -/
theorem EntOk.read (h : EntOk B old S X e) (hk : e.k.t ≠ .tb) : ValE (Al B old X e.k.c) old S e.p e.d := by
  unfold EntOk at h
  split at h
  · exact h.2.toE
  · rename_i q; exact absurd q hk
  · rcases h with ⟨h1, h2, h3⟩ | ⟨a, ps, xs, h1, h2, h3, h4, h5⟩
    · exact h3.toE
    · rw [h2]; exact ⟨xs, h5, .inr ⟨a, h1, h4.at_⟩⟩
/-- a sole thing is shared from here on -/
theorem Inv.share (h : Inv B old S (e :: F)) {c2 : Bool} (hc : e.k.t = .tb ∨ (c2 = true → e.k.c = true)) : Inv B old S (⟨e.d, e.p, ⟨.sh, c2⟩, []⟩ :: F) := by
  refine h.repl (List.nil_sublist _) ((ok_sh rfl).mpr ⟨rfl, ?_⟩)
  have ho := h.ok e (.head _)
  have hd : ∀ a ∈ e.as, a ∉ F.flatMap Ent.as := by
    have := h.nd
    rw [List.flatMap_cons, List.nodup_append] at this
    exact fun a ha hb => this.2.2 a ha a hb rfl
  have hsub : ∀ {k : Bool}, (c2 = true → k = true) → ∀ a, Al B old (e.as ++ F.flatMap Ent.as) k a → Al B old ([] ++ F.flatMap Ent.as) c2 a := fun hk a ⟨h1, h2, h3⟩ => ⟨h1, fun q => h2 (hk q), fun q => h3 (List.mem_append.mpr (.inr q))⟩
  rw [List.flatMap_cons] at ho
  by_cases hs : e.k.t = .sh
  · rw [ok_sh hs] at ho
    exact ValF.mono (hsub (hc.resolve_left (by rw [hs]; exact fun q => by cases q))) ho.2
  by_cases ht : e.k.t = .tb
  · rw [ok_tb ht] at ho
    obtain ⟨ps, xs, bs, h1, h2, h3⟩ := ho
    have hbs : ∀ b ∈ bs, b ∈ e.as := by
      rcases h3 with ⟨_, q⟩ | ⟨a, _, _, q⟩
      · rw [q]; exact fun b hb => hb
      · rw [q]; exact fun b hb => .tail _ hb
    have hv : Vals (Al B old ([] ++ F.flatMap Ent.as) c2) old S ps xs := h2.vals fun b hb => ⟨h.up b (h2.ge b hb), fun _ => h2.ge b hb, by simpa using hd b (hbs b hb)⟩
    show ValF _ old S e.p e.d
    rw [h1]
    rcases h3 with ⟨q1, q2⟩ | ⟨a, q1, q2, q3⟩
    · exact ⟨xs, hv, .inl q1⟩
    · exact ⟨xs, hv, .inr ⟨a, q1, ⟨h.up a q2.1, fun _ => q2.1, by simpa using hd a (by rw [q3]; exact .head _)⟩, q2.at_⟩⟩
  · have hk : e.k.t = .ex ∨ e.k.t = .lk := by
      cases q : e.k.t with
      | sh => exact absurd q hs
      | tb => exact absurd q ht
      | ex => exact .inl rfl
      | lk => exact .inr rfl
    have hc2 : c2 = true → e.k.c = true := hc.resolve_left ht
    rw [ok_ex hk] at ho
    rcases ho with ⟨h1, h2, h3⟩ | ⟨a, ps, xs, h1, h2, h3, h4, h5⟩
    · exact ValF.mono (hsub hc2) h3
    · show ValF _ old S e.p e.d
      rw [h2]
      exact ⟨xs, Vals.mono (hsub hc2) _ _ h5, .inr ⟨a, h1, ⟨h.up a h4.1, fun _ => h4.1, by simpa using hd a (by rw [h3]; exact .head _)⟩, h4.at_⟩⟩
/-- a table is a sole list of shared rows from here on -/
theorem Inv.tbex (h : Inv B old S (e :: F)) (hk : e.k.t = .tb) : ∃ as, as.Sublist e.as ∧ Inv B old S (⟨e.d, e.p, ⟨.ex, true⟩, as⟩ :: F) := by
  have ho := h.ok e (.head _)
  have hn := h.nd
  rw [List.flatMap_cons, List.nodup_append] at hn
  rw [ok_tb hk] at ho
  obtain ⟨ps, xs, bs, h1, h2, h3⟩ := ho
  rcases h3 with ⟨q1, q2⟩ | ⟨a, q1, q2, q3⟩
  · refine ⟨[], List.nil_sublist _, h.repl (List.nil_sublist _) ((ok_ex (.inl rfl)).mpr (.inl ⟨?_, rfl, ?_⟩))⟩
    · show nl e.d
      rw [q1]; exact nl_tmp
    · show ValF _ old S e.p e.d
      rw [h1]
      exact ⟨xs, h2.vals fun b hb => ⟨h.up b (h2.ge b hb), fun _ => h2.ge b hb, fun q => hn.2.2 b (by rw [q2]; exact hb) b (by simpa using q) rfl⟩, .inl q1⟩
  · have hs : [a].Sublist e.as := by rw [q3]; exact (List.nil_sublist bs).cons₂ a
    refine ⟨[a], hs, h.repl hs ((ok_ex (.inl rfl)).mpr (.inr ⟨a, ps, xs, q1, h1, rfl, q2, ?_⟩))⟩
    refine h2.vals fun b hb => ⟨h.up b (h2.ge b hb), fun _ => h2.ge b hb, fun q => ?_⟩
    rcases List.mem_append.mp q with q | q
    · have h4 := hn.1
      rw [q3, List.nodup_cons] at h4
      rw [List.mem_singleton] at q
      exact h4.1 (q ▸ hb)
    · exact hn.2.2 b (by rw [q3]; exact .tail _ hb) b q rfl
/-- what is known by the value -/
theorem Val.up {P Q : Nat → Prop} (hp : pur p = true) (h : Val P old S p d) : Val Q old S p d := Val.pure old S p d hp h
theorem ok_nK (h : EntOk B old S X e) : EntOk B old S X ⟨e.d, e.p, nK e.p e.k, e.as⟩ := by
  obtain ⟨d, p, ⟨t, c⟩, as⟩ := e
  cases t with
  | sh =>
    rw [ok_sh rfl] at h
    refine (ok_sh rfl).mpr ⟨h.1, ?_⟩
    show ValF (Al B old X (c || pur p)) old S p d
    cases hp : pur p with
    | true => exact ValF.pure old S hp h.2
    | false => rw [Bool.or_false]; exact h.2
  | tb => exact h
  | ex =>
    rw [ok_ex (.inl rfl)] at h
    refine (ok_ex (.inl rfl)).mpr ?_
    rcases h with ⟨h1, h2, h3⟩ | ⟨a, ps, xs, h1, h2, h3, h4, h5⟩
    · refine .inl ⟨h1, h2, ?_⟩
      show ValF (Al B old X (c || (pur p || flatP p))) old S p d
      cases hp : pur p with
      | true => exact ValF.pure old S hp h3
      | false =>
        cases hf : flatP p with
        | false => rw [Bool.or_false, Bool.or_false]; exact h3
        | true =>
          cases p <;> simp [flatP] at hf
          obtain ⟨xs, h5, h6⟩ := h3
          refine ⟨xs, Vals.pure old S _ xs hf h5, h6.imp id fun ⟨a, q, _⟩ => absurd q (h1 a)⟩
    · refine .inr ⟨a, ps, xs, h1, h2, h3, h4, ?_⟩
      show Vals (Al B old X (c || (pur p || flatP p))) old S ps xs
      have h2' : p = .list ps := h2
      subst h2'
      cases hf : purs ps with
      | true => exact Vals.pure old S _ xs hf h5
      | false => simp only [pur, flatP, hf, Bool.or_false]; exact h5
  | lk =>
    rw [ok_ex (.inr rfl)] at h
    refine (ok_ex (.inr rfl)).mpr ?_
    rcases h with ⟨h1, h2, h3⟩ | ⟨a, ps, xs, h1, h2, h3, h4, h5⟩
    · refine .inl ⟨h1, h2, ?_⟩
      show ValF (Al B old X (c || (pur p || flatP p))) old S p d
      cases hp : pur p with
      | true => exact ValF.pure old S hp h3
      | false =>
        cases hf : flatP p with
        | false => rw [Bool.or_false, Bool.or_false]; exact h3
        | true =>
          cases p <;> simp [flatP] at hf
          obtain ⟨xs, h5, h6⟩ := h3
          refine ⟨xs, Vals.pure old S _ xs hf h5, h6.imp id fun ⟨a, q, _⟩ => absurd q (h1 a)⟩
    · refine .inr ⟨a, ps, xs, h1, h2, h3, h4, ?_⟩
      show Vals (Al B old X (c || (pur p || flatP p))) old S ps xs
      have h2' : p = .list ps := h2
      subst h2'
      cases hf : purs ps with
      | true => exact Vals.pure old S _ xs hf h5
      | false => simp only [pur, flatP, hf, Bool.or_false]; exact h5
theorem Inv.nK (h : Inv B old S (e :: F)) : Inv B old S (⟨e.d, e.p, Z.nK e.p e.k, e.as⟩ :: F) :=
  h.repl (List.Sublist.refl _) (ok_nK (by have := h.ok e (.head _); rwa [List.flatMap_cons] at this))
theorem Inv.shareP (h : Inv B old S (e :: F)) : Inv B old S (⟨e.d, e.p, ⟨.sh, pur e.p⟩, []⟩ :: F) := by
  by_cases hp : pur e.p = true
  · rw [hp]
    refine Inv.share (e := ⟨e.d, e.p, Z.nK e.p e.k, e.as⟩) h.nK (.inr fun _ => ?_)
    obtain ⟨d, p, ⟨t, c⟩, as⟩ := e
    have hp : pur p = true := hp
    cases t with
    | tb =>
      have hok := h.ok _ (.head _)
      rw [ok_tb rfl] at hok
      obtain ⟨ps, _, _, w, _⟩ := hok
      have w : p = .list ps := w
      rw [w] at hp; simp [pur] at hp
    | _ => show (c || _) = true; simp [hp]
  · rw [Bool.not_eq_true] at hp
    rw [hp]; exact h.share (.inr fun q => by cases q)
theorem nK_t {p : PyData} {k : K} : (nK p k).t = k.t := by obtain ⟨t, c⟩ := k; cases t <;> rfl
theorem NewL.lt {a : Nat} (h : NewL old S a xs) : a < old.length + S.length := at_lt h.at_
theorem Rows.lt : ∀ {ps : List PyData} {xs : List D} {bs : List Nat}, Rows old S ps xs bs → ∀ b ∈ bs, b < old.length + S.length
  | [], _, _, h, b, hb => by rw [h.2] at hb; cases hb
  | p :: ps, _, _, ⟨qs, ys, b, xs', bs', h1, h2, h3, h4, h5, h6, h7⟩, a, ha => by
    rw [h6] at ha
    rcases List.mem_cons.mp ha with q | q
    · rw [q]; exact h3.lt
    · exact h7.lt a q
theorem kt_or (t : KT) : t = .sh ∨ t = .tb ∨ (t = .ex ∨ t = .lk) := by
  cases t with
  | sh => exact .inl rfl
  | tb => exact .inr (.inl rfl)
  | ex => exact .inr (.inr (.inl rfl))
  | lk => exact .inr (.inr (.inr rfl))
theorem EntOk.asLt (h : EntOk B old S X e) : ∀ a ∈ e.as, a < old.length + S.length := by
  intro a ha
  rcases kt_or e.k.t with hs | ht | hk
  · rw [ok_sh hs] at h; rw [h.1] at ha; cases ha
  · rw [ok_tb ht] at h
    obtain ⟨ps, zs, bs, q1, q2, q3⟩ := h
    rcases q3 with ⟨_, q3⟩ | ⟨b, _, q4, q3⟩
    · rw [q3] at ha; exact q2.lt a ha
    · rw [q3] at ha
      rcases List.mem_cons.mp ha with q | q
      · rw [q]; exact q4.lt
      · exact q2.lt a q
  · rw [ok_ex hk] at h
    rcases h with ⟨_, q, _⟩ | ⟨b, ps, zs, _, _, q, q4, _⟩
    · rw [q] at ha; cases ha
    · rw [q, List.mem_singleton] at ha; rw [ha]; exact q4.lt
theorem Inv.asLt (h : Inv B old S F) : ∀ a ∈ F.flatMap Ent.as, a < old.length + S.length := fun a ha => by
  obtain ⟨x, hx, hax⟩ := mem_fm.mp ha
  exact (h.ok x hx).asLt a hax
/-- behind a binding -/
theorem Inv.own (h : Inv B old S (e :: F)) : ∃ d S' as, own old e.d S = .ok d S' ∧ Inv B old S' (⟨d, e.p, e.k, as⟩ :: F) ∧ (∀ xs, d ≠ .tmp xs) ∧ (∃ more, S' = S ++ more) := by
  by_cases ht : ∃ xs, e.d = .tmp xs
  case neg =>
    refine ⟨e.d, S, e.as, ?_, h, fun xs q => ht ⟨xs, q⟩, [], by simp⟩
    unfold Z.own
    split
    · rename_i xs q; exact absurd ⟨xs, q⟩ ht
    · rfl
  obtain ⟨xs, ht⟩ := ht
  have hN : NewL old (S ++ [.lst xs]) (old.length + S.length) xs := ⟨Nat.le_add_right _ _, by
    rw [show old.length + S.length - old.length = S.length by omega, List.getElem?_append_right (Nat.le_refl _)]; simp⟩
  have hown : Z.own old e.d S = .ok (.lst (old.length + S.length)) (S ++ [.lst xs]) := by rw [ht]; rfl
  have hls : ∀ c ∈ S ++ [Cell.lst xs], ∃ zs, c = Cell.lst zs := fun c hc => (List.mem_append.mp hc).elim (h.ls c) fun hc => ⟨xs, List.mem_singleton.mp hc⟩
  -- the others
  have hoth : ∀ (as : List Nat), (∀ a ∈ as, a ∈ e.as ∨ old.length + S.length ≤ a) → ∀ x ∈ F, EntOk B old (S ++ [.lst xs]) (as ++ F.flatMap Ent.as) x := by
    intro as has x hx
    refine EntOk.app ((h.ok x (.tail _ hx)).subN fun a ha => ?_)
    rw [List.flatMap_cons]
    rcases List.mem_append.mp ha with q | q
    · exact (has a q).imp (fun z => List.mem_append.mpr (.inl z)) id
    · exact .inl (List.mem_append.mpr (.inr q))
  have hnew : (old.length + S.length) ∉ e.as ++ F.flatMap Ent.as := by
    intro q
    have := h.asLt (old.length + S.length) (by rw [List.flatMap_cons]; exact q)
    omega
  have ho := h.ok e (.head _)
  rw [List.flatMap_cons] at ho
  have hnd := h.nd
  rw [List.flatMap_cons] at hnd
  have hq : ∃ as : List Nat, (∀ a ∈ as, a ∈ e.as ∨ old.length + S.length ≤ a) ∧ (as ++ F.flatMap Ent.as).Nodup ∧ EntOk B old (S ++ [.lst xs]) (as ++ F.flatMap Ent.as) ⟨.lst (old.length + S.length), e.p, e.k, as⟩ := by
    rcases kt_or e.k.t with hs | htb | hk
    · rw [ok_sh hs] at ho
      obtain ⟨h1, h2⟩ := ho
      rw [h1] at hnd hnew h2
      refine ⟨[], fun a ha => (by cases ha), hnd, (ok_sh (e := ⟨.lst (old.length + S.length), e.p, e.k, []⟩) hs).mpr ⟨rfl, ?_⟩⟩
      have h2 : ValF (Al B old ([] ++ F.flatMap Ent.as) e.k.c) old (S ++ [.lst xs]) e.p e.d := ValF.app h2
      rw [ht] at h2
      show ValF (Al B old ([] ++ F.flatMap Ent.as) e.k.c) old (S ++ [.lst xs]) e.p (.lst (old.length + S.length))
      cases hp : e.p <;> rw [hp] at h2 <;> try (first | (obtain ⟨_, q, _⟩ := h2; cases q; done) | (cases h2; done) | (cases h2.1; done))
      · obtain ⟨ys, q1, q2 | ⟨a, q2, _⟩⟩ := h2
        · cases q2
          exact ⟨_, q1, .inr ⟨_, rfl, ⟨h.up _ (Nat.le_add_right _ _), fun _ => Nat.le_add_right _ _, hnew⟩, hN.at_⟩⟩
        · cases q2
      · rcases h2 with ⟨c, _, q⟩ | ⟨ns, a, _, q, _⟩ <;> cases q
    · rw [ok_tb htb] at ho
      obtain ⟨ps, ys, bs, h1, h2, h3⟩ := ho
      rcases h3 with ⟨q1, q2⟩ | ⟨a, q1, _⟩
      · rw [ht] at q1
        cases q1
        rw [q2] at hnd hnew
        refine ⟨(old.length + S.length) :: bs, fun a ha => ?_, ?_, (ok_tb (e := ⟨.lst (old.length + S.length), e.p, e.k, (old.length + S.length) :: bs⟩) htb).mpr ⟨ps, xs, bs, h1, h2.app, .inr ⟨_, rfl, hN, rfl⟩⟩⟩
        · rcases List.mem_cons.mp ha with q | q
          · exact .inr (by omega)
          · exact .inl (by rw [q2]; exact q)
        · rw [List.cons_append, List.nodup_cons]; exact ⟨hnew, hnd⟩
      · rw [ht] at q1; cases q1
    · rw [ok_ex hk] at ho
      rcases ho with ⟨q1, q2, q3⟩ | ⟨a, ps, zs, q1, _⟩
      · rw [q2] at hnd hnew q3
        have q3 : ValF (Al B old ([old.length + S.length] ++ F.flatMap Ent.as) e.k.c) old S e.p e.d := ValF.subN (fun a ha => by
          rcases List.mem_append.mp ha with q | q
          · rw [List.mem_singleton] at q; exact .inr (by omega)
          · exact .inl (List.mem_append.mpr (.inr q))) q3
        have q3 := ValF.app (more := [.lst xs]) q3
        rw [ht] at q3
        refine ⟨[old.length + S.length], fun a ha => .inr (by rw [List.mem_singleton] at ha; omega), ?_, (ok_ex (e := ⟨.lst (old.length + S.length), e.p, e.k, [old.length + S.length]⟩) hk).mpr (.inr ?_)⟩
        · rw [List.singleton_append, List.nodup_cons]; exact ⟨hnew, hnd⟩
        · cases hp : e.p <;> rw [hp] at q3 <;> try (first | (obtain ⟨_, q, _⟩ := q3; cases q; done) | (cases q3; done) | (cases q3.1; done))
          · obtain ⟨ys, w1, w2 | ⟨a, w2, _⟩⟩ := q3
            · cases w2
              exact ⟨_, _, xs, rfl, rfl, rfl, hN, w1⟩
            · cases w2
          · rcases q3 with ⟨c, _, q⟩ | ⟨ns, a, _, q, _⟩ <;> cases q
      · rw [ht] at q1; cases q1
  obtain ⟨as, has, hnd2, hok⟩ := hq
  refine ⟨_, _, as, hown, ⟨by rw [List.flatMap_cons]; exact hnd2, fun x hx => ?_, hls, h.up⟩, fun xs q => (by cases q), _, rfl⟩
  rw [List.flatMap_cons]
  rcases List.mem_cons.mp hx with q | q
  · rw [q]; exact hok
  · exact hoth as has x q
end
end Z
/-! Y4: names; results; reading, holding, calls. -/
namespace Z
open PySem
abbrev Gs := List (Option Ent)
def live (G : Gs) : List Ent := G.filterMap id
def vOf (G : Gs) : VEnv := G.map (Option.map fun e => (e.p, e.k))
structure Slots (env : Env) (G : Gs) : Prop where
  le : G.length ≤ env.length
  at_ : ∀ (i : Nat) (e : Ent), G[i]? = some (some e) → env[i]? = some (some e.d) ∧ ∀ xs, e.d ≠ .tmp xs
structure StG (B : Nat → Prop) (old S : Sto) (env : Env) (v : VEnv) (T : List Ent) (G : Gs) : Prop where
  eq : v = vOf G
  sl : Slots env G
  inv : Inv B old S (T ++ live G)
abbrev XG (T : List Ent) (G : Gs) : List Nat := (T ++ live G).flatMap Ent.as
section
variable {B : Nat → Prop} {old S : Sto} {env : Env} {v : VEnv} {T A : List Ent} {G : Gs} {e e2 : Ent} {p : PyData} {k : K} {i : Nat} {d : D}
theorem ent_vOf : ent (vOf G) i = some (p, k) ↔ ∃ e, G[i]? = some (some e) ∧ e.p = p ∧ e.k = k := by
  unfold ent vOf
  rw [List.getElem?_map]
  cases h : G[i]? with
  | none => simp
  | some o => cases o <;> simp
theorem vOf_set (o : Option Ent) : vOf (G.set i o) = (vOf G).set i (o.map fun e => (e.p, e.k)) := by simp only [vOf, List.map_set]
theorem live_take {e : Ent} : ∀ {G : Gs} {i : Nat}, G[i]? = some (some e) → (live G).Perm (e :: live (G.set i none))
  | [], i, h => by simp at h
  | o :: G, 0, h => by simp at h; subst h; simp [live]
  | o :: G, i + 1, h => by
    have := live_take (G := G) (i := i) (by simpa using h)
    cases o with
    | none => simpa [live] using this
    | some x =>
      simp only [live, List.set_cons_succ, List.filterMap_cons, id_eq] at this ⊢
      exact (this.cons x).trans (List.Perm.swap e x _)
theorem live_put {e : Ent} : ∀ {G : Gs} {i : Nat}, i < G.length → (live (G.set i (some e))).Perm (e :: live (G.set i none))
  | [], i, h => by simp at h
  | o :: G, 0, h => by simp [live]
  | o :: G, i + 1, h => by
    have := live_put (e := e) (G := G) (i := i) (by simpa using h)
    cases o with
    | none => simpa [live] using this
    | some x =>
      simp only [live, List.set_cons_succ, List.filterMap_cons, id_eq] at this ⊢
      exact (this.cons x).trans (List.Perm.swap e x _)
theorem live_kill : ∀ {G : Gs} {i : Nat}, (live (G.set i none)).Sublist (live G)
  | [], i => by simp
  | o :: G, 0 => by
    simp only [List.set_cons_zero, live, List.filterMap_cons, id_eq]
    cases o with
    | none => exact List.Sublist.refl _
    | some x => exact List.sublist_cons_self _ _
  | o :: G, i + 1 => by
    have := live_kill (G := G) (i := i)
    cases o with
    | none => simpa [live] using this
    | some x => simpa [live] using this
theorem focus (h : G[i]? = some (some e)) (hi : Inv B old S (T ++ live G)) : Inv B old S (e :: (T ++ live (G.set i none))) :=
  hi.perm ((List.Perm.append_left T (live_take h)).trans List.perm_middle)
theorem unfocus (h : i < G.length) (hi : Inv B old S (e :: (T ++ live (G.set i none)))) : Inv B old S (T ++ live (G.set i (some e))) :=
  hi.perm (List.perm_middle.symm.trans (List.Perm.append_left T (live_put h).symm))
theorem Slots.kill (h : Slots env G) (x : Option D) : Slots (env.set i x) (G.set i none) := by
  refine ⟨by simpa using h.le, fun j e he => ?_⟩
  rw [List.getElem?_set] at he ⊢
  by_cases hj : i = j
  · rw [if_pos hj] at he
    split at he <;> simp at he
  · rw [if_neg hj] at he ⊢; exact h.at_ j e he
theorem Slots.kill0 (h : Slots env G) : Slots env (G.set i none) := by
  refine ⟨by simpa using h.le, fun j e he => ?_⟩
  rw [List.getElem?_set] at he
  by_cases hj : i = j
  · rw [if_pos hj] at he
    split at he <;> simp at he
  · rw [if_neg hj] at he; exact h.at_ j e he
theorem Slots.put (h : Slots env G) (ht : ∀ xs, e.d ≠ .tmp xs) : Slots (env.set i (some e.d)) (G.set i (some e)) := by
  refine ⟨by simpa using h.le, fun j x he => ?_⟩
  rw [List.getElem?_set] at he ⊢
  by_cases hj : i = j
  · rw [if_pos hj] at he ⊢
    split at he
    · rename_i hlt
      cases he
      rw [if_pos (Nat.lt_of_lt_of_le hlt h.le)]
      exact ⟨rfl, ht⟩
    · cases he
  · rw [if_neg hj] at he ⊢; exact h.at_ j x he
/-- another entry for a name that stands for the same thing -/
theorem Slots.same (h : Slots env G) (hg : G[i]? = some (some e)) (hd : e2.d = e.d) : Slots env (G.set i (some e2)) := by
  refine ⟨by simpa using h.le, fun j x he => ?_⟩
  rw [List.getElem?_set] at he
  by_cases hj : i = j
  · rw [if_pos hj] at he
    split at he
    · cases he
      subst hj
      rw [hd]
      exact h.at_ i e hg
    · cases he
  · rw [if_neg hj] at he; exact h.at_ j x he
theorem lt_of_get {α : Type} {l : List α} {i : Nat} {a : α} (h : l[i]? = some a) : i < l.length := (List.getElem?_eq_some_iff.mp h).1
theorem StG.drop (h : StG B old S env v (A ++ T) G) : StG B old S env v T G := ⟨h.eq, h.sl, h.inv.sub ((List.sublist_append_right A T).append (List.Sublist.refl _))⟩
theorem StG.subT {T' : List Ent} (h : StG B old S env v T G) (hs : T'.Sublist T) : StG B old S env v T' G := ⟨h.eq, h.sl, h.inv.sub (hs.append (List.Sublist.refl _))⟩
theorem StG.permT {T' : List Ent} (h : StG B old S env v T G) (hp : T.Perm T') : StG B old S env v T' G := ⟨h.eq, h.sl, h.inv.perm (hp.append_right _)⟩
theorem XG_sub {T' : List Ent} (hs : T'.Sublist T) : ∀ a ∈ XG T' G, a ∈ XG T G := fun a ha => (fm_sub (hs.append (List.Sublist.refl _))).subset ha
/-- (no condition) -/
def Kp (G G' : Gs) : Prop := True
theorem Kp.refl (G : Gs) : Kp G G := trivial
theorem Kp.trans {G1 G2 G3 : Gs} (h1 : Kp G1 G2) (h2 : Kp G2 G3) : Kp G1 G3 := trivial
theorem Kp.set {x : Option Ent} (h : G[i]? = some (some e)) (hk : e.k.t ≠ .lk) : Kp G (G.set i x) := trivial
/-- an operand and what it stands for -/
def Hold (env : Env) (o : Vo) (d : D) (xs : List Ent) : Prop := match o with
  | .v p k => ∃ as, xs = [⟨d, p, k, as⟩]
  | .top i => xs = [] ∧ env[i]? = some (some d) ∧ ∀ ys, d ≠ .tmp ys
theorem rd_ok {o : Vo} {xs : List Ent} {c : Bool} {v' : VEnv} (ho : Hold env o d xs) (hm : ∀ e ∈ xs, e ∈ T) (s : StG B old S env v T G) (h : o.rd v = some (p, c, v')) :
    ∃ G', StG B old S env v' T G' ∧ Kp G G' ∧ (∀ a ∈ XG T G', a ∈ XG T G) ∧ ValE (Al B old (XG T G') c) old S p d := by
  cases o with
  | v q k =>
    obtain ⟨as, rfl⟩ := ho
    have he : (⟨d, q, k, as⟩ : Ent) ∈ T := hm _ (.head _)
    have hok := s.inv.ok _ (List.mem_append.mpr (.inl he))
    have hr : k.t ≠ .tb → ValE (Al B old (XG T G) k.c) old S q d := fun hk => EntOk.read (e := ⟨d, q, k, as⟩) hok hk
    obtain ⟨t, c2⟩ := k
    cases t with
    | tb => cases h
    | sh => cases h; exact ⟨G, s, Kp.refl G, fun a ha => ha, hr (fun q => by cases q)⟩
    | ex => cases h; exact ⟨G, s, Kp.refl G, fun a ha => ha, hr (fun q => by cases q)⟩
    | lk => cases h; exact ⟨G, s, Kp.refl G, fun a ha => ha, hr (fun q => by cases q)⟩
  | top i =>
    obtain ⟨rfl, hd, _⟩ := ho
    simp only [Vo.rd, s.eq] at h
    cases he : ent (vOf G) i with
    | none => rw [he] at h; cases h
    | some q =>
      rw [he] at h
      obtain ⟨p2, k⟩ := q
      obtain ⟨e, hg, rfl, rfl⟩ := ent_vOf.mp he
      have hde : e.d = d := by
        have := (s.sl.at_ i e hg).1
        rw [hd] at this; cases this; rfl
      have hin : e ∈ T ++ live G := List.mem_append.mpr (.inr ((live_take hg).mem_iff.mpr (.head _)))
      have hok := s.inv.ok e hin
      have hlt := lt_of_get hg
      obtain ⟨ed, ep, ⟨t, c2⟩, eas⟩ := e
      subst hde
      have hr : t ≠ .tb → ValE (Al B old (XG T G) c2) old S ep ed := fun hk => EntOk.read (e := ⟨ed, ep, ⟨t, c2⟩, eas⟩) hok hk
      cases t with
      | sh => cases h; exact ⟨G, ⟨rfl, s.sl, s.inv⟩, Kp.refl G, fun a ha => ha, hr (fun q => by cases q)⟩
      | ex => cases h; exact ⟨G, ⟨rfl, s.sl, s.inv⟩, Kp.refl G, fun a ha => ha, hr (fun q => by cases q)⟩
      | lk => cases h; exact ⟨G, ⟨rfl, s.sl, s.inv⟩, Kp.refl G, fun a ha => ha, hr (fun q => by cases q)⟩
      | tb =>
        cases h
        obtain ⟨as2, h1, h2⟩ := (focus hg s.inv).tbex rfl
        have h3 := unfocus hlt h2
        refine ⟨G.set i (some ⟨ed, ep, ⟨.ex, true⟩, as2⟩), ⟨by rw [vOf_set]; rfl, s.sl.same hg rfl, h3⟩, Kp.set hg (fun q => by cases q), fun a ha => ?_, ?_⟩
        · have e1 : a ∈ ((⟨ed, ep, ⟨.ex, true⟩, as2⟩ : Ent) :: (T ++ live (G.set i none))).flatMap Ent.as := by
            refine (List.Perm.flatMap_right _ ?_).mem_iff.mp ha
            exact ((List.Perm.append_left T (live_put hlt)).trans List.perm_middle)
          rw [List.flatMap_cons] at e1
          have e2 : a ∈ ((⟨ed, ep, ⟨.tb, c2⟩, eas⟩ : Ent) :: (T ++ live (G.set i none))).flatMap Ent.as := by
            rw [List.flatMap_cons]
            rcases List.mem_append.mp e1 with q | q
            · exact List.mem_append.mpr (.inl (h1.subset q))
            · exact List.mem_append.mpr (.inr q)
          refine (List.Perm.flatMap_right _ ?_).mem_iff.mpr e2
          exact ((List.Perm.append_left T (live_take hg)).trans List.perm_middle)
        · have := h3.ok ⟨ed, ep, ⟨.ex, true⟩, as2⟩ (List.mem_append.mpr (.inr ((live_put hlt).mem_iff.mpr (.head _))))
          exact EntOk.read this (by exact fun q => by cases q)
/-- a thing just made, its list nobody's -/
theorem StG.add {c : Bool} (s : StG B old S env v T G) (hs : A.Sublist T) (hv : ValF (Al B old (XG T G) c) old S p d) (hn : nl d) : StG B old S env v (⟨d, p, ⟨.ex, c⟩, []⟩ :: A) G :=
  ⟨s.eq, s.sl, (s.inv.sub (hs.append (List.Sublist.refl _))).add rfl ((ok_ex (.inl rfl)).mpr (.inl ⟨hn, rfl, ValF.mono (Al.sub (XG_sub hs)) hv⟩))⟩
theorem StG.addS {c : Bool} (s : StG B old S env v T G) (hs : A.Sublist T) (hv : ValF (Al B old (XG T G) c) old S p d) : StG B old S env v (⟨d, p, ⟨.sh, c⟩, []⟩ :: A) G :=
  ⟨s.eq, s.sl, (s.inv.sub (hs.append (List.Sublist.refl _))).add rfl ((ok_sh rfl).mpr ⟨rfl, ValF.mono (Al.sub (XG_sub hs)) hv⟩)⟩
/-- held elsewhere from here on (the binding to follow) -/
theorem esc_ok {o : Vo} {xs : List Ent} {v' : VEnv} (ho : Hold env o d xs) (s : StG B old S env v (xs ++ T) G) (h : o.esc v = some ((p, k), v')) :
    ∃ as G', StG B old S env v' (⟨d, p, k, as⟩ :: T) G' ∧ Kp G G' := by
  cases o with
  | v q k2 =>
    obtain ⟨as, rfl⟩ := ho
    cases h
    exact ⟨as, G, s, Kp.refl G⟩
  | top i =>
    obtain ⟨rfl, hd, _⟩ := ho
    simp only [Vo.esc, s.eq] at h
    cases he : ent (vOf G) i with
    | none => rw [he] at h; cases h
    | some q =>
      rw [he] at h
      obtain ⟨p2, k2⟩ := q
      obtain ⟨e, hg, rfl, rfl⟩ := ent_vOf.mp he
      have hde : e.d = d := by
        have := (s.sl.at_ i e hg).1
        rw [hd] at this; cases this; rfl
      have hlt := lt_of_get hg
      obtain ⟨ed, ep, ⟨t, c2⟩, eas⟩ := e
      subst hde
      have fin : ∀ c3 : Bool, t ≠ .lk → (t = .tb ∨ (c3 = true → c2 = true)) → ∃ as G', StG B old S env ((vOf G).set i (some (ep, ⟨.sh, c3⟩))) (⟨ed, ep, ⟨.sh, c3⟩, as⟩ :: T) G' ∧ Kp G G' := by
        intro c3 hlk hc
        have h1 := (focus hg (T := T) s.inv).share (c2 := c3) (by exact hc)
        have hok := (ok_sh rfl).mp (h1.ok _ (.head _))
        have h2 := h1.add (e2 := ⟨ed, ep, ⟨.sh, c3⟩, []⟩) rfl ((ok_sh rfl).mpr hok)
        have h3 : Inv B old S ((⟨ed, ep, ⟨.sh, c3⟩, []⟩ :: T) ++ live (G.set i (some ⟨ed, ep, ⟨.sh, c3⟩, []⟩))) := unfocus hlt (T := ⟨ed, ep, ⟨.sh, c3⟩, []⟩ :: T) h2
        exact ⟨[], G.set i (some ⟨ed, ep, ⟨.sh, c3⟩, []⟩), ⟨by rw [vOf_set]; rfl, s.sl.same hg rfl, h3⟩, Kp.set hg hlk⟩
      cases t with
      | sh => cases h; exact fin c2 (fun q => by cases q) (.inr id)
      | ex => cases h; exact fin c2 (fun q => by cases q) (.inr id)
      | tb => cases h; exact fin c2 (fun q => by cases q) (.inl rfl)
      | lk => cases h
/-! results -/
def ROk {α β : Type} (rel : α → β → List Ent → VEnv → Prop) (B : Nat → Prop) (old : Sto) (env : Env) (T : List Ent) (G0 : Gs) (r : R α) (w : VR β) : Prop := match w with
  | .ok b v => ∃ a S xs G, r = .ok a S ∧ rel a b xs v ∧ StG B old S env v (xs ++ T) G ∧ Kp G0 G
  | .exc c v => ∃ S G, r = .exc c S ∧ StG B old S env v T G
  | .bad => True
variable {G0 : Gs}
theorem ROk.from {α β : Type} {rel : α → β → List Ent → VEnv → Prop} {r : R α} {w : VR β} (hk : Kp G0 G) (h : ROk rel B old env T G r w) : ROk rel B old env T G0 r w := by
  cases w with
  | ok b v => obtain ⟨a, S, xs, G1, h1, h2, h3, h4⟩ := h; exact ⟨a, S, xs, G1, h1, h2, h3, hk.trans h4⟩
  | exc c v => exact h
  | bad => trivial
theorem ROk.bind {α β γ δ : Type} {rel : α → β → List Ent → VEnv → Prop} {rel2 : γ → δ → List Ent → VEnv → Prop} {r : R α} {w : VR β} {f : α → Sto → R γ} {g : β → VEnv → VR δ} (h : ROk rel B old env T G0 r w)
    (hf : ∀ a b xs v S G, rel a b xs v → StG B old S env v (xs ++ T) G → ROk rel2 B old env T G (f a S) (g b v)) : ROk rel2 B old env T G0 (bnd r f) (vb w g) := by
  cases w with
  | ok b v =>
    obtain ⟨a, S, xs, G, rfl, h1, h2, h3⟩ := h
    exact (hf a b xs v S G h1 h2).from h3
  | exc c v =>
    obtain ⟨S, G, rfl, h2⟩ := h
    exact ⟨S, G, rfl, h2⟩
  | bad => trivial
theorem ROk.rdv {α β : Type} {rel : α → β → List Ent → VEnv → Prop} {o : Vo} {xs : List Ent} {r : R α} {f : PyData → Bool → VEnv → VR β} {A : List Ent} (ho : Hold env o d xs) (hm : ∀ e ∈ xs, e ∈ A) (s : StG B old S env v A G)
    (hf : ∀ p c v' G', o.rd v = some (p, c, v') → StG B old S env v' A G' → (∀ a ∈ XG A G', a ∈ XG A G) → ValE (Al B old (XG A G') c) old S p d → ROk rel B old env T G' r (f p c v')) : ROk rel B old env T G r (rdv o v f) := by
  unfold Z.rdv
  cases h : o.rd v with
  | none => trivial
  | some q =>
    obtain ⟨p, c, v'⟩ := q
    obtain ⟨G', h1, h2, h3, h4⟩ := rd_ok ho hm s h
    exact (hf p c v' G' h h1 h3 h4).from h2
theorem ROk.escv {α β : Type} {rel : α → β → List Ent → VEnv → Prop} {o : Vo} {xs : List Ent} {g : D → Sto → R α} {f : PyData → K → VEnv → VR β} {A T : List Ent} (ho : Hold env o d xs) (s : StG B old S env v (xs ++ A) G)
    (hf : ∀ p k v' d' S' as G', StG B old S' env v' (⟨d', p, k, as⟩ :: A) G' → (∀ xs, d' ≠ .tmp xs) → ROk rel B old env T G' (g d' S') (f p k v')) : ROk rel B old env T G (bnd (own old d S) g) (escv o v f) := by
  unfold Z.escv
  cases h : o.esc v with
  | none => trivial
  | some q =>
    obtain ⟨⟨p, k⟩, v'⟩ := q
    obtain ⟨as, G', h1, hk⟩ := esc_ok ho s h
    obtain ⟨d', S', as', e1, h2, h3, _⟩ := h1.inv.own
    rw [e1]
    exact (hf p k v' d' S' as' G' ⟨h1.eq, h1.sl, h2⟩ h3).from hk
theorem ROk.optR {α β γ : Type} {rel : α → β → List Ent → VEnv → Prop} {r : R α} {x : Option γ} {f : γ → VR β} (hf : ∀ z, x = some z → ROk rel B old env T G r (f z)) : ROk rel B old env T G r (optR x f) := by
  unfold Z.optR
  cases h : x with
  | none => trivial
  | some z => exact hf z h
abbrev y_relE (env : Env) : D → Vo → List Ent → VEnv → Prop := fun d o xs _ => Hold env o d xs
theorem ROk.ret {c : Bool} {A : List Ent} (s : StG B old S env v A G) (hs : T.Sublist A) (hv : ValF (Al B old (XG A G) c) old S p d) (hn : nl d) : ROk (y_relE env) B old env T G (.ok d S) (.ok (.v p ⟨.ex, c⟩) v) :=
  ⟨d, S, [⟨d, p, ⟨.ex, c⟩, []⟩], G, rfl, ⟨[], rfl⟩, s.add hs hv hn, Kp.refl G⟩
theorem ROk.retS {c : Bool} {A : List Ent} (s : StG B old S env v A G) (hs : T.Sublist A) (hv : ValF (Al B old (XG A G) c) old S p d) : ROk (y_relE env) B old env T G (.ok d S) (.ok (.v p ⟨.sh, c⟩) v) :=
  ⟨d, S, [⟨d, p, ⟨.sh, c⟩, []⟩], G, rfl, ⟨[], rfl⟩, s.addS hs hv, Kp.refl G⟩
theorem ValE.mono {P Q : Nat → Prop} (hPQ : ∀ a, P a → Q a) (h : ValE P old S p d) : ValE Q old S p d := by
  cases p <;> try exact Val.mono hPQ _ _ h
  obtain ⟨xs, h1, h2⟩ := h
  exact ⟨xs, Vals.mono hPQ _ _ h1, h2⟩
theorem Al.and1 {X : List Nat} {c e : Bool} : ∀ a, Al B old X c a → Al B old X (c && e) a := fun a ⟨h1, h2, h3⟩ => ⟨h1, fun q => h2 (by rw [Bool.and_eq_true] at q; exact q.1), h3⟩
theorem Al.and2 {X : List Nat} {c e : Bool} : ∀ a, Al B old X e a → Al B old X (c && e) a := fun a ⟨h1, h2, h3⟩ => ⟨h1, fun q => h2 (by rw [Bool.and_eq_true] at q; exact q.2), h3⟩
end
end Z
/-! Y5: calls; what is walked. -/
namespace Z
open PySem
section
variable {B : Nat → Prop} {old S : Sto} {env : Env} {v : VEnv} {T A : List Ent} {G G0 : Gs} {e e2 : Ent} {p : PyData} {k : K} {i : Nat} {d : D}
/-- operands; held ones are no temporaries -/
def HoldR (env : Env) : List Vo → List D → List Ent → Prop
  | [], ds, xs => ds = [] ∧ xs = []
  | o :: os, ds, xs => ∃ d ds' x1 x2, ds = d :: ds' ∧ xs = x1 ++ x2 ∧ Hold env o d x1 ∧ HoldR env os ds' x2
theorem rdL_ok : ∀ {os : List Vo} {ds : List D} {xs : List Ent} {v v' : VEnv} {G : Gs} {ps : List (PyData × Bool)}, HoldR env os ds xs → (∀ e ∈ xs, e ∈ T) → StG B old S env v T G → rdL os v = some (ps, v') →
    ∃ G', StG B old S env v' T G' ∧ Kp G G' ∧ (∀ a ∈ XG T G', a ∈ XG T G) ∧ ValsE (Al B old (XG T G') (ps.all (·.2))) old S (ps.map (·.1)) ds
  | [], ds, xs, v, v', G, ps, hh, hm, s, h => by
    cases h
    exact ⟨G, s, Kp.refl G, fun a ha => ha, hh.1⟩
  | o :: os, ds, xs, v, v', G, ps, hh, hm, s, h => by
    obtain ⟨d, ds', x1, x2, rfl, rfl, h1, h2⟩ := hh
    simp only [rdL] at h
    cases e1 : o.rd v with
    | none => rw [e1] at h; cases h
    | some q =>
      obtain ⟨p, c, v1⟩ := q
      rw [e1] at h
      simp only at h
      cases e2 : rdL os v1 with
      | none => rw [e2] at h; cases h
      | some q =>
        obtain ⟨ps2, v2⟩ := q
        rw [e2] at h
        cases h
        obtain ⟨G1, s1, k1, x1, y1⟩ := rd_ok h1 (fun e he => hm e (List.mem_append.mpr (.inl he))) s e1
        obtain ⟨G2, s2, k2, x2, y2⟩ := rdL_ok h2 (fun e he => hm e (List.mem_append.mpr (.inr he))) s1 e2
        refine ⟨G2, s2, k1.trans k2, fun a ha => x1 a (x2 a ha), d, ds', rfl, ?_, ?_⟩
        · exact y1.mono fun a h => Al.and1 a (Al.sub x2 a h)
        · have key : ∀ {ps : List PyData} {ds : List D}, ValsE (Al B old (XG T G2) (ps2.all (·.2))) old S ps ds → ValsE (Al B old (XG T G2) (c && ps2.all (·.2))) old S ps ds := by
            intro ps
            induction ps with
            | nil => exact fun h => h
            | cons p ps ih => exact fun ⟨x, xs, e, q1, q2⟩ => ⟨x, xs, e, q1.mono Al.and2, ih q2⟩
          exact key y2
/-! calls that change nothing -/
structure CpOk (cp : Nat → List D → Sto → R D) (cpV : Nat → List PyData → RC) : Prop where
  ok : ∀ (f : Nat) (ps : List PyData) (ds : List D) (B : Nat → Prop) (o : Sto), (∀ a, o.length ≤ a → B a) → (∀ a, B a → a < o.length → ∃ q, Val (fun _ => True) o [] q (.lst a)) → Vals B o [] ps ds → match cpV f ps with
    | .ok p k => ∃ d more as, cp f ds o = .ok d more ∧ Inv B o more [⟨d, p, k, as⟩]
    | .exc c => ∃ more, cp f ds o = .exc c more
    | .bad => True
theorem ValE.any {P : Nat → Prop} (h : ValE P old S p d) (hn : ∀ xs, d ≠ .tmp xs) : Val (fun _ => True) old S p d := by
  cases p with
  | list ps =>
    obtain ⟨xs, h1, h2 | ⟨a, h2, h3⟩⟩ := h
    · exact absurd h2 (hn xs)
    · exact ⟨xs, Vals.mono (fun _ _ => trivial) _ _ h1, a, h2, trivial, h3⟩
  | _ => exact Val.mono (P := P) (fun _ _ => trivial) _ _ h
/-- arguments: none is a temporary -/
def HoldA (env : Env) : List Vo → List D → List Ent → Prop
  | [], ds, xs => ds = [] ∧ xs = []
  | o :: os, ds, xs => ∃ d ds' x1 x2, ds = d :: ds' ∧ xs = x1 ++ x2 ∧ Hold env o d x1 ∧ (∀ xs, d ≠ .tmp xs) ∧ HoldA env os ds' x2
/-- an entry's value, its own list too -/
theorem EntOk.any {X : List Nat} (h : EntOk B old S X e) (ht : ∀ xs, e.d ≠ .tmp xs) : Val (fun _ => True) old S e.p e.d := by
  by_cases hk : e.k.t = .tb
  · rw [ok_tb hk] at h
    obtain ⟨ps, xs, bs, h1, h2, h3 | ⟨a, h3, h4, _⟩⟩ := h
    · exact absurd h3.1 (ht xs)
    · rw [h1, h3]
      exact ⟨xs, h2.vals fun _ _ => trivial, a, rfl, trivial, h4.at_⟩
  · exact (h.read hk).any ht
theorem hold_any {o : Vo} {xs : List Ent} (ho : Hold env o d xs) (ht : ∀ xs, d ≠ .tmp xs) (hm : ∀ e ∈ xs, e ∈ T) (s : StG B old S env v T G) {c : Bool} (h : argV v o = some (p, c)) : Val (fun _ => True) old S p d := by
  cases o with
  | v q k =>
    obtain ⟨as, rfl⟩ := ho
    cases h
    exact EntOk.any (s.inv.ok _ (List.mem_append.mpr (.inl (hm _ (.head _))))) ht
  | top i =>
    obtain ⟨rfl, hd, _⟩ := ho
    simp only [argV, s.eq] at h
    cases he : ent (vOf G) i with
    | none => rw [he] at h; cases h
    | some q =>
      rw [he] at h
      cases h
      obtain ⟨q, k⟩ := q
      obtain ⟨e, hg, rfl, rfl⟩ := ent_vOf.mp he
      have hde : e.d = d := by
        have := (s.sl.at_ i e hg).1
        rw [hd] at this; cases this; rfl
      have := EntOk.any (s.inv.ok e (List.mem_append.mpr (.inr ((live_take hg).mem_iff.mpr (.head _))))) (by rw [hde]; exact ht)
      rwa [hde] at this
theorem rsv_any : ∀ {os : List Vo} {ds : List D} {xs : List Ent} {ps : List PyData} {cs : Bool}, HoldA env os ds xs → (∀ e ∈ xs, e ∈ T) → StG B old S env v T G → rsv v os = some (ps, cs) → Vals (fun _ => True) old S ps ds
  | [], ds, xs, ps, cs, hh, hm, s, h => by cases h; exact hh.1
  | o :: os, ds, xs, ps, cs, hh, hm, s, h => by
    obtain ⟨d, ds', x1, x2, rfl, rfl, h1, ht, h2⟩ := hh
    simp only [rsv] at h
    split at h
    · cases h
    · rename_i p c e1
      split at h
      · cases h
      · rename_i ps2 cs2 e2
        cases h
        refine ⟨d, ds', rfl, ?_, rsv_any h2 (fun e he => hm e (List.mem_append.mpr (.inr he))) s e2⟩
        exact hold_any h1 ht (fun e he => hm e (List.mem_append.mpr (.inl he))) s e1
/-- the same values, the lists held otherwise -/
def SameV (v v' : VEnv) : Prop := ∀ i p k, ent v i = some (p, k) → ∃ t, ent v' i = some (p, ⟨t, k.c⟩)
theorem ent_set {v : VEnv} {i j : Nat} {x : Option (PyData × K)} : ent (v.set i x) j = if i = j then (if i < v.length then x else none) else ent v j := by
  unfold ent
  rw [List.getElem?_set]
  by_cases h : i = j
  · rw [if_pos h, if_pos h]
    by_cases h2 : i < v.length
    · rw [if_pos h2, if_pos h2]
    · rw [if_neg h2, if_neg h2]
  · rw [if_neg h, if_neg h]
theorem ent_lt {v : VEnv} {i : Nat} {x : PyData × K} (h : ent v i = some x) : i < v.length := by
  unfold ent at h
  split at h
  · rename_i o e; exact lt_of_get e
  · cases h
theorem rsv_same : ∀ {os : List Vo} {v v' : VEnv} {r : List PyData × Bool}, SameV v v' → rsv v os = some r → rsv v' os = some r
  | [], v, v', r, hs, h => h
  | o :: os, v, v', r, hs, h => by
    simp only [rsv] at h ⊢
    split at h
    · cases h
    · rename_i p c e1
      split at h
      · cases h
      · rename_i ps2 cs2 e2
        have e3 : argV v' o = some (p, c) := by
          cases o with
          | v q k => exact e1
          | top i =>
            simp only [argV, Option.map_eq_some_iff] at e1 ⊢
            obtain ⟨a, h3, h4⟩ := e1
            obtain ⟨t, ht⟩ := hs i a.1 a.2 h3
            exact ⟨_, ht, h4⟩
        rw [e3]
        simp only
        rw [rsv_same hs e2]
        exact h
theorem dgr_ok : ∀ {os : List Vo} {ds : List D} {xs : List Ent} {v v1 : VEnv} {G : Gs} {ps : List PyData} {cs : Bool}, HoldA env os ds xs → StG B old S env v (xs ++ T) G → rsv v os = some (ps, cs) → dgr os v = some v1 →
    ∃ G1, StG B old S env v1 T G1 ∧ Kp G G1 ∧ Vals (Al B old (XG T G1) cs) old S ps ds ∧ (∀ a ∈ XG T G1, a ∈ XG (xs ++ T) G)
  | [], ds, xs, v, v1, G, ps, cs, hh, s, h, hd => by
    cases h
    cases hd
    obtain ⟨rfl, rfl⟩ := hh
    exact ⟨G, s, Kp.refl G, rfl, fun a ha => ha⟩
  | o :: os, ds, xs, v, v1, G, ps, cs, hh, s, h, hd => by
    obtain ⟨d, ds', x1, x2, rfl, rfl, h1, ht, h2⟩ := hh
    rw [List.append_assoc] at s
    simp only [rsv] at h
    split at h
    · cases h
    · rename_i p c e1
      split at h
      · cases h
      · rename_i ps2 cs2 e2
        cases h
        -- this argument is shared
        have step : ∃ v2 G2, StG B old S env v2 (x2 ++ T) G2 ∧ Kp G G2 ∧ SameV v v2 ∧ dgr os v2 = some v1 ∧ Val (Al B old (XG (x2 ++ T) G2) c) old S p d ∧ (∀ a ∈ XG (x2 ++ T) G2, a ∈ XG (x1 ++ (x2 ++ T)) G) := by
          cases o with
          | v q k =>
            obtain ⟨as, rfl⟩ := h1
            cases e1
            refine ⟨v, G, s.drop, Kp.refl G, fun i p k h => ⟨k.t, h⟩, hd, ?_, XG_sub (List.sublist_append_right _ _)⟩
            have hi : Inv B old S ((⟨d, p, k, as⟩ : Ent) :: ((x2 ++ T) ++ live G)) := s.inv
            have h3 := (hi.share (c2 := k.c) (.inr id)).ok _ (.head _)
            rw [ok_sh rfl] at h3
            have h4 : Val (Al B old (XG (x2 ++ T) G) k.c) old S p d := by
              have := h3.2.toV ht
              rw [List.flatMap_cons] at this
              exact this
            cases hp : pur p with
            | true => rw [Bool.or_true]; exact Val.up hp h4
            | false => rw [Bool.or_false]; exact h4
          | top i =>
            obtain ⟨rfl, hdi, _⟩ := h1
            simp only [argV, Option.map_eq_some_iff] at e1
            obtain ⟨⟨p', k'⟩, h3, h4⟩ := e1
            cases h4
            simp only [dgr, h3] at hd
            rw [s.eq] at h3 hd
            obtain ⟨e, hg, rfl, rfl⟩ := ent_vOf.mp h3
            have hde : e.d = d := by
              have := (s.sl.at_ i e hg).1
              rw [hdi] at this; cases this; rfl
            have hlt := lt_of_get hg
            obtain ⟨ed, ep, ⟨t, c2⟩, eas⟩ := e
            subst hde
            have fin : t ≠ .lk → (t = .tb ∨ (c2 = true → c2 = true)) → dgr os ((vOf G).set i (some (ep, ⟨.sh, c2⟩))) = some v1 → ∃ v2 G2, StG B old S env v2 (x2 ++ T) G2 ∧ Kp G G2 ∧ SameV v v2 ∧ dgr os v2 = some v1 ∧ Val (Al B old (XG (x2 ++ T) G2) c2) old S ep ed ∧ (∀ a ∈ XG (x2 ++ T) G2, a ∈ XG ([] ++ (x2 ++ T)) G) := by
              intro hlk hc hd
              have hf := focus hg (T := x2 ++ T) s.inv
              have h5 := hf.share (c2 := c2) hc
              have h6 := unfocus hlt h5
              refine ⟨_, G.set i (some ⟨ed, ep, ⟨.sh, c2⟩, []⟩), ⟨by rw [vOf_set]; rfl, s.sl.same hg rfl, h6⟩, Kp.set hg hlk, ?_, hd, ?_, fun a ha => ?_⟩
              · intro j p k hj
                rw [s.eq] at hj
                rw [ent_set]
                by_cases hij : i = j
                · subst hij
                  rw [h3] at hj
                  cases hj
                  rw [if_pos rfl, if_pos (ent_lt h3)]
                  exact ⟨_, rfl⟩
                · rw [if_neg hij]
                  exact ⟨k.t, hj⟩
              · have := h6.ok ⟨ed, ep, ⟨.sh, c2⟩, []⟩ (List.mem_append.mpr (.inr ((live_put hlt).mem_iff.mpr (.head _))))
                exact ((ok_sh rfl).mp this).2.toV ht
              · have e1 : a ∈ ((⟨ed, ep, ⟨.sh, c2⟩, []⟩ : Ent) :: ((x2 ++ T) ++ live (G.set i none))).flatMap Ent.as := by
                  refine (List.Perm.flatMap_right _ ?_).mem_iff.mp ha
                  exact ((List.Perm.append_left _ (live_put hlt)).trans List.perm_middle)
                refine (List.Perm.flatMap_right _ ?_).mem_iff.mpr (show a ∈ ((⟨ed, ep, ⟨t, c2⟩, eas⟩ : Ent) :: ((x2 ++ T) ++ live (G.set i none))).flatMap Ent.as from ?_)
                · exact ((List.Perm.append_left _ (live_take hg)).trans List.perm_middle)
                · rw [List.flatMap_cons] at e1 ⊢
                  exact List.mem_append.mpr (.inr (by simpa using e1))
            cases t with
            | sh => exact fin (fun q => by cases q) (.inr id) hd
            | ex => exact fin (fun q => by cases q) (.inr id) hd
            | tb => exact fin (fun q => by cases q) (.inl rfl) hd
            | lk => cases hd
        obtain ⟨v2, G2, s2, k2, sm2, hd2, hv2, hx2⟩ := step
        obtain ⟨G1, s1, k1, hv1, hx1⟩ := dgr_ok h2 s2 (rsv_same sm2 e2) hd2
        refine ⟨G1, s1, k2.trans k1, ⟨d, ds', rfl, ?_, ?_⟩, fun a ha => by rw [List.append_assoc]; exact hx2 a (hx1 a ha)⟩
        · exact Val.mono (fun a h => Al.and1 a (Al.sub hx1 a h)) _ _ hv2
        · exact Vals.mono Al.and2 _ _ hv1
/-- a callee's told thing in the caller's store -/
theorem told_in {more : Sto} {B' : Nat → Prop} {c : Bool} {as : List Nat} (s : StG B old S env v T G) (h : Inv B' (old ++ S) more [⟨d, p, k, as⟩])
    (hA : (∀ a, Al B' (old ++ S) as k.c a → Al B old (XG T G) c a) ∨ pur p = true) :
    StG B old (S ++ more) env v (⟨d, p, ⟨k.t, c⟩, as⟩ :: T) G := by
  have hls : ∀ x ∈ more, ∃ xs, x = Cell.lst xs := h.ls
  have hok := h.ok _ (.head _)
  simp only [List.flatMap_cons, List.flatMap_nil, List.append_nil] at hok
  have hnd := h.nd
  simp only [List.flatMap_cons, List.flatMap_nil, List.append_nil] at hnd
  have NL : ∀ {a : Nat} {xs : List D}, NewL (old ++ S) more a xs → NewL old (S ++ more) a xs := by
    intro a xs ⟨q1, q2⟩
    rw [List.length_append] at q1 q2
    refine ⟨by omega, ?_⟩
    rw [List.getElem?_append_right (by omega), show a - old.length - S.length = a - (old.length + S.length) by omega]
    exact q2
  have rows : ∀ {ps : List PyData} {xs : List D} {bs : List Nat}, Rows (old ++ S) more ps xs bs → Rows old (S ++ more) ps xs bs := by
    intro ps
    induction ps with
    | nil => exact fun h => h
    | cons p ps ih => exact fun ⟨qs, ys, b, xs', bs', q1, q2, q3, q4, q5, q6, q7⟩ => ⟨qs, ys, b, xs', bs', q1, q2, NL q3, q4, q5, q6, ih q7⟩
  -- its places are new
  have hge : ∀ a ∈ as, old.length + S.length ≤ a := by
    intro a ha
    rcases kt_or k.t with hs | ht | hk
    · rw [ok_sh hs] at hok
      have q : as = [] := hok.1
      rw [q] at ha; cases ha
    · rw [ok_tb ht] at hok
      obtain ⟨ps, zs, bs, q1, q2, q3⟩ := hok
      rcases q3 with ⟨_, q3⟩ | ⟨b, _, q4, q3⟩
      · have q3 : as = bs := q3
        rw [q3] at ha
        have := q2.ge a ha
        rwa [List.length_append] at this
      · have q3 : as = b :: bs := q3
        rw [q3] at ha
        rcases List.mem_cons.mp ha with q | q
        · rw [q]; have := q4.1; rwa [List.length_append] at this
        · have := q2.ge a q
          rwa [List.length_append] at this
    · rw [ok_ex hk] at hok
      rcases hok with ⟨_, q, _⟩ | ⟨b, ps, zs, _, _, q, q4, _⟩
      · have q : as = [] := q
        rw [q] at ha; cases ha
      · have q : as = [b] := q
        rw [q, List.mem_singleton] at ha
        rw [ha]; have := q4.1; rwa [List.length_append] at this
  have hfl : ((⟨d, p, ⟨k.t, c⟩, as⟩ : Ent) :: T ++ live G).flatMap Ent.as = as ++ XG T G := by
    rw [List.cons_append, List.flatMap_cons]
  refine ⟨s.eq, s.sl, ⟨?_, fun x hx => ?_, fun x hx => (List.mem_append.mp hx).elim (s.inv.ls x) (hls x), s.inv.up⟩⟩
  · rw [hfl, List.nodup_append]
    refine ⟨hnd, s.inv.nd, fun a ha b hb e => ?_⟩
    have h1 := hge a ha
    have h2 := s.inv.asLt b hb
    omega
  · rw [hfl]
    have hB : (∀ a, Al B' (old ++ S) as k.c a → Al B old (as ++ XG T G) c a) ∨ pur p = true := hA.imp (fun h a ha => ⟨(h a ha).1, (h a ha).2.1, fun q => (List.mem_append.mp q).elim ha.2.2 (h a ha).2.2⟩) id
    have hv : ValF (Al B' (old ++ S) as k.c) (old ++ S) more p d → ValF (Al B old (as ++ XG T G) c) old (S ++ more) p d := fun h =>
      ValF.froz2 (hB.elim (fun q => ValF.mono q h) fun q => ValF.pure _ _ q h)
    rcases List.mem_cons.mp hx with q | q
    · rw [q]
      rcases kt_or k.t with hs | ht | hk
      · rw [ok_sh hs] at hok
        exact (ok_sh (e := ⟨d, p, ⟨k.t, c⟩, as⟩) hs).mpr ⟨hok.1, hv hok.2⟩
      · rw [ok_tb ht] at hok
        obtain ⟨ps, zs, bs, q1, q2, q3⟩ := hok
        exact (ok_tb (e := ⟨d, p, ⟨k.t, c⟩, as⟩) ht).mpr ⟨ps, zs, bs, q1, rows q2, q3.imp id fun ⟨a, w1, w2, w3⟩ => ⟨a, w1, NL w2, w3⟩⟩
      · rw [ok_ex hk] at hok
        refine (ok_ex (e := ⟨d, p, ⟨k.t, c⟩, as⟩) hk).mpr ?_
        rcases hok with ⟨q1, q2, q3⟩ | ⟨a, ps, zs, q1, q2, q3, q4, q5⟩
        · exact .inl ⟨q1, q2, hv q3⟩
        · exact .inr ⟨a, ps, zs, q1, q2, q3, NL q4, (Vals.froz2 _ _).mp (hB.elim (fun w => Vals.mono w _ _ q5) fun w => by have q2 : p = .list ps := q2; rw [q2] at w; simp [pur] at w)⟩
    · refine EntOk.app ((s.inv.ok x q).subN fun a ha => ?_)
      rcases List.mem_append.mp ha with w | w
      · exact .inr (hge a w)
      · exact .inl w
/-- a pure call -/
theorem call_ok {cp : Nat → List D → Sto → R D} {cpV : Nat → List PyData → RC} (H : CpOk cp cpV) {os : List Vo} {ds : List D} {xs : List Ent} {f : Nat} {ps : List PyData} {cs : Bool} (hh : HoldA env os ds xs) (s : StG B old S env v (xs ++ T) G) (h : rsv v os = some (ps, cs)) :
    ROk (y_relE env) B old env T G (match cp f ds (old ++ S) with
      | .ok d more => .ok d (S ++ more)
      | .exc c _ => .exc c S
      | .bad => .bad) (callP (cpV f ps) os cs v) := by
  have hany := rsv_any hh (fun e he => List.mem_append.mpr (.inl he)) s h
  have hany2 : Vals (fun a => (old ++ S).length ≤ a ∨ ∃ q, Val (fun _ => True) (old ++ S) [] q (.lst a)) (old ++ S) [] ps ds := Vals.mono (fun a h => .inr h.2) _ _ (Vals.self _ _ ((Vals.froz _ _).mpr hany))
  have H1 : ∀ a, ((old ++ S).length ≤ a ∨ ∃ q, Val (fun _ => True) (old ++ S) [] q (.lst a)) → a < (old ++ S).length → ∃ q, Val (fun _ => True) (old ++ S) [] q (.lst a) := fun a h hl => h.elim (fun q => absurd hl (by omega)) id
  cases hc : cpV f ps with
  | bad => trivial
  | exc c =>
    have := H.ok f ps ds _ (old ++ S) (fun _ h => .inl h) H1 hany2
    rw [hc] at this
    obtain ⟨more, e⟩ := this
    rw [e]
    exact ⟨S, G, rfl, s.drop⟩
  | ok p k =>
    unfold callP
    simp only
    by_cases hk : (k.c || pur p) = true
    · rw [if_pos hk]
      have := H.ok f ps ds _ (old ++ S) (fun _ h => .inl h) H1 hany2
      rw [hc] at this
      obtain ⟨d, more, as, e, hi⟩ := this
      rw [e]
      have s' := s.drop
      refine ⟨d, S ++ more, [⟨d, p, ⟨k.t, true⟩, as⟩], G, rfl, ⟨as, rfl⟩, ?_, Kp.refl G⟩
      refine told_in s' hi ?_
      rw [Bool.or_eq_true] at hk
      refine hk.imp (fun hkc a ⟨_, h2, h3⟩ => ?_) id
      have h2 := h2 hkc
      rw [List.length_append] at h2
      exact ⟨s'.inv.up a (by omega), fun _ => by omega, fun q => by have := s'.inv.asLt a q; omega⟩
    · rw [if_neg hk]
      cases hd : dgr os v with
      | none => trivial
      | some v1 =>
        simp only
        obtain ⟨G1, s1, k1, hv, _⟩ := dgr_ok hh s h hd
        have := H.ok f ps ds (fun a => (old ++ S).length ≤ a ∨ (Al B old (XG T G1) cs a ∧ ∃ q, Val (Al B old (XG T G1) cs) (old ++ S) [] q (.lst a))) (old ++ S) (fun _ h => .inl h) (fun a h hl => h.elim (fun q => absurd hl (by omega)) fun ⟨_, q, hq⟩ => ⟨q, Val.mono (fun _ _ => trivial) _ _ hq⟩) (Vals.mono (fun _ h => .inr h) _ _ (Vals.self _ _ ((Vals.froz _ _).mpr hv)))
        rw [hc] at this
        obtain ⟨d, more, as, e, hi⟩ := this
        rw [e]
        refine ⟨d, S ++ more, [⟨d, p, ⟨k.t, cs⟩, as⟩], G1, rfl, ⟨as, rfl⟩, ?_, k1⟩
        refine told_in s1 hi (.inl fun a ⟨h1, h2, h3⟩ => ?_)
        rcases h1 with h1 | h1
        · rw [List.length_append] at h1
          exact ⟨s1.inv.up a (by omega), fun _ => by omega, fun q => by have := s1.inv.asLt a q; omega⟩
        · exact h1.1
/-! calls that change what is handed in -/
structure CiOk (ci : Nat → List D → Sto → Sto → R D) (ciV : Nat → List (PyData × K) → RI) (io : Nat → List Nat) : Prop where
  ok : ∀ (f : Nat) (As : List Ent) (B : Nat → Prop) (old S : Sto) (T : List Ent), Inv B old S (As ++ T) → (∀ e ∈ As, ∀ xs, e.d ≠ .tmp xs) → match ciV f (As.map fun e => (e.p, e.k)) with
    | .ok p k outs => ∃ d S' as Go, ci f (As.map Ent.d) old S = .ok d S' ∧ Inv B old S' (⟨d, p, k, as⟩ :: (T ++ live Go)) ∧ outs = vOf Go ∧ ∀ (i : Nat) (e : Ent), Go[i]? = some (some e) → (io f).contains i = true → (As.map Ent.d)[i]? = some e.d
    | .exc c outs => ∃ S' Go, ci f (As.map Ent.d) old S = .exc c S' ∧ Inv B old S' (T ++ live Go) ∧ outs = vOf Go ∧ ∀ (i : Nat) (e : Ent), Go[i]? = some (some e) → (io f).contains i = true → (As.map Ent.d)[i]? = some e.d
    | .bad => True
/-- what is handed in to a call that changes it -/
def HoldI (env : Env) (io : List Nat) : Nat → List Va → List D → List Ent → Prop
  | _, [], ds, xs => ds = [] ∧ xs = []
  | n, .v p k :: os, ds, xs => ∃ d ds' as x2, ds = d :: ds' ∧ xs = ⟨d, p, k, as⟩ :: x2 ∧ (∀ xs, d ≠ .tmp xs) ∧ HoldI env io (n + 1) os ds' x2
  | n, .io i :: os, ds, xs => ∃ d ds', ds = d :: ds' ∧ env[i]? = some (some d) ∧ io.contains n = true ∧ HoldI env io (n + 1) os ds' xs
theorem mvIn_ok {io : List Nat} : ∀ {as : List Va} {n : Nat} {ds : List D} {xs : List Ent} {v v1 : VEnv} {G : Gs} {es : List (PyData × K)} {T : List Ent}, HoldI env io n as ds xs → StG B old S env v (xs ++ T) G → mvIn as v = some (es, v1) →
    ∃ G1 As, v1 = vOf G1 ∧ Slots env G1 ∧ Inv B old S (As ++ (T ++ live G1)) ∧ es = As.map (fun e => (e.p, e.k)) ∧ ds = As.map Ent.d ∧ (∀ e ∈ As, ∀ xs, e.d ≠ .tmp xs) ∧ Kp G G1
  | [], n, ds, xs, v, v1, G, es, T, hh, s, h => by
    cases h
    obtain ⟨rfl, rfl⟩ := hh
    exact ⟨G, [], s.eq, s.sl, s.inv, rfl, rfl, fun e he => (by cases he), Kp.refl G⟩
  | .v p k :: as, n, ds, xs, v, v1, G, es, T, hh, s, h => by
    obtain ⟨d, ds', as', x2, rfl, rfl, ht, h2⟩ := hh
    simp only [mvIn] at h
    cases e1 : mvIn as v with
    | none => rw [e1] at h; cases h
    | some q =>
      obtain ⟨es2, v2⟩ := q
      rw [e1] at h
      cases h
      have s2 : StG B old S env v (x2 ++ (⟨d, p, k, as'⟩ :: T)) G := s.permT (by simpa using List.perm_middle.symm)
      obtain ⟨G1, As, a1, a2, a3, a4, a5, a6, a7⟩ := mvIn_ok h2 s2 e1
      refine ⟨G1, ⟨d, p, k, as'⟩ :: As, a1, a2, a3.perm ?_, by rw [List.map_cons, a4], by rw [List.map_cons, a5], fun e he => ?_, a7⟩
      · simp
      · rcases List.mem_cons.mp he with q | q
        · rw [q]; exact ht
        · exact a6 e q
  | .io i :: as, n, ds, xs, v, v1, G, es, T, hh, s, h => by
    obtain ⟨d, ds', rfl, hd, hn, h2⟩ := hh
    simp only [mvIn] at h
    split at h
    · rename_i p c he
      split at h
      · rename_i es2 v2 e1
        cases h
        rw [s.eq] at he e1
        obtain ⟨e, hg, rfl, hk⟩ := ent_vOf.mp he
        have hde : e.d = d := by
          have := (s.sl.at_ i e hg).1
          rw [hd] at this; cases this; rfl
        have hnt := (s.sl.at_ i e hg).2
        have hf := focus hg s.inv
        have s2 : StG B old S env ((vOf G).set i none) (xs ++ (e :: T)) (G.set i none) := ⟨by rw [vOf_set]; rfl, s.sl.kill0, hf.perm (by
          rw [List.append_assoc, List.append_assoc, List.cons_append]; exact List.perm_middle.symm)⟩
        obtain ⟨G1, As, a1, a2, a3, a4, a5, a6, a7⟩ := mvIn_ok h2 s2 e1
        refine ⟨G1, e :: As, a1, a2, a3.perm ?_, by rw [List.map_cons, a4, ← hk], by rw [List.map_cons, a5, hde], fun x hx => ?_, ?_⟩
        · simp
        · rcases List.mem_cons.mp hx with q | q
          · rw [q]; exact hnt
          · exact a6 x q
        · refine (Kp.set hg (fun q => ?_)).trans a7
          rw [hk] at q; cases q
      · cases h
    · cases h
theorem mvOut_ok {io : List Nat} : ∀ {as : List Va} {n : Nat} {ds : List D} {xs : List Ent} {v : VEnv} {G : Gs} {Go : Gs} {T : List Ent}, HoldI env io n as ds xs → v = vOf G → Slots env G → Inv B old S (T ++ (live G ++ live Go)) →
    (∀ (i : Nat) (e : Ent), Go[i]? = some (some e) → io.contains (n + i) = true → ds[i]? = some e.d ∧ ∀ xs, e.d ≠ .tmp xs) →
    ∃ G2, mvOut as (vOf Go) v = vOf G2 ∧ Slots env G2 ∧ Inv B old S (T ++ live G2) ∧ Kp G G2
  | [], n, ds, xs, v, G, Go, T, hh, he, hs, hi, ho => by
    refine ⟨G, he, hs, hi.sub ((List.Sublist.refl _).append (List.sublist_append_left _ _)), Kp.refl G⟩
  | a :: as, n, ds, xs, v, G, [], T, hh, he, hs, hi, ho => by
    refine ⟨G, by cases a <;> exact he, hs, hi.sub ((List.Sublist.refl _).append (List.sublist_append_left _ _)), Kp.refl G⟩
  | .v p k :: as, n, ds, xs, v, G, o :: Go, T, hh, he, hs, hi, ho => by
    obtain ⟨d, ds', as', x2, rfl, rfl, ht, h2⟩ := hh
    refine mvOut_ok (Go := Go) h2 he hs (hi.sub ?_) (fun i e h1 h3 => ?_)
    · refine (List.Sublist.refl _).append ((List.Sublist.refl _).append ?_)
      cases o with
      | none => exact List.Sublist.refl _
      | some x => exact List.sublist_cons_self _ _
    · have := ho (i + 1) e (by simpa using h1) (by rw [show n + (i + 1) = n + 1 + i by omega]; exact h3)
      simpa using this
  | .io i :: as, n, ds, xs, v, G, o :: Go, T, hh, he, hs, hi, ho => by
    obtain ⟨d, ds', rfl, hd, hn, h2⟩ := hh
    have hgo : ∀ (i : Nat) (e : Ent), Go[i]? = some (some e) → io.contains (n + 1 + i) = true → ds'[i]? = some e.d ∧ ∀ xs, e.d ≠ .tmp xs := fun j e h1 h3 => by
      have := ho (j + 1) e (by simpa using h1) (by rw [show n + (j + 1) = n + 1 + j by omega]; exact h3)
      simpa using this
    have hk0 : ∀ x, Kp G (G.set i x) := fun x => trivial
    have none_ : ∃ G2, mvOut as (vOf Go) (v.set i none) = vOf G2 ∧ Slots env G2 ∧ Inv B old S (T ++ live G2) ∧ Kp G G2 := by
      have hsub : (T ++ (live (G.set i none) ++ live Go)).Sublist (T ++ (live G ++ live (o :: Go))) := by
        refine (List.Sublist.refl _).append (live_kill.append ?_)
        cases o with
        | none => exact List.Sublist.refl _
        | some x => exact List.sublist_cons_self _ _
      obtain ⟨G2, b1, b2, b3, b4⟩ := mvOut_ok (Go := Go) (v := v.set i none) (G := G.set i none) (T := T) h2 (by rw [he, vOf_set]; rfl) hs.kill0 (hi.sub hsub) hgo
      exact ⟨G2, b1, b2, b3, (hk0 none).trans b4⟩
    cases o with
    | none => exact none_
    | some x =>
      have hx := ho 0 x rfl (by simpa using hn)
      simp only [List.getElem?_cons_zero, Option.some.injEq] at hx
      have hsl : Slots env (G.set i (some x)) := by
        have := hs.put (i := i) (e := x) hx.2
        rw [← hx.1] at this
        have e2 : env.set i (some d) = env := by
          apply List.ext_getElem?
          intro j
          rw [List.getElem?_set]
          by_cases hij : i = j
          · subst hij
            rw [if_pos rfl, if_pos (lt_of_get hd), hd]
          · rw [if_neg hij]
        rwa [e2] at this
      have some_ : x.k.t ≠ .lk → ∃ G2, mvOut as (vOf Go) (v.set i (some (x.p, x.k))) = vOf G2 ∧ Slots env G2 ∧ Inv B old S (T ++ live G2) ∧ Kp G G2 := by
        intro hlk
        by_cases hlt : i < G.length
        · have hsub : (T ++ (live (G.set i none) ++ (x :: live Go))).Sublist (T ++ (live G ++ live (some x :: Go))) := (List.Sublist.refl _).append (live_kill.append (List.Sublist.refl _))
          have hp : (T ++ (live (G.set i none) ++ (x :: live Go))).Perm (T ++ (live (G.set i (some x)) ++ live Go)) :=
              List.Perm.append_left T (List.perm_middle.trans ((live_put hlt).symm.append_right _))
          obtain ⟨G2, b1, b2, b3, b4⟩ := mvOut_ok (Go := Go) (v := v.set i (some (x.p, x.k))) (G := G.set i (some x)) (T := T) h2 (by rw [he, vOf_set]; rfl) hsl ((hi.sub hsub).perm hp) hgo
          exact ⟨G2, b1, b2, b3, (hk0 _).trans b4⟩
        · have e1 : ∀ y, G.set i y = G := fun y => List.set_eq_of_length_le (by omega)
          have e3 : ∀ y, v.set i y = v := fun y => by rw [he]; exact List.set_eq_of_length_le (by simp [vOf]; omega)
          have hsub : (T ++ (live G ++ live Go)).Sublist (T ++ (live G ++ live (some x :: Go))) := (List.Sublist.refl _).append ((List.Sublist.refl _).append (List.sublist_cons_self _ _))
          obtain ⟨G2, b1, b2, b3, b4⟩ := mvOut_ok (Go := Go) (v := v) (G := G) (T := T) h2 he hs (hi.sub hsub) hgo
          exact ⟨G2, by rw [e3]; exact b1, b2, b3, b4⟩
      show ∃ G2, mvOut as (vOf Go) (v.set i (noLk (some (x.p, x.k)))) = vOf G2 ∧ _
      obtain ⟨xd, xp, ⟨t, c⟩, xa⟩ := x
      cases t with
      | lk => exact none_
      | sh => exact some_ (fun q => by cases q)
      | ex => exact some_ (fun q => by cases q)
      | tb => exact some_ (fun q => by cases q)
end
end Z
/-! Y6: what is walked; lists made. -/
namespace Z
open PySem
theorem zipg_get {xs ys : List D} (k : Nat) : (match xs[k]?, ys[k]? with
        | some a, some b => some (D.tup [a, b])
        | _, _ => none) = ((xs.zip ys).map fun p => D.tup [p.1, p.2])[k]? := by
  rw [List.getElem?_map]
  cases e1 : xs[k]? with
  | none =>
    have : (xs.zip ys)[k]? = none := by
      rw [List.getElem?_eq_none_iff] at e1 ⊢
      simp; omega
    rw [this]; rfl
  | some a =>
    cases e2 : ys[k]? with
    | none =>
      have : (xs.zip ys)[k]? = none := by
        rw [List.getElem?_eq_none_iff] at e2 ⊢
        simp; omega
      rw [this]; rfl
    | some b =>
      have : (xs.zip ys)[k]? = some (a, b) := by
        rw [List.getElem?_zip_eq_some]; exact ⟨e1, e2⟩
      rw [this]; rfl
def srcs : It → List D
  | .seq d => [d] | .rng _ _ _ => [] | .enu d => [d] | .zip x y => [x, y]
def itemsOf : It → List PyData → Option (List PyData)
  | .rng lo st n, [] => some ((List.range n).map fun k : Nat => .int (lo + (k : Int) * st))
  | .seq _, [p] => seqP p
  | .enu _, [p] => (seqP p).map fun xs => xs.zipIdx.map fun q => .tuple [.int (q.2 : Int), q.1]
  | .zip _ _, [p, q] => match seqP p with
    | some xs => match seqP q with
      | some ys => some ((xs.zip ys).map fun q => .tuple [q.1, q.2])
      | none => none
    | none => none
  | _, _ => none
section
variable {P : Nat → Prop} {B : Nat → Prop} {old S : Sto} {env : Env} {v : VEnv} {T A : List Ent} {G G0 : Gs} {e e2 : Ent} {p : PyData} {k : K} {i : Nat} {d : D} {ps : List PyData}
theorem Vals.enu : ∀ {ps : List PyData} {xs : List D} {n : Nat}, Vals P old S ps xs → Vals P old S ((ps.zipIdx n).map fun q => .tuple [.int (q.2 : Int), q.1]) ((xs.zipIdx n).map fun q => D.tup [.int (q.2 : Int), q.1])
  | [], _, n, h => by rw [h]; rfl
  | p :: ps, _, n, ⟨x, xs, e, h1, h2⟩ => by
    rw [e]
    exact ⟨_, _, rfl, ⟨_, rfl, _, _, rfl, rfl, _, _, rfl, h1, rfl⟩, h2.enu⟩
theorem Vals.zips : ∀ {ps qs : List PyData} {xs ys : List D}, Vals P old S ps xs → Vals P old S qs ys → Vals P old S ((ps.zip qs).map fun q => .tuple [q.1, q.2]) ((xs.zip ys).map fun q => D.tup [q.1, q.2])
  | [], qs, _, ys, h, _ => by rw [h]; simp [Vals]
  | p :: ps, [], _, ys, ⟨x, xs, e, h1, h2⟩, h => by rw [e, show ys = [] from h]; simp [Vals]
  | p :: ps, q :: qs, _, _, ⟨x, xs, e, h1, h2⟩, ⟨y, ys, e2, h3, h4⟩ => by
    rw [e, e2]
    exact ⟨_, _, rfl, ⟨_, rfl, _, _, rfl, h1, _, _, rfl, h3, rfl⟩, h2.zips h4⟩
theorem src_ok {j : It} {xs : List PyData} (h : itemsOf j ps = some xs) (hv : ValsE P old S ps (srcs j)) : ∃ ds, (∀ k, j.get old S k = some (ds[k]?)) ∧ Vals P old S xs ds ∧ j.size old S = xs.length := by
  cases j with
  | rng lo st n =>
    cases ps with
    | cons p ps => simp [itemsOf] at h
    | nil =>
      simp only [itemsOf, Option.some.injEq] at h
      subst h
      refine ⟨(List.range n).map fun k : Nat => D.int (lo + (k : Int) * st), fun k => ?_, Vals.ints _ (fun k => lo + (k : Int) * st), by simp [It.size]⟩
      simp only [It.get, List.getElem?_map]
      by_cases hk : k < n
      · rw [if_pos hk, List.getElem?_range hk]; rfl
      · rw [if_neg hk, List.getElem?_eq_none (by simp; omega)]; rfl
  | seq d =>
    match ps, h, hv with
    | [p], h, hv =>
      obtain ⟨x, e, hx⟩ := vE1 hv
      cases e
      obtain ⟨ys, h1, h2⟩ := vSeq hx h
      exact ⟨ys, fun k => by simp only [It.get, h2, Option.map_some], h1, by simp only [It.size, h2, Option.getD_some, h1.len]⟩
  | enu d =>
    match ps, h, hv with
    | [p], h, hv =>
      obtain ⟨x, e, hx⟩ := vE1 hv
      cases e
      simp only [itemsOf, Option.map_eq_some_iff] at h
      obtain ⟨zs, h0, rfl⟩ := h
      obtain ⟨ys, h1, h2⟩ := vSeq hx h0
      refine ⟨ys.zipIdx.map fun q => D.tup [.int (q.2 : Int), q.1], fun k => ?_, h1.enu, by simp [It.size, h2, h1.len]⟩
      simp only [It.get, h2, List.getElem?_map, List.getElem?_zipIdx]
      cases ys[k]? <;> simp
  | zip x y =>
    match ps, h, hv with
    | [p, q], h, hv =>
      obtain ⟨x', y', e, hx, hy⟩ := vE2 hv
      cases e
      simp only [itemsOf] at h
      split at h
      · rename_i us hu
        split at h
        · rename_i ws hw
          cases h
          obtain ⟨xs, h1, h2⟩ := vSeq hx hu
          obtain ⟨ys, h3, h4⟩ := vSeq hy hw
          exact ⟨_, fun k => by simp only [It.get, h2, h4]; rw [← zipg_get] <;> rfl, h1.zips h3, by simp [It.size, h2, h4, h1.len, h3.len]⟩
        · cases h
      · cases h
/-! operands that are walked -/
def getV (v : VEnv) : Vo → Option (PyData × K)
  | .v p k => some (p, k)
  | .top i => ent v i
def PsOk (v : VEnv) (c : Bool) : List Vo → List PyData → Prop
  | [], ps => ps = []
  | o :: os, ps => ∃ p ps' k, ps = p :: ps' ∧ getV v o = some (p, k) ∧ k.t ≠ .tb ∧ (c = true → k.c = true) ∧ PsOk v c os ps'
def HoldF (c : Bool) : List D → List PyData → List Ent → Prop
  | [], ps, xs => ps = [] ∧ xs = []
  | d :: ds, ps, xs => ∃ p ps' k as xs', ps = p :: ps' ∧ xs = ⟨d, p, k, as⟩ :: xs' ∧ k.t ≠ .tb ∧ (c = true → k.c = true) ∧ HoldF c ds ps' xs'
theorem rd_get {o : Vo} {c : Bool} {v' : VEnv} (h : o.rd v = some (p, c, v')) : ∃ k, getV v' o = some (p, k) ∧ k.t ≠ .tb ∧ k.c = c := by
  cases o with
  | v q k =>
    obtain ⟨t, c2⟩ := k
    cases t <;> cases h <;> exact ⟨_, rfl, fun q => (by cases q), rfl⟩
  | top i =>
    simp only [Vo.rd] at h
    cases he : ent v i with
    | none => rw [he] at h; cases h
    | some q =>
      rw [he] at h
      obtain ⟨q, ⟨t, c2⟩⟩ := q
      cases t <;> cases h
      · exact ⟨_, he, fun q => (by cases q), rfl⟩
      · exact ⟨_, he, fun q => (by cases q), rfl⟩
      · refine ⟨⟨.ex, true⟩, ?_, fun q => (by cases q), rfl⟩
        show ent _ i = _
        rw [ent_set, if_pos rfl, if_pos (ent_lt he)]
      · exact ⟨_, he, fun q => (by cases q), rfl⟩
theorem rd_keep {o o2 : Vo} {c : Bool} {v' : VEnv} {q : PyData} (h : o.rd v = some (p, c, v')) (h2 : getV v o2 = some (q, k)) (hk : k.t ≠ .tb) : getV v' o2 = some (q, k) := by
  cases o2 with
  | v _ _ => exact h2
  | top j =>
    cases o with
    | v q k =>
      obtain ⟨t, c2⟩ := k
      cases t <;> cases h <;> exact h2
    | top i =>
      simp only [Vo.rd] at h
      cases he : ent v i with
      | none => rw [he] at h; cases h
      | some q =>
        rw [he] at h
        obtain ⟨q, ⟨t, c2⟩⟩ := q
        cases t <;> cases h
        · exact h2
        · exact h2
        · show ent _ j = _
          rw [ent_set]
          by_cases hij : i = j
          · subst hij
            have h2 : ent v i = some (_, k) := h2
            rw [he] at h2
            cases h2
            exact absurd rfl hk
          · rw [if_neg hij]; exact h2
        · exact h2
theorem HoldF.vals {c : Bool} : ∀ {ds : List D} {ps : List PyData} {xs : List Ent}, HoldF c ds ps xs → (∀ e ∈ xs, e ∈ T) → StG B old S env v T G → ValsE (Al B old (XG T G) c) old S ps ds
  | [], ps, xs, h, hm, s => h.1 ▸ rfl
  | d :: ds, ps, xs, h, hm, s => by
    obtain ⟨p, ps', k, as, xs', rfl, rfl, hk, hc, h2⟩ := h
    refine ⟨d, ds, rfl, ?_, h2.vals (fun e he => hm e (.tail _ he)) s⟩
    have := s.inv.ok ⟨d, p, k, as⟩ (List.mem_append.mpr (.inl (hm _ (.head _))))
    exact (EntOk.read this hk).mono fun a ⟨h1, h2, h3⟩ => ⟨h1, fun q => h2 (hc q), h3⟩
theorem wipe_ent {v : VEnv} : ∀ {is : List Nat} {i : Nat}, i ∉ is → ent (wipeV v is) i = ent v i
  | [], i, h => rfl
  | j :: is, i, h => by
    simp only [List.mem_cons, not_or] at h
    show ent ((wipeV v is).set j none) i = _
    rw [ent_set, if_neg (fun q => h.1 q.symm), wipe_ent h.2]
def wipeG (G : Gs) : List Nat → Gs
  | [] => G
  | i :: is => (wipeG G is).set i none
theorem wipeG_v : ∀ {is : List Nat}, wipeV (vOf G) is = vOf (wipeG G is)
  | [] => rfl
  | i :: is => by
    show (wipeV (vOf G) is).set i none = vOf ((wipeG G is).set i none)
    rw [wipeG_v, vOf_set]; rfl
theorem wipeG_len : ∀ {is : List Nat}, (wipeG G is).length = G.length
  | [] => rfl
  | i :: is => by show ((wipeG G is).set i none).length = _; rw [List.length_set, wipeG_len]
theorem wipeG_live : ∀ {is : List Nat}, (live (wipeG G is)).Sublist (live G)
  | [] => List.Sublist.refl _
  | i :: is => (live_kill (G := wipeG G is) (i := i)).trans wipeG_live
theorem wipeG_get : ∀ {is : List Nat} {i : Nat} {e : Ent}, (wipeG G is)[i]? = some (some e) → i ∉ is ∧ G[i]? = some (some e)
  | [], i, e, h => ⟨fun q => (by cases q), h⟩
  | j :: is, i, e, h => by
    have h : ((wipeG G is).set j none)[i]? = some (some e) := h
    rw [List.getElem?_set] at h
    by_cases hij : j = i
    · rw [if_pos hij] at h
      split at h <;> cases h
    · rw [if_neg hij] at h
      obtain ⟨h1, h2⟩ := wipeG_get h
      exact ⟨fun q => (List.mem_cons.mp q).elim (fun z => hij z.symm) h1, h2⟩
theorem wipe_none {v : VEnv} : ∀ {is : List Nat} {i : Nat}, i ∈ is → ent (wipeV v is) i = none
  | j :: is, i, h => by
    show ent ((wipeV v is).set j none) i = none
    rw [ent_set]
    by_cases hij : j = i
    · rw [if_pos hij]; split <;> rfl
    · rw [if_neg hij]
      exact wipe_none ((List.mem_cons.mp h).resolve_left (fun q => hij q.symm))
theorem wipe_envl {env : Env} : ∀ {is : List Nat}, (wipe env is).length = env.length
  | [] => rfl
  | i :: is => by show ((wipe env is).set i none).length = _; rw [List.length_set, wipe_envl]
theorem wipe_env {env : Env} : ∀ {is : List Nat} {i : Nat}, i ∉ is → (wipe env is)[i]? = env[i]?
  | [], i, h => rfl
  | j :: is, i, h => by
    simp only [List.mem_cons, not_or] at h
    show ((wipe env is).set j none)[i]? = _
    rw [List.getElem?_set_ne (fun q => h.1 q.symm), wipe_env h.2]
/-- some names wiped; another environment that is alike at the others -/
theorem StG.wipe {env2 : Env} {is : List Nat} (s : StG B old S env v T G) (hl : env2.length = env.length) (ha : ∀ i, i ∉ is → env2[i]? = env[i]?) : StG B old S env2 (wipeV v is) T (wipeG G is) :=
  ⟨by rw [s.eq, wipeG_v], ⟨by rw [wipeG_len, hl]; exact s.sl.le, fun i e h => by
    obtain ⟨h1, h2⟩ := wipeG_get h
    rw [ha i h1]; exact s.sl.at_ i e h2⟩, s.inv.sub ((List.Sublist.refl _).append wipeG_live)⟩
theorem StG.agree {env2 : Env} (s : StG B old S env v T G) (hl : env2.length = env.length) (ha : ∀ i x, ent v i = some x → env2[i]? = env[i]?) : StG B old S env2 v T G :=
  ⟨s.eq, ⟨by rw [hl]; exact s.sl.le, fun i e h => by
    rw [ha i (e.p, e.k) (by rw [s.eq]; exact ent_vOf.mpr ⟨e, h, rfl, rfl⟩)]; exact s.sl.at_ i e h⟩, s.inv⟩
theorem set_same {env : Env} {d : D} (h : env[i]? = some (some d)) : env.set i (some d) = env := by
  apply List.ext_getElem?
  intro j
  rw [List.getElem?_set]
  by_cases hij : i = j
  · subst hij
    rw [if_pos rfl, if_pos (lt_of_get h), h]
  · rw [if_neg hij]
/-- what is walked is moved into the frame -/
theorem move_ok {c : Bool} : ∀ {os : List Vo} {ds : List D} {ps : List PyData} {xs T : List Ent} {G : Gs}, HoldR env os ds xs → PsOk v c os ps → (tops os).Nodup → StG B old S env v (xs ++ T) G →
    ∃ ys G2, HoldF c ds ps ys ∧ StG B old S env (wipeV v (tops os)) (ys ++ T) G2 ∧ ∀ (S' : Sto) (v3 : VEnv) (T' : List Ent) (G3 : Gs), StG B old S' env v3 (ys ++ T') G3 → ∃ G4, StG B old S' env (backV v (tops os) v3) T' G4
  | [], ds, ps, xs, T, G, hh, hp, hn, s => by
    obtain ⟨rfl, rfl⟩ := hh
    refine ⟨[], G, ⟨hp, rfl⟩, s, fun S' v3 T' G3 h => ⟨G3, h⟩⟩
  | .v p k :: os, ds, ps, xs, T, G, hh, hp, hn, s => by
    obtain ⟨d, ds', x1, x2, rfl, rfl, ⟨as, rfl⟩, h2⟩ := hh
    obtain ⟨p', ps', k', rfl, hg, hk, hc, hp2⟩ := hp
    cases hg
    have s2 : StG B old S env v (x2 ++ (⟨d, p, k, as⟩ :: T)) G := s.permT (by simpa using List.perm_middle.symm)
    obtain ⟨ys, G2, h3, h4, h5⟩ := move_ok h2 hp2 hn s2
    refine ⟨⟨d, p, k, as⟩ :: ys, G2, ⟨p, ps', k, as, ys, rfl, rfl, hk, hc, h3⟩, h4.permT (by simpa using List.perm_middle), fun S' v3 T' G3 h => ?_⟩
    have h6 : StG B old S' env v3 (ys ++ (⟨d, p, k, as⟩ :: T')) G3 := h.permT (by simpa using List.perm_middle.symm)
    obtain ⟨G4, h7⟩ := h5 S' v3 _ G3 h6
    exact ⟨G4, h7.subT (List.sublist_cons_self _ _)⟩
  | .top i :: os, ds, ps, xs, T, G, hh, hp, hn, s => by
    obtain ⟨d, ds', x1, x2, rfl, rfl, ⟨rfl, hd, _⟩, h2⟩ := hh
    obtain ⟨p, ps', k, rfl, hg, hk, hc, hp2⟩ := hp
    have hn : (i :: tops os).Nodup := hn
    rw [List.nodup_cons] at hn
    obtain ⟨ys, G2, h3, h4, h5⟩ := move_ok h2 hp2 hn.2 s
    have hg : ent v i = some (p, k) := hg
    have he : ent (vOf G2) i = some (p, k) := by rw [← h4.eq, wipe_ent hn.1]; exact hg
    obtain ⟨e, hge, rfl, rfl⟩ := ent_vOf.mp he
    have hde := h4.sl.at_ i e hge
    have hed : e.d = d := by
      have := hde.1
      rw [hd] at this; cases this; rfl
    have hf := focus hge h4.inv
    refine ⟨e :: ys, G2.set i none, ⟨e.p, ps', e.k, e.as, ys, rfl, by rw [← hed], hk, hc, h3⟩, ⟨?_, h4.sl.kill0, hf⟩, fun S' v3 T' G3 h => ?_⟩
    · show (wipeV v (tops os)).set i none = _
      rw [h4.eq, vOf_set]; rfl
    · have h6 : StG B old S' env v3 (ys ++ (e :: T')) G3 := h.permT (by simpa using List.perm_middle.symm)
      obtain ⟨G4, h7⟩ := h5 S' v3 _ G3 h6
      by_cases hlt : i < G4.length
      case neg =>
        refine ⟨G4, ?_, h7.sl, h7.inv.sub ((List.sublist_cons_self _ _).append (List.Sublist.refl _))⟩
        show (backV v (tops os) v3).set i (ent v i) = _
        rw [h7.eq]
        exact List.set_eq_of_length_le (by simp only [vOf, List.length_map]; omega)
      have hi : Inv B old S' (e :: (T' ++ live (G4.set i none))) := h7.inv.sub ((List.Sublist.refl (e :: T')).append live_kill)
      refine ⟨G4.set i (some e), ?_, ?_, unfocus hlt hi⟩
      · show (backV v (tops os) v3).set i (ent v i) = _
        rw [h7.eq, vOf_set, hg]; rfl
      · have := h7.sl.put (i := i) (e := e) hde.2
        rwa [set_same (by rw [hed]; exact hd)] at this
/-! lists made -/
theorem nK_vals {c : Bool} : ∀ {R : List Ent} {T : List Ent}, StG B old S env v (R ++ T) G → (∀ e ∈ R, ∀ xs, e.d ≠ .tmp xs) → (c = true → (R.all fun e => (nK e.p e.k).c) = true) → StG B old S env v T G ∧ Vals (Al B old (XG T G) c) old S (R.map Ent.p) (R.map Ent.d)
  | [], T, s, ht, hc => ⟨s, rfl⟩
  | e :: R, T, s, ht, hc => by
    have hc1 : c = true → (nK e.p e.k).c = true := fun h => by have := hc h; rw [List.all_cons, Bool.and_eq_true] at this; exact this.1
    have hc2 : c = true → (R.all fun e => (nK e.p e.k).c) = true := fun h => by have := hc h; rw [List.all_cons, Bool.and_eq_true] at this; exact this.2
    have hi : Inv B old S (e :: ((R ++ T) ++ live G)) := s.inv
    have h1 := (hi.nK.share (c2 := c) (.inr hc1)).ok _ (.head _)
    rw [ok_sh rfl] at h1
    have h2 : Val (Al B old (XG (R ++ T) G) c) old S e.p e.d := by
      have := h1.2.toV (ht e (.head _))
      rw [List.flatMap_cons] at this
      exact this
    have s' : StG B old S env v (R ++ T) G := s.subT (List.sublist_cons_self _ _)
    obtain ⟨h3, h4⟩ := nK_vals s' (fun x hx => ht x (.tail _ hx)) hc2
    exact ⟨h3, e.d, R.map Ent.d, rfl, Val.mono (Al.sub (XG_sub (List.sublist_append_right _ _))) _ _ h2, h4⟩
theorem tb_rows : ∀ {R : List Ent} {X : List Nat}, (∀ e ∈ R, EntOk B old S X e) → (∀ e ∈ R, ∀ xs, e.d ≠ .tmp xs) → (isTb (R.map fun e => (e.p, e.k)) = true) → Rows old S (R.map Ent.p) (R.map Ent.d) (R.flatMap Ent.as)
  | [], X, _, _, _ => ⟨rfl, rfl⟩
  | e :: R, X, ho, ht, h => by
    simp only [isTb, List.map_cons, List.all_cons, Bool.and_eq_true] at h
    obtain ⟨⟨hf, hk⟩, h2⟩ := h
    have hr := tb_rows (fun x hx => ho x (.tail _ hx)) (fun x hx => ht x (.tail _ hx)) (by simpa only [isTb] using h2)
    have hok := ho e (.head _)
    obtain ⟨d, p, k, as⟩ := e
    have hk' : k = ⟨.ex, true⟩ := by
      obtain ⟨t, c⟩ := k
      cases t <;> cases c <;> simp at hk ⊢
    subst hk'
    rw [ok_ex (.inl rfl)] at hok
    cases p <;> simp [flatP] at hf
    rename_i qs
    rcases hok with ⟨h1, h3, h4⟩ | ⟨a, ps, xs, h1, h3, h4, h5, h6⟩
    · obtain ⟨xs, _, q | ⟨a, q, _⟩⟩ := h4
      · exact absurd q (ht _ (.head _) xs)
      · exact absurd q (h1 a)
    · cases h3
      have h1 : d = .lst a := h1
      have h4 : as = [a] := h4
      subst h1 h4
      exact ⟨qs, xs, a, _, _, rfl, hf, h5, fun P o2 S2 => Vals.pure o2 S2 _ _ hf h6, rfl, rfl, hr⟩
/-- a list made of held things -/
theorem mkL {R : List Ent} {fr : Bool} (s : StG B old S env v (R ++ T) G) (ht : ∀ e ∈ R, ∀ xs, e.d ≠ .tmp xs) : ∃ as, StG B old S env v (⟨.tmp (R.map Ent.d), .list (R.map Ent.p), lsK fr (R.map fun e => (e.p, e.k)), as⟩ :: T) G := by
  unfold lsK
  by_cases h : (fr && isTb (R.map fun e => (e.p, e.k))) = true
  · rw [if_pos h]
    rw [Bool.and_eq_true] at h
    have hr := tb_rows (fun e he => s.inv.ok e (List.mem_append.mpr (.inl (List.mem_append.mpr (.inl he))))) ht h.2
    have hfl : (R ++ T ++ live G).flatMap Ent.as = R.flatMap Ent.as ++ XG T G := by rw [List.append_assoc, List.flatMap_append]
    refine ⟨R.flatMap Ent.as, s.eq, s.sl, ⟨?_, fun x hx => ?_, s.inv.ls, s.inv.up⟩⟩
    · rw [List.cons_append, List.flatMap_cons, ← hfl]; exact s.inv.nd
    · rw [List.cons_append, List.flatMap_cons, ← hfl]
      rcases List.mem_cons.mp hx with q | q
      · rw [q]
        exact (ok_tb rfl).mpr ⟨_, _, _, rfl, hr, .inl ⟨rfl, rfl⟩⟩
      · exact s.inv.ok x (by rw [List.append_assoc]; exact List.mem_append.mpr (.inr q))
  · rw [if_neg h]
    obtain ⟨s', hv⟩ := nK_vals (c := (R.map fun e => (e.p, e.k)).all fun e => (nK e.1 e.2).c) s ht (fun h => by simpa [List.all_map] using h)
    exact ⟨[], s'.add (List.Sublist.refl _) ⟨_, hv, .inl rfl⟩ nl_tmp⟩
end
end Z
/-! Y7: expressions: what the values' evaluation tells, the store's one does. -/
namespace Z
open PySem
section
variable {B : Nat → Prop} {old S : Sto} {env : Env} {v : VEnv} {T A : List Ent} {G G0 : Gs} {e e2 : Ent} {p : PyData} {k : K} {i : Nat} {d : D} {ps : List PyData}
theorem ROk.bindF {α β γ δ : Type} {rel : α → β → List Ent → VEnv → Prop} {rel2 : γ → δ → List Ent → VEnv → Prop} {T' : List Ent} {r : R α} {w : VR β} {f : α → Sto → R γ} {g : β → VEnv → VR δ} (hs : T.Sublist T') (h : ROk rel B old env T' G0 r w)
    (hf : ∀ a b xs v S G, rel a b xs v → StG B old S env v (xs ++ T') G → ROk rel2 B old env T G (f a S) (g b v)) : ROk rel2 B old env T G0 (bnd r f) (vb w g) := by
  cases w with
  | ok b v =>
    obtain ⟨a, S, xs, G, rfl, h1, h2, h3⟩ := h
    exact (hf a b xs v S G h1 h2).from h3
  | exc c v =>
    obtain ⟨S, G, rfl, h2⟩ := h
    exact ⟨S, G, rfl, h2.subT hs⟩
  | bad => trivial
theorem subR {xs T : List Ent} : T.Sublist (xs ++ T) := List.sublist_append_right _ _
theorem subR2 {xs ys T : List Ent} : T.Sublist (ys ++ (xs ++ T)) := subR.trans subR
theorem subR3 {xs ys zs T : List Ent} : T.Sublist (zs ++ (ys ++ (xs ++ T))) := subR.trans subR2
theorem memL {xs T : List Ent} : ∀ e ∈ xs, e ∈ xs ++ T := fun e he => List.mem_append.mpr (.inl he)
theorem memL2 {xs ys T : List Ent} : ∀ e ∈ xs, e ∈ ys ++ (xs ++ T) := fun e he => List.mem_append.mpr (.inr (memL e he))
theorem memL3 {xs ys zs T : List Ent} : ∀ e ∈ xs, e ∈ zs ++ (ys ++ (xs ++ T)) := fun e he => List.mem_append.mpr (.inr (memL2 e he))
theorem pure_nl (h : d.pure = true) : nl d := fun a e => by rw [e] at h; simp [D.pure] at h
theorem slot_in (h : G[i]? = some (some e)) : e ∈ T ++ live G := List.mem_append.mpr (.inr ((live_take h).mem_iff.mpr (.head _)))
def y_relS : List D → List (PyData × K) → List Ent → VEnv → Prop := fun ds ps xs _ => ds = xs.map Ent.d ∧ ps = xs.map (fun e => (e.p, e.k)) ∧ ∀ e ∈ xs, ∀ ys, e.d ≠ .tmp ys
def y_relI (env : Env) : It → Vi → List Ent → VEnv → Prop := fun j vi xs v => ∃ ps, itemsOf j ps = some vi.xs ∧ HoldR env vi.os (srcs j) xs ∧ PsOk v vi.c vi.os ps
/-- what a list's name is written with -/
theorem Inv.write {F : List Ent} {a : Nat} {ps qs : List PyData} {ys : List D} {c c2 : Bool} {t : KT} (h : Inv B old S (⟨.lst a, .list ps, ⟨t, c⟩, [a]⟩ :: F)) (ht : t = .ex) (hv : Vals (Al B old (a :: F.flatMap Ent.as) c2) old S qs ys) :
    Inv B old (wr old S a ys) (⟨.lst a, .list qs, ⟨t, c2⟩, [a]⟩ :: F) := by
  subst ht
  have ho := h.ok _ (.head _)
  rw [ok_ex (.inl rfl)] at ho
  have hN : ∃ xs, NewL old S a xs := by
    rcases ho with ⟨h1, _⟩ | ⟨b, ps, xs, h1, _, _, h4, _⟩
    · exact absurd rfl (h1 a)
    · cases h1; exact ⟨xs, h4⟩
  obtain ⟨xs, hN⟩ := hN
  have hfl : ∀ x : Ent, x.as = [a] → (x :: F).flatMap Ent.as = a :: F.flatMap Ent.as := fun x hx => by rw [List.flatMap_cons, hx]; rfl
  have hnd := h.nd
  rw [hfl _ rfl] at hnd
  have hna : ∀ c, ¬ Al B old (a :: F.flatMap Ent.as) c a := fun c q => q.2.2 (.head _)
  refine ⟨by rw [hfl _ rfl]; exact hnd, fun x hx => ?_, fun c hc => ?_, h.up⟩
  · rw [hfl _ rfl]
    rcases List.mem_cons.mp hx with q | q
    · rw [q]
      exact (ok_ex (.inl rfl)).mpr (.inr ⟨a, qs, ys, rfl, rfl, rfl, hN.self, Vals.wr hN.1 (hna _) _ _ hv⟩)
    · have := h.ok x (.tail _ q)
      rw [hfl _ rfl] at this
      refine this.wr hN.1 (.head _) (fun hax => ?_)
      exact (List.nodup_cons.mp hnd).1 (mem_fm.mpr ⟨x, q, hax⟩)
  · unfold Z.wr at hc
    rcases List.mem_or_eq_of_mem_set hc with q | q
    · exact h.ls c q
    · exact ⟨ys, q⟩
/-- a name that holds a sole list -/
theorem sole_ok {ps : List PyData} {c : Bool} (s : StG B old S env v T G) (he : ent v i = some (.list ps, k)) (hk : exK k = some c) :
    ∃ a xs F, env[i]? = some (some (.lst a)) ∧ NewL old S a xs ∧ i < G.length ∧ F = T ++ live (G.set i none) ∧ Inv B old S (⟨.lst a, .list ps, ⟨.ex, c⟩, [a]⟩ :: F) ∧ Vals (Al B old (a :: F.flatMap Ent.as) c) old S ps xs ∧ ∀ w ∈ a :: F.flatMap Ent.as, w ∈ XG T G := by
  rw [s.eq] at he
  obtain ⟨e, hg, hp, rfl⟩ := ent_vOf.mp he
  obtain ⟨he1, he2⟩ := s.sl.at_ i e hg
  have hf := focus hg s.inv
  have hx : ∃ as, as.Sublist e.as ∧ Inv B old S (⟨e.d, e.p, ⟨.ex, c⟩, as⟩ :: (T ++ live (G.set i none))) := by
    obtain ⟨d, p, ⟨t, c2⟩, as⟩ := e
    cases t with
    | sh => cases hk
    | ex => cases hk; exact ⟨as, List.Sublist.refl _, hf⟩
    | lk => cases hk
    | tb =>
      cases hk
      obtain ⟨as2, h0, h2⟩ := hf.tbex rfl
      exact ⟨as2, h0, h2⟩
  obtain ⟨as, hsub, hi⟩ := hx
  have ho := hi.ok _ (.head _)
  rw [ok_ex (.inl rfl)] at ho
  rcases ho with ⟨h1, h2, h3⟩ | ⟨a, ps2, xs, h1, h2, h3, h4, h5⟩
  · exfalso
    have h3 : ValF _ old S e.p e.d := h3
    rw [hp] at h3
    obtain ⟨xs, _, q | ⟨a, q, _⟩⟩ := h3
    · exact he2 xs q
    · exact h1 a q
  · have h1 : e.d = .lst a := h1
    have h2 : e.p = .list ps2 := h2
    have h3 : as = [a] := h3
    rw [hp] at h2
    cases h2
    subst h3
    rw [h1, hp] at hi
    rw [List.flatMap_cons] at h5
    refine ⟨a, xs, _, by rw [← h1]; exact he1, h4, lt_of_get hg, rfl, hi, h5, fun w hw => ?_⟩
    have hp : (T ++ live G).Perm (e :: (T ++ live (G.set i none))) := (List.Perm.append_left T (live_take hg)).trans List.perm_middle
    refine (List.Perm.flatMap_right _ hp).mem_iff.mpr ?_
    rw [List.flatMap_cons]
    rcases List.mem_cons.mp hw with q | q
    · rw [q]; exact List.mem_append.mpr (.inl (hsub.subset (.head _)))
    · exact List.mem_append.mpr (.inr q)
theorem sole_back {a : Nat} {q : PyData} {as : List Nat} {S' : Sto} (hv : v = vOf G) (hs : Slots env G) (ha : env[i]? = some (some (.lst a))) (hl : i < G.length) (hi : Inv B old S' (⟨.lst a, q, k, as⟩ :: (T ++ live (G.set i none)))) :
    StG B old S' env (v.set i (some (q, k))) T (G.set i (some ⟨.lst a, q, k, as⟩)) := by
  refine ⟨by rw [hv, vOf_set]; rfl, ?_, unfocus hl hi⟩
  have := hs.put (i := i) (e := ⟨.lst a, q, k, as⟩) (fun xs w => by cases w)
  rwa [set_same ha] at this
theorem bnd_ok0 {α β : Type} {a : α} {S : Sto} {f : α → Sto → R β} : bnd (.ok a S) f = f a S := rfl
theorem op_S {o : Op} {x y r : D} {S S' : Sto} (h : opV old o x y S = .ok r S') : S' = S := by
  unfold opV at h
  split at h <;> first
    | (cases h; rfl)
    | (split at h <;> first | (cases h; rfl) | cases h)
    | skip
  all_goals first | (cases h; done) | (cases h; rfl) | (split at h <;> first | (cases h; done) | (cases h; rfl) | (split at h <;> first | (cases h; done) | (cases h; rfl) | (split at h <;> first | (cases h; done) | (cases h; rfl))))
/-- simple things change no store -/
theorem smp_S {cp : Nat → List D → Sto → R D} {ci : Nat → List D → Sto → Sto → R D} : ∀ (e : E) {env : Env} {S S' : Sto} {d : D}, smp e = true → ev cp ci old e env S = .ok d S' → S' = S
  | .var i, env, S, S', d, _, h => by
    simp only [ev] at h
    split at h
    · cases h; rfl
    · cases h
  | .lit x, env, S, S', d, _, h => by
    simp only [ev] at h
    split at h
    · cases h; rfl
    · cases h
  | .glo x, env, S, S', d, _, h => by
    simp only [ev] at h
    split at h
    · cases h; rfl
    · cases h
  | .bin o a b, env, S, S', d, hs, h => by
    simp only [smp, Bool.and_eq_true] at hs
    simp only [ev] at h
    cases e1 : ev cp ci old a env S with
    | ok x S1 =>
      rw [e1, bnd_ok0] at h
      cases e2 : ev cp ci old b env S1 with
      | ok y S2 =>
        rw [e2, bnd_ok0] at h
        have h1 := smp_S a hs.1 e1
        have h2 := smp_S b hs.2 e2
        subst h1 h2
        exact op_S h
      | exc c S2 => rw [e2] at h; cases h
      | bad => rw [e2] at h; cases h
    | exc c S2 => rw [e1] at h; cases h
    | bad => rw [e1] at h; cases h
  | .neg _, _, _, _, _, h, _ => by cases h
  | .cmp _ _ _, _, _, _, _, h, _ => by cases h
  | .chn _ _ _ _ _, _, _, _, _, h, _ => by cases h
  | .and _ _, _, _, _, _, h, _ => by cases h
  | .or _ _, _, _, _, _, h, _ => by cases h
  | .not _, _, _, _, _, h, _ => by cases h
  | .ife _ _ _, _, _, _, _, h, _ => by cases h
  | .tup _, _, _, _, _, h, _ => by cases h
  | .lst _, _, _, _, _, h, _ => by cases h
  | .idx _ _, _, _, _, _, h, _ => by cases h
  | .sli _ _ _, _, _, _, _, h, _ => by cases h
  | .call _ _, _, _, _, _, h, _ => by cases h
  | .calli _ _, _, _, _, _, h, _ => by cases h
  | .blt _ _, _, _, _, _, h, _ => by cases h
  | .isi _ _, _, _, _, _, h, _ => by cases h
  | .isi2 _, _, _, _, _, h, _ => by cases h
  | .ise _ _, _, _, _, _, h, _ => by cases h
  | .met _ _ _, _, _, _, _, h, _ => by cases h
  | .ext _ _, _, _, _, _, h, _ => by cases h
  | .srt _ _, _, _, _, _, h, _ => by cases h
  | .rev _, _, _, _, _, h, _ => by cases h
  | .comp _ _ _ _ _, _, _, _, _, h, _ => by cases h
theorem valE_pure {P Q : Nat → Prop} (hp : pur p = true) (h : ValE P old S p d) : Val Q old S p d := by
  cases p with
  | list ps => simp [pur] at hp
  | _ => exact Val.up (P := P) hp h
theorem op_X {o : Op} {x y : D} {S S' : Sto} {c : Nat} : opV old o x y S ≠ .exc c S' := by
  intro h
  unfold opV at h
  split at h <;> first
    | (cases h; done)
    | (split at h <;> first | (cases h; done) | (split at h <;> first | (cases h; done) | (split at h <;> cases h)))
theorem smp_X {cp : Nat → List D → Sto → R D} {ci : Nat → List D → Sto → Sto → R D} : ∀ (e : E) {env : Env} {S S' : Sto} {c : Nat}, smp e = true → ev cp ci old e env S ≠ .exc c S'
  | .var i, env, S, S', d, _ => by
    intro h
    simp only [ev] at h
    split at h <;> cases h
  | .lit x, env, S, S', d, _ => by
    intro h
    simp only [ev] at h
    split at h <;> cases h
  | .glo x, env, S, S', d, _ => by
    intro h
    simp only [ev] at h
    split at h <;> cases h
  | .bin o a b, env, S, S', d, hs => by
    intro h
    simp only [smp, Bool.and_eq_true] at hs
    simp only [ev] at h
    cases e1 : ev cp ci old a env S with
    | ok x S1 =>
      rw [e1, bnd_ok0] at h
      cases e2 : ev cp ci old b env S1 with
      | ok y S2 =>
        rw [e2, bnd_ok0] at h
        exact op_X h
      | exc c S2 => exact smp_X b hs.2 e2
      | bad => rw [e2] at h; cases h
    | exc c S2 => exact smp_X a hs.1 e1
    | bad => rw [e1] at h; cases h
  | .neg _, _, _, _, _, h => by cases h
  | .cmp _ _ _, _, _, _, _, h => by cases h
  | .chn _ _ _ _ _, _, _, _, _, h => by cases h
  | .and _ _, _, _, _, _, h => by cases h
  | .or _ _, _, _, _, _, h => by cases h
  | .not _, _, _, _, _, h => by cases h
  | .ife _ _ _, _, _, _, _, h => by cases h
  | .tup _, _, _, _, _, h => by cases h
  | .lst _, _, _, _, _, h => by cases h
  | .idx _ _, _, _, _, _, h => by cases h
  | .sli _ _ _, _, _, _, _, h => by cases h
  | .call _ _, _, _, _, _, h => by cases h
  | .calli _ _, _, _, _, _, h => by cases h
  | .blt _ _, _, _, _, _, h => by cases h
  | .isi _ _, _, _, _, _, h => by cases h
  | .isi2 _, _, _, _, _, h => by cases h
  | .ise _ _, _, _, _, _, h => by cases h
  | .met _ _ _, _, _, _, _, h => by cases h
  | .ext _ _, _, _, _, _, h => by cases h
  | .srt _ _, _, _, _, _, h => by cases h
  | .rev _, _, _, _, _, h => by cases h
  | .comp _ _ _ _ _, _, _, _, _, h => by cases h
theorem pure_nt {P : Nat → Prop} (hp : pur p = true) (h : ValF P old S p d) : ∀ zs, d ≠ .tmp zs := by
  cases p with
  | list ps => simp [pur] at hp
  | _ => exact Val.nt (P := P) (old := old) (S := S) h
theorem isLs_ok {x : Nat} (s : StG B old S env v T G) (h : isLs v x = true) : ∃ a, env[x]? = some (some (.lst a)) := by
  unfold isLs at h
  split at h
  · rename_i ps k he
    rw [s.eq] at he
    obtain ⟨e, hg, hp, _⟩ := ent_vOf.mp he
    obtain ⟨h1, h2⟩ := s.sl.at_ x e hg
    have h3 := EntOk.any (s.inv.ok e (slot_in hg)) h2
    rw [hp] at h3
    obtain ⟨xs, _, a, q, _⟩ := h3
    exact ⟨a, by rw [h1, q]⟩
  · cases h
theorem bnd_assoc {α β γ : Type} {r : R α} {f : α → Sto → R β} {g : β → Sto → R γ} : bnd (bnd r f) g = bnd r fun a S => bnd (f a S) g := by cases r <;> rfl
theorem sole_X {a : Nat} {q : PyData} (hl : i < G.length) : ∀ w ∈ XG T (G.set i (some ⟨.lst a, q, k, [a]⟩)), w ∈ a :: (T ++ live (G.set i none)).flatMap Ent.as := by
  intro w hw
  have hp : (T ++ live (G.set i (some ⟨.lst a, q, k, [a]⟩))).Perm (⟨.lst a, q, k, [a]⟩ :: (T ++ live (G.set i none))) := (List.Perm.append_left T (live_put hl)).trans List.perm_middle
  have := (List.Perm.flatMap_right Ent.as hp).mem_iff.mp hw
  rwa [List.flatMap_cons] at this
/-- a shared thing is named -/
theorem put_sh {c : Bool} (s : StG B old S env v T G) (hv : Val (Al B old (XG T G) c) old S p d) : ∃ G1, StG B old S (env.set i (some d)) (v.set i (some (p, ⟨.sh, c || pur p⟩))) T G1 ∧ ∀ a ∈ XG T G1, a ∈ XG T G := by
  have hv2 : Val (Al B old (XG T G) (c || pur p)) old S p d := by
    cases hp : pur p with
    | true => exact Val.up hp hv
    | false => rw [Bool.or_false]; exact hv
  have hi : Inv B old S (⟨d, p, ⟨.sh, c || pur p⟩, []⟩ :: (T ++ live G)) := s.inv.add rfl ((ok_sh rfl).mpr ⟨rfl, hv2.toF⟩)
  by_cases hl : i < G.length
  · have hi2 : Inv B old S (⟨d, p, ⟨.sh, c || pur p⟩, []⟩ :: (T ++ live (G.set i none))) := hi.sub (List.Sublist.cons_cons _ ((List.Sublist.refl _).append live_kill))
    refine ⟨G.set i (some ⟨d, p, ⟨.sh, c || pur p⟩, []⟩), ⟨by rw [s.eq, vOf_set]; rfl, s.sl.put (e := ⟨d, p, ⟨.sh, c || pur p⟩, []⟩) hv.nt, unfocus hl hi2⟩, fun a ha => ?_⟩
    have hp : (T ++ live (G.set i (some ⟨d, p, ⟨.sh, c || pur p⟩, []⟩))).Perm (⟨d, p, ⟨.sh, c || pur p⟩, []⟩ :: (T ++ live (G.set i none))) := (List.Perm.append_left T (live_put hl)).trans List.perm_middle
    have h1 := (List.Perm.flatMap_right Ent.as hp).mem_iff.mp ha
    rw [List.flatMap_cons] at h1
    exact (fm_sub ((List.Sublist.refl T).append live_kill)).subset ((List.mem_append.mp h1).elim (fun q => (by cases q)) id)
  · refine ⟨G, ⟨by rw [s.eq]; exact List.set_eq_of_length_le (by simp only [vOf, List.length_map]; omega), ⟨by rw [List.length_set]; exact s.sl.le, fun j e hj => ?_⟩, s.inv⟩, fun a ha => ha⟩
    have := lt_of_get hj
    rw [List.getElem?_set_ne (by omega)]
    exact s.sl.at_ j e hj
/-- a comprehension's turns -/
theorem vcl_ok {j : It} {ps0 : List PyData} {c : Bool} {ysrc : List Ent} {xs : List PyData} {turnS : D → Sto → R (Option D)} {turnV : PyData → VEnv → VR (Option (PyData × K))} {Q : VEnv → Prop} (hj : itemsOf j ps0 = some xs) (hf : HoldF c (srcs j) ps0 ysrc)
    (ht : ∀ (T1 : List Ent) (x : D) (p : PyData) (S : Sto) (v : VEnv) (G : Gs), StG B old S env v T1 G → Q v → Val (Al B old (XG T1 G) c) old S p x → match turnV p v with
      | .ok none v1 => ∃ S1 G1, turnS x S = .ok none S1 ∧ StG B old S1 env v1 T1 G1 ∧ Q v1
      | .ok (some q) v1 => ∃ z S1 G1 as, turnS x S = .ok (some z) S1 ∧ StG B old S1 env v1 (⟨z, q.1, q.2, as⟩ :: T1) G1 ∧ (∀ zs, z ≠ .tmp zs) ∧ Q v1
      | _ => True) :
    ∀ (f n : Nat), n + f = xs.length → ∀ (T1 : List Ent) (S : Sto) (v : VEnv) (G : Gs), (∀ e ∈ ysrc, e ∈ T1) → StG B old S env v T1 G → Q v → match vcl turnV (xs.drop n) v with
      | .ok ys v' => ∃ zs S' G' R, cloop old j turnS f n S = .ok zs S' ∧ StG B old S' env v' (R ++ T1) G' ∧ zs = R.map Ent.d ∧ ys = R.map (fun e => (e.p, e.k)) ∧ ∀ e ∈ R, ∀ zs, e.d ≠ .tmp zs
      | _ => True
  | 0, n, hn, T1, S, v, G, hm, s, hq => by
    rw [List.drop_eq_nil_of_le (by omega)]
    obtain ⟨ds, g1, g2, _⟩ := src_ok hj (hf.vals hm s)
    refine ⟨[], S, G, [], ?_, s, rfl, rfl, fun e he => by cases he⟩
    simp only [cloop, g1]
    rw [List.getElem?_eq_none (by rw [g2.len]; omega)]
  | f + 1, n, hn, T1, S, v, G, hm, s, hq => by
    have hlt : n < xs.length := by omega
    rw [List.drop_eq_getElem_cons hlt]
    obtain ⟨ds, g1, g2, _⟩ := src_ok hj (hf.vals hm s)
    obtain ⟨d, g3, g4⟩ := g2.get (List.getElem?_eq_getElem hlt)
    have h := ht T1 d xs[n] S v G s hq g4
    simp only [vcl]
    cases hv : turnV xs[n] v with
    | bad => trivial
    | exc _ _ => trivial
    | ok q v1 =>
      rw [hv] at h
      cases q with
      | none =>
        obtain ⟨S1, G1, e1, s1, q1⟩ := h
        have ih := vcl_ok hj hf ht f (n + 1) (by omega) T1 S1 v1 G1 hm s1 q1
        simp only
        cases hr : vcl turnV (xs.drop (n + 1)) v1 with
        | bad => trivial
        | exc _ _ => trivial
        | ok ys v2 =>
          rw [hr] at ih
          obtain ⟨zs, S', G', R, e2, s2, e3, e4, e5⟩ := ih
          refine ⟨zs, S', G', R, ?_, s2, e3, e4, e5⟩
          simp only [cloop, g1, g3, e1, e2]
      | some q =>
        obtain ⟨z, S1, G1, as, e1, s1, hnt, q1⟩ := h
        have ih := vcl_ok hj hf ht f (n + 1) (by omega) (⟨z, q.1, q.2, as⟩ :: T1) S1 v1 G1 (fun e he => .tail _ (hm e he)) s1 q1
        simp only
        cases hr : vcl turnV (xs.drop (n + 1)) v1 with
        | bad => trivial
        | exc _ _ => trivial
        | ok ys v2 =>
          rw [hr] at ih
          obtain ⟨zs, S', G', R, e2, s2, rfl, rfl, e5⟩ := ih
          refine ⟨z :: R.map Ent.d, S', G', ⟨z, q.1, q.2, as⟩ :: R, ?_, s2.permT List.perm_middle, rfl, rfl, fun e he => ?_⟩
          · simp only [cloop, g1, g3, e1, e2]
          · rcases List.mem_cons.mp he with w | w
            · rw [w]; exact hnt
            · exact e5 e w
theorem setAll_sim {c : Bool} : ∀ {is : List Nat} {ps : List PyData} {ds : List D} {env : Env} {v v2 : VEnv} {G : Gs}, Vals (Al B old (XG T G) c) old S ps ds → StG B old S env v T G → setAllV c is ps v = some v2 →
    ∃ env2 G2, setAll is ds env = some env2 ∧ StG B old S env2 v2 T G2 ∧ env2.length = env.length ∧ (∀ i, i ∉ is → env2[i]? = env[i]?) ∧ v2.length = v.length
  | [], [], ds, env, v, v2, G, hv, s, h => by
    cases h
    rw [show ds = [] from hv]
    exact ⟨env, G, rfl, s, rfl, fun i _ => rfl, rfl⟩
  | i :: is, p :: ps, ds, env, v, v2, G, hv, s, h => by
    obtain ⟨d, ds', rfl, h1, h2⟩ := hv
    have h : setAllV c is ps (v.set i (some (p, ⟨.sh, c || pur p⟩))) = some v2 := h
    obtain ⟨G1, s1, hx⟩ := put_sh s h1 (i := i)
    obtain ⟨env2, G2, a1, a2, a3, a4, a5⟩ := setAll_sim (Vals.mono (Al.sub hx) _ _ h2) s1 h
    refine ⟨env2, G2, a1, a2, by rw [a3, List.length_set], fun j hj => ?_, by rw [a5, List.length_set]⟩
    simp only [List.mem_cons, not_or] at hj
    rw [a4 j hj.2, List.getElem?_set_ne (fun q => hj.1 q.symm)]
  | [], p :: ps, ds, env, v, v2, G, hv, s, h => by cases h
  | i :: is, [], ds, env, v, v2, G, hv, s, h => by cases h
theorem tg_sim {c : Bool} {tg : Tg} {v2 : VEnv} (hv : Val (Al B old (XG T G) c) old S p d) (s : StG B old S env v T G) (h : tgV c tg p v = some v2) :
    ∃ env2 G2, tg.put d env = some env2 ∧ StG B old S env2 v2 T G2 ∧ env2.length = env.length ∧ (∀ i, i ∉ tg.nms → env2[i]? = env[i]?) ∧ v2.length = v.length := by
  cases tg with
  | nm i =>
    cases h
    obtain ⟨G1, s1, hx⟩ := put_sh s hv (i := i)
    refine ⟨_, G1, rfl, s1, by simp, fun j hj => ?_, by simp⟩
    simp only [Tg.nms, List.mem_singleton] at hj
    rw [List.getElem?_set_ne (fun q => hj q.symm)]
  | tu is =>
    cases p <;> try (cases h; done)
    rename_i ps
    obtain ⟨xs, rfl, h1⟩ := hv
    exact setAll_sim h1 s h
/-! ### the walk over expressions -/
section
variable {cp : Nat → List D → Sto → R D} {ci : Nat → List D → Sto → Sto → R D} {cpV : Nat → List PyData → RC} {ciV : Nat → List (PyData × K) → RI} {io : Nat → List Nat}
theorem optR_some {α β : Type} {a : α} {f : α → VR β} : optR (some a) f = f a := rfl
theorem vev_idxN {a b : E} (h : ¬ isTbx a b v = true) : vev cpV ciV io (.idx a b) v = vb (vev cpV ciV io a v) fun x v1 => vb (vev cpV ciV io b v1) fun y v2 => rdv y v2 fun q _ v3 => rdv x v3 fun p c v4 => optR (idxP p q) fun r => .ok (.v r ⟨.sh, c⟩) v4 := by
  rw [vev.eq_def]
  simp only
  rw [if_neg h]
theorem vev_idxT {x : Nat} {i b : E} (h : isTbx (.idx (.var x) i) b v = true) : vev cpV ciV io (.idx (.idx (.var x) i) b) v = vb (vev cpV ciV io i v) fun o v1 => rdv o v1 fun q _ v2 => vb (vev cpV ciV io b v2) fun u v3 => rdv u v3 fun r _ v4 => match ent v4 x with
        | some (p, ⟨.tb, _⟩) => optR (idxP p q) fun row => optR (idxP row r) fun z => .ok (.v z ⟨.ex, true⟩) v4
        | _ => .bad := by
  rw [vev.eq_def]
  simp only
  rw [if_pos h] <;> rfl
theorem own_hold {x : Vo} {xs : List Ent} (h : Hold env x d xs) (s : StG B old S env v (xs ++ T) G) : ∃ d2 S2 xs2, own old d S = .ok d2 S2 ∧ Hold env x d2 xs2 ∧ StG B old S2 env v (xs2 ++ T) G ∧ ∀ ys, d2 ≠ .tmp ys := by
  cases x with
  | v p k =>
    obtain ⟨as, rfl⟩ := h
    obtain ⟨d', S', as', e1, h2, h3, _⟩ := Inv.own (e := ⟨d, p, k, as⟩) (F := T ++ live G) s.inv
    exact ⟨d', S', [⟨d', p, k, as'⟩], e1, ⟨as', rfl⟩, ⟨s.eq, s.sl, h2⟩, h3⟩
  | top i =>
    obtain ⟨rfl, h1, h2⟩ := h
    refine ⟨d, S, [], ?_, ⟨rfl, h1, h2⟩, s, h2⟩
    unfold Z.own
    split
    · exact absurd rfl (h2 _)
    · rfl
/-- a list's name at the end of a walk -/
theorem slot_var {cp : Nat → List D → Sto → R D} {ci : Nat → List D → Sto → Sto → R D} {x : Nat} {a : D} (h : env[x]? = some (some a)) : ev cp ci old (.var x) env S = .ok a S := by simp only [ev, h]
/-- one value looked at -/
theorem rd1 {α : Type} {rel : D → α → List Ent → VEnv → Prop} {o : Vo} {xs : List Ent} {r : R D} {f : PyData → Bool → VEnv → VR α} (h1 : Hold env o d xs) (s1 : StG B old S env v (xs ++ T) G)
    (hf : ∀ p c v' G', StG B old S env v' (xs ++ T) G' → ValE (Al B old (XG (xs ++ T) G') c) old S p d → ROk rel B old env T G' r (f p c v')) : ROk rel B old env T G r (rdv o v f) :=
  ROk.rdv h1 memL s1 fun p c v' G' _ s' _ h => hf p c v' G' s' h
/-- two values looked at -/
theorem rd2 {α β : Type} {rel : α → β → List Ent → VEnv → Prop} {x y : Vo} {dx dy : D} {xs ys : List Ent} {r : R α} {f : PyData → Bool → PyData → Bool → VEnv → VR β} (h1 : Hold env x dx xs) (h2 : Hold env y dy ys) (s : StG B old S env v (ys ++ (xs ++ T)) G)
    (hf : ∀ p c q e v' G', StG B old S env v' (ys ++ (xs ++ T)) G' → ValE (Al B old (XG (ys ++ (xs ++ T)) G') c) old S p dx → ValE (Al B old (XG (ys ++ (xs ++ T)) G') e) old S q dy → ROk rel B old env T G' r (f p c q e v')) :
    ROk rel B old env T G r (rdv x v fun p c v3 => rdv y v3 fun q e v4 => f p c q e v4) :=
  ROk.rdv h1 memL2 s fun p c v3 G3 _ s3 _ y3 => ROk.rdv h2 memL s3 fun q e v4 G4 _ s4 x4 y4 => hf p c q e v4 G4 s4 (y3.mono (Al.sub x4)) y4
mutual
theorem ev_sim (Hc : CpOk cp cpV) (Hi : CiOk ci ciV io) : ∀ (e : E) (env : Env) (T : List Ent) (v : VEnv) (S : Sto) (G : Gs), StG B old S env v T G → ROk (y_relE env) B old env T G (ev cp ci old e env S) (vev cpV ciV io e v)
  | .var i, env, T, v, S, G, s => by
    rw [vev]
    cases he : ent v i with
    | none => trivial
    | some q =>
      obtain ⟨p, k⟩ := q
      have he' := he
      rw [s.eq] at he
      obtain ⟨e, hg, rfl, rfl⟩ := ent_vOf.mp he
      obtain ⟨h1, h2⟩ := s.sl.at_ i e hg
      have hev : ev cp ci old (.var i) env S = .ok e.d S := by simp only [ev, h1]
      have hok := s.inv.ok e (slot_in hg)
      rw [hev]
      simp only
      by_cases hs : e.k.t = .sh
      · have : varV i e.p e.k v = .ok (.v e.p e.k) v := by unfold varV; rw [hs]
        rw [this]
        refine ⟨e.d, S, [⟨e.d, e.p, e.k, []⟩], G, rfl, ⟨[], rfl⟩, ⟨s.eq, s.sl, s.inv.add rfl ?_⟩, trivial⟩
        rw [ok_sh hs] at hok
        exact (ok_sh (e := ⟨e.d, e.p, e.k, []⟩) hs).mpr ⟨rfl, hok.2⟩
      · have : varV i e.p e.k v = if pur e.p = true then .ok (.v e.p top0) v else .ok (.top i) v := by
          unfold varV
          rcases kt_or e.k.t with q | q | q | q
          · exact absurd q hs
          all_goals rw [q]
        rw [this]
        by_cases hp : pur e.p = true
        · rw [if_pos hp]
          have hv : ValF (Al B old (XG T G) true) old S e.p e.d := by
            have htb : e.k.t ≠ .tb := fun q => by
              rw [ok_tb q] at hok
              obtain ⟨ps, _, _, h3, _⟩ := hok
              rw [h3] at hp; simp [pur] at hp
            exact (valE_pure hp (hok.read htb)).toF
          exact ROk.ret s (List.Sublist.refl _) hv (pure_nl (Val.isPure (P := Al B old (XG T G) true) _ _ hp (hv.toV (pure_nt hp hv))))
        · rw [if_neg hp]
          exact ⟨e.d, S, [], G, rfl, ⟨rfl, h1, h2⟩, s, trivial⟩
  | .lit x, env, T, v, S, G, s => by
    rw [vev]
    refine ROk.optR fun p hp => ?_
    obtain ⟨h1, h2⟩ := lit_ok hp
    rw [ev, if_pos h1]
    exact ROk.ret s (List.Sublist.refl _) h2.toF (pure_nl h1)
  | .glo x, env, T, v, S, G, s => by
    rw [vev]
    refine ROk.optR fun p hp => ?_
    obtain ⟨h1, h2⟩ := lit_ok hp
    rw [ev, if_pos h1]
    exact ROk.ret s (List.Sublist.refl _) h2.toF (pure_nl h1)
  | .bin o a b, env, T, v, S, G, s => by
    rw [vev, ev]
    refine (ev_sim Hc Hi a env T v S G s).bind fun d1 x xs v1 S1 G1 h1 s1 => ?_
    refine ROk.bindF subR (ev_sim Hc Hi b env _ v1 S1 G1 s1) fun d2 y ys v2 S2 G2 h2 s2 => ?_
    refine rd2 h1 h2 s2 fun p c q e v4 G4 s4 y3 y4 => ?_
    refine ROk.optR fun r hr => ?_
    obtain ⟨dr, hop, hv, hn⟩ := op_ok (y3.mono Al.and1) (y4.mono Al.and2) hr
    rw [hop]
    exact ROk.ret s4 subR2 hv hn
  | .neg a, env, T, v, S, G, s => by
    rw [vev, ev]
    refine (ev_sim Hc Hi a env T v S G s).bind fun d1 x xs v1 S1 G1 h1 s1 => ?_
    refine rd1 h1 s1 fun p c v2 G2 s2 y2 => ?_
    cases p <;> try trivial
    rw [vInt y2]; exact ROk.ret s2 subR rfl nl_int
  | .cmp o a b, env, T, v, S, G, s => by
    rw [vev, ev]
    refine (ev_sim Hc Hi a env T v S G s).bind fun d1 x xs v1 S1 G1 h1 s1 => ?_
    refine ROk.bindF subR (ev_sim Hc Hi b env _ v1 S1 G1 s1) fun d2 y ys v2 S2 G2 h2 s2 => ?_
    refine rd2 h1 h2 s2 fun p c q e v4 G4 s4 y3 y4 => ?_
    refine ROk.optR fun r hr => ?_
    rw [cmp_ok y3 y4 hr]
    exact ROk.ret s4 subR2 rfl nl_bl
  | .chn o p a b c, env, T, v, S, G, s => by
    rw [vev, ev]
    refine (ev_sim Hc Hi a env T v S G s).bind fun d1 x xs v1 S1 G1 h1 s1 => ?_
    refine ROk.bindF subR (ev_sim Hc Hi b env _ v1 S1 G1 s1) fun d2 y ys v2 S2 G2 h2 s2 => ?_
    refine rd2 h1 h2 s2 fun px _ py _ v4 G4 s4 y3 y4 => ?_
    refine ROk.optR fun r hr => ?_
    rw [cmp_ok y3 y4 hr]
    cases r with
    | false => exact ROk.ret s4 subR2 rfl nl_bl
    | true =>
      refine ROk.bindF subR2 (ev_sim Hc Hi c env _ v4 S2 G4 s4) fun d3 z zs v5 S3 G5 h5 s5 => ?_
      refine ROk.rdv h2 memL2 s5 fun py2 _ v6 G6 _ s6 _ y6 => ?_
      refine ROk.rdv h5 memL s6 fun pz _ v7 G7 _ s7 x7 y7 => ?_
      refine ROk.optR fun r hr => ?_
      rw [cmp_ok y6 y7 hr]
      exact ROk.ret s7 subR3 rfl nl_bl
  | .and a b, env, T, v, S, G, s => by
    rw [vev, ev]
    refine (ev_sim Hc Hi a env T v S G s).bind fun d1 x xs v1 S1 G1 h1 s1 => ?_
    refine rd1 h1 s1 fun p c v2 G2 s2 y2 => ?_
    cases p <;> try trivial
    rename_i k
    rw [vBool y2]
    cases k with
    | false => exact ROk.ret s2 subR rfl nl_bl
    | true => exact ev_sim Hc Hi b env T v2 S1 G2 s2.drop
  | .or a b, env, T, v, S, G, s => by
    rw [vev, ev]
    refine (ev_sim Hc Hi a env T v S G s).bind fun d1 x xs v1 S1 G1 h1 s1 => ?_
    refine rd1 h1 s1 fun p c v2 G2 s2 y2 => ?_
    cases p <;> try trivial
    rename_i k
    rw [vBool y2]
    cases k with
    | true => exact ROk.ret s2 subR rfl nl_bl
    | false => exact ev_sim Hc Hi b env T v2 S1 G2 s2.drop
  | .not a, env, T, v, S, G, s => by
    rw [vev, ev]
    refine (ev_sim Hc Hi a env T v S G s).bind fun d1 x xs v1 S1 G1 h1 s1 => ?_
    refine rd1 h1 s1 fun p c v2 G2 s2 y2 => ?_
    cases p <;> try trivial
    rw [vBool y2]; exact ROk.ret s2 subR rfl nl_bl
  | .ife c a b, env, T, v, S, G, s => by
    rw [vev, ev]
    refine (ev_sim Hc Hi c env T v S G s).bind fun d1 x xs v1 S1 G1 h1 s1 => ?_
    refine rd1 h1 s1 fun p c v2 G2 s2 y2 => ?_
    refine ROk.optR fun r hr => ?_
    rw [tru_ok y2 hr]
    cases r with
    | true => exact ev_sim Hc Hi a env T v2 S1 G2 s2.drop
    | false => exact ev_sim Hc Hi b env T v2 S1 G2 s2.drop
  | .tup es, env, T, v, S, G, s => by
    rw [vev, ev]
    refine (evs_sim Hc Hi es env T v S G s).bind fun ds ps R v1 S1 G1 h1 s1 => ?_
    obtain ⟨rfl, rfl, ht⟩ := h1
    by_cases hl : SL ((R.map fun e => (e.p, e.k)).length) = true
    · rw [if_pos hl, if_pos (by simpa using hl)]
      obtain ⟨s2, hv⟩ := nK_vals (c := (R.map fun e => (e.p, e.k)).all fun e => (nK e.1 e.2).c) s1 ht (fun h => by simpa [List.all_map] using h)
      refine ROk.ret s2 (List.Sublist.refl _) ⟨_, rfl, ?_⟩ nl_tup
      rw [List.map_map]
      exact hv
    · rw [if_neg hl]; trivial
  | .lst es, env, T, v, S, G, s => by
    rw [vev, ev]
    refine (evs_sim Hc Hi es env T v S G s).bind fun ds ps R v1 S1 G1 h1 s1 => ?_
    obtain ⟨rfl, rfl, ht⟩ := h1
    by_cases hl : SL ((R.map fun e => (e.p, e.k)).length) = true
    · rw [if_pos hl, if_pos (by simpa using hl)]
      obtain ⟨as, s2⟩ := mkL (fr := false) s1 ht
      refine ⟨_, S1, [_], G1, rfl, ⟨as, rfl⟩, ?_, trivial⟩
      rw [List.map_map]
      exact s2
    · rw [if_neg hl]; trivial
  | .idx a b, env, T, v, S, G, s => by
    by_cases hx : isTbx a b v = true
    · have hx0 := hx
      cases a with
      | idx a2 i => cases a2 with
        | var x =>
         unfold isTbx at hx
         simp only [Bool.and_eq_true] at hx
         obtain ⟨⟨hsi, hsb⟩, hxe⟩ := hx
         rw [vev_idxT hx0]
         have hxs : ∃ a, env[x]? = some (some a) := by
           split at hxe
           · rename_i he
             rw [s.eq] at he
             obtain ⟨e, hg, _⟩ := ent_vOf.mp he
             exact ⟨e.d, (s.sl.at_ x e hg).1⟩
           · cases hxe
         obtain ⟨a, ha⟩ := hxs
         have hev : ev cp ci old (.idx (.idx (.var x) i) b) env S = bnd (ev cp ci old i env S) fun y S2 => bnd (idxV old a y S2) fun row S3 => bnd (ev cp ci old b env S3) fun z S4 => idxV old row z S4 := by
           simp only [ev, ha, bnd_ok0]
           cases ev cp ci old i env S <;> rfl
         rw [hev]
         have ih := ev_sim Hc Hi i env T v S G s
         cases hvi : vev cpV ciV io i v with
         | bad => trivial
         | exc c v1 =>
           rw [hvi] at ih
           obtain ⟨S1, G1, e1, s1⟩ := ih
           rw [e1]
           exact ⟨S1, G1, rfl, s1⟩
         | ok o v1 =>
           rw [hvi] at ih
           obtain ⟨d1, S1, xs, G1, e1, h1, s1, _⟩ := ih
           have hS := smp_S i hsi e1
           subst hS
           rw [e1]
           simp only [vb, bnd_ok0]
           unfold Z.rdv
           cases hr1 : o.rd v1 with
           | none => trivial
           | some q =>
             obtain ⟨q, c, v2⟩ := q
             obtain ⟨G2, s2, _, _, y2⟩ := rd_ok h1 memL s1 hr1
             simp only
             have ih2 := ev_sim Hc Hi b env _ v2 S1 G2 s2
             -- what is read is read of the store as it is
             have fin : ∀ (o2 : Vo) (v3 v4 : VEnv) (r : PyData) (c2 : Bool) (d3 : D) (ys : List Ent) (G3 : Gs), ev cp ci old b env S1 = .ok d3 S1 → Hold env o2 d3 ys → StG B old S1 env v3 (ys ++ (xs ++ T)) G3 → o2.rd v3 = some (r, c2, v4) →
                 ROk (y_relE env) B old env T G (bnd (idxV old a d1 S1) fun row S3 => bnd (ev cp ci old b env S3) fun z S4 => idxV old row z S4) (match ent v4 x with
                   | some (p, ⟨.tb, _⟩) => optR (idxP p q) fun row => optR (idxP row r) fun z => .ok (.v z ⟨.ex, true⟩) v4
                   | _ => .bad) := by
               intro o2 v3 v4 r c2 d3 ys G3 e3 h3 s3 hr3
               obtain ⟨G4, s4, _, x4, y4⟩ := rd_ok h3 memL s3 hr3
               cases hen : ent v4 x with
               | none => trivial
               | some w =>
                 obtain ⟨p, ⟨t, c4⟩⟩ := w
                 cases t <;> try trivial
                 have hen' := hen
                 rw [s4.eq] at hen'
                 obtain ⟨e, hg, rfl, hk⟩ := ent_vOf.mp hen'
                 have hed : e.d = a := by
                   have := (s4.sl.at_ x e hg).1
                   rw [ha] at this; cases this; rfl
                 have hok := s4.inv.ok e (slot_in hg)
                 rw [ok_tb (by rw [hk])] at hok
                 obtain ⟨ps, zs, bs, q1, q2, q3⟩ := hok
                 have hva : ValE (fun _ => True) old S1 e.p a := by
                   rw [q1]
                   refine ⟨zs, q2.vals fun _ _ => trivial, ?_⟩
                   rw [← hed]
                   exact q3.imp (fun h => h.1) fun ⟨b, h5, h6, _⟩ => ⟨b, h5, h6.at_⟩
                 simp only
                 cases hi1 : idxP e.p q with
                 | none => trivial
                 | some row =>
                   obtain ⟨drow, g1, g2⟩ := idx_ok hva (y2 : ValE _ old S1 q d1) hi1
                   rw [g1, bnd_ok0, e3, bnd_ok0, optR_some]
                   cases hi2 : idxP row r with
                   | none => trivial
                   | some z =>
                     obtain ⟨dz, g3, g4⟩ := idx_ok g2.toE y4 hi2
                     rw [g3, optR_some]
                     -- the element is pure
                     have hz : pur z = true := by
                       have key : ∀ {ps : List PyData} {zs : List D} {bs : List Nat} {n : Nat}, Rows old S1 ps zs bs → ps[n]? = some row → ∃ qs, row = .list qs ∧ purs qs = true := by
                         intro ps
                         induction ps with
                         | nil => intro zs bs n _ h; simp at h
                         | cons p ps ih =>
                           intro zs bs n hr h
                           obtain ⟨qs, ys', b', xs', bs', w1, w2, w3, w4, w5, w6, w7⟩ := hr
                           cases n with
                           | zero => simp at h; exact ⟨qs, by rw [← h, w1], w2⟩
                           | succ n => exact ih w7 (by simpa using h)
                       have hmem : ∃ n : Nat, ps[n]? = some row := by
                         rw [q1] at hi1
                         cases q <;> try (simp [idxP] at hi1; done)
                         simp only [idxP, seqP] at hi1
                         split at hi1
                         · exact ⟨_, hi1⟩
                         · cases hi1
                       obtain ⟨n, hn⟩ := hmem
                       obtain ⟨qs, w1, w2⟩ := key q2 hn
                       rw [w1] at hi2
                       have hmem2 : z ∈ qs := by
                         cases r <;> try (simp [idxP] at hi2; done)
                         simp only [idxP, seqP] at hi2
                         split at hi2
                         · exact List.mem_of_getElem? hi2
                         · cases hi2
                       clear hi2 w1 hn key hi1 g3 g4 g2 g1
                       induction qs with
                       | nil => cases hmem2
                       | cons y ys ih =>
                         simp only [purs, Bool.and_eq_true] at w2
                         rcases List.mem_cons.mp hmem2 with w | w
                         · rw [w]; exact w2.1
                         · exact ih w2.2 w
                     exact (ROk.ret s4 subR2 (Val.up hz g4).toF (pure_nl (Val.isPure _ _ hz g4))).from trivial
             cases hvb : vev cpV ciV io b v2 with
             | bad => trivial
             | exc c3 v3 =>
               rw [hvb] at ih2
               obtain ⟨S3, G3, e3, s3⟩ := ih2
               exact absurd e3 (smp_X b hsb)
             | ok o2 v3 =>
               rw [hvb] at ih2
               obtain ⟨d3, S3, ys, G3, e3, h3, s3, _⟩ := ih2
               have hS := smp_S b hsb e3
               subst hS
               simp only
               cases hr3 : o2.rd v3 with
               | none => trivial
               | some w =>
                 obtain ⟨r, c2, v4⟩ := w
                 exact fin o2 v3 v4 r c2 d3 ys G3 e3 h3 s3 hr3
        | _ => exact absurd hx (by simp [isTbx])
      | _ => exact absurd hx (by simp [isTbx])
    · rw [vev_idxN hx, ev]
      refine (ev_sim Hc Hi a env T v S G s).bind fun d1 x xs v1 S1 G1 h1 s1 => ?_
      refine ROk.bindF subR (ev_sim Hc Hi b env _ v1 S1 G1 s1) fun d2 y ys v2 S2 G2 h2 s2 => ?_
      refine rd2 h2 (x := y) (y := x) (xs := ys) (ys := xs) (T := T) h1 (s2.permT ?_) fun q _ p c v4 G4 s4 y3 y4 => ?_
      · rw [← List.append_assoc, ← List.append_assoc]; exact List.perm_append_comm.append_right _
      refine ROk.optR fun r hr => ?_
      obtain ⟨dr, hop, hv⟩ := idx_ok y4 y3 hr
      rw [hop]
      exact ROk.retS s4 subR2 hv.toF
  | .sli a lo hi, env, T, v, S, G, s => by
    rw [vev, ev]
    refine (ev_sim Hc Hi a env T v S G s).bind fun d1 x xs v1 S1 G1 h1 s1 => ?_
    refine ROk.bindF subR (evo_sim Hc Hi lo env _ v1 S1 G1 s1) fun l l' ys v2 S2 G2 h2 s2 => ?_
    obtain ⟨rfl, rfl⟩ := h2
    refine ROk.bindF subR (evo_sim Hc Hi hi env _ v2 S2 G2 s2) fun l l' ys v3 S3 G3 h3 s3 => ?_
    obtain ⟨rfl, rfl⟩ := h3
    refine rd1 h1 (T := T) (by simpa using s3) fun p c v4 G4 s4 y4 => ?_
    refine ROk.optR fun r hr => ?_
    obtain ⟨dr, hop, hv, hn⟩ := sli_ok y4 hr
    rw [hop]
    exact ROk.ret s4 subR hv hn
  | .call f es, env, T, v, S, G, s => by
    rw [vev, ev]
    refine (evA_sim Hc Hi es env T v S G s).bind fun ds os xs v1 S1 G1 h1 s1 => ?_
    cases hr : rsv v1 os with
    | none => trivial
    | some q =>
      obtain ⟨ps, cs⟩ := q
      exact call_ok Hc h1 s1 hr
  | .calli f es, env, T, v, S, G, s => by
    rw [vev, ev]
    refine (evI_sim Hc Hi (io f) 0 es env T v S G s).bind fun ds as xs v1 S1 G1 h1 s1 => ?_
    cases hm : mvIn as v1 with
    | none => trivial
    | some q =>
      obtain ⟨es2, v2⟩ := q
      obtain ⟨G2, As, a1, a2, a3, rfl, rfl, a6, _⟩ := mvIn_ok h1 s1 hm
      have hc := Hi.ok f As B old S1 (T ++ live G2) a3 a6
      have hio : ∀ {Go : Gs}, (∀ (i : Nat) (e : Ent), Go[i]? = some (some e) → (io f).contains i = true → (As.map Ent.d)[i]? = some e.d) → ∀ (i : Nat) (e : Ent), Go[i]? = some (some e) → (io f).contains (0 + i) = true → (As.map Ent.d)[i]? = some e.d ∧ ∀ xs, e.d ≠ .tmp xs := by
        intro Go h i e h2 h3
        rw [Nat.zero_add] at h3
        have h4 := h i e h2 h3
        refine ⟨h4, ?_⟩
        rw [List.getElem?_map, Option.map_eq_some_iff] at h4
        obtain ⟨x, h5, h6⟩ := h4
        rw [← h6]
        exact a6 x (List.mem_of_getElem? h5)
      show ROk _ _ _ _ _ _ _ (callI (ciV f (As.map fun e => (e.p, e.k))) as v2)
      unfold callI
      cases hr : ciV f (As.map fun e => (e.p, e.k)) with
      | bad => trivial
      | ok p k outs =>
        rw [hr] at hc
        obtain ⟨d, S', as2, Go, c1, c2, rfl, c4⟩ := hc
        rw [c1]
        have c5 : Inv B old S' ((⟨d, p, k, as2⟩ :: T) ++ (live G2 ++ live Go)) := by rw [List.cons_append, ← List.append_assoc]; exact c2
        obtain ⟨G3, b1, b2, b3, _⟩ := mvOut_ok h1 a1 a2 c5 (hio c4)
        exact ⟨d, S', [⟨d, p, k, as2⟩], G3, rfl, ⟨as2, rfl⟩, ⟨b1, b2, b3⟩, trivial⟩
      | exc c outs =>
        rw [hr] at hc
        obtain ⟨S', Go, c1, c2, rfl, c4⟩ := hc
        rw [c1]
        have c5 : Inv B old S' (T ++ (live G2 ++ live Go)) := by rw [← List.append_assoc]; exact c2
        obtain ⟨G3, b1, b2, b3, _⟩ := mvOut_ok h1 a1 a2 c5 (hio c4)
        exact ⟨S', G3, rfl, ⟨b1, b2, b3⟩⟩
  | .blt f es, env, T, v, S, G, s => by
    rw [vev, ev]
    refine (evr_sim Hc Hi es env T v S G s).bind fun ds os xs v1 S1 G1 h1 s1 => ?_
    refine ROk.optR fun q hq => ?_
    obtain ⟨ps, v2⟩ := q
    refine ROk.optR fun r hr => ?_
    obtain ⟨G2, s2, _, _, hv⟩ := rdL_ok h1 memL s1 hq
    obtain ⟨dr, hop, hv, hn⟩ := blt_ok hv hr
    rw [hop]
    exact (ROk.ret s2 subR hv hn).from trivial
  | .isi a t, env, T, v, S, G, s => by
    rw [vev, ev]
    refine (ev_sim Hc Hi a env T v S G s).bind fun d1 x xs v1 S1 G1 h1 s1 => ?_
    refine rd1 h1 s1 fun p c v2 G2 s2 y2 => ?_
    refine ROk.optR fun r hr => ?_
    rw [isi_ok y2 hr]
    exact ROk.ret s2 subR rfl nl_bl
  | .isi2 a, env, T, v, S, G, s => by
    rw [vev, ev]
    refine (ev_sim Hc Hi a env T v S G s).bind fun d1 x xs v1 S1 G1 h1 s1 => ?_
    refine rd1 h1 s1 fun p c v2 G2 s2 y2 => ?_
    refine ROk.optR fun r hr => ?_
    rw [isi2_ok y2 hr]
    exact ROk.ret s2 subR rfl nl_bl
  | .ise a cs, env, T, v, S, G, s => by
    rw [vev, ev]
    refine (ev_sim Hc Hi a env T v S G s).bind fun d1 x xs v1 S1 G1 h1 s1 => ?_
    refine rd1 h1 s1 fun p c v2 G2 s2 y2 => ?_
    refine ROk.optR fun k hk => ?_
    rw [exc_ok y2 hk]
    exact ROk.ret s2 subR rfl nl_bl
  | .met m o es, env, T, v, S, G, s => by
    cases o with
    | var x =>
      rw [vev.eq_def]
      simp only
      by_cases hl : isLs v x = true
      · rw [if_pos hl]
        obtain ⟨a, ha⟩ := isLs_ok s hl
        have hev : ev cp ci old (.met m (.var x) es) env S = bnd (evs cp ci old es env S) fun ds S2 => metV old m (.lst a) ds S2 := by
          simp only [ev, ha, bnd_ok0]
        rw [hev]
        refine (evs_sim Hc Hi es env T v S G s).bind fun ds ps R v1 S1 G1 h1 s1 => ?_
        obtain ⟨rfl, rfl, ht⟩ := h1
        by_cases hm : isLook m = true
        · rw [if_pos hm]
          match R, s1, ht with
          | [], _, _ => trivial
          | _ :: _ :: _, _, _ => trivial
          | [e], s1, ht =>
            have hq := EntOk.any (s1.inv.ok e (List.mem_append.mpr (.inl (.head _)))) (ht e (.head _))
            refine ROk.rdv (xs := []) (A := [e] ++ T) (d := .lst a) ⟨rfl, ha, fun ys w => by cases w⟩ (fun e he => by cases he) s1 fun p c v3 G3 _ s3 _ y3 => ?_
            cases p <;> try trivial
            refine ROk.optR fun r hr => ?_
            obtain ⟨dr, g1, g2, g3⟩ := look_ok y3 hq hr
            simp only [List.map_cons, List.map_nil]
            rw [g1]
            exact ROk.ret s3 subR (g2 _).toF g3
        · rw [if_neg hm]
          generalize hcc : ((R.map fun e => (e.p, e.k)).all fun e => (nK e.1 e.2).c) = cc
          obtain ⟨s2, hv⟩ := nK_vals (c := cc) s1 ht (fun h => by rw [← hcc] at h; simpa [List.all_map] using h)
          cases he : ent v1 x with
          | none => trivial
          | some w =>
            obtain ⟨p, k⟩ := w
            cases p <;> try trivial
            rename_i xs0
            refine ROk.optR fun c hc => ?_
            refine ROk.optR fun r hr => ?_
            obtain ⟨a', zs, F, b1, b2, b3, b4, b5, b6, hX⟩ := sole_ok s2 he hc
            rw [ha] at b1
            cases b1
            rw [List.map_map] at hr
            obtain ⟨ys, dr, c1, c2, c3⟩ := met_ok b2 (Vals.mono (Al.and1 (e := cc)) _ _ b6) (Vals.mono (fun w h => Al.and2 (c := c) w (Al.sub hX w h)) _ _ hv) hr
            rw [c1]
            have hw := b5.write (c2 := c && cc) rfl c2
            have hn := hw.nK
            subst b4
            have s3 := sole_back s2.eq s2.sl ha b3 hn
            refine (ROk.retS (c := c && cc) (T := T) s3 (List.Sublist.refl _) ?_).from trivial
            have := Val.wr (ws := ys) b2.1 (fun q => q.2.2 (.head _)) _ _ c3
            exact (Val.mono (Al.sub (sole_X b3)) _ _ this).toF
      · rw [if_neg hl]; trivial
    | _ => rw [vev] <;> first | trivial | (intro x h; cases h)
  | .ext o e, env, T, v, S, G, s => by
    cases o with
    | var x =>
      rw [vev]
      by_cases hl : isLs v x = true
      · rw [if_pos hl]
        obtain ⟨a, ha⟩ := isLs_ok s hl
        have hev : ev cp ci old (.ext (.var x) e) env S = bnd (ev cp ci old e env S) fun y S2 => metV old .extend (.lst a) [y] S2 := by
          simp only [ev, ha, bnd_ok0]
        rw [hev]
        refine (ev_sim Hc Hi e env T v S G s).bind fun d1 z xs v1 S1 G1 h1 s1 => ?_
        refine rd1 h1 s1 fun q d v2 G2 s2 y2 => ?_
        cases q <;> try trivial
        rename_i ys
        cases he : ent v2 x with
        | none => trivial
        | some w =>
          obtain ⟨p, k⟩ := w
          cases p <;> try trivial
          rename_i xs0
          refine ROk.optR fun c hc => ?_
          obtain ⟨a', zs, F, b1, b2, b3, b4, b5, b6, hX⟩ := sole_ok s2 he hc
          rw [ha] at b1
          cases b1
          by_cases hsl : SL (xs0.length + ys.length) = true
          · rw [if_pos hsl]
            obtain ⟨zs2, c1, _, _, _, c2⟩ := vList y2
            have hv : Vals (Al B old (a :: F.flatMap Ent.as) (c && d)) old S1 (xs0 ++ ys) (zs ++ zs2) := (Vals.mono Al.and1 _ _ b6).append (Vals.mono (fun w h => Al.and2 w (Al.sub hX w h)) _ _ c1)
            have hw := b5.write (c2 := c && d) rfl hv
            have hmet : metV old .extend (.lst a) [d1] S1 = .ok .non (wr old S1 a (zs ++ zs2)) := by
              have hna : ¬ a < old.length := by have := b2.1; omega
              simp only [metV]
              rw [if_neg hna, b2.2]
              simp only [c2]
              rw [if_pos (by rw [b6.len, c1.len]; exact hsl)]
            rw [hmet]
            have hn := hw.nK
            subst b4
            have s3 := sole_back s2.eq s2.sl ha b3 hn
            exact (ROk.ret (c := true) (T := T) (p := .none) (d := .non) s3 subR rfl nl_non).from trivial
          · rw [if_neg hsl]; trivial
      · rw [if_neg hl]; trivial
    | _ => rw [vev] <;> first | trivial | (intro x h; cases h)
  | .srt a rev, env, T, v, S, G, s => by
    rw [vev, ev]
    refine (ev_sim Hc Hi a env T v S G s).bind fun d1 x xs v1 S1 G1 h1 s1 => ?_
    refine rd1 h1 s1 fun p c v2 G2 s2 y2 => ?_
    cases p <;> try trivial
    refine ROk.optR fun r hr => ?_
    obtain ⟨ys, q1, _, q2, _⟩ := vList y2
    obtain ⟨zs, q3, q4⟩ := srt_ok q1 hr
    rw [q2]
    simp only [q3]
    exact ROk.ret s2 subR ⟨_, q4, .inl rfl⟩ nl_tmp
  | .rev a, env, T, v, S, G, s => by
    rw [vev, ev]
    refine (ev_sim Hc Hi a env T v S G s).bind fun d1 x xs v1 S1 G1 h1 s1 => ?_
    refine rd1 h1 s1 fun p c v2 G2 s2 y2 => ?_
    cases p <;> try trivial
    obtain ⟨ys, q1, _, q2, _⟩ := vList y2
    rw [q2]
    exact ROk.ret s2 subR ⟨_, q1.reverse, .inl rfl⟩ nl_tmp
  | .comp own it tg cond elt, env, T, v, S, G, s => by
    rw [vev, ev]
    refine (evi_sim Hc Hi it env T v S G s).bind fun j vi xs v1 S1 G1 h1 s1 => ?_
    obtain ⟨ps, hi, hh, hp⟩ := h1
    by_cases hc : (SL vi.xs.length && tg.nms.all (own.contains ·) && unlike (tops vi.os)) = true
    · rw [if_pos hc]
      simp only [Bool.and_eq_true] at hc
      obtain ⟨⟨hsl, htg⟩, hun⟩ := hc
      have hnd : (tops vi.os).Nodup := of_decide_eq_true hun
      obtain ⟨ys, G2, f1, f2, f3⟩ := move_ok hh hp hnd s1
      have f4 := f2.wipe (env2 := env) (is := own) rfl (fun i _ => rfl)
      obtain ⟨_, _, _, hsz⟩ := src_ok hi (f1.vals memL f2)
      rw [hsz, if_pos hsl]
      have hQ : ∀ w : VEnv, ∀ i ∈ own, ent (wipeV w own) i = none := fun w i hi => wipe_none hi
      have turn : ∀ (T1 : List Ent) (x : D) (p : PyData) (S : Sto) (v : VEnv) (G : Gs), StG B old S env v T1 G → (∀ i ∈ own, ent v i = none) → Val (Al B old (XG T1 G) vi.c) old S p x → match compV own tg vi.c (fun v => vevc cpV ciV io cond v) (fun v => vev cpV ciV io elt v) p v with
          | .ok none v1 => ∃ S1 G1, (match tg.put x (wipe env own) with
            | none => .bad
            | some env2 => match evc cp ci old cond env2 S with
              | .ok true S2 => match ev cp ci old elt env2 S2 with
                | .ok y S3 => match Z.own old y S3 with
                  | .ok z S4 => .ok (some z) S4
                  | _ => .bad
                | _ => .bad
              | .ok false S2 => .ok none S2
              | _ => .bad : R (Option D)) = .ok none S1 ∧ StG B old S1 env v1 T1 G1 ∧ (∀ i ∈ own, ent v1 i = none)
          | .ok (some q) v1 => ∃ z S1 G1 as, (match tg.put x (wipe env own) with
            | none => .bad
            | some env2 => match evc cp ci old cond env2 S with
              | .ok true S2 => match ev cp ci old elt env2 S2 with
                | .ok y S3 => match Z.own old y S3 with
                  | .ok z S4 => .ok (some z) S4
                  | _ => .bad
                | _ => .bad
              | .ok false S2 => .ok none S2
              | _ => .bad : R (Option D)) = .ok (some z) S1 ∧ StG B old S1 env v1 (⟨z, q.1, q.2, as⟩ :: T1) G1 ∧ (∀ zs, z ≠ .tmp zs) ∧ (∀ i ∈ own, ent v1 i = none)
          | _ => True := by
        intro T1 x p S v G s hq hv
        have s0 : StG B old S (wipe env own) v T1 G := s.agree wipe_envl fun i y hy => wipe_env (fun hi => by rw [hq i hi] at hy; cases hy)
        unfold compV
        cases h1 : tgV vi.c tg p v with
        | none => trivial
        | some v2 =>
          obtain ⟨env2, G2, a1, a2, a3, a4, a5⟩ := tg_sim hv s0 h1
          rw [a1]
          simp only
          have hback : ∀ {S : Sto} {v : VEnv} {T : List Ent} {G : Gs}, StG B old S env2 v T G → StG B old S env (wipeV v own) T (wipeG G own) := fun s => s.wipe (by rw [a3, wipe_envl]) fun i hi => by
            have hit : i ∉ tg.nms := fun q => hi (by
              have := List.all_eq_true.mp htg i q
              simpa using this)
            rw [a4 i hit, wipe_env hi]
          have ih := evc_sim Hc Hi cond env2 T1 v2 S G2 a2
          cases h2 : vevc cpV ciV io cond v2 with
          | bad => trivial
          | exc c v3 => trivial
          | ok b v3 =>
            rw [h2] at ih
            obtain ⟨b', S3, xs3, G3, e3, ⟨rfl, rfl⟩, s3, _⟩ := ih
            rw [e3]
            cases b' with
            | false => exact ⟨S3, _, rfl, hback s3, hQ _⟩
            | true =>
              simp only [vb, brV]
              have ih2 := ev_sim Hc Hi elt env2 T1 v3 S3 G3 s3
              cases h4 : vev cpV ciV io elt v3 with
              | bad => trivial
              | exc c v4 => trivial
              | ok o v4 =>
                rw [h4] at ih2
                obtain ⟨d4, S4, xs4, G4, e4, h5, s4, _⟩ := ih2
                rw [e4]
                simp only [escv]
                cases h6 : o.esc v4 with
                | none => trivial
                | some q =>
                  obtain ⟨⟨p5, k5⟩, v5⟩ := q
                  obtain ⟨as, G5, s5, _⟩ := esc_ok h5 s4 h6
                  obtain ⟨d6, S6, as6, e6, i6, t6, _⟩ := s5.inv.own
                  have e6 : Z.own old d4 S4 = .ok d6 S6 := e6
                  refine ⟨d6, S6, wipeG G5 own, as6, ?_, hback ⟨s5.eq, s5.sl, i6⟩, t6, hQ _⟩
                  simp only [e6]
      have key := vcl_ok hi f1 turn vi.xs.length 0 (Nat.zero_add _) (ys ++ T) S1 _ _ memL f4 (hQ _)
      rw [List.drop_zero] at key
      cases hr : vcl (compV own tg vi.c (fun v => vevc cpV ciV io cond v) (fun v => vev cpV ciV io elt v)) vi.xs (wipeV (wipeV v1 (tops vi.os)) own) with
      | bad => trivial
      | exc c v3 => trivial
      | ok zs v3 =>
        rw [hr] at key
        obtain ⟨ds, S', G3, R, e1, s3, rfl, rfl, ht⟩ := key
        have s4 : StG B old S' env v3 (ys ++ (R ++ T)) G3 := s3.permT (by
          rw [← List.append_assoc, ← List.append_assoc]; exact List.perm_append_comm.append_right _)
        obtain ⟨G4, s5⟩ := f3 S' v3 _ G3 s4
        obtain ⟨as, s6⟩ := mkL (fr := frE elt) s5 ht
        have hp : (R.map fun e => (e.p, e.k)).map (·.1) = R.map Ent.p := by rw [List.map_map]; rfl
        rw [← hp] at s6
        refine ⟨.tmp (R.map Ent.d), S', [_], G4, ?_, ⟨as, rfl⟩, s6, trivial⟩
        exact Eq.trans (congrArg (fun r : Z.R (List D) => (match r with | Z.R.ok ys S2 => Z.R.ok (D.tmp ys) S2 | _ => Z.R.bad : Z.R D)) e1) rfl
    · rw [if_neg hc]; trivial
theorem evo_sim (Hc : CpOk cp cpV) (Hi : CiOk ci ciV io) : ∀ (e : Eo) (env : Env) (T : List Ent) (v : VEnv) (S : Sto) (G : Gs), StG B old S env v T G → ROk (fun a b xs _ => a = b ∧ xs = []) B old env T G (evo cp ci old e env S) (vevo cpV ciV io e v)
  | .no, env, T, v, S, G, s => by
    rw [vevo, evo]
    exact ⟨none, S, [], G, rfl, ⟨rfl, rfl⟩, s, trivial⟩
  | .of e, env, T, v, S, G, s => by
    rw [vevo, evo]
    refine (ev_sim Hc Hi e env T v S G s).bind fun d1 x xs v1 S1 G1 h1 s1 => ?_
    refine ROk.rdv h1 memL s1 fun p c v2 G2 _ s2 _ y2 => ?_
    cases p <;> try trivial
    rw [vInt y2]; exact ⟨_, S1, [], G2, rfl, ⟨rfl, rfl⟩, s2.drop, trivial⟩
theorem evc_sim (Hc : CpOk cp cpV) (Hi : CiOk ci ciV io) : ∀ (e : Eo) (env : Env) (T : List Ent) (v : VEnv) (S : Sto) (G : Gs), StG B old S env v T G → ROk (fun a b xs _ => a = b ∧ xs = []) B old env T G (evc cp ci old e env S) (vevc cpV ciV io e v)
  | .no, env, T, v, S, G, s => by
    rw [vevc, evc]
    exact ⟨true, S, [], G, rfl, ⟨rfl, rfl⟩, s, trivial⟩
  | .of e, env, T, v, S, G, s => by
    rw [vevc, evc]
    refine (ev_sim Hc Hi e env T v S G s).bind fun d1 x xs v1 S1 G1 h1 s1 => ?_
    refine ROk.rdv h1 memL s1 fun p c v2 G2 _ s2 _ y2 => ?_
    refine ROk.optR fun r hr => ?_
    rw [tru_ok y2 hr]
    exact ⟨_, S1, [], G2, rfl, ⟨rfl, rfl⟩, s2.drop, trivial⟩
theorem evs_sim (Hc : CpOk cp cpV) (Hi : CiOk ci ciV io) : ∀ (es : Es) (env : Env) (T : List Ent) (v : VEnv) (S : Sto) (G : Gs), StG B old S env v T G → ROk y_relS B old env T G (evs cp ci old es env S) (vevs cpV ciV io es v)
  | .nil, env, T, v, S, G, s => by
    rw [vevs, evs]
    exact ⟨[], S, [], G, rfl, ⟨rfl, rfl, fun e he => (by cases he)⟩, s, trivial⟩
  | .cons e es, env, T, v, S, G, s => by
    rw [vevs, evs]
    refine (ev_sim Hc Hi e env T v S G s).bind fun d1 x xs v1 S1 G1 h1 s1 => ?_
    refine ROk.escv h1 s1 fun p k v2 d2 S2 as G2 s2 ht => ?_
    refine ROk.bindF (List.sublist_cons_self _ _) (evs_sim Hc Hi es env _ v2 S2 G2 s2) fun ds ps R v3 S3 G3 h3 s3 => ?_
    obtain ⟨rfl, rfl, h4⟩ := h3
    refine ⟨d2 :: R.map Ent.d, S3, ⟨d2, p, k, as⟩ :: R, G3, rfl, ⟨rfl, rfl, fun e he => ?_⟩, s3.permT List.perm_middle, trivial⟩
    rcases List.mem_cons.mp he with q | q
    · rw [q]; exact ht
    · exact h4 e q
theorem evr_sim (Hc : CpOk cp cpV) (Hi : CiOk ci ciV io) : ∀ (es : Es) (env : Env) (T : List Ent) (v : VEnv) (S : Sto) (G : Gs), StG B old S env v T G → ROk (fun ds os xs _ => HoldR env os ds xs) B old env T G (evr cp ci old es env S) (vevR cpV ciV io es v)
  | .nil, env, T, v, S, G, s => by
    rw [vevR, evr]
    exact ⟨[], S, [], G, rfl, ⟨rfl, rfl⟩, s, trivial⟩
  | .cons e es, env, T, v, S, G, s => by
    rw [vevR, evr]
    refine (ev_sim Hc Hi e env T v S G s).bind fun d1 x xs v1 S1 G1 h1 s1 => ?_
    refine ROk.bindF subR (evr_sim Hc Hi es env _ v1 S1 G1 s1) fun ds os ys v3 S3 G3 h3 s3 => ?_
    refine ⟨d1 :: ds, S3, xs ++ ys, G3, rfl, ⟨d1, ds, xs, ys, rfl, rfl, h1, h3⟩, s3.permT ?_, trivial⟩
    rw [← List.append_assoc]; exact List.perm_append_comm.append_right _
theorem evA_sim (Hc : CpOk cp cpV) (Hi : CiOk ci ciV io) : ∀ (es : Es) (env : Env) (T : List Ent) (v : VEnv) (S : Sto) (G : Gs), StG B old S env v T G → ROk (fun ds os xs _ => HoldA env os ds xs) B old env T G (evs cp ci old es env S) (vevA cpV ciV io es v)
  | .nil, env, T, v, S, G, s => by
    rw [vevA, evs]
    exact ⟨[], S, [], G, rfl, ⟨rfl, rfl⟩, s, trivial⟩
  | .cons e es, env, T, v, S, G, s => by
    rw [vevA, evs]
    refine (ev_sim Hc Hi e env T v S G s).bind fun d1 x xs v1 S1 G1 h1 s1 => ?_
    obtain ⟨d2, S2, xs2, e1, h2, s2, ht⟩ := own_hold h1 s1
    rw [e1, bnd_ok0]
    refine ROk.bindF subR (evA_sim Hc Hi es env _ v1 S2 G1 s2) fun ds os ys v3 S3 G3 h3 s3 => ?_
    refine ⟨d2 :: ds, S3, xs2 ++ ys, G3, rfl, ⟨d2, ds, xs2, ys, rfl, rfl, h2, ht, h3⟩, s3.permT ?_, trivial⟩
    rw [← List.append_assoc]; exact List.perm_append_comm.append_right _
theorem evI_sim (Hc : CpOk cp cpV) (Hi : CiOk ci ciV io) (ios : List Nat) : ∀ (n : Nat) (es : Es) (env : Env) (T : List Ent) (v : VEnv) (S : Sto) (G : Gs), StG B old S env v T G → ROk (fun ds as xs _ => HoldI env ios n as ds xs) B old env T G (evs cp ci old es env S) (vevI cpV ciV io ios n es v)
  | n, .nil, env, T, v, S, G, s => by
    rw [vevI, evs]
    exact ⟨[], S, [], G, rfl, ⟨rfl, rfl⟩, s, trivial⟩
  | n, .cons e es, env, T, v, S, G, s => by
    rw [vevI, evs]
    refine (ev_sim Hc Hi e env T v S G s).bind fun d1 x xs v1 S1 G1 h1 s1 => ?_
    by_cases hio : ios.contains n = true
    · rw [if_pos hio]
      obtain ⟨d2, S2, xs2, e1, h2, s2, ht⟩ := own_hold h1 s1
      rw [e1, bnd_ok0]
      cases x with
      | top i =>
        obtain ⟨rfl, h3, _⟩ := h2
        refine ROk.bindF (List.Sublist.refl _) (evI_sim Hc Hi ios (n + 1) es env T v1 S2 G1 s2) fun ds os ys v3 S3 G3 h4 s3 => ?_
        exact ⟨d2 :: ds, S3, ys, G3, rfl, ⟨d2, ds, rfl, h3, hio, h4⟩, s3, trivial⟩
      | v p k =>
        obtain ⟨as, rfl⟩ := h2
        obtain ⟨t, c⟩ := k
        have other : ROk (fun ds as xs _ => HoldI env ios n as ds xs) B old env T G1 (bnd (evs cp ci old es env S2) fun ds S3 => .ok (d2 :: ds) S3) (vb (vevI cpV ciV io ios (n + 1) es v1) fun os v3 => .ok (.v p ⟨.sh, pur p⟩ :: os) v3) := by
          have hsh : StG B old S2 env v1 (⟨d2, p, ⟨.sh, pur p⟩, []⟩ :: T) G1 := ⟨s2.eq, s2.sl, Inv.shareP (e := ⟨d2, p, ⟨t, c⟩, as⟩) s2.inv⟩
          refine ROk.bindF (List.sublist_cons_self _ _) (evI_sim Hc Hi ios (n + 1) es env _ v1 S2 G1 hsh) fun ds os ys v3 S3 G3 h4 s3 => ?_
          exact ⟨d2 :: ds, S3, _ :: ys, G3, rfl, ⟨d2, ds, [], ys, rfl, rfl, ht, h4⟩, s3.permT List.perm_middle, trivial⟩
        cases t with
        | ex =>
          refine ROk.bindF subR (evI_sim Hc Hi ios (n + 1) es env _ v1 S2 G1 s2) fun ds os ys v3 S3 G3 h4 s3 => ?_
          exact ⟨d2 :: ds, S3, _ :: ys, G3, rfl, ⟨d2, ds, as, ys, rfl, rfl, ht, h4⟩, s3.permT List.perm_middle, trivial⟩
        | sh => exact other
        | tb => exact other
        | lk => exact other
    · rw [if_neg hio]
      refine ROk.escv h1 s1 fun p k v2 d2 S2 as G2 s2 ht => ?_
      have hsh : StG B old S2 env v2 (⟨d2, p, ⟨.sh, pur p⟩, []⟩ :: T) G2 := ⟨s2.eq, s2.sl, Inv.shareP (e := ⟨d2, p, k, as⟩) s2.inv⟩
      refine ROk.bindF (List.sublist_cons_self _ _) (evI_sim Hc Hi ios (n + 1) es env _ v2 S2 G2 hsh) fun ds os ys v3 S3 G3 h4 s3 => ?_
      exact ⟨d2 :: ds, S3, _ :: ys, G3, rfl, ⟨d2, ds, [], ys, rfl, rfl, ht, h4⟩, s3.permT List.perm_middle, trivial⟩
theorem evi_sim (Hc : CpOk cp cpV) (Hi : CiOk ci ciV io) : ∀ (it : I) (env : Env) (T : List Ent) (v : VEnv) (S : Sto) (G : Gs), StG B old S env v T G → ROk (y_relI env) B old env T G (evi cp ci old it env S) (vevi cpV ciV io it v)
  | .seq e, env, T, v, S, G, s => by
    rw [vevi, evi]
    refine (ev_sim Hc Hi e env T v S G s).bind fun d1 x xs v1 S1 G1 h1 s1 => ?_
    refine ROk.rdv h1 memL s1 fun p c v2 G2 hr s2 _ y2 => ?_
    refine ROk.optR fun ys hq => ?_
    obtain ⟨zs, h3, h4⟩ := vSeq y2 hq
    rw [h4]
    obtain ⟨k, g1, g2, g3⟩ := rd_get hr
    exact ⟨_, S1, xs, G2, rfl, ⟨[p], hq, ⟨d1, [], xs, [], rfl, by simp, h1, rfl, rfl⟩, p, [], k, rfl, g1, g2, fun h => by rw [g3]; exact h, rfl⟩, s2, trivial⟩
  | .rng1 a, env, T, v, S, G, s => by
    rw [vevi, evi]
    refine (ev_sim Hc Hi a env T v S G s).bind fun d1 x xs v1 S1 G1 h1 s1 => ?_
    refine ROk.rdv h1 memL s1 fun p c v2 G2 hr s2 _ y2 => ?_
    cases p <;> try trivial
    rename_i j
    rw [vInt y2]
    by_cases hj : (decide (-4611686018427387904 ≤ j) && decide (j < 4611686018427387904)) = true
    · simp only
      rw [if_pos hj, if_pos hj]
      exact ⟨_, S1, [], G2, rfl, ⟨[], by simp [itemsOf], ⟨rfl, rfl⟩, rfl⟩, s2.drop, trivial⟩
    · simp only
      rw [if_neg hj, if_neg hj]; trivial
  | .rng2 a b, env, T, v, S, G, s => by
    rw [vevi, evi]
    refine (ev_sim Hc Hi a env T v S G s).bind fun d1 x xs v1 S1 G1 h1 s1 => ?_
    refine ROk.bindF subR (ev_sim Hc Hi b env _ v1 S1 G1 s1) fun d2 y ys v2 S2 G2 h2 s2 => ?_
    refine rd2 h1 h2 s2 fun p _ q _ v4 G4 s4 y3 y4 => ?_
    cases p <;> try trivial
    cases q <;> try trivial
    rename_i i j
    rw [vInt y3, vInt y4]
    by_cases hj : (decide (-4611686018427387904 ≤ i) && decide (i < 4611686018427387904) && decide (-4611686018427387904 ≤ j) && decide (j < 4611686018427387904)) = true
    · simp only
      rw [if_pos hj, if_pos hj]
      exact ⟨_, S2, [], G4, rfl, ⟨[], by simp [itemsOf], ⟨rfl, rfl⟩, rfl⟩, s4.subT subR2, trivial⟩
    · simp only
      rw [if_neg hj, if_neg hj]; trivial
  | .rng3 a b c, env, T, v, S, G, s => by
    rw [vevi, evi]
    refine (ev_sim Hc Hi a env T v S G s).bind fun d1 x xs v1 S1 G1 h1 s1 => ?_
    refine ROk.bindF subR (ev_sim Hc Hi b env _ v1 S1 G1 s1) fun d2 y ys v2 S2 G2 h2 s2 => ?_
    refine ROk.bindF subR2 (ev_sim Hc Hi c env _ v2 S2 G2 s2) fun d3 z zs v3 S3 G3 h3 s3 => ?_
    refine ROk.rdv h1 memL3 s3 fun p c1 v4 G4 w1 s4 w2 y4 => ?_
    refine ROk.rdv h2 memL2 s4 fun q c2 v5 G5 w3 s5 w4 y5 => ?_
    refine ROk.rdv h3 memL s5 fun r c3 v6 G6 w5 s6 w6 y6 => ?_
    cases p <;> try trivial
    cases q <;> try trivial
    cases r <;> try trivial
    rename_i i j k
    rw [vInt y4, vInt y5, vInt y6]
    by_cases hj : (decide (k = -1) && decide (-1000000 ≤ i) && decide (i ≤ 1000000) && decide (-1000000 ≤ j) && decide (j ≤ 1000000)) = true
    · simp only
      rw [if_pos hj, if_pos hj]
      exact ⟨_, S3, [], G6, rfl, ⟨[], by simp [itemsOf], ⟨rfl, rfl⟩, rfl⟩, s6.subT subR3, trivial⟩
    · simp only
      rw [if_neg hj, if_neg hj]; trivial
  | .enu e, env, T, v, S, G, s => by
    rw [vevi, evi]
    refine (ev_sim Hc Hi e env T v S G s).bind fun d1 x xs v1 S1 G1 h1 s1 => ?_
    refine ROk.rdv h1 memL s1 fun p c v2 G2 hr s2 _ y2 => ?_
    refine ROk.optR fun ys hq => ?_
    obtain ⟨zs, h3, h4⟩ := vSeq y2 hq
    rw [h4]
    obtain ⟨k, g1, g2, g3⟩ := rd_get hr
    exact ⟨_, S1, xs, G2, rfl, ⟨[p], by simp only [itemsOf, hq, Option.map_some], ⟨d1, [], xs, [], rfl, by simp, h1, rfl, rfl⟩, p, [], k, rfl, g1, g2, fun h => by rw [g3]; exact h, rfl⟩, s2, trivial⟩
  | .zip a b, env, T, v, S, G, s => by
    rw [vevi, evi]
    refine (ev_sim Hc Hi a env T v S G s).bind fun d1 x xs v1 S1 G1 h1 s1 => ?_
    refine ROk.bindF subR (ev_sim Hc Hi b env _ v1 S1 G1 s1) fun d2 y ys v2 S2 G2 h2 s2 => ?_
    refine ROk.rdv h1 memL2 s2 fun p c v3 G3 hr3 s3 _ y3 => ?_
    refine ROk.rdv h2 memL s3 fun q e v4 G4 hr4 s4 x4 y4 => ?_
    obtain ⟨k, g1, g2, g3⟩ := rd_get hr3
    obtain ⟨k2, g4, g5, g6⟩ := rd_get hr4
    have g7 := rd_keep hr4 g1 g2
    have y3' := y3.mono (Al.sub x4)
    have hp : ∀ (ws : List PyData), itemsOf (.zip d1 d2) [p, q] = some ws → ROk (y_relI env) B old env T G4 (.ok (.zip d1 d2) S2) (.ok ⟨ws, c && e, [x, y]⟩ v4) := by
      intro ws hw
      refine ⟨_, S2, xs ++ ys, G4, rfl, ⟨[p, q], hw, ⟨d1, [d2], xs, ys, rfl, rfl, h1, d2, [], ys, [], rfl, by simp, h2, rfl, rfl⟩, p, [q], k, rfl, g7, g2, ?_, q, [], k2, rfl, g4, g5, ?_, rfl⟩, s4.permT ?_, trivial⟩
      · intro h; rw [Bool.and_eq_true] at h; rw [g3]; exact h.1
      · intro h; rw [Bool.and_eq_true] at h; rw [g6]; exact h.2
      · rw [← List.append_assoc]; exact List.perm_append_comm.append_right _
    refine ROk.optR fun us hu => ?_
    refine ROk.optR fun ws hw => ?_
    obtain ⟨zs, _, w1⟩ := vSeq y3' hu
    obtain ⟨zs2, _, w3⟩ := vSeq y4 hw
    rw [w1, w3]
    exact hp _ (by simp only [itemsOf, hu, hw])
end
end
end
end Z
/-! Y8: statements. -/
namespace Z
open PySem
section
variable {B : Nat → Prop} {old S : Sto} {env env0 : Env} {v : VEnv} {T A : List Ent} {G G0 : Gs} {e e2 : Ent} {p : PyData} {k : K} {i : Nat} {d : D} {ps : List PyData} {R : List Nat}
structure Hn (B : Nat → Prop) (old : Sto) (T : List Ent) (R : List Nat) (env0 env : Env) (S : Sto) (v : VEnv) (G : Gs) : Prop where
  st : StG B old S env v T G
  len : env.length = env0.length
  kept : ∀ i, R.contains i = true → env[i]? = env0[i]?
def SOk (B : Nat → Prop) (old : Sto) (T : List Ent) (R : List Nat) (env0 : Env) (o : O) (w : VO) : Prop := match w with
  | .nx v => ∃ env S G, o = .nx env S ∧ Hn B old T R env0 env S v G
  | .bk v => ∃ env S G, o = .bk env S ∧ Hn B old T R env0 env S v G
  | .ct v => ∃ env S G, o = .ct env S ∧ Hn B old T R env0 env S v G
  | .exc c v => ∃ env S G, o = .exc c env S ∧ Hn B old T R env0 env S v G
  | .rt p k v => ∃ d as env S G, o = .rt d S ∧ Hn B old (⟨d, p, k, as⟩ :: T) R env0 env S v G
  | .bad => True
theorem Hn.refl (s : StG B old S env v T G) : Hn B old T R env env S v G := ⟨s, rfl, fun _ _ => rfl⟩
theorem Hn.trans {env1 env2 : Env} {S2 : Sto} {v2 : VEnv} {T2 : List Ent} {G2 : Gs} (h0 : env1.length = env0.length) (h1 : ∀ i, R.contains i = true → env1[i]? = env0[i]?) (h : Hn B old T2 R env1 env2 S2 v2 G2) : Hn B old T2 R env0 env2 S2 v2 G2 := ⟨h.st, h.len.trans h0, fun i hi => (h.kept i hi).trans (h1 i hi)⟩
theorem SOk.from {env1 : Env} {o : O} {w : VO} (h0 : env1.length = env0.length) (h1 : ∀ i, R.contains i = true → env1[i]? = env0[i]?) (h : SOk B old T R env1 o w) : SOk B old T R env0 o w := by
  cases w with
  | nx v => obtain ⟨env, S, G, e, q⟩ := h; exact ⟨env, S, G, e, q.trans h0 h1⟩
  | bk v => obtain ⟨env, S, G, e, q⟩ := h; exact ⟨env, S, G, e, q.trans h0 h1⟩
  | ct v => obtain ⟨env, S, G, e, q⟩ := h; exact ⟨env, S, G, e, q.trans h0 h1⟩
  | exc c v => obtain ⟨env, S, G, e, q⟩ := h; exact ⟨env, S, G, e, q.trans h0 h1⟩
  | rt p k v => obtain ⟨d, as, env, S, G, e, q⟩ := h; exact ⟨d, as, env, S, G, e, q.trans h0 h1⟩
  | bad => trivial
theorem SOk.drop {o : O} {w : VO} (h : SOk B old (A ++ T) R env0 o w) : SOk B old T R env0 o w := by
  cases w with
  | nx v => obtain ⟨env, S, G, e, q⟩ := h; exact ⟨env, S, G, e, q.st.drop, q.len, q.kept⟩
  | bk v => obtain ⟨env, S, G, e, q⟩ := h; exact ⟨env, S, G, e, q.st.drop, q.len, q.kept⟩
  | ct v => obtain ⟨env, S, G, e, q⟩ := h; exact ⟨env, S, G, e, q.st.drop, q.len, q.kept⟩
  | exc c v => obtain ⟨env, S, G, e, q⟩ := h; exact ⟨env, S, G, e, q.st.drop, q.len, q.kept⟩
  | rt p k v => obtain ⟨d, as, env, S, G, e, q⟩ := h; exact ⟨d, as, env, S, G, e, q.st.subT (List.Sublist.cons_cons _ (List.sublist_append_right _ _)), q.len, q.kept⟩
  | bad => trivial
/-- an expression first -/
theorem SOk.bind {α β : Type} {rel : α → β → List Ent → VEnv → Prop} {T' : List Ent} {r : Z.R α} {w : VR β} {f : α → Sto → O} {g : β → VEnv → VO} {Rs : List Nat} (hs : T.Sublist T') (h : ROk rel B old env T' G r w)
    (hf : ∀ a b xs v S G, rel a b xs v → StG B old S env v (xs ++ T') G → SOk B old T Rs env (f a S) (g b v)) : SOk B old T Rs env (bndO r env f) (vbO w g) := by
  cases w with
  | ok b v =>
    obtain ⟨a, S, xs, G, rfl, h1, h2, h3⟩ := h
    exact hf a b xs v S G h1 h2
  | exc c v =>
    obtain ⟨S, G, rfl, h2⟩ := h
    exact ⟨env, S, G, rfl, Hn.refl (h2.subT hs)⟩
  | bad => trivial
theorem SOk.opt {α : Type} {x : Option α} {f : α → VO} {o : O} (hf : ∀ z, x = some z → SOk B old T R env0 o (f z)) : SOk B old T R env0 o (optO x f) := by
  unfold optO
  cases h : x with
  | none => trivial
  | some z => exact hf z h
def scpG : VEnv → Gs → Gs
  | none :: v0, _ :: G => none :: scpG v0 G
  | some _ :: v0, e :: G => e :: scpG v0 G
  | _, _ => []
theorem scp_v : ∀ (v0 : VEnv) (G : Gs), scp v0 (vOf G) = vOf (scpG v0 G)
  | [], G => by cases G <;> rfl
  | none :: v0, [] => rfl
  | some _ :: v0, [] => rfl
  | none :: v0, e :: G => by show none :: scp v0 (vOf G) = none :: vOf (scpG v0 G); rw [scp_v]
  | some _ :: v0, e :: G => by show _ :: scp v0 (vOf G) = _ :: vOf (scpG v0 G); rw [scp_v]
theorem scp_live : ∀ (v0 : VEnv) (G : Gs), (live (scpG v0 G)).Sublist (live G)
  | [], G => by cases G <;> exact List.nil_sublist _
  | none :: v0, [] => List.nil_sublist _
  | some _ :: v0, [] => List.nil_sublist _
  | none :: v0, e :: G => by
    have := scp_live v0 G
    cases e with
    | none => simpa [scpG, live] using this
    | some x => exact (show (live (scpG v0 G)).Sublist (x :: live G) from this.trans (List.sublist_cons_self _ _))
  | some _ :: v0, e :: G => by
    have := scp_live v0 G
    cases e with
    | none => exact this
    | some x => exact List.Sublist.cons_cons x this
theorem scp_len : ∀ (v0 : VEnv) (G : Gs), (scpG v0 G).length ≤ G.length
  | [], G => by cases G <;> exact Nat.zero_le _
  | none :: v0, [] => Nat.zero_le _
  | some _ :: v0, [] => Nat.zero_le _
  | none :: v0, e :: G => Nat.succ_le_succ (scp_len v0 G)
  | some _ :: v0, e :: G => Nat.succ_le_succ (scp_len v0 G)
theorem scp_get : ∀ (v0 : VEnv) (G : Gs) (i : Nat) (e : Ent), (scpG v0 G)[i]? = some (some e) → G[i]? = some (some e)
  | [], G, i, e, h => by cases G <;> simp [scpG] at h
  | none :: v0, [], i, e, h => by simp [scpG] at h
  | some _ :: v0, [], i, e, h => by simp [scpG] at h
  | none :: v0, x :: G, 0, e, h => by simp [scpG] at h
  | none :: v0, x :: G, i + 1, e, h => scp_get v0 G i e (by simpa [scpG] using h)
  | some _ :: v0, x :: G, 0, e, h => by simpa [scpG] using h
  | some _ :: v0, x :: G, i + 1, e, h => scp_get v0 G i e (by simpa [scpG] using h)
theorem StG.scp (s : StG B old S env v T G) (v0 : VEnv) : StG B old S env (scp v0 v) T (scpG v0 G) :=
  ⟨by rw [s.eq, scp_v], ⟨Nat.le_trans (scp_len v0 G) s.sl.le, fun i e h => s.sl.at_ i e (scp_get v0 G i e h)⟩, s.inv.sub ((List.Sublist.refl _).append (scp_live v0 G))⟩
theorem Hn.scp (h : Hn B old T R env0 env S v G) (v0 : VEnv) : Hn B old T R env0 env S (scp v0 v) (scpG v0 G) := ⟨h.st.scp v0, h.len, h.kept⟩
/-- a loop over things -/
theorem vfl_ok {j : It} {ps0 : List PyData} {c : Bool} {ysrc : List Ent} {xs : List PyData} {tg : Tg} {v0 : VEnv} {bodyS : Env → Sto → O} {bodyV : VEnv → VO} (hj : itemsOf j ps0 = some xs) (hf : HoldF c (srcs j) ps0 ysrc) (hm : ∀ e ∈ ysrc, e ∈ T) (hR : ∀ i, R.contains i = true → i ∉ tg.nms)
    (hb : ∀ env v S G, StG B old S env v T G → SOk B old T R env (bodyS env S) (bodyV v)) :
    ∀ (f n : Nat), n + f = xs.length → ∀ (env : Env) (S : Sto) (v : VEnv) (G : Gs), StG B old S env v T G → SOk B old T R env (floop old j tg bodyS f n env S) (vfl v0 (forV tg c bodyV) (xs.drop n) v)
  | 0, n, hn, env, S, v, G, s => by
    rw [List.drop_eq_nil_of_le (by omega)]
    obtain ⟨ds, g1, g2, _⟩ := src_ok hj (hf.vals hm s)
    refine ⟨env, S, G, ?_, Hn.refl s⟩
    simp only [floop, g1]
    rw [List.getElem?_eq_none (by rw [g2.len]; omega)]
  | f + 1, n, hn, env, S, v, G, s => by
    have hlt : n < xs.length := by omega
    rw [List.drop_eq_getElem_cons hlt]
    obtain ⟨ds, g1, g2, _⟩ := src_ok hj (hf.vals hm s)
    obtain ⟨d, g3, g4⟩ := g2.get (List.getElem?_eq_getElem hlt)
    simp only [vfl, forV]
    cases h1 : tgV c tg xs[n] v with
    | none => trivial
    | some v1 =>
      obtain ⟨env1, G1, a1, a2, a3, a4, _⟩ := tg_sim g4 s h1
      have hk : ∀ i, R.contains i = true → env1[i]? = env[i]? := fun i hi => a4 i (hR i hi)
      have h2 := hb env1 v1 S G1 a2
      show SOk B old T R env _ (match bodyV v1 with
        | .nx v1 => vfl v0 (forV tg c bodyV) (xs.drop (n + 1)) (scp v0 v1)
        | .ct v1 => vfl v0 (forV tg c bodyV) (xs.drop (n + 1)) (scp v0 v1)
        | .bk v1 => .nx (scp v0 v1)
        | o => o)
      have hfl : floop old j tg bodyS (f + 1) n env S = match bodyS env1 S with
          | .nx env2 S2 => floop old j tg bodyS f (n + 1) env2 S2
          | .ct env2 S2 => floop old j tg bodyS f (n + 1) env2 S2
          | .bk env2 S2 => .nx env2 S2
          | o => o := by simp only [floop, g1, g3, a1] <;> rfl
      rw [hfl]
      cases h3 : bodyV v1 with
      | bad => trivial
      | nx v2 =>
        rw [h3] at h2
        obtain ⟨env2, S2, G2, e2, q2⟩ := h2
        rw [e2]
        exact (vfl_ok hj hf hm hR hb f (n + 1) (by omega) env2 S2 _ _ (q2.scp v0).st).from (q2.len.trans a3) fun i hi => (q2.kept i hi).trans (hk i hi)
      | ct v2 =>
        rw [h3] at h2
        obtain ⟨env2, S2, G2, e2, q2⟩ := h2
        rw [e2]
        exact (vfl_ok hj hf hm hR hb f (n + 1) (by omega) env2 S2 _ _ (q2.scp v0).st).from (q2.len.trans a3) fun i hi => (q2.kept i hi).trans (hk i hi)
      | bk v2 =>
        rw [h3] at h2
        obtain ⟨env2, S2, G2, e2, q2⟩ := h2
        rw [e2]
        exact ⟨env2, S2, _, rfl, (q2.scp v0).trans a3 hk⟩
      | exc c v2 =>
        rw [h3] at h2
        obtain ⟨env2, S2, G2, e2, q2⟩ := h2
        rw [e2]
        exact ⟨env2, S2, _, rfl, q2.trans a3 hk⟩
      | rt p k v2 =>
        rw [h3] at h2
        obtain ⟨d, as, env2, S2, G2, e2, q2⟩ := h2
        rw [e2]
        exact ⟨d, as, env2, S2, _, rfl, q2.trans a3 hk⟩
/-- a loop as long as something holds -/
theorem vwl_ok {v0 : VEnv} {testS : Env → Sto → Z.R Bool} {bodyS : Env → Sto → O} {testV : VEnv → VR Bool} {bodyV : VEnv → VO} (ht : ∀ env v S G, StG B old S env v T G → ROk (fun a b xs _ => a = b ∧ xs = []) B old env T G (testS env S) (testV v))
    (hb : ∀ env v S G, StG B old S env v T G → SOk B old T R env (bodyS env S) (bodyV v)) :
    ∀ (f : Nat) (env : Env) (S : Sto) (v : VEnv) (G : Gs), StG B old S env v T G → SOk B old T R env (wloop testS bodyS f env S) (vwl v0 testV bodyV f v)
  | 0, env, S, v, G, s => trivial
  | f + 1, env, S, v, G, s => by
    have h1 := ht env v S G s
    simp only [vwl, wloop]
    cases h2 : testV v with
    | bad => trivial
    | exc c v1 =>
      rw [h2] at h1
      obtain ⟨S1, G1, e1, s1⟩ := h1
      rw [e1]
      exact ⟨env, S1, G1, rfl, Hn.refl s1⟩
    | ok b v1 =>
      rw [h2] at h1
      obtain ⟨b', S1, xs, G1, e1, ⟨rfl, rfl⟩, s1, _⟩ := h1
      rw [e1]
      cases b' with
      | false => exact ⟨env, S1, G1, rfl, Hn.refl s1⟩
      | true =>
        have h3 := hb env v1 S1 G1 s1
        simp only
        cases h4 : bodyV v1 with
        | bad => trivial
        | nx v2 =>
          rw [h4] at h3
          obtain ⟨env2, S2, G2, e2, q2⟩ := h3
          rw [e2]
          exact (vwl_ok ht hb f env2 S2 _ _ (q2.scp v0).st).from q2.len q2.kept
        | ct v2 =>
          rw [h4] at h3
          obtain ⟨env2, S2, G2, e2, q2⟩ := h3
          rw [e2]
          exact (vwl_ok ht hb f env2 S2 _ _ (q2.scp v0).st).from q2.len q2.kept
        | bk v2 =>
          rw [h4] at h3
          obtain ⟨env2, S2, G2, e2, q2⟩ := h3
          rw [e2]
          exact ⟨env2, S2, _, rfl, q2.scp v0⟩
        | exc c v2 =>
          rw [h4] at h3
          obtain ⟨env2, S2, G2, e2, q2⟩ := h3
          rw [e2]
          exact ⟨env2, S2, _, rfl, q2⟩
        | rt p k v2 =>
          rw [h4] at h3
          obtain ⟨d, as, env2, S2, G2, e2, q2⟩ := h3
          rw [e2]
          exact ⟨d, as, env2, S2, _, rfl, q2⟩
/-- what is walked is shared, and held in the frame -/
theorem esc_get {o o2 : Vo} {v' : VEnv} {r : PyData × K} {q : PyData} (h : o.esc v = some (r, v')) (h2 : getV v o2 = some (q, k)) (hk : k.t ≠ .tb) : ∃ k2, getV v' o2 = some (q, k2) ∧ k2.t ≠ .tb ∧ k2.c = k.c := by
  cases o with
  | v p k3 => cases h; exact ⟨k, h2, hk, rfl⟩
  | top i =>
    simp only [Vo.esc] at h
    cases he : ent v i with
    | none => rw [he] at h; cases h
    | some w =>
      rw [he] at h
      obtain ⟨p, ⟨t, c⟩⟩ := w
      have key : ∀ c', v' = v.set i (some (p, ⟨.sh, c'⟩)) → c' = c → ∃ k2, getV v' o2 = some (q, k2) ∧ k2.t ≠ .tb ∧ k2.c = k.c := by
        intro c' hv hc
        subst hv hc
        cases o2 with
        | v _ _ => exact ⟨k, h2, hk, rfl⟩
        | top j =>
          by_cases hij : i = j
          · subst hij
            have h2 : ent v i = some (q, k) := h2
            rw [he] at h2
            cases h2
            refine ⟨⟨.sh, c'⟩, ?_, fun z => (by cases z), rfl⟩
            show ent _ i = _
            rw [ent_set, if_pos rfl, if_pos (ent_lt he)]
          · refine ⟨k, ?_, hk, rfl⟩
            show ent _ j = _
            rw [ent_set, if_neg hij]; exact h2
      cases t <;> cases h
      · exact key _ rfl rfl
      · exact key _ rfl rfl
      · exact key _ rfl rfl
theorem esc_kind {o : Vo} {v' : VEnv} {q : PyData} {k2 : K} (h : o.esc v = some ((p, k), v')) (h2 : getV v o = some (q, k2)) (hk : k2.t ≠ .tb) : p = q ∧ k.t ≠ .tb ∧ k.c = k2.c := by
  cases o with
  | v p2 k3 => cases h; cases h2; exact ⟨rfl, hk, rfl⟩
  | top i =>
    have h2 : ent v i = some (q, k2) := h2
    simp only [Vo.esc, h2] at h
    obtain ⟨t, c⟩ := k2
    cases t <;> cases h <;> exact ⟨rfl, fun z => (by cases z), rfl⟩
theorem escL_ok {c : Bool} : ∀ {os : List Vo} {ds : List D} {ps : List PyData} {xs T : List Ent} {v v2 : VEnv} {G : Gs}, HoldR env os ds xs → PsOk v c os ps → StG B old S env v (xs ++ T) G → escL os v = some v2 → ∃ ys G2, HoldF c ds ps ys ∧ StG B old S env v2 (ys ++ T) G2
  | [], ds, ps, xs, T, v, v2, G, hh, hp, s, h => by
    obtain ⟨rfl, rfl⟩ := hh
    cases h
    exact ⟨[], G, ⟨hp, rfl⟩, s⟩
  | o :: os, ds, ps, xs, T, v, v2, G, hh, hp, s, h => by
    obtain ⟨d, ds', x1, x2, rfl, rfl, h1, h2⟩ := hh
    obtain ⟨p, ps', k, rfl, hg, hk, hc, hp2⟩ := hp
    simp only [escL] at h
    cases he : o.esc v with
    | none => rw [he] at h; cases h
    | some w =>
      obtain ⟨⟨p1, k1⟩, v1⟩ := w
      rw [he] at h
      rw [List.append_assoc] at s
      obtain ⟨as, G1, s1, _⟩ := esc_ok h1 s he
      obtain ⟨rfl, e2, e3⟩ := esc_kind he hg hk
      have hp3 : ∀ {os : List Vo} {ps : List PyData}, PsOk v c os ps → PsOk v1 c os ps := by
        intro os
        induction os with
        | nil => exact fun h => h
        | cons o2 os ih =>
          intro ps hp
          obtain ⟨q, qs, k2, e4, e5, e6, e7, e8⟩ := hp
          obtain ⟨k3, w1, w2, w3⟩ := esc_get he e5 e6
          exact ⟨q, qs, k3, e4, w1, w2, fun z => by rw [w3]; exact e7 z, ih e8⟩
      have s2 : StG B old S env v1 (x2 ++ (⟨d, p1, k1, as⟩ :: T)) G1 := s1.permT (List.perm_middle.symm)
      obtain ⟨ys, G2, f1, f2⟩ := escL_ok h2 (hp3 hp2) s2 h
      exact ⟨⟨d, p1, k1, as⟩ :: ys, G2, ⟨p1, ps', k1, as, ys, rfl, rfl, e2, fun z => by rw [e3]; exact hc z, f1⟩, f2.permT List.perm_middle⟩
/-- a thing is named -/
theorem put_ent {as : List Nat} (s : StG B old S env v T G) (hi : Inv B old S (⟨d, p, k, as⟩ :: (T ++ live G))) (ht : ∀ zs, d ≠ .tmp zs) : ∃ G1, StG B old S (env.set i (some d)) (v.set i (some (p, k))) T G1 := by
  by_cases hl : i < G.length
  · have hi2 : Inv B old S (⟨d, p, k, as⟩ :: (T ++ live (G.set i none))) := hi.sub (List.Sublist.cons_cons _ ((List.Sublist.refl _).append live_kill))
    exact ⟨G.set i (some ⟨d, p, k, as⟩), by rw [s.eq, vOf_set]; rfl, s.sl.put (e := ⟨d, p, k, as⟩) ht, unfocus hl hi2⟩
  · refine ⟨G, by rw [s.eq]; exact List.set_eq_of_length_le (by simp only [vOf, List.length_map]; omega), ⟨by rw [List.length_set]; exact s.sl.le, fun j e hj => ?_⟩, s.inv⟩
    have := lt_of_get hj
    rw [List.getElem?_set_ne (by omega)]
    exact s.sl.at_ j e hj
theorem setK_inv {M : List Nat} {F : List Ent} {as : List Nat} (h : Inv B old S (⟨d, p, k, as⟩ :: F)) : ∃ as, Inv B old S (⟨d, p, setK M i p k, as⟩ :: F) := by
  unfold setK
  by_cases hm : M.contains i = true
  · rw [if_pos hm]; exact ⟨as, h.nK⟩
  · rw [if_neg hm]; exact ⟨[], h.nK.share (c2 := (nK p k).c) (.inr id)⟩
/-- a told thing, its name given up -/
theorem mvR_ok {o : Vo} {xs : List Ent} {v' : VEnv} (ho : Hold env o d xs) (s : StG B old S env v (xs ++ T) G) (h : mvR R o v = some ((p, k), v')) : ∃ as G', StG B old S env v' (⟨d, p, k, as⟩ :: T) G' := by
  cases o with
  | v q k2 =>
    obtain ⟨as, rfl⟩ := ho
    cases h
    exact ⟨as, G, s⟩
  | top i =>
    have esc : (Vo.top i).esc v = some ((p, k), v') → ∃ as G', StG B old S env v' (⟨d, p, k, as⟩ :: T) G' := fun h => by
      obtain ⟨as, G', s', _⟩ := esc_ok ho s h
      exact ⟨as, G', s'⟩
    simp only [mvR] at h
    split at h
    · rename_i q c he
      split at h
      · exact esc h
      · cases h
        obtain ⟨rfl, hd, _⟩ := ho
        rw [s.eq] at he
        obtain ⟨e, hg, rfl, hk⟩ := ent_vOf.mp he
        have hde : e.d = d := by
          have := (s.sl.at_ i e hg).1
          rw [hd] at this; cases this; rfl
        have hf := focus hg (T := T) s.inv
        refine ⟨e.as, G.set i none, by rw [s.eq, vOf_set]; rfl, s.sl.kill0, ?_⟩
        obtain ⟨ed, ep, ek, eas⟩ := e
        cases hk
        cases hde
        exact hf
    · exact esc h
theorem idxV_at {a : Nat} {zs : List D} {n : Int} {m : Nat} {y : D} (h : at_ old S a = some (.lst zs)) (hn : ixN zs.length n = some m) (hy : zs[m]? = some y) : idxV old (.lst a) (.int n) S = .ok y S := by
  have hq : seqOf old S (.lst a) = some zs := by simp only [seqOf, h, Option.map_some, cx_l]
  simp only [idxV, hq, hn, hy]
theorem putV_at {a : Nat} {zs : List D} {n : Int} {m : Nat} {y : D} (h : NewL old S a zs) (hn : ixN zs.length n = some m) : putV old (.lst a) (.int n) y S = some (wr old S a (zs.set m y)) := by
  have hna : ¬ a < old.length := by have := h.1; omega
  simp only [putV]
  rw [if_neg hna, h.2]
  simp only [hn]
theorem Rows.at_ : ∀ {ps : List PyData} {zs : List D} {bs : List Nat} {m : Nat} {p : PyData}, Rows old S ps zs bs → ps[m]? = some p → ∃ qs ws b, p = .list qs ∧ purs qs = true ∧ NewL old S b ws ∧ (∀ P o2 S2, Vals P o2 S2 qs ws) ∧ zs[m]? = some (.lst b) ∧ bs[m]? = some b
  | [], _, _, m, p, h, hm => by simp at hm
  | p :: ps, _, _, 0, q, ⟨qs, ys, b, xs', bs', h1, h2, h3, h4, h5, h6, h7⟩, hm => by
    simp at hm; subst hm
    exact ⟨qs, ys, b, h1, h2, h3, h4, by rw [h5]; rfl, by rw [h6]; rfl⟩
  | p :: ps, _, _, m + 1, q, ⟨qs, ys, b, xs', bs', h1, h2, h3, h4, h5, h6, h7⟩, hm => by
    obtain ⟨qs, ws, b, g1, g2, g3, g4, g5, g6⟩ := h7.at_ (m := m) (by simpa using hm)
    exact ⟨qs, ws, b, g1, g2, g3, g4, by rw [h5]; simpa using g5, by rw [h6]; simpa using g6⟩
theorem Rows.set : ∀ {ps : List PyData} {zs : List D} {bs : List Nat} {m : Nat} {b : Nat} {qs : List PyData} {ws : List D}, Rows old S ps zs bs → bs.Nodup → bs[m]? = some b → old.length ≤ b → purs qs = true → (∀ P o2 S2, Vals P o2 S2 qs ws) → Rows old (Z.wr old S b ws) (ps.set m (.list qs)) zs bs
  | [], _, _, m, b, qs, ws, h, hn, hm, hb, hp, hv => by rw [h.2] at hm; simp at hm
  | p :: ps, _, _, 0, b, qs, ws, ⟨qs0, ys, b0, xs', bs', h1, h2, h3, h4, h5, h6, h7⟩, hn, hm, hb, hp, hv => by
    subst h6
    simp at hm; subst hm
    have hn := List.nodup_cons.mp hn
    exact ⟨qs, ws, b0, xs', bs', rfl, hp, h3.self, hv, h5, rfl, h7.wr hb hn.1⟩
  | p :: ps, _, _, m + 1, b, qs, ws, ⟨qs0, ys, b0, xs', bs', h1, h2, h3, h4, h5, h6, h7⟩, hn, hm, hb, hp, hv => by
    subst h6
    have hn := List.nodup_cons.mp hn
    have hm : bs'[m]? = some b := by simpa using hm
    have hne : b0 ≠ b := fun e => hn.1 (e ▸ List.mem_of_getElem? hm)
    exact ⟨qs0, ys, b0, xs', bs', h1, h2, h3.wr hb hne, h4, h5, rfl, h7.set hn.2 hm hb hp hv⟩
theorem Inv.rowWrite {a b m : Nat} {ps qs : List PyData} {zs ws : List D} {bs : List Nat} {F : List Ent} {c c2 : Bool} (h : Inv B old S (⟨.lst a, .list ps, ⟨.tb, c⟩, a :: bs⟩ :: F)) (hr : Rows old S ps zs bs) (hN : NewL old S a zs) (hm : bs[m]? = some b) (hp : purs qs = true) (hv : ∀ P o2 S2, Vals P o2 S2 qs ws) :
    Inv B old (wr old S b ws) (⟨.lst a, .list (ps.set m (.list qs)), ⟨.tb, c2⟩, a :: bs⟩ :: F) := by
  have hb : old.length ≤ b := hr.ge b (List.mem_of_getElem? hm)
  have hbm : b ∈ bs := List.mem_of_getElem? hm
  have hnd := h.nd
  rw [List.flatMap_cons] at hnd
  have hnd1 := (List.nodup_append.mp hnd).1
  have hn := List.nodup_cons.mp hnd1
  have hne : a ≠ b := fun e => hn.1 (e ▸ hbm)
  have hfl : ((⟨.lst a, .list (ps.set m (.list qs)), ⟨.tb, c2⟩, a :: bs⟩ : Ent) :: F).flatMap Ent.as = (a :: bs) ++ F.flatMap Ent.as := by rw [List.flatMap_cons]
  refine ⟨by rw [hfl]; exact hnd, fun x hx => ?_, fun y hy => ?_, h.up⟩
  · rw [hfl]
    rcases List.mem_cons.mp hx with q | q
    · rw [q]
      exact (ok_tb rfl).mpr ⟨_, zs, bs, rfl, hr.set hn.2 hm hb hp hv, .inr ⟨a, rfl, hN.wr hb hne, rfl⟩⟩
    · have := h.ok x (.tail _ q)
      rw [List.flatMap_cons] at this
      refine this.wr hb (List.mem_append.mpr (.inl (.tail _ hbm))) fun hax => ?_
      exact (List.nodup_append.mp hnd).2.2 b (.tail _ hbm) b (mem_fm.mpr ⟨x, q, hax⟩) rfl
  · unfold Z.wr at hy
    rcases List.mem_or_eq_of_mem_set hy with q | q
    · exact h.ls y q
    · exact ⟨ws, q⟩
theorem Vals.setp : ∀ {qs : List PyData} {ws : List D} {m : Nat} {P : Nat → Prop}, Vals P old S qs ws → Val P old S p d → Vals P old S (qs.set m p) (ws.set m d) := fun h1 h2 => h1.set _ h2
theorem purs_set : ∀ {qs : List PyData} {m : Nat}, purs qs = true → pur p = true → purs (qs.set m p) = true
  | [], _, h, _ => h
  | q :: qs, 0, h, hp => by simp only [List.set_cons_zero, purs, Bool.and_eq_true] at h ⊢; exact ⟨hp, h.2⟩
  | q :: qs, m + 1, h, hp => by simp only [List.set_cons_succ, purs, Bool.and_eq_true] at h ⊢; exact ⟨h.1, purs_set h.2 hp⟩
/-! ### the walk over statements -/
section
variable {cp : Nat → List D → Sto → Z.R D} {ci : Nat → List D → Sto → Sto → Z.R D} {cpV : Nat → List PyData → RC} {ciV : Nat → List (PyData × K) → RI} {io : Nat → List Nat} {M : List Nat} {fu : Nat}
theorem set_keep {env : Env} {x : Option D} (h : ¬ R.contains i = true) : ∀ j, R.contains j = true → (env.set i x)[j]? = env[j]? := fun j hj => by
  rw [List.getElem?_set_ne]
  intro e
  subst e
  exact h hj
theorem par_sim {F : List Ent} : ∀ (is : List Nat) (xs : List Ent) {env : Env} {v v2 : VEnv} {S : Sto} {G : Gs}, StG B old S env v (xs ++ F) G → (∀ e ∈ xs, ∀ ys, e.d ≠ .tmp ys) → (∀ i ∈ is, ¬ R.contains i = true) → parV M is (xs.map fun e => (e.p, e.k)) v = some v2 →
    ∃ env2 G2, setAll is (xs.map Ent.d) env = some env2 ∧ StG B old S env2 v2 F G2 ∧ env2.length = env.length ∧ ∀ j, R.contains j = true → env2[j]? = env[j]?
  | [], [], env, v, v2, S, G, s, _, _, h => by
    simp only [List.map_nil, parV, Option.some.injEq] at h
    subst h
    exact ⟨env, G, rfl, s, rfl, fun _ _ => rfl⟩
  | i :: is, e :: xs, env, v, v2, S, G, s, ht, hr, h => by
    simp only [List.map_cons, parV] at h
    have hi : Inv B old S (⟨e.d, e.p, e.k, e.as⟩ :: ((xs ++ F) ++ live G)) := by have := s.inv; simpa using this
    obtain ⟨as3, i3⟩ := setK_inv (M := M) (i := i) hi
    have s3 : StG B old S env v (xs ++ F) G := s.subT (List.sublist_cons_self _ _)
    obtain ⟨G4, s4⟩ := put_ent (i := i) s3 i3 (ht e (.head _))
    obtain ⟨env2, G5, a1, a2, a3, a4⟩ := par_sim is xs s4 (fun x hx => ht x (.tail _ hx)) (fun j hj => hr j (.tail _ hj)) h
    refine ⟨env2, G5, a1, a2, by rw [a3]; simp, fun j hj => ?_⟩
    rw [a4 j hj]
    exact set_keep (hr i (.head _)) j hj
  | [], e :: xs, env, v, v2, S, G, s, _, _, h => by simp [parV] at h
  | i :: is, [], env, v, v2, S, G, s, _, _, h => by simp [parV] at h
theorem putv_sim (Hc : CpOk cp cpV) (Hi : CiOk ci ciV io) {F F' : List Ent} {y : Nat} {i : E} {env : Env} {v2 : VEnv} {S' : Sto} {G2 : Gs} {d' : D} {p : PyData} {k : K} {as' : List Nat} {KS : Sto → O} {KV : VEnv → VO}
    (s3 : StG B old S' env v2 (⟨d', p, k, as'⟩ :: F) G2) (t1 : ∀ zs, d' ≠ .tmp zs) (hF : F'.Sublist F)
    (hK : ∀ S5 v5 G5, StG B old S5 env v5 F G5 → SOk B old F' R env (KS S5) (KV v5)) :
    SOk B old F' R env (bndO (ev cp ci old (.var y) env S') env fun p S3 => bndO (ev cp ci old i env S3) env fun j S4 => match putV old p j d' S4 with
      | some S5 => KS S5
      | none => .bad) (putY cpV ciV io y p k i v2 KV) := by
  unfold putY
  by_cases hl : isLs v2 y = true
  case neg => rw [if_neg hl]; trivial
  rw [if_pos hl]
  obtain ⟨a, ha⟩ := isLs_ok s3 hl
  rw [slot_var ha]
  simp only [bndO]
  refine SOk.bind (r := ev cp ci old i env S') (hF.trans (List.sublist_cons_self _ _)) (ev_sim Hc Hi i env _ v2 S' G2 s3) fun d2 j ys v3 S3 G3 h3 s4 => ?_
  refine SOk.opt fun q hq => ?_
  obtain ⟨q, c, v4⟩ := q
  obtain ⟨G4, s5, _, _, y5⟩ := rd_ok h3 memL s4 hq
  cases q <;> try trivial
  rename_i n
  rw [vInt y5]
  simp only
  cases he : ent v4 y with
  | none => trivial
  | some w =>
    obtain ⟨pp, kk⟩ := w
    cases pp <;> try trivial
    rename_i xs0
    refine SOk.opt fun c hc => ?_
    refine SOk.opt fun m hm => ?_
    obtain ⟨s6, hv⟩ := nK_vals (R := [⟨d', p, k, as'⟩]) (T := F) (c := (nK p k).c) s5.drop (fun e he => by rw [List.mem_singleton.mp he]; exact t1) (fun h => by simpa using h)
    obtain ⟨w1, w2, w3, w4, w5⟩ := hv
    obtain ⟨a', zs, Fr, b1, b2, b3, b4, b5, b6, hX⟩ := sole_ok s6 he hc
    rw [ha] at b1
    cases b1
    have hdv : Val (Al B old (XG F G4) (nK p k).c) old S3 p d' := by
      cases w3; exact w4
    rw [putV_at b2 (by rw [b6.len]; exact hm)]
    have hnew := (Vals.mono (Al.and1 (e := (nK p k).c)) _ _ b6).set m (Val.mono (fun w h => Al.and2 (c := c) w (Al.sub hX w h)) _ _ hdv)
    have hn := (b5.write (c2 := c && (nK p k).c) rfl hnew).nK
    subst b4
    exact hK _ _ _ (sole_back s6.eq s6.sl ha b3 hn)
theorem bndO_bnd {α β : Type} {r : Z.R α} {f : α → Sto → Z.R β} {env : Env} {g : β → Sto → O} : bndO (bnd r f) env g = bndO r env fun a S => bndO (f a S) env g := by cases r <;> rfl
theorem scal_ok {P Q : Nat → Prop} {old old2 S S2 : Sto} {p : PyData} {d : D} (hs : scalP p = true) (h : ValE Q old S p d) : scalD d = true ∧ ValF P old2 S2 p d ∧ nl d := by
  cases p <;> first | (simp [scalP] at hs; done) | skip
  · rw [vNone h]; exact ⟨rfl, rfl, fun a z => by cases z⟩
  · rw [vBool h]; exact ⟨rfl, rfl, fun a z => by cases z⟩
  · rw [vInt h]; exact ⟨rfl, rfl, fun a z => by cases z⟩
  · have h : d = .str _ ∧ _ := h
    rw [h.1]; exact ⟨rfl, ⟨rfl, h.2⟩, fun a z => by cases z⟩
mutual
theorem ex_sim (Hc : CpOk cp cpV) (Hi : CiOk ci ciV io) (hT : True) : ∀ (t : Z.T) (env : Env) (F : List Ent) (v : VEnv) (S : Sto) (G : Gs), StG B old S env v F G → SOk B old F R env (ex cp ci old fu t env S) (vx cpV ciV io M R fu t v)
  | .set i e, env, F, v, S, G, s => by
    rw [vx, ex]
    by_cases hr : R.contains i = true
    · rw [if_pos hr]; trivial
    rw [if_neg hr]
    refine SOk.bind (List.Sublist.refl _) (ev_sim Hc Hi e env F v S G s) fun d1 x xs v1 S1 G1 h1 s1 => ?_
    refine SOk.opt fun r hx => ?_
    obtain ⟨⟨p, k⟩, v2⟩ := r
    obtain ⟨as, G2, s2, _⟩ := esc_ok h1 s1 hx
    obtain ⟨d', S', as', e1, i1, t1, _⟩ := s2.inv.own
    have e1 : Z.own old d1 S1 = .ok d' S' := e1
    rw [e1]
    obtain ⟨as3, i3⟩ := setK_inv (M := M) (i := i) i1
    have s3 : StG B old S' env v2 F G2 := ⟨s2.eq, s2.sl, i1.sub (List.sublist_cons_self _ _)⟩
    obtain ⟨G4, s4⟩ := put_ent (i := i) s3 i3 t1
    exact ⟨_, S', G4, rfl, s4, by simp, set_keep hr⟩
  | .unp is e, env, F, v, S, G, s => by
    rw [vx, ex]
    by_cases hr : is.any (R.contains ·) = true
    · rw [if_pos hr]; trivial
    rw [if_neg hr]
    refine SOk.bind (List.Sublist.refl _) (ev_sim Hc Hi e env F v S G s) fun d1 x xs v1 S1 G1 h1 s1 => ?_
    refine SOk.opt fun r hx => ?_
    obtain ⟨⟨p, k⟩, v2⟩ := r
    obtain ⟨as, G2, s2, _⟩ := esc_ok h1 s1 hx
    refine SOk.opt fun v3 h3 => ?_
    cases p <;> try (cases h3; done)
    rename_i ps
    have hok := s2.inv.ok _ (.head _)
    have hv : Val (Al B old (XG F G2) k.c) old S1 (.tuple ps) d1 := by
      have hsub : ∀ a ∈ XG F G2, a ∈ ((⟨d1, .tuple ps, k, as⟩ : Ent) :: F ++ live G2).flatMap Ent.as := fun a ha => by
        rw [List.cons_append, List.flatMap_cons]; exact List.mem_append.mpr (.inr ha)
      rcases kt_or k.t with q | q | q
      · rw [ok_sh q] at hok
        exact Val.mono (Al.sub hsub) _ _ hok.2
      · rw [ok_tb q] at hok
        obtain ⟨ps, _, _, w, _⟩ := hok
        cases w
      · rw [ok_ex q] at hok
        rcases hok with ⟨_, _, w⟩ | ⟨_, _, _, _, w, _⟩
        · exact Val.mono (Al.sub hsub) _ _ w
        · cases w
    have s3 : StG B old S1 env v2 F G2 := s2.subT (List.sublist_cons_self _ _)
    obtain ⟨env2, G3, a1, a2, a3, a4, _⟩ := tg_sim (tg := .tu is) hv s3 h3
    obtain ⟨ys, rfl, _⟩ := hv
    have a1 : setAll is ys env = some env2 := a1
    simp only [a1]
    refine ⟨env2, S1, G3, rfl, a2, a3, fun i hi => a4 i fun q => ?_⟩
    exact hr (List.any_eq_true.mpr ⟨i, q, hi⟩)
  | .put o i e, env, F, v, S, G, s => by
    rw [vx.eq_def, ex]
    simp only
    refine SOk.bind (List.Sublist.refl _) (ev_sim Hc Hi e env F v S G s) fun d1 x xs v1 S1 G1 h1 s1 => ?_
    refine SOk.opt fun r hx => ?_
    obtain ⟨⟨p, k⟩, v2⟩ := r
    obtain ⟨as, G2, s2, _⟩ := esc_ok h1 s1 hx
    obtain ⟨d', S', as', e1, i1, t1, _⟩ := s2.inv.own
    have e1 : Z.own old d1 S1 = .ok d' S' := e1
    rw [e1]
    have s3 : StG B old S' env v2 (⟨d', p, k, as'⟩ :: F) G2 := ⟨s2.eq, s2.sl, i1⟩
    simp only [bndO]
    cases o with
    | var y =>
      simp only
      by_cases hl : isLs v2 y = true
      case neg => rw [if_neg hl]; trivial
      rw [if_pos hl]
      obtain ⟨a, ha⟩ := isLs_ok s3 hl
      rw [slot_var ha]
      refine SOk.bind (r := ev cp ci old i env S') (List.sublist_cons_self _ _) (ev_sim Hc Hi i env _ v2 S' G2 s3) fun d2 j ys v3 S3 G3 h3 s4 => ?_
      refine SOk.opt fun q hq => ?_
      obtain ⟨q, c, v4⟩ := q
      obtain ⟨G4, s5, _, _, y5⟩ := rd_ok h3 memL s4 hq
      cases q <;> try trivial
      rename_i n
      rw [vInt y5]
      simp only
      cases he : ent v4 y with
      | none => trivial
      | some w =>
        obtain ⟨pp, kk⟩ := w
        cases pp <;> try trivial
        rename_i xs0
        refine SOk.opt fun c hc => ?_
        refine SOk.opt fun m hm => ?_
        obtain ⟨s6, hv⟩ := nK_vals (R := [⟨d', p, k, as'⟩]) (T := F) (c := (nK p k).c) s5.drop (fun e he => by rw [List.mem_singleton.mp he]; exact t1) (fun h => by simpa using h)
        obtain ⟨w1, w2, w3, w4, w5⟩ := hv
        obtain ⟨a', zs, Fr, b1, b2, b3, b4, b5, b6, hX⟩ := sole_ok s6 he hc
        rw [ha] at b1
        cases b1
        have hdv : Val (Al B old (XG F G4) (nK p k).c) old S3 p d' := by
          cases w3; exact w4
        rw [putV_at b2 (by rw [b6.len]; exact hm)]
        have hnew := (Vals.mono (Al.and1 (e := (nK p k).c)) _ _ b6).set m (Val.mono (fun w h => Al.and2 (c := c) w (Al.sub hX w h)) _ _ hdv)
        have hn := (b5.write (c2 := c && (nK p k).c) rfl hnew).nK
        subst b4
        exact ⟨env, _, _, rfl, Hn.refl (sole_back s6.eq s6.sl ha b3 hn)⟩
    | idx o2 h => cases o2 with
      | var y =>
        simp only
        by_cases hl : (smp h && smp i && isLs v2 y) = true
        case neg => rw [if_neg hl]; trivial
        rw [if_pos hl]
        simp only [Bool.and_eq_true] at hl
        obtain ⟨⟨hs1, hs2⟩, hl⟩ := hl
        obtain ⟨a, ha⟩ := isLs_ok s3 hl
        have hev : ev cp ci old (.idx (.var y) h) env S' = bnd (ev cp ci old h env S') fun z S2 => idxV old (.lst a) z S2 := by simp only [ev, ha, bnd_ok0]
        rw [hev]
        have ih1 := ev_sim Hc Hi h env _ v2 S' G2 s3
        cases hv1 : vev cpV ciV io h v2 with
        | bad => trivial
        | exc c v3 =>
          rw [hv1] at ih1
          obtain ⟨S3, G3, e3, _⟩ := ih1
          exact absurd e3 (smp_X h hs1)
        | ok o3 v3 =>
          rw [hv1] at ih1
          obtain ⟨d3, S3, ys, G3, e3, h3, s4, _⟩ := ih1
          have hS := smp_S h hs1 e3
          subst hS
          rw [e3, bnd_ok0]
          simp only [vbO]
          refine SOk.opt fun q hq => ?_
          obtain ⟨q, c, v4⟩ := q
          obtain ⟨G4, s5, _, _, y5⟩ := rd_ok h3 memL s4 hq
          have ih2 := ev_sim Hc Hi i env _ v4 S3 G4 s5
          simp only
          cases hv2 : vev cpV ciV io i v4 with
          | bad => trivial
          | exc c v5 =>
            rw [hv2] at ih2
            obtain ⟨S4, G5, e4, _⟩ := ih2
            exact absurd e4 (smp_X i hs2)
          | ok o4 v5 =>
            rw [hv2] at ih2
            obtain ⟨d4, S4, zs4, G5, e4, h4, s6, _⟩ := ih2
            have hS := smp_S i hs2 e4
            subst hS
            simp only
            refine SOk.opt fun q2 hq2 => ?_
            obtain ⟨q2, c2, v6⟩ := q2
            obtain ⟨G6, s7, _, _, y7⟩ := rd_ok h4 memL s6 hq2
            cases q <;> try trivial
            rename_i n
            cases q2 <;> try trivial
            rename_i n2
            simp only
            cases he : ent v6 y with
            | none => trivial
            | some w =>
              obtain ⟨pp, kk⟩ := w
              cases pp <;> try trivial
              rename_i xs0
              obtain ⟨t, c3⟩ := kk
              cases t <;> try trivial
              simp only
              refine SOk.opt fun m hm => ?_
              cases hxm : xs0[m]? with
              | none => trivial
              | some row =>
                cases row <;> try trivial
                rename_i qs
                simp only
                refine SOk.opt fun m2 hm2 => ?_
                by_cases hp : pur p = true
                case neg => rw [if_neg hp]; trivial
                rw [if_pos hp]
                rw [vInt y5] at e3 ⊢
                rw [vInt y7] at e4
                have hdv : ∀ (P : Nat → Prop) (o2 S2 : Sto), Val P o2 S2 p d' := fun P o2 S2 => by
                  have hok := EntOk.any (s3.inv.ok _ (.head _)) t1
                  exact Val.pure o2 S2 _ _ hp hok
                have s8 : StG B old S4 env v6 F G6 := s7.subT ((List.sublist_cons_self _ _).trans subR2)
                have he2 := he
                rw [s8.eq] at he2
                obtain ⟨e0, hg, hp0, hk0⟩ := ent_vOf.mp he2
                have hed : e0.d = .lst a := by
                  have := (s8.sl.at_ y e0 hg).1
                  rw [ha] at this
                  exact (Option.some.inj (Option.some.inj this)).symm
                have hlt := lt_of_get hg
                have hf := focus hg s8.inv
                have hok := hf.ok _ (.head _)
                obtain ⟨ed, ep, ek, eas⟩ := e0
                cases hp0
                cases hk0
                cases hed
                rw [ok_tb rfl] at hok
                obtain ⟨ps1, zs, bs, q1, q2, q3⟩ := hok
                cases q1
                rcases q3 with ⟨q3, _⟩ | ⟨a2, q3, q4, q5⟩
                · cases q3
                cases q3
                have q5 : eas = a :: bs := q5
                subst q5
                obtain ⟨qs2, ws, b, g1, g2, g3, g4, g5, g6⟩ := q2.at_ hxm
                cases g1
                have hzl : zs.length = xs0.length := (q2.vals (P := fun _ => True) (fun _ _ => trivial)).len
                rw [idxV_at q4.at_ (by rw [hzl]; exact hm) g5]
                simp only
                rw [e4]
                simp only
                have hwl : ws.length = qs.length := (g4 (fun _ => True) old S4).len
                rw [putV_at g3 (by rw [hwl]; exact hm2)]
                have hw := hf.rowWrite (c2 := true) q2 q4 g6 (qs := qs.set m2 p) (ws := ws.set m2 d') (purs_set g2 hp) (fun P o2 S2 => (g4 P o2 S2).set m2 (hdv P o2 S2))
                exact ⟨env, _, _, rfl, Hn.refl (sole_back s8.eq s8.sl ha hlt hw)⟩
      | _ => trivial
    | _ => trivial
  | .exp e, env, F, v, S, G, s => by
    rw [vx, ex]
    refine SOk.bind (List.Sublist.refl _) (ev_sim Hc Hi e env F v S G s) fun d1 x xs v1 S1 G1 h1 s1 => ?_
    exact ⟨env, S1, G1, rfl, Hn.refl s1.drop⟩
  | .ret e, env, F, v, S, G, s => by
    rw [vx, ex]
    refine SOk.bind (List.Sublist.refl _) (ev_sim Hc Hi e env F v S G s) fun d1 x xs v1 S1 G1 h1 s1 => ?_
    refine SOk.opt fun r hx => ?_
    obtain ⟨⟨p, k⟩, v2⟩ := r
    obtain ⟨as, G2, s2⟩ := mvR_ok h1 s1 hx
    exact ⟨d1, as, env, S1, G2, rfl, Hn.refl s2⟩
  | .retn, env, F, v, S, G, s => by
    rw [vx, ex]
    exact ⟨.non, [], env, S, G, rfl, Hn.refl (s.add (List.Sublist.refl _) rfl nl_non)⟩
  | .ife c a b, env, F, v, S, G, s => by
    rw [vx, ex]
    refine SOk.bind (List.Sublist.refl _) (ev_sim Hc Hi c env F v S G s) fun d1 x xs v1 S1 G1 h1 s1 => ?_
    refine SOk.opt fun q hx => ?_
    obtain ⟨p, c, v2⟩ := q
    obtain ⟨G2, s2, _, _, y2⟩ := rd_ok h1 memL s1 hx
    refine SOk.opt fun r hr => ?_
    rw [tru_ok y2 hr]
    cases r with
    | true => exact exs_sim Hc Hi hT a env F v2 S1 G2 s2.drop
    | false => exact exs_sim Hc Hi hT b env F v2 S1 G2 s2.drop
  | .fo it tg b, env, F, v, S, G, s => by
    rw [vx, ex]
    by_cases hr : tg.nms.any (R.contains ·) = true
    · rw [if_pos hr]; trivial
    rw [if_neg hr]
    refine SOk.bind (List.Sublist.refl _) (evi_sim Hc Hi it env F v S G s) fun j vi xs v1 S1 G1 h1 s1 => ?_
    obtain ⟨ps, hi, hh, hp⟩ := h1
    refine SOk.opt fun v2 h2 => ?_
    obtain ⟨ys, G2, f1, f2⟩ := escL_ok hh hp s1 h2
    obtain ⟨_, _, _, hsz⟩ := src_ok hi (f1.vals memL f2)
    rw [hsz]
    have := vfl_ok (v0 := v2) (R := R) hi f1 (T := ys ++ F) memL (fun i hi q => hr (List.any_eq_true.mpr ⟨i, q, hi⟩)) (fun env v S G s => exs_sim Hc Hi hT b env (ys ++ F) v S G s) vi.xs.length 0 (Nat.zero_add _) env S1 v2 G2 f2
    rw [List.drop_zero] at this
    exact this.drop
  | .wh c b, env, F, v, S, G, s => by
    rw [vx, ex]
    exact vwl_ok (v0 := v) (R := R) (fun env v S G s => evc_sim Hc Hi (.of c) env F v S G s) (fun env v S G s => exs_sim Hc Hi hT b env F v S G s) fu env S v G s
  | .aug i o e, env, F, v, S, G, s => by
    rw [vx, ex]
    by_cases hr : R.contains i = true
    · rw [if_pos hr]; trivial
    rw [if_neg hr]
    cases he : ent v i with
    | none => trivial
    | some w =>
      obtain ⟨p, k⟩ := w
      cases p <;> try trivial
      rename_i n
      have he2 := he
      rw [s.eq] at he2
      obtain ⟨e0, hg, hp0, _⟩ := ent_vOf.mp he2
      obtain ⟨h1, h2⟩ := s.sl.at_ i e0 hg
      have hv := EntOk.any (s.inv.ok e0 (slot_in hg)) h2
      rw [hp0] at hv
      have hv : e0.d = .int n := hv
      rw [h1, hv]
      refine SOk.bind (List.Sublist.refl _) (ev_sim Hc Hi e env F v S G s) fun d1 x xs v1 S1 G1 h1 s1 => ?_
      refine SOk.opt fun q hx => ?_
      obtain ⟨p, c, v2⟩ := q
      obtain ⟨G2, s2, _, _, y2⟩ := rd_ok h1 memL s1 hx
      refine SOk.opt fun r hr2 => ?_
      obtain ⟨dr, hop, hvr, hn⟩ := op_ok (P := Al B old (XG (xs ++ F) G2) c) (x := .int n) (dx := .int n) (show ValE _ old S1 (.int n) (.int n) from rfl) y2 hr2
      cases r <;> try trivial
      rename_i m
      have hvr : dr = .int m := hvr
      subst hvr
      rw [hop]
      obtain ⟨G3, s3, _⟩ := put_sh (i := i) (p := .int m) (d := .int m) (c := true) s2.drop rfl
      exact ⟨_, S1, G3, rfl, s3, by simp, set_keep hr⟩
  | .rai c, env, F, v, S, G, s => by rw [vx, ex]; exact ⟨env, S, G, rfl, Hn.refl s⟩
  | .brk, env, F, v, S, G, s => by rw [vx, ex]; exact ⟨env, S, G, rfl, Hn.refl s⟩
  | .cnt, env, F, v, S, G, s => by rw [vx, ex]; exact ⟨env, S, G, rfl, Hn.refl s⟩
  | .pas, env, F, v, S, G, s => by rw [vx, ex]; exact ⟨env, S, G, rfl, Hn.refl s⟩
  | .par is es, env, F, v, S, G, s => by
    rw [vx, ex]
    by_cases hr : is.any (R.contains ·) = true
    · rw [if_pos hr]; trivial
    rw [if_neg hr]
    refine SOk.bind (List.Sublist.refl _) (evs_sim Hc Hi es env F v S G s) fun ds ps xs v1 S1 G1 h1 s1 => ?_
    refine SOk.opt fun v2 hv => ?_
    obtain ⟨rfl, rfl, ht⟩ := h1
    obtain ⟨env2, G2, a1, a2, a3, a4⟩ := par_sim is xs s1 ht (fun i hi q => hr (List.any_eq_true.mpr ⟨i, hi, q⟩)) hv
    simp only [a1]
    exact ⟨env2, S1, G2, rfl, a2, a3, a4⟩
  | .putt o i o2 i2 e e2, env, F, v, S, G, s => by
    rw [vx.eq_def, ex]
    simp only
    cases o with
    | var y => cases o2 with
      | var y2 =>
        simp only
        rw [ev, bndO_bnd]
        refine SOk.bind (List.Sublist.refl _) (evs_sim Hc Hi _ env F v S G s) fun ds ps xs v1 S1 G1 h1 s1 => ?_
        obtain ⟨rfl, rfl, ht⟩ := h1
        match xs, s1, ht with
        | [a, b], s1, ht =>
          simp only [List.map_cons, List.map_nil, List.length_cons, List.length_nil]
          rw [if_pos (by decide)]
          simp only [bndO]
          have s1' : StG B old S1 env v1 (⟨a.d, a.p, a.k, a.as⟩ :: (b :: F)) G1 := s1
          refine putv_sim Hc Hi s1' (ht a (.head _)) (List.sublist_cons_self _ _) fun S5 v5 G5 s5 => ?_
          have s5' : StG B old S5 env v5 (⟨b.d, b.p, b.k, b.as⟩ :: F) G5 := s5
          refine putv_sim Hc Hi s5' (ht b (.tail _ (.head _))) (List.Sublist.refl _) fun S6 v6 G6 s6 => ?_
          exact ⟨env, S6, G6, rfl, Hn.refl s6⟩
        | [], s1, ht => trivial
        | [a], s1, ht => trivial
        | a :: b :: c :: w, s1, ht => trivial
      | _ => trivial
    | _ => trivial
  | .tre b i cs e, env, F, v, S, G, s => by
    rw [vx, ex]
    by_cases hr : R.contains i = true
    · rw [if_pos hr]; trivial
    rw [if_neg hr]
    have h := exs_sim Hc Hi hT b env F v S G s
    cases hv : vxs cpV ciV io M R fu b v with
    | bad => trivial
    | nx v1 => rw [hv] at h; obtain ⟨env1, S1, G1, e1, q1⟩ := h; rw [e1]; exact ⟨env1, S1, G1, rfl, q1⟩
    | rt p k v1 => rw [hv] at h; obtain ⟨d, as, env1, S1, G1, e1, q1⟩ := h; rw [e1]; exact ⟨d, as, env1, S1, G1, rfl, q1⟩
    | bk v1 => rw [hv] at h; obtain ⟨env1, S1, G1, e1, q1⟩ := h; rw [e1]; exact ⟨env1, S1, G1, rfl, q1⟩
    | ct v1 => rw [hv] at h; obtain ⟨env1, S1, G1, e1, q1⟩ := h; rw [e1]; exact ⟨env1, S1, G1, rfl, q1⟩
    | exc k v1 =>
      rw [hv] at h
      obtain ⟨env1, S1, G1, e1, q1⟩ := h
      rw [e1]
      simp only
      cases hk : cs.contains k with
      | false =>
        simp only [Bool.false_eq_true, if_false]
        exact ⟨env1, S1, G1, rfl, q1⟩
      | true =>
        simp only [if_true]
        have hval : ValF (Al B old (XG F G1) false) old S1 (excP k) (.exc k) := .inl ⟨k, rfl, rfl⟩
        obtain ⟨G3, s3⟩ := put_ent (i := i) q1.st (q1.st.addS (c := false) (List.Sublist.refl _) hval).inv (fun zs z => by cases z)
        have h2 := ev_sim Hc Hi e (env1.set i (some (.exc k))) F _ S1 G3 s3
        cases hw : vev cpV ciV io e (v1.set i (some (excP k, ⟨.sh, false⟩))) with
        | bad => exact trivial
        | exc c v3 => exact trivial
        | ok o v3 =>
          rw [hw] at h2
          obtain ⟨d, S3, xs, G4, e4, h5, h6, _⟩ := h2
          rw [e4]
          simp only [scalO]
          refine SOk.opt fun q hx => ?_
          obtain ⟨p, c, v5⟩ := q
          obtain ⟨G5, s5, _, _, y5⟩ := rd_ok h5 memL h6 hx
          simp only
          cases hs : scalP p with
          | false => simp only [Bool.false_eq_true, if_false]; trivial
          | true =>
            simp only [if_true]
            obtain ⟨z1, z2, z3⟩ := scal_ok (P := Al B old (XG F G1) true) (old2 := old) (S2 := S1) hs y5
            rw [if_pos z1]
            exact ⟨d, [], env1, S1, G1, rfl, ⟨q1.st.add (c := true) (List.Sublist.refl _) z2 z3, q1.len, q1.kept⟩⟩
theorem exs_sim (Hc : CpOk cp cpV) (Hi : CiOk ci ciV io) (hT : True) : ∀ (b : Z.B) (env : Env) (F : List Ent) (v : VEnv) (S : Sto) (G : Gs), StG B old S env v F G → SOk B old F R env (exs cp ci old fu b env S) (vxs cpV ciV io M R fu b v)
  | .nil, env, F, v, S, G, s => by
    rw [vxs, exs]
    exact ⟨env, S, G, rfl, Hn.refl s⟩
  | .seq t b, env, F, v, S, G, s => by
    rw [vxs, exs]
    have h := ex_sim Hc Hi hT t env F v S G s
    cases hv : vx cpV ciV io M R fu t v with
    | bad => trivial
    | nx v1 =>
      rw [hv] at h
      obtain ⟨env1, S1, G1, e1, q1⟩ := h
      rw [e1]
      exact (exs_sim Hc Hi hT b env1 F v1 S1 G1 q1.st).from q1.len q1.kept
    | rt p k v1 => rw [hv] at h; obtain ⟨d, as, env1, S1, G1, e1, q1⟩ := h; rw [e1]; exact ⟨d, as, env1, S1, G1, rfl, q1⟩
    | bk v1 => rw [hv] at h; obtain ⟨env1, S1, G1, e1, q1⟩ := h; rw [e1]; exact ⟨env1, S1, G1, rfl, q1⟩
    | ct v1 => rw [hv] at h; obtain ⟨env1, S1, G1, e1, q1⟩ := h; rw [e1]; exact ⟨env1, S1, G1, rfl, q1⟩
    | exc c v1 => rw [hv] at h; obtain ⟨env1, S1, G1, e1, q1⟩ := h; rw [e1]; exact ⟨env1, S1, G1, rfl, q1⟩
end
end
end
end Z
/-! Y9: defs. -/
namespace Z
open PySem
section
variable {P Q B : Nat → Prop} {old S : Sto} {env env0 : Env} {v : VEnv} {G : Gs} {e e2 : Ent} {p : PyData} {k : K} {i : Nat} {d : D} {ps : List PyData}
/-- nothing else is held -/
theorem inv1 {as : List Nat} (up : ∀ a, old.length ≤ a → B a) (ho : EntOk B old S as ⟨d, p, k, as⟩) (hn : as.Nodup) (hs : ∀ c ∈ S, ∃ xs, c = Cell.lst xs) : Inv B old S [⟨d, p, k, as⟩] := by
  refine ⟨by simpa using hn, fun e he => ?_, hs, up⟩
  rw [List.mem_singleton.mp he]
  simpa using ho
theorem noCell : ∀ c ∈ ([] : Sto), ∃ xs, c = Cell.lst xs := fun c hc => by cases hc
/-- a thing told, as the caller sees it -/
theorem y_tidy_ok {as : List Nat} (up : ∀ a, old.length ≤ a → B a) (H : ∀ a, B a → a < old.length → ∃ q, Val (fun _ => True) old [] q (.lst a)) (h : Inv B old S [⟨d, p, k, as⟩]) : ∃ d2 more as2, tidy old d S = .ok d2 more ∧ Inv B old more [⟨d2, p, retK p k, as2⟩] := by
  have hok := h.ok _ (.head _)
  simp only [List.flatMap_cons, List.flatMap_nil, List.append_nil] at hok
  by_cases hp : pur p = true
  · -- pure
    have hv : Val (fun _ => True) old S p d := by
      rcases kt_or k.t with q | q | q
      · rw [ok_sh q] at hok; exact Val.mono (fun _ _ => trivial) _ _ (hok.2.toV (pure_nt hp hok.2))
      · rw [ok_tb q] at hok
        obtain ⟨ps, _, _, w, _⟩ := hok
        have w : p = .list ps := w
        rw [w] at hp; simp [pur] at hp
      · rw [ok_ex q] at hok
        rcases hok with ⟨_, _, w⟩ | ⟨_, ps, _, _, w, _⟩
        · exact Val.mono (fun _ _ => trivial) _ _ (w.toV (pure_nt hp w))
        · have w : p = .list ps := w
          rw [w] at hp; simp [pur] at hp
    have hd := Val.isPure p d hp hv
    have ht : tidy old d S = .ok d [] := by
      cases d with
      | tmp xs => simp [D.pure] at hd
      | lst a => simp [D.pure] at hd
      | tup xs => show (if (D.tup xs).pure = true then _ else _) = _; rw [if_pos hd]
      | _ => rfl
    have hk : retK p k = ⟨.ex, true⟩ := by unfold retK; rw [if_pos hp]; rfl
    rw [hk]
    exact ⟨d, [], [], ht, inv1 up ((ok_ex (.inl rfl)).mpr (.inl ⟨pure_nl hd, rfl, (Val.dpure old [] p d hd hv).toF⟩)) .nil noCell⟩
  -- the kind by the value
  have hN : Inv B old S [⟨d, p, nK p k, as⟩] := h.nK
  have hokN := hN.ok _ (.head _)
  simp only [List.flatMap_cons, List.flatMap_nil, List.append_nil] at hokN
  have hnd : as.Nodup := by have := h.nd; simpa using this
  generalize hk1 : nK p k = k1 at hN hokN
  have hret : retK p k = flK p k1 := by
    unfold retK; rw [if_neg hp, hk1]
  rw [hret]
  -- a list made of pure things, nobody's
  have tmpPure : ∀ (xs : List D) (ps : List PyData), p = .list ps → D.pureAll xs = true → Vals (fun _ => True) old S ps xs → (k1.t = .tb → xs = []) → ∃ as2, Inv B old [] [⟨.tmp xs, p, flK p k1, as2⟩] := by
    intro xs ps hps hx hv htb
    have hf : ∀ (P : Nat → Prop), ValF P old [] p (.tmp xs) := fun P => by
      rw [hps]; exact ⟨xs, Vals.dpure old [] ps xs hx hv, .inl rfl⟩
    obtain ⟨t, c⟩ := k1
    cases t with
    | sh =>
      cases c with
      | true =>
        show ∃ as2, Inv B old [] [⟨.tmp xs, p, (if flatP p = true then ⟨.ex, true⟩ else ⟨.sh, true⟩), as2⟩]
        by_cases hfl : flatP p = true
        · rw [if_pos hfl]; exact ⟨[], inv1 up ((ok_ex (.inl rfl)).mpr (.inl ⟨nl_tmp, rfl, hf _⟩)) .nil noCell⟩
        · rw [if_neg hfl]; exact ⟨[], inv1 up ((ok_sh rfl).mpr ⟨rfl, hf _⟩) .nil noCell⟩
      | false => exact ⟨[], inv1 up ((ok_sh rfl).mpr ⟨rfl, hf _⟩) .nil noCell⟩
    | ex => exact ⟨[], inv1 up ((ok_ex (.inl rfl)).mpr (.inl ⟨nl_tmp, rfl, hf _⟩)) .nil noCell⟩
    | lk => exact ⟨[], inv1 up ((ok_ex (.inr rfl)).mpr (.inl ⟨nl_tmp, rfl, hf _⟩)) .nil noCell⟩
    | tb =>
      have := htb rfl
      subst this
      have hl := hv.len
      have : ps = [] := List.length_eq_zero_iff.mp (by simpa using hl.symm)
      subst this
      exact ⟨[], inv1 up ((ok_tb rfl).mpr ⟨[], [], [], hps, ⟨rfl, rfl⟩, .inl ⟨rfl, rfl⟩⟩) .nil noCell⟩
  -- all as it is
  have same : (k1 = ⟨.sh, true⟩ → flatP p = false) → Inv B old S [⟨d, p, flK p k1, as⟩] := by
    intro h2
    obtain ⟨t, c⟩ := k1
    cases t <;> cases c <;> try exact hN
    have := h2 rfl
    show Inv B old S [⟨d, p, (if flatP p = true then ⟨.ex, true⟩ else ⟨.sh, true⟩), as⟩]
    rw [if_neg (by rw [this]; decide)]
    exact hN
  have flat_pure : ∀ (xs : List D) (ps : List PyData), p = .list ps → Vals (fun _ => True) old S ps xs → flatP p = true → D.pureAll xs = true := fun xs ps hps hv hf => by
    rw [hps] at hf
    exact Vals.isPure ps xs (by simpa only [flatP] using hf) hv
  by_cases htmp : ∃ xs, d = .tmp xs
  · obtain ⟨xs, rfl⟩ := htmp
    have hvl : ∃ ps, p = .list ps ∧ Vals (fun _ => True) old S ps xs ∧ (k1.t = .tb → D.pureAll xs = true → xs = []) := by
      rcases kt_or k1.t with q | q | q
      · rw [ok_sh q] at hokN
        have w : ValF _ old S p (.tmp xs) := hokN.2
        cases p with
        | list ps =>
          obtain ⟨ys, w1, w2 | ⟨a, w2, _⟩⟩ := w
          · cases w2; exact ⟨ps, rfl, Vals.mono (fun _ _ => trivial) _ _ w1, fun z => by rw [q] at z; cases z⟩
          · cases w2
        | _ => exact absurd rfl (Val.nt (P := Al B old as k1.c) (old := old) (S := S) w xs)
      · rw [ok_tb q] at hokN
        obtain ⟨ps, zs, bs, w1, w2, w3⟩ := hokN
        rcases w3 with ⟨w3, _⟩ | ⟨a, w3, _⟩
        · have w3 : D.tmp xs = .tmp zs := w3
          cases w3
          refine ⟨ps, w1, w2.vals fun _ _ => trivial, fun _ hx => ?_⟩
          cases ps with
          | nil => exact w2.1
          | cons p ps =>
            obtain ⟨_, _, _, _, _, _, _, _, _, w5, _⟩ := w2
            rw [w5] at hx; simp [D.pureAll, D.pure] at hx
        · cases w3
      · rw [ok_ex q] at hokN
        rcases hokN with ⟨_, _, w⟩ | ⟨a, _, _, w, _⟩
        · have w : ValF _ old S p (.tmp xs) := w
          cases p with
          | list ps =>
            obtain ⟨ys, w1, w2 | ⟨a, w2, _⟩⟩ := w
            · cases w2; exact ⟨ps, rfl, Vals.mono (fun _ _ => trivial) _ _ w1, fun z => by rcases q with q | q <;> (rw [q] at z; cases z)⟩
            · cases w2
          | _ => exact absurd rfl (Val.nt (P := Al B old as k1.c) (old := old) (S := S) w xs)
        · cases w
    obtain ⟨ps, hps, hv, htb⟩ := hvl
    by_cases hx : D.pureAll xs = true
    · obtain ⟨as2, hi⟩ := tmpPure xs ps hps hx hv (fun z => htb z hx)
      exact ⟨_, [], as2, by show (if D.pureAll xs = true then _ else _) = _; rw [if_pos hx], hi⟩
    · refine ⟨_, S, as, by show (if D.pureAll xs = true then _ else _) = _; rw [if_neg hx], same fun z => ?_⟩
      · cases hf : flatP p with
        | false => rfl
        | true => exact absurd (flat_pure xs ps hps hv hf) hx
  by_cases hlst : ∃ a, d = .lst a
  · obtain ⟨a, rfl⟩ := hlst
    by_cases ha : a < old.length
    · -- a thing that stood ahead
      have hsh : k1 = ⟨.sh, false⟩ ∧ as = [] ∧ ValF (Al B old as k1.c) old S p (.lst a) := by
        rcases kt_or k1.t with q | q | q
        · rw [ok_sh q] at hokN
          have w : ValF (Al B old as k1.c) old S p (.lst a) := hokN.2
          refine ⟨?_, hokN.1, w⟩
          obtain ⟨t, c⟩ := k1
          cases q
          cases c with
          | false => rfl
          | true =>
            have w2 := w.toV (fun zs z => by cases z)
            cases p with
            | list ps => obtain ⟨_, _, a2, e, hA, _⟩ := w2; cases e; have := hA.2.1 rfl; omega
            | dict kvs =>
              rcases w2 with ⟨_, _, e⟩ | ⟨_, a2, _, e, hA, _⟩
              · cases e
              · cases e; have := hA.2.1 rfl; omega
            | none => cases w2
            | bool b => cases w2
            | int b => cases w2
            | str b => cases w2.1
            | tuple b => obtain ⟨_, e, _⟩ := w2; cases e
        · rw [ok_tb q] at hokN
          obtain ⟨ps, zs, bs, w1, w2, w3⟩ := hokN
          rcases w3 with ⟨w3, _⟩ | ⟨a2, w3, w4, _⟩
          · cases w3
          · cases w3; have := w4.1; omega
        · rw [ok_ex q] at hokN
          rcases hokN with ⟨w, _, _⟩ | ⟨a2, _, _, w, _, _, w4, _⟩
          · exact absurd rfl (w a)
          · cases w; have := w4.1; omega
      obtain ⟨rfl, rfl, hv⟩ := hsh
      have hv := hv.toV (fun zs z => by cases z)
      have hBa : B a := by
        cases p with
        | list ps => obtain ⟨_, _, a2, e, hA, _⟩ := hv; cases e; exact hA.1
        | dict kvs =>
          rcases hv with ⟨_, _, e⟩ | ⟨_, a2, _, e, hA, _⟩
          · cases e
          · cases e; exact hA.1
        | none => cases hv
        | bool b => cases hv
        | int b => cases hv
        | str b => cases hv.1
        | tuple b => obtain ⟨_, e, _⟩ := hv; cases e
      obtain ⟨q, hq⟩ := H a hBa ha
      have hq2 : Val (fun _ => True) old S q (.lst a) := by have := Val.app (more := S) _ _ hq; simpa using this
      have hpq := Val.det p q _ hv hq2
      subst hpq
      refine ⟨.lst a, [], [], by simp only [tidy]; rw [if_pos ha], inv1 up ((ok_sh rfl).mpr ⟨rfl, (Val.both (S2 := []) p _ hv hq).toF⟩) .nil noCell⟩
    · -- a new one
      have hnew : ∃ ps xs, p = .list ps ∧ NewL old S a xs ∧ Vals (fun _ => True) old S ps xs ∧ (k1.t = .tb → D.pureAll xs = true → xs = []) := by
        rcases kt_or k1.t with q | q | q
        · rw [ok_sh q] at hokN
          have w : ValF (Al B old as k1.c) old S p (.lst a) := hokN.2
          have w2 := w.toV (fun zs z => by cases z)
          cases p with
          | list ps =>
            obtain ⟨xs, w3, a2, e, hA, h4⟩ := w2
            cases e
            refine ⟨ps, xs, rfl, ⟨by omega, ?_⟩, Vals.mono (fun _ _ => trivial) _ _ w3, fun z => by rw [q] at z; cases z⟩
            unfold at_ at h4
            rwa [List.getElem?_append_right (by omega)] at h4
          | dict kvs =>
            rcases w2 with ⟨_, _, e⟩ | ⟨ns, a2, _, e, _, h4⟩
            · cases e
            · cases e
              unfold at_ at h4
              rw [List.getElem?_append_right (by omega)] at h4
              obtain ⟨ys, hy⟩ := h.ls _ (List.mem_of_getElem? h4)
              cases hy
          | none => cases w2
          | bool b => cases w2
          | int b => cases w2
          | str b => cases w2.1
          | tuple b => obtain ⟨_, e, _⟩ := w2; cases e
        · rw [ok_tb q] at hokN
          obtain ⟨ps, zs, bs, w1, w2, w3⟩ := hokN
          rcases w3 with ⟨w3, _⟩ | ⟨a2, w3, w4, _⟩
          · cases w3
          · cases w3
            refine ⟨ps, zs, w1, w4, w2.vals fun _ _ => trivial, fun _ hx => ?_⟩
            cases ps with
            | nil => exact w2.1
            | cons p ps =>
              obtain ⟨_, _, _, _, _, _, _, _, _, w5, _⟩ := w2
              rw [w5] at hx; simp [D.pureAll, D.pure] at hx
        · rw [ok_ex q] at hokN
          rcases hokN with ⟨w, _, _⟩ | ⟨a2, ps, xs, w, w1, _, w4, w5⟩
          · exact absurd rfl (w a)
          · cases w
            exact ⟨ps, xs, w1, w4, Vals.mono (fun _ _ => trivial) _ _ w5, fun z => by rcases q with q | q <;> (rw [q] at z; cases z)⟩
      obtain ⟨ps, xs, hps, hNL, hv, htb⟩ := hnew
      have ht : tidy old (.lst a) S = if D.pureAll xs then .ok (.tmp xs) [] else .ok (.lst a) S := by
        simp only [tidy]
        rw [if_neg ha, hNL.2]
      by_cases hx : D.pureAll xs = true
      · obtain ⟨as2, hi⟩ := tmpPure xs ps hps hx hv (fun z => htb z hx)
        exact ⟨_, [], as2, by rw [ht, if_pos hx], hi⟩
      · refine ⟨_, S, as, by rw [ht, if_neg hx], same fun z => ?_⟩
        cases hf : flatP p with
        | false => rfl
        | true => exact absurd (flat_pure xs ps hps hv hf) hx
  · -- no list
    have hv : ValF (Al B old as k1.c) old S p d ∧ k1.t ≠ .tb ∧ as = [] := by
      rcases kt_or k1.t with q | q | q
      · rw [ok_sh q] at hokN; exact ⟨hokN.2, by rw [q]; exact fun z => (by cases z), hokN.1⟩
      · rw [ok_tb q] at hokN
        obtain ⟨ps, zs, bs, w1, w2, w3⟩ := hokN
        rcases w3 with ⟨w3, _⟩ | ⟨a2, w3, w4, _⟩
        · exact absurd ⟨_, w3⟩ htmp
        · exact absurd ⟨_, w3⟩ hlst
      · rw [ok_ex q] at hokN
        rcases hokN with ⟨_, w1, w2⟩ | ⟨a2, ps, xs, w, w1, _, w4, w5⟩
        · exact ⟨w2, fun z => by rcases q with q | q <;> (rw [q] at z; cases z), w1⟩
        · exact absurd ⟨_, w⟩ hlst
    obtain ⟨hv, hkt, rfl⟩ := hv
    have hv := hv.toV (fun zs z => htmp ⟨zs, z⟩)
    have hfl : flatP p = false := by
      cases p with
      | list ps => obtain ⟨_, _, a, e, _⟩ := hv; exact absurd ⟨a, e⟩ hlst
      | _ => rfl
    have ht : tidy old d S = if d.pure then .ok d [] else .ok d S := by
      cases d with
      | tmp xs => exact absurd ⟨xs, rfl⟩ htmp
      | lst a => exact absurd ⟨a, rfl⟩ hlst
      | _ => rfl
    have hk2 : flK p k1 = k1 := by
      obtain ⟨t, c⟩ := k1
      cases t <;> cases c <;> try rfl
      show (if flatP p = true then (⟨.ex, true⟩ : K) else ⟨.sh, true⟩) = _
      rw [if_neg (by rw [hfl]; decide)]
    rw [hk2]
    by_cases hd : d.pure = true
    · refine ⟨d, [], [], by rw [ht, if_pos hd], inv1 up ?_ .nil noCell⟩
      have hvn := (Val.dpure (Q := Al B old [] k1.c) old [] p d hd hv).toF
      rcases kt_or k1.t with q | q | q
      · exact (ok_sh (e := ⟨d, p, k1, []⟩) q).mpr ⟨rfl, hvn⟩
      · exact absurd q hkt
      · exact (ok_ex (e := ⟨d, p, k1, []⟩) q).mpr (.inl ⟨fun a z => hlst ⟨a, z⟩, rfl, hvn⟩)
    · exact ⟨d, S, [], by rw [ht, if_neg hd], hN⟩
/-! calls of the text's defs -/
def gStart (n : Nat) (As : List Ent) : Gs := As.map some ++ List.replicate (n - As.length) none
theorem live_start (n : Nat) (As : List Ent) : live (gStart n As) = As := by
  unfold live gStart
  rw [List.filterMap_append]
  have h1 : ∀ m : Nat, (List.replicate m (none : Option Ent)).filterMap id = [] := fun m => by induction m with
    | zero => rfl
    | succ m ih => rw [List.replicate_succ]; simpa using ih
  rw [h1, List.append_nil]
  induction As with
  | nil => rfl
  | cons a As ih => simpa using ih
theorem start_st {n : Nat} {As T : List Ent} (hi : Inv B old S (As ++ T)) (ht : ∀ e ∈ As, ∀ zs, e.d ≠ .tmp zs) : StG B old S (start n (As.map Ent.d)) (vstart n (As.map fun e => (e.p, e.k))) T (gStart n As) := by
  refine ⟨?_, ⟨?_, fun i e he => ?_⟩, ?_⟩
  · simp [vstart, vOf, gStart, List.map_append, List.map_map]
  · simp [gStart, start]
  · unfold gStart at he
    unfold start
    by_cases hlt : i < As.length
    · rw [List.getElem?_append_left (by simpa using hlt), List.getElem?_map] at he
      obtain ⟨x, h1, h2⟩ := Option.map_eq_some_iff.mp he
      cases h2
      rw [List.getElem?_append_left (by simpa using hlt), List.getElem?_map, List.getElem?_map, h1]
      exact ⟨rfl, ht _ (List.mem_of_getElem? h1)⟩
    · rw [List.getElem?_append_right (by simp; omega), List.getElem?_replicate] at he
      split at he <;> cases he
  · rw [live_start]; exact hi.perm List.perm_append_comm
theorem vOf_take (G : Gs) (n : Nat) : (vOf G).take n = vOf (G.take n) := by simp only [vOf, List.map_take]
theorem live_takeS (G : Gs) (n : Nat) : (live (G.take n)).Sublist (live G) := (List.take_sublist n G).filterMap id
theorem finC_ok {cp : Nat → List D → Sto → Z.R D} {ci : Nat → List D → Sto → Sto → Z.R D} {w : VO} {o : O} {env0 : Env} {R : List Nat} (up : ∀ a, old.length ≤ a → B a) (H : ∀ a, B a → a < old.length → ∃ q, Val (fun _ => True) old [] q (.lst a)) (h : SOk B old [] R env0 o w) : match finC w with
    | .ok p k => ∃ d more as, (match fin o with
      | .ok r more => tidy old r more
      | .exc c _ => .exc c []
      | .bad => .bad) = .ok d more ∧ Inv B old more [⟨d, p, k, as⟩]
    | .exc c => ∃ more, (match fin o with
      | .ok r more => tidy old r more
      | .exc c _ => .exc c []
      | .bad => .bad) = .exc c more
    | .bad => True := by
  cases w with
  | rt p k v =>
    obtain ⟨d, as, env, S, G, rfl, q⟩ := h
    exact y_tidy_ok up H (q.st.inv.sub (List.Sublist.cons_cons _ (List.nil_sublist _)))
  | nx v =>
    obtain ⟨env, S, G, rfl, q⟩ := h
    exact ⟨.non, [], [], rfl, inv1 up ((ok_ex (.inl rfl)).mpr (.inl ⟨nl_non, rfl, rfl⟩)) .nil noCell⟩
  | exc c v =>
    obtain ⟨env, S, G, rfl, q⟩ := h
    exact ⟨[], rfl⟩
  | bk v => trivial
  | ct v => trivial
  | bad => trivial
theorem retI_inv {F : List Ent} {as : List Nat} (h : Inv B old S (⟨d, p, k, as⟩ :: F)) : ∃ as2, Inv B old S (⟨d, p, retI p k, as2⟩ :: F) := by
  unfold retI
  by_cases hp : pur p = true
  · rw [if_pos hp]
    have hok := h.ok _ (.head _)
    have hv : Val (fun _ => True) old S p d := by
      rcases kt_or k.t with q | q | q
      · rw [ok_sh q] at hok; exact Val.mono (fun _ _ => trivial) _ _ (hok.2.toV (pure_nt hp hok.2))
      · rw [ok_tb q] at hok
        obtain ⟨ps, _, _, w, _⟩ := hok
        have w : p = .list ps := w
        rw [w] at hp; simp [pur] at hp
      · rw [ok_ex q] at hok
        rcases hok with ⟨_, _, w⟩ | ⟨_, ps, _, _, w, _⟩
        · exact Val.mono (fun _ _ => trivial) _ _ (w.toV (pure_nt hp w))
        · have w : p = .list ps := w
          rw [w] at hp; simp [pur] at hp
    have hd := Val.isPure p d hp hv
    exact ⟨[], h.repl (List.nil_sublist _) ((ok_ex (e := ⟨d, p, top0, []⟩) (.inl rfl)).mpr (.inl ⟨pure_nl hd, rfl, (Val.dpure old S p d hd hv).toF⟩))⟩
  · rw [if_neg hp]; exact ⟨as, h.nK⟩
theorem finI_ok {w : VO} {o : O} {env0 : Env} {R : List Nat} {T : List Ent} {n : Nat} {ds : List D} (hds : ∀ i d, env0[i]? = some (some d) → i < n → ds[i]? = some d) (h : SOk B old T R env0 o w) : match finI w n with
    | .ok p k outs => ∃ d S' as Go, fin o = .ok d S' ∧ Inv B old S' (⟨d, p, k, as⟩ :: (T ++ live Go)) ∧ outs = vOf Go ∧ ∀ (i : Nat) (e : Ent), Go[i]? = some (some e) → R.contains i = true → ds[i]? = some e.d
    | .exc c outs => ∃ S' Go, fin o = .exc c S' ∧ Inv B old S' (T ++ live Go) ∧ outs = vOf Go ∧ ∀ (i : Nat) (e : Ent), Go[i]? = some (some e) → R.contains i = true → ds[i]? = some e.d
    | .bad => True := by
  have hk : ∀ {S : Sto} {v : VEnv} {T2 : List Ent} {env : Env} {G : Gs}, Hn B old T2 R env0 env S v G → ∀ (i : Nat) (e : Ent), (G.take n)[i]? = some (some e) → R.contains i = true → ds[i]? = some e.d := by
    intro S v T2 env G q i e he hi
    rw [List.getElem?_take] at he
    split at he
    · rename_i hin
      have h1 := (q.st.sl.at_ i e he).1
      rw [q.kept i hi] at h1
      exact hds i _ h1 hin
    · cases he
  cases w with
  | rt p k v =>
    obtain ⟨d, as, env, S, G, rfl, q⟩ := h
    have hi : Inv B old S (⟨d, p, k, as⟩ :: (T ++ live (G.take n))) := q.st.inv.sub (List.Sublist.cons_cons _ ((List.Sublist.refl _).append (live_takeS G n)))
    obtain ⟨as2, h2⟩ := retI_inv hi
    exact ⟨d, S, as2, G.take n, rfl, h2, by rw [q.st.eq, vOf_take], hk q⟩
  | nx v =>
    obtain ⟨env, S, G, rfl, q⟩ := h
    have hi : Inv B old S (T ++ live (G.take n)) := q.st.inv.sub ((List.Sublist.refl _).append (live_takeS G n))
    exact ⟨.non, S, [], G.take n, rfl, hi.add rfl ((ok_ex (.inl rfl)).mpr (.inl ⟨nl_non, rfl, rfl⟩)), by rw [q.st.eq, vOf_take], hk q⟩
  | exc c v =>
    obtain ⟨env, S, G, rfl, q⟩ := h
    exact ⟨S, G.take n, rfl, q.st.inv.sub ((List.Sublist.refl _).append (live_takeS G n)), by rw [q.st.eq, vOf_take], hk q⟩
  | bk v => trivial
  | ct v => trivial
  | bad => trivial
theorem Vals.ents {B : Nat → Prop} {o : Sto} : ∀ {ps : List PyData} {ds : List D}, Vals B o [] ps ds → ∃ As : List Ent, ds = As.map Ent.d ∧ (ps.map fun p => (p, (⟨.sh, pur p⟩ : K))) = As.map (fun e => (e.p, e.k)) ∧ (∀ e ∈ As, ∀ zs, e.d ≠ .tmp zs) ∧ ∀ e ∈ As, e.as = [] ∧ e.k = ⟨.sh, pur e.p⟩ ∧ Val B o [] e.p e.d
  | [], ds, h => ⟨[], h, rfl, fun e he => (by cases he), fun e he => (by cases he)⟩
  | p :: ps, ds, ⟨x, xs, e, h1, h2⟩ => by
    obtain ⟨As, a1, a2, a3, a4⟩ := h2.ents
    refine ⟨⟨x, p, ⟨.sh, pur p⟩, []⟩ :: As, by rw [e, a1]; rfl, by rw [List.map_cons, a2]; rfl, fun e he => ?_, fun e he => ?_⟩
    · rcases List.mem_cons.mp he with q | q
      · rw [q]; exact h1.nt
      · exact a3 e q
    · rcases List.mem_cons.mp he with q | q
      · rw [q]; exact ⟨rfl, rfl, h1⟩
      · exact a4 e q
/-- THE RULE: what the values' evaluation tells, the store's one does -/
theorem calls_ok (G : VT) : ∀ d : Nat, CpOk (cP G.G d) (vP G d) ∧ CiOk (cI G.G d) (vI G d) G.io
  | 0 => ⟨⟨fun f ps ds B o _ _ _ => by simp only [vP]⟩, ⟨fun f As B old S T _ _ => by simp only [vI]⟩⟩
  | d + 1 => by
    obtain ⟨Hc, Hi⟩ := calls_ok G d
    refine ⟨⟨fun f ps ds B o up H hv => ?_⟩, ⟨fun f As B old S T hi ht => ?_⟩⟩
    · simp only [vP, cP]
      cases hf : G.G.fns f with
      | none => trivial
      | some fn =>
        simp only
        have hl := hv.len
        by_cases har : Nat.beq ps.length fn.ar = true
        · rw [if_pos har, if_pos (by rw [hl]; exact har)]
          obtain ⟨As, rfl, a2, a3, a4⟩ := hv.ents
          rw [a2]
          have hfm : As.flatMap Ent.as = [] := List.flatMap_eq_nil_iff.mpr fun e he => (a4 e he).1
          have hinv : Inv B o [] (As ++ []) := by
            rw [List.append_nil]
            refine ⟨by rw [hfm]; exact .nil, fun e he => ?_, noCell, up⟩
            rw [hfm]
            obtain ⟨b1, b2, b3⟩ := a4 e he
            refine (ok_sh (by rw [b2])).mpr ⟨b1, ?_⟩
            by_cases hp : pur e.p = true
            · exact (Val.up hp b3).toF
            · refine (Val.mono (fun a ha => ⟨ha, fun q => ?_, fun q => by cases q⟩) _ _ b3).toF
              rw [b2] at q; exact absurd q hp
          have hst := start_st (n := fn.n) hinv a3
          have := exs_sim (R := []) (M := G.mu f) (fu := G.G.fu) Hc Hi trivial fn.body _ [] _ [] _ hst
          exact finC_ok (cp := cP G.G d) (ci := cI G.G d) up H this
        · rw [if_neg har]; trivial
    · simp only [vI, cI]
      cases hf : G.G.fns f with
      | none => trivial
      | some fn =>
        simp only
        by_cases har : Nat.beq (As.map fun e => (e.p, e.k)).length fn.ar = true
        · rw [if_pos har, if_pos (by simpa using har)]
          have hst := start_st (n := fn.n) hi ht
          have := exs_sim (R := G.io f) (M := G.mu f) (fu := G.G.fu) Hc Hi trivial fn.body _ T _ S _ hst
          have hn : As.length = fn.ar := by simpa [Nat.beq_eq_true_eq] using har
          refine finI_ok (n := fn.ar) (ds := As.map Ent.d) (fun i x hx hin => ?_) this
          unfold start at hx
          rw [List.getElem?_append_left (by simp; omega), List.getElem?_map] at hx
          obtain ⟨y, h1, h2⟩ := Option.map_eq_some_iff.mp hx
          cases h2
          exact h1
        · rw [if_neg har]; trivial
/-- a law told by its values -/
theorem law_of (G : VT) {d f : Nat} {ns : List Int} {k : K} {outs : VEnv} {gv : Sto} (hg : gv = [.ro (ns.map D.int)]) (h : vI G d f [(.dict (roK ns), ⟨.sh, false⟩)] = .ok (.bool true) k outs) : ∃ S, cI G.G d f [.lst 0] gv [] = .ok (.bl true) S := by
  subst hg
  have := (calls_ok G d).2.ok f [⟨.lst 0, .dict (roK ns), ⟨.sh, false⟩, []⟩] (fun _ => True) [.ro (ns.map D.int)] [] [] ?_ (fun e he => by rw [List.mem_singleton.mp he]; exact fun zs q => by cases q)
  · simp only [List.map_cons, List.map_nil] at this
    rw [h] at this
    obtain ⟨d', S', as, Go, e1, e2, _⟩ := this
    have hok := e2.ok _ (.head _)
    have hv : ValF (fun _ => True) [.ro (ns.map D.int)] S' (.bool true) d' := by
      rcases kt_or k.t with q | q | q
      · rw [ok_sh q] at hok; exact ValF.mono (fun _ _ => trivial) hok.2
      · rw [ok_tb q] at hok
        obtain ⟨ps, _, _, w, _⟩ := hok
        cases w
      · rw [ok_ex q] at hok
        rcases hok with ⟨_, _, w⟩ | ⟨_, _, _, _, w, _⟩
        · exact ValF.mono (fun _ _ => trivial) w
        · cases w
    have hv : d' = .bl true := hv
    exact ⟨S', by rw [e1, hv]⟩
  · refine ⟨.nil, fun e he => ?_, noCell, fun _ _ => trivial⟩
    have he : e = ⟨.lst 0, .dict (roK ns), ⟨.sh, false⟩, []⟩ := by simpa using he
    subst he
    refine (ok_sh rfl).mpr ⟨rfl, ?_⟩
    exact Val.toF (.inr ⟨ns, 0, rfl, rfl, ⟨trivial, fun q => (by cases q), fun q => by cases q⟩, rfl⟩)
end
end Z
/-! Y10: evaluation of values by simp, one step a lemma. -/
namespace Z
open PySem
section
variable {α β γ : Type} {cp : Nat → List PyData → RC} {ci : Nat → List (PyData × K) → RI} {io : Nat → List Nat} {M R : List Nat} {fu : Nat} {v v1 : VEnv} {p q : PyData} {k : K} {i j n : Nat} {c c2 : Bool}
@[simp] theorem vb_ok {a : α} {f : α → VEnv → VR β} : vb (.ok a v) f = f a v := (rfl)
@[simp] theorem vb_exc {e : Nat} {f : α → VEnv → VR β} : vb (.exc e v : VR α) f = .exc e v := (rfl)
@[simp] theorem optR_s {a : α} {f : α → VR β} : optR (some a) f = f a := (rfl)
@[simp] theorem optO_s {a : α} {f : α → VO} : optO (some a) f = f a := (rfl)
@[simp] theorem vbO_ok {a : α} {f : α → VEnv → VO} : vbO (.ok a v) f = f a v := (rfl)
@[simp] theorem vbO_exc {e : Nat} {f : α → VEnv → VO} : vbO (.exc e v : VR α) f = .exc e v := (rfl)
@[simp] theorem brV_t {x y : VR α} : brV true x y = x := (rfl)
@[simp] theorem brV_f {x y : VR α} : brV false x y = y := (rfl)
@[simp] theorem brW_t {x y : VO} : brW true x y = x := (rfl)
@[simp] theorem brW_f {x y : VO} : brW false x y = y := (rfl)
@[simp] theorem rdv_v {f : PyData → Bool → VEnv → VR β} : rdv (.v p ⟨.sh, c⟩) v f = f p c v := (rfl)
@[simp] theorem rdv_x {f : PyData → Bool → VEnv → VR β} : rdv (.v p ⟨.ex, c⟩) v f = f p c v := (rfl)
@[simp] theorem rdv_0 {f : PyData → Bool → VEnv → VR β} : rdv (.v p top0) v f = f p true v := (rfl)
@[simp] theorem rd_v : (Vo.v p ⟨.sh, c⟩).rd v = some (p, c, v) := (rfl)
@[simp] theorem rd_x : (Vo.v p ⟨.ex, c⟩).rd v = some (p, c, v) := (rfl)
@[simp] theorem rd_0 : (Vo.v p top0).rd v = some (p, true, v) := (rfl)
@[simp] theorem escv_v {f : PyData → K → VEnv → VR β} : escv (.v p k) v f = f p k v := (rfl)
@[simp] theorem esc_v : (Vo.v p k).esc v = some ((p, k), v) := (rfl)
@[simp] theorem top0_t : top0.t = .ex := (rfl)
@[simp] theorem top0_c : top0.c = true := (rfl)
theorem top0_eq : (⟨.ex, true⟩ : K) = top0 := (rfl)
/-- names -/
theorem ent_s {x : PyData × K} (h : v[i]? = some (some x)) : ent v i = some x := by unfold ent; rw [h]
def entO (x : Option (Option (PyData × K))) : Option (PyData × K) := match x with
  | some o => o
  | none => none
@[simp] theorem entO_s {x : Option (PyData × K)} : entO (some x) = x := (rfl)
@[simp] theorem ent_u : ent v i = entO v[i]? := by unfold ent entO; cases v[i]? <;> rfl
def rdE (v : VEnv) (i : Nat) (x : Option (PyData × K)) : Option (PyData × Bool × VEnv) := match x with
  | some (p, ⟨.tb, _⟩) => some (p, true, v.set i (some (p, ⟨.ex, true⟩)))
  | some (p, ⟨_, c⟩) => some (p, c, v)
  | none => none
@[simp] theorem rdE_x : rdE v i (some (p, ⟨.ex, c⟩)) = some (p, c, v) := (rfl)
@[simp] theorem rdE_0 : rdE v i (some (p, top0)) = some (p, true, v) := (rfl)
@[simp] theorem rdE_s : rdE v i (some (p, ⟨.sh, c⟩)) = some (p, c, v) := (rfl)
@[simp] theorem rdE_t : rdE v i (some (p, ⟨.tb, c⟩)) = some (p, true, v.set i (some (p, top0))) := (rfl)
@[simp] theorem rd_top : (Vo.top i).rd v = rdE v i (ent v i) := (rfl)
def rdF (f : PyData → Bool → VEnv → VR β) (x : Option (PyData × Bool × VEnv)) : VR β := match x with
  | some (p, c, v1) => f p c v1
  | none => .bad
@[simp] theorem rdF_s {f : PyData → Bool → VEnv → VR β} : rdF f (some (p, c, v)) = f p c v := (rfl)
@[simp] theorem rdv_top {f : PyData → Bool → VEnv → VR β} : rdv (.top i) v f = rdF f (rdE v i (ent v i)) := (rfl)
def escE (v : VEnv) (i : Nat) (x : Option (PyData × K)) : Option ((PyData × K) × VEnv) := match x with
  | some (p, ⟨.lk, _⟩) => none
  | some (p, ⟨_, c⟩) => some ((p, ⟨.sh, c⟩), v.set i (some (p, ⟨.sh, c⟩)))
  | none => none
@[simp] theorem escE_x : escE v i (some (p, ⟨.ex, c⟩)) = some ((p, ⟨.sh, c⟩), v.set i (some (p, ⟨.sh, c⟩))) := (rfl)
@[simp] theorem escE_0 : escE v i (some (p, top0)) = some ((p, ⟨.sh, true⟩), v.set i (some (p, ⟨.sh, true⟩))) := (rfl)
@[simp] theorem escE_t : escE v i (some (p, ⟨.tb, c⟩)) = some ((p, ⟨.sh, c⟩), v.set i (some (p, ⟨.sh, c⟩))) := (rfl)
@[simp] theorem esc_top : (Vo.top i).esc v = escE v i (ent v i) := (rfl)
def escB (x : Option ((PyData × K) × VEnv)) (f : PyData → K → VEnv → VR β) : VR β := match x with
  | some ((p, k), v1) => f p k v1
  | none => .bad
@[simp] theorem escB_s {f : PyData → K → VEnv → VR β} : escB (some ((p, k), v)) f = f p k v := (rfl)
@[simp] theorem escv_top {f : PyData → K → VEnv → VR β} : escv (.top i) v f = escB (escE v i (ent v i)) f := (rfl)
@[simp] theorem mvR_v : mvR R (.v p k) v = some ((p, k), v) := (rfl)
def mvE (R : List Nat) (v : VEnv) (i : Nat) (x : Option (PyData × K)) : Option ((PyData × K) × VEnv) := match x with
  | some (p, ⟨.ex, c⟩) => if R.contains i = true then escE v i (ent v i) else some ((p, ⟨.ex, c⟩), v.set i none)
  | _ => escE v i (ent v i)
@[simp] theorem mvE_x : mvE R v i (some (p, ⟨.ex, c⟩)) = if R.contains i = true then escE v i (ent v i) else some ((p, ⟨.ex, c⟩), v.set i none) := (rfl)
@[simp] theorem mvE_0 : mvE R v i (some (p, top0)) = if R.contains i = true then escE v i (ent v i) else some ((p, top0), v.set i none) := (rfl)
@[simp] theorem mvE_t : mvE R v i (some (p, ⟨.tb, c⟩)) = escE v i (ent v i) := (rfl)
@[simp] theorem mvR_top : mvR R (.top i) v = mvE R v i (ent v i) := (rfl)
@[simp] theorem varV_s : varV i p ⟨.sh, c⟩ v = .ok (.v p ⟨.sh, c⟩) v := (rfl)
@[simp] theorem varV_x : varV i p ⟨.ex, c⟩ v = if pur p = true then .ok (.v p top0) v else .ok (.top i) v := (rfl)
@[simp] theorem varV_0 : varV i p top0 v = if pur p = true then .ok (.v p top0) v else .ok (.top i) v := (rfl)
@[simp] theorem varV_t : varV i p ⟨.tb, c⟩ v = if pur p = true then .ok (.v p top0) v else .ok (.top i) v := (rfl)
/-- kinds -/
@[simp] theorem nK_s : nK p ⟨.sh, c⟩ = ⟨.sh, c || pur p⟩ := (rfl)
@[simp] theorem nK_x : nK p ⟨.ex, c⟩ = ⟨.ex, c || (pur p || flatP p)⟩ := (rfl)
@[simp] theorem nK_0 : nK p top0 = top0 := (rfl)
@[simp] theorem nK_tb : nK p ⟨.tb, c⟩ = ⟨.tb, c⟩ := (rfl)
@[simp] theorem exK_x : exK ⟨.ex, c⟩ = some c := (rfl)
@[simp] theorem exK_0 : exK top0 = some true := (rfl)
@[simp] theorem exK_tb : exK ⟨.tb, c⟩ = some true := (rfl)
@[simp] theorem pur_int {z : Int} : pur (.int z) = true := (rfl)
@[simp] theorem pur_bool {z : Bool} : pur (.bool z) = true := (rfl)
@[simp] theorem pur_none : pur .none = true := (rfl)
@[simp] theorem pur_str {z : Str} : pur (.str z) = true := (rfl)
@[simp] theorem pur_list {xs : List PyData} : pur (.list xs) = false := (rfl)
@[simp] theorem pur_tuple {xs : List PyData} : pur (.tuple xs) = purs xs := by simp only [pur]
@[simp] theorem pur_dict {xs : List (PyData × PyData)} : pur (.dict xs) = false := (rfl)
@[simp] theorem purs_nil : purs [] = true := (rfl)
@[simp] theorem purs_cons {xs : List PyData} : purs (p :: xs) = (pur p && purs xs) := by simp only [purs]
@[simp] theorem flat_list {xs : List PyData} : flatP (.list xs) = purs xs := (rfl)
@[simp] theorem flat_int {z : Int} : flatP (.int z) = false := (rfl)
@[simp] theorem flat_tuple {xs : List PyData} : flatP (.tuple xs) = false := (rfl)
theorem purs_all : ∀ {xs : List PyData}, purs xs = xs.all pur
  | [] => rfl
  | x :: xs => by rw [purs, List.all_cons, purs_all]
@[simp] theorem purs_map {f : α → PyData} {xs : List α} (h : ∀ x, pur (f x) = true) : purs (xs.map f) = true := by
  rw [purs_all, List.all_map, List.all_eq_true]; exact fun x _ => h x
@[simp] theorem purs_append : ∀ {xs ys : List PyData}, purs (xs ++ ys) = (purs xs && purs ys)
  | [], ys => by simp
  | x :: xs, ys => by simp [purs_append, Bool.and_assoc]
@[simp] theorem setK_eq : setK M i p k = if M.contains i = true then nK p k else ⟨.sh, (nK p k).c⟩ := (rfl)
/-- statements -/
@[simp] theorem vxs_nil : vxs cp ci io M R fu .nil v = .nx v := by rw [vxs]
@[simp] theorem thV_nx {f : VEnv → VO} : thV (.nx v) f = f v := (rfl)
@[simp] theorem thV_rt {f : VEnv → VO} : thV (.rt p k v) f = .rt p k v := (rfl)
@[simp] theorem thV_exc {f : VEnv → VO} : thV (.exc n v) f = .exc n v := (rfl)
@[simp] theorem thV_bk {f : VEnv → VO} : thV (.bk v) f = .bk v := (rfl)
@[simp] theorem thV_ct {f : VEnv → VO} : thV (.ct v) f = .ct v := (rfl)
def blk (cp : Nat → List PyData → RC) (ci : Nat → List (PyData × K) → RI) (io : Nat → List Nat) (M R : List Nat) (fu : Nat) (b : B) (v : VEnv) : VO := vxs cp ci io M R fu b v
theorem blk_ap {b : B} : blk cp ci io M R fu b v = vxs cp ci io M R fu b v := rfl
@[simp] theorem vxs_seq {t : T} {b : B} : vxs cp ci io M R fu (.seq t b) v = thV (vx cp ci io M R fu t v) (blk cp ci io M R fu b) := by
  rw [vxs]; cases vx cp ci io M R fu t v <;> rfl
@[simp] theorem blk_nil : blk cp ci io M R fu .nil v = .nx v := by rw [blk, vxs]
@[simp] theorem blk_seq {t : T} {b : B} : blk cp ci io M R fu (.seq t b) v = thV (vx cp ci io M R fu t v) (blk cp ci io M R fu b) := vxs_seq
@[simp] theorem vx_set {e : E} : vx cp ci io M R fu (.set i e) v = if R.contains i = true then .bad else vbO (vev cp ci io e v) fun x v1 => optO (x.esc v1) fun r => .nx (r.2.set i (some (r.1.1, setK M i r.1.1 r.1.2))) := by rw [vx]
@[simp] theorem vx_unp {is : List Nat} {e : E} : vx cp ci io M R fu (.unp is e) v = if is.any (R.contains ·) = true then .bad else vbO (vev cp ci io e v) fun x v1 => optO (x.esc v1) fun r => optO (tgV r.1.2.c (.tu is) r.1.1 r.2) fun v2 => .nx v2 := by rw [vx]
@[simp] theorem vx_exp {e : E} : vx cp ci io M R fu (.exp e) v = vbO (vev cp ci io e v) fun _ v1 => .nx v1 := by rw [vx]
@[simp] theorem vx_ret {e : E} : vx cp ci io M R fu (.ret e) v = vbO (vev cp ci io e v) fun x v1 => optO (mvR R x v1) fun r => .rt r.1.1 r.1.2 r.2 := by rw [vx]
@[simp] theorem vx_retn : vx cp ci io M R fu .retn v = .rt .none top0 v := by rw [vx]
@[simp] theorem vx_ife {e : E} {a b : B} : vx cp ci io M R fu (.ife e a b) v = vbO (vev cp ci io e v) fun x v1 => optO (x.rd v1) fun q => optO (truP q.1) fun r => brW r (blk cp ci io M R fu a q.2.2) (blk cp ci io M R fu b q.2.2) := by rw [vx]; rfl
/-- a loop's turn -/
def lturn (cp : Nat → List PyData → RC) (ci : Nat → List (PyData × K) → RI) (io : Nat → List Nat) (M R : List Nat) (fu : Nat) (tg : Tg) (c : Bool) (b : B) (x : PyData) (v : VEnv) : VO := optO (tgV c tg x v) (blk cp ci io M R fu b)
theorem lturn_ap {tg : Tg} {b : B} : lturn cp ci io M R fu tg c b p v = optO (tgV c tg p v) (blk cp ci io M R fu b) := rfl
@[simp] theorem vx_fo {it : I} {tg : Tg} {b : B} : vx cp ci io M R fu (.fo it tg b) v = if tg.nms.any (R.contains ·) = true then .bad else vbO (vevi cp ci io it v) fun j v1 => optO (escL j.os v1) fun v2 => vfl v2 (lturn cp ci io M R fu tg j.c b) j.xs v2 := by rw [vx]; rfl
@[simp] theorem vx_wh {e : E} {b : B} : vx cp ci io M R fu (.wh e b) v = vwl v (fun v => vevc cp ci io (.of e) v) (fun v => vxs cp ci io M R fu b v) fu v := by rw [vx]
def augX (i : Nat) (o : Op) (n : Int) (q : PyData) (v : VEnv) : VO := optO (opP o (.int n) q) fun r => match r with
  | .int m => .nx (v.set i (some (.int m, ⟨.sh, true⟩)))
  | _ => .bad
def augE (i : Nat) (x : Option (PyData × K)) (f : Int → VO) : VO := match x with
  | some (.int n, _) => f n
  | _ => .bad
@[simp] theorem augE_i {z : Int} {f : Int → VO} : augE i (some (.int z, k)) f = f z := (rfl)
@[simp] theorem augX_ {o : Op} {z : Int} {q : PyData} : augX i o z q v = optO (opP o (.int z) q) fun r => match r with
  | .int m => .nx (v.set i (some (.int m, ⟨.sh, true⟩)))
  | _ => .bad := (rfl)
@[simp] theorem vx_aug {o : Op} {e : E} : vx cp ci io M R fu (.aug i o e) v = if R.contains i = true then .bad else augE i (ent v i) fun z => vbO (vev cp ci io e v) fun y v1 => optO (y.rd v1) fun q => augX i o z q.1 q.2.2 := by
  rw [vx]; rfl
@[simp] theorem vx_rai : vx cp ci io M R fu (.rai n) v = .exc n v := by rw [vx]
@[simp] theorem vx_brk : vx cp ci io M R fu .brk v = .bk v := by rw [vx]
@[simp] theorem vx_cnt : vx cp ci io M R fu .cnt v = .ct v := by rw [vx]
@[simp] theorem vx_par {is : List Nat} {es : Es} : vx cp ci io M R fu (.par is es) v = if is.any (R.contains ·) = true then .bad else vbO (vevs cp ci io es v) fun ps v1 => optO (parV M is ps v1) fun v2 => .nx v2 := by rw [vx]
def putF (y : Nat) (p : PyData) (kc : Bool) (KV : VEnv → VO) (n : Int) (v : VEnv) (x : Option (PyData × K)) : VO := match x with
  | some (.list xs, k2) => optO (exK k2) fun c => optO (ixN xs.length n) fun m => KV (v.set y (some (.list (xs.set m p), nK (.list (xs.set m p)) ⟨.ex, c && kc⟩)))
  | _ => .bad
@[simp] theorem putF_l {y : Nat} {kc : Bool} {KV : VEnv → VO} {n : Int} {xs : List PyData} : putF y p kc KV n v (some (.list xs, k)) = optO (exK k) fun c => optO (ixN xs.length n) fun m => KV (v.set y (some (.list (xs.set m p), nK (.list (xs.set m p)) ⟨.ex, c && kc⟩))) := (rfl)
def putG (y : Nat) (p : PyData) (kc : Bool) (KV : VEnv → VO) (q : PyData) (v : VEnv) : VO := match q with
  | .int n => putF y p kc KV n v (ent v y)
  | _ => .bad
@[simp] theorem putG_i {y : Nat} {kc : Bool} {KV : VEnv → VO} {n : Int} : putG y p kc KV (.int n) v = putF y p kc KV n v (ent v y) := (rfl)
@[simp] theorem putY_eq {y : Nat} {i : E} {KV : VEnv → VO} : putY cp ci io y p k i v KV = if isLs v y = true then vbO (vev cp ci io i v) fun j v3 => optO (j.rd v3) fun q => putG y p (nK p k).c KV q.1 q.2.2 else .bad := by
  unfold putY
  split
  · refine congrArg _ (funext fun j => funext fun v3 => congrArg _ (funext fun q => ?_))
    obtain ⟨q, c, v4⟩ := q
    cases q <;> try rfl
    simp only [putG, putF]
    cases ent v4 y with
    | none => rfl
    | some x => obtain ⟨p, k⟩ := x; cases p <;> rfl
  · rfl
def puttX (cp : Nat → List PyData → RC) (ci : Nat → List (PyData × K) → RI) (io : Nat → List Nat) (y y2 : Nat) (i i2 : E) (ps : List (PyData × K)) (v : VEnv) : VO := match ps with
  | [(p, k), (p2, k2)] => putY cp ci io y p k i v fun v2 => putY cp ci io y2 p2 k2 i2 v2 fun v3 => .nx v3
  | _ => .bad
@[simp] theorem puttX_2 {y y2 : Nat} {i i2 : E} {p2 : PyData} {k2 : K} : puttX cp ci io y y2 i i2 [(p, k), (p2, k2)] v = putY cp ci io y p k i v fun v2 => putY cp ci io y2 p2 k2 i2 v2 fun v3 => .nx v3 := (rfl)
@[simp] theorem vev_isi2 {a : E} : vev cp ci io (.isi2 a) v = vb (vev cp ci io a v) fun x v1 => rdv x v1 fun p _ v2 => optR (isi2P p) fun r => .ok (.v (.bool r) top0) v2 := by rw [vev]
@[simp] theorem vev_ise {a : E} {cs : List Nat} : vev cp ci io (.ise a cs) v = vb (vev cp ci io a v) fun x v1 => rdv x v1 fun p _ v2 => optR (excN p) fun k => .ok (.v (.bool (cs.contains k)) top0) v2 := by rw [vev]
@[simp] theorem excN_p {k : Nat} : excN (excP k) = some k := by
  show (if (0 : Int) ≤ (k : Int) then some ((k : Int).toNat) else none) = _
  rw [if_pos (by omega), Int.toNat_natCast]
@[simp] theorem isi2_l {xs : List PyData} : isi2P (.list xs) = some true := (rfl)
@[simp] theorem isi2_t {xs : List PyData} : isi2P (.tuple xs) = some true := (rfl)
/-- what a try makes of its body -/
def treV (o : VO) (cs : List Nat) (f : Nat → VEnv → VO) : VO := match o with
  | .exc k v => if cs.contains k = true then f k v else .exc k v
  | o => o
@[simp] theorem treV_exc {k : Nat} {cs : List Nat} {f : Nat → VEnv → VO} : treV (.exc k v) cs f = if cs.contains k = true then f k v else .exc k v := (rfl)
@[simp] theorem treV_nx {cs : List Nat} {f : Nat → VEnv → VO} : treV (.nx v) cs f = .nx v := (rfl)
@[simp] theorem treV_rt {k : K} {cs : List Nat} {f : Nat → VEnv → VO} : treV (.rt p k v) cs f = .rt p k v := (rfl)
@[simp] theorem scalO_ok {o : Vo} {v3 : VEnv} : scalO (.ok o v3) v = optO (o.rd v3) fun q => if scalP q.1 = true then .rt q.1 top0 v else .bad := (rfl)
@[simp] theorem scalP_b {b : Bool} : scalP (.bool b) = true := (rfl)
@[simp] theorem scalP_s {x : Str} : scalP (.str x) = true := (rfl)
@[simp] theorem scalP_i {x : Int} : scalP (.int x) = true := (rfl)
@[simp] theorem vx_tre {b : B} {i : Nat} {cs : List Nat} {e : E} : vx cp ci io M R fu (.tre b i cs e) v = if R.contains i = true then .bad else treV (vxs cp ci io M R fu b v) cs fun k v2 => scalO (vev cp ci io e (v2.set i (some (excP k, ⟨.sh, false⟩)))) v2 := by
  rw [vx]
  split
  · rfl
  · cases vxs cp ci io M R fu b v <;> rfl
@[simp] theorem vx_putt {y y2 : Nat} {i i2 e e2 : E} : vx cp ci io M R fu (.putt (.var y) i (.var y2) i2 e e2) v = vbO (vevs cp ci io (.cons e (.cons e2 .nil)) v) fun ps v1 => puttX cp ci io y y2 i i2 ps v1 := by rw [vx] <;> rfl
@[simp] theorem parV_nil : parV M [] [] v = some v := (rfl)
@[simp] theorem parV_cons {is : List Nat} {ps : List (PyData × K)} : parV M (i :: is) ((p, k) :: ps) v = parV M is ps (v.set i (some (p, setK M i p k))) := (rfl)
@[simp] theorem vx_pas : vx cp ci io M R fu .pas v = .nx v := by rw [vx]
def lsE (x : Option (PyData × K)) : Bool := match x with
  | some (.list _, _) => true
  | _ => false
@[simp] theorem lsE_l {xs : List PyData} : lsE (some (.list xs, k)) = true := (rfl)
@[simp] theorem isLs_ : isLs v i = lsE (ent v i) := (rfl)
theorem vx_put {e e2 : E} {y : Nat} : vx cp ci io M R fu (.put (.var y) e2 e) v = vbO (vev cp ci io e v) fun x v1 => optO (x.esc v1) fun r => if isLs r.2 y = true then vbO (vev cp ci io e2 r.2) fun j v3 => optO (j.rd v3) fun q => (match q.1, ent q.2.2 y with
      | .int n, some (.list xs, k) => optO (exK k) fun c => optO (ixN xs.length n) fun m => .nx (q.2.2.set y (some (.list (xs.set m r.1.1), nK (.list (xs.set m r.1.1)) ⟨.ex, c && (nK r.1.1 r.1.2).c⟩)))
      | _, _ => .bad) else .bad := by rw [vx] <;> rfl
/-- what is put at a place of a list -/
def putV1 (v : VEnv) (y : Nat) (p : PyData) (kc : Bool) (q : PyData) : VO := match q, ent v y with
  | .int n, some (.list xs, k) => optO (exK k) fun c => optO (ixN xs.length n) fun m => .nx (v.set y (some (.list (xs.set m p), nK (.list (xs.set m p)) ⟨.ex, c && kc⟩)))
  | _, _ => .bad
@[simp] theorem vx_put1 {e e2 : E} {y : Nat} : vx cp ci io M R fu (.put (.var y) e2 e) v = vbO (vev cp ci io e v) fun x v1 => optO (x.esc v1) fun r => if isLs r.2 y = true then vbO (vev cp ci io e2 r.2) fun j v3 => optO (j.rd v3) fun q => putV1 q.2.2 y r.1.1 (nK r.1.1 r.1.2).c q.1 else .bad := by rw [vx_put]; rfl
def putE (v : VEnv) (y : Nat) (p : PyData) (kc : Bool) (z : Int) (x : Option (PyData × K)) : VO := match x with
  | some (.list xs, k) => optO (exK k) fun c => optO (ixN xs.length z) fun m => .nx (v.set y (some (.list (xs.set m p), nK (.list (xs.set m p)) ⟨.ex, c && kc⟩)))
  | _ => .bad
@[simp] theorem putE_l {y : Nat} {kc : Bool} {z : Int} {xs : List PyData} : putE v y p kc z (some (.list xs, k)) = optO (exK k) fun c => optO (ixN xs.length z) fun m => .nx (v.set y (some (.list (xs.set m p), nK (.list (xs.set m p)) ⟨.ex, c && kc⟩))) := (rfl)
@[simp] theorem putV1_i {y : Nat} {kc : Bool} {z : Int} : putV1 v y p kc (.int z) = putE v y p kc z (ent v y) := by
  unfold putV1
  cases ent v y with
  | none => rfl
  | some x => obtain ⟨p, k⟩ := x; cases p <;> rfl
/-- expressions -/
def varE (i : Nat) (v : VEnv) (x : Option (PyData × K)) : VR Vo := match x with
  | some (p, k) => varV i p k v
  | none => .bad
@[simp] theorem varE_s : varE i v (some (p, k)) = varV i p k v := (rfl)
@[simp] theorem vev_var : vev cp ci io (.var i) v = varE i v (ent v i) := by rw [vev]; rfl
@[simp] theorem vev_int {z : Int} : vev cp ci io (.lit (.int z)) v = .ok (.v (.int z) top0) v := by rw [vev]; rfl
@[simp] theorem vev_bool {z : Bool} : vev cp ci io (.lit (.bl z)) v = .ok (.v (.bool z) top0) v := by rw [vev]; rfl
@[simp] theorem vev_none : vev cp ci io (.lit .non) v = .ok (.v .none top0) v := by rw [vev]; rfl
@[simp] theorem vev_gint {z : Int} : vev cp ci io (.glo (.int z)) v = .ok (.v (.int z) top0) v := by rw [vev]; rfl
theorem vev_glo {d : D} : vev cp ci io (.glo d) v = optR (litP d) fun p => .ok (.v p top0) v := by rw [vev]
theorem vev_lit {d : D} : vev cp ci io (.lit d) v = optR (litP d) fun p => .ok (.v p top0) v := by rw [vev]
@[simp] theorem vev_bin {o : Op} {a b : E} : vev cp ci io (.bin o a b) v = vb (vev cp ci io a v) fun x v1 => vb (vev cp ci io b v1) fun y v2 => rdv x v2 fun p c v3 => rdv y v3 fun q e v4 => optR (opP o p q) fun r => .ok (.v r ⟨.ex, c && e⟩) v4 := by rw [vev]
def negP (p : PyData) (v : VEnv) : VR Vo := match p with
  | .int i => .ok (.v (.int (-i)) top0) v
  | _ => .bad
@[simp] theorem negP_i {z : Int} : negP (.int z) v = .ok (.v (.int (-z)) top0) v := (rfl)
@[simp] theorem vev_neg {a : E} : vev cp ci io (.neg a) v = vb (vev cp ci io a v) fun x v1 => rdv x v1 fun p _ v2 => negP p v2 := by rw [vev]; rfl
@[simp] theorem vev_cmp {o : Cm} {a b : E} : vev cp ci io (.cmp o a b) v = vb (vev cp ci io a v) fun x v1 => vb (vev cp ci io b v1) fun y v2 => rdv x v2 fun p _ v3 => rdv y v3 fun q _ v4 => optR (cmpP o p q) fun r => .ok (.v (.bool r) top0) v4 := by rw [vev]
@[simp] theorem vev_chn {o o2 : Cm} {a b e : E} : vev cp ci io (.chn o o2 a b e) v = vb (vev cp ci io a v) fun x v1 => vb (vev cp ci io b v1) fun y v2 => rdv x v2 fun px _ v3 => rdv y v3 fun py _ v4 => optR (cmpP o px py) fun r =>
      brV r (vb (vev cp ci io e v4) fun z v5 => rdv y v5 fun py _ v6 => rdv z v6 fun pz _ v7 => optR (cmpP o2 py pz) fun r => .ok (.v (.bool r) top0) v7) (.ok (.v (.bool false) top0) v4) := by rw [vev]
def asBo (p : PyData) : Option Bool := match p with
  | .bool b => some b
  | _ => none
@[simp] theorem asBo_b {z : Bool} : asBo (.bool z) = some z := (rfl)
@[simp] theorem vev_and {a b : E} : vev cp ci io (.and a b) v = vb (vev cp ci io a v) fun x v1 => rdv x v1 fun p _ v2 => optR (asBo p) fun r => brV r (vev cp ci io b v2) (.ok (.v (.bool false) top0) v2) := by
  rw [vev]
  refine congrArg _ (funext fun x => funext fun v1 => congrArg _ (funext fun p => funext fun c => funext fun v2 => ?_))
  cases p <;> rfl
@[simp] theorem vev_or {a b : E} : vev cp ci io (.or a b) v = vb (vev cp ci io a v) fun x v1 => rdv x v1 fun p _ v2 => optR (asBo p) fun r => brV r (.ok (.v (.bool true) top0) v2) (vev cp ci io b v2) := by
  rw [vev]
  refine congrArg _ (funext fun x => funext fun v1 => congrArg _ (funext fun p => funext fun c => funext fun v2 => ?_))
  cases p <;> rfl
@[simp] theorem vev_not {a : E} : vev cp ci io (.not a) v = vb (vev cp ci io a v) fun x v1 => rdv x v1 fun p _ v2 => optR (asBo p) fun r => .ok (.v (.bool !r) top0) v2 := by
  rw [vev]
  refine congrArg _ (funext fun x => funext fun v1 => congrArg _ (funext fun p => funext fun c => funext fun v2 => ?_))
  cases p <;> rfl
@[simp] theorem vev_ife {a b e : E} : vev cp ci io (.ife e a b) v = vb (vev cp ci io e v) fun x v1 => rdv x v1 fun p _ v2 => optR (truP p) fun r => brV r (vev cp ci io a v2) (vev cp ci io b v2) := by rw [vev]
@[simp] theorem vev_tup {es : Es} : vev cp ci io (.tup es) v = vb (vevs cp ci io es v) fun ps v1 => if SL ps.length then .ok (.v (.tuple (ps.map (·.1))) ⟨.ex, ps.all fun e => (nK e.1 e.2).c⟩) v1 else .bad := by rw [vev]
@[simp] theorem vev_lst {es : Es} : vev cp ci io (.lst es) v = vb (vevs cp ci io es v) fun ps v1 => if SL ps.length then .ok (.v (.list (ps.map (·.1))) ⟨.ex, ps.all fun e => (nK e.1 e.2).c⟩) v1 else .bad := by rw [vev]; rfl
@[simp] theorem isTbx_var {a : Nat} {b : E} : isTbx (.var a) b v = false := (rfl)
theorem vev_idx0 {a b : E} (h : isTbx a b v = false) : vev cp ci io (.idx a b) v = vb (vev cp ci io a v) fun x v1 => vb (vev cp ci io b v1) fun y v2 => rdv y v2 fun q _ v3 => rdv x v3 fun p c v4 => optR (idxP p q) fun r => .ok (.v r ⟨.sh, c⟩) v4 := vev_idxN (by rw [h]; decide)
@[simp] theorem vev_idxv {a : Nat} {b : E} : vev cp ci io (.idx (.var a) b) v = vb (vev cp ci io (.var a) v) fun x v1 => vb (vev cp ci io b v1) fun y v2 => rdv y v2 fun q _ v3 => rdv x v3 fun p c v4 => optR (idxP p q) fun r => .ok (.v r ⟨.sh, c⟩) v4 := vev_idx0 rfl
@[simp] theorem vev_idxl {es : Es} {b : E} : vev cp ci io (.idx (.lst es) b) v = vb (vev cp ci io (.lst es) v) fun x v1 => vb (vev cp ci io b v1) fun y v2 => rdv y v2 fun q _ v3 => rdv x v3 fun p c v4 => optR (idxP p q) fun r => .ok (.v r ⟨.sh, c⟩) v4 := vev_idx0 rfl
@[simp] theorem vev_idxc {f : Nat} {es : Es} {b : E} : vev cp ci io (.idx (.call f es) b) v = vb (vev cp ci io (.call f es) v) fun x v1 => vb (vev cp ci io b v1) fun y v2 => rdv y v2 fun q _ v3 => rdv x v3 fun p c v4 => optR (idxP p q) fun r => .ok (.v r ⟨.sh, c⟩) v4 := vev_idx0 rfl
@[simp] theorem vev_idxm {own : List Nat} {it : I} {tg : Tg} {co : Eo} {el b : E} : vev cp ci io (.idx (.comp own it tg co el) b) v = vb (vev cp ci io (.comp own it tg co el) v) fun x v1 => vb (vev cp ci io b v1) fun y v2 => rdv y v2 fun q _ v3 => rdv x v3 fun p c v4 => optR (idxP p q) fun r => .ok (.v r ⟨.sh, c⟩) v4 := vev_idx0 rfl
@[simp] theorem vev_idxg {d : D} {b : E} : vev cp ci io (.idx (.glo d) b) v = vb (vev cp ci io (.glo d) v) fun x v1 => vb (vev cp ci io b v1) fun y v2 => rdv y v2 fun q _ v3 => rdv x v3 fun p c v4 => optR (idxP p q) fun r => .ok (.v r ⟨.sh, c⟩) v4 := vev_idx0 rfl
@[simp] theorem vev_idxt {es : Es} {b : E} : vev cp ci io (.idx (.tup es) b) v = vb (vev cp ci io (.tup es) v) fun x v1 => vb (vev cp ci io b v1) fun y v2 => rdv y v2 fun q _ v3 => rdv x v3 fun p c v4 => optR (idxP p q) fun r => .ok (.v r ⟨.sh, c⟩) v4 := vev_idx0 rfl
/-- no table -/
def noTb (v : VEnv) (x : Nat) : Bool := match ent v x with
  | some (_, ⟨.tb, _⟩) => false
  | _ => true
def ntE (x : Option (PyData × K)) : Bool := match x with
  | some (_, ⟨.tb, _⟩) => false
  | _ => true
@[simp] theorem ntE_s : ntE (some (p, ⟨.sh, c⟩)) = true := (rfl)
@[simp] theorem ntE_x : ntE (some (p, ⟨.ex, c⟩)) = true := (rfl)
@[simp] theorem ntE_0 : ntE (some (p, top0)) = true := (rfl)
@[simp] theorem noTb_ : noTb v i = ntE (ent v i) := (rfl)
@[simp] theorem vev_idxi {a : Nat} {b e : E} (h : noTb v a = true) : vev cp ci io (.idx (.idx (.var a) e) b) v = vb (vev cp ci io (.idx (.var a) e) v) fun x v1 => vb (vev cp ci io b v1) fun y v2 => rdv y v2 fun q _ v3 => rdv x v3 fun p c v4 => optR (idxP p q) fun r => .ok (.v r ⟨.sh, c⟩) v4 := by
  refine vev_idx0 ?_
  unfold isTbx
  unfold noTb at h
  simp only
  cases he : ent v a with
  | none => simp
  | some q =>
    obtain ⟨p, ⟨t, c⟩⟩ := q
    rw [he] at h
    cases t <;> simp at h ⊢
@[simp] theorem vev_sli {a : E} {lo hi : Eo} : vev cp ci io (.sli a lo hi) v = vb (vev cp ci io a v) fun x v1 => vb (vevo cp ci io lo v1) fun l v2 => vb (vevo cp ci io hi v2) fun h v3 => rdv x v3 fun p c v4 => optR (sliP p l h) fun r => .ok (.v r ⟨.ex, c⟩) v4 := by rw [vev]
def callX (cp : Nat → List PyData → RC) (f : Nat) (os : List Vo) (v : VEnv) : VR Vo := match rsv v os with
  | some (ps, cs) => callP (cp f ps) os cs v
  | none => .bad
theorem callX_s {f : Nat} {os : List Vo} {ps : List PyData} {cs : Bool} (h : rsv v os = some (ps, cs)) : callX cp f os v = callP (cp f ps) os cs v := by unfold callX; rw [h]
@[simp] theorem vev_call {f : Nat} {es : Es} : vev cp ci io (.call f es) v = vb (vevA cp ci io es v) fun os v1 => callX cp f os v1 := by rw [vev]; rfl
/-- the arguments one by one -/
def argsX (v : VEnv) : List Vo → List PyData → Bool → (List PyData → Bool → VR Vo) → VR Vo
  | [], ps, c, f => f ps c
  | o :: os, ps, c, f => match argV v o with
    | some (p, c2) => argsX v os (ps ++ [p]) (c && c2) f
    | none => .bad
@[simp] theorem argV_v : argV v (.v p k) = some (p, k.c || pur p) := (rfl)
@[simp] theorem argV_t : argV v (.top i) = (ent v i).map fun e => (e.1, e.2.c) := (rfl)
@[simp] theorem rsv_nil : rsv v [] = some ([], true) := (rfl)
def rsvC (x : Option (PyData × Bool)) (y : Option (List PyData × Bool)) : Option (List PyData × Bool) := match x with
  | none => none
  | some (p, c) => match y with
    | none => none
    | some (ps, cs) => some (p :: ps, c && cs)
@[simp] theorem rsvC_s {ps : List PyData} : rsvC (some (p, c)) (some (ps, c2)) = some (p :: ps, c && c2) := (rfl)
@[simp] theorem rsv_cons {o : Vo} {os : List Vo} : rsv v (o :: os) = rsvC (argV v o) (rsv v os) := (rfl)
def callY (cp : Nat → List PyData → RC) (f : Nat) (os : List Vo) (v : VEnv) (x : Option (List PyData × Bool)) : VR Vo := match x with
  | some (ps, cs) => callP (cp f ps) os cs v
  | none => .bad
@[simp] theorem callY_s {f : Nat} {os : List Vo} {ps : List PyData} : callY cp f os v (some (ps, c)) = callP (cp f ps) os c v := (rfl)
@[simp] theorem callX_eq {f : Nat} {os : List Vo} : callX cp f os v = callY cp f os v (rsv v os) := (rfl)
@[simp] theorem callP_0 {os : List Vo} : callP (.ok p top0) os c v = .ok (.v p top0) v := (rfl)
@[simp] theorem callP_c {os : List Vo} {t : KT} : callP (.ok p ⟨t, true⟩) os c v = .ok (.v p ⟨t, true⟩) v := (rfl)
def callD (p : PyData) (t : KT) (cs : Bool) (x : Option VEnv) : VR Vo := match x with
  | some v1 => .ok (.v p ⟨t, cs⟩) v1
  | none => .bad
@[simp] theorem callD_s {t : KT} : callD p t c (some v) = .ok (.v p ⟨t, c⟩) v := (rfl)
@[simp] theorem callP_f {os : List Vo} {t : KT} : callP (.ok p ⟨t, false⟩) os c v = if pur p = true then .ok (.v p ⟨t, true⟩) v else callD p t c (dgr os v) := by
  show (if (false || pur p) = true then _ else _) = _
  rw [Bool.false_or]; rfl
@[simp] theorem dgr_nil : dgr [] v = some v := (rfl)
@[simp] theorem dgr_v {os : List Vo} : dgr (.v p k :: os) v = dgr os v := (rfl)
def dgE (os : List Vo) (v : VEnv) (i : Nat) (x : Option (PyData × K)) : Option VEnv := match x with
  | some (p, ⟨.lk, _⟩) => none
  | some (p, ⟨_, c⟩) => dgr os (v.set i (some (p, ⟨.sh, c⟩)))
  | none => none
@[simp] theorem dgE_s {os : List Vo} : dgE os v i (some (p, ⟨.sh, c⟩)) = dgr os (v.set i (some (p, ⟨.sh, c⟩))) := (rfl)
@[simp] theorem dgE_x {os : List Vo} : dgE os v i (some (p, ⟨.ex, c⟩)) = dgr os (v.set i (some (p, ⟨.sh, c⟩))) := (rfl)
@[simp] theorem dgE_0 {os : List Vo} : dgE os v i (some (p, top0)) = dgr os (v.set i (some (p, ⟨.sh, true⟩))) := (rfl)
@[simp] theorem dgE_t {os : List Vo} : dgE os v i (some (p, ⟨.tb, c⟩)) = dgr os (v.set i (some (p, ⟨.sh, c⟩))) := (rfl)
@[simp] theorem dgr_top {os : List Vo} : dgr (.top i :: os) v = dgE os v i (ent v i) := by rw [dgr]; rfl
@[simp] theorem callP_e {os : List Vo} {e : Nat} : callP (.exc e) os c v = .exc e v := (rfl)
def callJ (ci : Nat → List (PyData × K) → RI) (f : Nat) (as : List Va) (x : Option (List (PyData × K) × VEnv)) : VR Vo := match x with
  | some (ps, v2) => callI (ci f ps) as v2
  | none => .bad
@[simp] theorem callJ_s {f : Nat} {as : List Va} {ps : List (PyData × K)} : callJ ci f as (some (ps, v)) = callI (ci f ps) as v := (rfl)
@[simp] theorem vev_calli {f : Nat} {es : Es} : vev cp ci io (.calli f es) v = vb (vevI cp ci io (io f) 0 es v) fun as v1 => callJ ci f as (mvIn as v1) := by rw [vev]; rfl
@[simp] theorem mvIn_nil : mvIn [] v = some ([], v) := (rfl)
def mvC (x : PyData × K) (y : Option (List (PyData × K) × VEnv)) : Option (List (PyData × K) × VEnv) := match y with
  | some (es, v1) => some (x :: es, v1)
  | none => none
@[simp] theorem mvC_s {x : PyData × K} {es : List (PyData × K)} : mvC x (some (es, v)) = some (x :: es, v) := (rfl)
@[simp] theorem mvIn_v {as : List Va} : mvIn (.v p k :: as) v = mvC (p, k) (mvIn as v) := (rfl)
def miE (as : List Va) (v : VEnv) (i : Nat) (x : Option (PyData × K)) : Option (List (PyData × K) × VEnv) := match x with
  | some (p, ⟨.ex, c⟩) => mvC (p, ⟨.ex, c⟩) (mvIn as (v.set i none))
  | _ => none
@[simp] theorem miE_x {as : List Va} : miE as v i (some (p, ⟨.ex, c⟩)) = mvC (p, ⟨.ex, c⟩) (mvIn as (v.set i none)) := (rfl)
@[simp] theorem miE_0 {as : List Va} : miE as v i (some (p, top0)) = mvC (p, top0) (mvIn as (v.set i none)) := (rfl)
@[simp] theorem mvIn_io {as : List Va} : mvIn (.io i :: as) v = miE as v i (ent v i) := (rfl)
@[simp] theorem callI_ok {as : List Va} {outs : VEnv} : callI (.ok p k outs) as v = .ok (.v p k) (mvOut as outs v) := (rfl)
@[simp] theorem callI_e {as : List Va} {outs : VEnv} {e : Nat} : callI (.exc e outs) as v = .exc e (mvOut as outs v) := (rfl)
@[simp] theorem mvOut_nil {os : VEnv} : mvOut [] os v = v := by cases os <;> rfl
@[simp] theorem mvOut_io {as : List Va} {o : Option (PyData × K)} {os : VEnv} : mvOut (.io i :: as) (o :: os) v = mvOut as os (v.set i (noLk o)) := (rfl)
@[simp] theorem mvOut_v {as : List Va} {o : Option (PyData × K)} {os : VEnv} : mvOut (.v p k :: as) (o :: os) v = mvOut as os v := (rfl)
@[simp] theorem noLk_x : noLk (some (p, ⟨.ex, c⟩)) = some (p, ⟨.ex, c⟩) := (rfl)
@[simp] theorem noLk_0 : noLk (some (p, top0)) = some (p, top0) := (rfl)
@[simp] theorem noLk_s : noLk (some (p, ⟨.sh, c⟩)) = some (p, ⟨.sh, c⟩) := (rfl)
@[simp] theorem vev_blt {f : Blt} {es : Es} : vev cp ci io (.blt f es) v = vb (vevR cp ci io es v) fun os v1 => optR (rdL os v1) fun q => optR (bltP f (q.1.map (·.1))) fun r => .ok (.v r ⟨.ex, q.1.all (·.2)⟩) q.2 := by rw [vev]
@[simp] theorem rdL_nil : rdL [] v = some ([], v) := (rfl)
def rdC (x : PyData × Bool) (y : Option (List (PyData × Bool) × VEnv)) : Option (List (PyData × Bool) × VEnv) := match y with
  | none => none
  | some (ps, v2) => some (x :: ps, v2)
@[simp] theorem rdC_s {x : PyData × Bool} {ps : List (PyData × Bool)} : rdC x (some (ps, v)) = some (x :: ps, v) := (rfl)
def rdB (x : Option (PyData × Bool × VEnv)) (os : List Vo) : Option (List (PyData × Bool) × VEnv) := match x with
  | none => none
  | some (p, c, v1) => rdC (p, c) (rdL os v1)
@[simp] theorem rdB_s {os : List Vo} : rdB (some (p, c, v)) os = rdC (p, c) (rdL os v) := (rfl)
@[simp] theorem rdL_cons {o : Vo} {os : List Vo} : rdL (o :: os) v = rdB (o.rd v) os := by
  simp only [rdL]; cases o.rd v <;> rfl
@[simp] theorem vev_isi {a : E} {t : Ty} : vev cp ci io (.isi a t) v = vb (vev cp ci io a v) fun x v1 => rdv x v1 fun p _ v2 => optR (isiP t p) fun r => .ok (.v (.bool r) top0) v2 := by rw [vev]
def metX (m : Met) (x : Nat) (ps : List (PyData × K)) (v : VEnv) : VR Vo := match ent v x with
  | some (.list xs, k) => optR (exK k) fun c => optR (metP m xs (ps.map (·.1))) fun r => .ok (.v r.2 ⟨.sh, c && ps.all fun e => (nK e.1 e.2).c⟩) (v.set x (some (.list r.1, nK (.list r.1) ⟨.ex, c && ps.all fun e => (nK e.1 e.2).c⟩)))
  | _ => .bad
def lookX (m : Met) (x : Nat) (ps : List (PyData × K)) (v : VEnv) : VR Vo := match ps with
  | [q] => rdv (.top x) v fun p _ v2 => (match p with
    | .list xs => optR (lookP m xs q.1) fun r => .ok (.v r top0) v2
    | _ => .bad)
  | _ => .bad
@[simp] theorem vev_met {m : Met} {x : Nat} {es : Es} : vev cp ci io (.met m (.var x) es) v = if isLs v x = true then vb (vevs cp ci io es v) fun ps v1 => if isLook m = true then lookX m x ps v1 else metX m x ps v1 else .bad := by
  rw [vev]
  split
  · refine congrArg _ (funext fun ps => funext fun v1 => ?_)
    split <;> rfl
  · rfl
@[simp] theorem isLook_a : isLook .append = false := (rfl)
@[simp] theorem isLook_p : isLook .pop = false := (rfl)
@[simp] theorem isLook_pa : isLook .popat = false := (rfl)
@[simp] theorem isLook_r : isLook .reverse = false := (rfl)
@[simp] theorem isLook_i : isLook .insert = false := (rfl)
@[simp] theorem isLook_rm : isLook .remove = false := (rfl)
@[simp] theorem isLook_c : isLook .clear = false := (rfl)
@[simp] theorem isLook_ix : isLook .index = true := (rfl)
@[simp] theorem isLook_ct : isLook .count = true := (rfl)
def metE (m : Met) (x : Nat) (ps : List (PyData × K)) (v : VEnv) (y : Option (PyData × K)) : VR Vo := match y with
  | some (.list xs, k) => optR (exK k) fun c => optR (metP m xs (ps.map (·.1))) fun r => .ok (.v r.2 ⟨.sh, c && ps.all fun e => (nK e.1 e.2).c⟩) (v.set x (some (.list r.1, nK (.list r.1) ⟨.ex, c && ps.all fun e => (nK e.1 e.2).c⟩)))
  | _ => .bad
@[simp] theorem metE_l {m : Met} {x : Nat} {ps : List (PyData × K)} {xs : List PyData} : metE m x ps v (some (.list xs, k)) = optR (exK k) fun c => optR (metP m xs (ps.map (·.1))) fun r => .ok (.v r.2 ⟨.sh, c && ps.all fun e => (nK e.1 e.2).c⟩) (v.set x (some (.list r.1, nK (.list r.1) ⟨.ex, c && ps.all fun e => (nK e.1 e.2).c⟩))) := (rfl)
@[simp] theorem metX_ {m : Met} {x : Nat} {ps : List (PyData × K)} : metX m x ps v = metE m x ps v (ent v x) := (rfl)
def lookE (m : Met) (q : PyData × K) (p : PyData) (v : VEnv) : VR Vo := match p with
  | .list xs => optR (lookP m xs q.1) fun r => .ok (.v r top0) v
  | _ => .bad
@[simp] theorem lookE_l {m : Met} {q : PyData × K} {xs : List PyData} : lookE m q (.list xs) v = optR (lookP m xs q.1) fun r => .ok (.v r top0) v := (rfl)
@[simp] theorem lookX_ {m : Met} {x : Nat} {q : PyData × K} : lookX m x [q] v = rdF (fun p _ v2 => lookE m q p v2) (rdE v x (ent v x)) := (rfl)
def extX (x : Nat) (q : PyData) (d : Bool) (v : VEnv) : VR Vo := match q with
  | .list ys => match ent v x with
    | some (.list xs, k) => optR (exK k) fun c => if SL (xs.length + ys.length) then .ok (.v .none top0) (v.set x (some (.list (xs ++ ys), nK (.list (xs ++ ys)) ⟨.ex, c && d⟩))) else .bad
    | _ => .bad
  | _ => .bad
@[simp] theorem vev_ext {x : Nat} {e : E} : vev cp ci io (.ext (.var x) e) v = if isLs v x = true then vb (vev cp ci io e v) fun z v1 => rdv z v1 fun q d v2 => extX x q d v2 else .bad := by rw [vev]; rfl
def extE (x : Nat) (ys : List PyData) (d : Bool) (v : VEnv) (y : Option (PyData × K)) : VR Vo := match y with
  | some (.list xs, k) => optR (exK k) fun c => if SL (xs.length + ys.length) then .ok (.v .none top0) (v.set x (some (.list (xs ++ ys), nK (.list (xs ++ ys)) ⟨.ex, c && d⟩))) else .bad
  | _ => .bad
@[simp] theorem extE_l {x : Nat} {d : Bool} {xs ys : List PyData} : extE x ys d v (some (.list xs, k)) = optR (exK k) fun c => if SL (xs.length + ys.length) then .ok (.v .none top0) (v.set x (some (.list (xs ++ ys), nK (.list (xs ++ ys)) ⟨.ex, c && d⟩))) else .bad := (rfl)
@[simp] theorem extX_ {x : Nat} {d : Bool} {ys : List PyData} : extX x (.list ys) d v = extE x ys d v (ent v x) := (rfl)
def srtX2 (p : PyData) (c rev : Bool) (v : VEnv) : VR Vo := match p with
  | .list xs => optR (srtP xs rev) fun ys => .ok (.v (.list ys) ⟨.ex, c⟩) v
  | _ => .bad
@[simp] theorem srtX2_l {xs : List PyData} {rev : Bool} : srtX2 (.list xs) c rev v = optR (srtP xs rev) fun ys => .ok (.v (.list ys) ⟨.ex, c⟩) v := (rfl)
@[simp] theorem vev_srt {a : E} {rev : Bool} : vev cp ci io (.srt a rev) v = vb (vev cp ci io a v) fun x v1 => rdv x v1 fun p c v2 => srtX2 p c rev v2 := by rw [vev]; rfl
def revX (p : PyData) (c : Bool) (v : VEnv) : VR Vo := match p with
  | .list xs => .ok (.v (.list xs.reverse) ⟨.ex, c⟩) v
  | _ => .bad
@[simp] theorem revX_l {xs : List PyData} : revX (.list xs) c v = .ok (.v (.list xs.reverse) ⟨.ex, c⟩) v := (rfl)
@[simp] theorem vev_rev {a : E} : vev cp ci io (.rev a) v = vb (vev cp ci io a v) fun x v1 => rdv x v1 fun p c v2 => revX p c v2 := by rw [vev]; rfl
/-- a comprehension's turn -/
def cturn (cp : Nat → List PyData → RC) (ci : Nat → List (PyData × K) → RI) (io : Nat → List Nat) (own : List Nat) (tg : Tg) (c : Bool) (cond : Eo) (elt : E) (x : PyData) (v : VEnv) : VR (Option (PyData × K)) :=
  optR (tgV c tg x v) fun v1 => vb (vevc cp ci io cond v1) fun b v2 => brV b (vb (vev cp ci io elt v2) fun o v3 => escv o v3 fun p k v4 => .ok (some (p, k)) (wipeV v4 own)) (.ok none (wipeV v2 own))
theorem cturn_ap {own : List Nat} {tg : Tg} {cond : Eo} {elt : E} {x : PyData} : cturn cp ci io own tg c cond elt x v = optR (tgV c tg x v) fun v1 => vb (vevc cp ci io cond v1) fun b v2 => brV b (vb (vev cp ci io elt v2) fun o v3 => escv o v3 fun p k v4 => .ok (some (p, k)) (wipeV v4 own)) (.ok none (wipeV v2 own)) := rfl
def compX (fr : Bool) (v1 : VEnv) (is : List Nat) (r : VR (List (PyData × K))) : VR Vo := match r with
  | .ok ys v3 => .ok (.v (.list (ys.map (·.1))) (lsK fr ys)) (backV v1 is v3)
  | _ => .bad
@[simp] theorem compX_ok {fr : Bool} {v1 v3 : VEnv} {is : List Nat} {ys : List (PyData × K)} : compX fr v1 is (.ok ys v3) = .ok (.v (.list (ys.map (·.1))) (lsK fr ys)) (backV v1 is v3) := (rfl)
@[simp] theorem vev_comp {own : List Nat} {it : I} {tg : Tg} {cond : Eo} {elt : E} : vev cp ci io (.comp own it tg cond elt) v = vb (vevi cp ci io it v) fun j v1 => if SL j.xs.length && tg.nms.all (own.contains ·) && unlike (tops j.os) then
      compX (frE elt) v1 (tops j.os) (vcl (cturn cp ci io own tg j.c cond elt) j.xs (wipeV (wipeV v1 (tops j.os)) own)) else .bad := by
  rw [vev]
  refine congrArg _ (funext fun j => funext fun v1 => ?_)
  split
  · have : compV own tg j.c (fun v => vevc cp ci io cond v) (fun v => vev cp ci io elt v) = cturn cp ci io own tg j.c cond elt := by
      funext x v
      unfold compV cturn
      cases tgV j.c tg x v <;> rfl
    rw [this]
    cases vcl (cturn cp ci io own tg j.c cond elt) j.xs (wipeV (wipeV v1 (tops j.os)) own) <;> rfl
  · rfl
@[simp] theorem vevo_no : vevo cp ci io .no v = .ok none v := by rw [vevo]
def intOf (p : PyData) : Option Int := match p with
  | .int i => some i
  | _ => none
@[simp] theorem intOf_i {z : Int} : intOf (.int z) = some z := (rfl)
@[simp] theorem vevo_of {e : E} : vevo cp ci io (.of e) v = vb (vev cp ci io e v) fun x v1 => rdv x v1 fun p _ v2 => optR (intOf p) fun i => .ok (some i) v2 := by
  rw [vevo]
  refine congrArg _ (funext fun x => funext fun v1 => congrArg _ (funext fun p => funext fun c => funext fun v2 => ?_))
  cases p <;> rfl
@[simp] theorem vevc_no : vevc cp ci io .no v = .ok true v := by rw [vevc]
@[simp] theorem vevc_of {e : E} : vevc cp ci io (.of e) v = vb (vev cp ci io e v) fun x v1 => rdv x v1 fun p _ v2 => optR (truP p) fun r => .ok r v2 := by rw [vevc]
@[simp] theorem vevs_nil : vevs cp ci io .nil v = .ok [] v := by rw [vevs]
@[simp] theorem vevs_cons {e : E} {es : Es} : vevs cp ci io (.cons e es) v = vb (vev cp ci io e v) fun x v1 => escv x v1 fun p k v2 => vb (vevs cp ci io es v2) fun ps v3 => .ok ((p, k) :: ps) v3 := by rw [vevs]
@[simp] theorem vevR_nil : vevR cp ci io .nil v = .ok [] v := by rw [vevR]
@[simp] theorem vevR_cons {e : E} {es : Es} : vevR cp ci io (.cons e es) v = vb (vev cp ci io e v) fun x v1 => vb (vevR cp ci io es v1) fun os v2 => .ok (x :: os) v2 := by rw [vevR]
@[simp] theorem vevA_nil : vevA cp ci io .nil v = .ok [] v := by rw [vevA]
@[simp] theorem vevA_cons {e : E} {es : Es} : vevA cp ci io (.cons e es) v = vb (vev cp ci io e v) fun x v1 => vb (vevA cp ci io es v1) fun os v3 => .ok (x :: os) v3 := by rw [vevA]
def ioA (x : Vo) (f : Va → VR (List Va)) : VR (List Va) := match x with
  | .top i => f (.io i)
  | .v p ⟨.ex, c⟩ => f (.v p ⟨.ex, c⟩)
  | .v p _ => f (.v p ⟨.sh, pur p⟩)
@[simp] theorem ioA_t {f : Va → VR (List Va)} : ioA (.top i) f = f (.io i) := (rfl)
@[simp] theorem ioA_x {f : Va → VR (List Va)} : ioA (.v p ⟨.ex, c⟩) f = f (.v p ⟨.ex, c⟩) := (rfl)
@[simp] theorem ioA_s {f : Va → VR (List Va)} : ioA (.v p ⟨.sh, c⟩) f = f (.v p ⟨.sh, pur p⟩) := (rfl)
@[simp] theorem ioA_0 {f : Va → VR (List Va)} : ioA (.v p top0) f = f (.v p top0) := (rfl)
@[simp] theorem vevI_nil {ios : List Nat} : vevI cp ci io ios n .nil v = .ok [] v := by rw [vevI]
@[simp] theorem vevI_cons {ios : List Nat} {e : E} {es : Es} : vevI cp ci io ios n (.cons e es) v = vb (vev cp ci io e v) fun x v1 => if ios.contains n = true then ioA x fun a => vb (vevI cp ci io ios (n + 1) es v1) fun os v3 => .ok (a :: os) v3
    else escv x v1 fun p k v2 => vb (vevI cp ci io ios (n + 1) es v2) fun os v3 => .ok (.v p ⟨.sh, pur p⟩ :: os) v3 := by
  rw [vevI]
  refine congrArg _ (funext fun x => funext fun v1 => ?_)
  split
  · cases x with
    | top i => rfl
    | v p k =>
      obtain ⟨t, c⟩ := k
      cases t <;> rfl
  · rfl
/-- what is walked -/
@[simp] theorem vevi_seq {e : E} : vevi cp ci io (.seq e) v = vb (vev cp ci io e v) fun x v1 => rdv x v1 fun p c v2 => optR (seqP p) fun xs => .ok ⟨xs, c, [x]⟩ v2 := by rw [vevi]
def rngP (p : PyData) (v : VEnv) : VR Vi := match p with
  | .int j => if decide (-4611686018427387904 ≤ j) && decide (j < 4611686018427387904) then .ok ⟨(List.range j.toNat).map fun k : Nat => .int (k : Int), true, []⟩ v else .bad
  | _ => .bad
@[simp] theorem rngP_i {z : Int} (h1 : -4611686018427387904 ≤ z) (h2 : z < 4611686018427387904) : rngP (.int z) v = .ok ⟨(List.range z.toNat).map fun k : Nat => .int (k : Int), true, []⟩ v := by simp [rngP, h1, h2]
@[simp] theorem vevi_rng1 {e : E} : vevi cp ci io (.rng1 e) v = vb (vev cp ci io e v) fun x v1 => rdv x v1 fun p _ v2 => rngP p v2 := by rw [vevi]; rfl
def rngP2 (p q : PyData) (v : VEnv) : VR Vi := match p, q with
    | .int i, .int j => if decide (-4611686018427387904 ≤ i) && decide (i < 4611686018427387904) && decide (-4611686018427387904 ≤ j) && decide (j < 4611686018427387904) then .ok ⟨(List.range (j - i).toNat).map fun k : Nat => .int (i + (k : Int)), true, []⟩ v else .bad
    | _, _ => .bad
@[simp] theorem rngP2_i {y z : Int} (h1 : -4611686018427387904 ≤ y) (h2 : y < 4611686018427387904) (h3 : -4611686018427387904 ≤ z) (h4 : z < 4611686018427387904) : rngP2 (.int y) (.int z) v = .ok ⟨(List.range (z - y).toNat).map fun k : Nat => .int (y + (k : Int)), true, []⟩ v := by simp [rngP2, h1, h2, h3, h4]
@[simp] theorem vevi_rng2 {a b : E} : vevi cp ci io (.rng2 a b) v = vb (vev cp ci io a v) fun x v1 => vb (vev cp ci io b v1) fun y v2 => rdv x v2 fun p _ v3 => rdv y v3 fun q _ v4 => rngP2 p q v4 := by rw [vevi]; rfl
@[simp] theorem vevi_enu {e : E} : vevi cp ci io (.enu e) v = vb (vev cp ci io e v) fun x v1 => rdv x v1 fun p c v2 => optR (seqP p) fun xs => .ok ⟨xs.zipIdx.map fun q => .tuple [.int (q.2 : Int), q.1], c, [x]⟩ v2 := by rw [vevi]
def zipP (p q : PyData) (c : Bool) (os : List Vo) (v : VEnv) : VR Vi := optR (seqP p) fun xs => optR (seqP q) fun ys => .ok ⟨(xs.zip ys).map fun q => .tuple [q.1, q.2], c, os⟩ v
@[simp] theorem zipP_l {xs ys : List PyData} {os : List Vo} : zipP (.list xs) (.list ys) c os v = .ok ⟨(xs.zip ys).map fun q => .tuple [q.1, q.2], c, os⟩ v := (rfl)
@[simp] theorem zipP_t {xs ys : List PyData} {os : List Vo} : zipP (.tuple xs) (.tuple ys) c os v = .ok ⟨(xs.zip ys).map fun q => .tuple [q.1, q.2], c, os⟩ v := (rfl)
@[simp] theorem zipP_tl {xs ys : List PyData} {os : List Vo} : zipP (.tuple xs) (.list ys) c os v = .ok ⟨(xs.zip ys).map fun q => .tuple [q.1, q.2], c, os⟩ v := (rfl)
@[simp] theorem zipP_lt {xs ys : List PyData} {os : List Vo} : zipP (.list xs) (.tuple ys) c os v = .ok ⟨(xs.zip ys).map fun q => .tuple [q.1, q.2], c, os⟩ v := (rfl)
@[simp] theorem vevi_zip {a b : E} : vevi cp ci io (.zip a b) v = vb (vev cp ci io a v) fun x v1 => vb (vev cp ci io b v1) fun y v2 => rdv x v2 fun p c v3 => rdv y v3 fun q d v4 => zipP p q (c && d) [x, y] v4 := by rw [vevi]; rfl
@[simp] theorem tops_nil : tops [] = [] := (rfl)
@[simp] theorem tops_v {os : List Vo} : tops (.v p k :: os) = tops os := (rfl)
@[simp] theorem tops_t {os : List Vo} : tops (.top i :: os) = i :: tops os := (rfl)
@[simp] theorem unlike_0 : unlike [] = true := (rfl)
@[simp] theorem unlike_1 : unlike [i] = true := by simp [unlike]
@[simp] theorem wipeV_nil : wipeV v [] = v := (rfl)
@[simp] theorem wipeV_cons {is : List Nat} : wipeV v (i :: is) = (wipeV v is).set i none := (rfl)
@[simp] theorem backV_nil : backV v1 [] v = v := (rfl)
@[simp] theorem backV_cons {is : List Nat} : backV v1 (i :: is) v = (backV v1 is v).set i (ent v1 i) := (rfl)
@[simp] theorem escL_nil : escL [] v = some v := (rfl)
@[simp] theorem escL_v {os : List Vo} : escL (.v p k :: os) v = escL os v := (rfl)
def escC (x : Option ((PyData × K) × VEnv)) (os : List Vo) : Option VEnv := match x with
  | some (_, v1) => escL os v1
  | none => none
@[simp] theorem escC_s {x : PyData × K} {os : List Vo} : escC (some (x, v)) os = escL os v := (rfl)
@[simp] theorem escL_t {os : List Vo} : escL (.top i :: os) v = escC ((Vo.top i).esc v) os := by simp only [escL]; cases (Vo.top i).esc v <;> rfl
@[simp] theorem tgV_nm : tgV c (.nm i) p v = some (v.set i (some (p, ⟨.sh, c || pur p⟩))) := (rfl)
@[simp] theorem tgV_tu {is : List Nat} {ps : List PyData} : tgV c (.tu is) (.tuple ps) v = setAllV c is ps v := (rfl)
@[simp] theorem setAllV_nil : setAllV c [] [] v = some v := (rfl)
@[simp] theorem setAllV_cons {is : List Nat} {ps : List PyData} : setAllV c (i :: is) (p :: ps) v = setAllV c is ps (v.set i (some (p, ⟨.sh, c || pur p⟩))) := (rfl)
@[simp] theorem nms_nm : (Tg.nm i).nms = [i] := (rfl)
@[simp] theorem nms_tu {is : List Nat} : (Tg.tu is).nms = is := (rfl)
@[simp] theorem scp_nil : scp [] v = [] := by cases v <;> rfl
@[simp] theorem scp_none {v0 : VEnv} {x : Option (PyData × K)} : scp (none :: v0) (x :: v) = none :: scp v0 v := (rfl)
@[simp] theorem scp_some {v0 : VEnv} {y : PyData × K} {x : Option (PyData × K)} : scp (some y :: v0) (x :: v) = x :: scp v0 v := (rfl)
theorem lsK_f {ys : List (PyData × K)} : lsK false ys = ⟨.ex, ys.all fun e => (nK e.1 e.2).c⟩ := (rfl)
/-! calls -/
theorem vP_run {G : VT} {f d : Nat} {fn : Fn} {ps : List PyData} (h : G.G.fns f = some fn) (hl : ps.length = fn.ar) : vP G (d + 1) f ps = finC (vxs (vP G d) (vI G d) G.io (G.mu f) [] G.G.fu fn.body (vstart fn.n (ps.map fun p => (p, ⟨.sh, pur p⟩)))) := by
  simp only [vP, h]
  rw [if_pos (by rw [hl]; exact Nat.beq_refl _)]
theorem vI_run {G : VT} {f d : Nat} {fn : Fn} {es : List (PyData × K)} (h : G.G.fns f = some fn) (hl : es.length = fn.ar) : vI G (d + 1) f es = finI (vxs (vP G d) (vI G d) G.io (G.mu f) (G.io f) G.G.fu fn.body (vstart fn.n es)) fn.ar := by
  simp only [vI, h]
  rw [if_pos (by rw [hl]; exact Nat.beq_refl _)]
@[simp] theorem finC_rt : finC (.rt p k v) = .ok p (retK p k) := (rfl)
@[simp] theorem finC_nx : finC (.nx v) = .ok .none top0 := (rfl)
@[simp] theorem finC_exc : finC (.exc n v) = .exc n := (rfl)
@[simp] theorem finI_rt : finI (.rt p k v) n = .ok p (retI p k) (v.take n) := (rfl)
@[simp] theorem finI_nx : finI (.nx v) n = .ok .none top0 (v.take n) := (rfl)
@[simp] theorem finI_exc {m : Nat} : finI (.exc m v) n = .exc m (v.take n) := (rfl)
@[simp] theorem retK_p (h : pur p = true) : retK p k = top0 := by unfold retK; rw [if_pos h]
@[simp] theorem retI_p (h : pur p = true) : retI p k = top0 := by unfold retI; rw [if_pos h]
@[simp] theorem retK_l {xs : List PyData} (h : purs xs = true) {t : KT} (ht : t = .sh ∨ t = .ex) : retK (.list xs) ⟨t, true⟩ = top0 := by
  unfold retK
  rcases ht with rfl | rfl <;> simp [flK, h, top0]
@[simp] theorem retK_0 : retK p top0 = top0 := by
  unfold retK
  split
  · rfl
  · rfl
@[simp] theorem retK_sf {xs : List PyData} : retK (.list xs) ⟨.sh, false⟩ = ⟨.sh, false⟩ := (rfl)
@[simp] theorem retI_0 : retI p top0 = top0 := by
  unfold retI
  split <;> rfl
/-! loops -/
/-- a loop's turn as the loop sees it -/
def nxs (v0 : VEnv) (o : VO) : VO := match o with
  | .nx v => .nx (scp v0 v)
  | .ct v => .nx (scp v0 v)
  | o => o
@[simp] theorem nxs_nx {v0 : VEnv} : nxs v0 (.nx v) = .nx (scp v0 v) := (rfl)
@[simp] theorem nxs_ct {v0 : VEnv} : nxs v0 (.ct v) = .nx (scp v0 v) := (rfl)
@[simp] theorem nxs_rt {v0 : VEnv} : nxs v0 (.rt p k v) = .rt p k v := (rfl)
theorem vfl_step {v0 : VEnv} {turn : PyData → VEnv → VO} {x : PyData} {xs : List PyData} (h : nxs v0 (turn x v) = .nx v1) : vfl v0 turn (x :: xs) v = vfl v0 turn xs v1 := by
  simp only [vfl]
  cases e : turn x v <;> rw [e] at h <;> simp only [nxs] at h <;> cases h <;> rfl
@[simp] theorem ixN_0 {n : Nat} (h : 0 < n) : ixN n 0 = some 0 := by simp only [ixN]; rw [if_pos (by omega), if_pos (by omega)]; rfl
@[simp] theorem ixN_1 {n : Nat} (h : 1 < n) : ixN n 1 = some 1 := by simp only [ixN]; rw [if_pos (by omega), if_pos (by omega)]; rfl
@[simp] theorem ixN_2 {n : Nat} (h : 2 < n) : ixN n 2 = some 2 := by simp only [ixN]; rw [if_pos (by omega), if_pos (by omega)]; rfl
@[simp] theorem ixN_3 {n : Nat} (h : 3 < n) : ixN n 3 = some 3 := by simp only [ixN]; rw [if_pos (by omega), if_pos (by omega)]; rfl
@[simp] theorem ixN_4 {n : Nat} (h : 4 < n) : ixN n 4 = some 4 := by simp only [ixN]; rw [if_pos (by omega), if_pos (by omega)]; rfl
@[simp] theorem ixN_5 {n : Nat} (h : 5 < n) : ixN n 5 = some 5 := by simp only [ixN]; rw [if_pos (by omega), if_pos (by omega)]; rfl
@[simp] theorem ixN_6 {n : Nat} (h : 6 < n) : ixN n 6 = some 6 := by simp only [ixN]; rw [if_pos (by omega), if_pos (by omega)]; rfl
@[simp] theorem ixN_7 {n : Nat} (h : 7 < n) : ixN n 7 = some 7 := by simp only [ixN]; rw [if_pos (by omega), if_pos (by omega)]; rfl
theorem idxP_lit {i : Nat} {xs : List PyData} : idxP (.list xs) (.int ((i : Nat) : Int)) = xs[i]? := by
  simp only [idxP, seqP, ixN]
  rw [if_pos (by omega)]
  by_cases h : i < xs.length
  · rw [if_pos (by omega)]; rfl
  · rw [if_neg (by omega), List.getElem?_eq_none (by omega)]
theorem idxP_litT {i : Nat} {xs : List PyData} : idxP (.tuple xs) (.int ((i : Nat) : Int)) = xs[i]? := idxP_lit (i := i) (xs := xs)
@[simp] theorem idxL_2 {xs : List PyData} : idxP (.list xs) (.int 2) = xs[2]? := idxP_lit (i := 2)
@[simp] theorem idxT_2 {xs : List PyData} : idxP (.tuple xs) (.int 2) = xs[2]? := idxP_litT (i := 2)
@[simp] theorem idxL_3 {xs : List PyData} : idxP (.list xs) (.int 3) = xs[3]? := idxP_lit (i := 3)
@[simp] theorem idxT_3 {xs : List PyData} : idxP (.tuple xs) (.int 3) = xs[3]? := idxP_litT (i := 3)
@[simp] theorem idxL_4 {xs : List PyData} : idxP (.list xs) (.int 4) = xs[4]? := idxP_lit (i := 4)
@[simp] theorem idxT_4 {xs : List PyData} : idxP (.tuple xs) (.int 4) = xs[4]? := idxP_litT (i := 4)
@[simp] theorem idxL_5 {xs : List PyData} : idxP (.list xs) (.int 5) = xs[5]? := idxP_lit (i := 5)
@[simp] theorem idxT_5 {xs : List PyData} : idxP (.tuple xs) (.int 5) = xs[5]? := idxP_litT (i := 5)
@[simp] theorem idxL_6 {xs : List PyData} : idxP (.list xs) (.int 6) = xs[6]? := idxP_lit (i := 6)
@[simp] theorem idxT_6 {xs : List PyData} : idxP (.tuple xs) (.int 6) = xs[6]? := idxP_litT (i := 6)
@[simp] theorem idxL_7 {xs : List PyData} : idxP (.list xs) (.int 7) = xs[7]? := idxP_lit (i := 7)
@[simp] theorem idxT_7 {xs : List PyData} : idxP (.tuple xs) (.int 7) = xs[7]? := idxP_litT (i := 7)
/-- behind a turn -/
def thF (v0 : VEnv) (o : VO) (f : VEnv → VO) : VO := match o with
  | .nx v1 => f (scp v0 v1)
  | .ct v1 => f (scp v0 v1)
  | .bk v1 => .nx (scp v0 v1)
  | o => o
theorem vfl_cons {v0 : VEnv} {turn : PyData → VEnv → VO} {x : PyData} {xs : List PyData} : vfl v0 turn (x :: xs) v = thF v0 (turn x v) (vfl v0 turn xs) := by
  simp only [vfl]
  cases turn x v <;> rfl
@[simp] theorem vfl_nil {v0 : VEnv} {turn : PyData → VEnv → VO} : vfl v0 turn [] v = .nx v := (rfl)
@[simp] theorem thF_nx {v0 v1 : VEnv} {f : VEnv → VO} : thF v0 (.nx v1) f = f (scp v0 v1) := (rfl)
@[simp] theorem thF_ct {v0 v1 : VEnv} {f : VEnv → VO} : thF v0 (.ct v1) f = f (scp v0 v1) := (rfl)
@[simp] theorem thF_bk {v0 v1 : VEnv} {f : VEnv → VO} : thF v0 (.bk v1) f = .nx (scp v0 v1) := (rfl)
@[simp] theorem thF_rt {v0 v1 : VEnv} {f : VEnv → VO} : thF v0 (.rt p k v1) f = .rt p k v1 := (rfl)
@[simp] theorem thF_exc {v0 v1 : VEnv} {f : VEnv → VO} {m : Nat} : thF v0 (.exc m v1) f = .exc m v1 := (rfl)
theorem vfl_fold {σ : Type} {v0 : VEnv} {turn : PyData → VEnv → VO} (mk : σ → VEnv) (a : α → PyData) (step : σ → α → σ) : ∀ (xs : List α) (s0 : σ), (∀ s, ∀ x ∈ xs, nxs v0 (turn (a x) (mk s)) = .nx (mk (step s x))) → vfl v0 turn (xs.map a) (mk s0) = .nx (mk (xs.foldl step s0))
  | [], s0, _ => rfl
  | x :: xs, s0, h => by
    rw [List.map_cons, vfl_step (h s0 x (.head _)), vfl_fold mk a step xs (step s0 x) fun s y hy => h s y (.tail _ hy)]
    rfl
theorem vfl_foldP {σ : Type} {v0 : VEnv} {turn : PyData → VEnv → VO} (mk : σ → VEnv) (a : α → PyData) (step : σ → α → σ) (P : Nat → σ → Prop) : ∀ (xs : List α) (n : Nat) (s0 : σ), P n s0 → (∀ n s, P n s → ∀ x ∈ xs, nxs v0 (turn (a x) (mk s)) = .nx (mk (step s x)) ∧ P (n + 1) (step s x)) → vfl v0 turn (xs.map a) (mk s0) = .nx (mk (xs.foldl step s0)) ∧ P (n + xs.length) (xs.foldl step s0)
  | [], n, s0, h0, _ => ⟨rfl, h0⟩
  | x :: xs, n, s0, h0, h => by
    obtain ⟨h1, h2⟩ := h n s0 h0 x (.head _)
    obtain ⟨h3, h4⟩ := vfl_foldP mk a step P xs (n + 1) (step s0 x) h2 fun n s hs y hy => h n s hs y (.tail _ hy)
    rw [List.map_cons, vfl_step h1, h3, List.length_cons, show n + (xs.length + 1) = n + 1 + xs.length by omega]
    exact ⟨rfl, h4⟩
theorem vfl_foldL {σ : Type} {v0 : VEnv} {turn : PyData → VEnv → VO} (mk : σ → VEnv) (a : α → PyData) (step : σ → α → σ) (m : σ → Nat) (I : σ → Prop) (N : Nat) (h : ∀ s x, m s < N → I s → nxs v0 (turn (a x) (mk s)) = .nx (mk (step s x)) ∧ m (step s x) ≤ m s + 1 ∧ I (step s x)) : ∀ (xs : List α) (s0 : σ) (v : VEnv), m s0 + xs.length ≤ N → I s0 → v = mk s0 → vfl v0 turn (xs.map a) v = .nx (mk (xs.foldl step s0)) ∧ m (xs.foldl step s0) ≤ m s0 + xs.length ∧ I (xs.foldl step s0)
  | [], s0, v, _, hi, hv => ⟨by rw [hv]; rfl, Nat.le_refl _, hi⟩
  | x :: xs, s0, v, hl, hi, hv => by
    subst hv
    rw [List.length_cons] at hl
    obtain ⟨h1, h2, h3⟩ := h s0 x (by omega) hi
    obtain ⟨h4, h5, h6⟩ := vfl_foldL mk a step m I N h xs (step s0 x) _ (by omega) h3 rfl
    rw [List.map_cons, vfl_step h1, h4, List.length_cons, List.foldl_cons]
    exact ⟨rfl, by omega, h6⟩
theorem vfl_const {v0 : VEnv} {turn : PyData → VEnv → VO} : ∀ (xs : List PyData), (∀ x ∈ xs, nxs v0 (turn x v) = .nx v) → vfl v0 turn xs v = .nx v
  | [], _ => rfl
  | x :: xs, h => by rw [vfl_step (h x (.head _)), vfl_const xs fun y hy => h y (.tail _ hy)]
theorem vfl_inv {v0 : VEnv} {turn : PyData → VEnv → VO} {I : VEnv → Prop} : ∀ (xs : List PyData) (v : VEnv), I v → (∀ x ∈ xs, ∀ v, I v → ∃ v1, nxs v0 (turn x v) = .nx v1 ∧ I v1) → ∃ v1, vfl v0 turn xs v = .nx v1 ∧ I v1
  | [], v, hi, _ => ⟨v, rfl, hi⟩
  | x :: xs, v, hi, h => by
    obtain ⟨v1, h1, h2⟩ := h x (.head _) v hi
    rw [vfl_step h1]
    exact vfl_inv xs v1 h2 fun y hy => h y (.tail _ hy)
theorem vfl_find {v0 : VEnv} {turn : PyData → VEnv → VO} (a : α → PyData) (P : α → Bool) (r : α → PyData) (kr : α → K) (w : α → VEnv) : ∀ (xs : List α), (∀ x ∈ xs, P x = true → turn (a x) v = .rt (r x) (kr x) (w x)) → (∀ x ∈ xs, P x = false → nxs v0 (turn (a x) v) = .nx v) → vfl v0 turn (xs.map a) v = match xs.find? P with
    | some x => .rt (r x) (kr x) (w x)
    | none => .nx v
  | [], _, _ => rfl
  | x :: xs, h1, h2 => by
    rw [List.map_cons, List.find?_cons]
    cases hp : P x with
    | true => simp only [vfl, h1 x (.head _) hp]
    | false =>
      rw [vfl_step (h2 x (.head _) hp)]
      exact vfl_find a P r kr w xs (fun y hy => h1 y (.tail _ hy)) fun y hy => h2 y (.tail _ hy)
theorem vcl_map {turn : PyData → VEnv → VR (Option (PyData × K))} {a b : α → PyData} {kk : α → K} : ∀ {xs : List α}, (∀ x ∈ xs, turn (a x) v = .ok (some (b x, kk x)) v) → vcl turn (xs.map a) v = .ok (xs.map fun x => (b x, kk x)) v
  | [], _ => rfl
  | x :: xs, h => by
    rw [List.map_cons, vcl, h x (.head _)]
    simp only
    rw [vcl_map fun y hy => h y (.tail _ hy)]
    rfl
theorem vcl_filter {turn : PyData → VEnv → VR (Option (PyData × K))} {a b : α → PyData} {kk : α → K} {P : α → Bool} : ∀ {xs : List α}, (∀ x ∈ xs, turn (a x) v = .ok (if P x = true then some (b x, kk x) else none) v) → vcl turn (xs.map a) v = .ok ((xs.filter P).map fun x => (b x, kk x)) v
  | [], _ => rfl
  | x :: xs, h => by
    have ih := vcl_filter (xs := xs) fun y hy => h y (.tail _ hy)
    rw [List.map_cons, vcl, h x (.head _)]
    cases hp : P x with
    | true =>
      simp only [if_true]
      rw [ih, List.filter_cons, if_pos hp]; rfl
    | false =>
      simp only [Bool.false_eq_true, if_false]
      rw [ih, List.filter_cons, if_neg (by rw [hp]; decide)]
theorem vcl_fold {σ : Type} {turn : PyData → VEnv → VR (Option (PyData × K))} (mk : σ → VEnv) (a : α → PyData) (st : σ → α → σ) (b : σ → α → PyData) (kk : K) (out : List α → σ → List PyData) (h0 : ∀ s, out [] s = []) (h1 : ∀ x xs s, out (x :: xs) s = b s x :: out xs (st s x)) : ∀ (xs : List α) (s : σ), (∀ s, ∀ x ∈ xs, turn (a x) (mk s) = .ok (some (b s x, kk)) (mk (st s x))) → vcl turn (xs.map a) (mk s) = .ok ((out xs s).map fun p => (p, kk)) (mk (xs.foldl st s))
  | [], s, _ => by rw [h0]; rfl
  | x :: xs, s, h => by
    rw [List.map_cons, vcl, h s x (.head _)]
    simp only
    rw [vcl_fold mk a st b kk out h0 h1 xs (st s x) fun s y hy => h s y (.tail _ hy), h1]
    rfl
/-- turns that may draw: some things come, some state is left -/
theorem vcl_ex {β : Type} {turn : PyData → VEnv → VR (Option (PyData × K))} {a : α → PyData} {eb : β → PyData} {kk : K} {I : VEnv → Prop} {Q : β → Prop} : ∀ (xs : List α) (v : VEnv), I v → (∀ x ∈ xs, ∀ v, I v → ∃ y v1, turn (a x) v = .ok (some (eb y, kk)) v1 ∧ Q y ∧ I v1) → ∃ (ys : List β) (v1 : VEnv), vcl turn (xs.map a) v = .ok (ys.map fun y => (eb y, kk)) v1 ∧ ys.length = xs.length ∧ (∀ y ∈ ys, Q y) ∧ I v1
  | [], v, hi, _ => ⟨[], v, rfl, rfl, fun y hy => (by cases hy), hi⟩
  | x :: xs, v, hi, h => by
    obtain ⟨y, v1, h1, h2, h3⟩ := h x (.head _) v hi
    obtain ⟨ys, v2, e1, e2, e3, e4⟩ := vcl_ex xs v1 h3 fun z hz => h z (.tail _ hz)
    refine ⟨y :: ys, v2, ?_, by simp [e2], fun z hz => ?_, e4⟩
    · rw [List.map_cons, vcl, h1]
      simp only
      rw [e1]; rfl
    · rcases List.mem_cons.mp hz with q | q
      · rw [q]; exact h2
      · exact e3 z q
end
end Z
/-! YE: numbers, rows, lines as values. -/
namespace Z
open PySem A
variable {k : Q4} {n m : Nat}
instance : DecidableEq Q4 := fun a b => by cases a <;> cases b <;> first | exact isTrue rfl | exact isFalse (fun h => by cases h)
abbrev pQ (k : Q4) : PyData := .int (k.n : Int)
def allQ : List Q4 := [.q2, .q3, .q4, .q5]
theorem mem_allQ (k : Q4) : k ∈ allQ := by cases k <;> simp [allQ]
def fins (k : Q4) : List (F k) := List.finRange k.n
theorem mem_fins (x : F k) : x ∈ fins k := List.mem_finRange (n := k.n) x
def pF (x : F k) : PyData := .int (x.val : Int)
def pL (v : V k n) : List PyData := (List.finRange n).map fun i => pF (v i)
def pV (v : V k n) : PyData := .tuple (pL v)
/-- things told by values -/
class EncF {α : Type} [DecidableEq α] (f : α → PyData) where
  dp : Nat
  ok : ∀ x, dOk dp (f x) = true
  eqv : ∀ x y, PyData.eqv (f x) (f y) = decide (x = y)
theorem dOk_mono : ∀ {n m : Nat} {p : PyData}, n ≤ m → dOk n p = true → dOk m p = true
  | 0, m, p, h, hp => by simp [dOk] at hp
  | n + 1, 0, p, h, hp => by omega
  | n + 1, m + 1, .list xs, h, hp => by
    simp only [dOk, List.all_eq_true] at hp ⊢
    exact fun x hx => dOk_mono (by omega) (hp x hx)
  | n + 1, m + 1, .tuple xs, h, hp => by
    simp only [dOk, List.all_eq_true] at hp ⊢
    exact fun x hx => dOk_mono (by omega) (hp x hx)
  | n + 1, m + 1, .dict xs, h, hp => by simp [dOk] at hp
  | n + 1, m + 1, .none, h, hp => rfl
  | n + 1, m + 1, .bool _, h, hp => rfl
  | n + 1, m + 1, .int _, h, hp => rfl
  | n + 1, m + 1, .str _, h, hp => rfl
theorem eqvAll_map {α : Type} {f g : α → PyData} : ∀ xs : List α, PyData.eqvAll (xs.map f) (xs.map g) = xs.all fun x => PyData.eqv (f x) (g x)
  | [] => by simp [PyData.eqvAll]
  | x :: xs => by simp [PyData.eqvAll, eqvAll_map xs]
theorem eqv_pF (x y : F k) : PyData.eqv (pF x) (pF y) = decide (x = y) := by
  show ((x.val : Int) == (y.val : Int)) = _
  by_cases h : x = y
  · subst h; simp
  · have : x.val ≠ y.val := fun e => h (F.ext e)
    simp [h]; omega
theorem eqv_pV (u v : V k n) : PyData.eqv (pV u) (pV v) = decide (u = v) := by
  show PyData.eqv (PyData.tuple (pL u)) (PyData.tuple (pL v)) = _
  rw [PyData.eqv]
  simp only [pL, eqvAll_map, eqv_pF]
  by_cases h : u = v
  · subst h; simp
  · rw [decide_eq_false h]
    rw [List.all_eq_false]
    apply Classical.byContradiction
    intro hc
    exact h (V.ext fun i => Classical.byContradiction fun hi => hc ⟨i, List.mem_finRange i, by simpa using hi⟩)
instance : EncF (pF (k := k)) where
  dp := 1
  ok := fun x => rfl
  eqv := eqv_pF
instance : EncF (pV (k := k) (n := n)) where
  dp := 2
  ok := fun x => by
    simp only [pV, pL, dOk, List.all_eq_true, List.mem_map]
    rintro p ⟨i, _, rfl⟩; rfl
  eqv := eqv_pV
abbrev Ln (k : Q4) := V k 4 × V k 4
def pLn (l : Ln k) : PyData := .tuple [pV l.1, pV l.2]
instance : EncF (pLn (k := k)) where
  dp := 3
  ok := fun x => by
    have h1 := EncF.ok (f := pV (k := k) (n := 4)) x.1
    have h2 := EncF.ok (f := pV (k := k) (n := 4)) x.2
    simp only [pLn, dOk, List.all_cons, List.all_nil, Bool.and_true, Bool.and_eq_true]
    exact ⟨h1, h2⟩
  eqv := fun x y => by
    show PyData.eqv (.tuple [pV x.1, pV x.2]) (.tuple [pV y.1, pV y.2]) = _
    rw [PyData.eqv]
    simp only [PyData.eqvAll, eqv_pV, Bool.and_true]
    rw [← Bool.decide_and]
    exact decide_eq_decide.mpr ⟨fun h => Prod.ext h.1 h.2, fun h => by rw [h]; exact ⟨rfl, rfl⟩⟩
def pI (i : Int) : PyData := .int i
instance : EncF pI where
  dp := 1
  ok := fun x => rfl
  eqv := fun x y => by show (x == y) = _; rfl
section
variable {α : Type} [DecidableEq α] {f : α → PyData} [e : EncF f]
theorem eqvAll_e : ∀ (xs ys : List α), PyData.eqvAll (xs.map f) (ys.map f) = decide (xs = ys)
  | [], [] => by simp [PyData.eqvAll]
  | [], _ :: _ => by simp [PyData.eqvAll]
  | _ :: _, [] => by simp [PyData.eqvAll]
  | x :: xs, y :: ys => by
    simp only [List.map_cons, PyData.eqvAll, e.eqv, eqvAll_e xs ys, List.cons.injEq, Bool.decide_and]
/-- lists of such things -/
def pLs (f : α → PyData) (xs : List α) : PyData := .list (xs.map f)
instance : EncF (pLs f) where
  dp := e.dp + 1
  ok := fun xs => by
    simp only [pLs, dOk, List.all_map, List.all_eq_true]
    exact fun x _ => e.ok x
  eqv := fun xs ys => by
    show PyData.eqv (.list (xs.map f)) (.list (ys.map f)) = _
    rw [PyData.eqv]; exact eqvAll_e xs ys
theorem dOk_e (h : e.dp ≤ 59) (x : α) : dOk 59 (f x) = true := dOk_mono h (e.ok x)
theorem dOk_l {j : Nat} (h : e.dp ≤ j) (xs : List α) : (xs.map f).all (dOk j) = true := by
  rw [List.all_map, List.all_eq_true]; exact fun x _ => dOk_mono h (e.ok x)
theorem eqP_e (h : e.dp ≤ 59) (x y : α) : eqP (f x) (f y) = some (decide (x = y)) := by
  unfold eqP
  rw [dOk_mono (by omega : e.dp ≤ 60) (e.ok x), dOk_mono (by omega : e.dp ≤ 60) (e.ok y)]
  simp only [Bool.and_self, if_true, e.eqv]
theorem eqP_l (h : e.dp ≤ 59) (xs ys : List α) : eqP (.list (xs.map f)) (.list (ys.map f)) = some (decide (xs = ys)) := by
  unfold eqP
  have h1 : ∀ zs : List α, dOk 60 (.list (zs.map f)) = true := fun zs => by simp only [dOk]; exact dOk_l h zs
  rw [h1, h1, PyData.eqv, eqvAll_e]
  rfl
theorem eqP_nil (h : e.dp ≤ 59) (xs : List α) : eqP (.list (xs.map f)) (.list []) = some (decide (xs = [])) := eqP_l h xs []
theorem any_e (x : α) : ∀ ys : List α, (ys.map f).any (fun z => PyData.eqv z (f x)) = decide (x ∈ ys)
  | [] => by simp
  | y :: ys => by
    simp only [List.map_cons, List.any_cons, e.eqv, any_e x ys, List.mem_cons, Bool.decide_or]
    rw [show decide (y = x) = decide (x = y) from decide_eq_decide.mpr ⟨Eq.symm, Eq.symm⟩]
theorem inP_l (h : e.dp ≤ 59) (x : α) (ys : List α) : inP (f x) (.list (ys.map f)) = some (decide (x ∈ ys)) := by
  unfold inP
  rw [dOk_mono (by omega : e.dp ≤ 60) (e.ok x), show dOk 60 (.list (ys.map f)) = true from by simp only [dOk]; exact dOk_l h ys]
  simp only [Bool.and_self, if_true, any_e]
theorem findIdx_e (s : α) : ∀ {l : List α}, s ∈ l → (l.map f).findIdx (fun z => PyData.eqv z (f s)) < l.length ∧ (l.map f).eraseIdx ((l.map f).findIdx fun z => PyData.eqv z (f s)) = (l.erase s).map f
  | [], h => by cases h
  | x :: l, h => by
    simp only [List.map_cons, List.findIdx_cons, e.eqv, List.length_cons]
    by_cases hx : x = s
    · subst hx
      simp
    · have hm : s ∈ l := by
        rcases List.mem_cons.mp h with q | q
        · exact absurd q.symm hx
        · exact q
      obtain ⟨h1, h2⟩ := findIdx_e s hm
      rw [decide_eq_false hx]
      simp only [cond_false, List.eraseIdx_cons_succ, h2]
      rw [List.erase_cons_tail (by simpa using hx)]
      exact ⟨by omega, rfl⟩
theorem metP_remove (h : e.dp ≤ 59) {s : α} {l : List α} (hs : s ∈ l) : metP .remove (l.map f) [f s] = some ((l.erase s).map f, .none) := by
  obtain ⟨h1, h2⟩ := findIdx_e (f := f) s hs
  simp only [metP]
  rw [dOk_l h, dOk_mono (by omega : e.dp ≤ 60) (e.ok s)]
  simp only [Bool.and_self, if_true]
  rw [if_pos (by rw [Nat.blt_eq]; simpa using h1), h2]
end
@[simp] theorem eq_pF (x y : F k) : eqP (pF x) (pF y) = some (decide (x = y)) := eqP_e (f := pF) (show 1 ≤ 59 by decide) x y
@[simp] theorem eq_pV (x y : V k n) : eqP (pV x) (pV y) = some (decide (x = y)) := eqP_e (f := pV) (show 2 ≤ 59 by decide) x y
@[simp] theorem eq_pLn (x y : Ln k) : eqP (pLn x) (pLn y) = some (decide (x = y)) := eqP_e (f := pLn) (show 3 ≤ 59 by decide) x y
@[simp] theorem eq_Vs (xs ys : List (V k n)) : eqP (.list (xs.map pV)) (.list (ys.map pV)) = some (decide (xs = ys)) := eqP_l (f := pV) (show 2 ≤ 59 by decide) xs ys
@[simp] theorem eq_Lns (xs ys : List (Ln k)) : eqP (.list (xs.map pLn)) (.list (ys.map pLn)) = some (decide (xs = ys)) := eqP_l (f := pLn) (show 3 ≤ 59 by decide) xs ys
@[simp] theorem eq_Vs0 (xs : List (V k n)) : eqP (.list (xs.map pV)) (.list []) = some (decide (xs = [])) := eqP_nil (f := pV) (show 2 ≤ 59 by decide) xs
@[simp] theorem eq_Lns0 (xs : List (Ln k)) : eqP (.list (xs.map pLn)) (.list []) = some (decide (xs = [])) := eqP_nil (f := pLn) (show 3 ≤ 59 by decide) xs
@[simp] theorem in_Vs (x : V k n) (ys : List (V k n)) : inP (pV x) (.list (ys.map pV)) = some (decide (x ∈ ys)) := inP_l (f := pV) (show 2 ≤ 59 by decide) x ys
@[simp] theorem in_Lns (x : Ln k) (ys : List (Ln k)) : inP (pLn x) (.list (ys.map pLn)) = some (decide (x ∈ ys)) := (inP_l (f := pLn) (show 3 ≤ 59 by decide) x ys).trans (congrArg some (decide_eq_decide.mpr Iff.rfl))
@[simp] theorem eq_int (x y : Int) : eqP (.int x) (.int y) = some (decide (x = y)) := (rfl)
@[simp] theorem eq_bool (x y : Bool) : eqP (.bool x) (.bool y) = some (decide (x = y)) := by cases x <;> cases y <;> rfl
@[simp] theorem cmp_eq {p q : PyData} : cmpP .eq p q = eqP p q := (rfl)
@[simp] theorem cmp_ne {p q : PyData} : cmpP .ne p q = (eqP p q).map (!·) := (rfl)
@[simp] theorem cmp_lt {x y : Int} : cmpP .lt (.int x) (.int y) = some (decide (x < y)) := (rfl)
@[simp] theorem cmp_le {x y : Int} : cmpP .le (.int x) (.int y) = some (decide (x ≤ y)) := (rfl)
@[simp] theorem cmp_gt {x y : Int} : cmpP .gt (.int x) (.int y) = some (decide (y < x)) := (rfl)
@[simp] theorem cmp_ge {x y : Int} : cmpP .ge (.int x) (.int y) = some (decide (y ≤ x)) := (rfl)
@[simp] theorem cmp_in {p q : PyData} : cmpP .isin p q = inP p q := (rfl)
@[simp] theorem cmp_ni {p q : PyData} : cmpP .notin p q = (inP p q).map (!·) := (rfl)
@[simp] theorem cmp_isn {x : Int} : cmpP .is (.int x) .none = some false := (rfl)
@[simp] theorem cmp_isnn : cmpP .is .none .none = some true := (rfl)
@[simp] theorem cmp_isntn {x : Int} : cmpP .isnt (.int x) .none = some true := (rfl)
@[simp] theorem cmp_isntnn : cmpP .isnt .none .none = some false := (rfl)
@[simp] theorem cmp_isb {x y : Bool} : cmpP .is (.bool x) (.bool y) = some (decide (x = y)) := (rfl)
@[simp] theorem cmp_isntb {x y : Bool} : cmpP .isnt (.bool x) (.bool y) = some (!decide (x = y)) := (rfl)
@[simp] theorem tru_b {x : Bool} : truP (.bool x) = some x := (rfl)
@[simp] theorem tru_i {x : Int} : truP (.int x) = some (x != 0) := (rfl)
@[simp] theorem tru_n : truP .none = some false := (rfl)
@[simp] theorem seq_l {xs : List PyData} : seqP (.list xs) = some xs := (rfl)
@[simp] theorem seq_t {xs : List PyData} : seqP (.tuple xs) = some xs := (rfl)
@[simp] theorem seq_V (v : V k n) : seqP (pV v) = some (pL v) := (rfl)
@[simp] theorem op_addi {x y : Int} : opP .add (.int x) (.int y) = some (.int (x + y)) := (rfl)
@[simp] theorem op_subi {x y : Int} : opP .sub (.int x) (.int y) = some (.int (x - y)) := (rfl)
@[simp] theorem op_muli {x y : Int} (h : okm x y = true) : opP .mul (.int x) (.int y) = some (.int (x * y)) := by simp only [opP, h]; rfl
@[simp] theorem op_modi {x y : Int} (h : 0 < y) : opP .mod (.int x) (.int y) = some (.int (x % y)) := by simp [opP, h]
@[simp] theorem op_fdivi {x y : Int} (h : 0 < y) (h2 : y < 1073741824) : opP .fdiv (.int x) (.int y) = some (.int (x / y)) := by simp [opP, h, h2]
@[simp] theorem op_powi {x y : Int} (h : okp x y = true) : opP .pow (.int x) (.int y) = some (.int (x ^ y.toNat)) := by simp only [opP, h]; rfl
@[simp] theorem op_addl {xs ys : List PyData} : opP .add (.list xs) (.list ys) = if SL (xs.length + ys.length) then some (.list (xs ++ ys)) else none := (rfl)
@[simp] theorem op_addt {xs ys : List PyData} : opP .add (.tuple xs) (.tuple ys) = if SL (xs.length + ys.length) then some (.tuple (xs ++ ys)) else none := (rfl)
theorem okm_r {i j : Int} (h1 : -18446744073709551616 < j) (h2 : j < 18446744073709551616) : okm i j = true := by simp [okm, h1, h2]
theorem okm_l {i j : Int} (h1 : -18446744073709551616 < i) (h2 : i < 18446744073709551616) : okm i j = true := by simp [okm, h1, h2]
theorem okp_is {i j : Int} (h0 : 0 ≤ j) (hj : j ≤ 1000000) (h1 : -18446744073709551616 < i) (h2 : i < 18446744073709551616) : okp i j = true := by
  simp [okp, h0, hj]; omega
theorem y_SL_le {n : Nat} (h : n ≤ 16777216) : SL n = true := by simp only [SL, Nat.ble_eq]; exact h
@[simp] theorem SL_0 : SL 0 = true := (rfl)
@[simp] theorem SL_n [OfNat Nat n] (h : Nat.ble n 16777216 = true) : SL n = true := h
@[simp] theorem pur_F (x : F k) : pur (pF x) = true := (rfl)
@[simp] theorem purs_L (v : V k n) : purs (pL v) = true := purs_map fun i => rfl
@[simp] theorem pur_V (v : V k n) : pur (pV v) = true := by simp only [pV, pur_tuple, purs_L]
@[simp] theorem pur_Ln (l : Ln k) : pur (pLn l) = true := by simp only [pLn, pur_tuple, purs_cons, pur_V, purs_nil, Bool.and_self]
@[simp] theorem purs_Vs (vs : List (V k n)) : purs (vs.map pV) = true := purs_map pur_V
@[simp] theorem purs_Lns (vs : List (Ln k)) : purs (vs.map pLn) = true := purs_map pur_Ln
@[simp] theorem len_L (v : V k n) : (pL v).length = n := by simp [pL]
@[simp] theorem flat_F (x : F k) : flatP (pF x) = false := (rfl)
@[simp] theorem flat_V (x : V k n) : flatP (pV x) = false := (rfl)
@[simp] theorem flat_Ln (x : Ln k) : flatP (pLn x) = false := (rfl)
/-! blt -/
@[simp] theorem blt_lenl {xs : List PyData} : bltP .len [.list xs] = some (.int xs.length) := (rfl)
@[simp] theorem blt_lent {xs : List PyData} : bltP .len [.tuple xs] = some (.int xs.length) := (rfl)
@[simp] theorem blt_lenV (v : V k n) : bltP .len [pV v] = some (.int n) := by show some (PyData.int ((pL v).length : Nat)) = _; rw [len_L]
@[simp] theorem blt_lend {kvs : List (PyData × PyData)} : bltP .len [.dict ((.none, .none) :: kvs)] = some (.int kvs.length) := (rfl)
@[simp] theorem blt_abs {x : Int} : bltP .abs [.int x] = some (.int (if x < 0 then -x else x)) := (rfl)
def maxI (x y : Int) : Int := if y > x then y else x
def minI (x y : Int) : Int := if y < x then y else x
@[simp] theorem blt_max {x y : Int} : bltP .max2 [.int x, .int y] = some (.int (maxI x y)) := (rfl)
@[simp] theorem blt_min {x y : Int} : bltP .min2 [.int x, .int y] = some (.int (minI x y)) := (rfl)
/-- a law's cells: at least a, at most b -/
def mmN (a b : Int) (n : Nat) : Nat := (maxI a (minI b n)).toNat
theorem mmN_le {a b : Int} {n : Nat} (ha : a ≤ 1000) (hb : b ≤ 1000) : mmN a b n ≤ 1000 := by
  unfold mmN maxI minI
  split <;> split <;> omega
@[simp] theorem rngP_mm {a b : Int} {n : Nat} {v : VEnv} (h0 : 0 ≤ a) (ha : a ≤ 1000) (hb : b ≤ 1000) : rngP (.int (maxI a (minI b n))) v = .ok ⟨(List.range (mmN a b n)).map fun k : Nat => .int (k : Int), true, []⟩ v := by
  have h1 : 0 ≤ maxI a (minI b n) ∧ maxI a (minI b n) ≤ 1000 := by
    unfold maxI minI
    split <;> split <;> omega
  rw [rngP_i (by omega) (by omega)]; rfl
theorem mm_mem {a b : Int} {n : Nat} {x : PyData} (ha : a ≤ 1000) (hb : b ≤ 1000) (h : x ∈ (List.range (mmN a b n)).map fun k : Nat => PyData.int (k : Int)) : ∃ j : Nat, j ≤ 1000 ∧ x = .int (j : Int) := by
  obtain ⟨j, hj, rfl⟩ := List.mem_map.mp h
  have := List.mem_range.mp hj
  have := mmN_le (n := n) ha hb
  exact ⟨j, by omega, rfl⟩
@[simp] theorem blt_inti {x : Int} : bltP .int1 [.int x] = some (.int x) := (rfl)
@[simp] theorem blt_intb {x : Bool} : bltP .int1 [.bool x] = some (.int (if x then 1 else 0)) := (rfl)
@[simp] theorem blt_tupl {xs : List PyData} : bltP .tuple [.list xs] = some (.tuple xs) := (rfl)
@[simp] theorem blt_tupt {xs : List PyData} : bltP .tuple [.tuple xs] = some (.tuple xs) := (rfl)
@[simp] theorem blt_tupV (v : V k n) : bltP .tuple [pV v] = some (pV v) := (rfl)
@[simp] theorem blt_lstl {xs : List PyData} : bltP .list [.list xs] = some (.list xs) := (rfl)
@[simp] theorem blt_lstt {xs : List PyData} : bltP .list [.tuple xs] = some (.list xs) := (rfl)
@[simp] theorem blt_lstV (v : V k n) : bltP .list [pV v] = some (.list (pL v)) := (rfl)
theorem bools_map {α : Type} (f : α → Bool) : ∀ xs : List α, boolsP (xs.map fun x => .bool (f x)) = some (xs.map f)
  | [] => rfl
  | x :: xs => by simp only [List.map_cons, boolsP, bools_map f xs, Option.map_some]
@[simp] theorem blt_all {α : Type} {f : α → Bool} {xs : List α} : bltP .all [.list (xs.map fun x => .bool (f x))] = some (.bool (xs.all f)) := by
  simp only [bltP, bools_map, Option.map_some, List.all_map]; rfl
@[simp] theorem blt_any {α : Type} {f : α → Bool} {xs : List α} : bltP .any [.list (xs.map fun x => .bool (f x))] = some (.bool (xs.any f)) := by
  simp only [bltP, bools_map, Option.map_some, List.any_map]; rfl
@[simp] theorem isi_ll {xs : List PyData} : isiP .list (.list xs) = some true := (rfl)
@[simp] theorem isi_tt {xs : List PyData} : isiP .tuple (.tuple xs) = some true := (rfl)
@[simp] theorem isi_lt {xs : List PyData} : isiP .list (.tuple xs) = some false := (rfl)
@[simp] theorem isi_tl {xs : List PyData} : isiP .tuple (.list xs) = some false := (rfl)
@[simp] theorem isi_tV (v : V k n) : isiP .tuple (pV v) = some true := (rfl)
@[simp] theorem isi_ii {x : Int} : isiP .int (.int x) = some true := (rfl)
@[simp] theorem isi_bi {x : Int} : isiP .bool (.int x) = some false := (rfl)
@[simp] theorem isi_bb {x : Bool} : isiP .bool (.bool x) = some true := (rfl)
@[simp] theorem isi_ib {x : Bool} : isiP .int (.bool x) = some true := (rfl)
@[simp] theorem isi_iF {x : F k} : isiP .int (pF x) = some true := (rfl)
@[simp] theorem isi_bF {x : F k} : isiP .bool (pF x) = some false := (rfl)
@[simp] theorem met_app {xs : List PyData} {p : PyData} : metP .append xs [p] = if Nat.blt xs.length 16777216 then some (xs ++ [p], .none) else none := (rfl)
theorem blt_le {n : Nat} (h : n < 16777216) : Nat.blt n 16777216 = true := by rw [Nat.blt_eq]; exact h
@[simp] theorem met_rev {xs : List PyData} : metP .reverse xs [] = some (xs.reverse, .none) := (rfl)
@[simp] theorem met_clr {xs : List PyData} : metP .clear xs [] = some ([], .none) := (rfl)
/-! places -/
theorem ixN_nat {n i : Nat} (h : i < n) : ixN n (i : Int) = some i := by
  unfold ixN
  rw [if_pos (by omega), if_pos (by omega)]; simp
@[simp] theorem all_tt {α : Type} (xs : List α) : (xs.all fun _ => true) = true := by simp
@[simp] theorem eq_nn : eqP (.list []) (.list []) = some true := (rfl)
@[simp] theorem lsK_n {b : Bool} : (nK (.list []) (lsK b [])).c = true := by cases b <;> rfl
@[simp] theorem lsK_n0 : lsK false [] = top0 := (rfl)
theorem add_neg_sm (u w : V k n) (c : F k) : u + sm (-c) w = u - sm c w := V.ext fun i => by simp; grind
@[simp] theorem ixN_20 : ixN 2 0 = some 0 := (rfl)
@[simp] theorem ixN_21 : ixN 2 1 = some 1 := (rfl)
@[simp] theorem ixN_z {n : Nat} : ixN (n + 1) 0 = some 0 := by simp [ixN]
@[simp] theorem top0_e : (⟨.ex, true⟩ : K) = top0 := (rfl)
@[simp] theorem idx_0 {p : PyData} {xs : List PyData} : idxP (.list (p :: xs)) (.int 0) = some p := by simp [idxP, ixN]
@[simp] theorem idx_t0 {p : PyData} {xs : List PyData} : idxP (.tuple (p :: xs)) (.int 0) = some p := by simp [idxP, ixN]
@[simp] theorem idx_1 {p q : PyData} {xs : List PyData} : idxP (.list (p :: q :: xs)) (.int 1) = some q := by
  simp only [idxP, seq_l, ixN, List.length_cons]
  rw [if_pos (by decide), if_pos (by omega)]; rfl
@[simp] theorem idx_t1 {p q : PyData} {xs : List PyData} : idxP (.tuple (p :: q :: xs)) (.int 1) = some q := by
  simp only [idxP, seq_t, ixN, List.length_cons]
  rw [if_pos (by decide), if_pos (by omega)]; rfl
theorem idx_V (v : V k n) (i : Fin n) : idxP (pV v) (.int (i.val : Int)) = some (pF (v i)) := by
  simp only [idxP, seq_V, len_L, ixN_nat i.isLt]
  simp [pL]
theorem idx_map {α : Type} {f : α → PyData} {xs : List α} {i : Nat} (h : i < xs.length) : idxP (.list (xs.map f)) (.int (i : Int)) = some (f xs[i]) := by
  simp only [idxP, seq_l, List.length_map, ixN_nat h]
  simp [h]
def pO {n : Nat} (o : Option (Fin n)) : PyData := match o with
  | some i => .int (i.val : Int)
  | none => .none
@[simp] theorem pO_s {n : Nat} (i : Fin n) : pO (some i) = .int (i.val : Int) := (rfl)
@[simp] theorem pO_n {n : Nat} : pO (none : Option (Fin n)) = .none := (rfl)
@[simp] theorem pur_O {n : Nat} (o : Option (Fin n)) : pur (pO o) = true := by cases o <;> rfl
theorem val0 {k : Q4} (x : F k) : ((x.val : Int) = 0) ↔ x = 0 := by
  constructor
  · intro h
    refine F.ext ?_
    have : (0 : F k).val = 0 := by cases k <;> rfl
    omega
  · intro h
    subst h
    cases k <;> rfl
@[simp] theorem eq_F0 (x : F k) : eqP (pF x) (.int 0) = some (decide (x = 0)) := by
  show eqP (.int (x.val : Int)) (.int 0) = _
  rw [eq_int]
  simp only [val0]
theorem pF_zero : pF (0 : F k) = .int 0 := by cases k <;> rfl
theorem pF_one : pF (1 : F k) = .int 1 := by cases k <;> rfl
@[simp] theorem q_ne4 : eqP (pQ k) (.int 4) = some (decide (k = .q4)) := by cases k <;> rfl
/-! closed looks at defs of numbers -/
def isIv : RC → Nat → Bool
  | .ok (.int i) ⟨.ex, true⟩, j => i == (j : Int)
  | _, _ => false
theorem isIv_of {r : RC} {j : Nat} (h : isIv r j = true) : r = .ok (.int (j : Int)) top0 := by
  unfold isIv at h
  split at h
  · rw [beq_iff_eq] at h; rw [h]; rfl
  · cases h
def chk2 (G : VT) (d f : Nat) (g : (k : Q4) → F k → F k → F k) : Bool := allQ.all fun k => (fins k).all fun a => (fins k).all fun b => isIv (vP G d f [pQ k, pF a, pF b]) (g k a b).val
theorem chk2_ok {G : VT} {d f : Nat} {g : (k : Q4) → F k → F k → F k} (h : chk2 G d f g = true) (a b : F k) : vP G d f [pQ k, pF a, pF b] = .ok (pF (g k a b)) top0 := by
  have h1 := List.all_eq_true.mp h k (mem_allQ k)
  have h2 := List.all_eq_true.mp h1 a (mem_fins a)
  have h3 := List.all_eq_true.mp h2 b (mem_fins b)
  exact isIv_of h3
def chk1 (G : VT) (d f : Nat) (g : (k : Q4) → F k → F k) : Bool := allQ.all fun k => (fins k).all fun a => (a == 0) || isIv (vP G d f [pQ k, pF a]) (g k a).val
theorem chk1_ok {G : VT} {d f : Nat} {g : (k : Q4) → F k → F k} (h : chk1 G d f g = true) (a : F k) (ha : a ≠ 0) : vP G d f [pQ k, pF a] = .ok (pF (g k a)) top0 := by
  have h1 := List.all_eq_true.mp h k (mem_allQ k)
  have h2 := List.all_eq_true.mp h1 a (mem_fins a)
  simp only [Bool.or_eq_true, beq_iff_eq] at h2
  rcases h2 with h2 | h2
  · exact absurd h2 ha
  · exact isIv_of h2
theorem zip_L (u v : V k n) : ((pL u).zip (pL v)).map (fun q => PyData.tuple [q.1, q.2]) = (List.finRange n).map fun i => PyData.tuple [pF (u i), pF (v i)] := by
  simp only [pL, List.zip_map', List.map_map]; rfl
theorem enu_L (v : V k n) : (pL v).zipIdx.map (fun q => PyData.tuple [.int (q.2 : Int), q.1]) = (List.finRange n).map fun i => PyData.tuple [.int (i.val : Int), pF (v i)] := by
  apply List.ext_getElem
  · simp
  · intro i h1 h2
    simp [pL]
@[simp] theorem zip_V (u v : V k n) {c : Bool} {os : List Vo} {w : VEnv} : zipP (pV u) (pV v) c os w = .ok ⟨(List.finRange n).map fun i => PyData.tuple [pF (u i), pF (v i)], c, os⟩ w := by
  show VR.ok (Vi.mk (((pL u).zip (pL v)).map (fun q => PyData.tuple [q.1, q.2])) c os) w = _
  rw [zip_L]
/-! the order of rows -/
theorem alike_pL (u v : V k n) : PySem.W.alikeAll (pL u) (pL v) = true := by
  have := PySem.W.alike_ints ((List.finRange n).map fun i => ((u i).val : Int)) ((List.finRange n).map fun i => ((v i).val : Int))
  rw [List.map_map, List.map_map] at this
  exact this
theorem alike_pV (u v : V k n) : PySem.W.alike (pV u) (pV v) = true := by
  show PySem.W.alike (PyData.tuple (pL u)) (PyData.tuple (pL v)) = true
  rw [PySem.W.alike]; exact alike_pL u v
def ge : V k n → V k n → Bool := PySem.W.dataLe true pV
def le : V k n → V k n → Bool := PySem.W.dataLe false pV
def nums (v : V k n) : List Int := (List.finRange n).map fun i => ((v i).val : Int)
theorem lt_pV (u v : V k n) : PySem.W.dataLt (pV u) (pV v) = decide (nums u < nums v) := by
  rw [show pV u = PyData.tuple ((nums u).map .int) from by simp only [pV, pL, nums, List.map_map]; rfl, show pV v = PyData.tuple ((nums v).map .int) from by simp only [pV, pL, nums, List.map_map]; rfl]
  rw [PySem.W.dataLt_tuple]
  exact PySem.W.dataLt_ints _ _
theorem ge_iff (u v : V k n) : ge u v = !decide (nums u < nums v) := by
  show (!PySem.W.dataLt (pV u) (pV v)) = _
  rw [lt_pV]
theorem le_iff (u v : V k n) : le u v = !decide (nums v < nums u) := by
  show (!PySem.W.dataLt (pV v) (pV u)) = _
  rw [lt_pV]
theorem lt_at : ∀ {a b : List Int} (i : Nat), (∀ j, j < i → a[j]? = b[j]?) → (∃ x y, a[i]? = some x ∧ b[i]? = some y ∧ x < y) → a < b
  | [], _, i, _, ⟨x, y, h, _⟩ => by simp at h
  | _, [], i, _, ⟨x, y, _, h, _⟩ => by simp at h
  | x :: a, y :: b, 0, _, ⟨x', y', h1, h2, h3⟩ => by
    simp at h1 h2
    subst h1 h2
    exact List.Lex.rel h3
  | x :: a, y :: b, i + 1, h, ⟨x', y', h1, h2, h3⟩ => by
    have h0 := h 0 (Nat.zero_lt_succ _)
    simp at h0
    subst h0
    exact List.Lex.cons (lt_at i (fun j hj => by have := h (j + 1) (by omega); simpa using this) ⟨x', y', by simpa using h1, by simpa using h2, h3⟩)
theorem get_nums (v : V k n) (i : Fin n) : (nums v)[i.val]? = some ((v i).val : Int) := by simp [nums]
theorem lt_asy (a b : List Int) (h : a < b) : ¬ b < a := fun h2 => absurd (List.lt_trans h h2) (List.lt_irrefl a)
theorem gr_ge : Gr (ge : V k n → V k n → Bool) where
  tot := by unfold ge PySem.W.dataLe; exact PySem.W.sortLe_total _ _ _
  lead := fun u v i j hu hv hij => by
    have hlt : nums v < nums u := by
      refine lt_at i.val (fun q hq => ?_) ⟨_, _, get_nums v i, get_nums u i, ?_⟩
      · have hq' : q < n := Nat.lt_trans hq i.isLt
        have e1 := get_nums u ⟨q, hq'⟩
        have e2 := get_nums v ⟨q, hq'⟩
        simp only at e1 e2
        rw [e1, e2, hu.2 ⟨q, hq'⟩ hq, hv.2 ⟨q, hq'⟩ (Nat.lt_trans hq hij)]
      · rw [hv.2 i hij]
        have h1 := hu.1
        have h2 : (0 : F k).val = 0 := by cases k <;> rfl
        have h3 : (u i).val ≠ 0 := fun e => h1 (F.ext (by rw [e, h2]))
        omega
    refine ⟨?_, ?_⟩
    · rw [ge_iff]
      simp [lt_asy _ _ hlt]
    · rw [ge_iff]
      simp [hlt]
theorem allAl_vs : ∀ vs : List (V k n), allAl (vs.map pV) = true
  | [] => rfl
  | v :: vs => by
    simp only [List.map_cons, allAl, alike_pV, allAl_vs vs, Bool.and_self, Bool.and_true, List.all_map]
    simp [alike_pV]
theorem srtB_vs (vs : List (V k (n + 1))) : srtB (vs.map pV) = true := by
  have : (vs.map pV).all (fun p => match p with | .tuple (_ :: _) => true | _ => false) = true := by
    rw [List.all_map, List.all_eq_true]
    intro v _
    simp [pV, pL, List.finRange_succ]
  simp only [srtB, Bool.or_eq_true]
  exact .inl this
theorem srtP_vs (vs : List (V k (n + 1))) (rev : Bool) : srtP (vs.map pV) rev = some ((insS (PySem.W.dataLe rev pV) vs).map pV) := by
  unfold srtP
  rw [dOk_l (f := pV) (show 2 ≤ 59 by decide), allAl_vs, srtB_vs]
  simp only [Bool.and_self, if_true]
  rw [insS_map pV (le := PySem.W.dataLe rev pV) (fun a b => rfl)]
@[simp] theorem srt_ge (vs : List (V k (n + 1))) : srtP (vs.map pV) true = some ((insS ge vs).map pV) := srtP_vs vs true
@[simp] theorem srt_ge1 {α : Type} (g : α → V k (n + 1)) (xs : List α) (v : V k (n + 1)) : srtP ((xs.map fun x => pV (g x)) ++ [pV v]) true = some ((insS ge (xs.map g ++ [v])).map pV) := by
  rw [← srt_ge, List.map_append, List.map_map]; rfl
@[simp] theorem srt_le (vs : List (V k (n + 1))) : srtP (vs.map pV) false = some ((insS le vs).map pV) := srtP_vs vs false
theorem withOne_len (vs : List (V k n)) (row : V k n) : (withOne ge vs row).length ≤ vs.length + 1 := by
  unfold withOne
  cases lead (less vs row) with
  | none => simp
  | some i =>
    simp only
    rw [(insS_perm gr_ge.tot _).1.length_eq]
    simp
end Z
namespace Z
open PySem
section
variable {α : Type} {b : α → PyData} {xs : List α} {c : Bool}
@[simp] theorem frE_var {i : Nat} : frE (.var i) = false := (rfl)
@[simp] theorem frE_lit {d : D} : frE (.lit d) = false := (rfl)
@[simp] theorem frE_bin {o : Op} {x y : E} : frE (.bin o x y) = false := (rfl)
@[simp] theorem frE_call {f : Nat} {es : Es} : frE (.call f es) = false := (rfl)
@[simp] theorem frE_calli {f : Nat} {es : Es} : frE (.calli f es) = false := (rfl)
@[simp] theorem frE_cmp {o : Cm} {x y : E} : frE (.cmp o x y) = false := (rfl)
@[simp] theorem frE_chn {o o2 : Cm} {x y z : E} : frE (.chn o o2 x y z) = false := (rfl)
@[simp] theorem frE_and {x y : E} : frE (.and x y) = false := (rfl)
@[simp] theorem frE_or {x y : E} : frE (.or x y) = false := (rfl)
@[simp] theorem frE_not {x : E} : frE (.not x) = false := (rfl)
@[simp] theorem frE_ife {x y z : E} : frE (.ife x y z) = false := (rfl)
@[simp] theorem frE_tup {es : Es} : frE (.tup es) = false := (rfl)
@[simp] theorem frE_idx {x y : E} : frE (.idx x y) = false := (rfl)
@[simp] theorem frE_sli {x : E} {y z : Eo} : frE (.sli x y z) = false := (rfl)
@[simp] theorem frE_isi {x : E} {t : Ty} : frE (.isi x t) = false := (rfl)
@[simp] theorem frE_srt {x : E} {r : Bool} : frE (.srt x r) = false := (rfl)
@[simp] theorem frE_tuple {es : Es} : frE (.blt .tuple es) = false := (rfl)
@[simp] theorem frE_len {es : Es} : frE (.blt .len es) = false := (rfl)
@[simp] theorem frE_all {es : Es} : frE (.blt .all es) = false := (rfl)
@[simp] theorem frE_any {es : Es} : frE (.blt .any es) = false := (rfl)
@[simp] theorem frE_int {es : Es} : frE (.blt .int1 es) = false := (rfl)
@[simp] theorem lsK_0 : lsK false (xs.map fun x => (b x, top0)) = top0 := by
  have : ((xs.map fun x => (b x, top0)).all fun e => (nK e.1 e.2).c) = true := by rw [List.all_map, List.all_eq_true]; exact fun x _ => rfl
  rw [lsK_f, this]; rfl
@[simp] theorem lsK_s (h : ∀ x, pur (b x) = true) : lsK false (xs.map fun x => (b x, (⟨.sh, c⟩ : K))) = top0 := by
  have : ((xs.map fun x => (b x, (⟨.sh, c⟩ : K))).all fun e => (nK e.1 e.2).c) = true := by
    rw [List.all_map, List.all_eq_true]; exact fun x _ => by simp [h x]
  rw [lsK_f, this]; rfl
@[simp] theorem lsK_x (h : ∀ x, pur (b x) = true) : lsK false (xs.map fun x => (b x, (⟨.ex, c⟩ : K))) = top0 := by
  have : ((xs.map fun x => (b x, (⟨.ex, c⟩ : K))).all fun e => (nK e.1 e.2).c) = true := by
    rw [List.all_map, List.all_eq_true]; exact fun x _ => by simp [h x]
  rw [lsK_f, this]; rfl
@[simp] theorem comp_fst {kk : α → K} : ((fun e : PyData × K => e.1) ∘ fun x => (b x, kk x)) = b := (rfl)
@[simp] theorem fst_map {kk : α → K} : (xs.map fun x => (b x, kk x)).map (fun e => e.1) = xs.map b := by rw [List.map_map]; rfl
end
section
open A
variable {k : Q4} {n m : Nat}
/-! rows: what the program's clearing tells -/
def lstep (r one : V k n) : V k n := match lead one with | some l => r - sm (r l) one | none => r
theorem less_eq (vs : List (V k n)) (row : V k n) : vs.foldl lstep row = less vs row := rfl
theorem lead_sc {v : V k n} {i : Fin n} (h : lead v = some i) : lead (sm (v i)⁻¹ v) = some i := lead_of_ld (scale_ld (lead_some h)).1
theorem low_leads {L : List (Fin n × V k n)} (h : Low L) : ∀ v ∈ rows L, lead v ≠ none := fun v hv => by
  obtain ⟨p, hp, rfl⟩ := List.mem_map.mp hv
  rw [lead_of_ld (h.ld hp)]; exact fun q => by cases q
theorem lawLow_same {A B : List (V k n)} (h : Same A B) : lawLow A = lawLow B := by
  obtain ⟨M, m1, m2, m3⟩ := lawLow_ok A
  obtain ⟨N, n1, n2, n3⟩ := lawLow_ok B
  rw [m2, n2, m1.uniq n1 (m3.trans (h.trans n3.symm))]
theorem lawLow_self (A : List (V k n)) : Same (lawLow A) A := by
  obtain ⟨M, m1, m2, m3⟩ := lawLow_ok A
  rw [m2]; exact m3
theorem lawLow_idem (A : List (V k n)) : lawLow (lawLow A) = lawLow A := lawLow_same (lawLow_self A)
theorem lawLow_rev (A : List (V k n)) : lawLow A.reverse = lawLow A := lawLow_same (Same.perm (List.reverse_perm A))
theorem lowest_len (vs : List (V k n)) : (lowest ge vs).length ≤ vs.length := by
  suffices h : ∀ (vs L : List (V k n)), (vs.foldl (withOne ge) L).length ≤ vs.length + L.length from h vs []
  intro vs
  induction vs with
  | nil => intro L; simp
  | cons v vs ih => intro L; have := ih (withOne ge L v); have := withOne_len L v; simp only [List.foldl_cons, List.length_cons] at *; omega
theorem lawLow_len (vs : List (V k (n + 1))) : (lawLow vs).length ≤ vs.length := by rw [← law_lowest gr_ge]; exact lowest_len vs
end
end Z
/-! YB: bags of digits. -/
namespace Z
open PySem A
/-- a bag: what is left of a great cell, and a mixed number -/
structure Bg where
  g : Int
  m : Int
  h0 : 0 ≤ m
  h1 : m < 2147483648
def pB (b : Bg) : PyData := .list [.int b.g, .int b.m]
def primes8 : List Int := [2147483629, 2147483587, 2147483579, 2147483563, 2147483549, 2147483543, 2147483497, 2147483489]
/-- the digit that is taken -/
def tkD (b : Bg) (n : Int) : Int := if 0 < b.g then b.g % n else (((b.m * 48271 + 11) % 2147483647) / 8) ^ 3 % 2147483629 % n
/-- the bag behind it -/
def tkN (b : Bg) (n : Int) : Bg := if 0 < b.g then ⟨b.g / n, b.m, b.h0, b.h1⟩ else ⟨b.g, (b.m * 48271 + 11) % 2147483647, by omega, by omega⟩
theorem tkD_lt (b : Bg) {n : Int} (hn : 0 < n) : 0 ≤ tkD b n ∧ tkD b n < n := by
  unfold tkD
  split
  · exact ⟨Int.emod_nonneg _ (by omega), Int.emod_lt_of_pos _ hn⟩
  · exact ⟨Int.emod_nonneg _ (by omega), Int.emod_lt_of_pos _ hn⟩
/-- a digit below a whole number -/
def tkn (b : Bg) (n : Nat) : Nat := (tkD b n).toNat
theorem tkn_eq (b : Bg) {n : Nat} (hn : 0 < n) : tkD b n = (tkn b n : Int) := (Int.toNat_of_nonneg (tkD_lt b (by omega)).1).symm
theorem tkn_lt (b : Bg) {n : Nat} (hn : 0 < n) : tkn b n < n := by
  have := tkD_lt b (n := n) (by omega)
  unfold tkn; omega
/-- a number of a q -/
def tkF (k : Q4) (b : Bg) : F k := (⟨tkn b k.n, tkn_lt b k.pos⟩ : Fin k.n)
theorem pF_tk (k : Q4) (b : Bg) : PyData.int (tkD b k.n) = pF (tkF k b) := by rw [tkn_eq b k.pos]; rfl
/-- a q -/
def tkQ (b : Bg) : Q4 := match tkn b 4 with
  | 0 => .q2
  | 1 => .q3
  | 2 => .q4
  | _ => .q5
theorem tkQ_eq (b : Bg) : (2 : Int) + tkD b 4 = ((tkQ b).n : Int) := by
  have h := tkn_eq b (n := 4) (by decide)
  have h2 := tkn_lt b (n := 4) (by decide)
  have h : tkD b 4 = (tkn b 4 : Int) := h
  rw [h]
  unfold tkQ
  generalize tkn b 4 = r at h2
  have : r = 0 ∨ r = 1 ∨ r = 2 ∨ r = 3 := by omega
  rcases this with rfl | rfl | rfl | rfl <;> rfl
@[simp] theorem pur_B (b : Bg) : pur (pB b) = false := rfl
@[simp] theorem flat_B (b : Bg) : flatP (pB b) = true := rfl
/-- cells -/
def cellAt (ns : List Int) (k : Nat) : Int := ns.getD k 0
def mkB (ns : List Int) (k : Nat) : Bg :=
  ⟨if 1000000000000000000 ≤ (if cellAt ns k < 0 then -(cellAt ns k) else cellAt ns k) then (if cellAt ns k < 0 then -(cellAt ns k) else cellAt ns k) else 0,
   (cellAt ns k % 2147483647 + 104729 * (k : Int) + 7) ^ 5 % (if primes8.getD (k % 8) 1 ≤ 0 ∨ 2147483648 ≤ primes8.getD (k % 8) 1 then 1 else primes8.getD (k % 8) 1),
   Int.emod_nonneg _ (by split <;> omega), by
    have := Int.emod_lt_of_pos ((cellAt ns k % 2147483647 + 104729 * (k : Int) + 7) ^ 5) (b := if primes8.getD (k % 8) 1 ≤ 0 ∨ 2147483648 ≤ primes8.getD (k % 8) 1 then 1 else primes8.getD (k % 8) 1) (by split <;> omega)
    split at this <;> rename_i h <;> simp only [h, if_true, if_false] <;> omega⟩
/-- rows of digits -/
def digs (k : Q4) : Nat → Bg → List (F k)
  | 0, _ => []
  | n + 1, b => tkF k b :: digs k n (tkN b k.n)
def digsN (k : Q4) : Nat → Bg → Bg
  | 0, b => b
  | n + 1, b => digsN k n (tkN b k.n)
theorem digs_len (k : Q4) : ∀ (n : Nat) (b : Bg), (digs k n b).length = n
  | 0, _ => rfl
  | n + 1, b => by simp [digs, digs_len k n]
def ofL {k : Q4} {n : Nat} (xs : List (F k)) : V k n := fun i => xs.getD i.val 0
theorem ofL_eq {k : Q4} {n : Nat} {xs : List (F k)} (h : xs.length = n) : xs.map pF = pL (ofL xs : V k n) := by
  subst h
  apply List.ext_getElem
  · simp [pL]
  · intro i h1 h2
    simp only [List.length_map] at h1
    simp [pL, ofL, h1]
def gRow (k : Q4) (n : Nat) (b : Bg) : V k n := ofL (digs k n b)
theorem gRow_eq (k : Q4) (n : Nat) (b : Bg) : (digs k n b).map pF = pL (gRow k n b) := ofL_eq (digs_len k n b)
theorem foldl_digs (k : Q4) {α : Type} : ∀ (xs : List α) (b : Bg), xs.foldl (fun b _ => tkN b k.n) b = digsN k xs.length b
  | [], _ => rfl
  | x :: xs, b => by simp only [List.foldl_cons, List.length_cons, digsN]; exact foldl_digs k xs _
def pr8 (k : Nat) : Int := primes8.getD (k % 8) 1
theorem pr_ok (k : Nat) : 0 < pr8 k ∧ pr8 k < 2147483648 := by
  unfold pr8
  have h : k % 8 < 8 := Nat.mod_lt _ (by decide)
  generalize k % 8 = i at h
  have : i = 0 ∨ i = 1 ∨ i = 2 ∨ i = 3 ∨ i = 4 ∨ i = 5 ∨ i = 6 ∨ i = 7 := by omega
  rcases this with rfl | rfl | rfl | rfl | rfl | rfl | rfl | rfl <;> decide
@[simp] theorem idx_pr (k : Nat) : idxP (.list [.int 2147483629, .int 2147483587, .int 2147483579, .int 2147483563, .int 2147483549, .int 2147483543, .int 2147483497, .int 2147483489]) (.int ((k : Int) % 8)) = some (.int (pr8 k)) := by
  unfold pr8
  have h : k % 8 < 8 := Nat.mod_lt _ (by decide)
  have e : ((k : Int) % 8) = ((k % 8 : Nat) : Int) := by omega
  rw [e]
  generalize k % 8 = i at h
  have : i = 0 ∨ i = 1 ∨ i = 2 ∨ i = 3 ∨ i = 4 ∨ i = 5 ∨ i = 6 ∨ i = 7 := by omega
  rcases this with rfl | rfl | rfl | rfl | rfl | rfl | rfl | rfl <;> rfl
theorem mkB_g (ns : List Int) (k : Nat) : (mkB ns k).g = if 1000000000000000000 ≤ (if cellAt ns k < 0 then -(cellAt ns k) else cellAt ns k) then (if cellAt ns k < 0 then -(cellAt ns k) else cellAt ns k) else 0 := rfl
theorem mkB_m (ns : List Int) (k : Nat) : (mkB ns k).m = (cellAt ns k % 2147483647 + 104729 * (k : Int) + 7) ^ 5 % pr8 k := by
  have h := pr_ok k
  unfold pr8 at *
  show _ % (if _ then _ else _) = _
  rw [if_neg (by omega)]
@[simp] theorem idx_ro (ns : List Int) (k : Nat) (h : k < ns.length) : idxP (.dict (roK ns)) (.int (k : Int)) = some (.int (cellAt ns k)) := by
  have e : seqP (.dict (roK ns)) = some (ns.map PyData.int) := by
    show some (((ns.map fun n => (PyData.int n, PyData.none))).map (·.1)) = _
    rw [List.map_map]; rfl
  simp only [idxP, e, List.length_map, ixN_nat h]
  simp [cellAt, h]
@[simp] theorem len_ro (ns : List Int) : bltP .len [.dict (roK ns)] = some (.int ns.length) := by
  show some (PyData.int ((ns.map fun n => (PyData.int n, PyData.none)).length : Nat)) = _
  rw [List.length_map]
@[simp] theorem pur_ro (ns : List Int) : pur (.dict (roK ns)) = false := rfl
theorem pV_0 {k : Q4} {n : Nat} : PyData.tuple ((List.finRange n).map fun _ => PyData.int 0) = pV (0 : V k n) := by
  show _ = PyData.tuple ((List.finRange n).map fun i => pF ((0 : V k n) i))
  rw [show (fun i : _root_.Fin n => pF ((0 : V k n) i)) = fun _ => PyData.int 0 from funext fun i => pF_zero (k := k)]
@[simp] theorem zip_maps {α β : Type} (f : α → PyData) (g : β → PyData) (xs : List α) (ys : List β) : ((xs.map f).zip (ys.map g)).map (fun q => PyData.tuple [q.1, q.2]) = (xs.zip ys).map fun q => PyData.tuple [f q.1, g q.2] := by
  rw [List.zip_map, List.map_map]; rfl
theorem lawLow_nil {k : Q4} {n : Nat} : lawLow ([] : List (V k n)) = [] := by
  have : ∀ (is : List (_root_.Fin n)), is.foldl lawStep (([], []) : List (V k n) × List (V k n)) = ([], []) := fun is => by
    induction is with
    | nil => rfl
    | cons i is ih => exact ih
  exact congrArg Prod.snd (this _)
theorem lawStep_nil {k : Q4} {n : Nat} {s1 s2 : List (V k n)} {i : _root_.Fin n} (h : s1.filter (fun r => decide (r i ≠ 0)) = []) : lawStep (s1, s2) i = (s1, s2) := by
  unfold lawStep; simp only [h]
theorem lawStep_cons {k : Q4} {n : Nat} {s1 s2 w : List (V k n)} {s : V k n} {i : _root_.Fin n} (h : s1.filter (fun r => decide (r i ≠ 0)) = s :: w) : lawStep (s1, s2) i = ((s1.erase s).map (fun r => r - sm (r i) (sm (s i)⁻¹ s)), s2.map (fun r => r - sm (r i) (sm (s i)⁻¹ s)) ++ [sm (s i)⁻¹ s]) := by
  unfold lawStep; simp only [h]
theorem rng_fin (n : Nat) : ((List.range n).map fun k : Nat => PyData.int (k : Int)) = (List.finRange n).map fun i => PyData.int (i.val : Int) := by
  apply List.ext_getElem
  · simp
  · intro i h1 h2; simp
theorem pV04 (k : Q4) : pV (0 : V k 4) = .tuple [.int 0, .int 0, .int 0, .int 0] := by cases k <;> rfl
theorem sIx_nat {l n d : Nat} (h : n ≤ l) : sIx l d (some (n : Int)) = n := by
  simp only [sIx]; split <;> omega
@[simp] theorem sli_from {xs : List PyData} {n : Nat} (h : n ≤ xs.length) : sliP (.list xs) (some (n : Int)) none = some (.list (xs.drop n)) := by
  simp only [sliP, cutP, sIx_nat h]
  simp only [sIx]
  rw [List.take_of_length_le (by simp)]
@[simp] theorem sli_to {xs : List PyData} {n : Nat} (h : n ≤ xs.length) : sliP (.list xs) none (some (n : Int)) = some (.list (xs.take n)) := by
  simp only [sliP, cutP, sIx_nat h]
  simp only [sIx, List.drop_zero, Nat.sub_zero]
/-- rows, each so often, added -/
def ledV {k : Q4} {n : Nat} (cs : List (F k)) (vs : List (V k n)) : V k n := (cs.zip vs).foldl (fun s p => s + sm p.1 p.2) 0
/-- rows, one by one -/
def gStep (k : Q4) (st : List (V k 4) × Bg) : List (V k 4) × Bg :=
  if tkD st.2 4 = 0 ∧ st.1 ≠ [] then (st.1 ++ [ledV (digs k st.1.length (tkN st.2 4)) st.1], digsN k st.1.length (tkN st.2 4))
  else if tkD st.2 4 = 1 then (st.1 ++ [0], tkN st.2 4)
  else (st.1 ++ [gRow k 4 (tkN st.2 4)], digsN k 4 (tkN st.2 4))
def gFold (k : Q4) : Nat → List (V k 4) × Bg → List (V k 4) × Bg
  | 0, st => st
  | n + 1, st => gFold k n (gStep k st)
def gAll (k : Q4) (b : Bg) : List (V k 4) × Bg := gFold k (tkn b 7) ([], tkN b 7)
def gAt (k : Q4) (b : Bg) : Nat := tkn (gAll k b).2 ((gAll k b).1.length + 1 : Nat)
def gRows (k : Q4) (b : Bg) : List (V k 4) := (gAll k b).1.drop (gAt k b) ++ (gAll k b).1.take (gAt k b)
def gRowsN (k : Q4) (b : Bg) : Bg := tkN (gAll k b).2 ((gAll k b).1.length + 1 : Nat)
theorem gStep_len (k : Q4) (st : List (V k 4) × Bg) : (gStep k st).1.length = st.1.length + 1 := by
  unfold gStep; split
  · simp
  · split <;> simp
theorem foldl_gStep (k : Q4) {α : Type} : ∀ (xs : List α) (st : List (V k 4) × Bg), xs.foldl (fun s _ => gStep k s) st = gFold k xs.length st
  | [], _ => rfl
  | x :: xs, st => by simp only [List.foldl_cons, List.length_cons, gFold]; exact foldl_gStep k xs _
theorem gFold_len (k : Q4) : ∀ (n : Nat) (st : List (V k 4) × Bg), (gFold k n st).1.length = st.1.length + n
  | 0, _ => rfl
  | n + 1, st => by rw [gFold, gFold_len k n, gStep_len]; omega
theorem gAll_len (k : Q4) (b : Bg) : (gAll k b).1.length ≤ 6 := by
  have := tkn_lt b (n := 7) (by decide)
  rw [gAll, gFold_len]; simp; omega
theorem gRows_len (k : Q4) (b : Bg) : (gRows k b).length ≤ 6 := by
  have := gAll_len k b
  simp only [gRows, List.length_append, List.length_drop, List.length_take]; omega
/-- a comprehension that takes digits -/
theorem vcl_digs {α : Type} {k : Q4} {turn : PyData → VEnv → VR (Option (PyData × K))} (mk : Bg → VEnv) (a : α → PyData) (xs : List α) (b : Bg)
    (h : ∀ s, ∀ x ∈ xs, turn (a x) (mk s) = .ok (some (pF (tkF k s), top0)) (mk (tkN s k.n))) : vcl turn (xs.map a) (mk b) = .ok ((digs k xs.length b).map fun f => (pF f, top0)) (mk (digsN k xs.length b)) := by
  have := vcl_fold (turn := turn) mk a (fun s _ => tkN s k.n) (fun s _ => pF (tkF k s)) top0 (fun xs s => (digs k xs.length s).map pF) (fun s => rfl) (fun x xs s => rfl) xs b h
  rw [this, foldl_digs, List.map_map]
  rfl
theorem mul_one {p : PyData} {n : Nat} (h : n ≤ 1000000) : opP .mul (.list [p]) (.int (n : Int)) = some (.list (List.replicate n p)) := by
  have h1 : SL ([p].length * (n : Int).toNat) = true := y_SL_le (by simp; omega)
  simp only [opP, h1]
  rw [if_pos (by simp; omega)]
  have : ∀ n : Nat, (List.replicate n [p]).flatten = List.replicate n p := fun n => by
    induction n with
    | zero => rfl
    | succ n ih => rw [List.replicate_succ, List.replicate_succ, List.flatten_cons, ih]; rfl
  rw [Int.toNat_natCast, this]
theorem rep0 {k : Q4} (n : Nat) : PyData.tuple (List.replicate n (PyData.int 0)) = pV (0 : V k n) := by
  rw [← pV_0]
  congr 1
  apply List.ext_getElem
  · simp
  · intro i h1 h2; simp
theorem rng_F (k : Q4) : ((List.range k.n).map fun j : Nat => PyData.int (j : Int)) = (fins k).map pF := rng_fin k.n
@[simp] theorem seq_Ln {k : Q4} (l : Ln k) : seqP (pLn l) = some ([l.1, l.2].map pV) := (rfl)
@[simp] theorem idx_Ln0 {k : Q4} (l : Ln k) : idxP (pLn l) (.int 0) = some (pV l.1) := by simp [pLn]
@[simp] theorem idx_Ln1 {k : Q4} (l : Ln k) : idxP (pLn l) (.int 1) = some (pV l.2) := by simp [pLn]
theorem led_2 {k : Q4} {n : Nat} (u v : V k n) (x : F k) : ledV [1, x] [u, v] = u + sm x v := V.ext fun i => by
  simp [ledV]; grind
theorem one_x {k : Q4} (x : F k) : PyData.tuple [.int 1, pF x] = .tuple ([1, x].map pF) := by rw [List.map_cons, pF_one]; rfl
/-- the points on a line, rising -/
def ptsOn {k : Q4} (u v : V k 4) : List (V k 4) := insS le (v :: (fins k).map fun x => u + sm x v)
end Z
/-! YL: lines and points, plainly. -/
namespace Z
open PySem A
variable {k : Q4} {n : Nat}
@[simp] theorem fins_len : (fins k).length = k.n := List.length_finRange
theorem kn_le : k.n ≤ 5 := by cases k <;> decide
theorem kn_ge : 2 ≤ k.n := by cases k <;> decide
theorem le_tot : PySem.W.TotalLe (le : V k n → V k n → Bool) := by unfold le PySem.W.dataLe; exact PySem.W.sortLe_total _ _ _
theorem mem_insS {vs : List (V k n)} {v : V k n} : v ∈ insS le vs ↔ v ∈ vs := (insS_perm le_tot vs).1.mem_iff
@[simp] theorem len_insS {vs : List (V k n)} : (insS le vs).length = vs.length := (insS_perm le_tot vs).1.length_eq
/-- the lowest form stands -/
theorem lowest_low {L : List (_root_.Fin n × V k n)} (h : Low L) : lowest ge (rows L) = rows L := by
  obtain ⟨M, m1, m2, m3⟩ := lowest_ok gr_ge (rows L)
  rw [m2, m1.uniq h m3]
theorem lowest_snoc (vs : List (V k n)) (w : V k n) : lowest ge (vs ++ [w]) = withOne ge (lowest ge vs) w := by simp [lowest, List.foldl_append]
theorem dim_in {vs : List (V k n)} {w : V k n} (h : Sp vs w) : lowest ge (vs ++ [w]) = lowest ge vs :=
  (lowest_same gr_ge).mpr (same_of (fun a ha => by
    rcases List.mem_append.mp ha with q | q
    · exact Sp.mem q
    · rw [List.mem_singleton.mp q]; exact h) fun b hb => Sp.mem (List.mem_append.mpr (.inl hb)))
theorem dim_out {vs : List (V k n)} {w : V k n} (h : ¬ Sp vs w) : (lowest ge (vs ++ [w])).length = (lowest ge vs).length + 1 := by
  obtain ⟨M, m1, m2, m3⟩ := lowest_ok gr_ge vs
  rw [lowest_snoc, m2]
  unfold withOne
  rw [less_rd m1]
  cases e : lead (rd M w) with
  | none => exact absurd ((m3 w).mp (m1.sp_iff.mpr (lead_none e))) h
  | some i =>
    simp only
    rw [(insS_perm gr_ge.tot _).1.length_eq]
    simp
theorem sp_iff_len {vs : List (V k n)} {w : V k n} : Sp vs w ↔ (lowest ge (vs ++ [w])).length = (lowest ge vs).length := by
  constructor
  · intro h; rw [dim_in h]
  · intro h
    apply Classical.byContradiction
    intro hn
    have := dim_out hn
    omega
theorem sp2 {u v w : V k n} : Sp [u, v] w ↔ ∃ a b, w = sm a u + sm b v := by
  constructor
  · rintro ⟨a, b, h⟩
    have h : w - sm a u - sm b v = 0 := h
    refine ⟨a, b, V.ext fun i => ?_⟩
    have := congrFun h i
    have : w i - a * u i - b * v i = 0 := this
    simp
    grind
  · rintro ⟨a, b, rfl⟩
    exact ⟨a, b, V.ext fun i => by simp; grind⟩
/-- a line: two rows in their lowest form -/
def IsLn (l : V k n × V k n) : Prop := ∃ i j : _root_.Fin n, Low [(i, l.1), (j, l.2)]
theorem isLn_mk {u v : V k n} {i j : _root_.Fin n} (h : i < j) (hu : ∀ t, t < i → u t = 0) (hu1 : u i = 1) (hu0 : u j = 0) (hv : ∀ t, t < j → v t = 0) (hv1 : v j = 1) : IsLn (u, v) := by
  refine ⟨i, j, ⟨by simpa using h, ?_, ?_, ?_⟩⟩
  · intro p hp t ht
    rcases List.mem_cons.mp hp with rfl | hp
    · exact hu t ht
    · rw [List.mem_singleton.mp hp] at ht ⊢; exact hv t ht
  · intro p hp
    rcases List.mem_cons.mp hp with rfl | hp
    · exact hu1
    · rw [List.mem_singleton.mp hp]; exact hv1
  · intro p hp r hr hne
    rcases List.mem_cons.mp hp with rfl | hp
    · rcases List.mem_cons.mp hr with rfl | hr
      · exact absurd rfl hne
      · rw [List.mem_singleton.mp hr]; exact hu0
    · rw [List.mem_singleton.mp hp] at hne ⊢
      rcases List.mem_cons.mp hr with rfl | hr
      · exact hv i h
      · rw [List.mem_singleton.mp hr] at hne; exact absurd rfl hne
structure LnF (u v : V k n) (i j : _root_.Fin n) : Prop where
  lt : i < j
  u0 : ∀ t, t < i → u t = 0
  u1 : u i = 1
  uj : u j = 0
  v0 : ∀ t, t < j → v t = 0
  v1 : v j = 1
theorem IsLn.f {u v : V k n} (h : IsLn (u, v)) : ∃ i j, LnF u v i j := by
  obtain ⟨i, j, h⟩ := h
  have hlt : i < j := by simpa using h.up
  refine ⟨i, j, hlt, h.pre (i, u) (.head _), h.one (i, u) (.head _), h.off (i, u) (.head _) (j, v) (.tail _ (.head _)) ?_, h.pre (j, v) (.tail _ (.head _)), h.one (j, v) (.tail _ (.head _))⟩
  intro e
  have e : j = i := e
  rw [e] at hlt
  exact absurd hlt (by simp)
theorem LnF.ln {u v : V k n} {i j : _root_.Fin n} (h : LnF u v i j) : IsLn (u, v) := isLn_mk h.lt h.u0 h.u1 h.uj h.v0 h.v1
theorem IsLn.low {l : V k n × V k n} (h : IsLn l) : lowest ge [l.1, l.2] = [l.1, l.2] := by
  obtain ⟨i, j, h⟩ := h
  exact lowest_low h
/-- two rows are a line where they are their lowest form -/
theorem isLn_iff {l : V k n × V k n} : IsLn l ↔ lowest ge [l.1, l.2] = [l.1, l.2] := by
  refine ⟨IsLn.low, fun h => ?_⟩
  obtain ⟨M, m1, m2, m3⟩ := lowest_ok gr_ge [l.1, l.2]
  rw [m2] at h
  match M, m1, h with
  | [(i, u), (j, v)], m1, h =>
    simp only [rows, List.map_cons, List.map_nil, List.cons.injEq, and_true] at h
    obtain ⟨h1, h2⟩ := h
    have h1 : u = l.1 := h1
    have h2 : v = l.2 := h2
    subst h1 h2
    exact ⟨i, j, m1⟩
  | [], m1, h => simp at h
  | [_], m1, h => simp at h
  | _ :: _ :: _ :: _, m1, h => simp at h
/-- what of two rows a lowest form of two comes of is a line -/
theorem lowest_ln {us : List (V k n)} {u v : V k n} (h : lowest ge us = [u, v]) : IsLn (u, v) := by
  rw [isLn_iff]
  show lowest ge [u, v] = [u, v]
  rw [← h]
  obtain ⟨M, m1, m2, m3⟩ := lowest_ok gr_ge us
  rw [m2, lowest_low m1]
theorem lowest_self (us : List (V k n)) : Same (lowest ge us) us := by
  obtain ⟨M, m1, m2, m3⟩ := lowest_ok gr_ge us
  rw [m2]; exact m3
theorem one_ne : (1 : F k) ≠ 0 := fun h => zero_one' k h.symm
theorem IsLn.ld1 {u v : V k n} (h : IsLn (u, v)) : ∃ i, lead u = some i ∧ u i = 1 := by
  obtain ⟨i, j, f⟩ := h.f
  exact ⟨i, lead_of_ld ⟨by rw [f.u1]; exact one_ne, f.u0⟩, f.u1⟩
theorem IsLn.ld2 {u v : V k n} (h : IsLn (u, v)) : ∃ i, lead v = some i ∧ v i = 1 := by
  obtain ⟨i, j, f⟩ := h.f
  exact ⟨j, lead_of_ld ⟨by rw [f.v1]; exact one_ne, f.v0⟩, f.v1⟩
/-! points -/
theorem mem_pts {u v p : V k 4} : p ∈ ptsOn u v ↔ p = v ∨ ∃ x, p = u + sm x v := by
  rw [ptsOn, mem_insS, List.mem_cons, List.mem_map]
  constructor
  · rintro (h | ⟨x, _, h⟩)
    · exact .inl h
    · exact .inr ⟨x, h.symm⟩
  · rintro (h | ⟨x, h⟩)
    · exact .inl h
    · exact .inr ⟨x, mem_fins x, h.symm⟩
@[simp] theorem pts_len {u v : V k 4} : (ptsOn u v).length = k.n + 1 := by rw [ptsOn, len_insS]; simp
theorem pts_sp {u v p : V k 4} (h : p ∈ ptsOn u v) : Sp [u, v] p := by
  rcases mem_pts.mp h with rfl | ⟨x, rfl⟩
  · exact Sp.mem (.tail _ (.head _))
  · exact sp2.mpr ⟨1, x, V.ext fun i => by simp; grind⟩
theorem pts_nodup {u v : V k 4} (h : IsLn (u, v)) : (ptsOn u v).Nodup := by
  obtain ⟨i, j, f⟩ := h.f
  rw [ptsOn, (insS_perm le_tot _).1.nodup_iff, List.nodup_cons]
  refine ⟨fun hm => ?_, ?_⟩
  · obtain ⟨x, _, hx⟩ := List.mem_map.mp hm
    have := congrFun hx i
    have h2 : u i + x * v i = v i := this
    rw [f.u1, f.v0 i f.lt] at h2
    exact one_ne (k := k) (by grind)
  · rw [List.nodup_iff_pairwise_ne, List.pairwise_map]
    have : (fins k).Nodup := List.nodup_finRange k.n
    rw [List.nodup_iff_pairwise_ne] at this
    refine this.imp fun {a b} hab e => hab ?_
    have := congrFun e j
    have h2 : u j + a * v j = u j + b * v j := this
    rw [f.v1] at h2
    grind
theorem pts_same {u v p q : V k 4} (hp : p ∈ ptsOn u v) (hq : q ∈ ptsOn u v) (hne : p ≠ q) : Same [p, q] [u, v] := by
  have key : ∀ {p q : V k 4}, Sp [p, q] u → Sp [p, q] v → p ∈ ptsOn u v → q ∈ ptsOn u v → Same [p, q] [u, v] := fun {p q} h1 h2 hp hq => same_of (fun a ha => by
    rcases List.mem_cons.mp ha with rfl | ha
    · exact pts_sp hp
    · rw [List.mem_singleton.mp ha]; exact pts_sp hq) fun b hb => by
    rcases List.mem_cons.mp hb with rfl | hb
    · exact h1
    · rw [List.mem_singleton.mp hb]; exact h2
  rcases mem_pts.mp hp with e1 | ⟨x, e1⟩
  · rcases mem_pts.mp hq with e2 | ⟨y, e2⟩
    · exact absurd (e1.trans e2.symm) hne
    · refine key ?_ ?_ hp hq
      · exact sp2.mpr ⟨-y, 1, V.ext fun i => by rw [e1, e2]; simp; grind⟩
      · exact sp2.mpr ⟨1, 0, V.ext fun i => by rw [e1, e2]; simp; grind⟩
  · rcases mem_pts.mp hq with e2 | ⟨y, e2⟩
    · refine key ?_ ?_ hp hq
      · exact sp2.mpr ⟨1, -x, V.ext fun i => by rw [e1, e2]; simp; grind⟩
      · exact sp2.mpr ⟨0, 1, V.ext fun i => by rw [e1, e2]; simp; grind⟩
    · have hxy : x - y ≠ 0 := fun h => hne (by
        rw [e1, e2]
        have : x = y := by grind
        rw [this])
      have hi := mul_inv' k (x - y) hxy
      refine key ?_ ?_ hp hq
      · exact sp2.mpr ⟨1 - x * (x - y)⁻¹, x * (x - y)⁻¹, V.ext fun i => by
          rw [e1, e2]
          generalize (x - y)⁻¹ = z at hi
          simp
          grind⟩
      · exact sp2.mpr ⟨(x - y)⁻¹, -(x - y)⁻¹, V.ext fun i => by
          rw [e1, e2]
          generalize (x - y)⁻¹ = z at hi
          simp
          grind⟩
theorem pts_of {u v w : V k 4} (h : IsLn (u, v)) (hs : Sp [u, v] w) {i : _root_.Fin 4} (hl : lead w = some i) (h1 : w i = 1) : w ∈ ptsOn u v := by
  obtain ⟨a, b, rfl⟩ := sp2.mp hs
  obtain ⟨p, q, f⟩ := h.f
  have hd := lead_some hl
  rw [mem_pts]
  by_cases ha : a = 0
  · subst ha
    have hb : b ≠ 0 := fun hb => hd.1 (by subst hb; simp; grind)
    have hq : Ld (sm (0 : F k) u + sm b v) q := ⟨by simp [f.v1]; grind, fun t ht => by simp [f.v0 t ht]; grind⟩
    have e := hq.uniq hd
    subst e
    refine .inl (V.ext fun t => ?_)
    have h1 : 0 * u q + b * v q = 1 := h1
    rw [f.v1] at h1
    have : b = 1 := by grind
    subst this
    simp; grind
  · have hp : Ld (sm a u + sm b v) p := ⟨by simp [f.u1, f.v0 p f.lt]; grind, fun t ht => by simp [f.u0 t ht, f.v0 t (Nat.lt_trans ht f.lt)]; grind⟩
    have e := hp.uniq hd
    subst e
    have h1 : a * u p + b * v p = 1 := h1
    rw [f.u1, f.v0 p f.lt] at h1
    have : a = 1 := by grind
    subst this
    exact .inr ⟨b, V.ext fun t => by simp; grind⟩
/-- each point has 1 as its lead -/
theorem pts_lead {u v p : V k 4} (h : IsLn (u, v)) (hp : p ∈ ptsOn u v) : ∃ i, lead p = some i ∧ p i = 1 := by
  obtain ⟨i, j, f⟩ := h.f
  rcases mem_pts.mp hp with rfl | ⟨x, rfl⟩
  · exact h.ld2
  · have e : (u + sm x v) i = 1 := by simp [f.u1, f.v0 i f.lt]; grind
    refine ⟨i, lead_of_ld ⟨by rw [e]; exact one_ne, fun t ht => ?_⟩, e⟩
    simp [f.u0 t ht, f.v0 t (Nat.lt_trans ht f.lt)]; grind
/-! four numbers -/
def vec4 (a b c d : F k) : V k 4 := fun i => match i with
  | 0 => a | 1 => b | 2 => c | 3 => d
theorem pV_4 (a b c d : F k) : pV (vec4 a b c d) = .tuple [pF a, pF b, pF c, pF d] := (rfl)
theorem all4 {P : _root_.Fin 4 → Prop} (h0 : P 0) (h1 : P 1) (h2 : P 2) (h3 : P 3) : ∀ t, P t
  | 0 => h0 | 1 => h1 | 2 => h2 | 3 => h3
theorem isLn4 {u v : V k 4} (i j : _root_.Fin 4) (h : i < j) (hu : ∀ t, t < i → u t = 0) (hu1 : u i = 1) (hu0 : u j = 0) (hv : ∀ t, t < j → v t = 0) (hv1 : v j = 1) : IsLn (u, v) := isLn_mk h hu hu1 hu0 hv hv1
theorem fold_pts {u v : V k n} : ∀ (xs : List (F k)) (s : List (V k n)), xs.foldl (fun s x => s ++ [u + sm x v]) s = s ++ xs.map fun x => u + sm x v
  | [], s => by simp
  | x :: xs, s => by rw [List.foldl_cons, fold_pts xs, List.map_cons, List.append_assoc]; rfl
/-- the points on a line, as they come -/
def ptsL (u v : V k n) : List (V k n) := v :: (fins k).map fun x => u + sm x v
theorem fold_ptsL {u v : V k n} : (fins k).foldl (fun s x => s ++ [u + sm x v]) [v] = ptsL u v := fold_pts _ _
@[simp] theorem insS_ptsL {u v : V k 4} : insS le (ptsL u v) = ptsOn u v := (rfl)
@[simp] theorem blt_lstLn (l : Ln k) : bltP .list [pLn l] = some (.list [pV l.1, pV l.2]) := (rfl)
@[simp] theorem op_addLn (a b : Ln k) : opP .add (pLn a) (pLn b) = some (.tuple [pV a.1, pV a.2, pV b.1, pV b.2]) := (rfl)
theorem idxM {α : Type} {f : α → PyData} {xs : List α} {i : Nat} (h : i < xs.length) : idxP (.list (xs.map f)) (.int (i : Int)) = some (f xs[i]) := by
  rw [idxP_lit, List.getElem?_map, List.getElem?_eq_getElem h]; rfl
theorem mod_ne {a c m : Nat} (ha : a < m) (h0 : 0 < c) (hc : c < m) : (a + c) % m ≠ a := by
  by_cases h : a + c < m
  · rw [Nat.mod_eq_of_lt h]; omega
  · rw [Nat.mod_eq_sub_mod (by omega), Nat.mod_eq_of_lt (by omega)]; omega
theorem pts_line {l : Ln k} (h : IsLn l) {p q : V k 4} (hp : p ∈ ptsOn l.1 l.2) (hq : q ∈ ptsOn l.1 l.2) (hne : p ≠ q) : lowest ge [p, q] = [l.1, l.2] := by
  rw [(lowest_same gr_ge).mpr (pts_same hp hq hne), h.low]
/-- a row on a line leaves two -/
theorem on_len {l : Ln k} (h : IsLn l) (w : V k 4) : (lowest ge [l.1, l.2, w]).length = 2 ↔ Sp [l.1, l.2] w := by
  have := sp_iff_len (vs := [l.1, l.2]) (w := w)
  rw [h.low] at this
  exact this.symm
theorem pLn_eq (l : Ln k) : PyData.tuple [pV l.1, pV l.2] = pLn l := rfl
@[simp] theorem SL_kn : SL (k.n + 1) = true := by cases k <;> rfl
@[simp] theorem blt_kn : Nat.blt (k.n + 1) 16777216 = true := by cases k <;> rfl
@[simp] theorem kn_pos : 0 < k.n := k.pos
@[simp] theorem kn_lt : (k.n : Int) < 1073741824 := by cases k <;> decide
@[simp] theorem kn_lt1 : (k.n : Int) + 1 < 1073741824 := by cases k <;> decide
@[simp] theorem kn_pos1 : (0 : Int) < (k.n : Int) + 1 := by omega
/-- the point in which two lines meet -/
def comm (l m : Ln k) : List (V k 4) := (ptsOn l.1 l.2).filter fun p => decide (p ∈ ptsOn m.1 m.2)
def shPt (l m : Ln k) : Option (V k 4) := if l = m then none else (comm l m).head?
def pSh (o : Option (V k n)) : PyData := match o with
  | some v => pV v
  | none => .none
@[simp] theorem pSh_s (v : V k n) : pSh (some v) = pV v := (rfl)
@[simp] theorem pSh_n : pSh (none : Option (V k n)) = .none := (rfl)
@[simp] theorem pur_Sh (o : Option (V k n)) : pur (pSh o) = true := by cases o <;> simp
@[simp] theorem pts_ne {u v : V k 4} : ptsOn u v ≠ [] := fun h => by
  have := pts_len (u := u) (v := v)
  rw [h] at this
  simp at this
theorem len2 {α : Type} {xs : List α} (h : xs.length = 2) : ∃ a b, xs = [a, b] := by
  match xs, h with
  | [a, b], _ => exact ⟨a, b, rfl⟩
@[simp] theorem pLn_mk (u v : V k 4) : PyData.tuple [pV u, pV v] = pLn (u, v) := (rfl)
theorem idx_head {α : Type} {f : α → PyData} {W : List α} {p : α} (h : W.head? = some p) : idxP (.list (W.map f)) (.int 0) = some (f p) := by
  cases W with
  | nil => cases h
  | cons q W => cases h; simp
theorem head_ne {α : Type} {W : List α} {p : α} (h : W.head? = some p) : W ≠ [] := fun e => by rw [e] at h; cases h
theorem mem_comm {l m : Ln k} {p : V k 4} : p ∈ comm l m ↔ p ∈ ptsOn l.1 l.2 ∧ p ∈ ptsOn m.1 m.2 := by simp [comm]
theorem comm_self {l : Ln k} : comm l l ≠ [] := fun h => by
  have : l.2 ∈ comm l l := mem_comm.mpr ⟨mem_pts.mpr (.inl rfl), mem_pts.mpr (.inl rfl)⟩
  rw [h] at this; cases this
theorem comm_nil {l m : Ln k} (h : comm l m = []) : comm m l = [] := by
  apply List.eq_nil_iff_forall_not_mem.mpr
  intro p hp
  have : p ∈ comm l m := mem_comm.mpr (mem_comm.mp hp).symm
  rw [h] at this; cases this
/-- lines with two points in common are one -/
theorem ln_eq {l m : Ln k} (hl : IsLn l) (hm : IsLn m) {p q : V k 4} (hp : p ∈ comm l m) (hq : q ∈ comm l m) (hne : p ≠ q) : l = m := by
  have h1 := pts_line hl (mem_comm.mp hp).1 (mem_comm.mp hq).1 hne
  have h2 := pts_line hm (mem_comm.mp hp).2 (mem_comm.mp hq).2 hne
  rw [h1] at h2
  simp only [List.cons.injEq, and_true] at h2
  exact Prod.ext h2.1 h2.2
theorem shPt_comm {l m : Ln k} (hl : IsLn l) (hm : IsLn m) (hne : l ≠ m) : shPt l m = shPt m l := by
  rw [shPt, shPt, if_neg hne, if_neg (Ne.symm hne)]
  cases h : (comm l m).head? with
  | none =>
    rw [comm_nil (List.head?_eq_none_iff.mp h)]; rfl
  | some p =>
    cases h2 : (comm m l).head? with
    | none =>
      have := comm_nil (List.head?_eq_none_iff.mp h2)
      rw [this] at h; cases h
    | some q =>
      have hp := List.mem_of_head? h
      have hq := List.mem_of_head? h2
      rw [show p = q from Classical.byContradiction fun e => hne (ln_eq hl hm hp (mem_comm.mpr (mem_comm.mp hq).symm) e)]
/-- what of one line comes of another one: a common point -/
theorem comm_of {l m : Ln k} (hl : IsLn l) (hm : IsLn m) {w : V k 4} (h1 : Sp [l.1, l.2] w) (h2 : Sp [m.1, m.2] w) (h0 : w ≠ 0) : comm l m ≠ [] := by
  cases e : lead w with
  | none => exact absurd (lead_none e) h0
  | some i =>
    have hs := scale_ld (lead_some e)
    have e2 := lead_of_ld hs.1
    intro hc
    have : sm (w i)⁻¹ w ∈ comm l m := mem_comm.mpr ⟨pts_of hl (h1.sm _) e2 hs.2, pts_of hm (h2.sm _) e2 hs.2⟩
    rw [hc] at this; cases this
/-- four left: no common point -/
theorem apart_iff {l m : Ln k} (hl : IsLn l) (hm : IsLn m) : (lowest ge [l.1, l.2, m.1, m.2]).length = 4 ↔ comm l m = [] := by
  have e1 : lowest ge [l.1, l.2, m.1, m.2] = lowest ge (([l.1, l.2] ++ [m.1]) ++ [m.2]) := rfl
  have h2 : (lowest ge [l.1, l.2]).length = 2 := by rw [hl.low]; rfl
  constructor
  · intro h
    apply List.eq_nil_iff_forall_not_mem.mpr
    intro p hp
    have hp1 := pts_sp (mem_comm.mp hp).1
    have hp2 := pts_sp (mem_comm.mp hp).2
    -- p comes of both lines: one of m's rows comes of the others
    obtain ⟨a, b, hab⟩ := sp2.mp hp2
    have hp0 : p ≠ 0 := by
      obtain ⟨i, h1, h2⟩ := pts_lead hl (mem_comm.mp hp).1
      intro z
      rw [z] at h2
      exact zero_one' k h2
    by_cases hb : b = 0
    · subst hb
      have ha : a ≠ 0 := fun z => hp0 (by rw [hab, z]; exact V.ext fun i => by simp; grind)
      have hi := mul_inv' k a ha
      have : Sp [l.1, l.2] m.1 := by
        have := hp1.sm a⁻¹
        have e : sm a⁻¹ p = m.1 := by
          rw [hab]
          exact V.ext fun i => by simp; grind
        rwa [e] at this
      have d1 := dim_in this
      have : (lowest ge (([l.1, l.2] ++ [m.1]) ++ [m.2])).length ≤ 3 := by
        by_cases hs : Sp ([l.1, l.2] ++ [m.1]) m.2
        · rw [dim_in hs, d1, h2]; omega
        · rw [dim_out hs, d1, h2]; omega
      rw [e1] at h; omega
    · have hi := mul_inv' k b hb
      have : Sp ([l.1, l.2] ++ [m.1]) m.2 := by
        have q1 : Sp ([l.1, l.2] ++ [m.1]) p := Sp.mono (fun x hx => Sp.mem (List.mem_append.mpr (.inl hx))) hp1
        have q2 : Sp ([l.1, l.2] ++ [m.1]) m.1 := Sp.mem (by simp)
        have := (q1.sub (q2.sm a)).sm b⁻¹
        have e : sm b⁻¹ (p - sm a m.1) = m.2 := by
          rw [hab]
          exact V.ext fun i => by simp; grind
        rwa [e] at this
      have d1 := dim_in this
      have : (lowest ge ([l.1, l.2] ++ [m.1])).length ≤ 3 := by
        by_cases hs : Sp [l.1, l.2] m.1
        · rw [dim_in hs, h2]; omega
        · rw [dim_out hs, h2]; omega
      rw [e1, d1] at h; omega
  · intro h
    have n1 : ¬ Sp [l.1, l.2] m.1 := fun hs => by
      obtain ⟨i, h1, h2⟩ := hm.ld1
      refine comm_of hl hm hs (Sp.mem (.head _)) (fun z => ?_) h
      rw [z] at h2
      exact zero_one' k h2
    have n2 : ¬ Sp ([l.1, l.2] ++ [m.1]) m.2 := fun hs => by
      obtain ⟨a, b, c, hs⟩ := hs
      have hs : m.2 - sm a l.1 - sm b l.2 - sm c m.1 = 0 := hs
      have e : sm (-c) m.1 + sm 1 m.2 = sm a l.1 + sm b l.2 := V.ext fun i => by
        have := congrFun hs i
        have : m.2 i - a * l.1 i - b * l.2 i - c * m.1 i = 0 := this
        simp; grind
      obtain ⟨i, j, f⟩ := hm.f
      refine comm_of hl hm (w := sm (-c) m.1 + sm 1 m.2) (by rw [e]; exact sp2.mpr ⟨a, b, rfl⟩) (sp2.mpr ⟨-c, 1, rfl⟩) (fun z => ?_) h
      have := congrFun z j
      have : -c * m.1 j + 1 * m.2 j = 0 := this
      rw [f.uj, f.v1] at this
      exact one_ne (k := k) (by grind)
    rw [e1, dim_out n2, dim_out n1, h2]
@[simp] theorem is_nt {xs : List PyData} : cmpP .is (.tuple xs) .none = some false := (rfl)
@[simp] theorem isnt_nt {xs : List PyData} : cmpP .isnt (.tuple xs) .none = some true := (rfl)
@[simp] theorem is_nl {xs : List PyData} : cmpP .is (.list xs) .none = some false := (rfl)
@[simp] theorem isnt_nl {xs : List PyData} : cmpP .isnt (.list xs) .none = some true := (rfl)
@[simp] theorem is_nV (v : V k n) : cmpP .is (pV v) .none = some false := (rfl)
@[simp] theorem isnt_nV (v : V k n) : cmpP .isnt (pV v) .none = some true := (rfl)
@[simp] theorem is_nLn (l : Ln k) : cmpP .is (pLn l) .none = some false := (rfl)
@[simp] theorem isnt_nLn (l : Ln k) : cmpP .isnt (pLn l) .none = some true := (rfl)
@[simp] theorem is_nF (x : F k) : cmpP .is (pF x) .none = some false := (rfl)
@[simp] theorem isnt_nF (x : F k) : cmpP .isnt (pF x) .none = some true := (rfl)
/-! all points -/
/-- all rows of so many numbers, rising -/
def allR (k : Q4) : (n : Nat) → List (List (F k))
  | 0 => [[]]
  | n + 1 => (allR k n).flatMap fun r => (fins k).map fun x => r ++ [x]
/-- all points, rising -/
def allPts (k : Q4) : List (V k 4) := ([3, 2, 1, 0] : List Nat).flatMap fun p => (allR k (3 - p)).map fun r => ofL (List.replicate p 0 ++ 1 :: r)
theorem allPts_len : ((allPts k).length : Int) = (k.n : Int) * k.n * k.n + (k.n : Int) * k.n + k.n + 1 := by cases k <;> rfl
theorem allPts_le : (allPts k).length ≤ 1000 := by cases k <;> decide +kernel
theorem lowest_one {r : V k n} {i : _root_.Fin n} (h : lead r = some i) : lowest ge [r] = [sm (r i)⁻¹ r] := by
  have : less ([] : List (V k n)) r = r := rfl
  show withOne ge [] r = _
  unfold withOne
  rw [this, h]
  rfl
/-- a number other than 0 -/
def nzF (k : Q4) (b : Bg) : F k := (⟨1 + tkn b (k.n - 1), by have := tkn_lt b (n := k.n - 1) (by have := kn_ge (k := k); omega); omega⟩ : _root_.Fin k.n)
theorem pF_nz (k : Q4) (b : Bg) : PyData.int (1 + tkD b ((k.n : Int) - 1)) = pF (nzF k b) := by
  have h := kn_ge (k := k)
  have e : ((k.n : Int) - 1) = ((k.n - 1 : Nat) : Int) := by omega
  rw [e, tkn_eq b (by omega)]
  show PyData.int _ = PyData.int ((1 + tkn b (k.n - 1) : Nat) : Int)
  congr 1
theorem nzF_ne (k : Q4) (b : Bg) : nzF k b ≠ 0 := fun h => by
  have h1 : (nzF k b).val = (0 : F k).val := by rw [h]
  have h2 : (0 : F k).val = 0 := by cases k <;> rfl
  have h3 : (nzF k b).val = 1 + tkn b (k.n - 1) := rfl
  omega
@[simp] theorem kn_pos2 : (0 : Int) < (k.n : Int) - 1 := by have := kn_ge (k := k); omega
@[simp] theorem kn_lt2 : (k.n : Int) - 1 < 1073741824 := by have := kn_le (k := k); omega
@[simp] theorem okm_kn {i : Int} : okm i (k.n : Int) = true := okm_r (by have := kn_le (k := k); omega) (by have := kn_le (k := k); omega)
theorem lead_ex {v : V k n} (h : v ≠ 0) : ∃ i, lead v = some i := by
  cases e : lead v with
  | none => exact absurd (lead_none e) h
  | some i => exact ⟨i, rfl⟩
@[simp] theorem eq_V1 (x y : V k n) : eqP (.list [pV x]) (.list [pV y]) = some (decide (x = y)) := by
  have := eqP_l (f := pV (k := k) (n := n)) (show 2 ≤ 59 by decide) [x] [y]
  simpa using this
@[simp] theorem idxV4_0 (v : V k 4) : idxP (pV v) (.int 0) = some (pF (v 0)) := (rfl)
@[simp] theorem idxV4_1 (v : V k 4) : idxP (pV v) (.int 1) = some (pF (v 1)) := (rfl)
@[simp] theorem idxV4_2 (v : V k 4) : idxP (pV v) (.int 2) = some (pF (v 2)) := (rfl)
@[simp] theorem idxV4_3 (v : V k 4) : idxP (pV v) (.int 3) = some (pF (v 3)) := (rfl)
@[simp] theorem idxV6_0 (v : V k 6) : idxP (pV v) (.int 0) = some (pF (v 0)) := (rfl)
@[simp] theorem idxV6_1 (v : V k 6) : idxP (pV v) (.int 1) = some (pF (v 1)) := (rfl)
@[simp] theorem idxV6_2 (v : V k 6) : idxP (pV v) (.int 2) = some (pF (v 2)) := (rfl)
@[simp] theorem idxV6_3 (v : V k 6) : idxP (pV v) (.int 3) = some (pF (v 3)) := (rfl)
@[simp] theorem idxV6_4 (v : V k 6) : idxP (pV v) (.int 4) = some (pF (v 4)) := (rfl)
@[simp] theorem idxV6_5 (v : V k 6) : idxP (pV v) (.int 5) = some (pF (v 5)) := (rfl)
/-! six numbers -/
def vec6 (a b c d e f : F k) : V k 6 := fun i => match i with
  | 0 => a | 1 => b | 2 => c | 3 => d | 4 => e | 5 => f
theorem pV_6 (a b c d e f : F k) : pV (vec6 a b c d e f) = .tuple [pF a, pF b, pF c, pF d, pF e, pF f] := (rfl)
theorem pL_6 (v : V k 6) : pL v = [pF (v 0), pF (v 1), pF (v 2), pF (v 3), pF (v 4), pF (v 5)] := (rfl)
def plk (u v : V k 4) : V k 6 := vec6 (u 0 * v 1 - u 1 * v 0) (u 0 * v 2 - u 2 * v 0) (u 0 * v 3 - u 3 * v 0) (u 1 * v 2 - u 2 * v 1) (u 1 * v 3 - u 3 * v 1) (u 2 * v 3 - u 3 * v 2)
/-- divided by the first other than 0 -/
def nrm (v : V k n) : V k n := match lead v with
  | some i => sm (v i)⁻¹ v
  | none => v
theorem nrm_of {v : V k n} {i : _root_.Fin n} (h : lead v = some i) : nrm v = sm (v i)⁻¹ v := by unfold nrm; rw [h]
theorem nrm_sm {v : V k n} {c : F k} (hc : c ≠ 0) : nrm (sm c v) = nrm v := by
  cases e : lead v with
  | none =>
    have hv := lead_none e
    subst hv
    have : sm c (0 : V k n) = 0 := V.ext fun i => by simp; grind
    rw [this]
  | some i =>
    have hl := lead_some e
    have hi := mul_inv' k c hc
    have h2 : lead (sm c v) = some i := lead_of_ld ⟨fun z => hl.1 (by
      have z : c * v i = 0 := z
      have : c⁻¹ * (c * v i) = 0 := by rw [z]; grind
      grind), fun j hj => by simp [hl.2 j hj]; grind⟩
    rw [nrm_of e, nrm_of h2]
    have h3 := mul_inv' k (v i) hl.1
    have h4 : (c * v i)⁻¹ = c⁻¹ * (v i)⁻¹ := by
      have hn : c * v i ≠ 0 := (lead_some h2).1
      have := mul_inv' k _ hn
      generalize (c * v i)⁻¹ = z at *
      generalize (v i)⁻¹ = y at *
      generalize c⁻¹ = x at *
      grind
    refine V.ext fun j => ?_
    show (c * v i)⁻¹ * (c * v j) = (v i)⁻¹ * v j
    rw [h4]
    generalize (v i)⁻¹ = y at *
    generalize c⁻¹ = x at *
    grind
theorem plk_sp {u v : V k 4} {a b c d : F k} : plk (sm a u + sm b v) (sm c u + sm d v) = sm (a * d - b * c) (plk u v) := by
  refine V.ext fun i => ?_
  match i with
  | 0 => show (a * u 0 + b * v 0) * (c * u 1 + d * v 1) - (a * u 1 + b * v 1) * (c * u 0 + d * v 0) = (a * d - b * c) * (u 0 * v 1 - u 1 * v 0); grind
  | 1 => show (a * u 0 + b * v 0) * (c * u 2 + d * v 2) - (a * u 2 + b * v 2) * (c * u 0 + d * v 0) = (a * d - b * c) * (u 0 * v 2 - u 2 * v 0); grind
  | 2 => show (a * u 0 + b * v 0) * (c * u 3 + d * v 3) - (a * u 3 + b * v 3) * (c * u 0 + d * v 0) = (a * d - b * c) * (u 0 * v 3 - u 3 * v 0); grind
  | 3 => show (a * u 1 + b * v 1) * (c * u 2 + d * v 2) - (a * u 2 + b * v 2) * (c * u 1 + d * v 1) = (a * d - b * c) * (u 1 * v 2 - u 2 * v 1); grind
  | 4 => show (a * u 1 + b * v 1) * (c * u 3 + d * v 3) - (a * u 3 + b * v 3) * (c * u 1 + d * v 1) = (a * d - b * c) * (u 1 * v 3 - u 3 * v 1); grind
  | 5 => show (a * u 2 + b * v 2) * (c * u 3 + d * v 3) - (a * u 3 + b * v 3) * (c * u 2 + d * v 2) = (a * d - b * c) * (u 2 * v 3 - u 3 * v 2); grind
theorem plk_mul {u v : V k 4} (h : plk u v = 0) : ∀ i j : _root_.Fin 4, u i * v j = u j * v i := by
  have h0 : u 0 * v 1 - u 1 * v 0 = 0 := congrFun h 0
  have h1 : u 0 * v 2 - u 2 * v 0 = 0 := congrFun h 1
  have h2 : u 0 * v 3 - u 3 * v 0 = 0 := congrFun h 2
  have h3 : u 1 * v 2 - u 2 * v 1 = 0 := congrFun h 3
  have h4 : u 1 * v 3 - u 3 * v 1 = 0 := congrFun h 4
  have h5 : u 2 * v 3 - u 3 * v 2 = 0 := congrFun h 5
  refine all4 (all4 ?_ ?_ ?_ ?_) (all4 ?_ ?_ ?_ ?_) (all4 ?_ ?_ ?_ ?_) (all4 ?_ ?_ ?_ ?_) <;> grind
/-- rows of a line have other six than noughts -/
theorem plk_ne {u v : V k 4} (h : (lowest ge [u, v]).length = 2) : plk u v ≠ 0 := fun hz => by
  have hm := plk_mul hz
  have h1 : (lowest ge [u]).length ≤ 1 := lowest_len [u]
  have e : lowest ge [u, v] = lowest ge ([u] ++ [v]) := rfl
  by_cases hu : u = 0
  · have h0 : (lowest ge [u]).length = 0 := by
      subst hu
      have : lowest ge ([] ++ [(0 : V k 4)]) = lowest ge [] := dim_in (Sp.zero _)
      rw [show [(0 : V k 4)] = [] ++ [0] from rfl, this]; rfl
    by_cases hs : Sp [u] v
    · rw [e, dim_in hs, h0] at h; cases h
    · rw [e, dim_out hs, h0] at h; cases h
  · obtain ⟨i, hi⟩ := lead_ex hu
    have hi := (lead_some hi).1
    have hv := mul_inv' k (u i) hi
    have : Sp [u] v := ⟨v i * (u i)⁻¹, V.ext fun j => by
      have := hm i j
      simp
      generalize (u i)⁻¹ = z at *
      grind⟩
    rw [e, dim_in this] at h
    omega
def half (s : V k 6) : F k := s 0 * s 5 - s 1 * s 4 + s 2 * s 3
theorem half_plk (u v : V k 4) : half (plk u v) = 0 := by
  show (u 0 * v 1 - u 1 * v 0) * (u 2 * v 3 - u 3 * v 2) - (u 0 * v 2 - u 2 * v 0) * (u 1 * v 3 - u 3 * v 1) + (u 0 * v 3 - u 3 * v 0) * (u 1 * v 2 - u 2 * v 1) = 0
  grind
theorem half_sm (c : F k) (s : V k 6) : half (sm c s) = c * c * half s := by
  show c * s 0 * (c * s 5) - c * s 1 * (c * s 4) + c * s 2 * (c * s 3) = c * c * (s 0 * s 5 - s 1 * s 4 + s 2 * s 3)
  grind
theorem half_nrm (u v : V k 4) : half (nrm (plk u v)) = 0 := by
  unfold nrm
  split
  · rw [half_sm, half_plk]; grind
  · exact half_plk u v
@[simp] theorem tgV_Ln {c : Bool} {is : List Nat} {v : VEnv} (l : Ln k) : tgV c (.tu is) (pLn l) v = setAllV c is [pV l.1, pV l.2] v := (rfl)
theorem sixL (l : Ln k) : [pF (l.1 0 * l.2 1 - l.1 1 * l.2 0), pF (l.1 0 * l.2 2 - l.1 2 * l.2 0), pF (l.1 0 * l.2 3 - l.1 3 * l.2 0), pF (l.1 1 * l.2 2 - l.1 2 * l.2 1), pF (l.1 1 * l.2 3 - l.1 3 * l.2 1), pF (l.1 2 * l.2 3 - l.1 3 * l.2 2)] = pL (plk l.1 l.2) := (rfl)
@[simp] theorem glo_pairs {cp : Nat → List PyData → RC} {ci : Nat → List (PyData × K) → RI} {io : Nat → List Nat} {v : VEnv} : vev cp ci io (.glo (.tup [.tup [.int 0, .int 1], .tup [.int 0, .int 2], .tup [.int 0, .int 3], .tup [.int 1, .int 2], .tup [.int 1, .int 3], .tup [.int 2, .int 3]])) v =
    .ok (.v (.tuple [.tuple [.int 0, .int 1], .tuple [.int 0, .int 2], .tuple [.int 0, .int 3], .tuple [.int 1, .int 2], .tuple [.int 1, .int 3], .tuple [.int 2, .int 3]]) top0) v := by
  rw [vev]; rfl
theorem lead_filter (v : V k n) : ((List.finRange n).filter fun i => decide (v i ≠ 0)).head? = lead v := by rw [List.head?_filter]; rfl
theorem ledV_2 (a b : F k) (u v : V k n) : ledV [a, b] [u, v] = sm a u + sm b v := V.ext fun i => by
  simp [ledV]; grind
/-! pairings -/
def pair6 (s t : V k 6) : F k := s 0 * t 5 - s 1 * t 4 + s 2 * t 3 + s 3 * t 2 - s 4 * t 1 + s 5 * t 0
theorem pair6_comm (s t : V k 6) : pair6 s t = pair6 t s := by unfold pair6; grind
theorem pair6_sm (a b : F k) (s t : V k 6) : pair6 (sm a s) (sm b t) = a * b * pair6 s t := by
  show a * s 0 * (b * t 5) - a * s 1 * (b * t 4) + a * s 2 * (b * t 3) + a * s 3 * (b * t 2) - a * s 4 * (b * t 1) + a * s 5 * (b * t 0) = _
  unfold pair6; grind
theorem nrm_sc {v : V k n} (h : v ≠ 0) : ∃ c, c ≠ 0 ∧ nrm v = sm c v := by
  obtain ⟨i, hi⟩ := lead_ex h
  refine ⟨(v i)⁻¹, fun z => ?_, nrm_of hi⟩
  have := mul_inv' k (v i) (lead_some hi).1
  rw [z] at this
  exact zero_one' k (by grind)
theorem pair6_nrm {s t : V k 6} (hs : s ≠ 0) (ht : t ≠ 0) : pair6 (nrm s) (nrm t) = 0 ↔ pair6 s t = 0 := by
  obtain ⟨a, ha, e1⟩ := nrm_sc hs
  obtain ⟨b, hb, e2⟩ := nrm_sc ht
  rw [e1, e2, pair6_sm]
  have h1 := mul_inv' k a ha
  have h2 := mul_inv' k b hb
  constructor
  · intro h
    generalize pair6 s t = p at *
    generalize a⁻¹ = x at *
    generalize b⁻¹ = y at *
    grind
  · intro h; rw [h]; grind
/-- the pairing of rows of two lines -/
def det4 (a b c d : V k 4) : F k := pair6 (plk a b) (plk c d)
theorem det4_eq (a b c d : V k 4) : det4 a b c d = (a 0 * b 1 - a 1 * b 0) * (c 2 * d 3 - c 3 * d 2) - (a 0 * b 2 - a 2 * b 0) * (c 1 * d 3 - c 3 * d 1) + (a 0 * b 3 - a 3 * b 0) * (c 1 * d 2 - c 2 * d 1) + (a 1 * b 2 - a 2 * b 1) * (c 0 * d 3 - c 3 * d 0) - (a 1 * b 3 - a 3 * b 1) * (c 0 * d 2 - c 2 * d 0) + (a 2 * b 3 - a 3 * b 2) * (c 0 * d 1 - c 1 * d 0) := rfl
/-- rows of which some sum is nought -/
theorem det4_zero {a b c d : V k 4} {x y z w : F k} (h : sm x a + sm y b + sm z c + sm w d = 0) (hn : z ≠ 0 ∨ w ≠ 0) : det4 a b c d = 0 := by
  have e : ∀ i, x * a i + y * b i + z * c i + w * d i = 0 := fun i => congrFun h i
  have e0 := e 0; have e1 := e 1; have e2 := e 2; have e3 := e 3
  rw [det4_eq]
  rcases hn with hz | hw
  · have hi := mul_inv' k z hz
    generalize z⁻¹ = q at *
    have f0 : c 0 = -(q * (x * a 0 + y * b 0 + w * d 0)) := by grind
    have f1 : c 1 = -(q * (x * a 1 + y * b 1 + w * d 1)) := by grind
    have f2 : c 2 = -(q * (x * a 2 + y * b 2 + w * d 2)) := by grind
    have f3 : c 3 = -(q * (x * a 3 + y * b 3 + w * d 3)) := by grind
    rw [f0, f1, f2, f3]
    clear f0 f1 f2 f3 e0 e1 e2 e3 e h hi hz
    grind
  · have hi := mul_inv' k w hw
    generalize w⁻¹ = q at *
    have f0 : d 0 = -(q * (x * a 0 + y * b 0 + z * c 0)) := by grind
    have f1 : d 1 = -(q * (x * a 1 + y * b 1 + z * c 1)) := by grind
    have f2 : d 2 = -(q * (x * a 2 + y * b 2 + z * c 2)) := by grind
    have f3 : d 3 = -(q * (x * a 3 + y * b 3 + z * c 3)) := by grind
    rw [f0, f1, f2, f3]
    clear f0 f1 f2 f3 e0 e1 e2 e3 e h hi hw
    grind
theorem meet_of {a b c d : V k 4} {i j s t : _root_.Fin 4} (f : LnF a b i j) (hall : ∀ r : _root_.Fin 4, r = i ∨ r = j ∨ r = s ∨ r = t)
    (h : (c s - c i * a s - c j * b s) * (d t - d i * a t - d j * b t) = (c t - c i * a t - c j * b t) * (d s - d i * a s - d j * b s)) :
    ∃ x y z w, sm x a + sm y b + sm z c + sm w d = 0 ∧ (z ≠ 0 ∨ w ≠ 0) := by
  have fin : ∀ z w, z * (c s - c i * a s - c j * b s) + w * (d s - d i * a s - d j * b s) = 0 → z * (c t - c i * a t - c j * b t) + w * (d t - d i * a t - d j * b t) = 0 →
      sm (-(z * c i + w * d i)) a + sm (-(z * c j + w * d j)) b + sm z c + sm w d = 0 := fun z w h1 h2 => V.ext fun r => by
    show -(z * c i + w * d i) * a r + -(z * c j + w * d j) * b r + z * c r + w * d r = 0
    rcases hall r with rfl | rfl | rfl | rfl
    · rw [f.u1, f.v0 _ f.lt]; grind
    · rw [f.uj, f.v1]; grind
    · grind
    · grind
  by_cases h1 : c s - c i * a s - c j * b s = 0
  · by_cases h2 : c t - c i * a t - c j * b t = 0
    · exact ⟨_, _, 1, 0, fin 1 0 (by rw [h1]; grind) (by rw [h2]; grind), .inl one_ne⟩
    · by_cases h3 : d s - d i * a s - d j * b s = 0
      · exact ⟨_, _, d t - d i * a t - d j * b t, -(c t - c i * a t - c j * b t), fin _ _ (by rw [h1, h3]; grind) (by grind), .inr fun z => h2 (by grind)⟩
      · exfalso
        have g := mul_inv' k _ h3
        have g2 := mul_inv' k _ h2
        rw [h1] at h
        generalize (d s - d i * a s - d j * b s) = p at *
        generalize (c t - c i * a t - c j * b t) = q at *
        generalize p⁻¹ = u at *
        generalize q⁻¹ = v at *
        exact one_ne (k := k) (by grind)
  · exact ⟨_, _, d s - d i * a s - d j * b s, -(c s - c i * a s - c j * b s), fin _ _ (by grind) (by grind), .inr fun z => h1 (by grind)⟩
/-- lines whose pairing is nought meet -/
theorem det4_meet {a b c d : V k 4} (hl : IsLn (a, b)) (h : det4 a b c d = 0) : ∃ x y z w, sm x a + sm y b + sm z c + sm w d = 0 ∧ (z ≠ 0 ∨ w ≠ 0) := by
  obtain ⟨i, j, f⟩ := hl.f
  have hlt := f.lt
  rw [det4_eq] at h
  have ha := f.u0; have hb := f.v0
  have h1 := f.u1; have h2 := f.uj; have h3 := f.v1
  match i, j, f, hlt, ha, hb, h1, h2, h3 with
  | 0, 1, f, _, ha, hb, h1, h2, h3 =>
    have b0 := hb 0 (by decide)
    exact meet_of (s := 2) (t := 3) f (all4 (by decide) (by decide) (by decide) (by decide)) (by rw [h1, h2, h3, b0] at h; grind)
  | 0, 2, f, _, ha, hb, h1, h2, h3 =>
    have b0 := hb 0 (by decide); have b1 := hb 1 (by decide)
    exact meet_of (s := 1) (t := 3) f (all4 (by decide) (by decide) (by decide) (by decide)) (by rw [h1, h2, h3, b0, b1] at h; grind)
  | 0, 3, f, _, ha, hb, h1, h2, h3 =>
    have b0 := hb 0 (by decide); have b1 := hb 1 (by decide); have b2 := hb 2 (by decide)
    exact meet_of (s := 1) (t := 2) f (all4 (by decide) (by decide) (by decide) (by decide)) (by rw [h1, h2, h3, b0, b1, b2] at h; grind)
  | 1, 2, f, _, ha, hb, h1, h2, h3 =>
    have b0 := hb 0 (by decide); have b1 := hb 1 (by decide); have a0 := ha 0 (by decide)
    exact meet_of (s := 0) (t := 3) f (all4 (by decide) (by decide) (by decide) (by decide)) (by rw [h1, h2, h3, b0, b1, a0] at h; grind)
  | 1, 3, f, _, ha, hb, h1, h2, h3 =>
    have b0 := hb 0 (by decide); have b1 := hb 1 (by decide); have b2 := hb 2 (by decide); have a0 := ha 0 (by decide)
    exact meet_of (s := 0) (t := 2) f (all4 (by decide) (by decide) (by decide) (by decide)) (by rw [h1, h2, h3, b0, b1, b2, a0] at h; grind)
  | 2, 3, f, _, ha, hb, h1, h2, h3 =>
    have b0 := hb 0 (by decide); have b1 := hb 1 (by decide); have b2 := hb 2 (by decide); have a0 := ha 0 (by decide); have a1 := ha 1 (by decide)
    exact meet_of (s := 0) (t := 1) f (all4 (by decide) (by decide) (by decide) (by decide)) (by rw [h1, h2, h3, b0, b1, b2, a0, a1] at h; grind)
  | 0, 0, f, hlt, _, _, _, _, _ => exact absurd hlt (by decide)
  | 1, 0, f, hlt, _, _, _, _, _ => exact absurd hlt (by decide)
  | 1, 1, f, hlt, _, _, _, _, _ => exact absurd hlt (by decide)
  | 2, 0, f, hlt, _, _, _, _, _ => exact absurd hlt (by decide)
  | 2, 1, f, hlt, _, _, _, _, _ => exact absurd hlt (by decide)
  | 2, 2, f, hlt, _, _, _, _, _ => exact absurd hlt (by decide)
  | 3, 0, f, hlt, _, _, _, _, _ => exact absurd hlt (by decide)
  | 3, 1, f, hlt, _, _, _, _, _ => exact absurd hlt (by decide)
  | 3, 2, f, hlt, _, _, _, _, _ => exact absurd hlt (by decide)
  | 3, 3, f, hlt, _, _, _, _, _ => exact absurd hlt (by decide)
/-- the pairing tells whether lines are apart -/
theorem det4_apart {l m : Ln k} (hl : IsLn l) (hm : IsLn m) : det4 l.1 l.2 m.1 m.2 = 0 ↔ comm l m ≠ [] := by
  constructor
  · intro h
    obtain ⟨x, y, z, w, e, hn⟩ := det4_meet hl h
    obtain ⟨i, j, f⟩ := hm.f
    refine comm_of hl hm (w := sm z m.1 + sm w m.2) (sp2.mpr ⟨-x, -y, V.ext fun r => ?_⟩) (sp2.mpr ⟨z, w, rfl⟩) fun hz => ?_
    · have : x * l.1 r + y * l.2 r + z * m.1 r + w * m.2 r = 0 := congrFun e r
      simp; grind
    · have g1 : z * m.1 i + w * m.2 i = 0 := congrFun hz i
      have g2 : z * m.1 j + w * m.2 j = 0 := congrFun hz j
      rw [f.u1, f.v0 i f.lt] at g1
      rw [f.uj, f.v1] at g2
      rcases hn with hn | hn
      · exact hn (by grind)
      · exact hn (by grind)
  · intro h
    obtain ⟨p, hp⟩ := List.exists_mem_of_ne_nil _ h
    obtain ⟨x, y, e1⟩ := sp2.mp (pts_sp (mem_comm.mp hp).1)
    obtain ⟨z, w, e2⟩ := sp2.mp (pts_sp (mem_comm.mp hp).2)
    refine det4_zero (x := x) (y := y) (z := -z) (w := -w) (V.ext fun r => ?_) ?_
    · have : x * l.1 r + y * l.2 r = z * m.1 r + w * m.2 r := by rw [e1] at e2; exact congrFun e2 r
      simp; grind
    · apply Classical.byContradiction
      intro hc
      have hz : z = 0 := Classical.byContradiction fun q => hc (.inl fun q2 => q (by grind))
      have hw : w = 0 := Classical.byContradiction fun q => hc (.inr fun q2 => q (by grind))
      obtain ⟨i, h1, h2⟩ := pts_lead hl (mem_comm.mp hp).1
      rw [e2, hz, hw] at h2
      have h2 : 0 * m.1 i + 0 * m.2 i = 1 := h2
      exact one_ne (k := k) (by grind)
@[simp] theorem in_i2 {x a b : Int} : inP (.int x) (.tuple [.int a, .int b]) = some (decide (x = a) || decide (x = b)) := by
  show some (((a == x) || ((b == x) || false))) = _
  rw [Bool.or_false]
  by_cases h1 : x = a <;> by_cases h2 : x = b <;> simp [h1, h2, Ne.symm] <;> omega
theorem pair_apart {l m : Ln k} (hl : IsLn l) (hm : IsLn m) : pair6 (nrm (plk l.1 l.2)) (nrm (plk m.1 m.2)) = 0 ↔ ¬ (lowest ge [l.1, l.2, m.1, m.2]).length = 4 := by
  rw [pair6_nrm (plk_ne (by rw [hl.low]; rfl)) (plk_ne (by rw [hm.low]; rfl)), apart_iff hl hm]
  exact det4_apart hl hm
theorem IsLn.plk {l : Ln k} (hl : IsLn l) : plk l.1 l.2 ≠ 0 := plk_ne (by rw [hl.low]; rfl)
/-- a loop with what is left of it in view -/
theorem vfl_foldB {α σ : Type} {v0 : VEnv} {turn : PyData → VEnv → VO} (mk : σ → VEnv) (a : α → PyData) (step : σ → α → σ) (φ : List α → σ → Prop) (h : ∀ x xs s, φ (x :: xs) s → nxs v0 (turn (a x) (mk s)) = .nx (mk (step s x)) ∧ φ xs (step s x)) : ∀ (xs : List α) (s : σ), φ xs s → vfl v0 turn (xs.map a) (mk s) = .nx (mk (xs.foldl step s))
  | [], s, _ => rfl
  | x :: xs, s, hs => by
    obtain ⟨h1, h2⟩ := h x xs s hs
    rw [List.map_cons, vfl_step h1, vfl_foldB mk a step φ h xs _ h2]
    rfl
/-! row operations -/
theorem same_set {ws : List (V k n)} {i : Nat} (hi : i < ws.length) {w : V k n} (h1 : Sp ws w) (h2 : Sp (ws.set i w) ws[i]) : Same (ws.set i w) ws := by
  refine same_of (fun a ha => ?_) fun b hb => ?_
  · rcases List.mem_or_eq_of_mem_set ha with q | q
    · exact Sp.mem q
    · rw [q]; exact h1
  · obtain ⟨t, ht, rfl⟩ := List.mem_iff_getElem.mp hb
    by_cases e : t = i
    · subst e; exact h2
    · refine Sp.mem (List.mem_iff_getElem.mpr ⟨t, by simpa using ht, ?_⟩)
      rw [List.getElem_set_ne (by omega)]
theorem same_add {ws : List (V k n)} {i j : Nat} (hi : i < ws.length) (hj : j < ws.length) (hij : i ≠ j) (c : F k) : Same (ws.set i (ws[i] + sm c ws[j])) ws := by
  refine same_set hi ((Sp.mem (List.getElem_mem hi)).add ((Sp.mem (List.getElem_mem hj)).sm c)) ?_
  have h1 : Sp (ws.set i (ws[i] + sm c ws[j])) (ws[i] + sm c ws[j]) := Sp.mem (List.mem_iff_getElem.mpr ⟨i, by simpa using hi, by rw [List.getElem_set_self]⟩)
  have h2 : Sp (ws.set i (ws[i] + sm c ws[j])) ws[j] := Sp.mem (List.mem_iff_getElem.mpr ⟨j, by simpa using hj, by rw [List.getElem_set_ne hij]⟩)
  have := h1.sub (h2.sm c)
  have e : ws[i] + sm c ws[j] - sm c ws[j] = ws[i] := V.ext fun t => by simp; grind
  rwa [e] at this
theorem same_mul {ws : List (V k n)} {i : Nat} (hi : i < ws.length) {c : F k} (hc : c ≠ 0) : Same (ws.set i (sm c ws[i])) ws := by
  refine same_set hi ((Sp.mem (List.getElem_mem hi)).sm c) ?_
  have h1 : Sp (ws.set i (sm c ws[i])) (sm c ws[i]) := Sp.mem (List.mem_iff_getElem.mpr ⟨i, by simpa using hi, by rw [List.getElem_set_self]⟩)
  have := h1.sm c⁻¹
  have hv := mul_inv' k c hc
  have e : sm c⁻¹ (sm c ws[i]) = ws[i] := V.ext fun t => by
    simp
    generalize c⁻¹ = z at *
    grind
  rwa [e] at this
theorem same_swap {ws : List (V k n)} {i j : Nat} (hi : i < ws.length) (hj : j < ws.length) : Same ((ws.set i ws[j]).set j ws[i]) ws := Same.perm (List.set_set_perm hi hj)
theorem same_app {ws us : List (V k n)} (h : ∀ u ∈ us, Sp ws u) : Same (ws ++ us) ws := same_of (fun a ha => by
  rcases List.mem_append.mp ha with q | q
  · exact Sp.mem q
  · exact h a q) fun b hb => Sp.mem (List.mem_append.mpr (.inl hb))
theorem sp_led : ∀ (cs : List (F k)) (vs : List (V k n)), Sp vs (ledV cs vs) := by
  have key : ∀ (cs : List (F k)) (us vs : List (V k n)) (s : V k n), (∀ u ∈ us, Sp vs u) → Sp vs s → Sp vs ((cs.zip us).foldl (fun s p => s + sm p.1 p.2) s) := by
    intro cs
    induction cs with
    | nil => intro us vs s _ h; exact h
    | cons c cs ih =>
      intro us vs s hu hs
      cases us with
      | nil => exact hs
      | cons u us => exact ih us vs _ (fun w hw => hu w (.tail _ hw)) (hs.add ((hu u (.head _)).sm c))
  intro cs vs
  exact key cs vs vs 0 (fun u hu => Sp.mem hu) (Sp.zero _)
/-- all sums of rows -/
def sumStep (s : List (V k n)) (v : V k n) : List (V k n) := (fins k).flatMap fun x => s.map fun u => u + sm x v
def sums (vs : List (V k n)) : List (V k n) := vs.foldl sumStep [0]
theorem mem_sumStep {s : List (V k n)} {v w : V k n} : w ∈ sumStep s v ↔ ∃ x, ∃ u ∈ s, w = u + sm x v := by
  unfold sumStep
  rw [List.mem_flatMap]
  constructor
  · rintro ⟨x, _, h⟩
    obtain ⟨u, hu, e⟩ := List.mem_map.mp h
    exact ⟨x, u, hu, e.symm⟩
  · rintro ⟨x, u, hu, e⟩
    exact ⟨x, mem_fins x, List.mem_map.mpr ⟨u, hu, e.symm⟩⟩
theorem mem_sums {vs : List (V k n)} {w : V k n} : w ∈ sums vs ↔ Sp vs w := by
  have key : ∀ (vs : List (V k n)) (s : List (V k n)) (w : V k n), w ∈ vs.foldl sumStep s ↔ ∃ u ∈ s, Sp vs (w - u) := by
    intro vs
    induction vs with
    | nil =>
      intro s w
      constructor
      · intro h; exact ⟨w, h, V.ext fun i => by simp; grind⟩
      · rintro ⟨u, hu, h⟩
        have h : w - u = 0 := h
        have : w = u := V.ext fun i => by
          have : w i - u i = 0 := congrFun h i
          grind
        rw [this]; exact hu
    | cons v vs ih =>
      intro s w
      rw [List.foldl_cons, ih]
      constructor
      · rintro ⟨u, hu, h⟩
        obtain ⟨x, z, hz, rfl⟩ := mem_sumStep.mp hu
        refine ⟨z, hz, x, ?_⟩
        have e : w - z - sm x v = w - (z + sm x v) := V.ext fun i => by simp; grind
        rw [e]; exact h
      · rintro ⟨z, hz, x, h⟩
        refine ⟨z + sm x v, mem_sumStep.mpr ⟨x, z, hz, rfl⟩, ?_⟩
        have e : w - z - sm x v = w - (z + sm x v) := V.ext fun i => by simp; grind
        rwa [e] at h
  rw [sums, key]
  constructor
  · rintro ⟨u, hu, h⟩
    rw [List.mem_singleton.mp hu] at h
    have e : w - 0 = w := V.ext fun i => by simp; grind
    rwa [e] at h
  · intro h
    refine ⟨0, by simp, ?_⟩
    have e : w - 0 = w := V.ext fun i => by simp; grind
    rwa [e]
theorem sumStep_len {s : List (V k n)} {v : V k n} : (sumStep s v).length = k.n * s.length := by
  unfold sumStep
  rw [List.length_flatMap]
  simp
  rw [show (fun _ : F k => s.length) = Function.const _ s.length from rfl]
  simp
theorem fold_app {s : List (V k n)} {x : V k n} : ∀ (ys : List (F k)) (t : List (V k n)), ys.foldl (fun t y => t ++ s.map fun u => u + sm y x) t = t ++ ys.flatMap fun y => s.map fun u => u + sm y x
  | [], t => by simp
  | y :: ys, t => by rw [List.foldl_cons, fold_app ys, List.flatMap_cons, List.append_assoc]
theorem low_more {vs : List (V k n)} {w : V k n} : lowest ge (vs ++ [w]) = lowest ge vs ↔ w ∈ sums (lowest ge vs) := by
  rw [mem_sums]
  constructor
  · intro h
    exact (lowest_self vs w).mpr (((lowest_same gr_ge).mp h w).mp (Sp.mem (by simp)))
  · intro h
    exact dim_in ((lowest_self vs w).mp h)
theorem idx2 {u v : V k n} (b : Bg) : ∃ w : V k n, idxP (.list [pV u, pV v]) (.int (tkD b 2)) = some (pV w) := by
  have h := tkD_lt b (n := 2) (by decide)
  have : tkD b 2 = 0 ∨ tkD b 2 = 1 := by omega
  rcases this with h | h
  · exact ⟨u, by rw [h]; simp⟩
  · exact ⟨v, by rw [h]; simp⟩
end Z
/-! YT: turnings, plainly. -/
namespace Z
open PySem A
variable {k : Q4} {n m : Nat}
/-! how many come of rows -/
theorem dim_mono : ∀ (C A : List (V k n)), (lowest ge A).length ≤ (lowest ge (A ++ C)).length
  | [], A => by rw [List.append_nil]; exact Nat.le_refl _
  | c :: C, A => by
    have h1 := dim_mono C (A ++ [c])
    rw [List.append_assoc] at h1
    have h2 : (lowest ge A).length ≤ (lowest ge (A ++ [c])).length := by
      by_cases h : Sp A c
      · rw [dim_in h]; exact Nat.le_refl _
      · rw [dim_out h]; omega
    exact Nat.le_trans h2 h1
theorem same_dim {A B : List (V k n)} (h : ∀ a ∈ A, Sp B a) (hd : (lowest ge B).length ≤ (lowest ge A).length) : Same A B := by
  refine same_of h fun b hb => Classical.byContradiction fun hn => ?_
  have h1 := dim_out hn
  have h2 := dim_mono B (A ++ [b])
  have h3 : lowest ge (A ++ [b] ++ B) = lowest ge B := (lowest_same gr_ge).mpr (same_of (fun x hx => by
    rcases List.mem_append.mp hx with q | q
    · rcases List.mem_append.mp q with q | q
      · exact h x q
      · rw [List.mem_singleton.mp q]; exact Sp.mem hb
    · exact Sp.mem q) fun x hx => Sp.mem (List.mem_append.mpr (.inr hx)))
  rw [h3] at h2
  omega
/-! four rows -/
abbrev M4 (k : Q4) (m : Nat) := _root_.Fin 4 → V k m
def rowsT (T : M4 k m) : List (V k m) := [T 0, T 1, T 2, T 3]
def pM (T : M4 k m) : PyData := .tuple [pV (T 0), pV (T 1), pV (T 2), pV (T 3)]
def app (v : V k 4) (T : M4 k m) : V k m := fun j => v 0 * T 0 j + v 1 * T 1 j + v 2 * T 2 j + v 3 * T 3 j
@[simp] theorem app_ap (v : V k 4) (T : M4 k m) (j : _root_.Fin m) : app v T j = v 0 * T 0 j + v 1 * T 1 j + v 2 * T 2 j + v 3 * T 3 j := rfl
def mulT (A : M4 k 4) (B : M4 k m) : M4 k m := fun i => app (A i) B
theorem app_app (v : V k 4) (A : M4 k 4) (B : M4 k m) : app (app v A) B = app v (mulT A B) := V.ext fun j => by
  show (v 0 * A 0 0 + v 1 * A 1 0 + v 2 * A 2 0 + v 3 * A 3 0) * B 0 j + (v 0 * A 0 1 + v 1 * A 1 1 + v 2 * A 2 1 + v 3 * A 3 1) * B 1 j + (v 0 * A 0 2 + v 1 * A 1 2 + v 2 * A 2 2 + v 3 * A 3 2) * B 2 j + (v 0 * A 0 3 + v 1 * A 1 3 + v 2 * A 2 3 + v 3 * A 3 3) * B 3 j =
    v 0 * (A 0 0 * B 0 j + A 0 1 * B 1 j + A 0 2 * B 2 j + A 0 3 * B 3 j) + v 1 * (A 1 0 * B 0 j + A 1 1 * B 1 j + A 1 2 * B 2 j + A 1 3 * B 3 j) + v 2 * (A 2 0 * B 0 j + A 2 1 * B 1 j + A 2 2 * B 2 j + A 2 3 * B 3 j) + v 3 * (A 3 0 * B 0 j + A 3 1 * B 1 j + A 3 2 * B 2 j + A 3 3 * B 3 j)
  grind
theorem mulT_assoc (A B : M4 k 4) (C : M4 k m) : mulT (mulT A B) C = mulT A (mulT B C) := funext fun i => app_app (A i) B C
theorem app_lin (u v : V k 4) (a b : F k) (T : M4 k m) : app (sm a u + sm b v) T = sm a (app u T) + sm b (app v T) := V.ext fun j => by
  simp; grind
theorem app_sm (u : V k 4) (a : F k) (T : M4 k m) : app (sm a u) T = sm a (app u T) := V.ext fun j => by simp; grind
theorem app_sub (u v : V k 4) (T : M4 k m) : app (u - v) T = app u T - app v T := V.ext fun j => by simp; grind
def ue (i : _root_.Fin n) : V k n := fun j => if i = j then 1 else 0
def uT : M4 k 4 := fun i => ue i
theorem app_unit (v : V k 4) : app v uT = v := V.ext (all4 (by show v 0 * 1 + v 1 * 0 + v 2 * 0 + v 3 * 0 = v 0; grind) (by show v 0 * 0 + v 1 * 1 + v 2 * 0 + v 3 * 0 = v 1; grind) (by show v 0 * 0 + v 1 * 0 + v 2 * 1 + v 3 * 0 = v 2; grind) (by show v 0 * 0 + v 1 * 0 + v 2 * 0 + v 3 * 1 = v 3; grind))
theorem unit_app (T : M4 k m) : ∀ i, app (ue i) T = T i := all4 (V.ext fun j => by show 1 * T 0 j + 0 * T 1 j + 0 * T 2 j + 0 * T 3 j = T 0 j; grind) (V.ext fun j => by show 0 * T 0 j + 1 * T 1 j + 0 * T 2 j + 0 * T 3 j = T 1 j; grind) (V.ext fun j => by show 0 * T 0 j + 0 * T 1 j + 1 * T 2 j + 0 * T 3 j = T 2 j; grind) (V.ext fun j => by show 0 * T 0 j + 0 * T 1 j + 0 * T 2 j + 1 * T 3 j = T 3 j; grind)
theorem mul_unit (A : M4 k 4) : mulT A uT = A := funext fun i => app_unit (A i)
theorem unit_mul (A : M4 k m) : mulT uT A = A := funext fun i => unit_app A i
theorem sp4 {T : M4 k m} {w : V k m} : Sp (rowsT T) w ↔ ∃ x, w = app x T := by
  constructor
  · rintro ⟨a, b, c, d, h⟩
    have h : w - sm a (T 0) - sm b (T 1) - sm c (T 2) - sm d (T 3) = 0 := h
    refine ⟨vec4 a b c d, V.ext fun j => ?_⟩
    have : w j - a * T 0 j - b * T 1 j - c * T 2 j - d * T 3 j = 0 := congrFun h j
    show w j = a * T 0 j + b * T 1 j + c * T 2 j + d * T 3 j
    grind
  · rintro ⟨x, rfl⟩
    exact ⟨x 0, x 1, x 2, x 3, V.ext fun j => by simp; grind⟩
theorem sp_app (x : V k 4) (T : M4 k m) : Sp (rowsT T) (app x T) := sp4.mpr ⟨x, rfl⟩
theorem mem_rows {T : M4 k m} {a : V k m} : a ∈ rowsT T ↔ ∃ i, a = T i := by
  constructor
  · intro h
    simp only [rowsT, List.mem_cons, List.not_mem_nil, or_false] at h
    rcases h with h | h | h | h
    · exact ⟨0, h⟩
    · exact ⟨1, h⟩
    · exact ⟨2, h⟩
    · exact ⟨3, h⟩
  · rintro ⟨i, rfl⟩
    revert i
    exact all4 (by simp [rowsT]) (by simp [rowsT]) (by simp [rowsT]) (by simp [rowsT])
theorem low_unit : Low [((0 : _root_.Fin 4), (uT 0 : V k 4)), (1, uT 1), (2, uT 2), (3, uT 3)] := by
  refine ⟨by simp, ?_, ?_, ?_⟩
  · intro p hp j hj
    simp only [List.mem_cons, List.not_mem_nil, or_false] at hp
    rcases hp with rfl | rfl | rfl | rfl <;> (show (if _ = j then (1 : F k) else 0) = 0; rw [if_neg]; intro e; subst e; exact absurd hj (by simp))
  · intro p hp
    simp only [List.mem_cons, List.not_mem_nil, or_false] at hp
    rcases hp with rfl | rfl | rfl | rfl <;> rfl
  · intro p hp r hr hne
    simp only [List.mem_cons, List.not_mem_nil, or_false] at hp hr
    rcases hp with rfl | rfl | rfl | rfl <;> rcases hr with rfl | rfl | rfl | rfl <;> first | exact absurd rfl hne | rfl
theorem low_uT : lowest ge (rowsT (uT : M4 k 4)) = rowsT uT := lowest_low low_unit
/-- a turning: all rows come of its rows -/
def Tn (T : M4 k 4) : Prop := ∀ w, Sp (rowsT T) w
theorem tn_unit : Tn (uT : M4 k 4) := fun w => sp4.mpr ⟨w, (app_unit w).symm⟩
theorem tn_same {T U : M4 k 4} (h : Same (rowsT U) (rowsT T)) (hT : Tn T) : Tn U := fun w => (h w).mpr (hT w)
theorem tn_iff {T : M4 k 4} : Tn T ↔ (lowest ge (rowsT T)).length = 4 := by
  constructor
  · intro h
    rw [(lowest_same gr_ge).mpr (show Same (rowsT T) (rowsT uT) from fun w => ⟨fun _ => tn_unit w, fun _ => h w⟩), low_uT]
    rfl
  · intro h
    have := same_dim (A := rowsT T) (B := rowsT uT) (fun a _ => tn_unit a) (by rw [low_uT, h]; exact Nat.le_refl _)
    exact tn_same this tn_unit
theorem dim3 {a b c : V k m} : (lowest ge [a, b, c]).length ≤ 3 := lowest_len [a, b, c]
theorem tn_dep {T : M4 k 4} (h : Tn T) {a b c d : V k 4} (hp : (rowsT T).Perm ([a, b, c] ++ [d])) : ¬ Sp [a, b, c] d := fun hs => by
  have h4 := tn_iff.mp h
  rw [(lowest_same gr_ge).mpr (Same.perm hp), dim_in hs] at h4
  have := dim3 (a := a) (b := b) (c := c)
  omega
theorem app_inj {T : M4 k 4} (h : Tn T) {x : V k 4} (hx : app x T = 0) : x = 0 := by
  have e : ∀ j, x 0 * T 0 j + x 1 * T 1 j + x 2 * T 2 j + x 3 * T 3 j = 0 := fun j => congrFun hx j
  have key : ∀ {y : F k} {a b c d : V k 4} (p q r : F k), (rowsT T).Perm ([a, b, c] ++ [d]) → (∀ j, y * d j + p * a j + q * b j + r * c j = 0) → y = 0 := fun {y a b c d} p q r hp he => Classical.byContradiction fun hy => by
    have hv := mul_inv' k y hy
    refine tn_dep h hp ⟨-(y⁻¹ * p), -(y⁻¹ * q), -(y⁻¹ * r), V.ext fun j => ?_⟩
    have := he j
    simp
    generalize y⁻¹ = z at *
    grind
  refine V.ext (all4 ?_ ?_ ?_ ?_)
  · exact key (a := T 1) (b := T 2) (c := T 3) (d := T 0) (x 1) (x 2) (x 3) (List.perm_append_comm (l₁ := [T 0]) (l₂ := [T 1, T 2, T 3])) fun j => by have := e j; grind
  · refine key (a := T 0) (b := T 2) (c := T 3) (d := T 1) (x 0) (x 2) (x 3) ?_ fun j => by have := e j; grind
    exact List.Perm.cons _ (List.perm_append_comm (l₁ := [T 1]) (l₂ := [T 2, T 3]))
  · refine key (a := T 0) (b := T 1) (c := T 3) (d := T 2) (x 0) (x 1) (x 3) ?_ fun j => by have := e j; grind
    exact List.Perm.cons _ (List.Perm.cons _ (List.perm_append_comm (l₁ := [T 2]) (l₂ := [T 3])))
  · exact key (a := T 0) (b := T 1) (c := T 2) (d := T 3) (x 0) (x 1) (x 2) (List.Perm.refl _) fun j => by have := e j; grind
theorem app_eq {T : M4 k 4} (h : Tn T) {x y : V k 4} (hx : app x T = app y T) : x = y := by
  have : x - y = 0 := app_inj h (by rw [app_sub, hx]; exact V.ext fun j => by simp; grind)
  exact V.ext fun j => by
    have : x j - y j = 0 := congrFun this j
    grind
/-- what leads back -/
theorem tn_back {T : M4 k 4} (h : Tn T) : ∃ B : M4 k 4, mulT B T = uT ∧ mulT T B = uT := by
  have hB : ∀ i, ∃ b, ue i = app b T := fun i => sp4.mp (h (ue i))
  refine ⟨fun i => (hB i).choose, ?_⟩
  have h1 : mulT (fun i => (hB i).choose) T = uT := funext fun i => (hB i).choose_spec.symm
  refine ⟨h1, funext fun i => app_eq h ?_⟩
  show app (app (T i) _) T = app (ue i) T
  rw [app_app, h1, app_unit, unit_app]
theorem tn_of {A B : M4 k 4} (h : mulT A B = uT) : Tn B := fun w => sp4.mpr ⟨app w A, by rw [app_app, h, app_unit]⟩
theorem tn_mul {A B : M4 k 4} (hA : Tn A) (hB : Tn B) : Tn (mulT A B) := by
  obtain ⟨A', a1, a2⟩ := tn_back hA
  obtain ⟨B', b1, b2⟩ := tn_back hB
  refine tn_of (A := mulT B' A') ?_
  rw [mulT_assoc, ← mulT_assoc A' A B, a1, unit_mul, b1]
/-! rows beside one another -/
def cat (u v : V k 4) : V k 8 := fun i => if h : i.val < 4 then u ⟨i.val, h⟩ else v ⟨i.val - 4, by omega⟩
theorem all8 {P : _root_.Fin 8 → Prop} (h0 : P 0) (h1 : P 1) (h2 : P 2) (h3 : P 3) (h4 : P 4) (h5 : P 5) (h6 : P 6) (h7 : P 7) : ∀ t, P t
  | 0 => h0 | 1 => h1 | 2 => h2 | 3 => h3 | 4 => h4 | 5 => h5 | 6 => h6 | 7 => h7
def catT (A B : M4 k 4) : M4 k 8 := fun i => cat (A i) (B i)
theorem app_cat (v : V k 4) (A B : M4 k 4) : app v (catT A B) = cat (app v A) (app v B) := V.ext (all8 rfl rfl rfl rfl rfl rfl rfl rfl)
theorem low_cat (B : M4 k 4) : Low [((0 : _root_.Fin 8), (cat (uT 0) (B 0) : V k 8)), (1, cat (uT 1) (B 1)), (2, cat (uT 2) (B 2)), (3, cat (uT 3) (B 3))] := by
  refine ⟨by simp, ?_, ?_, ?_⟩
  · intro p hp j hj
    simp only [List.mem_cons, List.not_mem_nil, or_false] at hp
    revert j
    rcases hp with rfl | rfl | rfl | rfl <;> exact all8 (by dsimp only; intro h; first | rfl | exact absurd h (by decide)) (by dsimp only; intro h; first | rfl | exact absurd h (by decide)) (by dsimp only; intro h; first | rfl | exact absurd h (by decide)) (by dsimp only; intro h; first | rfl | exact absurd h (by decide)) (by dsimp only; intro h; first | rfl | exact absurd h (by decide)) (by dsimp only; intro h; first | rfl | exact absurd h (by decide)) (by dsimp only; intro h; first | rfl | exact absurd h (by decide)) (by dsimp only; intro h; first | rfl | exact absurd h (by decide))
  · intro p hp
    simp only [List.mem_cons, List.not_mem_nil, or_false] at hp
    rcases hp with rfl | rfl | rfl | rfl <;> rfl
  · intro p hp r hr hne
    simp only [List.mem_cons, List.not_mem_nil, or_false] at hp hr
    rcases hp with rfl | rfl | rfl | rfl <;> rcases hr with rfl | rfl | rfl | rfl <;> first | exact absurd rfl hne | rfl
theorem low_back {T B : M4 k 4} (h1 : mulT B T = uT) (h2 : mulT T B = uT) : lowest ge (rowsT (catT T uT)) = rowsT (catT uT B) := by
  have hs : Same (rowsT (catT T uT)) (rowsT (catT uT B)) := same_of (fun a ha => by
    obtain ⟨i, rfl⟩ := mem_rows.mp ha
    have := sp_app (T i) (catT uT B)
    rw [app_cat, app_unit] at this
    have e : app (T i) B = uT i := congrFun h2 i
    rw [e] at this
    exact this) fun b hb => by
    obtain ⟨i, rfl⟩ := mem_rows.mp hb
    have := sp_app (B i) (catT T uT)
    rw [app_cat, app_unit] at this
    have e : app (B i) T = uT i := congrFun h1 i
    rw [e] at this
    exact this
  rw [(lowest_same gr_ge).mpr hs]
  exact lowest_low (low_cat B)
/-! lines led -/
theorem led_low {T : M4 k 4} (hT : Tn T) {u v : V k 4} (h : IsLn (u, v)) : ∃ m : Ln k, IsLn m ∧ lowest ge [app u T, app v T] = [m.1, m.2] := by
  have h2 : (lowest ge [app u T, app v T]).length = 2 := by
    have hu : ¬ Sp [] (app u T) := fun hs => by
      have hs : app u T = 0 := hs
      have := app_inj hT hs
      obtain ⟨i, h1, h2⟩ := h.ld1
      have h1 : u i = 1 := h2
      rw [this] at h1
      exact zero_one' k h1
    have hv : ¬ Sp ([] ++ [app u T]) (app v T) := fun ⟨c, hs⟩ => by
      have hs : app v T - sm c (app u T) = 0 := hs
      rw [← app_sm, ← app_sub] at hs
      have hz := app_inj hT hs
      obtain ⟨i, j, f⟩ := h.f
      have e : v j - c * u j = 0 := congrFun hz j
      rw [f.v1, f.uj] at e
      exact one_ne (k := k) (by grind)
    have e : [app u T, app v T] = ([] ++ [app u T]) ++ [app v T] := rfl
    rw [e, dim_out hv, dim_out hu]
    rfl
  obtain ⟨x, y, hL⟩ := len2 h2
  exact ⟨(x, y), lowest_ln hL, hL⟩
/-- the line to which a line is led -/
def ledL (T : M4 k 4) (l : Ln k) : Ln k := match lowest ge [app l.1 T, app l.2 T] with
  | [x, y] => (x, y)
  | _ => l
theorem ledL_ok {T : M4 k 4} (hT : Tn T) {l : Ln k} (h : IsLn l) : IsLn (ledL T l) ∧ lowest ge [app l.1 T, app l.2 T] = [(ledL T l).1, (ledL T l).2] := by
  obtain ⟨m, h1, h2⟩ := led_low hT h
  unfold ledL
  rw [h2]
  exact ⟨h1, rfl⟩
theorem ledL_sp {T : M4 k 4} (hT : Tn T) {l : Ln k} (h : IsLn l) (w : V k 4) : Sp [(ledL T l).1, (ledL T l).2] w ↔ ∃ x, Sp [l.1, l.2] x ∧ w = app x T := by
  have hs : Same [(ledL T l).1, (ledL T l).2] [app l.1 T, app l.2 T] := by
    rw [← (ledL_ok hT h).2]; exact lowest_self _
  rw [hs w, sp2]
  constructor
  · rintro ⟨a, b, rfl⟩
    exact ⟨sm a l.1 + sm b l.2, sp2.mpr ⟨a, b, rfl⟩, (app_lin _ _ _ _ _).symm⟩
  · rintro ⟨x, hx, rfl⟩
    obtain ⟨a, b, rfl⟩ := sp2.mp hx
    exact ⟨a, b, app_lin _ _ _ _ _⟩
/-- lines of which the same comes are one -/
theorem ln_same {l m : Ln k} (hl : IsLn l) (hm : IsLn m) (h : Same [l.1, l.2] [m.1, m.2]) : l = m := by
  have := (lowest_same gr_ge).mpr h
  rw [hl.low, hm.low] at this
  simp only [List.cons.injEq, and_true] at this
  exact Prod.ext this.1 this.2
theorem ledL_mul {A B : M4 k 4} (hA : Tn A) (hB : Tn B) {l : Ln k} (h : IsLn l) : ledL B (ledL A l) = ledL (mulT A B) l := by
  have h1 := ledL_ok hA h
  refine ln_same (ledL_ok hB h1.1).1 (ledL_ok (tn_mul hA hB) h).1 fun w => ?_
  rw [ledL_sp hB h1.1, ledL_sp (tn_mul hA hB) h]
  constructor
  · rintro ⟨x, hx, rfl⟩
    obtain ⟨y, hy, rfl⟩ := (ledL_sp hA h x).mp hx
    exact ⟨y, hy, app_app _ _ _⟩
  · rintro ⟨y, hy, rfl⟩
    exact ⟨app y A, (ledL_sp hA h _).mpr ⟨y, hy, rfl⟩, (app_app _ _ _).symm⟩
theorem ledL_unit {l : Ln k} (h : IsLn l) : ledL uT l = l := by
  refine ln_same (ledL_ok tn_unit h).1 h fun w => ?_
  rw [ledL_sp tn_unit h]
  constructor
  · rintro ⟨x, hx, rfl⟩; rw [app_unit]; exact hx
  · intro hw; exact ⟨w, hw, (app_unit w).symm⟩
theorem ledL_inj {T : M4 k 4} (hT : Tn T) {l m : Ln k} (hl : IsLn l) (hm : IsLn m) (h : ledL T l = ledL T m) : l = m := by
  obtain ⟨B, b1, b2⟩ := tn_back hT
  have hB : Tn B := tn_of b2
  have e := congrArg (ledL B) h
  rw [ledL_mul hT hB hl, ledL_mul hT hB hm, b2, ledL_unit hl, ledL_unit hm] at e
  exact e
/-! the order of lines -/
theorem tri_l : ∀ a b : List Int, a < b ∨ a = b ∨ b < a
  | [], [] => .inr (.inl rfl)
  | [], y :: b => .inl List.Lex.nil
  | x :: a, [] => .inr (.inr List.Lex.nil)
  | x :: a, y :: b => by
    rcases Int.lt_trichotomy x y with h | h | h
    · exact .inl (List.Lex.rel h)
    · subst h
      rcases tri_l a b with h | h | h
      · exact .inl (List.Lex.cons h)
      · subst h; exact .inr (.inl rfl)
      · exact .inr (.inr (List.Lex.cons h))
    · exact .inr (.inr (List.Lex.rel h))
theorem nums_inj {u v : V k n} (h : nums u = nums v) : u = v := V.ext fun i => F.ext (by
  have h1 := get_nums u i
  have h2 := get_nums v i
  rw [h, h2] at h1
  simp at h1
  omega)
theorem le_anti {u v : V k n} (h1 : le u v = true) (h2 : le v u = true) : u = v := by
  rw [le_iff] at h1 h2
  simp at h1 h2
  rcases tri_l (nums u) (nums v) with h | h | h
  · exact absurd h (by simpa using h2)
  · exact nums_inj h
  · exact absurd h (by simpa using h1)
theorem lt_pLn (l m : Ln k) : PySem.W.dataLt (pLn l) (pLn m) = if l.1 = m.1 then (if l.2 = m.2 then false else PySem.W.dataLt (pV l.2) (pV m.2)) else PySem.W.dataLt (pV l.1) (pV m.1) := by
  show PySem.W.dataLt (.tuple [pV l.1, pV l.2]) (.tuple [pV m.1, pV m.2]) = _
  rw [PySem.W.dataLt_pair (alike_pV _ _) (alike_pV _ _), eqv_pV, eqv_pV]
  by_cases h1 : l.1 = m.1 <;> by_cases h2 : l.2 = m.2 <;> simp [h1, h2]
def lnLe : Ln k → Ln k → Bool := PySem.W.dataLe false pLn
theorem lnLe_tot : PySem.W.TotalLe (lnLe : Ln k → Ln k → Bool) := by unfold lnLe PySem.W.dataLe; exact PySem.W.sortLe_total _ _ _
theorem lnLe_iff (l m : Ln k) : lnLe l m = !PySem.W.dataLt (pLn m) (pLn l) := rfl
theorem lnLe_anti {l m : Ln k} (h1 : lnLe l m = true) (h2 : lnLe m l = true) : l = m := by
  rw [lnLe_iff, lt_pLn] at h1 h2
  by_cases e : l.1 = m.1
  · rw [if_pos e] at h2
    rw [if_pos e.symm] at h1
    by_cases e2 : l.2 = m.2
    · exact Prod.ext e e2
    · rw [if_neg e2] at h2
      rw [if_neg (Ne.symm e2)] at h1
      exact Prod.ext e (le_anti (u := l.2) (v := m.2) h1 h2)
  · rw [if_neg e] at h2
    rw [if_neg (Ne.symm e)] at h1
    exact absurd (le_anti (u := l.1) (v := m.1) h1 h2) e
abbrev insL (ls : List (Ln k)) : List (Ln k) := insS lnLe ls
theorem alike_pLn (l m : Ln k) : PySem.W.alike (pLn l) (pLn m) = true := by
  show PySem.W.alike (PyData.tuple [pV l.1, pV l.2]) (PyData.tuple [pV m.1, pV m.2]) = true
  simp [PySem.W.alike, PySem.W.alikeAll, alike_pV]
theorem allAl_ln : ∀ ls : List (Ln k), allAl (ls.map pLn) = true
  | [] => rfl
  | l :: ls => by
    simp only [List.map_cons, allAl, alike_pLn, allAl_ln ls, Bool.and_self, Bool.and_true, List.all_map]
    exact List.all_eq_true.mpr fun x _ => by simp [alike_pLn]
theorem srtB_ln (ls : List (Ln k)) : srtB (ls.map pLn) = true := by
  unfold srtB
  rw [Bool.or_eq_true]
  refine .inl ?_
  rw [List.all_map, List.all_eq_true]
  intro x _; rfl
@[simp] theorem srt_ln (ls : List (Ln k)) : srtP (ls.map pLn) false = some ((insL ls).map pLn) := by
  unfold srtP
  rw [dOk_l (f := pLn (k := k)) (show 3 ≤ 59 by decide), allAl_ln, srtB_ln]
  simp only [Bool.and_self, if_true]
  rw [insS_map pLn (le := lnLe)]
  intro a b; rfl
@[simp] theorem len_insL (ls : List (Ln k)) : (insL ls).length = ls.length := (insS_perm lnLe_tot ls).1.length_eq
theorem mem_insL {ls : List (Ln k)} {l : Ln k} : l ∈ insL ls ↔ l ∈ ls := (insS_perm lnLe_tot ls).1.mem_iff
/-- sorted lists of the same lines are one -/
theorem insL_perm {a b : List (Ln k)} (h : a.Perm b) : insL a = insL b := by
  obtain ⟨a1, a2⟩ := insS_perm lnLe_tot a
  obtain ⟨b1, b2⟩ := insS_perm lnLe_tot b
  exact perm_sorted ((a1.trans h).trans b1.symm) a2 b2 fun x _ y _ h1 h2 => lnLe_anti h1 h2
/-! four rows as a value -/
theorem pM_eq (T : M4 k m) : pM T = .tuple ((rowsT T).map pV) := (rfl)
@[simp] theorem seq_M (T : M4 k m) : seqP (pM T) = some ((rowsT T).map pV) := (rfl)
@[simp] theorem pur_M (T : M4 k m) : pur (pM T) = true := by simp [pM]
@[simp] theorem flat_M (T : M4 k m) : flatP (pM T) = false := (rfl)
@[simp] theorem isi_tM (T : M4 k m) : isiP .tuple (pM T) = some true := (rfl)
@[simp] theorem blt_lenM (T : M4 k m) : bltP .len [pM T] = some (.int 4) := (rfl)
@[simp] theorem blt_lstM (T : M4 k m) : bltP .list [pM T] = some (.list ((rowsT T).map pV)) := (rfl)
@[simp] theorem idx_M0 (T : M4 k m) : idxP (pM T) (.int 0) = some (pV (T 0)) := by simp [pM]
theorem m4_ext {A B : M4 k m} (h0 : A 0 = B 0) (h1 : A 1 = B 1) (h2 : A 2 = B 2) (h3 : A 3 = B 3) : A = B := funext (all4 h0 h1 h2 h3)
instance : DecidableEq (M4 k m) := fun A B => decidable_of_iff (A 0 = B 0 ∧ A 1 = B 1 ∧ A 2 = B 2 ∧ A 3 = B 3) ⟨fun h => m4_ext h.1 h.2.1 h.2.2.1 h.2.2.2, fun h => by subst h; exact ⟨rfl, rfl, rfl, rfl⟩⟩
instance : EncF (pM (k := k) (m := m)) where
  dp := 3
  ok := fun T => by
    have h := fun i => EncF.ok (f := pV (k := k) (n := m)) (T i)
    simp only [pM, dOk, List.all_cons, List.all_nil, Bool.and_true, Bool.and_eq_true]
    exact ⟨h 0, h 1, h 2, h 3⟩
  eqv := fun A B => by
    show PyData.eqv (.tuple [pV (A 0), pV (A 1), pV (A 2), pV (A 3)]) (.tuple [pV (B 0), pV (B 1), pV (B 2), pV (B 3)]) = _
    rw [PyData.eqv]
    simp only [PyData.eqvAll, eqv_pV, Bool.and_true]
    simp only [← Bool.decide_and]
    exact decide_eq_decide.mpr ⟨fun h => m4_ext h.1 h.2.1 h.2.2.1 h.2.2.2, fun h => by subst h; exact ⟨rfl, rfl, rfl, rfl⟩⟩
@[simp] theorem eq_M (A B : M4 k m) : eqP (pM A) (pM B) = some (decide (A = B)) := eqP_e (f := pM) (show 3 ≤ 59 by decide) A B
def vl (v : V k n) : List (F k) := (List.finRange n).map fun i => v i
theorem pV_vl (v : V k n) : PyData.tuple ((vl v).map pF) = pV v := by
  unfold vl
  rw [List.map_map]; rfl
theorem led_app (v : V k 4) (T : M4 k m) : ledV (vl v) (rowsT T) = app v T := V.ext fun j => by
  show ((([(v 0, T 0), (v 1, T 1), (v 2, T 2), (v 3, T 3)] : List (F k × V k m)).foldl (fun s p => s + sm p.1 p.2) 0) : V k m) j = _
  simp; grind
theorem list4 {α : Type} {xs : List α} (h : xs.length = 4) : ∃ a b c d, xs = [a, b, c, d] := by
  match xs, h with
  | [a, b, c, d], _ => exact ⟨a, b, c, d, rfl⟩
def mkT (a b c d : V k m) : M4 k m := fun i => match i with
  | 0 => a | 1 => b | 2 => c | 3 => d
theorem rows_mk (a b c d : V k m) : rowsT (mkT a b c d) = [a, b, c, d] := (rfl)
theorem pM_mk (a b c d : V k m) : pM (mkT a b c d) = .tuple [pV a, pV b, pV c, pV d] := (rfl)
@[simp] theorem len_rowsT (T : M4 k m) : (rowsT T).length = 4 := (rfl)
@[simp] theorem srt_ln1 {α : Type} (g : α → Ln k) (xs : List α) : srtP (xs.map fun x => pLn (g x)) false = some ((insL (xs.map g)).map pLn) := by
  rw [← srt_ln, List.map_map]; rfl
/-- a comprehension, thing by thing -/
def vcD (y : PyData × K) (r : VR (List (PyData × K))) : VR (List (PyData × K)) := match r with
  | .ok ys v2 => .ok (y :: ys) v2
  | _ => .bad
def vcC (r : VR (Option (PyData × K))) (f : VEnv → VR (List (PyData × K))) : VR (List (PyData × K)) := match r with
  | .ok none v1 => f v1
  | .ok (some y) v1 => vcD y (f v1)
  | _ => .bad
theorem vcl_cons {turn : PyData → VEnv → VR (Option (PyData × K))} {x : PyData} {xs : List PyData} {v : VEnv} : vcl turn (x :: xs) v = vcC (turn x v) (vcl turn xs) := by
  rw [vcl]
  cases turn x v with
  | ok o v1 =>
    cases o with
    | none => rfl
    | some y =>
      show (match vcl turn xs v1 with | .ok ys v2 => VR.ok (y :: ys) v2 | _ => .bad) = vcD y (vcl turn xs v1)
      cases vcl turn xs v1 <;> rfl
  | exc c v1 => rfl
  | bad => rfl
@[simp] theorem vcl_nil {turn : PyData → VEnv → VR (Option (PyData × K))} {v : VEnv} : vcl turn [] v = .ok [] v := (rfl)
@[simp] theorem vcC_none {f : VEnv → VR (List (PyData × K))} {v : VEnv} : vcC (.ok none v) f = f v := (rfl)
@[simp] theorem vcC_some {f : VEnv → VR (List (PyData × K))} {v : VEnv} {y : PyData × K} : vcC (.ok (some y) v) f = vcD y (f v) := (rfl)
@[simp] theorem vcD_ok {y : PyData × K} {ys : List (PyData × K)} {v : VEnv} : vcD y (.ok ys v) = .ok (y :: ys) v := (rfl)
theorem rng4 : (List.range 4).map (fun k : Nat => PyData.int (k : Int)) = [.int 0, .int 1, .int 2, .int 3] := rfl
@[simp] theorem op_addV (u : V k n) (xs : List PyData) : opP .add (pV u) (.tuple xs) = if SL (n + xs.length) then some (.tuple (pL u ++ xs)) else none := by
  show (if SL ((pL u).length + xs.length) then _ else none) = _
  rw [len_L]
theorem cat_u0 (u : V k 4) : PyData.tuple (pL u ++ [.int 1, .int 0, .int 0, .int 0]) = pV (cat u (uT 0)) := by cases k <;> rfl
theorem cat_u1 (u : V k 4) : PyData.tuple (pL u ++ [.int 0, .int 1, .int 0, .int 0]) = pV (cat u (uT 1)) := by cases k <;> rfl
theorem cat_u2 (u : V k 4) : PyData.tuple (pL u ++ [.int 0, .int 0, .int 1, .int 0]) = pV (cat u (uT 2)) := by cases k <;> rfl
theorem cat_u3 (u : V k 4) : PyData.tuple (pL u ++ [.int 0, .int 0, .int 0, .int 1]) = pV (cat u (uT 3)) := by cases k <;> rfl
@[simp] theorem sli_cat (u v : V k 4) : sliP (pV (cat u v)) (some 4) none = some (pV v) := (rfl)
@[simp] theorem lsK_nil : lsK false [] = top0 := (rfl)
@[simp] theorem lsK_c0 {p : PyData} {ys : List (PyData × K)} : lsK false ((p, top0) :: ys) = lsK false ys := by
  rw [lsK_f, lsK_f, List.all_cons]
  rfl
@[simp] theorem lsK_cs {p : PyData} {ys : List (PyData × K)} : lsK false ((p, (⟨.sh, true⟩ : K)) :: ys) = lsK false ys := by
  rw [lsK_f, lsK_f, List.all_cons]
  rfl
/-! maps that keep sums -/
structure Lin (φ : V k n → V k m) : Prop where
  sub : ∀ u c v, φ (u - sm c v) = φ u - sm c (φ v)
  inj : ∀ x, φ x = 0 → x = 0
theorem Lin.zero {φ : V k n → V k m} (h : Lin φ) : φ 0 = 0 := by
  have := h.sub 0 1 0
  have e : (0 : V k n) - sm 1 0 = 0 := V.ext fun i => by simp; grind
  rw [e] at this
  rw [this]
  exact V.ext fun i => by simp; grind
theorem sp_lin {φ : V k n → V k m} (h : Lin φ) : ∀ {A : List (V k n)} {x : V k n}, Sp (A.map φ) (φ x) ↔ Sp A x
  | [], x => ⟨fun hx => h.inj x hx, fun hx => by
    have hx : x = 0 := hx
    subst hx; exact h.zero⟩
  | a :: A, x => by
    constructor
    · rintro ⟨c, hx⟩
      rw [← h.sub] at hx
      exact ⟨c, (sp_lin h).mp hx⟩
    · rintro ⟨c, hx⟩
      refine ⟨c, ?_⟩
      rw [← h.sub]
      exact (sp_lin h).mpr hx
theorem dim_lin {φ : V k n → V k m} (h : Lin φ) (xs : List (V k n)) : (lowest ge (xs.map φ)).length = (lowest ge xs).length := by
  have key : ∀ (xs A : List (V k n)), (lowest ge (A.map φ)).length = (lowest ge A).length → (lowest ge ((A ++ xs).map φ)).length = (lowest ge (A ++ xs)).length := by
    intro xs
    induction xs with
    | nil => intro A hA; rwa [List.append_nil]
    | cons x xs ih =>
      intro A hA
      have := ih (A ++ [x]) (by
        rw [List.map_append, List.map_cons, List.map_nil]
        by_cases hs : Sp A x
        · rw [dim_in hs, dim_in ((sp_lin h).mpr hs), hA]
        · rw [dim_out hs, dim_out fun q => hs ((sp_lin h).mp q), hA])
      rwa [List.append_assoc] at this
  exact key xs [] rfl
theorem same_scale {α : Type} {f g : α → V k n} : ∀ {xs : List α}, (∀ x ∈ xs, ∃ c, c ≠ 0 ∧ f x = sm c (g x)) → Same (xs.map f) (xs.map g) := fun {xs} h => same_of (fun a ha => by
  obtain ⟨x, hx, rfl⟩ := List.mem_map.mp ha
  obtain ⟨c, _, e⟩ := h x hx
  rw [e]
  exact (Sp.mem (List.mem_map.mpr ⟨x, hx, rfl⟩)).sm c) fun b hb => by
  obtain ⟨x, hx, rfl⟩ := List.mem_map.mp hb
  obtain ⟨c, hc, e⟩ := h x hx
  have hi := mul_inv' k c hc
  have := (Sp.mem (B := xs.map f) (List.mem_map.mpr ⟨x, hx, rfl⟩)).sm c⁻¹
  rw [e] at this
  have e2 : sm c⁻¹ (sm c (g x)) = g x := V.ext fun i => by
    simp
    generalize c⁻¹ = z at *
    grind
  rwa [e2] at this
/-! sixes of lines led -/
def wed (T : M4 k 4) (s : V k 6) : V k 6 := fun i => s 0 * plk (T 0) (T 1) i + s 1 * plk (T 0) (T 2) i + s 2 * plk (T 0) (T 3) i + s 3 * plk (T 1) (T 2) i + s 4 * plk (T 1) (T 3) i + s 5 * plk (T 2) (T 3) i
def px (u v : V k 4) (i j : _root_.Fin 4) : F k := u i * v j - u j * v i
theorem all6 {P : _root_.Fin 6 → Prop} (h0 : P 0) (h1 : P 1) (h2 : P 2) (h3 : P 3) (h4 : P 4) (h5 : P 5) : ∀ t, P t
  | 0 => h0 | 1 => h1 | 2 => h2 | 3 => h3 | 4 => h4 | 5 => h5
theorem px_led (u v : V k 4) (T : M4 k 4) (i j : _root_.Fin 4) : px (app u T) (app v T) i j = (u 0 * v 1 - u 1 * v 0) * px (T 0) (T 1) i j + (u 0 * v 2 - u 2 * v 0) * px (T 0) (T 2) i j + (u 0 * v 3 - u 3 * v 0) * px (T 0) (T 3) i j + (u 1 * v 2 - u 2 * v 1) * px (T 1) (T 2) i j + (u 1 * v 3 - u 3 * v 1) * px (T 1) (T 3) i j + (u 2 * v 3 - u 3 * v 2) * px (T 2) (T 3) i j := by
  unfold px
  simp only [app_ap]
  grind
theorem plk_led (u v : V k 4) (T : M4 k 4) : plk (app u T) (app v T) = wed T (plk u v) :=
  V.ext (all6 (px_led u v T 0 1) (px_led u v T 0 2) (px_led u v T 0 3) (px_led u v T 1 2) (px_led u v T 1 3) (px_led u v T 2 3))
theorem wed_lin (T : M4 k 4) (a b : F k) (s t : V k 6) : wed T (sm a s + sm b t) = sm a (wed T s) + sm b (wed T t) := V.ext fun i => by
  show (a * s 0 + b * t 0) * plk (T 0) (T 1) i + (a * s 1 + b * t 1) * plk (T 0) (T 2) i + (a * s 2 + b * t 2) * plk (T 0) (T 3) i + (a * s 3 + b * t 3) * plk (T 1) (T 2) i + (a * s 4 + b * t 4) * plk (T 1) (T 3) i + (a * s 5 + b * t 5) * plk (T 2) (T 3) i = a * (s 0 * plk (T 0) (T 1) i + s 1 * plk (T 0) (T 2) i + s 2 * plk (T 0) (T 3) i + s 3 * plk (T 1) (T 2) i + s 4 * plk (T 1) (T 3) i + s 5 * plk (T 2) (T 3) i) + b * (t 0 * plk (T 0) (T 1) i + t 1 * plk (T 0) (T 2) i + t 2 * plk (T 0) (T 3) i + t 3 * plk (T 1) (T 2) i + t 4 * plk (T 1) (T 3) i + t 5 * plk (T 2) (T 3) i)
  grind
theorem wed_unit (s : V k 6) : wed uT s = s := V.ext (all6
  (by show s 0 * (1 * 1 - 0 * 0) + s 1 * (1 * 0 - 0 * 0) + s 2 * (1 * 0 - 0 * 0) + s 3 * (0 * 0 - 1 * 0) + s 4 * (0 * 0 - 1 * 0) + s 5 * (0 * 0 - 0 * 0) = s 0; grind)
  (by show s 0 * (1 * 0 - 0 * 0) + s 1 * (1 * 1 - 0 * 0) + s 2 * (1 * 0 - 0 * 0) + s 3 * (0 * 1 - 0 * 0) + s 4 * (0 * 0 - 0 * 0) + s 5 * (0 * 0 - 1 * 0) = s 1; grind)
  (by show s 0 * (1 * 0 - 0 * 0) + s 1 * (1 * 0 - 0 * 0) + s 2 * (1 * 1 - 0 * 0) + s 3 * (0 * 0 - 0 * 0) + s 4 * (0 * 1 - 0 * 0) + s 5 * (0 * 1 - 0 * 0) = s 2; grind)
  (by show s 0 * (0 * 0 - 0 * 1) + s 1 * (0 * 1 - 0 * 0) + s 2 * (0 * 0 - 0 * 0) + s 3 * (1 * 1 - 0 * 0) + s 4 * (1 * 0 - 0 * 0) + s 5 * (0 * 0 - 1 * 0) = s 3; grind)
  (by show s 0 * (0 * 0 - 0 * 1) + s 1 * (0 * 0 - 0 * 0) + s 2 * (0 * 1 - 0 * 0) + s 3 * (1 * 0 - 0 * 0) + s 4 * (1 * 1 - 0 * 0) + s 5 * (0 * 1 - 0 * 0) = s 4; grind)
  (by show s 0 * (0 * 0 - 0 * 0) + s 1 * (0 * 0 - 0 * 1) + s 2 * (0 * 1 - 0 * 0) + s 3 * (0 * 0 - 0 * 1) + s 4 * (0 * 1 - 0 * 0) + s 5 * (1 * 1 - 0 * 0) = s 5; grind))
theorem wed_mul (A B : M4 k 4) (s : V k 6) : wed B (wed A s) = wed (mulT A B) s := by
  have e : wed A s = sm (s 0) (plk (A 0) (A 1)) + sm 1 (sm (s 1) (plk (A 0) (A 2)) + sm 1 (sm (s 2) (plk (A 0) (A 3)) + sm 1 (sm (s 3) (plk (A 1) (A 2)) + sm 1 (sm (s 4) (plk (A 1) (A 3)) + sm (s 5) (plk (A 2) (A 3)))))) := V.ext fun i => by
    show s 0 * plk (A 0) (A 1) i + s 1 * plk (A 0) (A 2) i + s 2 * plk (A 0) (A 3) i + s 3 * plk (A 1) (A 2) i + s 4 * plk (A 1) (A 3) i + s 5 * plk (A 2) (A 3) i = s 0 * plk (A 0) (A 1) i + 1 * (s 1 * plk (A 0) (A 2) i + 1 * (s 2 * plk (A 0) (A 3) i + 1 * (s 3 * plk (A 1) (A 2) i + 1 * (s 4 * plk (A 1) (A 3) i + s 5 * plk (A 2) (A 3) i))))
    grind
  rw [e, wed_lin, wed_lin, wed_lin, wed_lin, wed_lin, ← plk_led, ← plk_led, ← plk_led, ← plk_led, ← plk_led, ← plk_led]
  refine V.ext fun i => ?_
  show s 0 * plk (app (A 0) B) (app (A 1) B) i + 1 * (s 1 * plk (app (A 0) B) (app (A 2) B) i + 1 * (s 2 * plk (app (A 0) B) (app (A 3) B) i + 1 * (s 3 * plk (app (A 1) B) (app (A 2) B) i + 1 * (s 4 * plk (app (A 1) B) (app (A 3) B) i + s 5 * plk (app (A 2) B) (app (A 3) B) i)))) = s 0 * plk (app (A 0) B) (app (A 1) B) i + s 1 * plk (app (A 0) B) (app (A 2) B) i + s 2 * plk (app (A 0) B) (app (A 3) B) i + s 3 * plk (app (A 1) B) (app (A 2) B) i + s 4 * plk (app (A 1) B) (app (A 3) B) i + s 5 * plk (app (A 2) B) (app (A 3) B) i
  grind
theorem wed_Lin {T : M4 k 4} (h : Tn T) : Lin (wed T) where
  sub := fun u c v => by
    have := wed_lin T 1 (-c) u v
    have e1 : sm 1 u + sm (-c) v = u - sm c v := V.ext fun i => by simp; grind
    have e2 : sm 1 (wed T u) + sm (-c) (wed T v) = wed T u - sm c (wed T v) := V.ext fun i => by simp; grind
    rwa [e1, e2] at this
  inj := fun x hx => by
    obtain ⟨B, b1, b2⟩ := tn_back h
    have := congrArg (wed B) hx
    rw [wed_mul, b2, wed_unit] at this
    rw [this]
    have := wed_lin B 0 0 (0 : V k 6) 0
    have e1 : sm (0 : F k) (0 : V k 6) + sm 0 0 = 0 := V.ext fun i => by simp; grind
    rw [e1] at this
    rw [this]
    exact V.ext fun i => by simp; grind
/-- rows of one line: alike sixes but for a number -/
theorem plk_same {u v x y : V k 4} (h : Same [u, v] [x, y]) (h0 : plk u v ≠ 0) : ∃ c, c ≠ 0 ∧ plk u v = sm c (plk x y) := by
  obtain ⟨a, b, e1⟩ := sp2.mp ((h u).mp (Sp.mem (.head _)))
  obtain ⟨c, d, e2⟩ := sp2.mp ((h v).mp (Sp.mem (.tail _ (.head _))))
  subst e1 e2
  rw [plk_sp] at h0 ⊢
  exact ⟨_, fun z => h0 (by rw [z]; exact V.ext fun i => by simp; grind), rfl⟩
/-- a line's six, scaled -/
def sixL1 (l : Ln k) : V k 6 := nrm (plk l.1 l.2)
theorem sixL1_sc {l : Ln k} (h : IsLn l) : ∃ c, c ≠ 0 ∧ sixL1 l = sm c (plk l.1 l.2) := nrm_sc h.plk
theorem six_led {T : M4 k 4} (hT : Tn T) {l : Ln k} (h : IsLn l) : ∃ c, c ≠ 0 ∧ plk (ledL T l).1 (ledL T l).2 = sm c (wed T (plk l.1 l.2)) := by
  obtain ⟨h1, h2⟩ := ledL_ok hT h
  rw [← plk_led]
  refine plk_same ?_ h1.plk
  rw [← h2]; exact lowest_self _
def rankL (ls : List (Ln k)) : Nat := (lowest ge (ls.map sixL1)).length
theorem rank_perm {a b : List (Ln k)} (h : a.Perm b) : rankL a = rankL b := by
  unfold rankL
  rw [(lowest_same gr_ge).mpr (Same.perm (h.map sixL1))]
theorem rank_led {T : M4 k 4} (hT : Tn T) {ls : List (Ln k)} (h : ∀ l ∈ ls, IsLn l) : rankL (ls.map (ledL T)) = rankL ls := by
  unfold rankL
  rw [List.map_map]
  have e1 : Same (ls.map (sixL1 ∘ ledL T)) (ls.map fun l => wed T (plk l.1 l.2)) := same_scale fun l hl => by
    obtain ⟨c, hc, e⟩ := six_led hT (h l hl)
    obtain ⟨d, hd, e2⟩ := sixL1_sc (ledL_ok hT (h l hl)).1
    refine ⟨d * c, fun z => ?_, ?_⟩
    · have h1 := mul_inv' k c hc
      have h2 := mul_inv' k d hd
      generalize c⁻¹ = x at *
      generalize d⁻¹ = y at *
      exact one_ne (k := k) (by grind)
    · show sixL1 (ledL T l) = _
      rw [e2, e]
      exact V.ext fun i => by simp; grind
  have e2 : Same (ls.map sixL1) (ls.map fun l => plk l.1 l.2) := same_scale fun l hl => sixL1_sc (h l hl)
  rw [(lowest_same gr_ge).mpr e1, (lowest_same gr_ge).mpr e2]
  have := dim_lin (wed_Lin hT) (ls.map fun l => plk l.1 l.2)
  rw [List.map_map] at this
  exact this
/-! points led -/
theorem comm_led {T : M4 k 4} (hT : Tn T) {l m : Ln k} (hl : IsLn l) (hm : IsLn m) {p : V k 4} (hp : p ∈ comm l m) : nrm (app p T) ∈ comm (ledL T l) (ledL T m) ∧ app p T ≠ 0 := by
  obtain ⟨i, h1, h2⟩ := pts_lead hl (mem_comm.mp hp).1
  have h0 : app p T ≠ 0 := fun z => by
    have := app_inj hT z
    rw [this] at h2
    exact zero_one' k h2
  obtain ⟨j, hj⟩ := lead_ex h0
  have hs := scale_ld (lead_some hj)
  have e2 := lead_of_ld hs.1
  rw [nrm_of hj]
  exact ⟨mem_comm.mpr ⟨pts_of (ledL_ok hT hl).1 (((ledL_sp hT hl _).mpr ⟨p, pts_sp (mem_comm.mp hp).1, rfl⟩).sm _) e2 hs.2, pts_of (ledL_ok hT hm).1 (((ledL_sp hT hm _).mpr ⟨p, pts_sp (mem_comm.mp hp).2, rfl⟩).sm _) e2 hs.2⟩, h0⟩
theorem comm_led_iff {T : M4 k 4} (hT : Tn T) {l m : Ln k} (hl : IsLn l) (hm : IsLn m) : comm (ledL T l) (ledL T m) = [] ↔ comm l m = [] := by
  have key : ∀ {T : M4 k 4}, Tn T → ∀ {l m : Ln k}, IsLn l → IsLn m → comm (ledL T l) (ledL T m) = [] → comm l m = [] := fun {T} hT {l m} hl hm h => by
    apply List.eq_nil_iff_forall_not_mem.mpr
    intro p hp
    have := (comm_led hT hl hm hp).1
    rw [h] at this; cases this
  refine ⟨key hT hl hm, fun h => ?_⟩
  obtain ⟨B, b1, b2⟩ := tn_back hT
  have hB : Tn B := tn_of b2
  refine key hB (ledL_ok hT hl).1 (ledL_ok hT hm).1 ?_
  rw [ledL_mul hT hB hl, ledL_mul hT hB hm, b2, ledL_unit hl, ledL_unit hm]
  exact h
theorem shPt_of {l m : Ln k} (hl : IsLn l) (hm : IsLn m) (hne : l ≠ m) {p : V k 4} (hp : p ∈ comm l m) : shPt l m = some p := by
  rw [shPt, if_neg hne]
  cases h : (comm l m).head? with
  | none => rw [List.head?_eq_none_iff.mp h] at hp; cases hp
  | some q =>
    have hq := List.mem_of_head? h
    rw [show q = p from Classical.byContradiction fun e => hne (ln_eq hl hm hq hp e)]
theorem pt_row {l : Ln k} (hl : IsLn l) {p w : V k 4} (hp : p ∈ ptsOn l.1 l.2) (hw : ¬ Sp [l.1, l.2] w) : ∃ x y : V k 4, IsLn (x, y) ∧ lowest ge [p, w] = [x, y] := by
  have h0 : ¬ Sp [] p := fun h => by
    have h : p = 0 := h
    obtain ⟨i, h1, h2⟩ := pts_lead hl hp
    rw [h] at h2
    exact zero_one' k h2
  have h1 : ¬ Sp ([] ++ [p]) w := fun h => hw (Sp.mono (fun a ha => by
    rw [List.nil_append, List.mem_singleton] at ha
    rw [ha]; exact pts_sp hp) h)
  have e : [p, w] = ([] ++ [p]) ++ [w] := rfl
  have h2 : (lowest ge [p, w]).length = 2 := by rw [e, dim_out h1, dim_out h0]; rfl
  obtain ⟨x, y, hL⟩ := len2 h2
  exact ⟨x, y, lowest_ln hL, hL⟩
theorem led_back {T B : M4 k 4} (hT : Tn T) (h1 : mulT B T = uT) (h2 : mulT T B = uT) {ls : List (Ln k)} (h : ∀ l ∈ ls, IsLn l) : insL ((insL (ls.map (ledL T))).map (ledL B)) = insL ls := by
  refine insL_perm ?_
  have p1 := ((insS_perm lnLe_tot (ls.map (ledL T))).1).map (ledL B)
  refine p1.trans ?_
  rw [List.map_map]
  have : ls.map (ledL B ∘ ledL T) = ls := by
    conv => rhs; rw [← List.map_id ls]
    refine List.map_congr_left fun l hl => ?_
    show ledL B (ledL T l) = l
    rw [ledL_mul hT (tn_of h2) (h l hl), h2, ledL_unit (h l hl)]
  rw [this]
theorem led_all {T : M4 k 4} (hT : Tn T) {ls : List (Ln k)} (h : ∀ l ∈ ls, IsLn l) : ∀ l ∈ insL (ls.map (ledL T)), IsLn l := fun l hl => by
  obtain ⟨m, hm, rfl⟩ := List.mem_map.mp (mem_insL.mp hl)
  exact (ledL_ok hT (h m hm)).1
/-! odd things -/
def oddP : List PyData := [.none, .bool true, .bool false, .str (Str.ofString "1"), .int (-1), .int 6, .int 5, .int 100000000000000000000000000000000000000000000000000000000000, .tuple [], .list [.int 0], .tuple [.int 1, .int 0], .int (-7)]
def oddsL : List PyData := [.none, .bool true, .int 0, .str (Str.ofString ""), .tuple [], .list [], .tuple [.tuple [], .tuple []], .tuple [.int 1, .int 2], .tuple [.tuple [.int 1, .int 0, .int 0, .int 0]], .tuple [.tuple [.int 0, .int 0, .int 0, .int 0], .tuple [.int 0, .int 0, .int 0, .int 0]]]
def odds17 : List PyData := [.none, .bool true, .int 1, .str (Str.ofString "1000/0100/0010/0001"), .tuple [], .list [], .tuple [.tuple []], .tuple [.int 1, .int 0, .int 0, .int 0], .tuple [.tuple [.int 0, .int 0, .int 0, .int 0], .tuple [.int 0, .int 0, .int 0, .int 0], .tuple [.int 0, .int 0, .int 0, .int 0], .tuple [.int 0, .int 0, .int 0, .int 0]]]
/-- things of a depth, of short parts -/
def th : Nat → Nat → PyData → Bool
  | 0, _, _ => false
  | n + 1, m, .list xs => decide (xs.length ≤ m) && xs.all (th n m)
  | n + 1, m, .tuple xs => decide (xs.length ≤ m) && xs.all (th n m)
  | _ + 1, _, .dict _ => false
  | _ + 1, _, _ => true
theorem th_le : ∀ {n n' m m' : Nat} {p : PyData}, n ≤ n' → m ≤ m' → th n m p = true → th n' m' p = true
  | 0, _, _, _, _, _, _, h => by simp [th] at h
  | n + 1, 0, _, _, _, h, _, _ => by omega
  | n + 1, n' + 1, m, m', p, h1, h2, h => by
    cases p with
    | list xs =>
      simp only [th, Bool.and_eq_true, decide_eq_true_eq, List.all_eq_true] at h ⊢
      exact ⟨by omega, fun x hx => th_le (by omega) h2 (h.2 x hx)⟩
    | tuple xs =>
      simp only [th, Bool.and_eq_true, decide_eq_true_eq, List.all_eq_true] at h ⊢
      exact ⟨by omega, fun x hx => th_le (by omega) h2 (h.2 x hx)⟩
    | dict _ => simp [th] at h
    | _ => rfl
theorem th_dOk : ∀ {n m : Nat} {p : PyData}, th n m p = true → dOk n p = true
  | 0, _, _, h => by simp [th] at h
  | n + 1, m, p, h => by
    cases p with
    | list xs =>
      simp only [th, Bool.and_eq_true, decide_eq_true_eq, List.all_eq_true] at h
      simp only [dOk, List.all_eq_true]
      exact fun x hx => th_dOk (h.2 x hx)
    | tuple xs =>
      simp only [th, Bool.and_eq_true, decide_eq_true_eq, List.all_eq_true] at h
      simp only [dOk, List.all_eq_true]
      exact fun x hx => th_dOk (h.2 x hx)
    | dict _ => simp [th] at h
    | _ => rfl
theorem odd_th {p : PyData} (h : p ∈ oddP) : th 2 2 p = true := by
  simp only [oddP, List.mem_cons, List.not_mem_nil, or_false] at h
  rcases h with rfl | rfl | rfl | rfl | rfl | rfl | rfl | rfl | rfl | rfl | rfl | rfl <;> rfl
theorem th_tup {n m : Nat} {xs : List PyData} : th (n + 1) m (.tuple xs) = true ↔ xs.length ≤ m ∧ ∀ x ∈ xs, th n m x = true := by
  simp [th]
theorem th_lst {n m : Nat} {xs : List PyData} : th (n + 1) m (.list xs) = true ↔ xs.length ≤ m ∧ ∀ x ∈ xs, th n m x = true := by
  simp [th]
theorem odd_k {p : PyData} (h : p ∈ oddP) : nK p (retI p ⟨.sh, true⟩) = retI p ⟨.sh, true⟩ ∧ (retI p ⟨.sh, true⟩).c = true ∧ ∀ i v, varV i p (retI p ⟨.sh, true⟩) v = .ok (.v p (retI p ⟨.sh, true⟩)) v := by
  simp only [oddP, List.mem_cons, List.not_mem_nil, or_false] at h
  rcases h with rfl | rfl | rfl | rfl | rfl | rfl | rfl | rfl | rfl | rfl | rfl | rfl <;> exact ⟨rfl, rfl, fun _ _ => rfl⟩
theorem pur_mem : ∀ {xs : List PyData} {x : PyData}, purs xs = true → x ∈ xs → pur x = true
  | y :: ys, x, h, hx => by
    rw [purs, Bool.and_eq_true] at h
    rcases List.mem_cons.mp hx with rfl | q
    · exact h.1
    · exact pur_mem h.2 q
theorem vcl_raw {turn : PyData → VEnv → VR (Option (PyData × K))} {v : VEnv} {b : PyData → PyData} {kk : PyData → K} {xs : List PyData} (h : ∀ x ∈ xs, turn x v = .ok (some (b x, kk x)) v) : vcl turn xs v = .ok (xs.map fun x => (b x, kk x)) v := by
  have := vcl_map (a := id) h
  rwa [List.map_id] at this
theorem vcl_each {turn : PyData → VEnv → VR (Option (PyData × K))} {v : VEnv} : ∀ {xs : List PyData}, (∀ x ∈ xs, ∃ k, turn x v = .ok (some (x, k)) v) → ∃ ks, vcl turn xs v = .ok ks v ∧ ks.map (·.1) = xs
  | [], _ => ⟨[], rfl, rfl⟩
  | x :: xs, h => by
    obtain ⟨k, e⟩ := h x (.head _)
    obtain ⟨ks, e2, e3⟩ := vcl_each fun y hy => h y (.tail _ hy)
    exact ⟨(x, k) :: ks, by rw [vcl_cons, e, vcC_some, e2, vcD_ok], by rw [List.map_cons, e3]⟩
def intB : PyData → Bool
  | .int _ => true
  | _ => false
def cellB (k : Q4) : PyData → Bool
  | .int i => decide (0 ≤ i) && decide (i < (k.n : Int))
  | _ => false
def rowB (k : Q4) (n : Nat) : PyData → Bool
  | .tuple xs => decide (xs.length = n) && xs.all (cellB k)
  | _ => false
theorem cell_of {k : Q4} {p : PyData} (h : cellB k p = true) : ∃ x : F k, p = pF x := by
  cases p with
  | int i =>
    simp only [cellB, Bool.and_eq_true, decide_eq_true_eq] at h
    refine ⟨(⟨i.toNat, by omega⟩ : _root_.Fin k.n), ?_⟩
    show PyData.int i = PyData.int ((i.toNat : Nat) : Int)
    rw [Int.toNat_of_nonneg h.1]
  | _ => simp [cellB] at h
theorem row_of {k : Q4} {n : Nat} {p : PyData} (h : rowB k n p = true) : ∃ v : V k n, p = pV v := by
  cases p with
  | tuple xs =>
    simp only [rowB, Bool.and_eq_true, decide_eq_true_eq, List.all_eq_true] at h
    obtain ⟨rfl, h⟩ := h
    refine ⟨fun i => (cell_of (h xs[i] (List.getElem_mem _))).choose, ?_⟩
    show PyData.tuple xs = PyData.tuple (pL _)
    congr 1
    unfold pL
    refine List.ext_getElem (by simp) fun i h1 h2 => ?_
    simp
    exact (cell_of (h xs[i] (List.getElem_mem _))).choose_spec
  | _ => simp [rowB] at h
theorem row_pV {k : Q4} {n : Nat} (v : V k n) : rowB k n (pV v) = true := by
  show (decide ((pL v).length = n) && (pL v).all (cellB k)) = true
  rw [len_L]
  simp only [decide_true, Bool.true_and, pL, List.all_map, List.all_eq_true]
  intro i _
  have := F.lt (v i)
  show (decide (0 ≤ ((v i).val : Int)) && decide (((v i).val : Int) < (k.n : Int))) = true
  simp only [Bool.and_eq_true, decide_eq_true_eq]
  omega
theorem pV_inj {k : Q4} {n : Nat} {u v : V k n} (e : pV u = pV v) : u = v := by
  have h := eqv_pV u v
  rw [← e, eqv_pV u u] at h
  simpa using h
open Classical in
/-- a line's own form -/
noncomputable def lineB (k : Q4) (p : PyData) : Bool := decide (∃ u v : V k 4, p = .tuple [pV u, pV v] ∧ lowest ge [u, v] = [u, v])
open Classical in
theorem lineB_ln {k : Q4} (u v : V k 4) : lineB k (.tuple [pV u, pV v]) = decide (lowest ge [u, v] = [u, v]) := by
  unfold lineB
  refine decide_eq_decide.mpr ⟨?_, fun h => ⟨u, v, rfl, h⟩⟩
  rintro ⟨u', v', e, h⟩
  simp only [PyData.tuple.injEq, List.cons.injEq, and_true] at e
  rw [pV_inj e.1, pV_inj e.2]; exact h
open Classical in
theorem lineB_no {k : Q4} {p : PyData} (h : ¬ ∃ u v : V k 4, p = .tuple [pV u, pV v]) : lineB k p = false := by
  unfold lineB
  exact decide_eq_false fun ⟨u, v, e, _⟩ => h ⟨u, v, e⟩
theorem lineB_row {k : Q4} {a b : PyData} (h : (rowB k 4 a && rowB k 4 b) = false) : lineB k (.tuple [a, b]) = false := lineB_no fun ⟨u, v, e⟩ => by
  simp only [PyData.tuple.injEq, List.cons.injEq, and_true] at e
  rw [e.1, e.2, row_pV, row_pV] at h
  cases h
theorem lineB_len {k : Q4} {xs : List PyData} (h : xs.length ≠ 2) : lineB k (.tuple xs) = false := lineB_no fun ⟨u, v, e⟩ => by
  simp only [PyData.tuple.injEq] at e
  rw [e] at h; exact h rfl
/-- four rows -/
def largeB (k : Q4) : PyData → Bool
  | .tuple [a, b, c, d] => rowB k 4 a && (rowB k 4 b && (rowB k 4 c && rowB k 4 d))
  | _ => false
theorem large_of {k : Q4} {p : PyData} (h : largeB k p = true) : ∃ T : M4 k 4, p = pM T := by
  unfold largeB at h
  split at h
  · simp only [Bool.and_eq_true] at h
    obtain ⟨a, rfl⟩ := row_of h.1
    obtain ⟨b, rfl⟩ := row_of h.2.1
    obtain ⟨c, rfl⟩ := row_of h.2.2.1
    obtain ⟨d, rfl⟩ := row_of h.2.2.2
    exact ⟨mkT a b c d, (pM_mk a b c d).symm⟩
  · cases h
theorem large_pM {k : Q4} (T : M4 k 4) : largeB k (pM T) = true := by
  show (rowB k 4 (pV (T 0)) && (rowB k 4 (pV (T 1)) && (rowB k 4 (pV (T 2)) && rowB k 4 (pV (T 3))))) = true
  simp [row_pV]
theorem pM_inj {k : Q4} {T U : M4 k 4} (h : pM T = pM U) : T = U := by
  simp only [pM, PyData.tuple.injEq, List.cons.injEq, and_true] at h
  exact m4_ext (pV_inj h.1) (pV_inj h.2.1) (pV_inj h.2.2.1) (pV_inj h.2.2.2)
open Classical in
/-- a turning -/
noncomputable def turB (k : Q4) (p : PyData) : Bool := decide (∃ T : M4 k 4, p = pM T ∧ Tn T)
open Classical in
theorem turB_M {k : Q4} (T : M4 k 4) : turB k (pM T) = decide ((lowest ge (rowsT T)).length = 4) := by
  unfold turB
  refine decide_eq_decide.mpr ⟨?_, fun h => ⟨T, rfl, tn_iff.mpr h⟩⟩
  rintro ⟨U, e, h⟩
  rw [pM_inj e]
  exact tn_iff.mp h
open Classical in
theorem turB_no {k : Q4} {p : PyData} (h : largeB k p = false) : turB k p = false := by
  unfold turB
  refine decide_eq_false ?_
  rintro ⟨T, rfl, _⟩
  rw [large_pM] at h
  cases h
theorem slt_from {xs : List PyData} {n : Nat} (h : n ≤ xs.length) : sliP (.tuple xs) (some (n : Int)) none = some (.tuple (xs.drop n)) := by
  simp only [sliP, cutP, sIx_nat h]
  simp only [sIx]
  rw [List.take_of_length_le (by simp)]
theorem slt_to {xs : List PyData} {n : Nat} (h : n ≤ xs.length) : sliP (.tuple xs) none (some (n : Int)) = some (.tuple (xs.take n)) := by
  simp only [sliP, cutP, sIx_nat h]
  simp [sIx]
theorem th_V {k : Q4} {n : Nat} (v : V k n) (h : n ≤ 50) : th 2 50 (pV v) = true := by
  show th 2 50 (.tuple (pL v)) = true
  refine th_tup.mpr ⟨by rw [len_L]; exact h, fun x hx => ?_⟩
  obtain ⟨i, _, rfl⟩ := List.mem_map.mp hx
  rfl
theorem th_Vs {k : Q4} {n : Nat} (vs : List (V k n)) (h : n ≤ 50) (hl : vs.length ≤ 50) : th 3 50 (.tuple (vs.map pV)) = true := th_tup.mpr ⟨by simpa using hl, fun x hx => by
  obtain ⟨i, _, rfl⟩ := List.mem_map.mp hx
  exact th_V i h⟩
theorem th_Vl {k : Q4} {n : Nat} (vs : List (V k n)) (h : n ≤ 50) (hl : vs.length ≤ 50) : th 3 50 (.list (vs.map pV)) = true := th_lst.mpr ⟨by simpa using hl, fun x hx => by
  obtain ⟨i, _, rfl⟩ := List.mem_map.mp hx
  exact th_V i h⟩
theorem pur_Vs {k : Q4} {n : Nat} (vs : List (V k n)) : pur (.tuple (vs.map pV)) = true := by
  rw [pur]
  induction vs with
  | nil => rfl
  | cons v vs ih => rw [List.map_cons, purs, pur_V, ih]; rfl
theorem eqv_th : ∀ {n m : Nat} {p : PyData}, th n m p = true → PyData.eqv p p = true
  | 0, _, _, h => by simp [th] at h
  | n + 1, m, p, h => by
    have key : ∀ xs : List PyData, (∀ x ∈ xs, th n m x = true) → PyData.eqvAll xs xs = true := by
      intro xs
      induction xs with
      | nil => intro _; rw [PyData.eqvAll]
      | cons x xs ih =>
        intro hx
        rw [PyData.eqvAll, eqv_th (hx x (.head _)), ih fun y hy => hx y (.tail _ hy)]
        rfl
    cases p with
    | list xs => rw [PyData.eqv]; exact key xs (th_lst.mp h).2
    | tuple xs => rw [PyData.eqv]; exact key xs (th_tup.mp h).2
    | dict _ => simp [th] at h
    | _ => simp [PyData.eqv]
theorem eqP_th {n m : Nat} {p : PyData} (hn : n ≤ 60) (h : th n m p = true) : eqP p p = some true := by
  have h2 := th_dOk (th_le hn (Nat.le_refl _) h)
  unfold eqP
  rw [h2, eqv_th h]
  rfl
theorem nK_c {p : PyData} {k : K} (h : k.c = true) : (nK p k).c = true := by
  obtain ⟨t, c⟩ := k
  cases h
  cases t <;> rfl
theorem retI_c {p : PyData} {k : K} (h : k.c = true) : (retI p k).c = true := by
  unfold retI
  split
  · rfl
  · obtain ⟨t, c⟩ := k
    cases h
    cases t <;> rfl
end Z
/-! the text of k17, printed by gen.py -/
namespace Z
open PySem
def top (i : Nat) : Stmt := PySem.Challenge.pw_spreadplanes_k17_what_is_a_turning.main.body.getD i (.Pass ⟨0, 0, 0, 0⟩)
abbrev i_is_whole : Nat := 0
abbrev i_look_field : Nat := 1
abbrev i_difference_known : Nat := 2
abbrev i_product_known : Nat := 3
abbrev i_back_known : Nat := 4
abbrev i_row_times : Nat := 5
abbrev i_row_less : Nat := 6
abbrev i_lead_of : Nat := 7
abbrev i_scaled : Nat := 8
abbrev i_with_one : Nat := 9
abbrev i_lowest_known : Nat := 10
abbrev i_is_row_of : Nat := 11
abbrev i_is_large : Nat := 12
abbrev i_turning_known : Nat := 13
abbrev i_is_turning : Nat := 14
abbrev i__law_bag : Nat := 15
abbrev i__law_take : Nat := 16
abbrev i_sum_known : Nat := 17
abbrev i_difference_known_b : Nat := 18
abbrev i__law_times : Nat := 19
abbrev i__law_back : Nat := 20
abbrev i__law_more : Nat := 21
abbrev i__law_often : Nat := 22
abbrev i__law_led : Nat := 23
abbrev i__law_lowest : Nat := 24
abbrev i__law_unit : Nat := 25
abbrev i__law_turning : Nat := 26
abbrev i_is_whole_b : Nat := 27
abbrev i_is_row_of_b : Nat := 28
abbrev i__law_copied : Nat := 29
abbrev i__law_row : Nat := 30
abbrev i__law_row_on : Nat := 31
abbrev i__law_odd : Nat := 32
abbrev i__law_spoilt : Nat := 33
abbrev i__law_is_turning : Nat := 34
abbrev i_law_k17 : Nat := 35
def f_is_whole : Fn := { ar := 1, n := 1, body :=
    (.seq (.ret (.and (.isi (.var 0) .int) (.not (.isi (.var 0) .bool))))
    .nil) }
def f_look_field : Fn := { ar := 1, n := 1, body :=
    (.seq (.ife (.or (.not (.call i_is_whole (.cons (.var 0) .nil))) (.cmp .notin (.var 0) (.glo (.tup [(.int 2), (.int 3), (.int 4), (.int 5)]))))
      (.seq (.rai 1)
      .nil)
      .nil)
    .nil) }
def f_difference_known : Fn := { ar := 3, n := 3, body :=
    (.seq (.ife (.cmp .eq (.var 0) (.lit (.int 4)))
      (.seq (.ret (.bin .bxor (.var 1) (.var 2)))
      .nil)
      .nil)
    (.seq (.ret (.bin .mod (.bin .sub (.var 1) (.var 2)) (.var 0)))
    .nil)) }
def f_product_known : Fn := { ar := 3, n := 5, body :=
    (.seq (.ife (.cmp .ne (.var 0) (.lit (.int 4)))
      (.seq (.ret (.bin .mod (.bin .mul (.var 1) (.var 2)) (.var 0)))
      .nil)
      .nil)
    (.seq (.set 3 (.lit (.int 0)))
    (.seq (.fo (.rng1 (.lit (.int 2))) (.nm 4)
      (.seq (.ife (.cmp .eq (.bin .band (.bin .shr (.var 2) (.var 4)) (.lit (.int 1))) (.lit (.int 1)))
        (.seq (.set 3 (.bin .bxor (.var 3) (.bin .shl (.var 1) (.var 4))))
        .nil)
        .nil)
      .nil))
    (.seq (.ife (.cmp .gt (.var 3) (.lit (.int 3)))
      (.seq (.set 3 (.bin .bxor (.var 3) (.lit (.int 7))))
      .nil)
      .nil)
    (.seq (.ret (.var 3))
    .nil))))) }
def f_back_known : Fn := { ar := 2, n := 3, body :=
    (.seq (.ret (.idx (.comp [2] (.rng1 (.var 0)) (.nm 2) (.of (.cmp .eq (.call i_product_known (.cons (.var 0) (.cons (.var 1) (.cons (.var 2) .nil)))) (.lit (.int 1)))) (.var 2)) (.lit (.int 0))))
    .nil) }
def f_row_times : Fn := { ar := 3, n := 4, body :=
    (.seq (.ret (.blt .tuple (.cons (.comp [3] (.seq (.var 2)) (.nm 3) .no (.call i_product_known (.cons (.var 0) (.cons (.var 1) (.cons (.var 3) .nil))))) .nil)))
    .nil) }
def f_row_less : Fn := { ar := 4, n := 6, body :=
    (.seq (.ret (.blt .tuple (.cons (.comp [4, 5] (.zip (.var 1) (.var 3)) (.tu [4, 5]) .no (.call i_difference_known (.cons (.var 0) (.cons (.var 4) (.cons (.call i_product_known (.cons (.var 0) (.cons (.var 2) (.cons (.var 5) .nil)))) .nil))))) .nil)))
    .nil) }
def f_lead_of : Fn := { ar := 1, n := 3, body :=
    (.seq (.fo (.enu (.var 0)) (.tu [1, 2])
      (.seq (.ife (.cmp .ne (.var 2) (.lit (.int 0)))
        (.seq (.ret (.var 1))
        .nil)
        .nil)
      .nil))
    (.seq (.ret (.lit .non))
    .nil)) }
def f_scaled : Fn := { ar := 2, n := 2, body :=
    (.seq (.ret (.call i_row_times (.cons (.var 0) (.cons (.call i_back_known (.cons (.var 0) (.cons (.idx (.var 1) (.call i_lead_of (.cons (.var 1) .nil))) .nil))) (.cons (.var 1) .nil)))))
    .nil) }
def f_with_one : Fn := { ar := 3, n := 5, body :=
    (.seq (.fo (.seq (.var 1)) (.nm 3)
      (.seq (.set 2 (.call i_row_less (.cons (.var 0) (.cons (.var 2) (.cons (.idx (.var 2) (.call i_lead_of (.cons (.var 3) .nil))) (.cons (.var 3) .nil))))))
      .nil))
    (.seq (.ife (.cmp .is (.call i_lead_of (.cons (.var 2) .nil)) (.lit .non))
      (.seq (.ret (.var 1))
      .nil)
      .nil)
    (.seq (.set 2 (.call i_scaled (.cons (.var 0) (.cons (.var 2) .nil))))
    (.seq (.set 4 (.call i_lead_of (.cons (.var 2) .nil)))
    (.seq (.ret (.srt (.bin .add (.comp [3] (.seq (.var 1)) (.nm 3) .no (.call i_row_less (.cons (.var 0) (.cons (.var 3) (.cons (.idx (.var 3) (.var 4)) (.cons (.var 2) .nil)))))) (.lst (.cons (.var 2) .nil))) true))
    .nil))))) }
def f_lowest_known : Fn := { ar := 2, n := 4, body :=
    (.seq (.set 2 (.lst .nil))
    (.seq (.fo (.seq (.var 1)) (.nm 3)
      (.seq (.set 2 (.call i_with_one (.cons (.var 0) (.cons (.var 2) (.cons (.blt .tuple (.cons (.var 3) .nil)) .nil)))))
      .nil))
    (.seq (.ret (.var 2))
    .nil))) }
def f_is_row_of : Fn := { ar := 3, n := 4, body :=
    (.seq (.ife (.or (.not (.isi (.var 1) .tuple)) (.cmp .ne (.blt .len (.cons (.var 1) .nil)) (.var 2)))
      (.seq (.ret (.lit (.bl false)))
      .nil)
      .nil)
    (.seq (.ret (.blt .all (.cons (.comp [3] (.seq (.var 1)) (.nm 3) .no (.and (.call i_is_whole (.cons (.var 3) .nil)) (.chn .le .lt (.lit (.int 0)) (.var 3) (.var 0)))) .nil)))
    .nil)) }
def f_is_large : Fn := { ar := 2, n := 3, body :=
    (.seq (.ife (.or (.not (.isi (.var 1) .tuple)) (.cmp .ne (.blt .len (.cons (.var 1) .nil)) (.glo (.int 4))))
      (.seq (.ret (.lit (.bl false)))
      .nil)
      .nil)
    (.seq (.ret (.blt .all (.cons (.comp [2] (.seq (.var 1)) (.nm 2) .no (.call i_is_row_of (.cons (.var 0) (.cons (.var 2) (.cons (.glo (.int 4)) .nil))))) .nil)))
    .nil)) }
def f_turning_known : Fn := { ar := 2, n := 2, body :=
    (.seq (.ret (.and (.call i_is_large (.cons (.var 0) (.cons (.var 1) .nil))) (.cmp .eq (.blt .len (.cons (.call i_lowest_known (.cons (.var 0) (.cons (.var 1) .nil))) .nil)) (.glo (.int 4)))))
    .nil) }
def f_is_turning : Fn := { ar := 2, n := 2, body :=
    (.seq (.exp (.call i_look_field (.cons (.var 0) .nil)))
    (.seq (.ret (.call i_turning_known (.cons (.var 0) (.cons (.var 1) .nil))))
    .nil)) }
def f__law_bag : Fn := { ar := 2, n := 5, body :=
    (.seq (.set 2 (.lit (.int 0)))
    (.seq (.ife (.cmp .lt (.var 1) (.blt .len (.cons (.var 0) .nil)))
      (.seq (.set 2 (.idx (.var 0) (.var 1)))
      .nil)
      .nil)
    (.seq (.set 3 (.lit (.int 0)))
    (.seq (.ife (.cmp .ge (.blt .abs (.cons (.var 2) .nil)) (.bin .pow (.lit (.int 10)) (.lit (.int 18))))
      (.seq (.set 3 (.blt .abs (.cons (.var 2) .nil)))
      .nil)
      .nil)
    (.seq (.set 4 (.lst (.cons (.lit (.int 2147483629)) (.cons (.lit (.int 2147483587)) (.cons (.lit (.int 2147483579)) (.cons (.lit (.int 2147483563)) (.cons (.lit (.int 2147483549)) (.cons (.lit (.int 2147483543)) (.cons (.lit (.int 2147483497)) (.cons (.lit (.int 2147483489)) .nil))))))))))
    (.seq (.ret (.lst (.cons (.var 3) (.cons (.bin .mod (.bin .pow (.bin .add (.bin .add (.bin .mod (.var 2) (.lit (.int 2147483647))) (.bin .mul (.lit (.int 104729)) (.var 1))) (.lit (.int 7))) (.lit (.int 5))) (.idx (.var 4) (.bin .mod (.var 1) (.lit (.int 8))))) .nil))))
    .nil)))))) }
def f__law_take : Fn := { ar := 2, n := 3, body :=
    (.seq (.ife (.cmp .gt (.idx (.var 0) (.lit (.int 0))) (.lit (.int 0)))
      (.seq (.set 2 (.bin .mod (.idx (.var 0) (.lit (.int 0))) (.var 1)))
      (.seq (.put (.var 0) (.lit (.int 0)) (.bin .fdiv (.idx (.var 0) (.lit (.int 0))) (.var 1)))
      (.seq (.ret (.var 2))
      .nil)))
      .nil)
    (.seq (.put (.var 0) (.lit (.int 1)) (.bin .mod (.bin .add (.bin .mul (.idx (.var 0) (.lit (.int 1))) (.lit (.int 48271))) (.lit (.int 11))) (.lit (.int 2147483647))))
    (.seq (.ret (.bin .mod (.bin .mod (.bin .pow (.bin .fdiv (.idx (.var 0) (.lit (.int 1))) (.lit (.int 8))) (.lit (.int 3))) (.lit (.int 2147483629))) (.var 1)))
    .nil))) }
def f_sum_known : Fn := { ar := 3, n := 3, body :=
    (.seq (.ife (.cmp .eq (.var 0) (.lit (.int 4)))
      (.seq (.ret (.bin .bxor (.var 1) (.var 2)))
      .nil)
      .nil)
    (.seq (.ret (.bin .mod (.bin .add (.var 1) (.var 2)) (.var 0)))
    .nil)) }
def f_difference_known_b : Fn := { ar := 3, n := 3, body :=
    (.seq (.ife (.cmp .eq (.var 0) (.lit (.int 4)))
      (.seq (.ret (.bin .bxor (.var 1) (.var 2)))
      .nil)
      .nil)
    (.seq (.ret (.bin .mod (.bin .sub (.var 1) (.var 2)) (.var 0)))
    .nil)) }
def f__law_times : Fn := { ar := 3, n := 3, body :=
    (.seq (.ife (.cmp .ne (.var 0) (.lit (.int 4)))
      (.seq (.ret (.bin .mod (.bin .mul (.var 1) (.var 2)) (.var 0)))
      .nil)
      .nil)
    (.seq (.ife (.or (.cmp .eq (.var 1) (.lit (.int 0))) (.cmp .eq (.var 2) (.lit (.int 0))))
      (.seq (.ret (.lit (.int 0)))
      .nil)
      .nil)
    (.seq (.ret (.bin .add (.lit (.int 1)) (.bin .mod (.bin .sub (.bin .add (.var 1) (.var 2)) (.lit (.int 2))) (.lit (.int 3)))))
    .nil))) }
def f__law_back : Fn := { ar := 2, n := 3, body :=
    (.seq (.ret (.idx (.comp [2] (.rng2 (.lit (.int 1)) (.var 0)) (.nm 2) (.of (.cmp .eq (.call i__law_times (.cons (.var 0) (.cons (.var 1) (.cons (.var 2) .nil)))) (.lit (.int 1)))) (.var 2)) (.lit (.int 0))))
    .nil) }
def f__law_more : Fn := { ar := 4, n := 6, body :=
    (.seq (.ret (.blt .tuple (.cons (.comp [4, 5] (.zip (.var 1) (.var 3)) (.tu [4, 5]) .no (.call i_sum_known (.cons (.var 0) (.cons (.var 4) (.cons (.call i__law_times (.cons (.var 0) (.cons (.var 2) (.cons (.var 5) .nil)))) .nil))))) .nil)))
    .nil) }
def f__law_often : Fn := { ar := 3, n := 4, body :=
    (.seq (.ret (.blt .tuple (.cons (.comp [3] (.seq (.var 2)) (.nm 3) .no (.call i__law_times (.cons (.var 0) (.cons (.var 1) (.cons (.var 3) .nil))))) .nil)))
    .nil) }
def f__law_led : Fn := { ar := 3, n := 7, body :=
    (.seq (.set 3 (.blt .tuple (.cons (.comp [6] (.seq (.idx (.var 2) (.lit (.int 0)))) (.nm 6) .no (.lit (.int 0))) .nil)))
    (.seq (.fo (.zip (.var 1) (.var 2)) (.tu [4, 5])
      (.seq (.set 3 (.call i__law_more (.cons (.var 0) (.cons (.var 3) (.cons (.var 4) (.cons (.var 5) .nil))))))
      .nil))
    (.seq (.ret (.var 3))
    .nil))) }
def f__law_lowest : Fn := { ar := 2, n := 8, body :=
    (.seq (.set 2 (.comp [6] (.seq (.var 1)) (.nm 6) .no (.blt .tuple (.cons (.var 6) .nil))))
    (.seq (.set 3 (.lst .nil))
    (.seq (.fo (.rng1 (.ife (.cmp .ne (.var 1) (.lst .nil)) (.blt .len (.cons (.idx (.var 1) (.lit (.int 0))) .nil)) (.lit (.int 0)))) (.nm 4)
      (.seq (.set 5 (.comp [6] (.seq (.var 2)) (.nm 6) (.of (.cmp .ne (.idx (.var 6) (.var 4)) (.lit (.int 0)))) (.var 6)))
      (.seq (.ife (.cmp .ne (.var 5) (.lst .nil))
        (.seq (.set 7 (.call i__law_often (.cons (.var 0) (.cons (.call i__law_back (.cons (.var 0) (.cons (.idx (.idx (.var 5) (.lit (.int 0))) (.var 4)) .nil))) (.cons (.idx (.var 5) (.lit (.int 0))) .nil)))))
        (.seq (.exp (.met .remove (.var 2) (.cons (.idx (.var 5) (.lit (.int 0))) .nil)))
        (.seq (.set 2 (.comp [6] (.seq (.var 2)) (.nm 6) .no (.call i__law_more (.cons (.var 0) (.cons (.var 6) (.cons (.call i_difference_known_b (.cons (.var 0) (.cons (.lit (.int 0)) (.cons (.idx (.var 6) (.var 4)) .nil)))) (.cons (.var 7) .nil)))))))
        (.seq (.set 3 (.bin .add (.comp [6] (.seq (.var 3)) (.nm 6) .no (.call i__law_more (.cons (.var 0) (.cons (.var 6) (.cons (.call i_difference_known_b (.cons (.var 0) (.cons (.lit (.int 0)) (.cons (.idx (.var 6) (.var 4)) .nil)))) (.cons (.var 7) .nil)))))) (.lst (.cons (.var 7) .nil))))
        .nil))))
        .nil)
      .nil)))
    (.seq (.ret (.var 3))
    .nil)))) }
def f__law_unit : Fn := { ar := 1, n := 3, body :=
    (.seq (.ret (.comp [1] (.rng1 (.var 0)) (.nm 1) .no (.blt .tuple (.cons (.comp [2] (.rng1 (.var 0)) (.nm 2) .no (.blt .int1 (.cons (.cmp .eq (.var 1) (.var 2)) .nil))) .nil))))
    .nil) }
def f__law_turning : Fn := { ar := 3, n := 9, body :=
    (.seq (.set 3 (.call i__law_unit (.cons (.lit (.int 4)) .nil)))
    (.seq (.fo (.rng1 (.calli i__law_take (.cons (.var 1) (.cons (.bin .add (.var 2) (.lit (.int 1))) .nil)))) (.nm 4)
      (.seq (.set 5 (.calli i__law_take (.cons (.var 1) (.cons (.lit (.int 4)) .nil))))
      (.seq (.set 6 (.bin .mod (.bin .add (.bin .add (.var 5) (.lit (.int 1))) (.calli i__law_take (.cons (.var 1) (.cons (.lit (.int 3)) .nil)))) (.lit (.int 4))))
      (.seq (.set 7 (.bin .add (.lit (.int 1)) (.calli i__law_take (.cons (.var 1) (.cons (.bin .sub (.var 0) (.lit (.int 1))) .nil)))))
      (.seq (.set 8 (.calli i__law_take (.cons (.var 1) (.cons (.lit (.int 4)) .nil))))
      (.seq (.ife (.cmp .lt (.var 8) (.lit (.int 2)))
        (.seq (.put (.var 3) (.var 5) (.call i__law_more (.cons (.var 0) (.cons (.idx (.var 3) (.var 5)) (.cons (.var 7) (.cons (.idx (.var 3) (.var 6)) .nil))))))
        .nil)
        (.seq (.ife (.cmp .eq (.var 8) (.lit (.int 2)))
          (.seq (.putt (.var 3) (.var 5) (.var 3) (.var 6) (.idx (.var 3) (.var 6)) (.idx (.var 3) (.var 5)))
          .nil)
          (.seq (.put (.var 3) (.var 5) (.call i__law_often (.cons (.var 0) (.cons (.var 7) (.cons (.idx (.var 3) (.var 5)) .nil)))))
          .nil))
        .nil))
      .nil))))))
    (.seq (.ret (.blt .tuple (.cons (.var 3) .nil)))
    .nil))) }
def f_is_whole_b : Fn := { ar := 1, n := 1, body :=
    (.seq (.ret (.and (.isi (.var 0) .int) (.not (.isi (.var 0) .bool))))
    .nil) }
def f_is_row_of_b : Fn := { ar := 3, n := 4, body :=
    (.seq (.ife (.or (.not (.isi (.var 1) .tuple)) (.cmp .ne (.blt .len (.cons (.var 1) .nil)) (.var 2)))
      (.seq (.ret (.lit (.bl false)))
      .nil)
      .nil)
    (.seq (.ret (.blt .all (.cons (.comp [3] (.seq (.var 1)) (.nm 3) .no (.and (.call i_is_whole_b (.cons (.var 3) .nil)) (.chn .le .lt (.lit (.int 0)) (.var 3) (.var 0)))) .nil)))
    .nil)) }
def f__law_copied : Fn := { ar := 1, n := 2, body :=
    (.seq (.ife (.isi (.var 0) .list)
      (.seq (.ret (.comp [1] (.seq (.var 0)) (.nm 1) .no (.call i__law_copied (.cons (.var 1) .nil))))
      .nil)
      .nil)
    (.seq (.ret (.var 0))
    .nil)) }
def f__law_row : Fn := { ar := 3, n := 4, body :=
    (.seq (.ret (.blt .tuple (.cons (.comp [3] (.rng1 (.var 2)) (.nm 3) .no (.calli i__law_take (.cons (.var 1) (.cons (.var 0) .nil)))) .nil)))
    .nil) }
def f__law_row_on : Fn := { ar := 3, n := 4, body :=
    (.seq (.ret (.call i__law_led (.cons (.var 0) (.cons (.blt .tuple (.cons (.comp [3] (.seq (.var 2)) (.nm 3) .no (.calli i__law_take (.cons (.var 1) (.cons (.var 0) .nil)))) .nil)) (.cons (.var 2) .nil)))))
    .nil) }
def f__law_odd : Fn := { ar := 1, n := 2, body :=
    (.seq (.set 1 (.lst (.cons (.lit .non) (.cons (.lit (.bl true)) (.cons (.lit (.bl false)) (.cons (.lit (.str "1")) (.cons (.neg (.lit (.int 1))) (.cons (.lit (.int 6)) (.cons (.lit (.int 5)) (.cons (.bin .pow (.lit (.int 10)) (.lit (.int 59))) (.cons (.tup .nil) (.cons (.lst (.cons (.lit (.int 0)) .nil)) (.cons (.tup (.cons (.lit (.int 1)) (.cons (.lit (.int 0)) .nil))) (.cons (.neg (.lit (.int 7))) .nil))))))))))))))
    (.seq (.ret (.idx (.var 1) (.calli i__law_take (.cons (.var 0) (.cons (.lit (.int 12)) .nil)))))
    .nil)) }
def f__law_spoilt : Fn := { ar := 2, n := 6, body :=
    (.seq (.set 2 (.calli i__law_take (.cons (.var 0) (.cons (.lit (.int 6)) .nil))))
    (.seq (.set 3 (.calli i__law_odd (.cons (.var 0) .nil)))
    (.seq (.ife (.or (.not (.isi2 (.var 1))) (.or (.cmp .eq (.blt .len (.cons (.var 1) .nil)) (.lit (.int 0))) (.cmp .eq (.var 2) (.lit (.int 0)))))
      (.seq (.ret (.var 3))
      .nil)
      .nil)
    (.seq (.set 4 (.calli i__law_take (.cons (.var 0) (.cons (.blt .len (.cons (.var 1) .nil)) .nil))))
    (.seq (.set 5 (.blt .list (.cons (.var 1) .nil)))
    (.seq (.ife (.cmp .eq (.var 2) (.lit (.int 1)))
      (.seq (.set 5 (.bin .add (.sli (.var 5) .no (.of (.var 4))) (.sli (.var 5) (.of (.bin .add (.var 4) (.lit (.int 1)))) .no)))
      .nil)
      (.seq (.ife (.cmp .eq (.var 2) (.lit (.int 2)))
        (.seq (.set 5 (.bin .add (.bin .add (.sli (.var 5) .no (.of (.var 4))) (.lst (.cons (.idx (.var 5) (.var 4)) .nil))) (.sli (.var 5) (.of (.var 4)) .no)))
        .nil)
        (.seq (.ife (.cmp .eq (.var 2) (.lit (.int 3)))
          (.seq (.set 5 (.rev (.var 5)))
          .nil)
          (.seq (.put (.var 5) (.var 4) (.calli i__law_spoilt (.cons (.var 0) (.cons (.idx (.var 5) (.var 4)) .nil))))
          .nil))
        .nil))
      .nil))
    (.seq (.ife (.isi (.var 1) .list)
      (.seq (.ret (.var 5))
      .nil)
      .nil)
    (.seq (.ret (.blt .tuple (.cons (.var 5) .nil)))
    .nil)))))))) }
def f__law_is_turning : Fn := { ar := 2, n := 3, body :=
    (.seq (.ife (.or (.not (.isi (.var 1) .tuple)) (.or (.cmp .ne (.blt .len (.cons (.var 1) .nil)) (.lit (.int 4))) (.not (.blt .all (.cons (.comp [2] (.seq (.var 1)) (.nm 2) .no (.call i_is_row_of_b (.cons (.var 0) (.cons (.var 2) (.cons (.lit (.int 4)) .nil))))) .nil)))))
      (.seq (.ret (.lit (.bl false)))
      .nil)
      .nil)
    (.seq (.ret (.cmp .eq (.blt .len (.cons (.call i__law_lowest (.cons (.var 0) (.cons (.blt .list (.cons (.var 1) .nil)) .nil))) .nil)) (.lit (.int 4))))
    .nil)) }
def f_law_k17 : Fn := { ar := 1, n := 13, body :=
    (.seq (.fo (.rng1 (.blt .max2 (.cons (.lit (.int 2)) (.cons (.blt .min2 (.cons (.lit (.int 6)) (.cons (.blt .len (.cons (.var 0) .nil)) .nil))) .nil)))) (.nm 1)
      (.seq (.set 3 (.call i__law_bag (.cons (.var 0) (.cons (.var 1) .nil))))
      (.seq (.set 4 (.bin .add (.lit (.int 2)) (.calli i__law_take (.cons (.var 3) (.cons (.lit (.int 4)) .nil)))))
      (.seq (.set 5 (.calli i__law_turning (.cons (.var 4) (.cons (.var 3) (.cons (.lit (.int 12)) .nil)))))
      (.seq (.set 6 (.calli i__law_take (.cons (.var 3) (.cons (.lit (.int 4)) .nil))))
      (.seq (.set 7 (.bin .add (.sli (.var 5) .no (.of (.var 6))) (.sli (.var 5) (.of (.bin .add (.var 6) (.lit (.int 1)))) .no)))
      (.seq (.set 8 (.lst (.cons (.var 5) (.cons (.blt .list (.cons (.var 5) .nil)) (.cons (.blt .tuple (.cons (.comp [12] (.rng1 (.lit (.int 4))) (.nm 12) .no (.calli i__law_row (.cons (.var 4) (.cons (.var 3) (.cons (.lit (.int 4)) .nil))))) .nil)) (.cons (.var 7) .nil))))))
      (.seq (.exp (.met .append (.var 8) (.cons (.bin .add (.bin .add (.sli (.var 7) .no (.of (.var 6))) (.tup (.cons (.calli i__law_row_on (.cons (.var 4) (.cons (.var 3) (.cons (.var 7) .nil)))) .nil))) (.sli (.var 7) (.of (.var 6)) .no)) .nil)))
      (.seq (.fo (.rng1 (.lit (.int 6))) (.nm 9)
        (.seq (.exp (.met .append (.var 8) (.cons (.calli i__law_spoilt (.cons (.var 3) (.cons (.var 5) .nil))) .nil)))
        .nil))
      (.seq (.fo (.seq (.var 8)) (.nm 2)
        (.seq (.set 10 (.call i__law_copied (.cons (.var 2) .nil)))
        (.seq (.set 11 (.call i_is_turning (.cons (.var 4) (.cons (.var 10) .nil))))
        (.seq (.ife (.or (.not (.isi (.var 11) .bool)) (.or (.cmp .ne (.var 11) (.call i__law_is_turning (.cons (.var 4) (.cons (.var 2) .nil)))) (.cmp .ne (.var 10) (.var 2))))
          (.seq (.ret (.lit (.bl false)))
          .nil)
          .nil)
        .nil))))
      (.seq (.ife (.cmp .isnt (.call i_is_turning (.cons (.var 4) (.cons (.var 5) .nil))) (.lit (.bl true)))
        (.seq (.ret (.lit (.bl false)))
        .nil)
        .nil)
      .nil)))))))))))
    (.seq (.fo (.seq (.lst (.cons (.lit .non) (.cons (.lit (.bl true)) (.cons (.lit (.int 1)) (.cons (.lit (.str "1000/0100/0010/0001")) (.cons (.tup .nil) (.cons (.lst .nil) (.cons (.tup (.cons (.tup .nil) .nil)) (.cons (.tup (.cons (.lit (.int 1)) (.cons (.lit (.int 0)) (.cons (.lit (.int 0)) (.cons (.lit (.int 0)) .nil))))) (.cons (.bin .mul (.tup (.cons (.tup (.cons (.lit (.int 0)) (.cons (.lit (.int 0)) (.cons (.lit (.int 0)) (.cons (.lit (.int 0)) .nil))))) .nil)) (.lit (.int 4))) .nil))))))))))) (.nm 2)
      (.seq (.ife (.cmp .isnt (.call i_is_turning (.cons (.lit (.int 2)) (.cons (.var 2) .nil))) (.lit (.bl false)))
        (.seq (.ret (.lit (.bl false)))
        .nil)
        .nil)
      .nil))
    (.seq (.ret (.lit (.bl true)))
    .nil))) }
def e_is_whole : DefE := ⟨i_is_whole, "is_whole", ["thing"], ["thing"], f_is_whole, top 5, false⟩
def e_look_field : DefE := ⟨i_look_field, "look_field", ["q"], ["q"], f_look_field, top 6, false⟩
def e_difference_known : DefE := ⟨i_difference_known, "difference_known", ["q", "a", "b"], ["q", "a", "b"], f_difference_known, top 7, false⟩
def e_product_known : DefE := ⟨i_product_known, "product_known", ["q", "a", "b"], ["q", "a", "b", "found", "place"], f_product_known, top 8, false⟩
def e_back_known : DefE := ⟨i_back_known, "back_known", ["q", "a"], ["q", "a", "b"], f_back_known, top 9, false⟩
def e_row_times : DefE := ⟨i_row_times, "row_times", ["q", "often", "row"], ["q", "often", "row", "a"], f_row_times, top 12, false⟩
def e_row_less : DefE := ⟨i_row_less, "row_less", ["q", "row", "often", "far"], ["q", "row", "often", "far", "a", "b"], f_row_less, top 13, false⟩
def e_lead_of : DefE := ⟨i_lead_of, "lead_of", ["row"], ["row", "place", "number"], f_lead_of, top 14, false⟩
def e_scaled : DefE := ⟨i_scaled, "scaled", ["q", "row"], ["q", "row"], f_scaled, top 15, false⟩
def e_with_one : DefE := ⟨i_with_one, "with_one", ["q", "found", "row"], ["q", "found", "row", "one", "place"], f_with_one, top 16, false⟩
def e_lowest_known : DefE := ⟨i_lowest_known, "lowest_known", ["q", "rows"], ["q", "rows", "found", "row"], f_lowest_known, top 17, false⟩
def e_is_row_of : DefE := ⟨i_is_row_of, "is_row_of", ["q", "thing", "many"], ["q", "thing", "many", "one"], f_is_row_of, top 19, false⟩
def e_is_large : DefE := ⟨i_is_large, "is_large", ["q", "thing"], ["q", "thing", "row"], f_is_large, top 21, false⟩
def e_turning_known : DefE := ⟨i_turning_known, "turning_known", ["q", "thing"], ["q", "thing"], f_turning_known, top 22, false⟩
def e_is_turning : DefE := ⟨i_is_turning, "is_turning", ["q", "thing"], ["q", "thing"], f_is_turning, top 23, false⟩
def e__law_bag : DefE := ⟨i__law_bag, "_law_bag", ["_law_script", "_law_at"], ["_law_script", "_law_at", "_law_cell", "_law_great", "_law_primes"], f__law_bag, top 25, false⟩
def e__law_take : DefE := ⟨i__law_take, "_law_take", ["_law_bag_here", "_law_many"], ["_law_bag_here", "_law_many", "_law_digit"], f__law_take, top 26, false⟩
def e__law_plus : DefE := ⟨i_sum_known, "_law_plus", ["_law_q", "_law_a", "_law_b"], ["_law_q", "_law_a", "_law_b"], f_sum_known, top 27, false⟩
def e__law_minus : DefE := ⟨i_difference_known_b, "_law_minus", ["_law_q", "_law_a", "_law_b"], ["_law_q", "_law_a", "_law_b"], f_difference_known_b, top 28, false⟩
def e__law_times : DefE := ⟨i__law_times, "_law_times", ["_law_q", "_law_a", "_law_b"], ["_law_q", "_law_a", "_law_b"], f__law_times, top 29, false⟩
def e__law_back : DefE := ⟨i__law_back, "_law_back", ["_law_q", "_law_a"], ["_law_q", "_law_a", "_law_b"], f__law_back, top 30, false⟩
def e__law_more : DefE := ⟨i__law_more, "_law_more", ["_law_q", "_law_row_here", "_law_often_here", "_law_other"], ["_law_q", "_law_row_here", "_law_often_here", "_law_other", "_law_a", "_law_b"], f__law_more, top 31, false⟩
def e__law_often : DefE := ⟨i__law_often, "_law_often", ["_law_q", "_law_often_here", "_law_row_here"], ["_law_q", "_law_often_here", "_law_row_here", "_law_a"], f__law_often, top 32, false⟩
def e__law_led : DefE := ⟨i__law_led, "_law_led", ["_law_q", "_law_row_here", "_law_rows"], ["_law_q", "_law_row_here", "_law_rows", "_law_found", "_law_often_here", "_law_other", "_law_a"], f__law_led, top 33, false⟩
def e__law_lowest : DefE := ⟨i__law_lowest, "_law_lowest", ["_law_q", "_law_rows"], ["_law_q", "_law_rows", "_law_left", "_law_found", "_law_at", "_law_some", "_law_row_here", "_law_lead"], f__law_lowest, top 34, false⟩
def e__law_unit : DefE := ⟨i__law_unit, "_law_unit", ["_law_many"], ["_law_many", "_law_i", "_law_j"], f__law_unit, top 35, false⟩
def e__law_turning : DefE := ⟨i__law_turning, "_law_turning", ["_law_q", "_law_bag_here", "_law_most"], ["_law_q", "_law_bag_here", "_law_most", "_law_rows", "_law_step", "_law_i", "_law_j", "_law_often_here", "_law_way"], f__law_turning, top 36, false⟩
def e__law_whole : DefE := ⟨i_is_whole_b, "_law_whole", ["_law_thing"], ["_law_thing"], f_is_whole_b, top 37, false⟩
def e__law_is_row : DefE := ⟨i_is_row_of_b, "_law_is_row", ["_law_q", "_law_thing", "_law_many"], ["_law_q", "_law_thing", "_law_many", "_law_one"], f_is_row_of_b, top 38, false⟩
def e__law_copied : DefE := ⟨i__law_copied, "_law_copied", ["_law_thing"], ["_law_thing", "_law_one"], f__law_copied, top 39, false⟩
def e__law_row : DefE := ⟨i__law_row, "_law_row", ["_law_q", "_law_bag_here", "_law_many"], ["_law_q", "_law_bag_here", "_law_many", "_law_k"], f__law_row, top 40, false⟩
def e__law_row_on : DefE := ⟨i__law_row_on, "_law_row_on", ["_law_q", "_law_bag_here", "_law_rows"], ["_law_q", "_law_bag_here", "_law_rows", "_law_row_here"], f__law_row_on, top 41, false⟩
def e__law_odd : DefE := ⟨i__law_odd, "_law_odd", ["_law_bag_here"], ["_law_bag_here", "_law_some"], f__law_odd, top 42, false⟩
def e__law_spoilt : DefE := ⟨i__law_spoilt, "_law_spoilt", ["_law_bag_here", "_law_thing"], ["_law_bag_here", "_law_thing", "_law_way", "_law_odd_here", "_law_at", "_law_parts"], f__law_spoilt, top 43, false⟩
def e__law_is_turning : DefE := ⟨i__law_is_turning, "_law_is_turning", ["_law_q", "_law_thing"], ["_law_q", "_law_thing", "_law_row_here"], f__law_is_turning, top 44, false⟩
def e_law : DefE := ⟨i_law_k17, "law", ["_law_script"], ["_law_script", "_law_k", "_law_thing", "_law_bag_here", "_law_q", "_law_turning_here", "_law_at", "_law_some", "_law_things", "_law_turn", "_law_handed", "_law_found", "_law_row_here"], f_law_k17, top 45, false⟩
def defs : List DefE := [e_is_whole, e_look_field, e_difference_known, e_product_known, e_back_known, e_row_times, e_row_less, e_lead_of, e_scaled, e_with_one, e_lowest_known, e_is_row_of, e_is_large, e_turning_known, e_is_turning, e__law_bag, e__law_take, e__law_plus, e__law_minus, e__law_times, e__law_back, e__law_more, e__law_often, e__law_led, e__law_lowest, e__law_unit, e__law_turning, e__law_whole, e__law_is_row, e__law_copied, e__law_row, e__law_row_on, e__law_odd, e__law_spoilt, e__law_is_turning, e_law]
def txt : Txt := { defs := defs, cls := [(1, "NoField")], con := [("KNOWN", (.tup [(.int 2), (.int 3), (.int 4), (.int 5)])), ("PLACES", (.int 4))], bln := ["abs", "all", "bool", "enumerate", "int", "isinstance", "len", "list", "max", "min", "range", "sorted", "tuple", "zip"], isx := [] }
abbrev G : Tab := txt.tab 1000
theorem g_is_whole : G.fns i_is_whole = some f_is_whole := rfl
theorem g_look_field : G.fns i_look_field = some f_look_field := rfl
theorem g_difference_known : G.fns i_difference_known = some f_difference_known := rfl
theorem g_product_known : G.fns i_product_known = some f_product_known := rfl
theorem g_back_known : G.fns i_back_known = some f_back_known := rfl
theorem g_row_times : G.fns i_row_times = some f_row_times := rfl
theorem g_row_less : G.fns i_row_less = some f_row_less := rfl
theorem g_lead_of : G.fns i_lead_of = some f_lead_of := rfl
theorem g_scaled : G.fns i_scaled = some f_scaled := rfl
theorem g_with_one : G.fns i_with_one = some f_with_one := rfl
theorem g_lowest_known : G.fns i_lowest_known = some f_lowest_known := rfl
theorem g_is_row_of : G.fns i_is_row_of = some f_is_row_of := rfl
theorem g_is_large : G.fns i_is_large = some f_is_large := rfl
theorem g_turning_known : G.fns i_turning_known = some f_turning_known := rfl
theorem g_is_turning : G.fns i_is_turning = some f_is_turning := rfl
theorem g__law_bag : G.fns i__law_bag = some f__law_bag := rfl
theorem g__law_take : G.fns i__law_take = some f__law_take := rfl
theorem g_sum_known : G.fns i_sum_known = some f_sum_known := rfl
theorem g_difference_known_b : G.fns i_difference_known_b = some f_difference_known_b := rfl
theorem g__law_times : G.fns i__law_times = some f__law_times := rfl
theorem g__law_back : G.fns i__law_back = some f__law_back := rfl
theorem g__law_more : G.fns i__law_more = some f__law_more := rfl
theorem g__law_often : G.fns i__law_often = some f__law_often := rfl
theorem g__law_led : G.fns i__law_led = some f__law_led := rfl
theorem g__law_lowest : G.fns i__law_lowest = some f__law_lowest := rfl
theorem g__law_unit : G.fns i__law_unit = some f__law_unit := rfl
theorem g__law_turning : G.fns i__law_turning = some f__law_turning := rfl
theorem g_is_whole_b : G.fns i_is_whole_b = some f_is_whole_b := rfl
theorem g_is_row_of_b : G.fns i_is_row_of_b = some f_is_row_of_b := rfl
theorem g__law_copied : G.fns i__law_copied = some f__law_copied := rfl
theorem g__law_row : G.fns i__law_row = some f__law_row := rfl
theorem g__law_row_on : G.fns i__law_row_on = some f__law_row_on := rfl
theorem g__law_odd : G.fns i__law_odd = some f__law_odd := rfl
theorem g__law_spoilt : G.fns i__law_spoilt = some f__law_spoilt := rfl
theorem g__law_is_turning : G.fns i__law_is_turning = some f__law_is_turning := rfl
theorem g_law_k17 : G.fns i_law_k17 = some f_law_k17 := rfl
theorem txt_ok : txt.okB = true := by kernel_rfl
end Z
namespace Z
def muT (f : Nat) : List Nat := match f with
  | 16 => [0, 2]
  | 24 => [2]
  | 26 => [1, 3]
  | 30 => [1]
  | 31 => [1]
  | 32 => [0]
  | 33 => [0, 3, 5]
  | 35 => [3, 8]
  | _ => []
def ioT (f : Nat) : List Nat := match f with
  | 16 => [0]
  | 26 => [1]
  | 30 => [1]
  | 31 => [1, 2]
  | 32 => [0]
  | 33 => [0]
  | _ => []
def VG : VT := ⟨txt.tab 1000, muT, ioT⟩
@[simp] theorem VG_fu : VG.G.fu = 1000 := rfl
theorem v_is_whole : VG.G.fns i_is_whole = some f_is_whole := rfl
@[simp] theorem mu_is_whole : VG.mu i_is_whole = [] := rfl
@[simp] theorem io_is_whole : VG.io i_is_whole = [] := rfl
theorem v_look_field : VG.G.fns i_look_field = some f_look_field := rfl
@[simp] theorem mu_look_field : VG.mu i_look_field = [] := rfl
@[simp] theorem io_look_field : VG.io i_look_field = [] := rfl
theorem v_difference_known : VG.G.fns i_difference_known = some f_difference_known := rfl
@[simp] theorem mu_difference_known : VG.mu i_difference_known = [] := rfl
@[simp] theorem io_difference_known : VG.io i_difference_known = [] := rfl
theorem v_product_known : VG.G.fns i_product_known = some f_product_known := rfl
@[simp] theorem mu_product_known : VG.mu i_product_known = [] := rfl
@[simp] theorem io_product_known : VG.io i_product_known = [] := rfl
theorem v_back_known : VG.G.fns i_back_known = some f_back_known := rfl
@[simp] theorem mu_back_known : VG.mu i_back_known = [] := rfl
@[simp] theorem io_back_known : VG.io i_back_known = [] := rfl
theorem v_row_times : VG.G.fns i_row_times = some f_row_times := rfl
@[simp] theorem mu_row_times : VG.mu i_row_times = [] := rfl
@[simp] theorem io_row_times : VG.io i_row_times = [] := rfl
theorem v_row_less : VG.G.fns i_row_less = some f_row_less := rfl
@[simp] theorem mu_row_less : VG.mu i_row_less = [] := rfl
@[simp] theorem io_row_less : VG.io i_row_less = [] := rfl
theorem v_lead_of : VG.G.fns i_lead_of = some f_lead_of := rfl
@[simp] theorem mu_lead_of : VG.mu i_lead_of = [] := rfl
@[simp] theorem io_lead_of : VG.io i_lead_of = [] := rfl
theorem v_scaled : VG.G.fns i_scaled = some f_scaled := rfl
@[simp] theorem mu_scaled : VG.mu i_scaled = [] := rfl
@[simp] theorem io_scaled : VG.io i_scaled = [] := rfl
theorem v_with_one : VG.G.fns i_with_one = some f_with_one := rfl
@[simp] theorem mu_with_one : VG.mu i_with_one = [] := rfl
@[simp] theorem io_with_one : VG.io i_with_one = [] := rfl
theorem v_lowest_known : VG.G.fns i_lowest_known = some f_lowest_known := rfl
@[simp] theorem mu_lowest_known : VG.mu i_lowest_known = [] := rfl
@[simp] theorem io_lowest_known : VG.io i_lowest_known = [] := rfl
theorem v_is_row_of : VG.G.fns i_is_row_of = some f_is_row_of := rfl
@[simp] theorem mu_is_row_of : VG.mu i_is_row_of = [] := rfl
@[simp] theorem io_is_row_of : VG.io i_is_row_of = [] := rfl
theorem v_is_large : VG.G.fns i_is_large = some f_is_large := rfl
@[simp] theorem mu_is_large : VG.mu i_is_large = [] := rfl
@[simp] theorem io_is_large : VG.io i_is_large = [] := rfl
theorem v_turning_known : VG.G.fns i_turning_known = some f_turning_known := rfl
@[simp] theorem mu_turning_known : VG.mu i_turning_known = [] := rfl
@[simp] theorem io_turning_known : VG.io i_turning_known = [] := rfl
theorem v_is_turning : VG.G.fns i_is_turning = some f_is_turning := rfl
@[simp] theorem mu_is_turning : VG.mu i_is_turning = [] := rfl
@[simp] theorem io_is_turning : VG.io i_is_turning = [] := rfl
theorem v__law_bag : VG.G.fns i__law_bag = some f__law_bag := rfl
@[simp] theorem mu__law_bag : VG.mu i__law_bag = [] := rfl
@[simp] theorem io__law_bag : VG.io i__law_bag = [] := rfl
theorem v__law_take : VG.G.fns i__law_take = some f__law_take := rfl
@[simp] theorem mu__law_take : VG.mu i__law_take = [0, 2] := rfl
@[simp] theorem io__law_take : VG.io i__law_take = [0] := rfl
theorem v_sum_known : VG.G.fns i_sum_known = some f_sum_known := rfl
@[simp] theorem mu_sum_known : VG.mu i_sum_known = [] := rfl
@[simp] theorem io_sum_known : VG.io i_sum_known = [] := rfl
theorem v_difference_known_b : VG.G.fns i_difference_known_b = some f_difference_known_b := rfl
@[simp] theorem mu_difference_known_b : VG.mu i_difference_known_b = [] := rfl
@[simp] theorem io_difference_known_b : VG.io i_difference_known_b = [] := rfl
theorem v__law_times : VG.G.fns i__law_times = some f__law_times := rfl
@[simp] theorem mu__law_times : VG.mu i__law_times = [] := rfl
@[simp] theorem io__law_times : VG.io i__law_times = [] := rfl
theorem v__law_back : VG.G.fns i__law_back = some f__law_back := rfl
@[simp] theorem mu__law_back : VG.mu i__law_back = [] := rfl
@[simp] theorem io__law_back : VG.io i__law_back = [] := rfl
theorem v__law_more : VG.G.fns i__law_more = some f__law_more := rfl
@[simp] theorem mu__law_more : VG.mu i__law_more = [] := rfl
@[simp] theorem io__law_more : VG.io i__law_more = [] := rfl
theorem v__law_often : VG.G.fns i__law_often = some f__law_often := rfl
@[simp] theorem mu__law_often : VG.mu i__law_often = [] := rfl
@[simp] theorem io__law_often : VG.io i__law_often = [] := rfl
theorem v__law_led : VG.G.fns i__law_led = some f__law_led := rfl
@[simp] theorem mu__law_led : VG.mu i__law_led = [] := rfl
@[simp] theorem io__law_led : VG.io i__law_led = [] := rfl
theorem v__law_lowest : VG.G.fns i__law_lowest = some f__law_lowest := rfl
@[simp] theorem mu__law_lowest : VG.mu i__law_lowest = [2] := rfl
@[simp] theorem io__law_lowest : VG.io i__law_lowest = [] := rfl
theorem v__law_unit : VG.G.fns i__law_unit = some f__law_unit := rfl
@[simp] theorem mu__law_unit : VG.mu i__law_unit = [] := rfl
@[simp] theorem io__law_unit : VG.io i__law_unit = [] := rfl
theorem v__law_turning : VG.G.fns i__law_turning = some f__law_turning := rfl
@[simp] theorem mu__law_turning : VG.mu i__law_turning = [1, 3] := rfl
@[simp] theorem io__law_turning : VG.io i__law_turning = [1] := rfl
theorem v_is_whole_b : VG.G.fns i_is_whole_b = some f_is_whole_b := rfl
@[simp] theorem mu_is_whole_b : VG.mu i_is_whole_b = [] := rfl
@[simp] theorem io_is_whole_b : VG.io i_is_whole_b = [] := rfl
theorem v_is_row_of_b : VG.G.fns i_is_row_of_b = some f_is_row_of_b := rfl
@[simp] theorem mu_is_row_of_b : VG.mu i_is_row_of_b = [] := rfl
@[simp] theorem io_is_row_of_b : VG.io i_is_row_of_b = [] := rfl
theorem v__law_copied : VG.G.fns i__law_copied = some f__law_copied := rfl
@[simp] theorem mu__law_copied : VG.mu i__law_copied = [] := rfl
@[simp] theorem io__law_copied : VG.io i__law_copied = [] := rfl
theorem v__law_row : VG.G.fns i__law_row = some f__law_row := rfl
@[simp] theorem mu__law_row : VG.mu i__law_row = [1] := rfl
@[simp] theorem io__law_row : VG.io i__law_row = [1] := rfl
theorem v__law_row_on : VG.G.fns i__law_row_on = some f__law_row_on := rfl
@[simp] theorem mu__law_row_on : VG.mu i__law_row_on = [1] := rfl
@[simp] theorem io__law_row_on : VG.io i__law_row_on = [1, 2] := rfl
theorem v__law_odd : VG.G.fns i__law_odd = some f__law_odd := rfl
@[simp] theorem mu__law_odd : VG.mu i__law_odd = [0] := rfl
@[simp] theorem io__law_odd : VG.io i__law_odd = [0] := rfl
theorem v__law_spoilt : VG.G.fns i__law_spoilt = some f__law_spoilt := rfl
@[simp] theorem mu__law_spoilt : VG.mu i__law_spoilt = [0, 3, 5] := rfl
@[simp] theorem io__law_spoilt : VG.io i__law_spoilt = [0] := rfl
theorem v__law_is_turning : VG.G.fns i__law_is_turning = some f__law_is_turning := rfl
@[simp] theorem mu__law_is_turning : VG.mu i__law_is_turning = [] := rfl
@[simp] theorem io__law_is_turning : VG.io i__law_is_turning = [] := rfl
theorem v_law_k17 : VG.G.fns i_law_k17 = some f_law_k17 := rfl
@[simp] theorem mu_law_k17 : VG.mu i_law_k17 = [3, 8] := rfl
@[simp] theorem io_law_k17 : VG.io i_law_k17 = [] := rfl
end Z
namespace Z
open PySem A
theorem c_is_whole (d : Nat) (x : Int) : vP VG (d + 1) i_is_whole [.int x] = .ok (.bool true) top0 := by
  rw [vP_run v_is_whole rfl]
  simp [f_is_whole, vstart]
theorem c_is_whole__f (d : Nat) {k : Q4} (x : F k) : vP VG (d + 1) i_is_whole [pF x] = .ok (.bool true) top0 := c_is_whole d _
theorem c_is_whole__any (d : Nat) (p : PyData) {j m : Nat} (h : th j m p = true) : vP VG (d + 1) i_is_whole [p] = .ok (.bool (intB p)) top0 := by
  cases j with
  | zero => simp [th] at h
  | succ j =>
  rw [vP_run v_is_whole rfl]
  cases p with
  | dict xs => simp [th] at h
  | _ => simp [f_is_whole, vstart, isiP, intB]

theorem c_look_field (d : Nat) (k : Q4) : vP VG (d + 2) i_look_field [pQ k] = .ok .none top0 := by cases k <;> kernel_rfl
theorem c_difference_known (d : Nat) {k : Q4} (a b : F k) : vP VG (d + 1) i_difference_known [pQ k, pF a, pF b] = .ok (pF (a - b)) top0 := chk2_ok (g := fun _ a b => a - b) (by kernel_rfl) a b
theorem c_difference_known__n (d : Nat) {k : Q4} (b : F k) : vP VG (d + 1) i_difference_known [pQ k, .int 0, pF b] = .ok (pF (-b)) top0 := by
  have := c_difference_known d (0 : F k) b
  rw [pF_zero] at this
  rw [this, show (0 : F k) - b = -b by grind]
theorem c_product_known (d : Nat) {k : Q4} (a b : F k) : vP VG (d + 1) i_product_known [pQ k, pF a, pF b] = .ok (pF (a * b)) top0 := chk2_ok (g := fun _ a b => a * b) (by kernel_rfl) a b
theorem c_back_known (d : Nat) {k : Q4} (a : F k) (ha : a ≠ 0) : vP VG (d + 2) i_back_known [pQ k, pF a] = .ok (pF a⁻¹) top0 := chk1_ok (g := fun _ a => a⁻¹) (by kernel_rfl) a ha
theorem c_row_times (d : Nat) {k : Q4} {n : Nat} (c : F k) (v : V k n) (hn : n ≤ 100) : vP VG (d + 2) i_row_times [pQ k, pF c, pV v] = .ok (pV (sm c v)) top0 := by
  have hs : SL n = true := y_SL_le (by omega)
  rw [vP_run v_row_times rfl]
  simp [f_row_times, vstart, hs]
  rw [pL]
  rw [vcl_map (fun _ _ => by simp [cturn_ap, c_product_known, *]; first | exact ⟨rfl, rfl⟩ | rfl)]
  simp
  rfl
theorem c_row_less (d : Nat) {k : Q4} {n : Nat} (u : V k n) (c : F k) (v : V k n) (hn : n ≤ 100) : vP VG (d + 2) i_row_less [pQ k, pV u, pF c, pV v] = .ok (pV (u - sm c v)) top0 := by
  have hs : SL n = true := y_SL_le (by omega)
  rw [vP_run v_row_less rfl]
  simp [f_row_less, vstart, hs]
  rw [vcl_map (fun _ _ => by simp [cturn_ap, c_product_known, c_difference_known, *]; first | exact ⟨rfl, rfl⟩ | rfl)]
  simp
  rfl
theorem c_lead_of (d : Nat) {k : Q4} {n : Nat} (v : V k n) : vP VG (d + 1) i_lead_of [pV v] = .ok (pO (lead v)) top0 := by
  rw [vP_run v_lead_of rfl]
  simp [f_lead_of, vstart]
  rw [enu_L, vfl_find _ (fun i => decide (v i ≠ 0)) (fun i => .int (i.val : Int)) (fun i => ⟨.sh, true⟩) (fun i => [some (pV v, ⟨.sh, true⟩), some (.int (i.val : Int), ⟨.sh, true⟩), some (pF (v i), ⟨.sh, true⟩)]) _ (fun i _ h => by simp at h; simp [lturn_ap, h]) (fun i _ h => by simp at h; simp [lturn_ap, h])]
  rw [show (List.finRange n).find? (fun i => decide (v i ≠ 0)) = lead v from rfl]
  cases lead v <;> simp
theorem c_scaled (d : Nat) {k : Q4} {n : Nat} (v : V k n) (hn : n ≤ 100) {i : Fin n} (hv : lead v = some i) : vP VG (d + 3) i_scaled [pQ k, pV v] = .ok (pV (sm (v i)⁻¹ v)) top0 := by
  have h0 : v i ≠ 0 := (lead_some hv).1
  rw [vP_run v_scaled rfl]
  simp [f_scaled, vstart, c_lead_of, hv, idx_V, c_back_known _ _ h0, c_row_times _ _ v hn]
theorem c_with_one (d : Nat) {k : Q4} {n : Nat} (vs : List (V k (n + 1))) (row : V k (n + 1)) (hn : n ≤ 90) (hv : ∀ v ∈ vs, lead v ≠ none) (hl : vs.length ≤ 1000000) :
    vP VG (d + 4) i_with_one [pQ k, .list (vs.map pV), pV row] = .ok (.list ((withOne ge vs row).map pV)) (if lead (less vs row) = none then ⟨.sh, false⟩ else top0) := by
  have hn' : n + 1 ≤ 100 := by omega
  have hs : SL (vs.length + 1) = true := y_SL_le (by omega)
  have hs2 : SL vs.length = true := y_SL_le (by omega)
  rw [vP_run v_with_one rfl]
  simp [f_with_one, vstart]
  rw [vfl_fold (fun s => [some (pQ k, ⟨.sh, true⟩), some (.list (vs.map pV), ⟨.sh, false⟩), some (pV s, ⟨.sh, true⟩), none, none]) pV lstep vs row fun s x hx => by
    obtain ⟨i, hi⟩ := Option.ne_none_iff_exists'.mp (hv x hx)
    simp [lturn_ap, c_lead_of, hi, idx_V, c_row_less _ _ _ _ hn', lstep], less_eq]
  cases h : lead (less vs row) with
  | none => simp [c_lead_of, h, withOne]
  | some i =>
    have h2 := lead_sc h
    simp [c_lead_of, h, withOne, c_scaled _ _ hn' h, h2, hs2]
    rw [vcl_map (fun _ _ => by simp [cturn_ap, idx_V, c_row_less _ _ _ _ hn', *]; first | exact ⟨rfl, rfl⟩ | rfl)]
    simp [hs]
theorem c_lowest_known (d : Nat) {k : Q4} {n : Nat} (vs : List (V k (n + 1))) {p : PyData} (hp : seqP p = some (vs.map pV)) (hn : n ≤ 90) (hl : vs.length ≤ 1000000) :
    vP VG (d + 5) i_lowest_known [pQ k, p] = .ok (.list ((lowest ge vs).map pV)) top0 := by
  rw [vP_run v_lowest_known rfl]
  simp [f_lowest_known, vstart, hp]
  rw [(vfl_foldL (fun s => [some (pQ k, ⟨.sh, true⟩), some (p, ⟨.sh, pur p⟩), some (.list (s.map pV), ⟨.sh, true⟩), none]) pV (withOne ge) (fun s => s.length) (fun s => ∃ L, Low L ∧ s = rows L) 1000000 ?_ vs [] _ ?_ ?_ ?_).1]
  · simp
    rfl
  · rintro s x hs ⟨L, h1, rfl⟩
    have hv := low_leads h1
    have h3 := withOne_len (rows L) x
    obtain ⟨M, m1, m2, _⟩ := withOne_ok gr_ge h1 x
    refine ⟨?_, h3, M, m1, m2⟩
    clear m2 h1
    generalize rows L = R at *
    cases hz : lead (less R x) <;> simp [lturn_ap, c_with_one _ _ x hn hv (by omega), hz]
  · simpa using hl
  · exact ⟨[], low_nil, rfl⟩
  · rfl
theorem c_is_row_of (d : Nat) {k : Q4} {n : Nat} (v : V k n) (hn : n ≤ 100) : vP VG (d + 2) i_is_row_of [pQ k, pV v, .int n] = .ok (.bool true) top0 := by
  have hs : SL n = true := y_SL_le (by omega)
  rw [vP_run v_is_row_of rfl]
  simp [f_is_row_of, vstart, hs]
  rw [pL, vcl_map (b := fun _ => .bool true) (kk := fun _ => top0) fun i _ => ?_]
  · simp
  · have := F.lt (v i)
    simp [cturn_ap, pF, c_is_whole, this]
theorem c_is_row_of__any (d : Nat) {k : Q4} {n m j : Nat} (hm : m ≤ 60) (p : PyData) (h : th j m p = true) : vP VG (d + 2) i_is_row_of [pQ k, p, .int n] = .ok (.bool (rowB k n p)) top0 := by
  cases j with
  | zero => simp [th] at h
  | succ j =>
  rw [vP_run v_is_row_of rfl]
  cases p with
  | tuple xs =>
    obtain ⟨hl, hx⟩ := th_tup.mp h
    have hs : SL xs.length = true := y_SL_le (by omega)
    by_cases hn : xs.length = n
    · have hs : SL n = true := y_SL_le (by omega)
      simp [f_is_row_of, vstart, isiP, hs, hn, rowB]
      rw [vcl_raw (b := fun x => .bool (cellB k x)) (kk := fun _ => top0) fun x hx2 => ?_]
      · simp
      · have e := c_is_whole__any d x (hx x hx2)
        cases x with
        | int i =>
          by_cases h0 : 0 ≤ i <;> simp [cturn_ap, e, intB, cellB, h0]
        | _ => simp [cturn_ap, e, intB, cellB]
    · have hn2 : ¬ (xs.length : Int) = (n : Int) := by omega
      simp [f_is_row_of, vstart, isiP, hs, hn, hn2, rowB]
  | dict xs => simp [th] at h
  | _ => simp [f_is_row_of, vstart, isiP, rowB]

theorem c_is_large (d : Nat) {k : Q4} (T : M4 k 4) : vP VG (d + 3) i_is_large [pQ k, pM T] = .ok (.bool true) top0 := by
  have hr : ∀ v : V k 4, vP VG (d + 2) i_is_row_of [pQ k, pV v, .int 4] = .ok (.bool true) top0 := fun v => c_is_row_of _ v (by decide)
  rw [vP_run v_is_large rfl]
  simp [f_is_large, vstart]
  rw [vcl_map (b := fun _ => .bool true) (kk := fun _ => top0) fun v _ => by simp [cturn_ap, hr]]
  simp
theorem c_is_large__any (d : Nat) {k : Q4} {m j : Nat} (hm : m ≤ 60) (p : PyData) (h : th j m p = true) : vP VG (d + 3) i_is_large [pQ k, p] = .ok (.bool (largeB k p)) top0 := by
  cases j with
  | zero => simp [th] at h
  | succ j =>
  rw [vP_run v_is_large rfl]
  cases p with
  | tuple xs =>
    obtain ⟨hl, hx⟩ := th_tup.mp h
    by_cases hn : xs.length = 4
    · have hs : SL 4 = true := rfl
      obtain ⟨a, b, c, e, rfl⟩ := list4 hn
      have er : ∀ x ∈ [a, b, c, e], vP VG (d + 2) i_is_row_of [pQ k, x, .int 4] = .ok (.bool (rowB k 4 x)) top0 := fun x hx2 => c_is_row_of__any _ hm x (hx x hx2)
      have e1 := er a (by simp)
      have e2 := er b (by simp)
      have e3 := er c (by simp)
      have e4 := er e (by simp)
      have al : ∀ x y z w, bltP .all [.list [.bool x, .bool y, .bool z, .bool w]] = some (.bool (x && (y && (z && w)))) := fun x y z w => by cases x <;> cases y <;> cases z <;> cases w <;> rfl
      simp [f_is_large, vstart, isiP, hs, vcl_cons, cturn_ap, e1, e2, e3, e4, al, largeB]
    · have hn2 : ¬ (xs.length : Int) = 4 := by omega
      have hb : largeB k (.tuple xs) = false := by
        unfold largeB
        split
        · rename_i e
          simp only [PyData.tuple.injEq] at e
          rw [e] at hn; exact absurd rfl hn
        · rfl
      simp [f_is_large, vstart, isiP, hn, hn2, hb]
  | dict xs => simp [th] at h
  | _ => simp [f_is_large, vstart, isiP, largeB]

theorem c_turning_known (d : Nat) {k : Q4} (T : M4 k 4) (h : Tn T) : vP VG (d + 6) i_turning_known [pQ k, pM T] = .ok (.bool true) top0 := by
  have e := c_lowest_known d (k := k) (n := 3) (rowsT T) (p := pM T) rfl (by decide) (by simp [rowsT])
  have e2 := tn_iff.mp h
  rw [vP_run v_turning_known rfl]
  simp [f_turning_known, vstart, c_is_large, e, e2]
theorem c_turning_known__any (d : Nat) {k : Q4} {m j : Nat} (hm : m ≤ 60) (p : PyData) (h : th j m p = true) : vP VG (d + 6) i_turning_known [pQ k, p] = .ok (.bool (turB k p)) top0 := by
  rw [vP_run v_turning_known rfl]
  have el : vP VG (d + 5) i_is_large [pQ k, p] = .ok (.bool (largeB k p)) top0 := c_is_large__any _ hm p h
  cases hb : largeB k p with
  | true =>
    obtain ⟨T, rfl⟩ := large_of hb
    have e := c_lowest_known d (k := k) (n := 3) (rowsT T) (p := pM T) rfl (by decide) (by simp [rowsT])
    rw [hb] at el
    rw [turB_M]
    simp [f_turning_known, vstart, el, e]
    omega
  | false =>
    rw [hb] at el
    rw [turB_no hb]
    simp [f_turning_known, vstart, el]

theorem c_is_turning (d : Nat) {k : Q4} {m j : Nat} (hm : m ≤ 60) (p : PyData) (h : th j m p = true) : vP VG (d + 7) i_is_turning [pQ k, p] = .ok (.bool (turB k p)) top0 := by
  rw [vP_run v_is_turning rfl]
  simp [f_is_turning, vstart, c_look_field, c_turning_known__any _ hm p h]

theorem c__law_bag (d : Nat) (ns : List Int) (k : Nat) (hk : k ≤ 1000) : vP VG (d + 1) i__law_bag [.dict (roK ns), .int k] = .ok (pB (mkB ns k)) top0 := by
  have hp := pr_ok k
  have hm1 : okm 104729 (k : Int) = true := okm_l (by decide) (by decide)
  have hp10 : okp 10 18 = true := by decide
  have hp5 : okp (cellAt ns k % 2147483647 + 104729 * (k : Int) + 7) 5 = true := okp_is (by decide) (by decide) (by omega) (by omega)
  rw [vP_run v__law_bag rfl]
  rw [pB, mkB_g, mkB_m]
  have hpi := idx_pr k
  generalize pr8 k = P at *
  by_cases hlt : k < ns.length
  · have h1 : (k : Int) < (ns.length : Int) := by omega
    simp [f__law_bag, vstart, hlt, hp10, hm1]
    generalize (if cellAt ns k < 0 then -cellAt ns k else cellAt ns k) = ab
    by_cases hb : 1000000000000000000 ≤ ab <;> simp [hb, hm1, hp5, hp.1, hpi]
  · have h1 : ¬ (k : Int) < (ns.length : Int) := by omega
    have h0 : cellAt ns k = 0 := by simp [cellAt, hlt]
    have hp6 : okp (104729 * (k : Int) + 7) 5 = true := okp_is (by decide) (by decide) (by omega) (by omega)
    simp [f__law_bag, vstart, hlt, hp10, hm1, h0, hp6, hp.1, hpi]
theorem c__law_take (d : Nat) (b : Bg) {n : Int} (hn : 0 < n) (hn1 : n < 1073741824) : vI VG (d + 1) i__law_take [(pB b, top0), (.int n, ⟨.sh, true⟩)] = .ok (.int (tkD b n)) top0 [some (pB (tkN b n), top0), some (.int n, ⟨.sh, true⟩)] := by
  rw [vI_run v__law_take rfl]
  by_cases hg : 0 < b.g
  · simp [f__law_take, vstart, pB, hg, hn, hn1, tkD, tkN]
  · have hm := b.h0
    have hm1 := b.h1
    have hk1 : okm b.m 48271 = true := okm_r (by decide) (by decide)
    have hk2 : okp ((b.m * 48271 + 11) % 2147483647 / 8) 3 = true := okp_is (by decide) (by decide) (by omega) (by omega)
    simp [f__law_take, vstart, pB, hg, hn, hn1, hk1, hk2, tkD, tkN]
theorem c_sum_known (d : Nat) {k : Q4} (a b : F k) : vP VG (d + 1) i_sum_known [pQ k, pF a, pF b] = .ok (pF (a + b)) top0 := chk2_ok (g := fun _ a b => a + b) (by kernel_rfl) a b
theorem c_sum_known__n (d : Nat) {k : Q4} (b : F k) : vP VG (d + 1) i_sum_known [pQ k, .int 0, pF b] = .ok (pF b) top0 := by
  have := c_sum_known d (0 : F k) b
  rw [pF_zero] at this
  rw [this, show (0 : F k) + b = b by grind]
theorem c_difference_known_b (d : Nat) {k : Q4} (a b : F k) : vP VG (d + 1) i_difference_known_b [pQ k, pF a, pF b] = .ok (pF (a - b)) top0 := chk2_ok (g := fun _ a b => a - b) (by kernel_rfl) a b
theorem c_difference_known_b__n (d : Nat) {k : Q4} (b : F k) : vP VG (d + 1) i_difference_known_b [pQ k, .int 0, pF b] = .ok (pF (-b)) top0 := by
  have := c_difference_known_b d (0 : F k) b
  rw [pF_zero] at this
  rw [this, show (0 : F k) - b = -b by grind]
theorem c__law_times (d : Nat) {k : Q4} (a b : F k) : vP VG (d + 1) i__law_times [pQ k, pF a, pF b] = .ok (pF (a * b)) top0 := chk2_ok (g := fun _ a b => a * b) (by kernel_rfl) a b
theorem c__law_back (d : Nat) {k : Q4} (a : F k) (ha : a ≠ 0) : vP VG (d + 2) i__law_back [pQ k, pF a] = .ok (pF a⁻¹) top0 := chk1_ok (g := fun _ a => a⁻¹) (by kernel_rfl) a ha
theorem c__law_more (d : Nat) {k : Q4} {n : Nat} (u : V k n) (c : F k) (v : V k n) (hn : n ≤ 100) : vP VG (d + 2) i__law_more [pQ k, pV u, pF c, pV v] = .ok (pV (u + sm c v)) top0 := by
  have hs : SL n = true := y_SL_le (by omega)
  rw [vP_run v__law_more rfl]
  simp [f__law_more, vstart, hs]
  rw [vcl_map (fun _ _ => by simp [cturn_ap, c__law_times, c_sum_known, *]; first | exact ⟨rfl, rfl⟩ | rfl)]
  simp
  rfl
theorem c__law_often (d : Nat) {k : Q4} {n : Nat} (c : F k) (v : V k n) (hn : n ≤ 100) : vP VG (d + 2) i__law_often [pQ k, pF c, pV v] = .ok (pV (sm c v)) top0 := by
  have hs : SL n = true := y_SL_le (by omega)
  rw [vP_run v__law_often rfl]
  simp [f__law_often, vstart, hs]
  rw [pL]
  rw [vcl_map (fun _ _ => by simp [cturn_ap, c__law_times, *]; first | exact ⟨rfl, rfl⟩ | rfl)]
  simp
  rfl
theorem c__law_often__l (d : Nat) {k : Q4} {n : Nat} (c : F k) (v : V k n) (hn : n ≤ 100) : vP VG (d + 2) i__law_often [pQ k, pF c, .list (pL v)] = .ok (pV (sm c v)) top0 := by
  have hs : SL n = true := y_SL_le (by omega)
  rw [vP_run v__law_often rfl]
  simp [f__law_often, vstart, hs]
  rw [pL]
  rw [vcl_map (fun _ _ => by simp [cturn_ap, c__law_times, *]; first | exact ⟨rfl, rfl⟩ | rfl)]
  simp
  rfl
theorem c__law_take__q (d : Nat) (b : Bg) {k : Q4} : vI VG (d + 1) i__law_take [(pB b, top0), (pQ k, ⟨.sh, true⟩)] = .ok (pF (tkF k b)) top0 [some (pB (tkN b k.n), top0), some (pQ k, ⟨.sh, true⟩)] := by
  rw [c__law_take d b (n := k.n) (by cases k <;> decide) (by cases k <;> decide), pF_tk]
theorem c__law_take__n (d : Nat) (b : Bg) {n : Nat} (hn : 0 < n) (h1 : n < 1073741824) : vI VG (d + 1) i__law_take [(pB b, top0), (.int (n : Int), ⟨.sh, true⟩)] = .ok (.int (tkn b n : Int)) top0 [some (pB (tkN b n), top0), some (.int (n : Int), ⟨.sh, true⟩)] := by
  rw [c__law_take d b (n := (n : Int)) (by omega) (by omega), tkn_eq b hn]
theorem c__law_take__m (d : Nat) (b : Bg) {k : Q4} : vI VG (d + 1) i__law_take [(pB b, top0), (.int ((k.n : Int) - 1), ⟨.sh, true⟩)] = .ok (.int (tkD b ((k.n : Int) - 1))) top0 [some (pB (tkN b ((k.n : Int) - 1)), top0), some (.int ((k.n : Int) - 1), ⟨.sh, true⟩)] := by
  rw [c__law_take d b (n := (k.n : Int) - 1) (by cases k <;> decide) (by cases k <;> decide)]
theorem c__law_led (d : Nat) {k : Q4} {n : Nat} (cs : List (F k)) {v : V k n} (vs : List (V k n)) {p : PyData} (hp : seqP p = some (vs.map pV)) (h0 : idxP p (.int 0) = some (pV v)) (hn : n ≤ 100) : vP VG (d + 3) i__law_led [pQ k, .tuple (cs.map pF), p] = .ok (pV (ledV cs vs)) top0 := by
  have hs : SL n = true := y_SL_le (by omega)
  rw [vP_run v__law_led rfl]
  simp [f__law_led, vstart, hs, hp, h0]
  rw [pL, vcl_map (b := fun _ => .int 0) (kk := fun _ => top0) fun i _ => by simp [cturn_ap]]
  simp [pV_0 (k := k), zipP, hp]
  rw [vfl_fold (fun s => [some (pQ k, ⟨.sh, true⟩), some (.tuple (cs.map pF), ⟨.sh, true⟩), some (p, ⟨.sh, pur p⟩), some (pV s, ⟨.sh, true⟩), none, none, none]) (fun q : F k × V k n => .tuple [pF q.1, pV q.2]) (fun s q => s + sm q.1 q.2) _ (0 : V k n) fun s q _ => by simp [lturn_ap, c__law_more _ _ _ _ hn]]
  simp
  rfl
theorem c__law_led__t (d : Nat) {k : Q4} (v : V k 4) (T : M4 k 4) : vP VG (d + 3) i__law_led [pQ k, pV v, pM T] = .ok (pV (app v T)) top0 := by
  have := c__law_led d (vl v) (rowsT T) (p := pM T) rfl rfl (by decide)
  rwa [pV_vl, led_app] at this

theorem c__law_lowest (d : Nat) {k : Q4} {n : Nat} (vs : List (V k n)) (hn : n ≤ 100) (hl : vs.length ≤ 1000000) : vP VG (d + 3) i__law_lowest [pQ k, .list (vs.map pV)] = .ok (.list ((lawLow vs).map pV)) top0 := by
  have hs : SL n = true := y_SL_le (by omega)
  have hsv : SL vs.length = true := y_SL_le (by omega)
  rcases hvs : vs with _ | ⟨v, ws⟩
  · rw [lawLow_nil]; cases k <;> kernel_rfl
  rw [← hvs, vP_run v__law_lowest rfl]
  simp [f__law_lowest, vstart, hs, hsv]
  rw [vcl_map (fun _ _ => by simp [cturn_ap, *]; first | exact ⟨rfl, rfl⟩ | rfl)]
  have h0 : idxP (.list (vs.map pV)) (.int 0) = some (pV v) := by rw [hvs]; simp
  have hne : vs ≠ [] := by rw [hvs]; simp
  have hi : (-4611686018427387904 : Int) ≤ n ∧ (n : Int) < 4611686018427387904 := by omega
  simp [h0, hne, hi]
  rw [rng_fin]
  rw [(vfl_foldL (fun s : List (V k n) × List (V k n) => [some (pQ k, ⟨.sh, true⟩), some (.list (vs.map pV), ⟨.sh, false⟩), some (.list (s.1.map pV), top0), some (.list (s.2.map pV), ⟨.sh, true⟩), none, none, none, none]) (fun i : _root_.Fin n => .int (i.val : Int)) lawStep (fun s => s.2.length) (fun s => s.1.length ≤ 1000000) 100 ?_ (List.finRange n) (vs, []) _ ?_ ?_ ?_).1]
  · simp
    rfl
  · rintro ⟨s1, s2⟩ i h1 h2
    simp only at h1 h2
    have hs1 : SL s1.length = true := y_SL_le (by omega)
    have hs2 : SL s2.length = true := y_SL_le (by omega)
    have hs3 : SL (s2.length + 1) = true := y_SL_le (by omega)
    simp [lturn_ap, hs1]
    rw [vcl_filter (b := pV) (kk := fun _ => ⟨.sh, true⟩) (P := fun r : V k n => decide (r i ≠ 0)) fun r _ => by by_cases h : r i = 0 <;> simp [cturn_ap, idx_V, h]]
    rcases hf : s1.filter (fun r => decide (r i ≠ 0)) with _ | ⟨s, rest⟩
    · rw [hf, lawStep_nil hf]
      simp [h2]
    · have hm : s ∈ s1 ∧ s i ≠ 0 := by
        have : s ∈ s1.filter (fun r => decide (r i ≠ 0)) := by rw [hf]; exact .head _
        simpa using List.mem_filter.mp this
      have hl1 := List.length_erase_of_mem hm.1
      have hse : SL (s1.erase s).length = true := y_SL_le (by omega)
      rw [lawStep_cons hf]
      have hW : s1.filter (fun r => decide (r i ≠ 0)) ≠ [] := by rw [hf]; simp
      have hW0 : idxP (.list ((s1.filter (fun r => decide (r i ≠ 0))).map pV)) (.int 0) = some (pV s) := by rw [hf]; simp
      generalize s1.filter (fun r => decide (r i ≠ 0)) = W at *
      simp [hW, hW0, idx_V, c__law_back _ _ hm.2, c__law_often _ _ _ hn, metP_remove (f := pV) (show 2 ≤ 59 by decide) hm.1, hse]
      rw [vcl_map (fun _ _ => by simp [cturn_ap, idx_V, c_difference_known_b__n, c__law_more _ _ _ _ hn, *]; first | exact ⟨rfl, rfl⟩ | rfl)]
      simp [hs2]
      rw [vcl_map (fun _ _ => by simp [cturn_ap, idx_V, c_difference_known_b__n, c__law_more _ _ _ _ hn, *]; first | exact ⟨rfl, rfl⟩ | rfl)]
      simp [hs3, add_neg_sm]
      omega
  · simp; omega
  · exact hl
  · rfl
theorem c__law_unit (d : Nat) {k : Q4} : vP VG (d + 1) i__law_unit [.int 4] = .ok (.list ((rowsT (uT : M4 k 4)).map pV)) top0 := by cases k <;> kernel_rfl
theorem c__law_turning (d : Nat) {k : Q4} (b : Bg) (n : Nat) (hn : n ≤ 100) : ∃ (T : M4 k 4) (b' : Bg), Tn T ∧ vI VG (d + 3) i__law_turning [(pQ k, ⟨.sh, true⟩), (pB b, top0), (.int (n : Int), ⟨.sh, true⟩)] = .ok (pM T) top0 [some (pQ k, ⟨.sh, true⟩), some (pB b', top0), some (.int (n : Int), ⟨.sh, true⟩)] := by
  rw [vI_run v__law_turning rfl]
  have hn1 : (0 : Int) < (n : Int) + 1 ∧ (n : Int) + 1 < 1073741824 := by omega
  have hN : tkD b ((n : Int) + 1) = (tkn b (n + 1) : Int) := tkn_eq b (n := n + 1) (by omega)
  have hNl := tkn_lt b (n := n + 1) (by omega)
  have hr : (-4611686018427387904 : Int) ≤ (tkn b (n + 1) : Int) ∧ ((tkn b (n + 1) : Nat) : Int) < 4611686018427387904 := by omega
  simp [f__law_turning, vstart, c__law_unit (k := k), c__law_take, hn1, hN, hr]
  generalize hT : lturn (vP VG (d + 2)) (vI VG (d + 2)) VG.io [1, 3] [1] 1000 (.nm 4) true _ = turn
  have step : ∀ x ∈ (List.range (tkn b (n + 1))).map (fun k : Nat => PyData.int (k : Int)), ∀ v, (∃ (b : Bg) (ws : List (V k 4)), v = [some (pQ k, ⟨.sh, true⟩), some (pB b, top0), some (.int (n : Int), ⟨.sh, true⟩), some (.list (ws.map pV), top0), none, none, none, none, none] ∧ Same ws (rowsT uT) ∧ ws.length = 4) →
      ∃ v1, nxs [some (pQ k, ⟨.sh, true⟩), some (pB (tkN b ((n : Int) + 1)), top0), some (.int (n : Int), ⟨.sh, true⟩), some (.list ((rowsT (uT : M4 k 4)).map pV), top0), none, none, none, none, none] (turn x v) = .nx v1 ∧ (∃ (b : Bg) (ws : List (V k 4)), v1 = [some (pQ k, ⟨.sh, true⟩), some (pB b, top0), some (.int (n : Int), ⟨.sh, true⟩), some (.list (ws.map pV), top0), none, none, none, none, none] ∧ Same ws (rowsT uT) ∧ ws.length = 4) := by
    rintro x hx v ⟨b, ws, rfl, hs, hw⟩
    obtain ⟨j, _, rfl⟩ := List.mem_map.mp hx
    subst hT
    have hI : tkD b 4 = (tkn b 4 : Int) := tkn_eq b (n := 4) (by decide)
    have hIl := tkn_lt b (n := 4) (by decide)
    have hJ : tkD (tkN b 4) 3 = (tkn (tkN b 4) 3 : Int) := tkn_eq _ (n := 3) (by decide)
    have hJl := tkn_lt (tkN b 4) (n := 3) (by decide)
    have hM : ((tkn b 4 : Int) + 1 + (tkn (tkN b 4) 3 : Int)) % 4 = (((tkn b 4 + (tkn (tkN b 4) 3 + 1)) % 4 : Nat) : Int) := by omega
    have hne := mod_ne (a := tkn b 4) (c := tkn (tkN b 4) 3 + 1) (m := 4) hIl (by omega) (by omega)
    have hMl : (tkn b 4 + (tkn (tkN b 4) 3 + 1)) % 4 < 4 := Nat.mod_lt _ (by decide)
    generalize (tkn b 4 + (tkn (tkN b 4) 3 + 1)) % 4 = J at *
    generalize tkn b 4 = I at *
    rw [← hw] at hIl hMl
    by_cases h0 : tkD (tkN (tkN (tkN b 4) 3) ((k.n : Int) - 1)) 4 < 2
    · refine ⟨_, ?_, tkN (tkN (tkN (tkN b 4) 3) ((k.n : Int) - 1)) 4, ws.set I (ws[I] + sm (nzF k (tkN (tkN b 4) 3)) ws[J]), rfl, (same_add hIl hMl (Ne.symm hne) _).trans hs, by simpa using hw⟩
      simp [ixN_nat hIl, ixN_nat hMl, lturn_ap, c__law_take, hI, hJ, hM, h0, c__law_take__m, pF_nz, idxM hIl, idxM hMl, c__law_more _ _ _ _ (show 4 ≤ 100 by decide), hIl]
    · by_cases h1 : tkD (tkN (tkN (tkN b 4) 3) ((k.n : Int) - 1)) 4 = 2
      · refine ⟨_, ?_, tkN (tkN (tkN (tkN b 4) 3) ((k.n : Int) - 1)) 4, (ws.set I ws[J]).set J ws[I], rfl, (same_swap hIl hMl).trans hs, by simpa using hw⟩
        simp [ixN_nat hIl, ixN_nat hMl, lturn_ap, c__law_take, hI, hJ, hM, h1, c__law_take__m, pF_nz, idxM hIl, idxM hMl, hIl, hMl]
      · refine ⟨_, ?_, tkN (tkN (tkN (tkN b 4) 3) ((k.n : Int) - 1)) 4, ws.set I (sm (nzF k (tkN (tkN b 4) 3)) ws[I]), rfl, (same_mul hIl (nzF_ne _ _)).trans hs, by simpa using hw⟩
        simp [ixN_nat hIl, ixN_nat hMl, lturn_ap, c__law_take, hI, hJ, hM, h0, h1, c__law_take__m, pF_nz, idxM hIl, idxM hMl, c__law_often _ _ _ (show 4 ≤ 100 by decide), hIl]
  obtain ⟨v1, e1, b1, ws, rfl, hs, hw⟩ := vfl_inv _ _ ⟨tkN b ((n : Int) + 1), rowsT uT, rfl, Same.refl _, rfl⟩ step
  obtain ⟨p, q, r, s, rfl⟩ := list4 hw
  refine ⟨mkT p q r s, tn_same (T := uT) (by rw [rows_mk]; exact hs) tn_unit, b1, ?_⟩
  rw [e1, pM_mk]
  simp
theorem c_is_whole_b (d : Nat) (x : Int) : vP VG (d + 1) i_is_whole_b [.int x] = .ok (.bool true) top0 := by
  rw [vP_run v_is_whole_b rfl]
  simp [f_is_whole_b, vstart]
theorem c_is_whole_b__f (d : Nat) {k : Q4} (x : F k) : vP VG (d + 1) i_is_whole_b [pF x] = .ok (.bool true) top0 := c_is_whole_b d _
theorem c_is_whole_b__any (d : Nat) (p : PyData) {j m : Nat} (h : th j m p = true) : vP VG (d + 1) i_is_whole_b [p] = .ok (.bool (intB p)) top0 := by
  cases j with
  | zero => simp [th] at h
  | succ j =>
  rw [vP_run v_is_whole_b rfl]
  cases p with
  | dict xs => simp [th] at h
  | _ => simp [f_is_whole_b, vstart, isiP, intB]

theorem c_is_row_of_b (d : Nat) {k : Q4} {n : Nat} (v : V k n) (hn : n ≤ 100) : vP VG (d + 2) i_is_row_of_b [pQ k, pV v, .int n] = .ok (.bool true) top0 := by
  have hs : SL n = true := y_SL_le (by omega)
  rw [vP_run v_is_row_of_b rfl]
  simp [f_is_row_of_b, vstart, hs]
  rw [pL, vcl_map (b := fun _ => .bool true) (kk := fun _ => top0) fun i _ => ?_]
  · simp
  · have := F.lt (v i)
    simp [cturn_ap, pF, c_is_whole_b, this]
theorem c_is_row_of_b__any (d : Nat) {k : Q4} {n m j : Nat} (hm : m ≤ 60) (p : PyData) (h : th j m p = true) : vP VG (d + 2) i_is_row_of_b [pQ k, p, .int n] = .ok (.bool (rowB k n p)) top0 := by
  cases j with
  | zero => simp [th] at h
  | succ j =>
  rw [vP_run v_is_row_of_b rfl]
  cases p with
  | tuple xs =>
    obtain ⟨hl, hx⟩ := th_tup.mp h
    have hs : SL xs.length = true := y_SL_le (by omega)
    by_cases hn : xs.length = n
    · have hs : SL n = true := y_SL_le (by omega)
      simp [f_is_row_of_b, vstart, isiP, hs, hn, rowB]
      rw [vcl_raw (b := fun x => .bool (cellB k x)) (kk := fun _ => top0) fun x hx2 => ?_]
      · simp
      · have e := c_is_whole_b__any d x (hx x hx2)
        cases x with
        | int i =>
          by_cases h0 : 0 ≤ i <;> simp [cturn_ap, e, intB, cellB, h0]
        | _ => simp [cturn_ap, e, intB, cellB]
    · have hn2 : ¬ (xs.length : Int) = (n : Int) := by omega
      simp [f_is_row_of_b, vstart, isiP, hs, hn, hn2, rowB]
  | dict xs => simp [th] at h
  | _ => simp [f_is_row_of_b, vstart, isiP, rowB]

theorem c__law_copied (m : Nat) (hm : m ≤ 60) : ∀ (n d : Nat) (p : PyData), th n m p = true → ∃ k, vP VG (d + n) i__law_copied [p] = .ok p k
  | 0, d, p, h => by simp [th] at h
  | n + 1, d, p, h => by
    rw [show d + (n + 1) = (d + n) + 1 by omega, vP_run v__law_copied rfl]
    cases p with
    | list xs =>
      obtain ⟨hl, hx⟩ := th_lst.mp h
      have hs : SL xs.length = true := y_SL_le (by omega)
      simp [f__law_copied, vstart, isiP, hs]
      obtain ⟨ks, e1, e2⟩ := vcl_each (turn := cturn (vP VG (d + n)) (vI VG (d + n)) VG.io [1] (Tg.nm 1) false Eo.no (E.call i__law_copied (Es.cons (E.var 1) Es.nil))) (v := [some (PyData.list xs, ⟨.sh, false⟩), none]) (xs := xs) fun x hx2 => by
        obtain ⟨k, e⟩ := c__law_copied m hm n d x (hx x hx2)
        cases hc : (k.c || pur x) with
        | true =>
          simp [cturn_ap, e]
          simp only [callP, hc, if_true]
          exact ⟨_, rfl⟩
        | false =>
          simp [cturn_ap, e]
          simp only [callP, hc, dgr]
          exact ⟨_, rfl⟩
      simp [e1, e2]
    | dict xs => simp [th] at h
    | tuple xs =>
      simp [f__law_copied, vstart, isiP]
    | _ =>
      simp [f__law_copied, vstart, isiP]

theorem c__law_row (d : Nat) {k : Q4} (b : Bg) : vI VG (d + 2) i__law_row [(pQ k, ⟨.sh, true⟩), (pB b, top0), (.int 4, ⟨.sh, true⟩)] = .ok (pV (gRow k 4 b)) top0 [some (pQ k, ⟨.sh, true⟩), some (pB (digsN k 4 b), top0), some (.int 4, ⟨.sh, true⟩)] := by
  rw [vI_run v__law_row rfl]
  simp [f__law_row, vstart]
  rw [vcl_digs (k := k) (fun s => [some (pQ k, ⟨.sh, true⟩), some (pB s, top0), some (.int 4, ⟨.sh, true⟩), none]) (fun j : Nat => .int (j : Int)) (List.range 4) b fun s x _ => by simp [cturn_ap, c__law_take__q]]
  simp [gRow_eq k 4 b]
  rfl
theorem c__law_row__6 (d : Nat) {k : Q4} (b : Bg) : vI VG (d + 2) i__law_row [(pQ k, ⟨.sh, true⟩), (pB b, top0), (.int 6, ⟨.sh, true⟩)] = .ok (pV (gRow k 6 b)) top0 [some (pQ k, ⟨.sh, true⟩), some (pB (digsN k 6 b), top0), some (.int 6, ⟨.sh, true⟩)] := by
  rw [vI_run v__law_row rfl]
  simp [f__law_row, vstart]
  rw [vcl_digs (k := k) (fun s => [some (pQ k, ⟨.sh, true⟩), some (pB s, top0), some (.int 6, ⟨.sh, true⟩), none]) (fun j : Nat => .int (j : Int)) (List.range 6) b fun s x _ => by simp [cturn_ap, c__law_take__q]]
  simp [gRow_eq k 6 b]
  rfl
theorem c__law_row_on (d : Nat) {k : Q4} (b : Bg) {n : Nat} (vs : List (V k n)) (hne : vs ≠ []) (hn : n ≤ 100) (hl : vs.length ≤ 1000000) : vI VG (d + 4) i__law_row_on [(pQ k, ⟨.sh, true⟩), (pB b, top0), (.list (vs.map pV), top0)] = .ok (pV (ledV (digs k vs.length b) vs)) top0 [some (pQ k, ⟨.sh, true⟩), some (pB (digsN k vs.length b), top0), some (.list (vs.map pV), top0)] := by
  have hs : SL vs.length = true := y_SL_le (by omega)
  obtain ⟨v, h0⟩ : ∃ v : V k n, idxP (.list (vs.map pV)) (.int 0) = some (pV v) := by
    rcases vs with _ | ⟨v, vs⟩
    · exact absurd rfl hne
    · exact ⟨v, by simp⟩
  rw [vI_run v__law_row_on rfl]
  simp [f__law_row_on, vstart, hs]
  rw [vcl_digs (k := k) (fun s => [some (pQ k, ⟨.sh, true⟩), some (pB s, top0), none, none]) pV vs b fun s x _ => by simp [cturn_ap, c__law_take__q]]
  simp [c__law_led _ _ vs seq_l h0 hn]
theorem c__law_row_on__s (d : Nat) {k : Q4} (b : Bg) {n : Nat} (vs : List (V k n)) (hne : vs ≠ []) (hn : n ≤ 100) (hl : vs.length ≤ 1000000) : vI VG (d + 4) i__law_row_on [(pQ k, ⟨.sh, true⟩), (pB b, top0), (.list (vs.map pV), ⟨.sh, false⟩)] = .ok (pV (ledV (digs k vs.length b) vs)) top0 [some (pQ k, ⟨.sh, true⟩), some (pB (digsN k vs.length b), top0), some (.list (vs.map pV), ⟨.sh, false⟩)] := by
  have hs : SL vs.length = true := y_SL_le (by omega)
  obtain ⟨v, h0⟩ : ∃ v : V k n, idxP (.list (vs.map pV)) (.int 0) = some (pV v) := by
    rcases vs with _ | ⟨v, vs⟩
    · exact absurd rfl hne
    · exact ⟨v, by simp⟩
  rw [vI_run v__law_row_on rfl]
  simp [f__law_row_on, vstart, hs]
  rw [vcl_digs (k := k) (fun s => [some (pQ k, ⟨.sh, true⟩), some (pB s, top0), some (.list (vs.map pV), ⟨.sh, false⟩), none]) pV vs b fun s x _ => by simp [cturn_ap, c__law_take__q]]
  simp [c__law_led _ _ vs seq_l h0 hn]
theorem c__law_row_on__l (d : Nat) {k : Q4} (b : Bg) (l : Ln k) : vI VG (d + 4) i__law_row_on [(pQ k, ⟨.sh, true⟩), (pB b, top0), (pLn l, ⟨.sh, true⟩)] = .ok (pV (sm (tkF k b) l.1 + sm (tkF k (tkN b k.n)) l.2)) top0 [some (pQ k, ⟨.sh, true⟩), some (pB (tkN (tkN b k.n) k.n), top0), some (pLn l, ⟨.sh, true⟩)] := by
  have e := c__law_led d (digs k 2 b) [l.1, l.2] (p := pLn l) rfl rfl (by decide)
  have h2 : ledV (digs k 2 b) [l.1, l.2] = sm (tkF k b) l.1 + sm (tkF k (tkN b k.n)) l.2 := ledV_2 _ _ _ _
  rw [vI_run v__law_row_on rfl]
  simp [f__law_row_on, vstart]
  rw [show [pV l.1, pV l.2] = [l.1, l.2].map pV from rfl, vcl_digs (k := k) (fun s => [some (pQ k, ⟨.sh, true⟩), some (pB s, top0), some (pLn l, ⟨.sh, true⟩), none]) pV [l.1, l.2] b fun s x _ => by simp [cturn_ap, c__law_take__q]]
  simp [e, h2, digsN]
theorem c__law_row_on__t (d : Nat) {k : Q4} (b : Bg) {n : Nat} (vs : List (V k n)) (hne : vs ≠ []) (hn : n ≤ 100) (hl : vs.length ≤ 1000000) : vI VG (d + 4) i__law_row_on [(pQ k, ⟨.sh, true⟩), (pB b, top0), (.tuple (vs.map pV), ⟨.sh, true⟩)] = .ok (pV (ledV (digs k vs.length b) vs)) top0 [some (pQ k, ⟨.sh, true⟩), some (pB (digsN k vs.length b), top0), some (.tuple (vs.map pV), ⟨.sh, true⟩)] := by
  have hs : SL vs.length = true := y_SL_le (by omega)
  obtain ⟨v, h0⟩ : ∃ v : V k n, idxP (.tuple (vs.map pV)) (.int 0) = some (pV v) := by
    rcases vs with _ | ⟨v, vs⟩
    · exact absurd rfl hne
    · exact ⟨v, by simp⟩
  rw [vI_run v__law_row_on rfl]
  simp [f__law_row_on, vstart, hs]
  rw [vcl_digs (k := k) (fun s => [some (pQ k, ⟨.sh, true⟩), some (pB s, top0), some (.tuple (vs.map pV), ⟨.sh, true⟩), none]) pV vs b fun s x _ => by simp [cturn_ap, c__law_take__q]]
  simp [c__law_led _ _ vs (show seqP (.tuple (vs.map pV)) = some (vs.map pV) from rfl) h0 hn]

theorem c__law_odd (d : Nat) (b : Bg) : ∃ (p : PyData) (k : K) (b' : Bg), (p ∈ oddP ∧ nK p k = k ∧ k.c = true ∧ ∀ i v, varV i p k v = .ok (.v p k) v) ∧ vI VG (d + 2) i__law_odd [(pB b, top0)] = .ok p k [some (pB b', top0)] := by
  rw [vI_run v__law_odd rfl]
  have hN : tkD b 12 = (tkn b 12 : Int) := tkn_eq b (n := 12) (by decide)
  have hNl := tkn_lt b (n := 12) (by decide)
  have h1 : ∀ {cp ci io v}, vev cp ci io (E.lit (D.str (Str.ofString "1"))) v = .ok (.v (.str (Str.ofString "1")) top0) v := by
    intros
    rw [vev, show litP (D.str (Str.ofString "1")) = some (.str (Str.ofString "1")) by kernel_rfl]
    rfl
  have h2 : opP .pow (.int 10) (.int 59) = some (.int 100000000000000000000000000000000000000000000000000000000000) := rfl
  generalize tkn b 12 = r at hN hNl
  obtain ⟨p, hp, hr⟩ : ∃ p ∈ oddP, idxP (.list oddP) (.int r) = some p := by
    have : r < oddP.length := hNl
    refine ⟨oddP[r], List.getElem_mem _, ?_⟩
    simp [idxP, seqP, ixN_nat this, this]
  refine ⟨p, retI p ⟨.sh, true⟩, tkN b 12, ⟨hp, odd_k hp⟩, ?_⟩
  unfold oddP at hr
  simp [f__law_odd, vstart, c__law_take, hN, h1, h2, hr]

theorem c__law_spoilt : ∀ (n : Nat) (d : Nat) (b : Bg) (p : PyData) (m : Nat), 2 ≤ m → m ≤ 50 → pur p = true → th n m p = true → ∃ p' k' b', vI VG (d + n + 2) i__law_spoilt [(pB b, top0), (p, ⟨.sh, true⟩)] = .ok p' k' [some (pB b', top0), some (p, ⟨.sh, true⟩)] ∧ th (n + 2) (m + 1) p' = true ∧ k'.c = true
  | 0, _, _, _, _, _, _, _, h => by simp [th] at h
  | n + 1, d, b, p, m, hm, hm2, hp, h => by
    obtain ⟨o, ko, b1, ⟨ho, ko1, ko2, ko3⟩, e1⟩ := c__law_odd (d + n) (tkN b 6)
    have e1 : vI VG (d + n + 2) i__law_odd [(pB (tkN b 6), top0)] = .ok o ko [some (pB b1, top0)] := e1
    rw [show d + (n + 1) + 2 = (d + n + 2) + 1 by omega, vI_run v__law_spoilt rfl]
    by_cases hs : ∃ xs, p = .tuple xs
    · obtain ⟨xs, rfl⟩ := hs
      have hpx : purs xs = true := hp
      by_cases h0 : xs = []
      · subst h0
        refine ⟨o, retI o ko, b1, ?_, th_le (by omega) (by omega) (odd_th ho), retI_c ko2⟩
        simp [f__law_spoilt, vstart, c__law_take, e1, isi2P, isiP, hp, hpx, ko1, ko3]
      · have h6 : tkD b 6 = (tkn b 6 : Int) := tkn_eq b (n := 6) (by decide)
        have h6l := tkn_lt b (n := 6) (by decide)
        have hl : xs.length ≠ 0 := fun e => h0 (List.length_eq_zero_iff.mp e)
        obtain ⟨hxl, hxm⟩ := th_tup.mp h
        have ha : tkD b1 (xs.length : Int) = (tkn b1 xs.length : Int) := tkn_eq b1 (n := xs.length) (by omega)
        have hal := tkn_lt b1 (n := xs.length) (by omega)
        have e2 := c__law_take (d + n + 1) b1 (n := (xs.length : Int)) (by omega) (by omega)
        have e2 : vI VG (d + n + 2) i__law_take [(pB b1, top0), (.int (xs.length : Int), ⟨.sh, true⟩)] = .ok (.int (tkD b1 (xs.length : Int))) top0 [some (pB (tkN b1 (xs.length : Int)), top0), some (.int (xs.length : Int), ⟨.sh, true⟩)] := e2
        rw [ha] at e2
        generalize tkn b1 xs.length = A at e2 hal
        have s1 : sliP (.list xs) none (some (A : Int)) = some (.list (xs.take A)) := sli_to (by omega)
        have s2 : sliP (.list xs) (some ((A : Int) + 1)) none = some (.list (xs.drop (A + 1))) := sli_from (n := A + 1) hal
        have s3 : sliP (.list xs) (some (A : Int)) none = some (.list (xs.drop A)) := sli_from (by omega)
        have ad : ∀ a b : List PyData, a.length ≤ 100 → b.length ≤ 100 → opP .add (.list a) (.list b) = some (.list (a ++ b)) := fun a b h1 h2 => by
          show (if SL (a.length + b.length) then _ else none) = _
          rw [if_pos (y_SL_le (by omega))]
        have a1 := ad (xs.take A) (xs.drop (A + 1)) (by simp; omega) (by simp; omega)
        have a2 := ad (xs.take A) [xs[A]] (by simp; omega) (by simp)
        have a3 := ad (xs.take (A + 1)) (xs.drop A) (by simp; omega) (by simp; omega)
        have hi : idxP (.list xs) (.int A) = some xs[A] := by simp [idxP, seqP, ixN_nat hal, hal]
        have hr : tkn b 6 = 0 ∨ tkn b 6 = 1 ∨ tkn b 6 = 2 ∨ tkn b 6 = 3 ∨ 4 ≤ tkn b 6 := by omega
        rcases hr with hr | hr | hr | hr | hr
        · rw [hr] at h6
          refine ⟨o, retI o ko, b1, ?_, th_le (by omega) (by omega) (odd_th ho), retI_c ko2⟩
          simp [f__law_spoilt, vstart, c__law_take, e1, isi2P, isiP, hp, hpx, h6, h0, ko1, ko3]
        · rw [hr] at h6
          refine ⟨.tuple (xs.take A ++ xs.drop (A + 1)), top0, tkN b1 xs.length, ?_, th_tup.mpr ⟨by simp; omega, fun x hx => ?_⟩, rfl⟩
          · simp [f__law_spoilt, vstart, c__law_take, e1, isi2P, isiP, hp, hpx, h6, hl, h0, e2, ko1, ko3, s1, s2, a1]
          · rcases List.mem_append.mp hx with q | q
            · exact th_le (by omega) (by omega) (hxm x (List.mem_of_mem_take q))
            · exact th_le (by omega) (by omega) (hxm x (List.mem_of_mem_drop q))
        · rw [hr] at h6
          refine ⟨.tuple (xs.take (A + 1) ++ xs.drop A), top0, tkN b1 xs.length, ?_, th_tup.mpr ⟨by simp; omega, fun x hx => ?_⟩, rfl⟩
          · simp [f__law_spoilt, vstart, c__law_take, e1, isi2P, isiP, hp, hpx, h6, hl, h0, e2, ko1, ko3, s1, s3, a2, a3, hi]
          · rcases List.mem_append.mp hx with q | q
            · exact th_le (by omega) (by omega) (hxm x (List.mem_of_mem_take q))
            · exact th_le (by omega) (by omega) (hxm x (List.mem_of_mem_drop q))
        · rw [hr] at h6
          refine ⟨.tuple xs.reverse, top0, tkN b1 xs.length, ?_, th_tup.mpr ⟨by simp; omega, fun x hx => th_le (by omega) (by omega) (hxm x (List.mem_reverse.mp hx))⟩, rfl⟩
          simp [f__law_spoilt, vstart, c__law_take, e1, isi2P, isiP, hp, hpx, h6, hl, h0, e2, ko1, ko3]
        · have hx : xs[A] ∈ xs := List.getElem_mem _
          obtain ⟨p', k', b', e3, ht, hk⟩ := c__law_spoilt n d (tkN b1 xs.length) xs[A] m hm hm2 (pur_mem hpx hx) (hxm _ hx)
          have g1 : tkD b 6 ≠ 0 ∧ tkD b 6 ≠ 1 ∧ tkD b 6 ≠ 2 ∧ tkD b 6 ≠ 3 := by omega
          have hk2 := nK_c (p := p') hk
          have hpa := pur_mem hpx hx
          refine ⟨.tuple (xs.set A p'), top0, b', ?_, th_tup.mpr ⟨by simp; omega, fun x hx => ?_⟩, rfl⟩
          · simp [f__law_spoilt, vstart, c__law_take, e1, isi2P, isiP, hp, hpx, g1, hl, h0, e2, e3, ko1, ko3, hi, hpa, hk2, ixN_nat hal]
          · rcases List.mem_or_eq_of_mem_set hx with q | rfl
            · exact th_le (by omega) (by omega) (hxm x q)
            · exact ht
    · refine ⟨o, retI o ko, b1, ?_, th_le (by omega) (by omega) (odd_th ho), retI_c ko2⟩
      cases p with
      | tuple xs => exact absurd ⟨xs, rfl⟩ hs
      | list xs => cases hp
      | dict xs => cases hp
      | _ => simp [f__law_spoilt, vstart, c__law_take, e1, isi2P, isiP, ko1, ko3]

theorem c__law_is_turning (d : Nat) {k : Q4} {m j : Nat} (hm : m ≤ 60) (p : PyData) (h : th j m p = true) : vP VG (d + 6) i__law_is_turning [pQ k, p] = .ok (.bool (turB k p)) top0 := by
  cases j with
  | zero => simp [th] at h
  | succ j =>
  rw [vP_run v__law_is_turning rfl]
  cases p with
  | tuple xs =>
    obtain ⟨hl, hx⟩ := th_tup.mp h
    by_cases hn : xs.length = 4
    · have hs : SL 4 = true := rfl
      obtain ⟨a, b, c, e, rfl⟩ := list4 hn
      have er : ∀ x ∈ [a, b, c, e], vP VG (d + 5) i_is_row_of_b [pQ k, x, .int 4] = .ok (.bool (rowB k 4 x)) top0 := fun x hx2 => c_is_row_of_b__any _ hm x (hx x hx2)
      have e1 := er a (by simp)
      have e2 := er b (by simp)
      have e3 := er c (by simp)
      have e4 := er e (by simp)
      have al : ∀ x y z w, bltP .all [.list [.bool x, .bool y, .bool z, .bool w]] = some (.bool (x && (y && (z && w)))) := fun x y z w => by cases x <;> cases y <;> cases z <;> cases w <;> rfl
      cases hb : largeB k (.tuple [a, b, c, e]) with
      | true =>
        obtain ⟨T, hT⟩ := large_of hb
        have hb2 : (rowB k 4 a && (rowB k 4 b && (rowB k 4 c && rowB k 4 e))) = true := hb
        have et := c__law_lowest (d + 2) (k := k) (rowsT T) (by decide) (by simp [rowsT])
        have et : vP VG (d + 5) i__law_lowest [pQ k, .list [a, b, c, e]] = .ok (.list ((lawLow (rowsT T)).map pV)) top0 := by
          simp only [pM, PyData.tuple.injEq] at hT
          rw [hT]; exact et
        rw [← law_lowest gr_ge] at et
        rw [hT, turB_M, ← hT]
        simp [f__law_is_turning, vstart, isiP, hs, vcl_cons, cturn_ap, e1, e2, e3, e4, al, hb2, et]
        omega
      | false =>
        have hb2 : (rowB k 4 a && (rowB k 4 b && (rowB k 4 c && rowB k 4 e))) = false := hb
        rw [turB_no hb]
        simp [f__law_is_turning, vstart, isiP, hs, vcl_cons, cturn_ap, e1, e2, e3, e4, al, hb2]
    · have hn2 : ¬ (xs.length : Int) = 4 := by omega
      have hb : largeB k (.tuple xs) = false := by
        unfold largeB
        split
        · rename_i e
          simp only [PyData.tuple.injEq] at e
          rw [e] at hn; exact absurd rfl hn
        · rfl
      simp [f__law_is_turning, vstart, isiP, hn, hn2, turB_no hb]
  | dict xs => simp [th] at h
  | _ =>
    rw [turB_no (k := k) rfl]
    simp [f__law_is_turning, vstart, isiP]

theorem c_law_k17__odds (d : Nat) : ∀ p, p ∈ odds17 → vP VG (d + 19) i_is_turning [.int 2, p] = .ok (.bool false) top0 := by
  intro p hp
  simp only [odds17, List.mem_cons, List.not_mem_nil, or_false] at hp
  rcases hp with rfl | rfl | rfl | rfl | rfl | rfl | rfl | rfl | rfl <;> kernel_rfl
theorem c_law_k17 (d : Nat) (ns : List Int) : ∃ k outs, vI VG (d + 20) i_law_k17 [(.dict (roK ns), ⟨.sh, false⟩)] = .ok (.bool true) k outs := by
  rw [vI_run v_law_k17 rfl]
  have h1 : ∀ {cp ci io v}, vev cp ci io (E.lit (D.str (Str.ofString "1000/0100/0010/0001"))) v = .ok (.v (.str (Str.ofString "1000/0100/0010/0001")) top0) v := by
    intros
    rw [vev, show litP (D.str (Str.ofString "1000/0100/0010/0001")) = some (.str (Str.ofString "1000/0100/0010/0001")) by kernel_rfl]
    rfl
  have h2 : opP .mul (.tuple [.tuple [.int 0, .int 0, .int 0, .int 0]]) (.int 4) = some (.tuple [.tuple [.int 0, .int 0, .int 0, .int 0], .tuple [.int 0, .int 0, .int 0, .int 0], .tuple [.int 0, .int 0, .int 0, .int 0], .tuple [.int 0, .int 0, .int 0, .int 0]]) := rfl
  have h3 := c_law_k17__odds d
  simp only [odds17, List.mem_cons, List.not_mem_nil, or_false, forall_eq_or_imp, forall_eq] at h3
  simp [f_law_k17, vstart]
  rw [vfl_const _ fun x hx => ?_]
  · simp [h1, h2, vfl_cons, lturn_ap, h3]
  · obtain ⟨j, hj, rfl⟩ := mm_mem (by decide) (by decide) hx
    obtain ⟨T, b1, hT, e1⟩ := c__law_turning (d + 16) (k := tkQ (mkB ns j)) (tkN (mkB ns j) 4) 12 (by decide)
    have e1 : vI VG (d + 19) i__law_turning [(pQ (tkQ (mkB ns j)), ⟨.sh, true⟩), (pB (tkN (mkB ns j) 4), top0), (.int 12, ⟨.sh, true⟩)] = .ok (pM T) top0 [some (pQ (tkQ (mkB ns j)), ⟨.sh, true⟩), some (pB b1, top0), some (.int 12, ⟨.sh, true⟩)] := e1
    have h4 : tkD b1 4 = (tkn b1 4 : Int) := tkn_eq b1 (n := 4) (by decide)
    have h4l := tkn_lt b1 (n := 4) (by decide)
    generalize tkn b1 4 = r at h4 h4l
    simp [lturn_ap, c__law_bag _ _ _ hj, c__law_take, tkQ_eq, e1, h4]
    generalize tkQ (mkB ns j) = k at *
    have s1 : sliP (pM T) none (some (r : Int)) = some (.tuple (((rowsT T).take r).map pV)) := by
      have := slt_to (xs := (rowsT T).map pV) (n := r) (by simp; omega)
      rw [List.map_take]; exact this
    have s2 : sliP (pM T) (some ((r : Int) + 1)) none = some (.tuple (((rowsT T).drop (r + 1)).map pV)) := by
      have := slt_from (xs := (rowsT T).map pV) (n := r + 1) (by simp; omega)
      rw [List.map_drop]; exact this
    have ad : ∀ a b : List (V k 4), a.length ≤ 100 → b.length ≤ 100 → opP .add (.tuple (a.map pV)) (.tuple (b.map pV)) = some (.tuple ((a ++ b).map pV)) := fun a b h1 h2 => by
      show (if SL ((a.map pV).length + (b.map pV).length) then _ else none) = _
      rw [if_pos (y_SL_le (by simp; omega)), List.map_append]
    have a1 := ad ((rowsT T).take r) ((rowsT T).drop (r + 1)) (by simp; omega) (by simp; omega)
    have hw : ((rowsT T).take r ++ (rowsT T).drop (r + 1)).length = 3 := by simp; omega
    generalize hws : (rowsT T).take r ++ (rowsT T).drop (r + 1) = ws at a1 hw
    have hne : ws ≠ [] := fun e => by rw [e] at hw; cases hw
    have s3 : sliP (.tuple (ws.map pV)) none (some (r : Int)) = some (.tuple ((ws.take r).map pV)) := by
      rw [List.map_take]; exact slt_to (by simp; omega)
    have s4 : sliP (.tuple (ws.map pV)) (some (r : Int)) none = some (.tuple ((ws.drop r).map pV)) := by
      rw [List.map_drop]; exact slt_from (by simp; omega)
    have e2 := fun b : Bg => c__law_row_on__t (d + 15) b ws hne (by decide) (by omega)
    have e2 : ∀ b : Bg, vI VG (d + 19) i__law_row_on [(pQ k, ⟨.sh, true⟩), (pB b, top0), (.tuple (ws.map pV), ⟨.sh, true⟩)] = .ok (pV (ledV (digs k ws.length b) ws)) top0 [some (pQ k, ⟨.sh, true⟩), some (pB (digsN k ws.length b), top0), some (.tuple (ws.map pV), ⟨.sh, true⟩)] := e2
    have a2 : ∀ w : V k 4, opP .add (.tuple ((ws.take r).map pV)) (.tuple [pV w]) = some (.tuple ((ws.take r ++ [w]).map pV)) := fun w => ad (ws.take r) [w] (by simp; omega) (by simp)
    have a3 : ∀ w : V k 4, opP .add (.tuple ((ws.take r ++ [w]).map pV)) (.tuple ((ws.drop r).map pV)) = some (.tuple ((ws.take r ++ [w] ++ ws.drop r).map pV)) := fun w => ad (ws.take r ++ [w]) (ws.drop r) (by simp; omega) (by simp; omega)
    obtain ⟨Z2, hZ2⟩ : ∃ f : V k 4 → PyData, ∀ w, f w = .tuple ((ws.take r ++ [w] ++ ws.drop r).map pV) := ⟨_, fun _ => rfl⟩
    obtain ⟨Z1, hZ1⟩ : ∃ f : V k 4 → PyData, ∀ w, f w = .tuple ((ws.take r ++ [w]).map pV) := ⟨_, fun _ => rfl⟩
    have tZ : ∀ w, th 3 50 (Z2 w) = true := fun w => by rw [hZ2]; exact th_Vs _ (by decide) (by simp; omega)
    have pZ : ∀ w, pur (Z2 w) = true := fun w => by rw [hZ2]; exact pur_Vs _
    have tW : th 3 50 (.tuple (ws.map pV)) = true := th_Vs _ (by decide) (by omega)
    have pW : pur (.tuple (ws.map pV)) = true := pur_Vs _
    have pX : pur (.tuple (((rowsT T).take r).map pV)) = true := pur_Vs _
    have pY : pur (.tuple (((rowsT T).drop (r + 1)).map pV)) = true := pur_Vs _
    have pX3 : pur (.tuple ((ws.take r).map pV)) = true := pur_Vs _
    have pY3 : pur (.tuple ((ws.drop r).map pV)) = true := pur_Vs _
    have pZ1 : ∀ w, pur (Z1 w) = true := fun w => by rw [hZ1]; exact pur_Vs _
    simp only [← hZ1, ← hZ2] at a2 a3
    generalize PyData.tuple (((rowsT T).take r).map pV) = X at *
    generalize PyData.tuple (((rowsT T).drop (r + 1)).map pV) = Y at *
    generalize PyData.tuple ((ws.take r).map pV) = X3 at *
    generalize PyData.tuple ((ws.drop r).map pV) = Y3 at *
    generalize PyData.tuple (ws.map pV) = W at *
    have i1 : bltP .list [pM T] = some (.list ((rowsT T).map pV)) := rfl
    simp [s1, s2, a1, i1, pX, pY, pW]
    rw [show (List.range 4).map (fun k : Nat => PyData.int (k : Int)) = [.int 0, .int 1, .int 2, .int 3] from rfl]
    have sp : ∀ b : Bg, ∃ p' k' b', vI VG (d + 19) i__law_spoilt [(pB b, top0), (pM T, ⟨.sh, true⟩)] = .ok p' k' [some (pB b', top0), some (pM T, ⟨.sh, true⟩)] ∧ th 5 51 p' = true ∧ k'.c = true := fun b => c__law_spoilt 3 (d + 14) b (pM T) 50 (by decide) (by decide) (pur_Vs (rowsT T)) (th_Vs (rowsT T) (by decide) (by simp))
    obtain ⟨q1, k1, c1, f1, t1, l1⟩ := sp (digsN k ws.length (digsN k 4 (digsN k 4 (digsN k 4 (digsN k 4 (tkN b1 4))))))
    obtain ⟨q2, k2, c2, f2, t2, l2⟩ := sp c1
    obtain ⟨q3, k3, c3, f3, t3, l3⟩ := sp c2
    obtain ⟨q4, k4, c4, f4, t4, l4⟩ := sp c3
    obtain ⟨q5, k5, c5, f5, t5, l5⟩ := sp c4
    obtain ⟨q6, k6, c6, f6, t6, l6⟩ := sp c5
    have l1 := nK_c (p := q1) l1
    have l2 := nK_c (p := q2) l2
    have l3 := nK_c (p := q3) l3
    have l4 := nK_c (p := q4) l4
    have l5 := nK_c (p := q5) l5
    have l6 := nK_c (p := q6) l6
    generalize hS : (Z.B.seq (Z.T.fo (I.seq (E.var 8)) (Tg.nm 2) _) _ : Z.B) = S
    simp [vcl_cons, cturn_ap, c__law_row, e2, s3, s4, a2, a3, pX3, pY3, pZ1, pZ, pW]
    rw [show (List.range 6).map (fun k : Nat => PyData.int (k : Int)) = [.int 0, .int 1, .int 2, .int 3, .int 4, .int 5] from rfl]
    simp [vfl_cons, lturn_ap, f1, f2, f3, f4, f5, f6, l1, l2, l3, l4, l5, l6]
    subst hS
    simp
    have tr : th 3 50 (.tuple [pV (gRow k 4 (tkN b1 4)), pV (gRow k 4 (digsN k 4 (tkN b1 4))), pV (gRow k 4 (digsN k 4 (digsN k 4 (tkN b1 4)))), pV (gRow k 4 (digsN k 4 (digsN k 4 (digsN k 4 (tkN b1 4)))))]) = true := th_Vs [_, _, _, _] (by decide) (by simp)
    generalize PyData.tuple [pV (gRow k 4 (tkN b1 4)), pV (gRow k 4 (digsN k 4 (tkN b1 4))), pV (gRow k 4 (digsN k 4 (digsN k 4 (tkN b1 4)))), pV (gRow k 4 (digsN k 4 (digsN k 4 (digsN k 4 (tkN b1 4)))))] = R4 at *
    rw [vfl_const _ fun p hp => ?_]
    · have ef : vP VG (d + 19) i_is_turning [pQ k, pM T] = .ok (.bool true) top0 := by
        have := c_is_turning (d + 12) (k := k) (m := 50) (j := 3) (by decide) (pM T) (th_Vs (rowsT T) (by decide) (by simp))
        rw [turB_M, decide_eq_true (tn_iff.mp hT)] at this
        exact this
      simp [ef]
    · have hp : th 6 60 p = true := by
        simp only [List.mem_cons, List.not_mem_nil, or_false] at hp
        rcases hp with rfl | rfl | rfl | rfl | rfl | rfl | rfl | rfl | rfl | rfl | rfl
        · exact th_le (by decide) (by decide) (th_Vs (rowsT T) (by decide) (by simp))
        · exact th_le (by decide) (by decide) (th_Vl (rowsT T) (by decide) (by simp))
        · exact th_le (by decide) (by decide) tr
        · exact th_le (by decide) (by decide) tW
        · exact th_le (by decide) (by decide) (tZ _)
        · exact th_le (by decide) (by decide) t1
        · exact th_le (by decide) (by decide) t2
        · exact th_le (by decide) (by decide) t3
        · exact th_le (by decide) (by decide) t4
        · exact th_le (by decide) (by decide) t5
        · exact th_le (by decide) (by decide) t6
      obtain ⟨kp, ec⟩ := c__law_copied 60 (by decide) 6 (d + 13) p hp
      have ec : vP VG (d + 19) i__law_copied [p] = .ok p kp := ec
      have ei : vP VG (d + 19) i_is_turning [pQ k, p] = .ok (.bool (turB k p)) top0 := c_is_turning (d + 12) (by decide) p hp
      have el : vP VG (d + 19) i__law_is_turning [pQ k, p] = .ok (.bool (turB k p)) top0 := c__law_is_turning (d + 13) (by decide) p hp
      have eq := eqP_th (by decide) hp
      cases hc : (kp.c || pur p) with
      | true =>
        simp [lturn_ap, ec, ei, el, eq]
        simp only [callP, hc, if_true]
        simp [ei, el, eq]
      | false =>
        simp [lturn_ap, ec, ei, el, eq]
        simp only [callP, hc, dgr]
        simp [ei, el, eq]
end Z
namespace Z
open PySem A
theorem law_ok (ns : List Int) (hl : ns.length ≤ 63) : ∃ S, cI G 20 i_law_k17 [.lst 0] (given ns) [] = .ok (.bl true) S := by
  obtain ⟨k, outs, h⟩ := c_law_k17 0 ns
  exact law_of VG (d := 20) rfl (by simpa using h)
end Z
open PySem PySem.W PyProof.Rows
set_option maxRecDepth 100000 in
set_option maxHeartbeats 0 in
theorem PySem.Challenge.cw_spreadplanes_k17_what_is_a_turning_holds : PySem.Challenge.rw_spreadplanes_k17_what_is_a_turning.Holds := by
  w_on; o_law; k_head; (case hw => w_witness2)
  k_fill
  refine Z.walk (l := PySem.Challenge.rw_spreadplanes_k17_what_is_a_turning) (t := Z.txt) (e := Z.e_law) 1000 20 rfl rfl ⟨rfl, by decide, by decide⟩ (fun w h Y => PySem.W.kIn_of Y) Z.txt_ok ?S (.tail _ (.tail _ (.tail _ (.tail _ (.tail _ (.tail _ (.tail _ (.tail _ (.tail _ (.tail _ (.tail _ (.tail _ (.tail _ (.tail _ (.tail _ (.tail _ (.tail _ (.tail _ (.tail _ (.tail _ (.tail _ (.tail _ (.tail _ (.tail _ (.tail _ (.tail _ (.tail _ (.tail _ (.tail _ (.tail _ (.tail _ (.tail _ (.tail _ (.tail _ (.tail _ (.head _)))))))))))))))))))))))))))))))))))) rfl rfl rfl Z.law_ok
  exact fun w => ⟨by kernel_rfl, by kernel_rfl, by kernel_rfl, by kernel_rfl, by kernel_rfl⟩
