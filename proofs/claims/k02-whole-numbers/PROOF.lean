import PyProof.Rows.All
import Wide.All
import OpenK.AllK
import Wide.FinOn
import HandS.ForMost
import HandS.Exc
import HandS.ExcOwn
import HandS.WordsExc
import HandS.Zip
import HandS.Walk
import HandS.IsInst
import HandS.Deep
import HandS.TupAny
import HandS.TupMul
import HandS.Style
import HandS.SortKw
import HandS.Conv
import KE.DataFind
import HandS.More
import KE.GoesMore
import KE.GoesEnum
import KE.KExcTry
import PySem.Challenge.RW_spreadplanes_k02_whole_numbers_share_out
set_option Elab.async false
set_option linter.all false
set_option maxRecDepth 100000
set_option maxHeartbeats 4000000
/-! Z1: an own small language for the program's text, its data, its evaluation. -/
namespace Z
open PySem

/-- data: lists are places of a store; tmp is a list just made, that nobody holds -/
inductive D where
  | non | bl (b : Bool) | int (i : Int) | str (x : Str)
  | tup (xs : List D) | lst (a : Nat) | tmp (xs : List D) | fn (k : Nat) | exc (c : Nat)
/-- a cell of the store: a list; a list that is only read -/
inductive Cell where
  | lst (xs : List D) | ro (xs : List D)
abbrev Sto := List Cell
abbrev Env := List (Option D)
inductive R (α : Type) where
  | ok (a : α) (S : Sto) | exc (c : Nat) (S : Sto) | bad
def R.bind {α β : Type} (r : R α) (f : α → Sto → R β) : R β := match r with
  | .ok a S => f a S
  | .exc c S => .exc c S
  | .bad => .bad

inductive Op where | add | sub | mul | fdiv | mod | pow | shl | shr | band | bor | bxor
inductive Cm where | eq | ne | lt | le | gt | ge | is | isnt | isin | notin
inductive Blt where | len | abs | max2 | min2 | int1 | tuple | list | sum | all | any | lrng
inductive Ty where | int | bool | str | list | tuple
inductive Met where | append | extend | pop | popat | reverse | insert | remove | index | count | clear
inductive Tg where | nm (i : Nat) | tu (is : List Nat)

mutual
inductive E where
  | var (i : Nat) | lit (d : D) | glo (d : D)
  | bin (o : Op) (a b : E) | neg (a : E) | cmp (o : Cm) (a b : E) | chn (o p : Cm) (a b c : E)
  | and (a b : E) | or (a b : E) | not (a : E) | ife (c a b : E)
  | tup (es : Es) | lst (es : Es) | idx (a b : E) | sli (a : E) (lo hi : Eo)
  | call (f : Nat) (es : Es) | calli (f : Nat) (es : Es) | blt (f : Blt) (es : Es) | isi (a : E) (t : Ty)
  | met (m : Met) (o : E) (es : Es) | ext (o e : E) | srt (a : E) (rev : Bool)
  | comp (own : List Nat) (it : I) (tg : Tg) (cond : Eo) (elt : E)
inductive Eo where | no | of (e : E)
inductive Es where | nil | cons (e : E) (es : Es)
inductive I where | seq (e : E) | rng1 (a : E) | rng2 (a b : E) | rng3 (a b c : E) | enu (e : E) | zip (a b : E)
end
mutual
inductive T where
  | set (i : Nat) (e : E) | unp (is : List Nat) (e : E) | put (o i e : E) | exp (e : E) | ret (e : E) | retn
  | ife (c : E) (a b : B) | fo (it : I) (tg : Tg) (b : B) | wh (c : E) (b : B) | aug (i : Nat) (o : Op) (e : E)
  | rai (c : Nat) | brk | cnt | pas
inductive B where | nil | seq (s : T) (b : B)
end
structure Fn where
  ar : Nat
  n : Nat
  body : B

/-! ### plain data -/
mutual
def D.pure : D → Bool
  | .non => true | .bl _ => true | .int _ => true | .str _ => true
  | .tup xs => D.pureAll xs | .lst _ => false | .tmp _ => false | .fn _ => true | .exc _ => true
def D.pureAll : List D → Bool
  | [] => true
  | d :: ds => d.pure && D.pureAll ds
end
def SL (n : Nat) : Bool := Nat.ble n 16777216
def Cell.xs : Cell → List D
  | .lst xs => xs | .ro xs => xs
def at_ (old S : Sto) (a : Nat) : Option Cell := (old ++ S)[a]?
/-- what may be read item by item -/
def seqOf (old S : Sto) : D → Option (List D)
  | .tup xs => some xs
  | .tmp xs => some xs
  | .lst a => (at_ old S a).map Cell.xs
  | _ => none
/-- a list proper -/
def lstOf (old S : Sto) : D → Option (List D)
  | .tmp xs => some xs
  | .lst a => match at_ old S a with
    | some (.lst xs) => some xs
    | _ => none
  | _ => none
/-- what is only read too -/
def lstRo (old S : Sto) : D → Option (List D)
  | .tmp xs => some xs
  | .lst a => (at_ old S a).map Cell.xs
  | _ => none
def strOk (x : Str) : Bool := PySem.PyData.canLay0 (.str x)
def mapO {α β : Type} (f : α → Option β) : List α → Option (List β)
  | [] => some []
  | d :: ds => match f d with
    | none => none
    | some p => match mapO f ds with
      | none => none
      | some ps => some (p :: ps)
/-- the data as a whole; n: how deep it may lie -/
def toPy (old S : Sto) : Nat → D → Option PyData
  | 0, _ => none
  | n + 1, d => match d with
    | .non => some .none
    | .bl b => some (.bool b)
    | .int i => some (.int i)
    | .str x => if strOk x then some (.str x) else none
    | .tup xs => (mapO (toPy old S n) xs).map .tuple
    | .tmp xs => (mapO (toPy old S n) xs).map .list
    | .lst a => match at_ old S a with
      | some c => (mapO (toPy old S n) c.xs).map .list
      | none => none
    | _ => none
def eqv (old S : Sto) (x y : D) : Option Bool := match toPy old S 60 x with
  | none => none
  | some p => match toPy old S 60 y with
    | none => none
    | some q => some (PyData.eqv p q)
def isIn (old S : Sto) (x y : D) : Option Bool := match toPy old S 60 x with
    | none => none
    | some p => match toPy old S 60 y with
      | some (.list qs) => some (qs.any fun z => PyData.eqv z p)
      | some (.tuple qs) => some (qs.any fun z => PyData.eqv z p)
      | _ => none
/-- the store's new part, and the value, behind a binding -/
def own (old : Sto) (d : D) (S : Sto) : R D := match d with
  | .tmp xs => .ok (.lst (old.length + S.length)) (S ++ [.lst xs])
  | d => .ok d S

/-! ### order, for sorted -/
/-- trees of whole numbers -/
inductive Tr where | i (n : Int) | t (xs : List Tr)
mutual
def toTr : D → Option Tr
  | .int i => some (.i i)
  | .tup xs => (toTrs xs).map .t
  | _ => none
def toTrs : List D → Option (List Tr)
  | [] => some []
  | d :: ds => match toTr d with
    | none => none
    | some p => match toTrs ds with
      | none => none
      | some ps => some (p :: ps)
end
mutual
/-- lt of two trees, where they are of one shape up to the first unlike place -/
def Tr.lt : Tr → Tr → Option Bool
  | .i a, .i b => some (decide (a < b))
  | .t xs, .t ys => Tr.ltAll xs ys
  | _, _ => none
def Tr.ltAll : List Tr → List Tr → Option Bool
  | [], [] => some false
  | [], _ :: _ => some true
  | _ :: _, [] => some false
  | x :: xs, y :: ys => match Tr.beq x y with
    | true => Tr.ltAll xs ys
    | false => Tr.lt x y
def Tr.beq : Tr → Tr → Bool
  | .i a, .i b => a == b
  | .t xs, .t ys => Tr.beqAll xs ys
  | _, _ => false
def Tr.beqAll : List Tr → List Tr → Bool
  | [], [] => true
  | x :: xs, y :: ys => Tr.beq x y && Tr.beqAll xs ys
  | _, _ => false
end

/-! ### operators -/
def okm (i j : Int) : Bool := (decide (-(2 ^ 64) < i) && decide (i < 2 ^ 64)) || (decide (-(2 ^ 64) < j) && decide (j < 2 ^ 64))
def okp (i j : Int) : Bool := decide (0 ≤ j) && decide (j ≤ 1000000) && decide (i.natAbs < 2 ^ 64)
def opV (old : Sto) (o : Op) (x y : D) (S : Sto) : R D := match o, x, y with
  | .add, .int i, .int j => .ok (.int (i + j)) S
  | .sub, .int i, .int j => .ok (.int (i - j)) S
  | .mul, .int i, .int j => if okm i j then .ok (.int (i * j)) S else .bad
  | .fdiv, .int i, .int j => if decide (0 < j) && decide (j < 1073741824) then .ok (.int (i / j)) S else .bad
  | .mod, .int i, .int j => if decide (0 < j) then .ok (.int (i % j)) S else .bad
  | .pow, .int i, .int j => if okp i j then .ok (.int (i ^ j.toNat)) S else .bad
  | .shl, .int i, .int j => if okp i j then .ok (.int (i * 2 ^ j.toNat)) S else .bad
  | .shr, .int i, .int j => if decide (0 ≤ j) then .ok (.int (i / 2 ^ j.toNat)) S else .bad
  | .band, .int i, .int j => .ok (.int (Builtin.bitAnd i j)) S
  | .bor, .int i, .int j => .ok (.int (Builtin.bitOr i j)) S
  | .bxor, .int i, .int j => .ok (.int (Builtin.bitXor i j)) S
  | .add, .str x, .str y => if SL (x.length + y.length) then .ok (.str (x ++ y)) S else .bad
  | .add, .tup xs, .tup ys => if SL (xs.length + ys.length) then .ok (.tup (xs ++ ys)) S else .bad
  | .add, x, y => match lstOf old S x with
    | none => .bad
    | some xs => match lstOf old S y with
      | none => .bad
      | some ys => if SL (xs.length + ys.length) then .ok (.tmp (xs ++ ys)) S else .bad
  | .mul, x, .int k => match lstOf old S x with
    | none => .bad
    | some xs => if decide (0 ≤ k) && decide (k < 16777217) && SL (xs.length * k.toNat) then .ok (.tmp (List.replicate k.toNat xs).flatten) S else .bad
  | _, _, _ => .bad
def cmpV (old : Sto) (o : Cm) (x y : D) (S : Sto) : Option Bool := match o with
  | .eq => eqv old S x y
  | .ne => (eqv old S x y).map (!·)
  | .lt => match x, y with
    | .int i, .int j => some (decide (i < j))
    | _, _ => none
  | .le => match x, y with
    | .int i, .int j => some (decide (i ≤ j))
    | _, _ => none
  | .gt => match x, y with
    | .int i, .int j => some (decide (j < i))
    | _, _ => none
  | .ge => match x, y with
    | .int i, .int j => some (decide (j ≤ i))
    | _, _ => none
  | .is => match x, y with
    | .bl a, .bl b => some (decide (a = b))
    | .non, .non => some true
    | _, .non => some false
    | _, _ => none
  | .isnt => match x, y with
    | .bl a, .bl b => some (!decide (a = b))
    | .non, .non => some false
    | _, .non => some true
    | _, _ => none
  | .isin => isIn old S x y
  | .notin => (isIn old S x y).map (!·)
def truth (old S : Sto) : D → Option Bool
  | .non => some false
  | .bl b => some b
  | .int i => some (i != 0)
  | .tup xs => some !xs.isEmpty
  | .tmp xs => some !xs.isEmpty
  | .lst a => (at_ old S a).map fun c => !c.xs.isEmpty
  | _ => none
def bools : List D → Option (List Bool)
  | [] => some []
  | .bl b :: ds => (bools ds).map (b :: ·)
  | _ => none
def intsOf : List D → Option (List Int)
  | [] => some []
  | .int i :: ds => (intsOf ds).map (i :: ·)
  | _ => none
def bltV (old : Sto) (f : Blt) (vs : List D) (S : Sto) : R D := match f, vs with
  | .len, [.str z] => if SL z.length then .ok (.int z.length) S else .bad
  | .len, [x] => match seqOf old S x with
    | some xs => .ok (.int xs.length) S
    | none => .bad
  | .abs, [.int i] => .ok (.int (if i < 0 then -i else i)) S
  | .max2, [.int i, .int j] => .ok (.int (if j > i then j else i)) S
  | .min2, [.int i, .int j] => .ok (.int (if j < i then j else i)) S
  | .int1, [.int i] => .ok (.int i) S
  | .int1, [.bl b] => .ok (.int (if b then 1 else 0)) S
  | .tuple, [x] => match seqOf old S x with
    | some xs => .ok (.tup xs) S
    | none => .bad
  | .list, [x] => match seqOf old S x with
    | some xs => .ok (.tmp xs) S
    | none => .bad
  | .sum, [x] => match lstRo old S x with
    | none => .bad
    | some xs => match intsOf xs with
      | some ns => .ok (.int ns.sum) S
      | none => .bad
  | .all, [x] => match lstRo old S x with
    | none => .bad
    | some xs => match bools xs with
      | some bs => .ok (.bl (bs.all id)) S
      | none => .bad
  | .any, [x] => match lstRo old S x with
    | none => .bad
    | some xs => match bools xs with
      | some bs => .ok (.bl (bs.any id)) S
      | none => .bad
  | .lrng, [.int n] => if decide (-4611686018427387904 ≤ n) && decide (n ≤ 16777216) then .ok (.tmp ((List.range n.toNat).map fun k : Nat => D.int (k : Int))) S else .bad
  | _, _ => .bad
def isiV (t : Ty) : D → Option Bool
  | .non => some false
  | .bl _ => some (match t with | .bool => true | .int => true | _ => false)
  | .int _ => some (match t with | .int => true | _ => false)
  | .str _ => some (match t with | .str => true | _ => false)
  | .tup _ => some (match t with | .tuple => true | _ => false)
  | .lst _ => some (match t with | .list => true | _ => false)
  | .tmp _ => some (match t with | .list => true | _ => false)
  | _ => none
/-- the place of an index, as Python counts -/
def ixN (n : Nat) (i : Int) : Option Nat := if 0 ≤ i then (if i < n then some i.toNat else none) else if -(n : Int) ≤ i then some (i + n).toNat else none
def idxV (old : Sto) (x i : D) (S : Sto) : R D := match i with
  | .int i => match x with
    | .str _ => .bad
    | x => match seqOf old S x with
      | none => .bad
      | some xs => match ixN xs.length i with
        | none => .bad
        | some k => match xs[k]? with
          | some d => .ok d S
          | none => .bad
  | _ => .bad
/-- where a slice's end lies -/
def sIx (n d : Nat) : Option Int → Nat
  | none => d
  | some i => if i < 0 then (i + n).toNat else min i.toNat n
def cut (xs : List D) (lo hi : Option Int) : List D := (xs.drop (sIx xs.length 0 lo)).take (sIx xs.length xs.length hi - sIx xs.length 0 lo)
def sliV (old : Sto) (x : D) (lo hi : Option Int) (S : Sto) : R D := match x with
  | .tup xs => .ok (.tup (cut xs lo hi)) S
  | x => match lstRo old S x with
    | some xs => .ok (.tmp (cut xs lo hi)) S
    | none => .bad

/-! ### what is walked -/
def isT : D → Bool
  | .tup _ => true
  | _ => false
inductive It where
  | seq (d : D) | rng (lo st : Int) (n : Nat) | enu (d : D) | zip (x y : D)
def It.get (old S : Sto) (k : Nat) : It → Option (Option D)
  | .seq d => (seqOf old S d).map (·[k]?)
  | .rng lo st n => some (if k < n then some (.int (lo + (k : Int) * st)) else none)
  | .enu d => match seqOf old S d with
    | none => none
    | some xs => some (match xs[k]? with
      | some x => some (.tup [.int (k : Int), x])
      | none => none)
  | .zip x y => match seqOf old S x with
    | none => none
    | some xs => match seqOf old S y with
      | none => none
      | some ys => some (match xs[k]?, ys[k]? with
        | some a, some b => some (.tup [a, b])
        | _, _ => none)
def It.size (old S : Sto) : It → Nat
  | .seq d => ((seqOf old S d).getD []).length
  | .rng _ _ n => n
  | .enu d => ((seqOf old S d).getD []).length
  | .zip x y => min ((seqOf old S x).getD []).length ((seqOf old S y).getD []).length
def setAll : List Nat → List D → Env → Option Env
  | [], [], env => some env
  | i :: is, d :: ds, env => setAll is ds (env.set i (some d))
  | _, _, _ => none
def Tg.put : Tg → D → Env → Option Env
  | .nm i, d, env => some (env.set i (some d))
  | .tu is, .tup ds, env => setAll is ds env
  | _, _, _ => none
def wipe (env : Env) : List Nat → Env
  | [] => env
  | v :: vs => (wipe env vs).set v none

/-- a comprehension's turns -/
def cloop (old : Sto) (it : It) (turn : D → Sto → R (Option D)) : Nat → Nat → Sto → R (List D)
  | 0, k, S => match it.get old S k with
    | some none => .ok [] S
    | _ => .bad
  | f + 1, k, S => match it.get old S k with
    | none => .bad
    | some none => .ok [] S
    | some (some x) => match turn x S with
      | .ok none S1 => cloop old it turn f (k + 1) S1
      | .ok (some y) S1 => match cloop old it turn f (k + 1) S1 with
        | .ok ys S2 => .ok (y :: ys) S2
        | .exc c S2 => .exc c S2
        | .bad => .bad
      | .exc c S1 => .exc c S1
      | .bad => .bad
/-- sorted -/
def insTr (x : D × Tr) : List (D × Tr) → Option (List (D × Tr))
  | [] => some [x]
  | y :: ys => match Tr.lt x.2 y.2 with
    | none => none
    | some true => some (x :: y :: ys)
    | some false => match insTr x ys with
      | none => none
      | some zs => some (y :: zs)
def sortTr : List (D × Tr) → Option (List (D × Tr))
  | [] => some []
  | x :: xs => match sortTr xs with
    | none => none
    | some ys => insTr x ys
def srtV (xs : List D) (rev : Bool) : Option (List D) := match toTrs xs with
  | none => none
  | some ts => match sortTr (xs.zip ts) with
    | none => none
    | some ys => some (if rev then (ys.map (·.1)).reverse else ys.map (·.1))

/-! ### methods of lists -/
/-- a new content for the list at place a -/
def wr (old S : Sto) (a : Nat) (xs : List D) : Sto := S.set (a - old.length) (.lst xs)
/-- the items of a list, and a thing, as whole data -/
def pair (old S : Sto) (o x : D) : Option (List PyData × PyData) := match toPy old S 60 o with
  | some (.list qs) => match toPy old S 60 x with
    | some p => some (qs, p)
    | none => none
  | _ => none
def metV (old : Sto) (m : Met) (o : D) (vs : List D) (S : Sto) : R D := match m, vs with
  | .index, [x] => match pair old S o x with
    | some (qs, p) => if Nat.blt (qs.findIdx fun z => PyData.eqv z p) qs.length then .ok (.int ((qs.findIdx fun z => PyData.eqv z p : Nat) : Int)) S else .bad
    | none => .bad
  | .count, [x] => match pair old S o x with
    | some (qs, p) => .ok (.int ((qs.countP fun z => PyData.eqv z p : Nat) : Int)) S
    | none => .bad
  | m, vs => match o with
    | .lst a => if a < old.length then .bad else match S[a - old.length]? with
      | some (.lst xs) => match m, vs with
        | .append, [x] => if Nat.blt xs.length 16777216 then .ok .non (wr old S a (xs ++ [x])) else .bad
        | .extend, [y] => match lstOf old S y with
          | some ys => if SL (xs.length + ys.length) then .ok .non (wr old S a (xs ++ ys)) else .bad
          | none => .bad
        | .pop, [] => match xs[xs.length - 1]? with
          | some y => .ok y (wr old S a xs.dropLast)
          | none => .bad
        | .popat, [.int i] => if SL xs.length then (match ixN xs.length i with
          | some k => match xs[k]? with
            | some y => .ok y (wr old S a (xs.eraseIdx k))
            | none => .bad
          | none => .bad) else .bad
        | .insert, [.int i, x] => if decide (0 ≤ i) && decide (i ≤ 16777216) && Nat.blt xs.length 16777216 then .ok .non (wr old S a (xs.take i.toNat ++ [x] ++ xs.drop i.toNat)) else .bad
        | .reverse, [] => .ok .non (wr old S a xs.reverse)
        | .clear, [] => .ok .non (wr old S a [])
        | .remove, [x] => match pair old S o x with
          | some (qs, p) => if Nat.blt (qs.findIdx fun z => PyData.eqv z p) qs.length then .ok .non (wr old S a (xs.eraseIdx (qs.findIdx fun z => PyData.eqv z p))) else .bad
          | none => .bad
        | _, _ => .bad
      | _ => .bad
    | _ => .bad
def putV (old : Sto) (o i v : D) (S : Sto) : Option Sto := match o, i with
  | .lst a, .int i => if a < old.length then none else match S[a - old.length]? with
    | some (.lst xs) => match ixN xs.length i with
      | some k => some (wr old S a (xs.set k v))
      | none => none
    | _ => none
  | _, _ => none

/-! ### evaluation -/
def bnd {α β : Type} (r : R α) (f : α → Sto → R β) : R β := match r with
  | .ok a S => f a S
  | .exc c S => .exc c S
  | .bad => .bad
def opt {α : Type} (o : Option α) (S : Sto) : R α := match o with
  | some a => .ok a S
  | none => .bad
section
variable (cp : Nat → List D → Sto → R D) (ci : Nat → List D → Sto → Sto → R D) (old : Sto)
mutual
def ev : E → Env → Sto → R D
  | .var i, env, S => match env[i]? with
    | some (some d) => .ok d S
    | _ => .bad
  | .lit d, _, S => if d.pure = true then .ok d S else .bad
  | .glo d, _, S => if d.pure = true then .ok d S else .bad
  | .bin o a b, env, S => bnd (ev a env S) fun x S1 => bnd (ev b env S1) fun y S2 => opV old o x y S2
  | .neg a, env, S => bnd (ev a env S) fun x S1 => match x with
    | .int i => .ok (.int (-i)) S1
    | _ => .bad
  | .cmp o a b, env, S => bnd (ev a env S) fun x S1 => bnd (ev b env S1) fun y S2 => match cmpV old o x y S2 with
    | some r => .ok (.bl r) S2
    | none => .bad
  | .chn o p a b c, env, S => bnd (ev a env S) fun x S1 => bnd (ev b env S1) fun y S2 => match cmpV old o x y S2 with
    | some true => bnd (ev c env S2) fun z S3 => match cmpV old p y z S3 with
      | some r => .ok (.bl r) S3
      | none => .bad
    | some false => .ok (.bl false) S2
    | none => .bad
  | .and a b, env, S => bnd (ev a env S) fun x S1 => match x with
    | .bl k => if k = true then ev b env S1 else .ok (.bl false) S1
    | _ => .bad
  | .or a b, env, S => bnd (ev a env S) fun x S1 => match x with
    | .bl k => if k = true then .ok (.bl true) S1 else ev b env S1
    | _ => .bad
  | .not a, env, S => bnd (ev a env S) fun x S1 => match x with
    | .bl b => .ok (.bl !b) S1
    | _ => .bad
  | .ife c a b, env, S => bnd (ev c env S) fun x S1 => match truth old S1 x with
    | some k => if k = true then ev a env S1 else ev b env S1
    | none => .bad
  | .tup es, env, S => bnd (evs es env S) fun ds S1 => if SL ds.length then .ok (.tup ds) S1 else .bad
  | .lst es, env, S => bnd (evs es env S) fun ds S1 => if SL ds.length then .ok (.tmp ds) S1 else .bad
  | .idx a b, env, S => bnd (ev a env S) fun x S1 => bnd (ev b env S1) fun y S2 => idxV old x y S2
  | .sli a lo hi, env, S => bnd (ev a env S) fun x S1 => bnd (evo lo env S1) fun l S2 => bnd (evo hi env S2) fun h S3 => sliV old x l h S3
  | .call f es, env, S => bnd (evs es env S) fun ds S1 => match cp f ds (old ++ S1) with
    | .ok d more => .ok d (S1 ++ more)
    | .exc c _ => .exc c S1
    | .bad => .bad
  | .calli f es, env, S => bnd (evs es env S) fun ds S1 => ci f ds old S1
  | .blt f es, env, S => bnd (evr es env S) fun ds S1 => bltV old f ds S1
  | .isi a t, env, S => bnd (ev a env S) fun x S1 => match isiV t x with
    | some r => .ok (.bl r) S1
    | none => .bad
  | .met m o es, env, S => bnd (ev o env S) fun x S1 => match x with
    | .lst a => bnd (evs es env S1) fun ds S2 => metV old m (.lst a) ds S2
    | _ => .bad
  | .ext o e, env, S => bnd (ev o env S) fun x S1 => match x with
    | .lst a => bnd (ev e env S1) fun y S2 => metV old .extend (.lst a) [y] S2
    | _ => .bad
  | .srt a rev, env, S => bnd (ev a env S) fun x S1 => match lstRo old S1 x with
    | some xs => match srtV xs rev with
      | some ys => .ok (.tmp ys) S1
      | none => .bad
    | none => .bad
  | .comp vs it tg cond elt, env, S => bnd (evi it env S) fun j S1 => if SL (j.size old S1) then
        match cloop old j (fun x S => match tg.put x (wipe env vs) with
          | none => .bad
          | some env2 => match evc cond env2 S with
            | .ok true S2 => match ev elt env2 S2 with
              | .ok y S3 => match own old y S3 with
                | .ok z S4 => .ok (some z) S4
                | _ => .bad
              | _ => .bad
            | .ok false S2 => .ok none S2
            | _ => .bad) (j.size old S1) 0 S1 with
        | .ok ys S2 => .ok (.tmp ys) S2
        | _ => .bad
      else .bad
/-- an end of a slice -/
def evo : Eo → Env → Sto → R (Option Int)
  | .no, _, S => .ok none S
  | .of e, env, S => bnd (ev e env S) fun x S1 => match x with
    | .int i => .ok (some i) S1
    | _ => .bad
/-- a comprehension's test -/
def evc : Eo → Env → Sto → R Bool
  | .no, _, S => .ok true S
  | .of e, env, S => bnd (ev e env S) fun x S1 => match truth old S1 x with
    | some b => .ok b S1
    | none => .bad
/-- items that are held -/
def evs : Es → Env → Sto → R (List D)
  | .nil, _, S => .ok [] S
  | .cons e es, env, S => bnd (ev e env S) fun x S1 => bnd (own old x S1) fun y S2 => bnd (evs es env S2) fun ys S3 => .ok (y :: ys) S3
/-- items that are only looked at -/
def evr : Es → Env → Sto → R (List D)
  | .nil, _, S => .ok [] S
  | .cons e es, env, S => bnd (ev e env S) fun x S1 => bnd (evr es env S1) fun ys S2 => .ok (x :: ys) S2
def evi : I → Env → Sto → R It
  | .seq e, env, S => bnd (ev e env S) fun x S1 => match seqOf old S1 x with
      | some _ => .ok (.seq x) S1
      | none => .bad
  | .rng1 a, env, S => bnd (ev a env S) fun x S1 => match x with
    | .int j => if decide (-4611686018427387904 ≤ j) && decide (j < 4611686018427387904) then .ok (.rng 0 1 j.toNat) S1 else .bad
    | _ => .bad
  | .rng2 a b, env, S => bnd (ev a env S) fun x S1 => bnd (ev b env S1) fun y S2 => match x, y with
    | .int i, .int j => if decide (-4611686018427387904 ≤ i) && decide (i < 4611686018427387904) && decide (-4611686018427387904 ≤ j) && decide (j < 4611686018427387904) then .ok (.rng i 1 (j - i).toNat) S2 else .bad
    | _, _ => .bad
  | .rng3 a b c, env, S => bnd (ev a env S) fun x S1 => bnd (ev b env S1) fun y S2 => bnd (ev c env S2) fun z S3 => match x, y, z with
    | .int i, .int j, .int k => if decide (k = -1) && decide (-1000000 ≤ i) && decide (i ≤ 1000000) && decide (-1000000 ≤ j) && decide (j ≤ 1000000) then .ok (.rng i (-1) (i - j).toNat) S3 else .bad
    | _, _, _ => .bad
  | .enu e, env, S => bnd (ev e env S) fun x S1 => match seqOf old S1 x with
      | some _ => .ok (.enu x) S1
      | none => .bad
  | .zip a b, env, S => bnd (ev a env S) fun x S1 => bnd (ev b env S1) fun y S2 => match seqOf old S2 x with
        | some _ => match seqOf old S2 y with
          | some _ => if isT x == isT y then .ok (.zip x y) S2 else .bad
          | none => .bad
        | none => .bad
end

/-- how a block ends -/
inductive O where
  | nx (env : Env) (S : Sto) | rt (d : D) (S : Sto) | bk (env : Env) (S : Sto) | ct (env : Env) (S : Sto) | exc (c : Nat) (env : Env) (S : Sto) | bad
def floop (it : It) (tg : Tg) (body : Env → Sto → O) : Nat → Nat → Env → Sto → O
  | 0, k, env, S => match it.get old S k with
    | some none => .nx env S
    | _ => .bad
  | f + 1, k, env, S => match it.get old S k with
    | none => .bad
    | some none => .nx env S
    | some (some x) => match tg.put x env with
      | none => .bad
      | some env1 => match body env1 S with
        | .nx env2 S2 => floop it tg body f (k + 1) env2 S2
        | .ct env2 S2 => floop it tg body f (k + 1) env2 S2
        | .bk env2 S2 => .nx env2 S2
        | o => o
def wloop (test : Env → Sto → R Bool) (body : Env → Sto → O) : Nat → Env → Sto → O
  | 0, _, _ => .bad
  | f + 1, env, S => match test env S with
    | .ok false S1 => .nx env S1
    | .ok true S1 => match body env S1 with
      | .nx env2 S2 => wloop test body f env2 S2
      | .ct env2 S2 => wloop test body f env2 S2
      | .bk env2 S2 => .nx env2 S2
      | o => o
    | .exc c S1 => .exc c env S1
    | .bad => .bad
def bndO {α : Type} (r : R α) (env : Env) (f : α → Sto → O) : O := match r with
  | .ok a S => f a S
  | .exc c S => .exc c env S
  | .bad => .bad
variable (fu : Nat)
mutual
def ex : T → Env → Sto → O
  | .set i e, env, S => bndO (ev cp ci old e env S) env fun x S1 => bndO (own old x S1) env fun y S2 => .nx (env.set i (some y)) S2
  | .unp is e, env, S => bndO (ev cp ci old e env S) env fun x S1 => match x with
    | .tup ds => match setAll is ds env with
      | some env2 => .nx env2 S1
      | none => .bad
    | _ => .bad
  | .put o i e, env, S => bndO (ev cp ci old e env S) env fun x S1 => bndO (own old x S1) env fun y S2 =>
      bndO (ev cp ci old o env S2) env fun p S3 => bndO (ev cp ci old i env S3) env fun j S4 => match putV old p j y S4 with
        | some S5 => .nx env S5
        | none => .bad
  | .exp e, env, S => bndO (ev cp ci old e env S) env fun _ S1 => .nx env S1
  | .ret e, env, S => bndO (ev cp ci old e env S) env fun x S1 => .rt x S1
  | .retn, env, S => .rt .non S
  | .ife c a b, env, S => bndO (ev cp ci old c env S) env fun x S1 => match truth old S1 x with
      | some k => if k = true then exs a env S1 else exs b env S1
      | none => .bad
  | .fo it tg b, env, S => bndO (evi cp ci old it env S) env fun j S1 => floop old j tg (fun env S => exs b env S) (j.size old S1) 0 env S1
  | .wh c b, env, S => wloop (fun env S => evc cp ci old (.of c) env S) (fun env S => exs b env S) fu env S
  | .aug i o e, env, S => match env[i]? with
    | some (some x) => bndO (ev cp ci old e env S) env fun y S1 => bndO (opV old o x y S1) env fun z S2 => bndO (own old z S2) env fun z S3 => .nx (env.set i (some z)) S3
    | _ => .bad
  | .rai c, env, S => .exc c env S
  | .brk, env, S => .bk env S
  | .cnt, env, S => .ct env S
  | .pas, env, S => .nx env S
def exs : B → Env → Sto → O
  | .nil, env, S => .nx env S
  | .seq t b, env, S => match ex t env S with
    | .nx env2 S2 => exs b env2 S2
    | o => o
end
end
def fin (o : O) : R D := match o with
  | .rt d S => .ok d S
  | .nx _ S => .ok .non S
  | .exc c _ S => .exc c S
  | _ => .bad
/-- what a call that changes nothing of what stood leaves: only what is told -/
def tidy (S : Sto) (d : D) (more : Sto) : R D := match d with
  | .tmp xs => if D.pureAll xs then .ok (.tmp xs) [] else .ok (.tmp xs) more
  | .lst a => if a < S.length then .ok (.lst a) [] else match more[a - S.length]? with
    | some (.lst xs) => if D.pureAll xs then .ok (.tmp xs) [] else .ok (.lst a) more
    | _ => .bad
  | d => if d.pure then .ok d [] else .ok d more
structure Tab where
  fns : Nat → Option Fn
  fu : Nat
def start (n : Nat) (vs : List D) : Env := vs.map some ++ List.replicate (n - vs.length) none
mutual
def cI (G : Tab) : Nat → Nat → List D → Sto → Sto → R D
  | 0, _, _, _, _ => .bad
  | d + 1, f, vs, old, S => match G.fns f with
    | none => .bad
    | some fn => if Nat.beq vs.length fn.ar then fin (exs (cP G d) (cI G d) old G.fu fn.body (start fn.n vs) S) else .bad
def cP (G : Tab) : Nat → Nat → List D → Sto → R D
  | 0, _, _, _ => .bad
  | d + 1, f, vs, S => match G.fns f with
    | none => .bad
    | some fn => if Nat.beq vs.length fn.ar then
        match fin (exs (cP G d) (cI G d) S G.fu fn.body (start fn.n vs) []) with
        | .ok r more => tidy S r more
        | .exc c _ => .exc c []
        | .bad => .bad
      else .bad
end
end Z
/-! Z2: what the data and the store mean in the hand layer. -/
namespace Z
open PySem PySem.Spec PyProof.Rows
open L2 (V Hp HO upd upd_same upd_ne SqL SqT Rd VK TE TT TA TS Ends WX XK)

/-- what stands fast: the written part, where defs and classes are -/
structure Cg where
  K : PySem.W.Frag
  fa : Nat → Option Addr
  ca : Nat → Option Addr

mutual
def RD (c : Cg) (H : Hp) (m : List Addr) : D → V → Prop
  | .non, v => v = .non
  | .bl b, v => v = .bl b
  | .int i, v => v = .int i
  | .str x, v => v = .str x
  | .tup ds, v => ∃ a vs, v = .ref a ∧ SqT c.K H a vs ∧ RDs c H m ds vs
  | .lst i, v => ∃ a, m[i]? = some a ∧ v = .ref a
  | .tmp _, _ => False
  | .fn k, v => ∃ a, c.fa k = some a ∧ v = .ref a
  | .exc _, _ => False
def RDs (c : Cg) (H : Hp) (m : List Addr) : List D → List V → Prop
  | [], vs => vs = []
  | d :: ds, vs => ∃ v r, vs = v :: r ∧ RD c H m d v ∧ RDs c H m ds r
end
/-- a value at an expression's end: H0 is the heap at its start -/
def RV (c : Cg) (H0 H : Hp) (m mn : List Addr) (d : D) (v : V) : Prop := match d with
  | .tmp xs => ∃ a vs, v = .ref a ∧ H0 a = none ∧ a ∉ mn ∧ H a = some (.lst vs) ∧ RDs c H m xs vs
  | d => RD c H m d v
structure Ext (mn : List Addr) (H : Hp) (mn' : List Addr) (H' : Hp) : Prop where
  pre : mn <+: mn'
  fresh : ∀ a ∈ mn', a ∈ mn ∨ H a = none
  keep : ∀ a o, H a = some o → a ∉ mn → H' a = some o
structure NewOk (c : Cg) (H : Hp) (m mn : List Addr) (S : Sto) : Prop where
  nd : mn.Nodup
  len : mn.length = S.length
  at_ : ∀ (i : Nat) (a : Addr), mn[i]? = some a → ∃ xs vs, S[i]? = some (.lst xs) ∧ H a = some (.lst vs) ∧ RDs c H m xs vs
/-- a list that is read, never written -/
def Frz (c : Cg) (H : Hp) (a : Addr) (vs : List V) : Prop := (∃ o, H a = some (.frz o (.lst vs))) ∨
  ∃ (o : Obj) (its : Array Value) (n : Nat), c.K.lookup a = some o ∧ o.cls = .type "list" ∧ o.dict = none ∧ o.data = .seq its n ∧ its.size ≤ sizeLine ∧ L2.Vals vs its.toList
structure OldOk (c : Cg) (H : Hp) (m mo mn : List Addr) (old : Sto) : Prop where
  len : mo.length = old.length
  at_ : ∀ (i : Nat) (a : Addr), mo[i]? = some a → (∃ xs vs, old[i]? = some (.lst xs) ∧ H a = some (.lst vs) ∧ a ∉ mn ∧ RDs c H m xs vs) ∨ ∃ xs vs, old[i]? = some (.ro xs) ∧ Frz c H a vs ∧ RDs c H m xs vs
structure EnvOk (c : Cg) (H : Hp) (m : List Addr) (env : Env) (σ : L2.St) : Prop where
  len : env.length = σ.length
  at_ : ∀ (i : Nat) (d : D), env[i]? = some (some d) → ∃ v, σ[i]? = some (some v) ∧ RD c H m d v
structure StOk (c : Cg) (H : Hp) (mo mn : List Addr) (old S : Sto) (env : Env) (σ : L2.St) : Prop where
  o : OldOk c H (mo ++ mn) mo mn old
  n : NewOk c H (mo ++ mn) mn S
  e : EnvOk c H (mo ++ mn) env σ

section
variable {c : Cg} {H H' H1 H2 H0 : Hp} {m m' mo mn mn' mn1 mn2 : List Addr} {old S S' : Sto} {env : Env} {σ : L2.St} {d : D} {v : V} {ds : List D} {vs : List V}
theorem Ext.refl : Ext mn H mn H := ⟨List.prefix_rfl, fun a h => .inl h, fun a o h _ => h⟩
theorem Ext.trans (x : Ext mn H mn1 H1) (y : Ext mn1 H1 mn2 H2) : Ext mn H mn2 H2 := by
  refine ⟨x.pre.trans y.pre, fun a h => ?_, fun a o h hn => ?_⟩
  · rcases y.fresh a h with h1 | h1
    · exact x.fresh a h1
    · by_cases ha : a ∈ mn
      · exact .inl ha
      · refine .inr ?_
        cases e : H a with
        | none => rfl
        | some o =>
          have z := x.keep a o e ha
          rw [h1] at z; cases z
  · have h1 := x.keep a o h hn
    refine y.keep a o h1 fun hm => ?_
    rcases x.fresh a hm with z | z
    · exact hn z
    · rw [z] at h; cases h
theorem NewOk.there (n : NewOk c H m mn S) {a : Addr} (h : a ∈ mn) : ∃ vs, H a = some (.lst vs) := by
  obtain ⟨i, hi⟩ := List.getElem?_of_mem h
  obtain ⟨xs, vs, _, h2, _⟩ := n.at_ i a hi
  exact ⟨vs, h2⟩
/-- tuples stay -/
theorem Ext.tup (x : Ext mn H mn' H') (n : NewOk c H m mn S) {a : Addr} {xs : List V} (h : SqT c.K H a xs) : SqT c.K H' a xs := by
  rcases h with (h | ⟨o, h⟩) | h
  · exact .inl (.inl (x.keep a _ h fun hm => by obtain ⟨vs, e⟩ := n.there hm; rw [e] at h; cases h))
  · exact .inl (.inr ⟨o, x.keep a _ h fun hm => by obtain ⟨vs, e⟩ := n.there hm; rw [e] at h; cases h⟩)
  · exact .inr h
theorem pre_app (h : mn <+: mn') : (mo ++ mn) <+: (mo ++ mn') := by
  obtain ⟨t, rfl⟩ := h
  exact ⟨t, by rw [List.append_assoc]⟩
theorem pre_get (h : m <+: m') {i : Nat} {a : Addr} (e : m[i]? = some a) : m'[i]? = some a := by
  obtain ⟨t, rfl⟩ := h
  rw [List.getElem?_append_left (by exact (List.getElem?_eq_some_iff.mp e).1)]
  exact e
mutual
theorem RD.mono (ht : ∀ a xs, SqT c.K H a xs → SqT c.K H' a xs) (hm : m <+: m') : ∀ (d : D) (v : V), RD c H m d v → RD c H' m' d v
  | .non, v, h => h
  | .bl b, v, h => h
  | .int i, v, h => h
  | .str x, v, h => h
  | .tup ds, v, h => by
    obtain ⟨a, vs, e, h1, h2⟩ := h
    exact ⟨a, vs, e, ht a vs h1, RDs.mono ht hm ds vs h2⟩
  | .lst i, v, h => by
    obtain ⟨a, e, h1⟩ := h
    exact ⟨a, pre_get hm e, h1⟩
  | .tmp _, v, h => h.elim
  | .fn k, v, h => h
  | .exc _, v, h => h.elim
theorem RDs.mono (ht : ∀ a xs, SqT c.K H a xs → SqT c.K H' a xs) (hm : m <+: m') : ∀ (ds : List D) (vs : List V), RDs c H m ds vs → RDs c H' m' ds vs
  | [], vs, h => h
  | d :: ds, vs, h => by
    obtain ⟨v, r, e, h1, h2⟩ := h
    exact ⟨v, r, e, RD.mono ht hm d v h1, RDs.mono ht hm ds r h2⟩
end
theorem RD.ext (x : Ext mn H mn' H') (n : NewOk c H (mo ++ mn) mn S) (h : RD c H (mo ++ mn) d v) : RD c H' (mo ++ mn') d v := RD.mono (fun _ _ => x.tup n) (pre_app x.pre) d v h
theorem RDs.ext (x : Ext mn H mn' H') (n : NewOk c H (mo ++ mn) mn S) (h : RDs c H (mo ++ mn) ds vs) : RDs c H' (mo ++ mn') ds vs := RDs.mono (fun _ _ => x.tup n) (pre_app x.pre) ds vs h
theorem RDs.len : ∀ {ds : List D} {vs : List V}, RDs c H m ds vs → ds.length = vs.length
  | [], vs, h => by subst h; rfl
  | d :: ds, vs, h => by
    obtain ⟨v, r, rfl, _, h2⟩ := h
    rw [List.length_cons, List.length_cons, RDs.len h2]
theorem RDs.get : ∀ {ds : List D} {vs : List V} {i : Nat} {d : D}, RDs c H m ds vs → ds[i]? = some d → ∃ v, vs[i]? = some v ∧ RD c H m d v
  | [], vs, i, d, h, e => by simp at e
  | x :: ds, vs, 0, d, h, e => by
    obtain ⟨v, r, rfl, h1, h2⟩ := h
    simp only [List.getElem?_cons_zero, Option.some.injEq] at e
    subst e
    exact ⟨v, rfl, h1⟩
  | x :: ds, vs, i + 1, d, h, e => by
    obtain ⟨v, r, rfl, h1, h2⟩ := h
    rw [List.getElem?_cons_succ] at e
    obtain ⟨u, e1, e2⟩ := RDs.get h2 e
    exact ⟨u, by rw [List.getElem?_cons_succ]; exact e1, e2⟩
theorem RDs.getV {ds : List D} {vs : List V} {i : Nat} {v : V} (h : RDs c H m ds vs) (e : vs[i]? = some v) : ∃ d, ds[i]? = some d ∧ RD c H m d v := by
  have hl := h.len
  have hi := (List.getElem?_eq_some_iff.mp e).1
  have h2 : ds[i]? = some ds[i] := List.getElem?_eq_getElem (by omega)
  obtain ⟨u, e1, e2⟩ := h.get h2
  rw [e] at e1; cases e1
  exact ⟨_, h2, e2⟩
theorem RDs.noneV {ds : List D} {vs : List V} {i : Nat} (h : RDs c H m ds vs) (e : ds[i]? = none) : vs[i]? = none := by
  have hl := h.len
  have := List.getElem?_eq_none_iff.mp e
  exact List.getElem?_eq_none_iff.mpr (by omega)
theorem RDs.app : ∀ {ds es : List D} {vs us : List V}, RDs c H m ds vs → RDs c H m es us → RDs c H m (ds ++ es) (vs ++ us)
  | [], es, vs, us, h, h2 => by subst h; exact h2
  | d :: ds, es, vs, us, h, h2 => by
    obtain ⟨v, r, rfl, h1, h3⟩ := h
    exact ⟨v, r ++ us, rfl, h1, RDs.app h3 h2⟩
theorem RDs.one (h : RD c H m d v) : RDs c H m [d] [v] := ⟨v, [], rfl, h, rfl⟩
theorem RDs.take : ∀ {ds : List D} {vs : List V} (n : Nat), RDs c H m ds vs → RDs c H m (ds.take n) (vs.take n)
  | _, vs, 0, h => by rw [List.take_zero, List.take_zero]; rfl
  | [], vs, n + 1, h => by subst h; rfl
  | d :: ds, vs, n + 1, h => by
    obtain ⟨v, r, rfl, h1, h3⟩ := h
    exact ⟨v, r.take n, rfl, h1, RDs.take n h3⟩
theorem RDs.drop : ∀ {ds : List D} {vs : List V} (n : Nat), RDs c H m ds vs → RDs c H m (ds.drop n) (vs.drop n)
  | _, vs, 0, h => h
  | [], vs, n + 1, h => by subst h; rfl
  | d :: ds, vs, n + 1, h => by
    obtain ⟨v, r, rfl, h1, h3⟩ := h
    exact RDs.drop n h3
theorem RDs.rev : ∀ {ds : List D} {vs : List V}, RDs c H m ds vs → RDs c H m ds.reverse vs.reverse
  | [], vs, h => by subst h; rfl
  | d :: ds, vs, h => by
    obtain ⟨v, r, rfl, h1, h3⟩ := h
    rw [List.reverse_cons, List.reverse_cons]
    exact (RDs.rev h3).app (RDs.one h1)
theorem RDs.dropLast {ds : List D} {vs : List V} (h : RDs c H m ds vs) : RDs c H m ds.dropLast vs.dropLast := by
  rw [List.dropLast_eq_take, List.dropLast_eq_take, h.len]
  exact h.take _
theorem RDs.set : ∀ {ds : List D} {vs : List V} (i : Nat), RDs c H m ds vs → RD c H m d v → RDs c H m (ds.set i d) (vs.set i v)
  | [], vs, i, h, _ => by subst h; exact rfl
  | x :: ds, vs, 0, h, hd => by
    obtain ⟨u, r, rfl, h1, h3⟩ := h
    exact ⟨v, r, rfl, hd, h3⟩
  | x :: ds, vs, i + 1, h, hd => by
    obtain ⟨u, r, rfl, h1, h3⟩ := h
    exact ⟨u, r.set i v, rfl, h1, RDs.set i h3 hd⟩
theorem RDs.erase : ∀ {ds : List D} {vs : List V} (i : Nat), RDs c H m ds vs → RDs c H m (ds.eraseIdx i) (vs.eraseIdx i)
  | [], vs, i, h => by subst h; exact rfl
  | x :: ds, vs, 0, h => by
    obtain ⟨u, r, rfl, h1, h3⟩ := h
    exact h3
  | x :: ds, vs, i + 1, h => by
    obtain ⟨u, r, rfl, h1, h3⟩ := h
    exact ⟨u, r.eraseIdx i, rfl, h1, RDs.erase i h3⟩
theorem RDs.rep {ds : List D} {vs : List V} (h : RDs c H m ds vs) : ∀ k : Nat, RDs c H m (List.replicate k ds).flatten (List.replicate k vs).flatten
  | 0 => rfl
  | k + 1 => by
    rw [List.replicate_succ, List.replicate_succ, List.flatten_cons, List.flatten_cons]
    exact h.app (RDs.rep h k)
theorem RDs.of_get : ∀ {ds : List D} {vs : List V}, ds.length = vs.length → (∀ (i : Nat) (d : D) (v : V), ds[i]? = some d → vs[i]? = some v → RD c H m d v) → RDs c H m ds vs
  | [], [], _, _ => rfl
  | [], _ :: _, h, _ => by simp at h
  | _ :: _, [], h, _ => by simp at h
  | d :: ds, v :: vs, h, g => ⟨v, vs, rfl, g 0 d v rfl rfl, RDs.of_get (by simpa using h) fun i d v e1 e2 => g (i + 1) d v (by simpa using e1) (by simpa using e2)⟩
theorem RV.ext (x : Ext mn H1 mn' H') (n : NewOk c H1 (mo ++ mn) mn S) (h : RV c H0 H1 (mo ++ mn) mn d v) : RV c H0 H' (mo ++ mn') mn' d v := by
  cases d with
  | tmp xs =>
    obtain ⟨a, vs, e, h0, hn, h1, h2⟩ := h
    refine ⟨a, vs, e, h0, fun hm => ?_, x.keep a _ h1 hn, h2.ext x n⟩
    rcases x.fresh a hm with z | z
    · exact hn z
    · rw [h1] at z; cases z
  | non => exact h
  | bl _ => exact h
  | int _ => exact h
  | str _ => exact h
  | tup _ => exact RD.ext (d := .tup _) x n h
  | lst _ => exact RD.ext (d := .lst _) x n h
  | fn _ => exact h
  | exc _ => exact h
theorem RV.of (h : RD c H m d v) : RV c H0 H m mn d v := by
  cases d <;> first | exact h | exact h.elim
theorem RV.to (h : RV c H0 H m mn d v) (hd : ∀ xs, d ≠ .tmp xs) : RD c H m d v := by
  cases d <;> first | exact h | exact absurd rfl (hd _)
/-- a later start is an earlier one -/
theorem RV.back (h : RV c H1 H' m mn d v) (hb : ∀ a, H1 a = none → H0 a = none) : RV c H0 H' m mn d v := by
  cases d with
  | tmp xs =>
    obtain ⟨a, vs, e, h0, hn, h1, h2⟩ := h
    exact ⟨a, vs, e, hb a h0, hn, h1, h2⟩
  | _ => exact h
/-- what is free now was free -/
theorem Ext.free (x : Ext mn H mn' H') (n : NewOk c H' m' mn' S') {a : Addr} (h : H' a = none) : H a = none := by
  cases e : H a with
  | none => rfl
  | some o =>
    by_cases hm : a ∈ mn
    · obtain ⟨t, ht⟩ := x.pre
      obtain ⟨vs, z⟩ := n.there (a := a) (by rw [← ht]; exact List.mem_append_left _ hm)
      rw [h] at z; cases z
    · have z := x.keep a o e hm
      rw [h] at z; cases z
theorem OldOk.ext (x : Ext mn H mn' H') (n : NewOk c H (mo ++ mn) mn S) (o : OldOk c H (mo ++ mn) mo mn old) : OldOk c H' (mo ++ mn') mo mn' old := by
  refine ⟨o.len, fun i a e => ?_⟩
  rcases o.at_ i a e with ⟨xs, vs, h1, h2, h3, h4⟩ | ⟨xs, vs, h1, h2, h3⟩
  · refine .inl ⟨xs, vs, h1, x.keep a _ h2 h3, fun hm => ?_, h4.ext x n⟩
    rcases x.fresh a hm with z | z
    · exact h3 z
    · rw [h2] at z; cases z
  · refine .inr ⟨xs, vs, h1, ?_, h3.ext x n⟩
    rcases h2 with ⟨ob, h2⟩ | h2
    · exact .inl ⟨ob, x.keep a _ h2 fun hm => by obtain ⟨us, e⟩ := n.there hm; rw [e] at h2; cases h2⟩
    · exact .inr h2
theorem EnvOk.ext (x : Ext mn H mn' H') (n : NewOk c H (mo ++ mn) mn S) (o : EnvOk c H (mo ++ mn) env σ) : EnvOk c H' (mo ++ mn') env σ :=
  ⟨o.len, fun i d e => let ⟨v, h1, h2⟩ := o.at_ i d e; ⟨v, h1, h2.ext x n⟩⟩
theorem StOk.ext (x : Ext mn H mn' H') (s : StOk c H mo mn old S env σ) (n' : NewOk c H' (mo ++ mn') mn' S') : StOk c H' mo mn' old S' env σ := ⟨s.o.ext x s.n, n', s.e.ext x s.n⟩
theorem EnvOk.set (o : EnvOk c H m env σ) (h : RD c H m d v) (i : Nat) : EnvOk c H m (env.set i (some d)) (σ.set i (some v)) := by
  refine ⟨by rw [List.length_set, List.length_set]; exact o.len, fun j e hj => ?_⟩
  rw [List.getElem?_set] at hj
  rw [List.getElem?_set]
  by_cases hij : i = j
  · rw [if_pos hij] at hj
    rw [if_pos hij]
    by_cases hl : i < env.length
    · rw [if_pos hl] at hj
      rw [if_pos (by rw [← o.len]; exact hl)]
      simp only [Option.some.injEq] at hj
      subst hj
      exact ⟨v, rfl, h⟩
    · rw [if_neg hl] at hj; cases hj
  · rw [if_neg hij] at hj
    rw [if_neg hij]
    exact o.at_ j e hj
theorem EnvOk.wipe (o : EnvOk c H m env σ) : ∀ own : List Nat, EnvOk c H m (Z.wipe env own) (L2.wipe σ own)
  | [] => o
  | i :: is => by
    have ih := EnvOk.wipe o is
    refine ⟨?_, fun j e hj => ?_⟩
    · show ((Z.wipe env is).set i none).length = ((L2.wipe σ is).set i none).length
      rw [List.length_set, List.length_set]; exact ih.len
    · have hj' : ((Z.wipe env is).set i none)[j]? = some (some e) := hj
      rw [List.getElem?_set] at hj'
      show ∃ v, ((L2.wipe σ is).set i none)[j]? = some (some v) ∧ _
      rw [List.getElem?_set]
      by_cases hij : i = j
      · rw [if_pos hij] at hj'
        by_cases hl : i < (Z.wipe env is).length
        · rw [if_pos hl] at hj'; cases hj'
        · rw [if_neg hl] at hj'; cases hj'
      · rw [if_neg hij] at hj'
        rw [if_neg hij]
        exact ih.at_ j e hj'
end
end Z

namespace Z
open PySem PySem.Spec PyProof.Rows
open L2 (V Hp HO upd upd_same upd_ne SqL SqT Rd VK TE TT TA TS Ends WX XK)
section
variable {c : Cg} {H H' H1 H2 H0 : Hp} {m m' mo mn mn' mn1 mn2 : List Addr} {old S S' : Sto} {env : Env} {σ : L2.St} {d : D} {v : V} {ds : List D} {vs : List V}
/-- the store as one -/
structure S0 (c : Cg) (H : Hp) (mo mn : List Addr) (old S : Sto) : Prop where
  o : OldOk c H (mo ++ mn) mo mn old
  n : NewOk c H (mo ++ mn) mn S
theorem StOk.s (s : StOk c H mo mn old S env σ) : S0 c H mo mn old S := ⟨s.o, s.n⟩
theorem S0.ext (x : Ext mn H mn' H') (s : S0 c H mo mn old S) (n' : NewOk c H' (mo ++ mn') mn' S') : S0 c H' mo mn' old S' := ⟨s.o.ext x s.n, n'⟩
theorem Frz.sq {a : Addr} (h : Frz c H a vs) : SqL c.K H a vs := by
  rcases h with ⟨o, h⟩ | h
  · exact .inl (.inr ⟨o, h⟩)
  · exact .inr h
/-- what a cell's place holds -/
theorem S0.cell (s : S0 c H mo mn old S) {i : Nat} {ce : Cell} (e : at_ old S i = some ce) : ∃ a vs, (mo ++ mn)[i]? = some a ∧ RDs c H (mo ++ mn) ce.xs vs ∧
    ((ce = .lst ce.xs ∧ H a = some (.lst vs)) ∨ (ce = .ro ce.xs ∧ Frz c H a vs)) := by
  unfold at_ at e
  by_cases hi : i < old.length
  · rw [List.getElem?_append_left hi] at e
    have hm : i < mo.length := by rw [s.o.len]; exact hi
    have h1 : mo[i]? = some mo[i] := List.getElem?_eq_getElem hm
    have h2 : (mo ++ mn)[i]? = some mo[i] := by rw [List.getElem?_append_left hm]; exact h1
    rcases s.o.at_ i _ h1 with ⟨xs, vs, e1, e2, _, e4⟩ | ⟨xs, vs, e1, e2, e4⟩
    · rw [e] at e1; cases e1
      exact ⟨_, vs, h2, e4, .inl ⟨rfl, e2⟩⟩
    · rw [e] at e1; cases e1
      exact ⟨_, vs, h2, e4, .inr ⟨rfl, e2⟩⟩
  · rw [List.getElem?_append_right (by omega)] at e
    have hl := s.n.len
    have hs := (List.getElem?_eq_some_iff.mp e).1
    have hm : i - mo.length < mn.length := by rw [hl, s.o.len]; exact hs
    have h1 : mn[i - mo.length]? = some mn[i - mo.length] := List.getElem?_eq_getElem hm
    have h2 : (mo ++ mn)[i]? = some mn[i - mo.length] := by
      rw [List.getElem?_append_right (by rw [s.o.len]; omega)]; exact h1
    obtain ⟨xs, vs, e1, e2, e3⟩ := s.n.at_ _ _ h1
    rw [s.o.len] at e1
    rw [e] at e1; cases e1
    exact ⟨_, vs, h2, e3, .inl ⟨rfl, e2⟩⟩
/-- reading a list -/
theorem RV.lstRo (s : S0 c H mo mn old S) (r : RV c H0 H (mo ++ mn) mn d v) (e : lstRo old S d = some ds) : ∃ a vs, v = .ref a ∧ SqL c.K H a vs ∧ RDs c H (mo ++ mn) ds vs ∧ ((H a = some (.lst vs)) ∨ ∃ o, H a = some (.frz o (.lst vs)) ∨ ∃ o', c.K.lookup a = some o' ∧ o'.cls = .type "list") := by
  cases d with
  | tmp xs =>
    obtain ⟨a, vs, rfl, _, _, h1, h2⟩ := r
    simp only [Z.lstRo, Option.some.injEq] at e
    subst e
    exact ⟨a, vs, rfl, .inl (.inl h1), h2, .inl h1⟩
  | lst i =>
    obtain ⟨a, ha, rfl⟩ := r
    simp only [Z.lstRo] at e
    obtain ⟨ce, e1, e2⟩ := Option.map_eq_some_iff.mp e
    subst e2
    obtain ⟨b, vs, hb, h1, h2⟩ := s.cell e1
    rw [ha] at hb; cases hb
    rcases h2 with ⟨_, h2⟩ | ⟨_, h2⟩
    · exact ⟨a, vs, rfl, .inl (.inl h2), h1, .inl h2⟩
    · refine ⟨a, vs, rfl, h2.sq, h1, .inr ?_⟩
      rcases h2 with ⟨o, h2⟩ | ⟨o, _, _, h2, h3, _⟩
      · exact ⟨o, .inl h2⟩
      · exact ⟨o, .inr ⟨o, h2, h3⟩⟩
  | non => cases e
  | bl _ => cases e
  | int _ => cases e
  | str _ => cases e
  | tup _ => cases e
  | fn _ => cases e
  | exc _ => cases e
/-- a list proper -/
theorem RV.lstOf (s : S0 c H mo mn old S) (r : RV c H0 H (mo ++ mn) mn d v) (e : lstOf old S d = some ds) : ∃ a vs, v = .ref a ∧ H a = some (.lst vs) ∧ RDs c H (mo ++ mn) ds vs := by
  cases d with
  | tmp xs =>
    obtain ⟨a, vs, rfl, _, _, h1, h2⟩ := r
    simp only [Z.lstOf, Option.some.injEq] at e
    subst e
    exact ⟨a, vs, rfl, h1, h2⟩
  | lst i =>
    obtain ⟨a, ha, rfl⟩ := r
    simp only [Z.lstOf] at e
    cases e1 : Z.at_ old S i with
    | none => rw [e1] at e; cases e
    | some ce =>
      rw [e1] at e
      cases ce with
      | ro xs => cases e
      | lst xs =>
        simp only [Option.some.injEq] at e
        subst e
        obtain ⟨b, vs, hb, h1, h2⟩ := s.cell e1
        rw [ha] at hb; cases hb
        rcases h2 with ⟨_, h2⟩ | ⟨h2, _⟩
        · exact ⟨a, vs, rfl, h2, h1⟩
        · cases h2
  | non => cases e
  | bl _ => cases e
  | int _ => cases e
  | str _ => cases e
  | tup _ => cases e
  | fn _ => cases e
  | exc _ => cases e
theorem RV.seqOf (s : S0 c H mo mn old S) (r : RV c H0 H (mo ++ mn) mn d v) (e : seqOf old S d = some ds) : ∃ a vs, v = .ref a ∧ RDs c H (mo ++ mn) ds vs ∧
    ((SqL c.K H a vs ∧ Z.lstRo old S d = some ds) ∨ (SqT c.K H a vs ∧ d = .tup ds)) := by
  cases d with
  | tup xs =>
    obtain ⟨a, vs, rfl, h1, h2⟩ := r
    simp only [Z.seqOf, Option.some.injEq] at e
    subst e
    exact ⟨a, vs, rfl, h2, .inr ⟨h1, rfl⟩⟩
  | tmp xs =>
    obtain ⟨a, vs, h1, h2, h3, _⟩ := r.lstRo s e
    exact ⟨a, vs, h1, h3, .inl ⟨h2, e⟩⟩
  | lst i =>
    obtain ⟨a, vs, h1, h2, h3, _⟩ := r.lstRo s e
    exact ⟨a, vs, h1, h3, .inl ⟨h2, e⟩⟩
  | non => cases e
  | bl _ => cases e
  | int _ => cases e
  | str _ => cases e
  | fn _ => cases e
  | exc _ => cases e
/-- a new untracked-by-the-store thing is laid -/
theorem Ext.new {p : Addr} {o : HO} (hp : H p = none) : Ext mn H mn (upd H p o) := ⟨List.prefix_rfl, fun a h => .inl h, fun a u h _ => by
  rw [upd_ne (L2.ne_of_none h hp)]; exact h⟩
theorem NewOk.ext (x : Ext mn H mn H') (n : NewOk c H (mo ++ mn) mn S) (hk : ∀ a, a ∈ mn → H' a = H a) : NewOk c H' (mo ++ mn) mn S := by
  refine ⟨n.nd, n.len, fun i a e => ?_⟩
  obtain ⟨xs, vs, h1, h2, h3⟩ := n.at_ i a e
  exact ⟨xs, vs, h1, by rw [hk a (List.mem_of_getElem? e)]; exact h2, h3.ext x n⟩
theorem NewOk.new {p : Addr} {o : HO} (n : NewOk c H (mo ++ mn) mn S) (hp : H p = none) : NewOk c (upd H p o) (mo ++ mn) mn S := by
  refine n.ext (Ext.new hp) fun a ha => ?_
  obtain ⟨vs, e⟩ := n.there ha
  exact upd_ne (L2.ne_of_none e hp)
/-- a list just made is held -/
theorem own_ok {mn0 : List Addr} (s : S0 c H mo mn old S) (r : RV c H0 H (mo ++ mn) mn d v) (o0 : OldOk c H0 (mo ++ mn0) mo mn0 old) :
    ∃ y S', own old d S = .ok y S' ∧ ∃ mn', (mn <+: mn') ∧ (∀ a ∈ mn', a ∈ mn ∨ H0 a = none) ∧ S0 c H mo mn' old S' ∧ RD c H (mo ++ mn') y v ∧ (∀ xs, y ≠ .tmp xs) := by
  cases d with
  | tmp xs =>
    obtain ⟨a, vs, rfl, h0, hn, h1, h2⟩ := r
    refine ⟨_, _, rfl, mn ++ [a], ⟨[a], rfl⟩, fun b hb => ?_, ⟨⟨s.o.len, fun i b e => ?_⟩, ⟨?_, ?_, fun i b e => ?_⟩⟩, ⟨a, ?_, rfl⟩, fun xs z => by cases z⟩
    · rcases List.mem_append.mp hb with hb | hb
      · exact .inl hb
      · rw [List.mem_singleton.mp hb]; exact .inr h0
    · have hp : (mo ++ mn) <+: (mo ++ (mn ++ [a])) := pre_app ⟨[a], rfl⟩
      rcases s.o.at_ i b e with ⟨xs, us, e1, e2, e3, e4⟩ | ⟨xs, us, e1, e2, e4⟩
      · by_cases hba : b = a
        · exfalso
          subst hba
          rcases o0.at_ i b e with ⟨ys, ws, f1, f2, _, _⟩ | ⟨ys, ws, f1, _, _⟩
          · rw [h0] at f2; cases f2
          · rw [e1] at f1; cases f1
        · refine .inl ⟨xs, us, e1, e2, fun hm => ?_, e4.mono (fun _ _ q => q) hp⟩
          rcases List.mem_append.mp hm with hm | hm
          · exact e3 hm
          · exact hba (List.mem_singleton.mp hm)
      · exact .inr ⟨xs, us, e1, e2, e4.mono (fun _ _ q => q) hp⟩
    · exact List.nodup_append.mpr ⟨s.n.nd, by simp, fun x hx y hy => by rw [List.mem_singleton.mp hy]; intro z; subst z; exact hn hx⟩
    · rw [List.length_append, List.length_append, s.n.len]; rfl
    · have hp : (mo ++ mn) <+: (mo ++ (mn ++ [a])) := pre_app ⟨[a], rfl⟩
      by_cases hi : i < mn.length
      · rw [List.getElem?_append_left hi] at e
        obtain ⟨ys, us, e1, e2, e3⟩ := s.n.at_ i b e
        refine ⟨ys, us, ?_, e2, e3.mono (fun _ _ q => q) hp⟩
        rw [List.getElem?_append_left (by rw [← s.n.len]; exact hi)]; exact e1
      · rw [List.getElem?_append_right (by omega)] at e
        have hi2 : i - mn.length = 0 := by
          have := (List.getElem?_eq_some_iff.mp e).1
          simp at this; omega
        rw [hi2] at e
        simp only [List.getElem?_cons_zero, Option.some.injEq] at e
        subst e
        refine ⟨xs, vs, ?_, h1, h2.mono (fun _ _ q => q) hp⟩
        rw [List.getElem?_append_right (by rw [← s.n.len]; omega)]
        have : i - S.length = 0 := by rw [← s.n.len]; exact hi2
        rw [this]; rfl
    · rw [List.getElem?_append_right (by rw [s.o.len]; omega), s.o.len]
      rw [List.getElem?_append_right (by rw [s.n.len]; omega), s.n.len]
      have : old.length + S.length - old.length - S.length = 0 := by omega
      rw [this]; rfl
  | _ => exact ⟨_, _, rfl, mn, List.prefix_rfl, fun a h => .inl h, s, r, fun xs z => by cases z⟩
end
end Z

namespace Z
open PySem PySem.Spec PyProof.Rows
open L2 (V Hp HO upd upd_same upd_ne SqL SqT Rd VK TE TT TA TS Ends WX XK)
/-! ### what an evaluation's end asks -/
section
variable {c : Cg} {α β γ : Type}
/-- from (H, mn): what is wanted of a value (related by rel) behind r; what of an exception, at the slots σ -/
def Wr (c : Cg) (mo : List Addr) (W : WX) (σ : L2.St) (rel : Hp → List Addr → α → β → Prop) (H : Hp) (mn : List Addr) (r : R α) (Q : β → Hp → Prop) : Prop := match r with
  | .ok d S' => ∀ mn' H' v, Ext mn H mn' H' → NewOk c H' (mo ++ mn') mn' S' → rel H' mn' d v → Q v H'
  | .exc x S' => ∀ mn' H' C, Ext mn H mn' H' → NewOk c H' (mo ++ mn') mn' S' → c.ca x = some C → W (.ref C) none σ H'
  | .bad => False
theorem Wr.later {mo mn mn1 : List Addr} {W : WX} {σ : L2.St} {rel rel1 : Hp → List Addr → α → β → Prop} {H H1 : Hp} {r : R α} {Q : β → Hp → Prop} (x : Ext mn H mn1 H1) (h : Wr c mo W σ rel H mn r Q)
    (hr : ∀ H' mn' d v, rel1 H' mn' d v → rel H' mn' d v) : Wr c mo W σ rel1 H1 mn1 r Q := by
  cases r with
  | ok d S' => exact fun mn' H' v x' n' r' => h mn' H' v (x.trans x') n' (hr _ _ _ _ r')
  | exc y S' => exact fun mn' H' C x' n' r' => h mn' H' C (x.trans x') n' r'
  | bad => exact h
def relD (c : Cg) (mo : List Addr) (H0 : Hp) : Hp → List Addr → D → V → Prop := fun H' mn' d v => RV c H0 H' (mo ++ mn') mn' d v
theorem Wr.laterD {mo mn mn1 : List Addr} {W : WX} {σ : L2.St} {H H1 : Hp} {r : R D} {Q : V → Hp → Prop} {S : Sto} (x : Ext mn H mn1 H1) (n : NewOk c H1 (mo ++ mn1) mn1 S) (h : Wr c mo W σ (relD c mo H) H mn r Q) :
    Wr c mo W σ (relD c mo H1) H1 mn1 r Q := h.later x fun _ _ _ _ q => RV.back q fun _ => x.free n
/-- held items; looked at items; a part; a test -/
def relS (c : Cg) (mo : List Addr) : Hp → List Addr → List D → List V → Prop := fun H' mn' d v => RDs c H' (mo ++ mn') d v
inductive RVs (c : Cg) (H0 H : Hp) (m mn : List Addr) : List D → List V → Prop where
  | nil : RVs c H0 H m mn [] []
  | cons {d v ds vs} : RV c H0 H m mn d v → RVs c H0 H m mn ds vs → RVs c H0 H m mn (d :: ds) (v :: vs)
def relR (c : Cg) (mo : List Addr) (H0 : Hp) : Hp → List Addr → List D → List V → Prop := fun H' mn' d v => RVs c H0 H' (mo ++ mn') mn' d v
def relE (β : Type) : Hp → List Addr → β → β → Prop := fun _ _ d v => d = v
end
/-! ### the readings that the evaluation gives -/
section
variable (c : Cg) (W : WX) (cp : Nat → List D → Sto → R D) (ci : Nat → List D → Sto → Sto → R D) (fu : Nat)
def den (e : E) : TE := fun σ H Q => ∃ old mo mn env S, StOk c H mo mn old S env σ ∧ Wr c mo W σ (relD c mo H) H mn (ev cp ci old e env S) Q
/-- as a test -/
def denT (e : E) : TT := fun σ H Q => ∃ old mo mn env S, StOk c H mo mn old S env σ ∧ Wr c mo W σ (relE Bool) H mn (evc cp ci old (.of e) env S) Q
def denS (es : Es) : TA := fun σ H Q => ∃ old mo mn env S, StOk c H mo mn old S env σ ∧ Wr c mo W σ (relS c mo) H mn (evs cp ci old es env S) Q
def denR (es : Es) : TA := fun σ H Q => ∃ old mo mn env S, StOk c H mo mn old S env σ ∧ Wr c mo W σ (relR c mo H) H mn (evr cp ci old es env S) Q
def denO (e : Eo) : L2.TO := fun σ H Q => ∃ old mo mn env S, StOk c H mo mn old S env σ ∧ Wr c mo W σ (relE (Option Int)) H mn (evo cp ci old e env S) Q
end
section
variable {X : L2.Cx} {e : Expr} {es : List Expr} {t t' : TE} {a a' : TA} {tt tt' : TT}
theorem pe_imp (h : L2.PE X e t) (hi : ∀ σ H Q, t' σ H Q → t σ H Q) : L2.PE X e t' := ⟨fun pins s σ H Q I w => h.run pins s σ H Q I (hi σ H Q w)⟩
theorem pt_imp (h : L2.PT X e tt) (hi : ∀ σ H Q, tt' σ H Q → tt σ H Q) : L2.PT X e tt' := ⟨fun pins s σ H Q I w => h.run pins s σ H Q I (hi σ H Q w)⟩
theorem pa_imp (h : L2.PA X es a) (hi : ∀ σ H Q, a' σ H Q → a σ H Q) : L2.PA X es a' := ⟨fun pos pins s σ H Q I w => h.run pos pins s σ H Q I (hi σ H Q w)⟩
end
end Z
/-! Z3: operators, built-ins, methods: what the evaluation gives is what the hand layer's rules ask. -/
namespace Z
open PySem PySem.Spec PyProof.Rows
open L2 (V Hp HO upd upd_same upd_ne SqL SqT Rd VK TE TT TA TS Ends WX XK)
section
variable {c : Cg} {H H' H1 H2 H0 Hx Hy : Hp} {m m' mo mn mn' mn1 mn2 : List Addr} {old S S' : Sto} {env : Env} {σ : L2.St} {d x y : D} {v u : V} {ds xs ys : List D} {vs us : List V} {W : WX} {Q : V → Hp → Prop}
theorem Wr.val (n : NewOk c H (mo ++ mn) mn S) (h : Wr c mo W σ (relD c mo H) H mn (.ok d S) Q) (r : RD c H (mo ++ mn) d v) : Q v H := h mn H v Ext.refl n (RV.of r)
theorem Wr.tmp {p : Addr} (n : NewOk c H (mo ++ mn) mn S) (h : Wr c mo W σ (relD c mo H) H mn (.ok (.tmp xs) S) Q) (r : RDs c H (mo ++ mn) xs vs) (hp : H p = none) : Q (.ref p) (upd H p (.lst vs)) := by
  have x := Ext.new (mn := mn) (o := .lst vs) hp
  refine h mn _ _ x (n.new hp) ⟨p, vs, rfl, hp, fun hm => ?_, upd_same, r.ext x n⟩
  obtain ⟨us, e⟩ := n.there hm
  rw [hp] at e; cases e
theorem Wr.tup {p : Addr} (n : NewOk c H (mo ++ mn) mn S) (h : Wr c mo W σ (relD c mo H) H mn (.ok (.tup xs) S) Q) (r : RDs c H (mo ++ mn) xs vs) (hp : H p = none) : Q (.ref p) (upd H p (.tup vs)) := by
  have x := Ext.new (mn := mn) (o := .tup vs) hp
  exact h mn _ _ x (n.new hp) (RV.of ⟨p, vs, rfl, .inl (.inl upd_same), r.ext x n⟩)
theorem SL_le {n : Nat} (h : SL n = true) : n ≤ sizeLine := by
  rw [sizeLine_eq]; exact Nat.le_of_ble_eq_true h
theorem RV.int {i : Int} (r : RV c H0 H m mn (.int i) v) : v = .int i := r
theorem okm_of {i j : Int} (h : okm i j = true) : L2.CMul i j := by
  unfold okm at h
  simp only [Bool.or_eq_true, Bool.and_eq_true, decide_eq_true_eq] at h
  exact h
theorem okp_of {i j : Int} (h : okp i j = true) : L2.CPow i j := by
  unfold okp at h
  simp only [Bool.and_eq_true, decide_eq_true_eq] at h
  exact ⟨h.1.1, h.1.2, h.2⟩
/-! ### operators -/
def pyOp : Op → Operator
  | .add => .Add | .sub => .Sub | .mul => .Mult | .fdiv => .FloorDiv | .mod => .Mod | .pow => .Pow | .shl => .LShift | .shr => .RShift | .band => .BitAnd | .bor => .BitOr | .bxor => .BitXor
def rStrs : L2.R2 := fun x y H Q => ∃ i j, x = .str i ∧ y = .str j ∧ i.length + j.length ≤ sizeLine ∧ Q (.str (i ++ j)) H
def rOp (c : Cg) (o : Op) : L2.R2 := match o with
  | .add => fun x y H Q => L2.rI0 (fun i j => .int (i + j)) x y H Q ∨ (rStrs x y H Q ∨ (L2.rCatA c.K x y H Q ∨ L2.rCat x y H Q))
  | .sub => L2.rI0 fun i j => .int (i - j)
  | .mul => fun x y H Q => L2.rI L2.CMul (fun i j => .int (i * j)) x y H Q ∨ L2.rRep x y H Q
  | .fdiv => L2.rI L2.CDiv fun i j => .int (i / j)
  | .mod => L2.rI (fun _ j => 0 < j) fun i j => .int (i % j)
  | .pow => L2.rI L2.CPow fun i j => .int (i ^ j.toNat)
  | .shl => L2.rI L2.CPow fun i j => .int (i * 2 ^ j.toNat)
  | .shr => L2.rI (fun _ j => 0 ≤ j) fun i j => .int (i / 2 ^ j.toNat)
  | .band => L2.rI0 fun i j => .int (Builtin.bitAnd i j)
  | .bor => L2.rI0 fun i j => .int (Builtin.bitOr i j)
  | .bxor => L2.rI0 fun i j => .int (Builtin.bitXor i j)
theorem op_r {X : L2.Cx} (hK : X.K = c.K) (o : Op) : L2.OpR X (binaryOp (pyOp o)) (rOp c o) := by
  cases o with
  | add => exact L2.OpR.or L2.op_add (L2.OpR.or L2.op_add_str (L2.OpR.or (by rw [← hK]; exact L2.op_catA) L2.op_cat))
  | sub => exact L2.op_sub
  | mul => exact L2.OpR.or L2.op_mul L2.op_rep
  | fdiv => exact L2.op_fdiv
  | mod => exact L2.op_mod
  | pow => exact L2.op_pow
  | shl => exact L2.op_shl
  | shr => exact L2.op_shr
  | band => exact L2.op_and
  | bor => exact L2.op_or
  | bxor => exact L2.op_xor
theorem cat_ok (s : S0 c H mo mn old S) (rx : RV c Hx H (mo ++ mn) mn x v) (ry : RV c Hy H (mo ++ mn) mn y u)
    (h : Wr c mo W σ (relD c mo H) H mn (match lstOf old S x with
    | none => .bad
    | some xs => match lstOf old S y with
      | none => .bad
      | some ys => if SL (xs.length + ys.length) then .ok (.tmp (xs ++ ys)) S else .bad) Q) : L2.rCat v u H Q := by
  cases ex : lstOf old S x with
  | none => rw [ex] at h; exact h.elim
  | some xs =>
    rw [ex] at h
    cases ey : lstOf old S y with
    | none => rw [ey] at h; exact h.elim
    | some ys =>
      rw [ey] at h
      simp only at h
      split at h
      · rename_i hz
        obtain ⟨a, vs, rfl, h1, r1⟩ := rx.lstOf s ex
        obtain ⟨b, us, rfl, h2, r2⟩ := ry.lstOf s ey
        exact ⟨a, b, vs, us, rfl, rfl, h1, h2, by rw [← r1.len, ← r2.len]; exact SL_le hz, fun p hp => h.tmp s.n (r1.app r2) hp⟩
      · exact h.elim
theorem opV_ok {o : Op} (s : S0 c H mo mn old S) (rx : RV c Hx H (mo ++ mn) mn x v) (ry : RV c Hy H (mo ++ mn) mn y u) (h : Wr c mo W σ (relD c mo H) H mn (opV old o x y S) Q) : rOp c o v u H Q := by
  unfold opV at h
  split at h
  · cases rx; cases ry; exact .inl ⟨_, _, rfl, rfl, h.val s.n rfl⟩
  · cases rx; cases ry; exact ⟨_, _, rfl, rfl, h.val s.n rfl⟩
  · split at h
    · rename_i hz
      cases rx; cases ry; exact .inl ⟨_, _, rfl, rfl, okm_of hz, h.val s.n rfl⟩
    · exact h.elim
  · split at h
    · rename_i hz
      simp only [Bool.and_eq_true, decide_eq_true_eq] at hz
      cases rx; cases ry; exact ⟨_, _, rfl, rfl, hz, h.val s.n rfl⟩
    · exact h.elim
  · split at h
    · rename_i hz
      cases rx; cases ry; exact ⟨_, _, rfl, rfl, of_decide_eq_true hz, h.val s.n rfl⟩
    · exact h.elim
  · split at h
    · rename_i hz
      cases rx; cases ry; exact ⟨_, _, rfl, rfl, okp_of hz, h.val s.n rfl⟩
    · exact h.elim
  · split at h
    · rename_i hz
      cases rx; cases ry; exact ⟨_, _, rfl, rfl, okp_of hz, h.val s.n rfl⟩
    · exact h.elim
  · split at h
    · rename_i hz
      cases rx; cases ry; exact ⟨_, _, rfl, rfl, of_decide_eq_true hz, h.val s.n rfl⟩
    · exact h.elim
  · cases rx; cases ry; exact ⟨_, _, rfl, rfl, h.val s.n rfl⟩
  · cases rx; cases ry; exact ⟨_, _, rfl, rfl, h.val s.n rfl⟩
  · cases rx; cases ry; exact ⟨_, _, rfl, rfl, h.val s.n rfl⟩
  · split at h
    · rename_i hz
      cases rx; cases ry; exact .inr (.inl ⟨_, _, rfl, rfl, SL_le hz, h.val s.n rfl⟩)
    · exact h.elim
  · split at h
    · rename_i hz
      obtain ⟨a, vs, rfl, h1, r1⟩ := rx
      obtain ⟨b, us, rfl, h2, r2⟩ := ry
      refine .inr (.inr (.inl ⟨a, b, vs, us, rfl, rfl, h1, h2, by rw [← r1.len, ← r2.len]; exact SL_le hz, fun e => ?_, fun e e2 => ?_, fun e e2 p hp => h.tup s.n (r1.app r2) hp⟩))
      · subst e
        have e3 := r1.len
        rw [List.length_nil] at e3
        rw [List.eq_nil_of_length_eq_zero e3] at h
        exact h.val s.n ⟨b, us, rfl, h2, r2⟩
      · subst e2
        have e3 := r2.len
        rw [List.length_nil] at e3
        rw [List.eq_nil_of_length_eq_zero e3, List.append_nil] at h
        exact h.val s.n ⟨a, vs, rfl, h1, r1⟩
    · exact h.elim
  · exact .inr (.inr (.inr (cat_ok s rx ry h)))
  · cases ry
    cases ex : lstOf old S x with
    | none => rw [ex] at h; exact h.elim
    | some xs =>
      rw [ex] at h
      simp only at h
      split at h
      · rename_i hz
        simp only [Bool.and_eq_true, decide_eq_true_eq] at hz
        obtain ⟨a, vs, rfl, h1, r1⟩ := rx.lstOf s ex
        exact .inr ⟨a, _, vs, rfl, rfl, h1, by omega, by omega, by rw [← r1.len]; exact SL_le hz.2, fun p hp => h.tmp s.n (r1.rep _) hp⟩
      · exact h.elim
  · exact h.elim
/-! ### whole data -/
theorem mapO_ok (s : S0 c H mo mn old S) {n : Nat} (ih : ∀ (d : D) (p : PyData) (v : V) (Hx : Hp), toPy old S n d = some p → RV c Hx H (mo ++ mn) mn d v → L2.Dp c.K H v p ∧ p.canLay0 = true ∧ p.depth ≤ n) :
    ∀ (ds : List D) (ps : List PyData) (vs : List V), mapO (toPy old S n) ds = some ps → RDs c H (mo ++ mn) ds vs → L2.DpAll c.K H vs ps ∧ PyData.canLayAll0 ps = true ∧ PyData.depthAll ps ≤ n
  | [], ps, vs, h, r => by
    simp only [mapO, Option.some.injEq] at h
    subst h
    cases r
    exact ⟨.nil, rfl, by simp [PyData.depthAll]⟩
  | d :: ds, ps, vs, h, r => by
    obtain ⟨v, rs, rfl, r1, r2⟩ := r
    simp only [mapO] at h
    cases e1 : toPy old S n d with
    | none => rw [e1] at h; cases h
    | some p =>
      rw [e1] at h
      simp only at h
      cases e2 : mapO (toPy old S n) ds with
      | none => rw [e2] at h; cases h
      | some qs =>
        rw [e2] at h
        simp only [Option.some.injEq] at h
        subst h
        obtain ⟨a1, a2, a3⟩ := ih d p v (fun _ => none) e1 (RV.of r1)
        obtain ⟨b1, b2, b3⟩ := mapO_ok s ih ds qs rs e2 r2
        refine ⟨.cons a1 b1, by simp [PyData.canLayAll0, a2, b2], ?_⟩
        simp only [PyData.depthAll]; omega
theorem toPy_ok (s : S0 c H mo mn old S) : ∀ (n : Nat) (d : D) (p : PyData) (v : V) (Hx : Hp), toPy old S n d = some p → RV c Hx H (mo ++ mn) mn d v → L2.Dp c.K H v p ∧ p.canLay0 = true ∧ p.depth ≤ n
  | 0, d, p, v, Hx, h, r => by simp [toPy] at h
  | n + 1, d, p, v, Hx, h, r => by
    have ih := mapO_ok s (toPy_ok s n)
    cases d with
    | non => simp only [toPy, Option.some.injEq] at h; subst h; cases r; exact ⟨.non, rfl, by simp [PyData.depth]⟩
    | bl b => simp only [toPy, Option.some.injEq] at h; subst h; cases r; exact ⟨.bl _, rfl, by simp [PyData.depth]⟩
    | int i => simp only [toPy, Option.some.injEq] at h; subst h; cases r; exact ⟨.int _, rfl, by simp [PyData.depth]⟩
    | str x =>
      simp only [toPy] at h
      split at h
      · rename_i hz
        simp only [Option.some.injEq] at h; subst h; cases r; exact ⟨.str _, hz, by simp [PyData.depth]⟩
      · cases h
    | tup xs =>
      simp only [toPy] at h
      obtain ⟨ps, h1, rfl⟩ := Option.map_eq_some_iff.mp h
      obtain ⟨a, vs, rfl, h2, h3⟩ := r
      obtain ⟨q1, q2, q3⟩ := ih xs ps vs h1 h3
      refine ⟨.tup h2 q1, by simpa [PyData.canLay0] using q2, ?_⟩
      simp only [PyData.depth]; omega
    | tmp xs =>
      simp only [toPy] at h
      obtain ⟨ps, h1, rfl⟩ := Option.map_eq_some_iff.mp h
      obtain ⟨a, vs, rfl, _, _, h2, h3⟩ := r
      obtain ⟨q1, q2, q3⟩ := ih xs ps vs h1 h3
      refine ⟨.lst (.inl (.inl h2)) q1, by simpa [PyData.canLay0] using q2, ?_⟩
      simp only [PyData.depth]; omega
    | lst a =>
      simp only [toPy] at h
      cases e : at_ old S a with
      | none => rw [e] at h; cases h
      | some ce =>
        rw [e] at h
        simp only at h
        obtain ⟨ps, h1, rfl⟩ := Option.map_eq_some_iff.mp h
        obtain ⟨b, hb, rfl⟩ := r
        obtain ⟨b', vs, e1, e2, e3⟩ := s.cell e
        rw [hb] at e1; cases e1
        obtain ⟨q1, q2, q3⟩ := ih ce.xs ps vs h1 e2
        refine ⟨.lst ?_ q1, by simpa [PyData.canLay0] using q2, ?_⟩
        · rcases e3 with ⟨_, e3⟩ | ⟨_, e3⟩
          · exact .inl (.inl e3)
          · exact e3.sq
        · simp only [PyData.depth]; omega
    | fn k => simp [toPy] at h
    | exc k => simp [toPy] at h
theorem toPy_shaped (s : S0 c H mo mn old S) {d : D} {p : PyData} {v : V} (h : toPy old S 60 d = some p) (r : RV c H0 H (mo ++ mn) mn d v) : L2.Dp c.K H v p ∧ SeqAt.shaped p = true := by
  obtain ⟨h1, h2, h3⟩ := toPy_ok s 60 d p v H0 h r
  exact ⟨h1, by unfold SeqAt.shaped; rw [h2]; simp; omega⟩
end
end Z

namespace Z
open PySem PySem.Spec PyProof.Rows
open L2 (V Hp HO upd upd_same upd_ne SqL SqT Rd VK TE TT TA TS Ends WX XK)
section
variable {c : Cg} {H H' H1 H2 H0 Hx Hy : Hp} {m m' mo mn mn' mn1 mn2 : List Addr} {old S S' : Sto} {env : Env} {σ : L2.St} {d x y : D} {v u : V} {ds xs ys : List D} {vs us : List V} {W : WX} {Q : V → Hp → Prop} {b : Bool}
/-! ### comparisons -/
def pyCm : Cm → CmpOp
  | .eq => .Eq | .ne => .NotEq | .lt => .Lt | .le => .LtE | .gt => .Gt | .ge => .GtE | .is => .Is | .isnt => .IsNot | .isin => .In | .notin => .NotIn
def rInT (K : PySem.W.Frag) (neg : Bool) : L2.R2 := fun x y H Q => ∃ d ds, L2.Dp K H x d ∧ L2.Dp K H y (.tuple ds) ∧ SeqAt.shaped d = true ∧ SeqAt.shaped (.tuple ds) = true ∧ Q (.bl (if neg then !ds.any fun z => PyData.eqv z d else ds.any fun z => PyData.eqv z d)) H
theorem op_inT {X : L2.Cx} (hu : X.A.units + 65 < cLine) : L2.OpR X (compareOp .In) (rInT X.K false) := by
  intro pins s σ H x y v u Q I rx ry h
  obtain ⟨d, ds, hd, he, sd, se, q⟩ := h
  obtain ⟨as, r1⟩ := L2.Dp.reads I d x v hd rx
  obtain ⟨bs, r2⟩ := L2.Dp.reads I (.tuple ds) y u he ry
  exact SeqAt.in_tuple_reads r2 r1 (SeqAt.canLay_of_shaped se) (SeqAt.canLay_of_shaped sd) (room_in_shaped sd hu) ⟨.bl _, H, I, rfl, q⟩
theorem op_notinT {X : L2.Cx} (hu : X.A.units + 65 < cLine) : L2.OpR X (compareOp .NotIn) (rInT X.K true) := by
  intro pins s σ H x y v u Q I rx ry h
  obtain ⟨d, ds, hd, he, sd, se, q⟩ := h
  obtain ⟨as, r1⟩ := L2.Dp.reads I d x v hd rx
  obtain ⟨bs, r2⟩ := L2.Dp.reads I (.tuple ds) y u he ry
  exact SeqAt.notIn_tuple_reads r2 r1 (SeqAt.canLay_of_shaped se) (SeqAt.canLay_of_shaped sd) (room_in_shaped sd hu) ⟨.bl _, H, I, rfl, q⟩
def rIsN : L2.R2 := fun x y H Q => y = .non ∧ Q (.bl (decide (x = .non))) H
def rNotN : L2.R2 := fun x y H Q => y = .non ∧ Q (.bl (!decide (x = .non))) H
def rCm (c : Cg) (o : Cm) : L2.R2 := match o with
  | .eq => L2.rEqD c.K
  | .ne => L2.rNeD c.K
  | .lt => L2.rI0 fun i j => .bl (decide (i < j))
  | .le => L2.rI0 fun i j => .bl (decide (i ≤ j))
  | .gt => L2.rI0 fun i j => .bl (decide (j < i))
  | .ge => L2.rI0 fun i j => .bl (decide (j ≤ i))
  | .is => fun x y H Q => rIsN x y H Q ∨ L2.rIsB x y H Q
  | .isnt => fun x y H Q => rNotN x y H Q ∨ L2.rNotB x y H Q
  | .isin => fun x y H Q => L2.rInD c.K x y H Q ∨ rInT c.K false x y H Q
  | .notin => fun x y H Q => L2.rNotInD c.K x y H Q ∨ rInT c.K true x y H Q
theorem cm_r {X : L2.Cx} (hK : X.K = c.K) (hu : X.A.units + 65 < cLine) (o : Cm) : L2.OpR X (compareOp (pyCm o)) (rCm c o) := by
  cases o with
  | eq => show L2.OpR _ _ (L2.rEqD c.K); rw [← hK]; exact L2.op_eqD (by omega)
  | ne => show L2.OpR _ _ (L2.rNeD c.K); rw [← hK]; exact L2.op_neD (by omega)
  | lt => exact L2.op_lt
  | le => exact L2.op_le
  | gt => exact L2.op_gt
  | ge => exact L2.op_ge
  | is => exact L2.OpR.or L2.op_isN L2.op_isBl
  | isnt => exact L2.OpR.or L2.op_notN L2.op_notBl
  | isin => exact L2.OpR.or (by rw [← hK]; exact L2.op_inD hu) (by rw [← hK]; exact op_inT hu)
  | notin => exact L2.OpR.or (by rw [← hK]; exact L2.op_notInD hu) (by rw [← hK]; exact op_notinT hu)
theorem eqv_ok (s : S0 c H mo mn old S) (rx : RV c Hx H (mo ++ mn) mn x v) (ry : RV c Hy H (mo ++ mn) mn y u) (e : eqv old S x y = some b) :
    ∃ d e, L2.Dp c.K H v d ∧ L2.Dp c.K H u e ∧ SeqAt.shaped d = true ∧ SeqAt.shaped e = true ∧ b = PyData.eqv d e := by
  unfold Z.eqv at e
  cases e1 : toPy old S 60 x with
  | none => rw [e1] at e; cases e
  | some p =>
    rw [e1] at e
    simp only at e
    cases e2 : toPy old S 60 y with
    | none => rw [e2] at e; cases e
    | some q =>
      rw [e2] at e
      simp only [Option.some.injEq] at e
      obtain ⟨a1, a2⟩ := toPy_shaped s e1 rx
      obtain ⟨b1, b2⟩ := toPy_shaped s e2 ry
      exact ⟨p, q, a1, b1, a2, b2, e.symm⟩
theorem isIn_ok (s : S0 c H mo mn old S) (rx : RV c Hx H (mo ++ mn) mn x v) (ry : RV c Hy H (mo ++ mn) mn y u) (e : isIn old S x y = some b) :
    ∃ d ds, L2.Dp c.K H v d ∧ SeqAt.shaped d = true ∧ b = (ds.any fun z => PyData.eqv z d) ∧ ((L2.Dp c.K H u (.list ds) ∧ SeqAt.shaped (.list ds) = true) ∨ (L2.Dp c.K H u (.tuple ds) ∧ SeqAt.shaped (.tuple ds) = true)) := by
  unfold Z.isIn at e
  cases e1 : toPy old S 60 x with
  | none => rw [e1] at e; cases e
  | some p =>
    rw [e1] at e
    simp only at e
    obtain ⟨a1, a2⟩ := toPy_shaped s e1 rx
    cases e2 : toPy old S 60 y with
    | none => rw [e2] at e; cases e
    | some q =>
      rw [e2] at e
      obtain ⟨b1, b2⟩ := toPy_shaped s e2 ry
      cases q with
      | list qs => simp only [Option.some.injEq] at e; exact ⟨p, qs, a1, a2, e.symm, .inl ⟨b1, b2⟩⟩
      | tuple qs => simp only [Option.some.injEq] at e; exact ⟨p, qs, a1, a2, e.symm, .inr ⟨b1, b2⟩⟩
      | none => cases e
      | bool _ => cases e
      | int _ => cases e
      | str _ => cases e
      | dict _ => cases e
theorem cmpV_ok {o : Cm} (s : S0 c H mo mn old S) (rx : RV c Hx H (mo ++ mn) mn x v) (ry : RV c Hy H (mo ++ mn) mn y u) (e : cmpV old o x y S = some b) (h : Q (.bl b) H) : rCm c o v u H Q := by
  cases o with
  | eq =>
    obtain ⟨p, q, h1, h2, h3, h4, rfl⟩ := eqv_ok s rx ry e
    exact ⟨p, q, h1, h2, h3, h4, h⟩
  | ne =>
    simp only [cmpV] at e
    obtain ⟨b', e', rfl⟩ := Option.map_eq_some_iff.mp e
    obtain ⟨p, q, h1, h2, h3, h4, rfl⟩ := eqv_ok s rx ry e'
    exact ⟨p, q, h1, h2, h3, h4, h⟩
  | lt =>
    simp only [cmpV] at e
    split at e
    · simp only [Option.some.injEq] at e; subst e; cases rx; cases ry; exact ⟨_, _, rfl, rfl, h⟩
    · cases e
  | le =>
    simp only [cmpV] at e
    split at e
    · simp only [Option.some.injEq] at e; subst e; cases rx; cases ry; exact ⟨_, _, rfl, rfl, h⟩
    · cases e
  | gt =>
    simp only [cmpV] at e
    split at e
    · simp only [Option.some.injEq] at e; subst e; cases rx; cases ry; exact ⟨_, _, rfl, rfl, h⟩
    · cases e
  | ge =>
    simp only [cmpV] at e
    split at e
    · simp only [Option.some.injEq] at e; subst e; cases rx; cases ry; exact ⟨_, _, rfl, rfl, h⟩
    · cases e
  | is =>
    simp only [cmpV] at e
    split at e
    · simp only [Option.some.injEq] at e; subst e; cases rx; cases ry; exact .inr ⟨_, _, rfl, rfl, h⟩
    · simp only [Option.some.injEq] at e; subst e; cases rx; cases ry; exact .inl ⟨rfl, h⟩
    · rename_i hn
      simp only [Option.some.injEq] at e; subst e; cases ry
      refine .inl ⟨rfl, ?_⟩
      have hv : v ≠ .non := by
        cases x with
        | non => exact absurd rfl hn
        | bl _ => cases rx; intro z; cases z
        | int _ => cases rx; intro z; cases z
        | str _ => cases rx; intro z; cases z
        | tup _ => obtain ⟨_, _, rfl, _⟩ := rx; intro z; cases z
        | lst _ => obtain ⟨_, _, rfl⟩ := rx; intro z; cases z
        | tmp _ => obtain ⟨_, _, rfl, _⟩ := rx; intro z; cases z
        | fn _ => obtain ⟨_, _, rfl⟩ := rx; intro z; cases z
        | exc _ => exact rx.elim
      rw [decide_eq_false hv]; exact h
    · cases e
  | isnt =>
    simp only [cmpV] at e
    split at e
    · simp only [Option.some.injEq] at e; subst e; cases rx; cases ry; exact .inr ⟨_, _, rfl, rfl, h⟩
    · simp only [Option.some.injEq] at e; subst e; cases rx; cases ry; exact .inl ⟨rfl, h⟩
    · rename_i hn
      simp only [Option.some.injEq] at e; subst e; cases ry
      refine .inl ⟨rfl, ?_⟩
      have hv : v ≠ .non := by
        cases x with
        | non => exact absurd rfl hn
        | bl _ => cases rx; intro z; cases z
        | int _ => cases rx; intro z; cases z
        | str _ => cases rx; intro z; cases z
        | tup _ => obtain ⟨_, _, rfl, _⟩ := rx; intro z; cases z
        | lst _ => obtain ⟨_, _, rfl⟩ := rx; intro z; cases z
        | tmp _ => obtain ⟨_, _, rfl, _⟩ := rx; intro z; cases z
        | fn _ => obtain ⟨_, _, rfl⟩ := rx; intro z; cases z
        | exc _ => exact rx.elim
      rw [decide_eq_false hv]; exact h
    · cases e
  | isin =>
    obtain ⟨p, q, h1, h2, rfl, h4⟩ := isIn_ok s rx ry e
    rcases h4 with ⟨h4, h5⟩ | ⟨h4, h5⟩
    · exact .inl ⟨p, q, h1, h4, h2, h5, h⟩
    · exact .inr ⟨p, q, h1, h4, h2, h5, h⟩
  | notin =>
    simp only [cmpV] at e
    obtain ⟨b', e', rfl⟩ := Option.map_eq_some_iff.mp e
    obtain ⟨p, q, h1, h2, rfl, h4⟩ := isIn_ok s rx ry e'
    rcases h4 with ⟨h4, h5⟩ | ⟨h4, h5⟩
    · exact .inl ⟨p, q, h1, h4, h2, h5, h⟩
    · exact .inr ⟨p, q, h1, h4, h2, h5, h⟩
/-! ### truth -/
theorem empt {xs : List D} {vs : List V} (h : xs.length = vs.length) : (!xs.isEmpty) = !vs.isEmpty := by
  cases xs <;> cases vs <;> simp_all
theorem truth_ok (s : S0 c H mo mn old S) (rx : RV c Hx H (mo ++ mn) mn x v) (e : truth old S x = some b) : L2.TruV c.K v H b := by
  cases x with
  | non => simp only [truth, Option.some.injEq] at e; subst e; cases rx; exact rfl
  | bl _ => simp only [truth, Option.some.injEq] at e; subst e; cases rx; exact rfl
  | int _ => simp only [truth, Option.some.injEq] at e; subst e; cases rx; exact rfl
  | str _ => cases e
  | tup xs =>
    simp only [truth, Option.some.injEq] at e; subst e
    obtain ⟨a, vs, rfl, h1, h2⟩ := rx
    exact .inr (.inl ⟨vs, h1, empt h2.len⟩)
  | tmp xs =>
    simp only [truth, Option.some.injEq] at e; subst e
    obtain ⟨a, vs, rfl, _, _, h1, h2⟩ := rx
    exact .inl ⟨vs, .inl (.inl h1), empt h2.len⟩
  | lst a =>
    simp only [truth] at e
    obtain ⟨ce, e1, rfl⟩ := Option.map_eq_some_iff.mp e
    obtain ⟨a, vs, rfl, h1, h2, _⟩ := rx.lstRo (ds := ce.xs) s (by simp only [Z.lstRo, e1, Option.map])
    exact .inl ⟨vs, h1, empt h2.len⟩
  | fn _ => cases e
  | exc _ => cases e
/-! ### built-ins -/
theorem bools_ok : ∀ {ds : List D} {bs : List Bool} {vs : List V}, bools ds = some bs → RDs c H m ds vs → vs = bs.map V.bl
  | [], bs, vs, e, r => by simp only [bools, Option.some.injEq] at e; subst e; exact r
  | .bl b :: ds, bs, vs, e, r => by
    simp only [bools] at e
    obtain ⟨cs, e1, rfl⟩ := Option.map_eq_some_iff.mp e
    obtain ⟨v, rs, rfl, r1, r2⟩ := r
    cases r1
    rw [bools_ok e1 r2]; rfl
  | .non :: _, _, _, e, _ => by cases e
  | .int _ :: _, _, _, e, _ => by cases e
  | .str _ :: _, _, _, e, _ => by cases e
  | .tup _ :: _, _, _, e, _ => by cases e
  | .lst _ :: _, _, _, e, _ => by cases e
  | .tmp _ :: _, _, _, e, _ => by cases e
  | .fn _ :: _, _, _, e, _ => by cases e
  | .exc _ :: _, _, _, e, _ => by cases e
theorem ints_ok : ∀ {ds : List D} {bs : List Int} {vs : List V}, intsOf ds = some bs → RDs c H m ds vs → vs = bs.map V.int
  | [], bs, vs, e, r => by simp only [intsOf, Option.some.injEq] at e; subst e; exact r
  | .int b :: ds, bs, vs, e, r => by
    simp only [intsOf] at e
    obtain ⟨cs, e1, rfl⟩ := Option.map_eq_some_iff.mp e
    obtain ⟨v, rs, rfl, r1, r2⟩ := r
    cases r1
    rw [ints_ok e1 r2]; rfl
  | .non :: _, _, _, e, _ => by cases e
  | .bl _ :: _, _, _, e, _ => by cases e
  | .str _ :: _, _, _, e, _ => by cases e
  | .tup _ :: _, _, _, e, _ => by cases e
  | .lst _ :: _, _, _, e, _ => by cases e
  | .tmp _ :: _, _, _, e, _ => by cases e
  | .fn _ :: _, _, _, e, _ => by cases e
  | .exc _ :: _, _, _, e, _ => by cases e
def rB (c : Cg) (f : Blt) : List V → Hp → VK → Prop := match f with
  | .len => fun xs H Q => (∃ p ys, xs = [.ref p] ∧ (SqL c.K H p ys ∨ SqT c.K H p ys) ∧ Q (.int ys.length) H) ∨ ∃ z, xs = [.str z] ∧ z.length ≤ sizeLine ∧ Q (.int z.length) H
  | .abs => fun xs H Q => ∃ i, xs = [.int i] ∧ Q (.int (if i < 0 then -i else i)) H
  | .max2 => fun xs H Q => ∃ i j, xs = [.int i, .int j] ∧ Q (.int (if j > i then j else i)) H
  | .min2 => fun xs H Q => ∃ i j, xs = [.int i, .int j] ∧ Q (.int (if j < i then j else i)) H
  | .int1 => fun xs H Q => (∃ i, xs = [.int i] ∧ Q (.int i) H) ∨ ∃ k, xs = [.bl k] ∧ Q (.int (if k then 1 else 0)) H
  | .tuple => fun xs H Q => ∃ p ys, xs = [.ref p] ∧ ((SqL c.K H p ys ∧ ∀ l, H l = none → Q (.ref l) (upd H l (.tup ys))) ∨ (SqT c.K H p ys ∧ Q (.ref p) H))
  | .list => fun xs H Q => ∃ p ys, xs = [.ref p] ∧ (SqL c.K H p ys ∨ SqT c.K H p ys) ∧ ∀ l, H l = none → Q (.ref l) (upd H l (.lst ys))
  | .sum => L2.rSum c.K
  | .all => L2.rAll c.K
  | .any => L2.rAny c.K
  | .lrng => fun xs H Q => ∃ n, xs = [.int n] ∧ L2.RgOk 0 n ∧ ∀ q, H q = none → Q (.ref q) (upd H q (.lst (L2.rgV 0 n)))
def bltNm : Blt → Str × Value
  | .len => ("len", .builtin "len") | .abs => ("abs", .builtin "abs") | .max2 => ("max", .builtin "max") | .min2 => ("min", .builtin "min")
  | .int1 => ("int", .type "int") | .tuple => ("tuple", .type "tuple") | .list => ("list", .type "list") | .sum => ("sum", .builtin "sum") | .all => ("all", .builtin "all") | .any => ("any", .builtin "any")
  | .lrng => ("list", .type "list")
theorem blt_r {X : L2.Cx} (hK : X.K = c.K) (hc : X.calm = true) (f : Blt) (hf : f ≠ .lrng) : L2.CallR X (bltNm f).2 (rB c f) := by
  cases f with
  | len => exact L2.CallR.or (by rw [← hK]; exact L2.call_len_seq) L2.call_len_str
  | abs => exact L2.call_abs
  | max2 => exact L2.call_max2 hc
  | min2 => exact L2.call_min2 hc
  | int1 => exact L2.call_int1
  | tuple => show L2.CallR _ _ (fun xs H Q => ∃ p ys, xs = [.ref p] ∧ ((SqL c.K H p ys ∧ _) ∨ (SqT c.K H p ys ∧ _))); rw [← hK]; exact L2.call_tuple_of
  | list => show L2.CallR _ _ (fun xs H Q => ∃ p ys, xs = [.ref p] ∧ (SqL c.K H p ys ∨ SqT c.K H p ys) ∧ _); rw [← hK]; exact L2.call_list_of
  | sum => show L2.CallR _ _ (L2.rSum c.K); rw [← hK]; exact L2.cr_sum hc
  | all => show L2.CallR _ _ (L2.rAll c.K); rw [← hK]; exact L2.cr_all hc
  | any => show L2.CallR _ _ (L2.rAny c.K); rw [← hK]; exact L2.cr_any hc
  | lrng => exact absurd rfl hf
theorem RVs.one (h : RVs c H0 H m mn [x] vs) : ∃ v, vs = [v] ∧ RV c H0 H m mn x v := by
  cases h with
  | cons r rs => cases rs; exact ⟨_, rfl, r⟩
theorem RVs.two (h : RVs c H0 H m mn [x, y] vs) : ∃ v u, vs = [v, u] ∧ RV c H0 H m mn x v ∧ RV c H0 H m mn y u := by
  cases h with
  | cons r rs => obtain ⟨u, rfl, r2⟩ := rs.one; exact ⟨_, _, rfl, r, r2⟩
theorem rgV_rel (n : Int) : RDs c H m ((List.range n.toNat).map fun k : Nat => D.int (k : Int)) (L2.rgV 0 n) := by
  refine RDs.of_get ?_ fun i d v e1 e2 => ?_
  · rw [L2.rgV_length, List.length_map, List.length_range]; congr 1; omega
  · unfold L2.rgV at e2
    rw [List.getElem?_map] at e1 e2
    obtain ⟨k, e3, rfl⟩ := Option.map_eq_some_iff.mp e1
    obtain ⟨k', e4, rfl⟩ := Option.map_eq_some_iff.mp e2
    have h1 := List.getElem?_eq_some_iff.mp e3
    have h2 := List.getElem?_eq_some_iff.mp e4
    obtain ⟨h1, h3⟩ := h1
    obtain ⟨h2, h4⟩ := h2
    rw [List.getElem_range] at h3 h4
    subst h3
    subst h4
    show V.int _ = V.int _
    congr 1
    omega
theorem bltV_ok {f : Blt} (s : S0 c H mo mn old S) (r : RVs c H0 H (mo ++ mn) mn ds vs) (h : Wr c mo W σ (relD c mo H) H mn (bltV old f ds S) Q) : rB c f vs H Q := by
  unfold bltV at h
  split at h
  · obtain ⟨v, rfl, r1⟩ := r.one
    split at h
    · rename_i hz
      cases r1; exact .inr ⟨_, rfl, SL_le hz, h.val s.n rfl⟩
    · exact h.elim
  · obtain ⟨v, rfl, r1⟩ := r.one
    split at h
    · rename_i e
      obtain ⟨a, us, rfl, h1, h2⟩ := r1.seqOf s e
      refine .inl ⟨a, us, rfl, h2.elim (fun q => .inl q.1) fun q => .inr q.1, h.val s.n ?_⟩
      rw [h1.len]; rfl
    · exact h.elim
  · obtain ⟨v, rfl, r1⟩ := r.one; cases r1; exact ⟨_, rfl, h.val s.n rfl⟩
  · obtain ⟨v, u, rfl, r1, r2⟩ := r.two; cases r1; cases r2; exact ⟨_, _, rfl, h.val s.n rfl⟩
  · obtain ⟨v, u, rfl, r1, r2⟩ := r.two; cases r1; cases r2; exact ⟨_, _, rfl, h.val s.n rfl⟩
  · obtain ⟨v, rfl, r1⟩ := r.one; cases r1; exact .inl ⟨_, rfl, h.val s.n rfl⟩
  · obtain ⟨v, rfl, r1⟩ := r.one; cases r1; exact .inr ⟨_, rfl, h.val s.n rfl⟩
  · obtain ⟨v, rfl, r1⟩ := r.one
    split at h
    · rename_i e
      obtain ⟨a, us, rfl, h1, h2⟩ := r1.seqOf s e
      refine ⟨a, us, rfl, ?_⟩
      rcases h2 with ⟨h2, _⟩ | ⟨h2, _⟩
      · exact .inl ⟨h2, fun p hp => h.tup s.n h1 hp⟩
      · exact .inr ⟨h2, h.val s.n ⟨a, us, rfl, h2, h1⟩⟩
    · exact h.elim
  · obtain ⟨v, rfl, r1⟩ := r.one
    split at h
    · rename_i e
      obtain ⟨a, us, rfl, h1, h2⟩ := r1.seqOf s e
      exact ⟨a, us, rfl, h2.elim (fun q => .inl q.1) fun q => .inr q.1, fun p hp => h.tmp s.n h1 hp⟩
    · exact h.elim
  · obtain ⟨v, rfl, r1⟩ := r.one
    split at h
    · exact h.elim
    · rename_i e
      split at h
      · rename_i e2
        obtain ⟨a, us, rfl, h1, h2, _⟩ := r1.lstRo s e
        have h3 := ints_ok e2 h2
        subst h3
        exact ⟨a, _, rfl, h1, h.val s.n rfl⟩
      · exact h.elim
  · obtain ⟨v, rfl, r1⟩ := r.one
    split at h
    · exact h.elim
    · rename_i e
      split at h
      · rename_i e2
        obtain ⟨a, us, rfl, h1, h2, _⟩ := r1.lstRo s e
        have h3 := bools_ok e2 h2
        subst h3
        exact ⟨a, _, rfl, h1, h.val s.n rfl⟩
      · exact h.elim
  · obtain ⟨v, rfl, r1⟩ := r.one
    split at h
    · exact h.elim
    · rename_i e
      split at h
      · rename_i e2
        obtain ⟨a, us, rfl, h1, h2, _⟩ := r1.lstRo s e
        have h3 := bools_ok e2 h2
        subst h3
        exact ⟨a, _, rfl, h1, h.val s.n rfl⟩
      · exact h.elim
  · obtain ⟨v, rfl, r1⟩ := r.one
    cases r1
    split at h
    · rename_i hz
      simp only [Bool.and_eq_true, decide_eq_true_eq] at hz
      refine ⟨_, rfl, ⟨by decide, by decide, by omega, by omega, by omega⟩, fun p hp => h.tmp s.n (rgV_rel _) hp⟩
    · exact h.elim
  · exact h.elim
end
end Z
/-! Z4: subscripts, slices, methods of lists. -/
namespace Z
open PySem PySem.Spec PyProof.Rows
open L2 (V Hp HO upd upd_same upd_ne SqL SqT Rd VK TE TT TA TS Ends WX XK)
section
variable {c : Cg} {H H' H1 H2 H0 Hx Hy : Hp} {m m' mo mn mn' mn1 mn2 : List Addr} {old S S' : Sto} {env : Env} {σ : L2.St} {d x y : D} {v u : V} {ds xs ys zs : List D} {vs us ws : List V} {W : WX} {Q : V → Hp → Prop} {b : Bool}
/-! ### subscripts -/
theorem ixN_eq (n : Nat) (i : Int) : ixN n i = L2.ixN n i := rfl
def rIdx (c : Cg) : L2.R2 := fun x y H Q => L2.rIxL c.K x y H Q ∨ L2.rIxT c.K x y H Q
theorem idx_r {X : L2.Cx} (hK : X.K = c.K) : L2.IxR X (rIdx c) := by
  unfold rIdx
  rw [← hK]
  exact L2.ix_list.or L2.ix_tup
theorem idx_get (s : S0 c H mo mn old S) (rx : RV c Hx H (mo ++ mn) mn x v) (i : Int) (hq : Wr c mo W σ (relD c mo H) H mn (match seqOf old S x with
      | none => .bad
      | some xs => match ixN xs.length i with
        | none => .bad
        | some k => match xs[k]? with
          | some d => .ok d S
          | none => .bad) Q) : rIdx c v (.int i) H Q := by
  cases e : seqOf old S x with
  | none => rw [e] at hq; exact hq.elim
  | some xs =>
    rw [e] at hq
    simp only at hq
    obtain ⟨a, vs, rfl, h1, h2⟩ := rx.seqOf s e
    cases e2 : ixN xs.length i with
    | none => rw [e2] at hq; exact hq.elim
    | some k =>
      rw [e2] at hq
      simp only at hq
      cases e3 : xs[k]? with
      | none => rw [e3] at hq; exact hq.elim
      | some d =>
        rw [e3] at hq
        obtain ⟨u, e4, r⟩ := h1.get e3
        have e5 : L2.atI vs i = some u := by
          unfold L2.atI
          rw [← h1.len, ← ixN_eq, e2]
          exact e4
        have q := hq.val s.n r
        rcases h2 with ⟨h2, _⟩ | ⟨h2, _⟩
        · exact .inl ⟨a, vs, i, u, rfl, rfl, h2, e5, q⟩
        · exact .inr ⟨a, vs, i, u, rfl, rfl, h2, e5, q⟩
theorem idxV_ok (s : S0 c H mo mn old S) (rx : RV c Hx H (mo ++ mn) mn x v) (ry : RV c Hy H (mo ++ mn) mn y u) (h : Wr c mo W σ (relD c mo H) H mn (idxV old x y S) Q) : rIdx c v u H Q := by
  cases y with
  | int i =>
    cases ry
    cases x with
    | str _ => exact h.elim
    | _ => exact idx_get s rx i h
  | _ => exact h.elim
/-! ### slices -/
def rSli (c : Cg) : V → Option Int → Option Int → Hp → VK → Prop := fun x lo hi H Q => L2.rSlA c.K x lo hi H Q ∨ L2.rSlL c.K x lo hi H Q
theorem sli_r {X : L2.Cx} (hK : X.K = c.K) : L2.SlR X (rSli c) := by
  unfold rSli
  rw [← hK]
  exact L2.sl_tupA.or L2.sl_list
theorem sIx_eq (n d : Nat) (o : Option Int) : sIx n d o = HT.sIx n d o := by cases o <;> rfl
theorem cut_rel (r : RDs c H m xs vs) (lo hi : Option Int) : RDs c H m (cut xs lo hi) (L2.cutV vs lo hi) := by
  unfold cut L2.cutV
  rw [sIx_eq, sIx_eq, r.len]
  exact (r.drop _).take _
theorem cut_whole {xs : List D} {lo hi : Option Int} (h : sIx xs.length 0 lo = 0 ∧ sIx xs.length xs.length hi = xs.length) : cut xs lo hi = xs := by
  unfold cut
  rw [h.1, h.2, List.drop_zero, Nat.sub_zero, List.take_length]
theorem sliV_ok {lo hi : Option Int} (s : S0 c H mo mn old S) (rx : RV c Hx H (mo ++ mn) mn x v) (h : Wr c mo W σ (relD c mo H) H mn (sliV old x lo hi S) Q) : rSli c v lo hi H Q := by
  have lst : ∀ x, RV c Hx H (mo ++ mn) mn x v → Wr c mo W σ (relD c mo H) H mn (match lstRo old S x with
    | some xs => .ok (.tmp (cut xs lo hi)) S
    | none => .bad) Q → rSli c v lo hi H Q := by
    intro x rx h
    cases e : lstRo old S x with
    | none => rw [e] at h; exact h.elim
    | some xs =>
      rw [e] at h
      obtain ⟨a, vs, rfl, h1, h2, _⟩ := rx.lstRo s e
      exact .inr ⟨a, vs, rfl, h1, fun p hp => h.tmp s.n (cut_rel h2 _ _) hp⟩
  cases x with
  | tup xs =>
    obtain ⟨a, vs, rfl, h1, h2⟩ := rx
    have r := cut_rel h2 lo hi
    refine .inl ⟨a, vs, rfl, h1, fun hw => ?_, fun hw p hp => Wr.tup s.n h r hp⟩
    rw [← h2.len, ← sIx_eq, ← sIx_eq] at hw
    have h' : Wr c mo W σ (relD c mo H) H mn (.ok (.tup xs) S) Q := by
      have e := cut_whole hw
      have h0 : Wr c mo W σ (relD c mo H) H mn (.ok (.tup (cut xs lo hi)) S) Q := h
      rw [e] at h0; exact h0
    exact h'.val s.n ⟨a, vs, rfl, h1, h2⟩
  | _ => exact lst _ rx h
/-! ### methods -/
theorem RVs.of : ∀ {ds : List D} {vs : List V}, RDs c H m ds vs → RVs c H0 H m mn ds vs
  | [], vs, h => by cases h; exact .nil
  | d :: ds, vs, h => by
    obtain ⟨v, r, rfl, h1, h2⟩ := h
    exact .cons (RV.of h1) (RVs.of h2)
/-- a list of the store's new part is changed -/
theorem wr_ok {a : Nat} {p : Addr} (s : S0 c H mo mn old S) (hp : (mo ++ mn)[a]? = some p) (ha : ¬ a < old.length) (e : S[a - old.length]? = some (.lst xs)) (hH : H p = some (.lst vs)) (r : RDs c H (mo ++ mn) zs ws) :
    Ext mn H mn (upd H p (.lst ws)) ∧ NewOk c (upd H p (.lst ws)) (mo ++ mn) mn (wr old S a zs) := by
  have hm : mn[a - old.length]? = some p := by
    rw [List.getElem?_append_right (by rw [s.o.len]; omega), s.o.len] at hp; exact hp
  have hpm : p ∈ mn := List.mem_of_getElem? hm
  have x : Ext mn H mn (upd H p (.lst ws)) := ⟨List.prefix_rfl, fun b h => .inl h, fun b o h hn => by
    rw [upd_ne (fun z => hn (by rw [z]; exact hpm))]; exact h⟩
  refine ⟨x, s.n.nd, by unfold wr; rw [List.length_set]; exact s.n.len, fun i b hb => ?_⟩
  unfold wr
  rw [List.getElem?_set]
  by_cases hi : a - old.length = i
  · subst hi
    rw [hm] at hb; cases hb
    rw [if_pos rfl, if_pos (List.getElem?_eq_some_iff.mp e).1]
    exact ⟨zs, ws, rfl, upd_same, r.ext x s.n⟩
  · rw [if_neg hi]
    obtain ⟨ys, us, h1, h2, h3⟩ := s.n.at_ i b hb
    have hne : b ≠ p := by
      intro z
      subst z
      apply hi
      have h4 := List.getElem?_eq_some_iff.mp hb
      have h5 := List.getElem?_eq_some_iff.mp hm
      obtain ⟨l4, e4⟩ := h4
      obtain ⟨l5, e5⟩ := h5
      exact (List.getElem_inj s.n.nd).mp (e5.trans e4.symm)
    exact ⟨ys, us, h1, by rw [upd_ne hne]; exact h2, h3.ext x s.n⟩
theorem wr_non {a : Nat} {p : Addr} (s : S0 c H mo mn old S) (hp : (mo ++ mn)[a]? = some p) (ha : ¬ a < old.length) (e : S[a - old.length]? = some (.lst xs)) (hH : H p = some (.lst vs)) (r : RDs c H (mo ++ mn) zs ws)
    (hd : RD c H (mo ++ mn) d v) (h : Wr c mo W σ (relD c mo H) H mn (.ok d (wr old S a zs)) Q) : Q v (upd H p (.lst ws)) := by
  obtain ⟨x, n⟩ := wr_ok s hp ha e hH r
  exact h mn _ _ x n (RV.of (hd.ext x s.n))
theorem wr_none {a : Nat} {p : Addr} (s : S0 c H mo mn old S) (hp : (mo ++ mn)[a]? = some p) (ha : ¬ a < old.length) (e : S[a - old.length]? = some (.lst xs)) (hH : H p = some (.lst vs)) (r : RDs c H (mo ++ mn) zs ws)
    (h : Wr c mo W σ (relD c mo H) H mn (.ok .non (wr old S a zs)) Q) : Q .non (upd H p (.lst ws)) := wr_non (d := .non) s hp ha e hH r rfl h
theorem pair_lst {a : Nat} {ce : Cell} {qs : List PyData} {p : PyData} (s : S0 c H mo mn old S) (e : pair old S (.lst a) y = some (qs, p)) (ea : at_ old S a = some ce) (r : RDs c H (mo ++ mn) ce.xs vs) : L2.DpAll c.K H vs qs := by
  unfold pair at e
  have e0 : toPy old S 60 (.lst a) = (mapO (toPy old S 59) ce.xs).map PyData.list := by
    show (match at_ old S a with
      | some c => (mapO (toPy old S 59) c.xs).map PyData.list
      | none => none) = _
    rw [ea]
  rw [e0] at e
  cases e1 : mapO (toPy old S 59) ce.xs with
  | none => rw [e1] at e; cases e
  | some ps =>
    rw [e1] at e
    simp only [Option.map] at e
    cases e2 : toPy old S 60 y with
    | none => rw [e2] at e; cases e
    | some q =>
      rw [e2] at e
      simp only [Option.some.injEq, Prod.mk.injEq] at e
      obtain ⟨rfl, rfl⟩ := e
      exact (mapO_ok s (toPy_ok s 59) ce.xs ps vs e1 r).1
theorem pair_ok {qs : List PyData} {p : PyData} (s : S0 c H mo mn old S) (rx : RV c Hx H (mo ++ mn) mn x v) (ry : RV c Hy H (mo ++ mn) mn y u) (e : pair old S x y = some (qs, p)) :
    L2.Dp c.K H v (.list qs) ∧ L2.Dp c.K H u p ∧ SeqAt.shaped (.list qs) = true ∧ SeqAt.shaped p = true := by
  unfold pair at e
  cases e1 : toPy old S 60 x with
  | none => rw [e1] at e; cases e
  | some q =>
    rw [e1] at e
    obtain ⟨a1, a2⟩ := toPy_shaped s e1 rx
    cases q with
    | list ps =>
      simp only at e
      cases e2 : toPy old S 60 y with
      | none => rw [e2] at e; cases e
      | some q =>
        rw [e2] at e
        simp only [Option.some.injEq, Prod.mk.injEq] at e
        obtain ⟨rfl, rfl⟩ := e
        obtain ⟨b1, b2⟩ := toPy_shaped s e2 ry
        exact ⟨a1, b1, a2, b2⟩
    | none => cases e
    | bool _ => cases e
    | int _ => cases e
    | str _ => cases e
    | tuple _ => cases e
    | dict _ => cases e
/-- remove, count of things of any depth -/
def rRemD (K : PySem.W.Frag) : V → List V → Hp → VK → Prop := fun x xs H Q => ∃ (a : Addr) (zs : List V) (y : V) (d : PyData) (ds : List PyData) (j : Nat) (z : PyData), x = V.ref a ∧ xs = [y] ∧ H a = some (.lst zs) ∧ L2.DpAll K H zs ds ∧ L2.Dp K H y d ∧
  SeqAt.shaped (.list ds) = true ∧ SeqAt.shaped d = true ∧ ds[j]? = some z ∧ PyData.eqv z d = true ∧ (∀ (m : Nat) (z' : PyData), m < j → ds[m]? = some z' → PyData.eqv z' d = false) ∧ Q .non (upd H a (.lst (zs.eraseIdx j)))
theorem mt_removeD {X : L2.Cx} (hu : X.A.units + 65 < cLine) : L2.MtR X "list.remove" (rRemD X.K) := by
  intro pins s σ H x xs v us Q I rx rxs h
  obtain ⟨a, zs, y, d, ds, j, z, rfl, rfl, hH, ha, hy, sl, sd, hz, hzj, hno, q⟩ := h
  cases rx
  obtain ⟨uy, rfl, ry⟩ := rxs.one
  obtain ⟨bs, r1⟩ := L2.Dp.reads I d y uy hy ry
  have hxs : PyData.canLayAll0 ds = true := SeqAt.canLay_of_shaped sl
  have hroom : X.A.units + 1 + min (PyData.depthAll ds) d.depth < cLine := room_in_shaped sd hu
  obtain ⟨hzl, its, n, r, hl, e⟩ := I.lstM hH
  obtain ⟨as, h4⟩ := L2.Dp.readsAll I ds _ its ha r
  have hn : its.length = ds.length := SeqAt.ReadsAll.length ds its as h4
  have hmap : its.map (SeqAt.readOf s.heap) = ds := SeqAt.readsAll_map ds its as hxs h4
  obtain ⟨hjd, _⟩ := List.getElem?_eq_some_iff.mp hz
  have hjl : j < its.length := by omega
  have hj : j < its.toArray.size := by simpa using hjl
  have at_ : ∀ (m : Nat) (hm : m < its.toArray.size) (z' : PyData), ds[m]? = some z' → SeqAt.readOf s.heap its.toArray[m] = z' := by
    intro m hm z' hz'
    have hml : m < its.length := by simpa using hm
    rw [← hmap, List.getElem?_map, List.getElem?_eq_getElem hml] at hz'
    have e1 : SeqAt.readOf s.heap its[m] = z' := Option.some.inj (show some (SeqAt.readOf s.heap its[m]) = some z' from hz')
    simpa using e1
  refine call_meets PySem.F.slot_list_remove ⟨_, e, rfl⟩ PySem.F.entry_list_remove (PySem.F.args_list_remove_2 _ _)
    (SeqAt.list_removeAt a its.toArray n none _ uy (fun u => PyData.eqv (SeqAt.readOf s.heap u) d) j hj ?_ ?_ (by rw [List.size_toArray]; omega)) ⟨e, SeqAt.items_eqAt (vs := its.toArray) (show ReadsAll s.heap its.toArray.toList ds as from h4) r1 hxs (SeqAt.canLay_of_shaped sd) hroom, ?_⟩
  · show PyData.eqv (SeqAt.readOf s.heap its.toArray[j]) d = true
    rw [at_ j hj z hz]
    exact hzj
  · intro m hm hmj
    have hmd : m < ds.length := by omega
    have hz' : ds[m]? = some ds[m] := List.getElem?_eq_getElem hmd
    show PyData.eqv (SeqAt.readOf s.heap its.toArray[m]) d = false
    rw [at_ m hm _ hz']
    exact hno m _ hmj hz'
  · refine ⟨.non, _, I.lset (its' := its.eraseIdx j) (t' := s.toks) hH e ?_ (r.eraseIdx j) ?_, rfl, q⟩
    · show its.toArray.eraseIdxIfInBounds j = (its.eraseIdx j).toArray
      rw [List.eraseIdxIfInBounds_toArray]
    · have z2 := L2.len_erase zs j
      omega
def rCntD (K : PySem.W.Frag) : V → List V → Hp → VK → Prop := fun x xs H Q => ∃ (a : Addr) (y : V) (d : PyData) (ds : List PyData), x = V.ref a ∧ xs = [y] ∧ L2.Dp K H (V.ref a) (.list ds) ∧ L2.Dp K H y d ∧
  SeqAt.shaped (.list ds) = true ∧ SeqAt.shaped d = true ∧ Q (.int (ds.countP fun z => PyData.eqv z d : Nat)) H
theorem mt_countD {X : L2.Cx} (hu : X.A.units + 65 < cLine) : L2.MtR X "list.count" (rCntD X.K) := by
  intro pins s σ H x xs v us Q I rx rxs h
  obtain ⟨a, y, d, ds, rfl, rfl, hl, hy, sl, sd, q⟩ := h
  cases rx
  obtain ⟨uy, rfl, ry⟩ := rxs.one
  obtain ⟨bs, r1⟩ := L2.Dp.reads I d y uy hy ry
  have hxs : PyData.canLayAll0 ds = true := SeqAt.canLay_of_shaped sl
  have hroom : X.A.units + 1 + min (PyData.depthAll ds) d.depth < cLine := room_in_shaped sd hu
  cases hl with
  | lst hs ha =>
    obtain ⟨its, rv, ⟨⟨cls, dd, data, sls⟩, n, ho, hc, hdn, hdt⟩, hlen⟩ := I.list hs
    simp only at hc hdt
    subst hc hdt
    obtain ⟨as, h4⟩ := L2.Dp.readsAll I ds _ its ha rv
    have hmap : its.map (SeqAt.readOf s.heap) = ds := SeqAt.readsAll_map ds its as hxs h4
    refine call_meets PySem.F.slot_list_count ⟨_, ho, rfl⟩ PySem.F.entry_list_count (PySem.F.args_list_count_2 _ _)
      (SeqAt.list_countAt a its.toArray n dd sls uy (fun u => PyData.eqv (SeqAt.readOf s.heap u) d)) ⟨ho, SeqAt.items_eqAt (vs := its.toArray) (show ReadsAll s.heap its.toArray.toList ds as from h4) r1 hxs (SeqAt.canLay_of_shaped sd) hroom, ?_⟩
    have ec : its.toArray.toList.countP (fun u => PyData.eqv (SeqAt.readOf s.heap u) d) = ds.countP fun z => PyData.eqv z d := by
      rw [← hmap, List.countP_map]; rfl
    refine ⟨.int (ds.countP fun z => PyData.eqv z d : Nat), H, I.tok _, ⟨s.toks, ?_⟩, q⟩
    show Value.int ((its.toArray.toList.countP (fun u => PyData.eqv (SeqAt.readOf s.heap u) d) : Nat) : Int) s.toks = _
    rw [ec]
def rInsert : V → List V → Hp → VK → Prop := fun x vs H Q => ∃ (l : Addr) (xs : List V) (i : Int) (y : V), x = .ref l ∧ vs = [.int i, y] ∧ H l = some (.lst xs) ∧ xs.length < sizeLine ∧ 0 ≤ i ∧ i < 2 ^ 63 ∧
    Q .non (upd H l (.lst (xs.take i.toNat ++ [y] ++ xs.drop i.toNat)))
def rM (c : Cg) (m : Met) : V → List V → Hp → VK → Prop := match m with
  | .append => L2.rAppend
  | .extend => L2.rExtend
  | .pop => L2.rPop
  | .popat => L2.rPopAt
  | .reverse => L2.rReverse
  | .clear => L2.rClear
  | .insert => rInsert
  | .remove => rRemD c.K
  | .index => L2.rIndexD c.K
  | .count => rCntD c.K
def metId : Met → Str × String
  | .append => ("append", "list.append") | .extend => ("extend", "list.extend") | .pop => ("pop", "list.pop") | .popat => ("pop", "list.pop") | .reverse => ("reverse", "list.reverse")
  | .clear => ("clear", "list.clear") | .insert => ("insert", "list.insert") | .remove => ("remove", "list.remove") | .index => ("index", "list.index") | .count => ("count", "list.count")
theorem met_r {X : L2.Cx} (hK : X.K = c.K) (hu : X.A.units + 65 < cLine) (m : Met) : L2.MtR X (metId m).2 (rM c m) := by
  cases m with
  | append => exact L2.mt_append
  | extend => exact L2.mt_extend
  | pop => exact L2.mt_pop
  | popat => exact L2.mt_popAt
  | reverse => exact L2.mt_reverse
  | clear => exact L2.mt_clear
  | insert => exact L2.mt_insert
  | remove => show L2.MtR _ _ (rRemD c.K); rw [← hK]; exact mt_removeD hu
  | index => show L2.MtR _ _ (L2.rIndexD c.K); rw [← hK]; exact L2.mt_indexD hu
  | count => show L2.MtR _ _ (rCntD c.K); rw [← hK]; exact mt_countD hu
theorem met_slot (m : Met) : Slot "list" (metId m).1 (metId m).2 := by
  cases m with
  | append => exact PySem.F.slot_list_append
  | extend => exact PySem.F.slot_list_extend
  | pop => exact PySem.F.slot_list_pop
  | popat => exact PySem.F.slot_list_pop
  | reverse => exact PySem.F.slot_list_reverse
  | clear => exact PySem.F.slot_list_clear
  | insert => exact PySem.F.slot_list_insert
  | remove => exact PySem.F.slot_list_remove
  | index => exact PySem.F.slot_list_index
  | count => exact PySem.F.slot_list_count
theorem met_ty (m : Met) : typeOf (.builtin (metId m).2) = pure (.type "method_descriptor") := by
  cases m with
  | append => exact PySem.F.type_list_append
  | extend => exact PySem.F.type_list_extend
  | pop => exact PySem.F.type_list_pop
  | popat => exact PySem.F.type_list_pop
  | reverse => exact PySem.F.type_list_reverse
  | clear => exact PySem.F.type_list_clear
  | insert => exact PySem.F.type_list_insert
  | remove => exact PySem.F.type_list_remove
  | index => exact PySem.F.type_list_index
  | count => exact PySem.F.type_list_count
theorem first_of {qs : List PyData} {p : PyData} (h : Nat.blt (qs.findIdx fun z => PyData.eqv z p) qs.length = true) :
    ∃ z, qs[qs.findIdx fun z => PyData.eqv z p]? = some z ∧ PyData.eqv z p = true ∧ ∀ (m : Nat) (z' : PyData), m < (qs.findIdx fun z => PyData.eqv z p) → qs[m]? = some z' → PyData.eqv z' p = false := by
  have hl : (qs.findIdx fun z => PyData.eqv z p) < qs.length := Nat.le_of_ble_eq_true h
  refine ⟨_, List.getElem?_eq_getElem hl, List.findIdx_getElem (p := fun z => PyData.eqv z p), fun m z' hm hz => ?_⟩
  obtain ⟨hml, hz⟩ := List.getElem?_eq_some_iff.mp hz
  have := List.not_of_lt_findIdx (p := fun z => PyData.eqv z p) hm
  rw [← hz]
  simpa using this
theorem blt_of {n k : Nat} (h : Nat.blt n k = true) : n < k := Nat.le_of_ble_eq_true h
theorem sl16 : sizeLine = 16777216 := sizeLine_eq
theorem tyV_of {a : Nat} (s : S0 c H mo mn old S) (r : RV c Hx H (mo ++ mn) mn (.lst a) v) {ce : Cell} (e : at_ old S a = some ce) : L2.tyV c.K "list" v H := by
  obtain ⟨p, vs, rfl, h1, _⟩ := r.lstRo (ds := ce.xs) s (by simp only [lstRo, e, Option.map])
  exact .inl ⟨rfl, vs, h1⟩
theorem at_new {a : Nat} (h : ¬ a < old.length) : at_ old S a = S[a - old.length]? := by
  unfold at_
  rw [List.getElem?_append_right (by omega)]
/-- what a method asks -/
theorem metV_ok {mt : Met} (s : S0 c H mo mn old S) (rx : RV c Hx H (mo ++ mn) mn x v) (r : RVs c H0 H (mo ++ mn) mn ds vs) (rh : mt ≠ .extend → RDs c H (mo ++ mn) ds vs) (h : Wr c mo W σ (relD c mo H) H mn (metV old mt x ds S) Q) :
    L2.tyV c.K "list" v H ∧ rM c mt v vs H Q := by
  unfold metV at h
  split at h
  · -- index
    obtain ⟨u, rfl, r1⟩ := r.one
    split at h
    · rename_i qs p e
      obtain ⟨h1, h2, h3, h4⟩ := pair_ok s rx r1 e
      split at h
      · rename_i hb
        obtain ⟨z, f1, f2, f3⟩ := first_of hb
        cases h1 with
        | lst g1 g2 => exact ⟨.inl ⟨rfl, _, g1⟩, _, u, p, qs, _, z, rfl, rfl, .lst g1 g2, h2, h3, h4, f1, f2, f3, h.val s.n rfl⟩
      · exact h.elim
    · exact h.elim
  · -- count
    obtain ⟨u, rfl, r1⟩ := r.one
    split at h
    · rename_i qs p e
      obtain ⟨h1, h2, h3, h4⟩ := pair_ok s rx r1 e
      cases h1 with
      | lst g1 g2 => exact ⟨.inl ⟨rfl, _, g1⟩, _, u, p, qs, rfl, rfl, .lst g1 g2, h2, h3, h4, h.val s.n rfl⟩
    · exact h.elim
  · split at h
    · rename_i a
      split at h
      · exact h.elim
      · rename_i ha
        split at h
        · rename_i xs e
          have ec := (at_new (S := S) ha).trans e
          refine ⟨tyV_of s rx ec, ?_⟩
          obtain ⟨p, vs0, hp, hr, hh⟩ := s.cell ec
          rcases hh with ⟨_, hH⟩ | ⟨z, _⟩
          · obtain ⟨p', hp', rfl⟩ := rx
            rw [hp] at hp'; cases hp'
            simp only [Cell.xs] at hr
            split at h
            · -- append
              obtain ⟨u, rfl, r1⟩ := r.one
              split at h
              · rename_i hb
                have hl := blt_of hb
                exact ⟨p, vs0, u, rfl, rfl, hH, by rw [← hr.len, sl16]; exact hl, wr_none s hp ha e hH (hr.app (rh (by intro z; cases z))) h⟩
              · exact h.elim
            · -- extend
              obtain ⟨u, rfl, r1⟩ := r.one
              split at h
              · rename_i ys ey
                split at h
                · rename_i hb
                  obtain ⟨b, us, rfl, h2, r2⟩ := r1.lstOf s ey
                  exact ⟨p, b, vs0, us, rfl, rfl, hH, h2, by rw [← hr.len, ← r2.len]; exact SL_le hb, wr_none s hp ha e hH (hr.app r2) h⟩
                · exact h.elim
              · exact h.elim
            · -- pop
              cases r
              split at h
              · rename_i y ey
                obtain ⟨u, e1, r1⟩ := hr.get ey
                rw [hr.len] at e1
                exact ⟨p, vs0, u, rfl, rfl, hH, e1, wr_non s hp ha e hH hr.dropLast r1 h⟩
              · exact h.elim
            · -- popat
              obtain ⟨u, rfl, r1⟩ := r.one
              cases r1
              split at h
              · rename_i hb
                have hl := SL_le hb
                split at h
                · rename_i k ek
                  split at h
                  · rename_i y ey
                    rw [ixN_eq, hr.len] at ek
                    obtain ⟨g1, g2, g3, g4⟩ := L2.ixN_seq ek
                    rw [sl16] at hl
                    rw [hr.len] at hl
                    obtain ⟨u, e1, r1⟩ := hr.get ey
                    exact ⟨p, vs0, _, k, u, rfl, rfl, hH, by omega, by omega, g1, e1, wr_non s hp ha e hH (hr.erase k) r1 h⟩
                  · exact h.elim
                · exact h.elim
              · exact h.elim
            · -- insert
              obtain ⟨u, w, rfl, r1, r2⟩ := r.two
              cases r1
              split at h
              · rename_i hb
                simp only [Bool.and_eq_true, decide_eq_true_eq] at hb
                have hl := blt_of hb.2
                exact ⟨p, vs0, _, w, rfl, rfl, hH, by rw [← hr.len, sl16]; exact hl, hb.1.1, by omega, wr_none s hp ha e hH (((hr.take _).app (by obtain ⟨v1, r1, e1, _, e2⟩ := rh (by intro z; cases z); cases e1; exact e2)).app (hr.drop _)) h⟩
              · exact h.elim
            · cases r
              exact ⟨p, vs0, rfl, rfl, hH, wr_none s hp ha e hH hr.rev h⟩
            · cases r
              exact ⟨p, vs0, rfl, rfl, hH, wr_none (zs := []) (ws := []) s hp ha e hH rfl h⟩
            · -- remove
              obtain ⟨u, rfl, r1⟩ := r.one
              split at h
              · rename_i qs q ep
                obtain ⟨h1, h2, h3, h4⟩ := pair_ok (v := .ref p) s (x := .lst a) (Hx := H) ⟨p, hp, rfl⟩ r1 ep
                split at h
                · rename_i hb
                  obtain ⟨z, f1, f2, f3⟩ := first_of hb
                  exact ⟨p, vs0, u, q, qs, _, z, rfl, rfl, hH, pair_lst s ep ec hr, h2, h3, h4, f1, f2, f3, wr_none s hp ha e hH (hr.erase _) h⟩
                · exact h.elim
              · exact h.elim
            · exact h.elim
          · cases z
        · exact h.elim
    · exact h.elim
end
end Z
/-! Z5: enumerate over tuples; what is walked. -/
namespace PySem
open Sem (wp)
open AutoSeq1 (wpAny_loadPart')
theorem z_meets_enum {v : Value} {o : Obj} {H : Heap → Prop} (B : Begins v o H) :
    Meets (Builtin.«enumerate.__new__» ⟨[.type "enumerate", v], []⟩) (fun _ R s => H s.heap ∧
      R (.ok (.ret (.ref (s.heap.push o).objs.size))) { s with heap := (s.heap.push o).push { cls := .type "enumerate", data := .fields #[.none, .bool false, .ref s.heap.objs.size, rawInt 0, .none, .none] } }) :=
  .of_wp fun prog w A R s h => by
    obtain ⟨hp, g, d, tk, os⟩ := s; obtain ⟨h1, h⟩ := h
    have hsub := sub_enumerate
    have q1 : ∀ {A' : Around} {E : Value → Shared → Prop} {Q : Value → Shared → Prop}, Q (.ref hp.objs.size) ⟨hp.push o, g, d, tk, os⟩ → wpAny (model prog w) A' (pyIter v) Q E ⟨hp, g, d, tk, os⟩ :=
      fun q => B.iter prog w _ _ ⟨hp, g, d, tk, os⟩ _ h1 q
    wp_walk using q1
    refine wpAny_stack_any fun st => wpAny_pure ?_
    split
    · rename_i c _ _ _ _ _
      cases (c == Value.type "enumerate")
      · wp_walk using q1
        exact ⟨_, rfl, h⟩
      · wp_walk using q1
        exact ⟨_, rfl, h⟩
    · wp_walk using q1
      exact ⟨_, rfl, h⟩
section
variable {prog : Program} {w : World} {A : Around} {E : Value → Shared → Prop} {s : Shared}
theorem z_enum_begins {v : Value} {o : Obj} {H : Heap → Prop} {Q : Value → Shared → Prop} (B : Begins v o H) (h1 : H s.heap)
    (h : ∀ h', IsEnum h' (s.heap.objs.size + 1) s.heap.objs.size 0 .none → h'.get? s.heap.objs.size = some o → h'.objs.size = s.heap.objs.size + 2 →
      (∀ b o, s.heap.get? b = some o → h'.get? b = some o) → Q (.ref (s.heap.objs.size + 1)) { s with heap := h' }) :
    wpAny (model prog w) A (call (.type "enumerate") [v]) Q E s := by
  refine callType_new F.called_enumerate (by decide) (F.typeCall_enumerate_1 _) (F.newCall_enumerate_1 _) (fun obj => F.args_object_init_2 obj _) F.entry_enumerate_new
    (z_meets_enum B) ⟨h1, ?_⟩
  have hz : (s.heap.push o).objs.size = s.heap.objs.size + 1 := Heap.size_push ..
  show _ ∧ _
  rw [hz]
  have he : IsEnum ((s.heap.push o).push { cls := .type "enumerate", data := .fields #[.none, .bool false, .ref s.heap.objs.size, rawInt 0, .none, .none] }) (s.heap.objs.size + 1) s.heap.objs.size 0 .none := by
    have := Heap.get?_push_size (s.heap.push o) (o := { cls := .type "enumerate", data := .fields #[.none, .bool false, .ref s.heap.objs.size, rawInt 0, .none, .none] }) rfl
    rw [hz] at this; exact this
  refine ⟨⟨_, he, rfl⟩, h _ he (Heap.get?_push_of_some _ (Heap.get?_push_size _ B.free)) (by rw [Heap.size_push, hz]) fun b o x => Heap.get?_push_of_some _ (Heap.get?_push_of_some _ x)⟩
end
end PySem
namespace L2
open PySem PySem.Spec PyProof.Rows
/-- enumerate over the tuple at a -/
def IteT (K : PySem.W.Frag) (a : Addr) : It :=
  ⟨fun i H => ∃ (xs : List V) (x : V), SqT K H a xs ∧ xs[i]? = some x, fun i H v H' => ∃ T x, v = .ref T ∧ H T = none ∧ H' = upd H T (.tup [.int (i : Nat), x]) ∧ ∀ xs, SqT K H a xs → xs[i]? = some x, fun i H => ∃ xs : List V, SqT K H a xs ∧ xs.length = i⟩
theorem turn_enumT {P : Program} {w : World} {K : PySem.W.Frag} {elts : List Expr} {kk : Nat} {tpos : Pos} (a e it : Addr) (hae : a ≠ it) :
    Turn P w K (.Tuple elts kk tpos) (IteT K a) [e, it] e (fun i h => (∃ old, IsEnum h e it ((i : Nat) : Int) old) ∧ h.IsTupleIter it a i ∧ e ≠ it) where
  mem := by simp
  obj := fun i h st b hb => by
    obtain ⟨⟨old, he⟩, ⟨o, ho, hc, hd⟩, _⟩ := st
    have e' : b = e ∨ b = it := by simpa using hb
    rcases e' with z | z
    · rw [z]; exact ⟨_, he, fun v q => nomatch q⟩
    · rw [z]; exact ⟨o, ho, fun v q => by rw [hd] at q; cases q⟩
  keep := fun i h h' st k => let ⟨⟨old, he⟩, hi, hne⟩ := st; ⟨⟨old, k e (by simp) _ he⟩, hi.at fun o q => k it (by simp) o q, hne⟩
  item := by
    intro X hP hw hK hc i pins s σ H E I hf st hg
    subst hP hw hK
    obtain ⟨⟨old, he⟩, hit, hne⟩ := st
    obtain ⟨xs, x, hq, hx⟩ := hg
    obtain ⟨its, rv, p, hz⟩ := I.tuple hq
    obtain ⟨u, hu, ru⟩ := rv.get hx
    have hel : e < s.heap.objs.size := Heap.lt_size he
    have hil : it < s.heap.objs.size := by obtain ⟨_, q, _⟩ := hit; exact Heap.lt_size q
    have hea : e ≠ a := by
      intro z
      subst z
      obtain ⟨o, ho, hcl, _⟩ := p
      rw [he] at ho; cases ho; exact absurd (Value.type.inj hcl) (by decide)
    have hl : i < its.toArray.size := by
      have := (List.getElem?_eq_some_iff.mp hu).1
      simpa using this
    have D := PySem.Draws.tuple (prog := X.prog) (w := X.w) (A := X.A.in1) (by show X.A.handled = none; exact I.ok.hd hc) it a hae its.toArray
    have ht : s.heap.IsTuple a its.toArray := p
    refine wpAny_pyNext_enum_itemD D he ⟨hit, ht⟩ hl hne (by simp [hne, hea]) fun y h' tk hy ho hit' hT hsz hk => ?_
    have hyu : y = u := by
      have e1 : its.toArray[i]? = some u := by simpa using hu
      have e2 : its.toArray[i]? = some y := hy
      rw [e1] at e2
      exact (Option.some.inj e2).symm
    subst hyu
    refine ⟨_, rfl, wpAny_letOwnedTupleGo_enum (s := { s with heap := h', toks := tk + 1 }) ho fun h'' he' sb => ?_⟩
    have hT2 : h''.get? s.heap.objs.size = some { cls := .type "tuple", data := .seq #[.int i tk, y] } := (sb.2 _ (Nat.ne_of_gt hel)).trans hT
    have new : ObjOk X.prog X.w (upd H s.heap.objs.size (.tup [.int (i : Nat), x])) h'' s.heap.objs.size (.tup [.int (i : Nat), x]) :=
      ⟨by show 2 ≤ sizeLine; decide, [.int i tk, y], .cons ⟨_, rfl⟩ (.cons ru .nil), ⟨_, hT2, rfl, _, rfl⟩⟩
    have I1 : Inv X pins σ (upd H s.heap.objs.size (.tup [.int (i : Nat), x])) { s with heap := h'', toks := tk + 1 } :=
      I.turnedNew (ch := [e, it]) (fun b ob hb q => (sb.2 b (fun z => hb (by simp [z]))).trans (hk b ob (fun z => hb (by simp [z])) (fun z => hb (by simp [z])) q)) hf (Nat.le_refl _) new
    refine ⟨.ref s.heap.objs.size, _, I1, rfl, ⟨_, x, rfl, I.hok.fresh (Nat.le_refl _), rfl, fun ys hy => by rw [I.tuple_inj hy hq]; exact hx⟩, ⟨⟨y, ?_⟩, hit'.1.at fun o q => (sb.2 it (Ne.symm hne)).trans q, hne⟩, fun b hb => ?_⟩
    · have e1 : ((i + 1 : Nat) : Int) = (i : Int) + 1 := by omega
      rw [e1]; exact he'
    · have hb' : b < s.heap.objs.size := by
        have e' : b = e ∨ b = it := by simpa using hb
        rcases e' with z | z
        · rw [z]; exact hel
        · rw [z]; exact hil
      rw [upd_ne (Nat.ne_of_lt hb')]
      exact (hf b hb).1
  done := by
    intro X hP hw hK hc i pins s σ H E I hf st hg
    subst hP hw hK
    obtain ⟨⟨old, he⟩, hit, hne⟩ := st
    obtain ⟨xs, hq, hx⟩ := hg
    obtain ⟨its, rv, p, hz⟩ := I.tuple hq
    obtain ⟨f0, f1, f2, f3, f4, f5⟩ := hf it (by simp)
    have hl := rv.length
    have D := PySem.Draws.tuple (prog := X.prog) (w := X.w) (A := X.A.in1) (by show X.A.handled = none; exact I.ok.hd hc) it a hae its.toArray
    have ht : s.heap.IsTuple a its.toArray := p
    have hi : its.toArray.size = i := by simp; omega
    exact wpAny_pyNext_enum_endD D he (by rw [hi]; exact ⟨hit, ht⟩) fun h' eb => ⟨rfl, I.turned (t' := s.toks) (fun b o hb q => eb b o hb q) f0 f1 f3 f4 f5⟩
  self := fun A i s Q E st h => let ⟨⟨_, he⟩, _⟩ := st; wpAny_pyIter_enum he h
def iEnumT (K : PySem.W.Frag) (ta : TA) : TI := fun σ H R => ta σ H fun vs H1 => ∃ a xs, vs = [.ref a] ∧ ((SqL K H1 a xs ∧ R (Ite K a) H1) ∨ (SqT K H1 a xs ∧ R (IteT K a) H1))
theorem pi_enumT {X : Cx} {e : Expr} {ta : TA} {p pos tpos : Pos} {elts : List Expr} {kk : Nat} (hg : Gl X "enumerate") (hm : X.mg "enumerate" = none) (ha : PA X [e] ta) (hs : starEach [e] X.env = [(false, eval e X.env)] := by rfl) :
    PI X (.Tuple elts kk tpos) (.Call (.Name "enumerate" p) [e] [] pos) (iEnumT X.K ta) := by
  refine ⟨fun pins s σ H R I h => ?_⟩
  refine Call_ (ld_blt I hg hm boot_enumerate (PyProof.Rows.callWith_type1 (thn (ha.run pos pins s σ H _ I h) fun us s1 ⟨vs, H1, I1, r1, q1⟩ => ?_) hs rfl))
  obtain ⟨a, xs, ex, hq⟩ := q1
  subst ex
  cases r1 with
  | cons r rr =>
    cases rr
    cases r
    have fp : ∀ b ∈ [s1.heap.objs.size + 1, s1.heap.objs.size], FpOk X pins H1 b := fun b hb => by
      have e' : b = s1.heap.objs.size + 1 ∨ b = s1.heap.objs.size := by simpa using hb
      have hle : s1.heap.objs.size ≤ b := by
        rcases e' with z | z
        · rw [z]; exact Nat.le_add_right _ _
        · rw [z]; exact Nat.le_refl _
      exact I1.fpOk hle (I1.hok.fresh hle)
    rcases hq with ⟨hq, q⟩ | ⟨hq, q⟩
    · obtain ⟨its, rv, p', hz⟩ := I1.list hq
      refine call_enumerate_list p'.isList fun h' he hit hsz hk => wpAny_pyIter_enum he ?_
      have I2 : Inv X pins σ H1 { s1 with heap := h' } := I1.kept (t' := s1.toks) hk
      exact ⟨s1.heap.objs.size + 1, [s1.heap.objs.size + 1, s1.heap.objs.size], _, _, H1, rfl, I2, turn_enum a (s1.heap.objs.size + 1) s1.heap.objs.size, ⟨⟨.none, he⟩, hit, Nat.succ_ne_self _⟩, fp, q⟩
    · obtain ⟨its, rv, p', hz⟩ := I1.tuple hq
      have ht : s1.heap.IsTuple a its.toArray := p'
      refine z_enum_begins (begins_tuple a its.toArray) ht fun h' he ho hsz hk => wpAny_pyIter_enum he ?_
      have I2 : Inv X pins σ H1 { s1 with heap := h' } := I1.kept (t' := s1.toks) hk
      have hal : a ≠ s1.heap.objs.size := by
        obtain ⟨o, h1, _⟩ := ht
        exact Nat.ne_of_lt (Heap.lt_size h1)
      exact ⟨s1.heap.objs.size + 1, [s1.heap.objs.size + 1, s1.heap.objs.size], _, _, H1, rfl, I2, turn_enumT a (s1.heap.objs.size + 1) s1.heap.objs.size hal, ⟨⟨.none, he⟩, ⟨_, ho, rfl, rfl⟩, Nat.succ_ne_self _⟩, fp, q⟩
end L2
/-! Z6: what is walked; loops, comprehensions, blocks: the evaluation gives what the hand layer's readings ask. -/
namespace Z
open PySem PySem.Spec PyProof.Rows
open L2 (V Hp HO upd upd_same upd_ne SqL SqT Rd VK TE TT TA TS Ends WX XK)
abbrev H00 : Hp := fun _ => none
section
variable {c : Cg} {H H' H1 H2 H0 Hx Hy : Hp} {m m' mo mn mn' mn1 mn2 : List Addr} {old S S' : Sto} {env : Env} {σ : L2.St} {d x y : D} {v u : V} {ds xs ys zs : List D} {vs us ws : List V} {W : WX} {Q : V → Hp → Prop} {b : Bool}
inductive ItR (c : Cg) (H : Hp) (m mn : List Addr) : It → L2.It → Prop where
  | seqL {d a} : RV c H00 H m mn d (.ref a) → isT d = false → ItR c H m mn (.seq d) (L2.Itl c.K a)
  | seqT {d a} : RV c H00 H m mn d (.ref a) → isT d = true → ItR c H m mn (.seq d) (L2.Itt c.K a)
  | rng {lo n} : ItR c H m mn (.rng lo 1 n) (L2.Itr lo n)
  | rngC {lo n} : ItR c H m mn (.rng lo (-1) n) (L2.Itc lo (-1) n)
  | enuL {d a} : RV c H00 H m mn d (.ref a) → isT d = false → ItR c H m mn (.enu d) (L2.Ite c.K a)
  | enuT {d a} : RV c H00 H m mn d (.ref a) → isT d = true → ItR c H m mn (.enu d) (L2.IteT c.K a)
  | zipL {d e a b} : RV c H00 H m mn d (.ref a) → RV c H00 H m mn e (.ref b) → isT d = false → isT e = false → ItR c H m mn (.zip d e) (L2.Itz c.K a b)
  | zipT {d e a b} : RV c H00 H m mn d (.ref a) → RV c H00 H m mn e (.ref b) → isT d = true → isT e = true → ItR c H m mn (.zip d e) (RZ.ItzT c.K a b)
theorem ItR.ext {j : It} {J : L2.It} (x : Ext mn H mn' H') (n : NewOk c H (mo ++ mn) mn S) (r : ItR c H (mo ++ mn) mn j J) : ItR c H' (mo ++ mn') mn' j J := by
  cases r with
  | seqL h1 h2 => exact .seqL (h1.ext x n) h2
  | seqT h1 h2 => exact .seqT (h1.ext x n) h2
  | rng => exact .rng
  | rngC => exact .rngC
  | enuL h1 h2 => exact .enuL (h1.ext x n) h2
  | enuT h1 h2 => exact .enuT (h1.ext x n) h2
  | zipL h1 h2 h3 h4 => exact .zipL (h1.ext x n) (h2.ext x n) h3 h4
  | zipT h1 h2 h3 h4 => exact .zipT (h1.ext x n) (h2.ext x n) h3 h4
theorem seqL_at (s : S0 c H mo mn old S) (r : RV c Hx H (mo ++ mn) mn d (.ref a)) (ht : isT d = false) (e : seqOf old S d = some xs) : ∃ vs, SqL c.K H a vs ∧ RDs c H (mo ++ mn) xs vs := by
  obtain ⟨b, vs, hb, h1, h2⟩ := r.seqOf s e
  cases hb
  rcases h2 with ⟨h2, _⟩ | ⟨_, h2⟩
  · exact ⟨vs, h2, h1⟩
  · subst h2; cases ht
theorem seqT_at (s : S0 c H mo mn old S) (r : RV c Hx H (mo ++ mn) mn d (.ref a)) (ht : isT d = true) (e : seqOf old S d = some xs) : ∃ vs, SqT c.K H a vs ∧ RDs c H (mo ++ mn) xs vs := by
  cases d with
  | tup ds =>
    obtain ⟨b, vs, hb, h1, h2⟩ := r
    cases hb
    simp only [seqOf, Option.some.injEq] at e
    subst e
    exact ⟨vs, h1, h2⟩
  | _ => cases ht
/-- a pair of a turn, laid in the heap -/
theorem pair_new {T : Addr} (n : NewOk c H (mo ++ mn) mn S) (hT : H T = none) (h1 : RD c H (mo ++ mn) x v) (h2 : RD c H (mo ++ mn) y u) :
    Ext mn H mn (upd H T (.tup [v, u])) ∧ (∀ b ∈ mn, upd H T (.tup [v, u]) b = H b) ∧ RD c (upd H T (.tup [v, u])) (mo ++ mn) (.tup [x, y]) (.ref T) := by
  have e : Ext mn H mn (upd H T (.tup [v, u])) := Ext.new hT
  refine ⟨e, fun b hb => ?_, T, [v, u], rfl, .inl (.inl upd_same), v, [u], rfl, h1.ext e n, u, [], rfl, h2.ext e n, rfl⟩
  obtain ⟨vs, z⟩ := n.there hb
  exact upd_ne (L2.ne_of_none z hT)
/-- one turn -/
theorem it_step {j : It} {J : L2.It} {k : Nat} (s : S0 c H mo mn old S) (r : ItR c H (mo ++ mn) mn j J) (hk : ∀ ds, j = .enu (.tup ds) → k ≤ ds.length) :
    match j.get old S k with
    | none => True
    | some none => J.stop k H
    | some (some x) => J.go k H ∧ ∀ v H', J.yld k H v H' → Ext mn H mn H' ∧ (∀ b ∈ mn, H' b = H b) ∧ RD c H' (mo ++ mn) x v := by
  cases r with
  | @seqL d a h1 h2 =>
    simp only [It.get]
    cases e : seqOf old S d with
    | none => trivial
    | some xs =>
      obtain ⟨vs, q1, q2⟩ := seqL_at s h1 h2 e
      simp only [Option.map]
      cases e2 : xs[k]? with
      | none => exact ⟨vs, q1, by have := List.getElem?_eq_none_iff.mp e2; rw [q2.len] at this; exact this⟩
      | some x =>
        obtain ⟨v, q3, q4⟩ := q2.get e2
        refine ⟨⟨vs, v, q1, q3⟩, fun v' H' hy => ?_⟩
        obtain ⟨rfl, hy⟩ := hy
        have := hy vs q1
        rw [q3] at this; cases this
        exact ⟨Ext.refl, fun _ _ => rfl, q4⟩
  | @seqT d a h1 h2 =>
    simp only [It.get]
    cases e : seqOf old S d with
    | none => trivial
    | some xs =>
      obtain ⟨vs, q1, q2⟩ := seqT_at s h1 h2 e
      simp only [Option.map]
      cases e2 : xs[k]? with
      | none => exact ⟨vs, q1, by have := List.getElem?_eq_none_iff.mp e2; rw [q2.len] at this; exact this⟩
      | some x =>
        obtain ⟨v, q3, q4⟩ := q2.get e2
        refine ⟨⟨vs, v, q1, q3⟩, fun v' H' hy => ?_⟩
        obtain ⟨rfl, hy⟩ := hy
        have := hy vs q1
        rw [q3] at this; cases this
        exact ⟨Ext.refl, fun _ _ => rfl, q4⟩
  | @rng lo n =>
    simp only [It.get]
    by_cases h : k < n
    · rw [if_pos h]
      refine ⟨h, fun v H' hy => ?_⟩
      obtain ⟨rfl, rfl⟩ := hy
      refine ⟨Ext.refl, fun _ _ => rfl, ?_⟩
      show V.int _ = V.int _
      rw [Int.mul_one]
    · rw [if_neg h]
      exact Nat.le_of_not_lt h
  | @rngC lo n =>
    simp only [It.get]
    by_cases h : k < n
    · rw [if_pos h]
      refine ⟨h, fun v H' hy => ?_⟩
      obtain ⟨rfl, rfl⟩ := hy
      exact ⟨Ext.refl, fun _ _ => rfl, rfl⟩
    · rw [if_neg h]
      exact Nat.le_of_not_lt h
  | @enuL d a h1 h2 =>
    simp only [It.get]
    cases e : seqOf old S d with
    | none => trivial
    | some xs =>
      obtain ⟨vs, q1, q2⟩ := seqL_at s h1 h2 e
      simp only
      cases e2 : xs[k]? with
      | none => exact ⟨vs, q1, by have := List.getElem?_eq_none_iff.mp e2; rw [q2.len] at this; exact this⟩
      | some x =>
        obtain ⟨v, q3, q4⟩ := q2.get e2
        refine ⟨⟨vs, v, q1, q3⟩, fun v' H' hy => ?_⟩
        obtain ⟨T, y, rfl, hT, rfl, hy⟩ := hy
        have := hy vs q1
        rw [q3] at this; cases this
        exact pair_new s.n hT rfl q4
  | @enuT d a h1 h2 =>
    simp only [It.get]
    cases e : seqOf old S d with
    | none => trivial
    | some xs =>
      obtain ⟨vs, q1, q2⟩ := seqT_at s h1 h2 e
      simp only
      cases e2 : xs[k]? with
      | none =>
        have h3 : k ≤ xs.length := by
          cases d with
          | tup ds =>
            simp only [seqOf, Option.some.injEq] at e
            subst e
            exact hk _ rfl
          | _ => cases h2
        have h4 := List.getElem?_eq_none_iff.mp e2
        exact ⟨vs, q1, by rw [← q2.len]; omega⟩
      | some x =>
        obtain ⟨v, q3, q4⟩ := q2.get e2
        refine ⟨⟨vs, v, q1, q3⟩, fun v' H' hy => ?_⟩
        obtain ⟨T, y, rfl, hT, rfl, hy⟩ := hy
        have := hy vs q1
        rw [q3] at this; cases this
        exact pair_new s.n hT rfl q4
  | @zipL d e a b h1 h2 h3 h4 =>
    simp only [It.get]
    cases e1 : seqOf old S d with
    | none => trivial
    | some xs =>
      obtain ⟨vs, q1, q2⟩ := seqL_at s h1 h3 e1
      simp only
      cases e2 : seqOf old S e with
      | none => trivial
      | some ys =>
        obtain ⟨us, p1, p2⟩ := seqL_at s h2 h4 e2
        simp only
        cases f1 : xs[k]? with
        | none => exact ⟨vs, us, q1, p1, .inl (by have := List.getElem?_eq_none_iff.mp f1; rw [q2.len] at this; exact this)⟩
        | some x =>
          cases f2 : ys[k]? with
          | none => exact ⟨vs, us, q1, p1, .inr (by have := List.getElem?_eq_none_iff.mp f2; rw [p2.len] at this; exact this)⟩
          | some y =>
            obtain ⟨v, q3, q4⟩ := q2.get f1
            obtain ⟨u, p3, p4⟩ := p2.get f2
            refine ⟨⟨vs, us, v, u, q1, p1, q3, p3⟩, fun v' H' hy => ?_⟩
            obtain ⟨T, z, w, rfl, hT, rfl, hy, hy2⟩ := hy
            have := hy vs q1
            rw [q3] at this; cases this
            have := hy2 us p1
            rw [p3] at this; cases this
            exact pair_new s.n hT q4 p4
  | @zipT d e a b h1 h2 h3 h4 =>
    simp only [It.get]
    cases e1 : seqOf old S d with
    | none => trivial
    | some xs =>
      obtain ⟨vs, q1, q2⟩ := seqT_at s h1 h3 e1
      simp only
      cases e2 : seqOf old S e with
      | none => trivial
      | some ys =>
        obtain ⟨us, p1, p2⟩ := seqT_at s h2 h4 e2
        simp only
        cases f1 : xs[k]? with
        | none => exact ⟨vs, us, q1, p1, .inl (by have := List.getElem?_eq_none_iff.mp f1; rw [q2.len] at this; exact this)⟩
        | some x =>
          cases f2 : ys[k]? with
          | none => exact ⟨vs, us, q1, p1, .inr (by have := List.getElem?_eq_none_iff.mp f2; rw [p2.len] at this; exact this)⟩
          | some y =>
            obtain ⟨v, q3, q4⟩ := q2.get f1
            obtain ⟨u, p3, p4⟩ := p2.get f2
            refine ⟨⟨vs, us, v, u, q1, p1, q3, p3⟩, fun v' H' hy => ?_⟩
            obtain ⟨T, z, w, rfl, hT, rfl, hy, hy2⟩ := hy
            have := hy vs q1
            rw [q3] at this; cases this
            have := hy2 us p1
            rw [p3] at this; cases this
            exact pair_new s.n hT q4 p4
/-! ### targets -/
def semGs : List Nat → L2.TGs
  | [] => L2.gNil
  | i :: is => L2.gCons (L2.gName i) (semGs is)
def semG (c : Cg) : Tg → L2.TG
  | .nm i => L2.gName i
  | .tu is => L2.gTup c.K is.length (semGs is)
theorem setAll_ok : ∀ {is : List Nat} {ds : List D} {vs : List V} {env env1 : Env} {σ : L2.St} {Q : L2.St → Hp → Prop}, setAll is ds env = some env1 → RDs c H m ds vs → EnvOk c H m env σ → (∀ σ1, EnvOk c H m env1 σ1 → (∀ own : List Nat, (∀ i ∈ is, i ∈ own) → L2.wipe σ1 own = L2.wipe σ own) → Q σ1 H) → semGs is vs σ H Q
  | [], [], vs, env, env1, σ, Q, e, r, o, q => by
    simp only [setAll, Option.some.injEq] at e
    subst e
    cases r
    exact ⟨rfl, q σ o fun _ _ => rfl⟩
  | i :: is, d :: ds, vs, env, env1, σ, Q, e, r, o, q => by
    obtain ⟨v, rs, rfl, r1, r2⟩ := r
    simp only [setAll] at e
    refine ⟨v, rs, rfl, ?_⟩
    refine setAll_ok e r2 (o.set r1 i) fun σ1 o1 hw => q σ1 o1 fun own ho => ?_
    rw [hw own fun k hk => ho k (List.mem_cons_of_mem _ hk)]
    exact wipe_set own (ho i List.mem_cons_self)
  | [], _ :: _, _, _, _, _, _, e, _, _, _ => by cases e
  | _ :: _, [], _, _, _, _, _, e, _, _, _ => by cases e
where
  wipe_set {σ : L2.St} {i : Nat} {v : Option V} : ∀ (own : List Nat), i ∈ own → L2.wipe (σ.set i v) own = L2.wipe σ own
    | [], h => by cases h
    | k :: ks, h => by
      show (L2.wipe (σ.set i v) ks).set k none = (L2.wipe σ ks).set k none
      by_cases hk : i ∈ ks
      · rw [wipe_set ks hk]
      · have hik : i = k := by
          rcases List.mem_cons.mp h with h | h
          · exact h
          · exact absurd h hk
        subst hik
        exact wipe_out i ks hk
  wipe_out {σ : L2.St} {v : Option V} (i : Nat) : ∀ (ks : List Nat), i ∉ ks → (L2.wipe (σ.set i v) ks).set i none = (L2.wipe σ ks).set i none
    | [], _ => by
      show (σ.set i v).set i none = σ.set i none
      rw [List.set_set]
    | k :: ks, h => by
      have h1 : k ≠ i := fun z => h (by rw [z]; exact List.mem_cons_self)
      have h2 : i ∉ ks := fun z => h (List.mem_cons_of_mem _ z)
      show ((L2.wipe (σ.set i v) ks).set k none).set i none = ((L2.wipe σ ks).set k none).set i none
      rw [List.set_comm _ _ h1, List.set_comm _ _ h1, wipe_out i ks h2]
def tgIn : Tg → List Nat → Bool
  | .nm i, own => own.contains i
  | .tu is, own => is.all fun i => own.contains i
theorem put_ok {tg : Tg} {env1 : Env} {Q : L2.St → Hp → Prop} (e : tg.put x env = some env1) (r : RD c H m x v) (o : EnvOk c H m env σ)
    (q : ∀ σ1, EnvOk c H m env1 σ1 → (∀ own : List Nat, tgIn tg own = true → L2.wipe σ1 own = L2.wipe σ own) → Q σ1 H) (hl : ∀ is ds, tg = .tu is → x = .tup ds → is.length = ds.length) : semG c tg v σ H Q := by
  cases tg with
  | nm i =>
    simp only [Tg.put, Option.some.injEq] at e
    subst e
    refine q _ (o.set r i) fun own ho => setAll_ok.wipe_set own ?_
    simpa [tgIn] using ho
  | tu is =>
    cases x with
    | tup ds =>
      obtain ⟨a, vs, rfl, h1, h2⟩ := r
      refine ⟨a, vs, rfl, h1, by rw [← h2.len]; exact (hl is ds rfl rfl).symm, setAll_ok e h2 o fun σ1 o1 hw => q σ1 o1 fun own ho => hw own fun i hi => ?_⟩
      have := List.all_eq_true.mp ho i hi
      simpa using this
    | _ => cases e
theorem setAll_len : ∀ {is : List Nat} {ds : List D} {env env1 : Env}, setAll is ds env = some env1 → is.length = ds.length
  | [], [], _, _, _ => rfl
  | i :: is, d :: ds, env, env1, e => by
    rw [List.length_cons, List.length_cons, setAll_len (is := is) (ds := ds) e]
  | [], _ :: _, _, _, e => by cases e
  | _ :: _, [], _, _, e => by cases e
theorem put_len {tg : Tg} {env1 : Env} (e : tg.put x env = some env1) : ∀ is ds, tg = .tu is → x = .tup ds → is.length = ds.length := by
  rintro is ds rfl rfl
  exact setAll_len e
end
end Z
/-! Z7: loops, comprehensions, blocks. -/
namespace Z
open PySem PySem.Spec PyProof.Rows
open L2 (V Hp HO upd upd_same upd_ne SqL SqT Rd VK TE TT TA TS Ends WX XK)
/-- what is wanted behind a block -/
def WO (c : Cg) (mo : List Addr) (W : WX) (old : Sto) (H : Hp) (mn : List Addr) (o : O) (D : Ends) : Prop := match o with
  | .nx env S => ∀ mn' H' σ', Ext mn H mn' H' → StOk c H' mo mn' old S env σ' → D.nx σ' H'
  | .rt d S => ∀ mn' H' v, Ext mn H mn' H' → NewOk c H' (mo ++ mn') mn' S → RV c H H' (mo ++ mn') mn' d v → D.rt v H'
  | .bk env S => ∀ mn' H' σ', Ext mn H mn' H' → StOk c H' mo mn' old S env σ' → D.bk σ' H'
  | .ct env S => ∀ mn' H' σ', Ext mn H mn' H' → StOk c H' mo mn' old S env σ' → D.ct σ' H'
  | .exc x env S => ∀ mn' H' σ' C, Ext mn H mn' H' → StOk c H' mo mn' old S env σ' → c.ca x = some C → W (.ref C) none σ' H'
  | .bad => False
def relI (c : Cg) (mo : List Addr) : Hp → List Addr → It → L2.It → Prop := fun H' mn' j J => ItR c H' (mo ++ mn') mn' j J
section
variable (c : Cg) (W : WX) (cp : Nat → List D → Sto → R D) (ci : Nat → List D → Sto → Sto → R D) (fu : Nat)
def denI (it : I) : L2.TI := fun σ H Q => ∃ old mo mn env S, StOk c H mo mn old S env σ ∧ Wr c mo W σ (relI c mo) H mn (evi cp ci old it env S) Q
def denC (e : Eo) : TT := fun σ H Q => ∃ old mo mn env S, StOk c H mo mn old S env σ ∧ Wr c mo W σ (relE Bool) H mn (evc cp ci old e env S) Q
def denSt (t : T) : TS := fun D σ H => ∃ old mo mn env S, StOk c H mo mn old S env σ ∧ WO c mo W old H mn (ex cp ci old fu t env S) D
def denB (b : B) : TS := fun D σ H => ∃ old mo mn env S, StOk c H mo mn old S env σ ∧ WO c mo W old H mn (exs cp ci old fu b env S) D
end
section
variable {c : Cg} {H H' H1 H2 H0 Hx Hy : Hp} {m m' mo mn mn' mn1 mn2 : List Addr} {old S S' : Sto} {env : Env} {σ : L2.St} {d x y : D} {v u : V} {ds xs ys zs : List D} {vs us ws : List V} {W : WX} {Q : V → Hp → Prop} {b : Bool}
  {cp : Nat → List D → Sto → R D} {ci : Nat → List D → Sto → Sto → R D} {fu : Nat} {D' : Ends}
theorem WO.later {o : O} (x : Ext mn H mn1 H1) (n : NewOk c H1 (mo ++ mn1) mn1 S) (h : WO c mo W old H mn o D') : WO c mo W old H1 mn1 o D' := by
  cases o with
  | nx env S => exact fun mn' H' σ' x' s' => h mn' H' σ' (x.trans x') s'
  | rt d S => exact fun mn' H' v x' n' r' => h mn' H' v (x.trans x') n' (r'.back fun _ => x.free n)
  | bk env S => exact fun mn' H' σ' x' s' => h mn' H' σ' (x.trans x') s'
  | ct env S => exact fun mn' H' σ' x' s' => h mn' H' σ' (x.trans x') s'
  | exc y env S => exact fun mn' H' σ' C x' s' => h mn' H' σ' C (x.trans x') s'
  | bad => exact h
/-- a turn that is taken: the heap may have a pair more -/
theorem S0.turn (s : StOk c H mo mn old S env σ) (x : Ext mn H mn H') (hk : ∀ b ∈ mn, H' b = H b) : StOk c H' mo mn old S env σ := s.ext x (s.n.ext x hk)
theorem w_for {it : I} {tg : Tg} {bo : B} (h : denSt c W cp ci fu (.fo it tg bo) D' σ H) : L2.tFor (denI c W cp ci it) (semG c tg) (denB c W cp ci fu bo) D' σ H := by
  obtain ⟨old, mo, mn, env, S, st, h⟩ := h
  refine ⟨old, mo, mn, env, S, st, ?_⟩
  simp only [ex] at h
  cases ei : evi cp ci old it env S with
  | bad => rw [ei] at h; exact h.elim
  | exc y S1 =>
    rw [ei] at h
    simp only [bndO] at h
    exact fun mn1 H1 C x1 n1 hC => h mn1 H1 σ C x1 (st.ext x1 n1) hC
  | ok j S1 =>
    rw [ei] at h
    simp only [bndO] at h
    intro mn1 H1 J x1 n1 r1
    have h1 : WO c mo W old H1 mn1 (floop old j tg (fun env S => exs cp ci old fu bo env S) (j.size old S1) 0 env S1) D' := WO.later x1 n1 h
    clear h
    refine ⟨fun i m σ2 H2 => ∃ mn2 env2 S2, Ext mn1 H1 mn2 H2 ∧ StOk c H2 mo mn2 old S2 env2 σ2 ∧ i + m = j.size old S1 ∧
      WO c mo W old H1 mn1 (floop old j tg (fun env S => exs cp ci old fu bo env S) m i env2 S2) D', ⟨_, mn1, env, S1, Ext.refl, st.ext x1 n1, Nat.zero_add _, h1⟩, ?_⟩
    rintro i m σ2 H2 ⟨mn2, env2, S2, x2, s2, him, h2⟩
    have r2 := ItR.ext x2 n1 r1
    cases m with
    | zero =>
      simp only [floop] at h2
      have hst := it_step (k := i) s2.s r2 (fun ds z => by subst z; simp only [It.size, seqOf, Option.getD] at him; omega)
      split at h2
      · rename_i e
        rw [e] at hst
        exact .inl ⟨hst, h2 mn2 H2 σ2 x2 s2⟩
      · exact h2.elim
    | succ m =>
      simp only [floop] at h2
      have hst := it_step (k := i) s2.s r2 (fun ds z => by subst z; simp only [It.size, seqOf, Option.getD] at him; omega)
      split at h2
      · exact h2.elim
      · rename_i e
        rw [e] at hst
        exact .inl ⟨hst, h2 mn2 H2 σ2 x2 s2⟩
      · rename_i x e
        rw [e] at hst
        obtain ⟨hgo, hy⟩ := hst
        refine .inr ⟨hgo, fun σ' H' => ∃ m', m' < m + 1 ∧ ∃ mn2 env2 S2, Ext mn1 H1 mn2 H' ∧ StOk c H' mo mn2 old S2 env2 σ' ∧ (i + 1) + m' = j.size old S1 ∧
          WO c mo W old H1 mn1 (floop old j tg (fun env S => exs cp ci old fu bo env S) m' (i + 1) env2 S2) D', fun σ' H' z => z, fun v H3 hyld => ?_⟩
        obtain ⟨x3, k3, rx⟩ := hy v H3 hyld
        have s3 := S0.turn s2 x3 k3
        split at h2
        · exact h2.elim
        · rename_i env3 ep
          refine put_ok ep rx s3.e (fun σ3 o3 _ => ?_) (put_len ep)
          refine ⟨old, mo, mn2, env3, S2, ⟨s3.o, s3.n, o3⟩, ?_⟩
          have x13 := x2.trans x3
          have go : ∀ {env4 : Env} {S4 : Sto}, WO c mo W old H1 mn1 (floop old j tg (fun env S => exs cp ci old fu bo env S) m (i + 1) env4 S4) D' → ∀ mn' H' σ', Ext mn2 H3 mn' H' → StOk c H' mo mn' old S4 env4 σ' →
              ∃ m', m' < m + 1 ∧ ∃ mn2 env2 S2, Ext mn1 H1 mn2 H' ∧ StOk c H' mo mn2 old S2 env2 σ' ∧ (i + 1) + m' = j.size old S1 ∧
              WO c mo W old H1 mn1 (floop old j tg (fun env S => exs cp ci old fu bo env S) m' (i + 1) env2 S2) D' := by
            intro env4 S4 h4 mn' H' σ' x' s'
            exact ⟨m, Nat.lt_succ_self _, mn', env4, S4, x13.trans x', s', by omega, h4⟩
          split at h2
          · rename_i env4 S4 eb
            rw [eb]
            exact go h2
          · rename_i env4 S4 eb
            rw [eb]
            exact go h2
          · rename_i env4 S4 eb
            rw [eb]
            exact fun mn' H' σ' x' s' => h2 mn' H' σ' (x13.trans x') s'
          · rename_i o e1 e2 e3
            have h5 := WO.later x13 s3.n h2
            cases eb : exs cp ci old fu bo env3 S2 with
            | nx a b => exact absurd eb (e1 a b)
            | ct a b => exact absurd eb (e2 a b)
            | bk a b => exact absurd eb (e3 a b)
            | rt d S => rw [eb] at h5; exact h5
            | exc y e S => rw [eb] at h5; exact h5
            | bad => rw [eb] at h5; exact h5.elim
theorem w_while {e : E} {bo : B} (h : denSt c W cp ci fu (.wh e bo) D' σ H) : L2.tWhile (denC c W cp ci (.of e)) (denB c W cp ci fu bo) D' σ H := by
  obtain ⟨old, mo, mn, env, S, st, h⟩ := h
  simp only [ex] at h
  refine ⟨fun m σ2 H2 => ∃ mn2 env2 S2, Ext mn H mn2 H2 ∧ StOk c H2 mo mn2 old S2 env2 σ2 ∧ WO c mo W old H mn (wloop (fun env S => evc cp ci old (.of e) env S) (fun env S => exs cp ci old fu bo env S) m env2 S2) D',
    ⟨fu, mn, env, S, Ext.refl, st, h⟩, ?_⟩
  rintro m σ2 H2 ⟨mn2, env2, S2, x2, s2, h2⟩
  cases m with
  | zero => exact h2.elim
  | succ m =>
    simp only [wloop] at h2
    refine ⟨old, mo, mn2, env2, S2, s2, ?_⟩
    split at h2
    · rename_i S3 e3
      rw [e3]
      intro mn3 H3 b x3 n3 hb
      cases hb
      exact h2 mn3 H3 σ2 (x2.trans x3) (s2.ext x3 n3)
    · rename_i S3 e3
      rw [e3]
      intro mn3 H3 b x3 n3 hb
      cases hb
      have s3 := s2.ext x3 n3
      have x13 := x2.trans x3
      refine ⟨fun σ' H' => ∃ m', m' < m + 1 ∧ ∃ mn2 env2 S2, Ext mn H mn2 H' ∧ StOk c H' mo mn2 old S2 env2 σ' ∧ WO c mo W old H mn (wloop (fun env S => evc cp ci old (.of e) env S) (fun env S => exs cp ci old fu bo env S) m' env2 S2) D',
        fun σ' H' z => z, ⟨old, mo, mn3, env2, S3, s3, ?_⟩⟩
      split at h2
      · rename_i env4 S4 eb
        rw [eb]
        exact fun mn' H' σ' x' s' => ⟨m, Nat.lt_succ_self _, mn', env4, S4, x13.trans x', s', h2⟩
      · rename_i env4 S4 eb
        rw [eb]
        exact fun mn' H' σ' x' s' => ⟨m, Nat.lt_succ_self _, mn', env4, S4, x13.trans x', s', h2⟩
      · rename_i env4 S4 eb
        rw [eb]
        exact fun mn' H' σ' x' s' => h2 mn' H' σ' (x13.trans x') s'
      · rename_i o e1 e2 e5
        have h5 := WO.later x13 s3.n h2
        cases eb : exs cp ci old fu bo env2 S3 with
        | nx a b => exact absurd eb (e1 a b)
        | ct a b => exact absurd eb (e2 a b)
        | bk a b => exact absurd eb (e5 a b)
        | rt d S => rw [eb] at h5; exact h5
        | exc y e S => rw [eb] at h5; exact h5
        | bad => rw [eb] at h5; exact h5.elim
    · rename_i y S3 e3
      rw [e3]
      intro mn3 H3 C x3 n3 hC
      exact h2 mn3 H3 σ2 C (x2.trans x3) (s2.ext x3 n3) hC
    · exact h2.elim
/-! ### comprehensions -/
abbrev WF : WX := fun _ _ _ _ => False
/-- the list that grows is written: tuples and the rest stay -/
theorem tup_upd {p : Addr} {vs ws : List V} (hp : H p = some (.lst vs)) {a : Addr} {xs : List V} (h : SqT c.K H a xs) : SqT c.K (upd H p (.lst ws)) a xs := by
  rcases h with (h | ⟨o, h⟩) | h
  · refine .inl (.inl ?_)
    rw [upd_ne (fun z => by rw [z, hp] at h; cases h)]; exact h
  · refine .inl (.inr ⟨o, ?_⟩)
    rw [upd_ne (fun z => by rw [z, hp] at h; cases h)]; exact h
  · exact .inr h
theorem NewOk.updL {p : Addr} {vs ws : List V} (n : NewOk c H m mn S) (hp : H p = some (.lst vs)) (hn : p ∉ mn) : NewOk c (upd H p (.lst ws)) m mn S := by
  refine ⟨n.nd, n.len, fun i a e => ?_⟩
  obtain ⟨xs, us, h1, h2, h3⟩ := n.at_ i a e
  exact ⟨xs, us, h1, by rw [upd_ne (fun z => hn (by rw [← z]; exact List.mem_of_getElem? e))]; exact h2, h3.mono (fun _ _ q => tup_upd hp q) List.prefix_rfl⟩
theorem w_comp {own_ : List Nat} {it : I} {tg : Tg} {cond : Eo} {elt : E} (ht : tgIn tg own_ = true) (h : den c W cp ci (.comp own_ it tg cond elt) σ H Q) :
    L2.tLc (denI c W cp ci it) (semG c tg) (denC c WF cp ci cond) (den c WF cp ci elt) own_ σ H Q := by
  obtain ⟨old, mo, mn, env, S, st, h⟩ := h
  refine ⟨old, mo, mn, env, S, st, ?_⟩
  simp only [ev] at h
  cases ei : evi cp ci old it env S with
  | bad => rw [ei] at h; exact h.elim
  | exc y S1 => rw [ei] at h; exact h
  | ok j S1 =>
    rw [ei] at h
    simp only [bnd] at h
    intro mn1 H1 J x1 n1 r1 Dd hD
    split at h
    · rename_i hsz
      have hsl := Nat.le_of_ble_eq_true hsz
      have st1 := st.ext x1 n1
      have h1 := Wr.laterD x1 n1 h
      clear h
      have xD : Ext mn1 H1 mn1 (upd H1 Dd (.lst [])) := Ext.new hD
      have nD : NewOk c (upd H1 Dd (.lst [])) (mo ++ mn1) mn1 S1 := n1.new hD
      refine ⟨fun i m H2 => ∃ mn2 S2 dacc acc, Ext mn1 H1 mn2 H2 ∧ NewOk c H2 (mo ++ mn2) mn2 S2 ∧ H2 Dd = some (.lst acc) ∧ Dd ∉ mn2 ∧ RDs c H2 (mo ++ mn2) dacc acc ∧ dacc.length ≤ i ∧ i + m = j.size old S1 ∧
        Wr c mo W σ (relD c mo H1) H1 mn1 (match cloop old j (fun x S => match tg.put x (wipe env own_) with
          | none => .bad
          | some env2 => match evc cp ci old cond env2 S with
            | .ok true S2 => match ev cp ci old elt env2 S2 with
              | .ok y S3 => match own old y S3 with
                | .ok z S4 => .ok (some z) S4
                | _ => .bad
              | _ => .bad
            | .ok false S2 => .ok none S2
            | _ => .bad) m i S2 with
        | .ok ys S2 => .ok (.tmp (dacc ++ ys)) S2
        | _ => .bad) Q, ⟨_, mn1, S1, [], [], xD, nD, upd_same, fun hm => ?_, rfl, Nat.zero_le _, Nat.zero_add _, h1⟩, ?_⟩
      · obtain ⟨us, e⟩ := n1.there hm
        rw [hD] at e; cases e
      · rintro i m H2 ⟨mn2, S2, dacc, acc, x2, n2, hDd, hDn, racc, hlen, him, h2⟩
        have s2 := st1.ext x2 n2
        have r2 := ItR.ext x2 n1 r1
        have hst := it_step (k := i) s2.s r2 (fun ds z => by subst z; simp only [It.size, seqOf, Option.getD] at him; omega)
        have stop : (j.get old S2 i = some none) → Wr c mo W σ (relD c mo H1) H1 mn1 (.ok (.tmp (dacc ++ [])) S2) Q → J.stop i H2 ∧ Q (.ref Dd) H2 := by
          intro e h3
          rw [e] at hst
          rw [List.append_nil] at h3
          exact ⟨hst, h3 mn2 H2 (.ref Dd) x2 n2 ⟨Dd, acc, rfl, hD, hDn, hDd, racc⟩⟩
        cases m with
        | zero =>
          simp only [cloop] at h2
          split at h2
          · rename_i ys S3 e
            split at e
            · rename_i eg
              cases e
              exact .inl (stop eg h2)
            · cases e
          · exact h2.elim
        | succ m =>
          simp only [cloop] at h2
          cases eg : j.get old S2 i with
          | none => rw [eg] at h2; exact h2.elim
          | some g =>
            cases g with
            | none => rw [eg] at h2; exact .inl (stop eg h2)
            | some x =>
              rw [eg] at h2 hst
              simp only at h2
              obtain ⟨hgo, hy⟩ := hst
              refine .inr ⟨hgo, fun H' => ∃ m', m' < m + 1 ∧ ∃ mn2 S2 dacc acc, Ext mn1 H1 mn2 H' ∧ NewOk c H' (mo ++ mn2) mn2 S2 ∧ H' Dd = some (.lst acc) ∧ Dd ∉ mn2 ∧ RDs c H' (mo ++ mn2) dacc acc ∧ dacc.length ≤ i + 1 ∧ (i + 1) + m' = j.size old S1 ∧
                Wr c mo W σ (relD c mo H1) H1 mn1 (match cloop old j (fun x S => match tg.put x (wipe env own_) with
                  | none => .bad
                  | some env2 => match evc cp ci old cond env2 S with
                    | .ok true S2 => match ev cp ci old elt env2 S2 with
                      | .ok y S3 => match own old y S3 with
                        | .ok z S4 => .ok (some z) S4
                        | _ => .bad
                      | _ => .bad
                    | .ok false S2 => .ok none S2
                    | _ => .bad) m' (i + 1) S2 with
                | .ok ys S2 => .ok (.tmp (dacc ++ ys)) S2
                | _ => .bad) Q, fun H' z => z, fun v H3 hyld => ?_⟩
              obtain ⟨x3, k3, rx⟩ := hy v H3 hyld
              have s3 := S0.turn s2 x3 k3
              have x13 := x2.trans x3
              have hD3 : H3 Dd = some (.lst acc) := x3.keep Dd _ hDd hDn
              have racc3 := racc.ext x3 n2
              cases ep : tg.put x (wipe env own_) with
              | none => rw [ep] at h2; exact h2.elim
              | some env2 =>
                rw [ep] at h2
                simp only at h2
                refine put_ok ep rx (s3.e.wipe own_) (fun σ3 o3 hw => ⟨?_, ?_⟩) (put_len ep)
                · rw [hw own_ ht]
                  exact wipe2 σ own_
                · refine ⟨old, mo, mn2, env2, S2, ⟨s3.o, s3.n, o3⟩, ?_⟩
                  cases ec : evc cp ci old cond env2 S2 with
                  | bad => rw [ec] at h2; exact h2.elim
                  | exc y S4 => rw [ec] at h2; exact h2.elim
                  | ok bb S4 =>
                    rw [ec] at h2
                    intro mn4 H4 b4 x4 n4 hb4
                    cases hb4
                    have x14 := x13.trans x4
                    have hD4 : H4 Dd = some (.lst acc) := x4.keep Dd _ hD3 hDn
                    have hDn4 : Dd ∉ mn4 := fun hm => by
                      rcases x4.fresh Dd hm with z | z
                      · exact hDn z
                      · rw [hD3] at z; cases z
                    have racc4 := racc3.ext x4 s3.n
                    cases bb with
                    | false =>
                      simp only at h2
                      rw [if_neg (by decide)]
                      exact ⟨m, Nat.lt_succ_self _, mn4, S4, dacc, acc, x14, n4, hD4, hDn4, racc4, by omega, by omega, h2⟩
                    | true =>
                      simp only at h2
                      rw [if_pos rfl]
                      have s4 : StOk c H4 mo mn4 old S4 env2 σ3 := StOk.ext x4 ⟨s3.o, s3.n, o3⟩ n4
                      refine ⟨old, mo, mn4, env2, S4, s4, ?_⟩
                      cases ee : ev cp ci old elt env2 S4 with
                      | bad => rw [ee] at h2; exact h2.elim
                      | exc y S5 => rw [ee] at h2; exact h2.elim
                      | ok y S5 =>
                        rw [ee] at h2
                        simp only at h2
                        intro mn5 H5 v5 x5 n5 r5
                        have x15 := x14.trans x5
                        have hD5 : H5 Dd = some (.lst acc) := x5.keep Dd _ hD4 hDn4
                        have hDn5 : Dd ∉ mn5 := fun hm => by
                          rcases x5.fresh Dd hm with z | z
                          · exact hDn4 z
                          · rw [hD4] at z; cases z
                        have racc5 := racc4.ext x5 n4
                        have s5 := s4.ext x5 n5
                        obtain ⟨z, S6, eo, mn6, p6, f6, s6, r6, _⟩ := own_ok s5.s r5 s4.o
                        rw [eo] at h2
                        simp only at h2
                        have hDn6 : Dd ∉ mn6 := fun hm => by
                          rcases f6 Dd hm with q | q
                          · exact hDn5 q
                          · rw [hD4] at q; cases q
                        have x6 : Ext mn1 H1 mn6 (upd H5 Dd (.lst (acc ++ [v5]))) := by
                          refine ⟨x15.pre.trans p6, fun a ha => ?_, fun a o e hn => ?_⟩
                          · rcases f6 a ha with q | q
                            · exact x15.fresh a q
                            · exact .inr (x14.free n4 q)
                          · rw [upd_ne (fun q => by rw [q, hD] at e; cases e)]
                            exact x15.keep a o e hn
                        refine ⟨acc, hD5, ?_, m, Nat.lt_succ_self _, mn6, S6, dacc ++ [z], acc ++ [v5], x6, s6.n.updL hD5 hDn6, upd_same, hDn6, ?_, ?_, by omega, ?_⟩
                        · rw [← racc5.len, sl16]
                          omega
                        · refine RDs.app ?_ (RDs.one ?_)
                          · exact racc5.mono (fun _ _ q => tup_upd hD5 q) (pre_app p6)
                          · exact r6.mono (fun _ _ q => tup_upd hD5 q) List.prefix_rfl
                        · rw [List.length_append]; simp; omega
                        · cases eq : cloop old j (fun x S => match tg.put x (wipe env own_) with
                            | none => .bad
                            | some env2 => match evc cp ci old cond env2 S with
                              | .ok true S2 => match ev cp ci old elt env2 S2 with
                                | .ok y S3 => match own old y S3 with
                                  | .ok z S4 => .ok (some z) S4
                                  | _ => .bad
                                | _ => .bad
                              | .ok false S2 => .ok none S2
                              | _ => .bad) m (i + 1) S6 with
                          | ok ys S7 =>
                            rw [eq] at h2
                            simp only at h2 ⊢
                            rw [List.append_assoc]
                            exact h2
                          | exc y S7 => rw [eq] at h2; exact h2.elim
                          | bad => rw [eq] at h2; exact h2.elim
    · exact h.elim
where
  wipe2 (σ : L2.St) : ∀ own : List Nat, L2.wipe (L2.wipe σ own) own = L2.wipe σ own := by
    intro own
    apply List.ext_getElem?
    intro k
    by_cases hk : k ∈ own
    · rw [wipe_at hk, wipe_at hk, L2.wipe_length]
    · rw [L2.wipe_out hk]
  wipe_at {σ : L2.St} {k : Nat} : ∀ {own : List Nat}, k ∈ own → (L2.wipe σ own)[k]? = if k < σ.length then some none else none
    | [], h => by cases h
    | i :: is, h => by
      show ((L2.wipe σ is).set i none)[k]? = _
      rw [List.getElem?_set]
      by_cases hik : i = k
      · rw [if_pos hik, L2.wipe_length]
        subst hik; rfl
      · rw [if_neg hik]
        rcases List.mem_cons.mp h with q | q
        · exact absurd q.symm hik
        · exact wipe_at q
end
end Z
/-! Z8: expressions and statements: the readings. -/
namespace Z
open PySem PySem.Spec PyProof.Rows
open L2 (V Hp HO upd upd_same upd_ne SqL SqT Rd VK TE TT TA TS Ends WX XK)
section
variable {c : Cg} {H H' H1 H2 H0 Hx Hy : Hp} {m m' mo mn mn' mn1 mn2 : List Addr} {old S S' S1 : Sto} {env : Env} {σ : L2.St} {d x y : D} {v u : V} {ds xs ys zs : List D} {vs us ws : List V} {W : WX} {Q : V → Hp → Prop} {b : Bool}
  {cp : Nat → List D → Sto → R D} {ci : Nat → List D → Sto → Sto → R D} {fu : Nat} {D' : Ends} {α β γ δ : Type}
/-- one evaluation, then what hangs on it -/
theorem step {rel1 : Hp → List Addr → α → β → Prop} {relF : Hp → List Addr → γ → δ → Prop} {r : R α} {f : α → Sto → R γ} {QF : δ → Hp → Prop} {Q1 : β → Hp → Prop} (st : StOk c H mo mn old S env σ)
    (h : Wr c mo W σ relF H mn (bnd r f) QF)
    (k : ∀ x S1 mn1 H1 v1, r = .ok x S1 → Ext mn H mn1 H1 → StOk c H1 mo mn1 old S1 env σ → rel1 H1 mn1 x v1 → Wr c mo W σ relF H mn (f x S1) QF → Q1 v1 H1) : Wr c mo W σ rel1 H mn r Q1 := by
  cases r with
  | ok x S1 => exact fun mn1 H1 v1 x1 n1 r1 => k x S1 mn1 H1 v1 rfl x1 (st.ext x1 n1) r1 h
  | exc y S1 => exact h
  | bad => exact h
theorem stepO {rel1 : Hp → List Addr → α → β → Prop} {r : R α} {f : α → Sto → O} {Q1 : β → Hp → Prop} (st : StOk c H mo mn old S env σ)
    (h : WO c mo W old H mn (bndO r env f) D')
    (k : ∀ x S1 mn1 H1 v1, r = .ok x S1 → Ext mn H mn1 H1 → StOk c H1 mo mn1 old S1 env σ → rel1 H1 mn1 x v1 → WO c mo W old H mn (f x S1) D' → Q1 v1 H1) : Wr c mo W σ rel1 H mn r Q1 := by
  cases r with
  | ok x S1 => exact fun mn1 H1 v1 x1 n1 r1 => k x S1 mn1 H1 v1 rfl x1 (st.ext x1 n1) r1 h
  | exc y S1 => exact fun mn1 H1 C x1 n1 hC => h mn1 H1 σ C x1 (st.ext x1 n1) hC
  | bad => exact h
theorem w_var {i : Nat} (h : den c W cp ci (.var i) σ H Q) : L2.tVar i σ H Q := by
  obtain ⟨old, mo, mn, env, S, st, h⟩ := h
  simp only [ev] at h
  split at h
  · rename_i d e
    obtain ⟨v, e1, r⟩ := st.e.at_ i d e
    exact ⟨v, e1, h.val st.n r⟩
  · exact h.elim
theorem w_lit {d : D} (hr : ∀ H m, RD c H m d v) (h : den c W cp ci (.lit d) σ H Q) : L2.tC v σ H Q := by
  obtain ⟨old, mo, mn, env, S, st, h⟩ := h
  simp only [ev] at h
  split at h
  · exact Wr.val (d := d) st.n h (hr H _)
  · exact h.elim
theorem w_glo {d : D} (hr : ∀ H m, RD c H m d v) (h : den c W cp ci (.glo d) σ H Q) : L2.tC v σ H Q := by
  obtain ⟨old, mo, mn, env, S, st, h⟩ := h
  simp only [ev] at h
  split at h
  · exact Wr.val (d := d) st.n h (hr H _)
  · exact h.elim
theorem w_bin {o : Op} {a b : E} (h : den c W cp ci (.bin o a b) σ H Q) : L2.tOp (rOp c o) (den c W cp ci a) (den c W cp ci b) σ H Q := by
  obtain ⟨old, mo, mn, env, S, st, h⟩ := h
  simp only [ev] at h
  refine ⟨old, mo, mn, env, S, st, step st h fun x S1 mn1 H1 v1 _ x1 s1 r1 h1 => ⟨old, mo, mn1, env, S1, s1, ?_⟩⟩
  refine step s1 (h1.laterD x1 s1.n) fun y S2 mn2 H2 v2 _ x2 s2 r2 h2 => ?_
  exact opV_ok s2.s (RV.ext x2 s1.n r1) r2 (h2.laterD x2 s2.n)
theorem w_neg {a : E} (h : den c W cp ci (.neg a) σ H Q) : L2.tUn (L2.rU fun i => .int (-i)) (den c W cp ci a) σ H Q := by
  obtain ⟨old, mo, mn, env, S, st, h⟩ := h
  simp only [ev] at h
  refine ⟨old, mo, mn, env, S, st, step st h fun x S1 mn1 H1 v1 _ x1 s1 r1 h1 => ?_⟩
  split at h1
  · rename_i i _
    cases r1
    exact ⟨i, rfl, Wr.val (d := .int (-i)) s1.n (Wr.laterD x1 s1.n h1) rfl⟩
  · exact h1.elim
theorem w_cmp {o : Cm} {a b : E} (h : den c W cp ci (.cmp o a b) σ H Q) : L2.tOp (rCm c o) (den c W cp ci a) (den c W cp ci b) σ H Q := by
  obtain ⟨old, mo, mn, env, S, st, h⟩ := h
  simp only [ev] at h
  refine ⟨old, mo, mn, env, S, st, step st h fun x S1 mn1 H1 v1 _ x1 s1 r1 h1 => ⟨old, mo, mn1, env, S1, s1, ?_⟩⟩
  refine step s1 (h1.laterD x1 s1.n) fun y S2 mn2 H2 v2 _ x2 s2 r2 h2 => ?_
  split at h2
  · rename_i r e
    exact cmpV_ok s2.s (RV.ext x2 s1.n r1) r2 e (Wr.val (d := .bl r) s2.n (h2.laterD x2 s2.n) rfl)
  · exact h2.elim
theorem w_chn {o p : Cm} {a b d : E} (h : den c W cp ci (.chn o p a b d) σ H Q) : L2.tChain (rCm c o) (rCm c p) (den c W cp ci a) (den c W cp ci b) (den c W cp ci d) σ H Q := by
  obtain ⟨old, mo, mn, env, S, st, h⟩ := h
  simp only [ev] at h
  refine ⟨old, mo, mn, env, S, st, step st h fun x S1 mn1 H1 v1 _ x1 s1 r1 h1 => ⟨old, mo, mn1, env, S1, s1, ?_⟩⟩
  refine step s1 (h1.laterD x1 s1.n) fun y S2 mn2 H2 v2 _ x2 s2 r2 h2 => ?_
  have h3 := Wr.laterD x2 s2.n h2
  split at h3
  · rename_i e
    refine cmpV_ok (Q := fun z H3 => ∃ k, z = .bl k ∧ if k = true then den c W cp ci d σ H3 fun w' H4 => rCm c p v2 w' H4 Q else Q (.bl false) H3) s2.s (RV.ext x2 s1.n r1) r2 e ⟨true, rfl, ?_⟩
    rw [if_pos rfl]
    refine ⟨old, mo, mn2, env, S2, s2, step s2 h3 fun z S3 mn3 H3 v3 _ x3 s3 r3 h4 => ?_⟩
    split at h4
    · rename_i r e4
      exact cmpV_ok s3.s (RV.ext x3 s2.n r2) r3 e4 (Wr.val (d := .bl r) s3.n (h4.laterD x3 s3.n) rfl)
    · exact h4.elim
  · rename_i e
    refine cmpV_ok (Q := fun z H3 => ∃ k, z = .bl k ∧ if k = true then den c W cp ci d σ H3 fun w' H4 => rCm c p v2 w' H4 Q else Q (.bl false) H3) s2.s (RV.ext x2 s1.n r1) r2 e ⟨false, rfl, ?_⟩
    rw [if_neg (by decide)]
    exact Wr.val (d := .bl false) s2.n h3 rfl
  · exact h3.elim
theorem w_and {a b : E} (h : den c W cp ci (.and a b) σ H Q) : L2.tAndV (den c W cp ci a) (den c W cp ci b) σ H Q := by
  obtain ⟨old, mo, mn, env, S, st, h⟩ := h
  simp only [ev] at h
  refine ⟨old, mo, mn, env, S, st, step st h fun x S1 mn1 H1 v1 _ x1 s1 r1 h1 => ?_⟩
  split at h1
  · rename_i k _
    cases r1
    refine ⟨k, rfl, ?_⟩
    cases k with
    | true => rw [if_pos rfl] at h1 ⊢; exact ⟨old, mo, mn1, env, S1, s1, Wr.laterD x1 s1.n h1⟩
    | false => rw [if_neg (by decide)] at h1 ⊢; exact Wr.val (d := .bl false) s1.n (Wr.laterD x1 s1.n h1) rfl
  · exact h1.elim
theorem w_or {a b : E} (h : den c W cp ci (.or a b) σ H Q) : L2.tOrV (den c W cp ci a) (den c W cp ci b) σ H Q := by
  obtain ⟨old, mo, mn, env, S, st, h⟩ := h
  simp only [ev] at h
  refine ⟨old, mo, mn, env, S, st, step st h fun x S1 mn1 H1 v1 _ x1 s1 r1 h1 => ?_⟩
  split at h1
  · rename_i k _
    cases r1
    refine ⟨k, rfl, ?_⟩
    cases k with
    | true => rw [if_pos rfl] at h1 ⊢; exact Wr.val (d := .bl true) s1.n (Wr.laterD x1 s1.n h1) rfl
    | false => rw [if_neg (by decide)] at h1 ⊢; exact ⟨old, mo, mn1, env, S1, s1, Wr.laterD x1 s1.n h1⟩
  · exact h1.elim
theorem w_not {a : E} (h : den c W cp ci (.not a) σ H Q) : L2.tNotV (den c W cp ci a) σ H Q := by
  obtain ⟨old, mo, mn, env, S, st, h⟩ := h
  simp only [ev] at h
  refine ⟨old, mo, mn, env, S, st, step st h fun x S1 mn1 H1 v1 _ x1 s1 r1 h1 => ?_⟩
  split at h1
  · rename_i k _
    cases r1
    exact ⟨k, rfl, Wr.val (d := .bl !k) s1.n (Wr.laterD x1 s1.n h1) rfl⟩
  · exact h1.elim
/-! tests -/
theorem w_evc {e : E} {Q : Bool → Hp → Prop} (h : denC c W cp ci (.of e) σ H Q) : den c W cp ci e σ H fun x H1 => ∃ k, L2.TruV c.K x H1 k ∧ Q k H1 := by
  obtain ⟨old, mo, mn, env, S, st, h⟩ := h
  simp only [evc] at h
  refine ⟨old, mo, mn, env, S, st, step st h fun x S1 mn1 H1 v1 _ x1 s1 r1 h1 => ?_⟩
  split at h1
  · rename_i b e
    exact ⟨b, truth_ok s1.s r1 e, h1 mn1 H1 b x1 s1.n rfl⟩
  · exact h1.elim
theorem w_evcB {e : E} {Q : Bool → Hp → Prop} (h : denC c W cp ci (.of e) σ H Q) (hb : ∀ old env S x S1, ev cp ci old e env S = .ok x S1 → ∃ k, x = .bl k) : den c W cp ci e σ H fun x H1 => ∃ k, x = .bl k ∧ Q k H1 := by
  obtain ⟨old, mo, mn, env, S, st, h⟩ := h
  simp only [evc] at h
  refine ⟨old, mo, mn, env, S, st, step st h fun x S1 mn1 H1 v1 e1 x1 s1 r1 h1 => ?_⟩
  obtain ⟨k, rfl⟩ := hb _ _ _ _ _ e1
  simp only [truth] at h1
  cases r1
  exact ⟨k, rfl, h1 mn1 H1 k x1 s1.n rfl⟩
theorem w_evcAnd {a b : E} {Q : Bool → Hp → Prop} (h : denC c W cp ci (.of (.and a b)) σ H Q) : L2.tAnd (denC c W cp ci (.of a)) (denC c W cp ci (.of b)) σ H Q := by
  obtain ⟨old, mo, mn, env, S, st, h⟩ := h
  refine ⟨old, mo, mn, env, S, st, ?_⟩
  simp only [evc, ev] at h ⊢
  cases e : ev cp ci old a env S with
  | bad => rw [e] at h; exact h.elim
  | exc y S1 => rw [e] at h; exact h
  | ok x S1 =>
    rw [e] at h
    simp only [bnd] at h ⊢
    cases x with
    | bl k =>
      simp only [truth] at h ⊢
      intro mn1 H1 v1 x1 n1 r1
      cases r1
      cases k with
      | true =>
        rw [if_pos rfl] at h ⊢
        refine ⟨old, mo, mn1, env, S1, st.ext x1 n1, ?_⟩
        simp only [evc, bnd]
        exact Wr.later x1 h fun _ _ _ _ q => q
      | false =>
        rw [if_neg (by decide)] at h ⊢
        exact h mn1 H1 false x1 n1 rfl
    | _ => exact h.elim
theorem w_evcOr {a b : E} {Q : Bool → Hp → Prop} (h : denC c W cp ci (.of (.or a b)) σ H Q) : L2.tOr (denC c W cp ci (.of a)) (denC c W cp ci (.of b)) σ H Q := by
  obtain ⟨old, mo, mn, env, S, st, h⟩ := h
  refine ⟨old, mo, mn, env, S, st, ?_⟩
  simp only [evc, ev] at h ⊢
  cases e : ev cp ci old a env S with
  | bad => rw [e] at h; exact h.elim
  | exc y S1 => rw [e] at h; exact h
  | ok x S1 =>
    rw [e] at h
    simp only [bnd] at h ⊢
    cases x with
    | bl k =>
      simp only [truth] at h ⊢
      intro mn1 H1 v1 x1 n1 r1
      cases r1
      cases k with
      | false =>
        rw [if_neg (by decide)] at h ⊢
        refine ⟨old, mo, mn1, env, S1, st.ext x1 n1, ?_⟩
        simp only [evc, bnd]
        exact Wr.later x1 h fun _ _ _ _ q => q
      | true =>
        rw [if_pos rfl] at h ⊢
        exact h mn1 H1 true x1 n1 rfl
    | _ => exact h.elim
theorem w_evcNot {a : E} {Q : Bool → Hp → Prop} (h : denC c W cp ci (.of (.not a)) σ H Q) : L2.tNot (denC c W cp ci (.of a)) σ H Q := by
  obtain ⟨old, mo, mn, env, S, st, h⟩ := h
  refine ⟨old, mo, mn, env, S, st, ?_⟩
  simp only [evc, ev] at h ⊢
  cases e : ev cp ci old a env S with
  | bad => rw [e] at h; exact h.elim
  | exc y S1 => rw [e] at h; exact h
  | ok x S1 =>
    rw [e] at h
    simp only [bnd] at h ⊢
    cases x with
    | bl k =>
      simp only [truth] at h ⊢
      intro mn1 H1 v1 x1 n1 r1
      cases r1
      exact h mn1 H1 _ x1 n1 rfl
    | _ => exact h.elim
theorem w_ife {e a b : E} (h : den c W cp ci (.ife e a b) σ H Q) : L2.tIf (denC c W cp ci (.of e)) (den c W cp ci a) (den c W cp ci b) σ H Q := by
  obtain ⟨old, mo, mn, env, S, st, h⟩ := h
  refine ⟨old, mo, mn, env, S, st, ?_⟩
  simp only [evc, ev] at h ⊢
  cases e1 : ev cp ci old e env S with
  | bad => rw [e1] at h; exact h.elim
  | exc y S1 => rw [e1] at h; exact h
  | ok x S1 =>
    rw [e1] at h
    simp only [bnd] at h ⊢
    cases e2 : truth old S1 x with
    | none => rw [e2] at h; exact h.elim
    | some k =>
      rw [e2] at h
      simp only at h
      intro mn1 H1 v1 x1 n1 r1
      cases r1
      cases k with
      | true => rw [if_pos rfl] at h ⊢; exact ⟨old, mo, mn1, env, S1, st.ext x1 n1, Wr.laterD x1 n1 h⟩
      | false => rw [if_neg (by decide)] at h ⊢; exact ⟨old, mo, mn1, env, S1, st.ext x1 n1, Wr.laterD x1 n1 h⟩
/-! items -/
/-- behind a binding -/
theorem own_st (st : StOk c H mo mn old S env σ) (x1 : Ext mn H mn1 H1) (s1 : StOk c H1 mo mn1 old S1 env σ) (r1 : RV c H H1 (mo ++ mn1) mn1 x v) :
    ∃ y S2, own old x S1 = .ok y S2 ∧ ∃ mn2, Ext mn H mn2 H1 ∧ StOk c H1 mo mn2 old S2 env σ ∧ RD c H1 (mo ++ mn2) y v := by
  obtain ⟨y, S2, e, mn2, p2, f2, s2, r2, _⟩ := own_ok s1.s r1 st.o
  have x2 : Ext mn H mn2 H1 := ⟨x1.pre.trans p2, fun a ha => (f2 a ha).elim (x1.fresh a) .inr, x1.keep⟩
  exact ⟨y, S2, e, mn2, x2, st.ext x2 s2.n, r2⟩
theorem w_evsN {Q : List V → Hp → Prop} (h : denS c W cp ci .nil σ H Q) : L2.tNil σ H Q := by
  obtain ⟨old, mo, mn, env, S, st, h⟩ := h
  exact h mn H [] Ext.refl st.n rfl
theorem w_evs {e : E} {es : Es} {Q : List V → Hp → Prop} (h : denS c W cp ci (.cons e es) σ H Q) : L2.tCons (den c W cp ci e) (denS c W cp ci es) σ H Q := by
  obtain ⟨old, mo, mn, env, S, st, h⟩ := h
  simp only [evs] at h
  refine ⟨old, mo, mn, env, S, st, step st h fun x S1 mn1 H1 v1 _ x1 s1 r1 h1 => ?_⟩
  obtain ⟨y, S2, eo, mn2, x2, s2, r2⟩ := own_st st x1 s1 r1
  rw [eo] at h1
  simp only [bnd] at h1
  refine ⟨old, mo, mn2, env, S2, s2, ?_⟩
  refine step s2 (Wr.later x2 h1 fun _ _ _ _ q => q) fun ys S3 mn3 H3 vs _ x3 s3 r3 h3 => ?_
  exact h3 mn3 H3 (v1 :: vs) x3 s3.n ⟨v1, vs, rfl, r2.ext x3 s2.n, r3⟩
theorem w_evrN {Q : List V → Hp → Prop} (h : denR c W cp ci .nil σ H Q) : L2.tNil σ H Q := by
  obtain ⟨old, mo, mn, env, S, st, h⟩ := h
  exact h mn H [] Ext.refl st.n .nil
theorem RVs.back (h : RVs c H1 H' m mn ds vs) (hb : ∀ a, H1 a = none → H0 a = none) : RVs c H0 H' m mn ds vs := by
  induction h with
  | nil => exact .nil
  | cons r _ ih => exact .cons (r.back hb) ih
theorem w_evr {e : E} {es : Es} {Q : List V → Hp → Prop} (h : denR c W cp ci (.cons e es) σ H Q) : L2.tCons (den c W cp ci e) (denR c W cp ci es) σ H Q := by
  obtain ⟨old, mo, mn, env, S, st, h⟩ := h
  simp only [evr] at h
  refine ⟨old, mo, mn, env, S, st, step st h fun x S1 mn1 H1 v1 _ x1 s1 r1 h1 => ?_⟩
  refine ⟨old, mo, mn1, env, S1, s1, ?_⟩
  refine step (rel1 := relR c mo H1) s1 (Wr.later (rel1 := relR c mo H) x1 h1 fun _ _ _ _ q => q) fun ys S2 mn2 H2 vs _ x2 s2 r2 h2 => ?_
  exact h2 mn2 H2 (v1 :: vs) x2 s2.n (.cons (r1.ext x2 s1.n) (RVs.back r2 fun _ => x1.free s1.n))
theorem w_tup {es : Es} (h : den c W cp ci (.tup es) σ H Q) : L2.tTup (denS c W cp ci es) σ H Q := by
  obtain ⟨old, mo, mn, env, S, st, h⟩ := h
  simp only [ev] at h
  refine ⟨old, mo, mn, env, S, st, step st h fun ds S1 mn1 H1 vs _ x1 s1 r1 h1 => ?_⟩
  have h2 := Wr.laterD x1 s1.n h1
  split at h2
  · rename_i hz
    exact ⟨by rw [← RDs.len r1]; exact SL_le hz, fun p hp => h2.tup s1.n r1 hp⟩
  · exact h2.elim
theorem w_lst {es : Es} (h : den c W cp ci (.lst es) σ H Q) : L2.tLst (denS c W cp ci es) σ H Q := by
  obtain ⟨old, mo, mn, env, S, st, h⟩ := h
  simp only [ev] at h
  refine ⟨old, mo, mn, env, S, st, step st h fun ds S1 mn1 H1 vs _ x1 s1 r1 h1 => ?_⟩
  have h2 := Wr.laterD x1 s1.n h1
  split at h2
  · rename_i hz
    exact ⟨by rw [← RDs.len r1]; exact SL_le hz, fun p hp => h2.tmp s1.n r1 hp⟩
  · exact h2.elim
theorem w_idx {a b : E} (h : den c W cp ci (.idx a b) σ H Q) : L2.tOp (rIdx c) (den c W cp ci a) (den c W cp ci b) σ H Q := by
  obtain ⟨old, mo, mn, env, S, st, h⟩ := h
  simp only [ev] at h
  refine ⟨old, mo, mn, env, S, st, step st h fun x S1 mn1 H1 v1 _ x1 s1 r1 h1 => ⟨old, mo, mn1, env, S1, s1, ?_⟩⟩
  refine step s1 (h1.laterD x1 s1.n) fun y S2 mn2 H2 v2 _ x2 s2 r2 h2 => ?_
  exact idxV_ok s2.s (RV.ext x2 s1.n r1) r2 (h2.laterD x2 s2.n)
theorem w_evoN {Q : Option Int → Hp → Prop} (h : denO c W cp ci .no σ H Q) : L2.tNoPart σ H Q := by
  obtain ⟨old, mo, mn, env, S, st, h⟩ := h
  exact h mn H none Ext.refl st.n rfl
theorem w_evo {e : E} {Q : Option Int → Hp → Prop} (h : denO c W cp ci (.of e) σ H Q) : L2.tPart (den c W cp ci e) σ H Q := by
  obtain ⟨old, mo, mn, env, S, st, h⟩ := h
  simp only [evo] at h
  refine ⟨old, mo, mn, env, S, st, step st h fun x S1 mn1 H1 v1 _ x1 s1 r1 h1 => ?_⟩
  split at h1
  · rename_i i _
    cases r1
    exact ⟨i, rfl, h1 mn1 H1 (some i) x1 s1.n rfl⟩
  · exact h1.elim
theorem w_sli {a : E} {lo hi : Eo} (h : den c W cp ci (.sli a lo hi) σ H Q) : L2.tSl (rSli c) (den c W cp ci a) (denO c W cp ci lo) (denO c W cp ci hi) σ H Q := by
  obtain ⟨old, mo, mn, env, S, st, h⟩ := h
  simp only [ev] at h
  refine ⟨old, mo, mn, env, S, st, step st h fun x S1 mn1 H1 v1 _ x1 s1 r1 h1 => ⟨old, mo, mn1, env, S1, s1, ?_⟩⟩
  refine step s1 (h1.laterD x1 s1.n) fun l S2 mn2 H2 l2 _ x2 s2 r2 h2 => ⟨old, mo, mn2, env, S2, s2, ?_⟩
  cases r2
  refine step s2 (h2.laterD x2 s2.n) fun hh S3 mn3 H3 h3 _ x3 s3 r3 h4 => ?_
  cases r3
  exact sliV_ok s3.s (RV.ext x3 s2.n (RV.ext x2 s1.n r1)) (h4.laterD x3 s3.n)
theorem w_blt {f : Blt} {es : Es} (h : den c W cp ci (.blt f es) σ H Q) : L2.tCB (rB c f) (denR c W cp ci es) σ H Q := by
  obtain ⟨old, mo, mn, env, S, st, h⟩ := h
  simp only [ev] at h
  refine ⟨old, mo, mn, env, S, st, step st h fun ds S1 mn1 H1 vs _ x1 s1 r1 h1 => ?_⟩
  exact bltV_ok s1.s r1 (h1.laterD x1 s1.n)
/-! isinstance -/
def tyNm : Ty → String
  | .int => "int" | .bool => "bool" | .str => "str" | .list => "list" | .tuple => "tuple"
theorem isi_ty {t : Ty} (s : S0 c H mo mn old S) (r : RV c H0 H (mo ++ mn) mn x v) (e : isiV t x = some b) : ∃ tv, L2.TyX c.K H v tv ∧ PySem.W.kitOne c.K tv (.type (tyNm t)) = some b := by
  cases x with
  | non =>
    simp only [isiV, Option.some.injEq] at e
    subst e; cases r
    exact ⟨_, .base .non, L2.kit_ty (by cases t <;> decide +kernel)⟩
  | bl k =>
    cases r
    refine ⟨_, .base (.bl k), L2.kit_ty ?_⟩
    cases t <;> simp only [isiV, Option.some.injEq] at e <;> subst e <;> decide +kernel
  | int k =>
    cases r
    refine ⟨_, .base (.int k), L2.kit_ty ?_⟩
    cases t <;> simp only [isiV, Option.some.injEq] at e <;> subst e <;> decide +kernel
  | str k =>
    cases r
    refine ⟨_, .base (.str k), L2.kit_ty ?_⟩
    cases t <;> simp only [isiV, Option.some.injEq] at e <;> subst e <;> decide +kernel
  | tup ds =>
    obtain ⟨a, vs, rfl, h1, _⟩ := r
    have hk : L2.kitB "tuple" (tyNm t) = some b := by cases t <;> simp only [isiV, Option.some.injEq] at e <;> subst e <;> decide +kernel
    refine ⟨.type "tuple", ?_, L2.kit_ty hk⟩
    rcases h1 with (h1 | ⟨o, h1⟩) | ⟨o, _, _, h1, h2, _⟩
    · exact .base (.tup h1)
    · exact .fTuple h1
    · exact .kTuple h1 h2
  | lst a =>
    have hk : L2.kitB "list" (tyNm t) = some b := by cases t <;> simp only [isiV, Option.some.injEq] at e <;> subst e <;> decide +kernel
    refine ⟨.type "list", ?_, L2.kit_ty hk⟩
    obtain ⟨p, hp, rfl⟩ := r
    have hl : a < (mo ++ mn).length := (List.getElem?_eq_some_iff.mp hp).1
    have hl2 : a < (old ++ S).length := by
      rw [List.length_append] at hl ⊢
      rw [← s.o.len, ← s.n.len]; exact hl
    obtain ⟨q, vs, hq, _, hh⟩ := s.cell (i := a) (ce := (old ++ S)[a]) (List.getElem?_eq_getElem hl2)
    rw [hp] at hq; cases hq
    rcases hh with ⟨_, hh⟩ | ⟨_, hh⟩
    · exact .base (.lst hh)
    · rcases hh with ⟨o, hh⟩ | ⟨o, _, _, h1, h2, _⟩
      · exact .base (.frz hh)
      · exact .kList h1 h2
  | tmp xs =>
    have hk : L2.kitB "list" (tyNm t) = some b := by cases t <;> simp only [isiV, Option.some.injEq] at e <;> subst e <;> decide +kernel
    refine ⟨.type "list", ?_, L2.kit_ty hk⟩
    obtain ⟨a, vs, rfl, _, _, h1, _⟩ := r
    exact .base (.lst h1)
  | fn k => cases e
  | exc k => cases e
theorem w_isi {a : E} {t : Ty} (h : den c W cp ci (.isi a t) σ H Q) : L2.tCB (L2.rIsi c.K) (L2.tCons (den c W cp ci a) (L2.tCons (L2.tC (.ty (tyNm t))) L2.tNil)) σ H Q := by
  obtain ⟨old, mo, mn, env, S, st, h⟩ := h
  simp only [ev] at h
  refine ⟨old, mo, mn, env, S, st, step st h fun x S1 mn1 H1 v1 _ x1 s1 r1 h1 => ?_⟩
  split at h1
  · rename_i b e
    obtain ⟨tv, t1, t2⟩ := isi_ty s1.s r1 e
    exact ⟨v1, .ty (tyNm t), tv, .type (tyNm t), b, rfl, .ty _, t1, t2, Wr.val (d := .bl b) s1.n (h1.laterD x1 s1.n) rfl⟩
  · exact h1.elim
/-! methods -/
theorem tyV_lst {a : Nat} (s : S0 c H mo mn old S) (r : RV c Hx H (mo ++ mn) mn (.lst a) v) : L2.tyV c.K "list" v H := by
  obtain ⟨p, hp, rfl⟩ := id r
  have hl : a < (mo ++ mn).length := (List.getElem?_eq_some_iff.mp hp).1
  have hl2 : a < (old ++ S).length := by
    rw [List.length_append] at hl ⊢
    rw [← s.o.len, ← s.n.len]; exact hl
  exact tyV_of s r (ce := (old ++ S)[a]) (List.getElem?_eq_getElem hl2)
theorem w_met {mt : Met} {o : E} {es : Es} (h : den c W cp ci (.met mt o es) σ H Q) : L2.tBM c.K "list" (rM c mt) (den c W cp ci o) (denS c W cp ci es) σ H Q := by
  obtain ⟨old, mo, mn, env, S, st, h⟩ := h
  simp only [ev] at h
  refine ⟨old, mo, mn, env, S, st, step st h fun x S1 mn1 H1 v1 _ x1 s1 r1 h1 => ?_⟩
  split at h1
  · rename_i a _
    refine ⟨tyV_lst s1.s r1, old, mo, mn1, env, S1, s1, ?_⟩
    refine step s1 (h1.laterD x1 s1.n) fun ds S2 mn2 H2 vs _ x2 s2 r2 h2 => ?_
    exact (metV_ok s2.s (RV.ext x2 s1.n r1) (RVs.of (H0 := H2) r2) (fun _ => r2) (h2.laterD x2 s2.n)).2
  · exact h1.elim
theorem w_met0 {mt : Met} {o : E} (h : den c W cp ci (.met mt o .nil) σ H Q) : L2.tBM0 c.K "list" (rM c mt) (den c W cp ci o) σ H Q := by
  obtain ⟨old, mo, mn, env, S, st, h⟩ := h
  simp only [ev] at h
  refine ⟨old, mo, mn, env, S, st, step st h fun x S1 mn1 H1 v1 _ x1 s1 r1 h1 => ?_⟩
  split at h1
  · rename_i a _
    refine ⟨tyV_lst s1.s r1, ?_⟩
    simp only [evs, bnd] at h1
    exact (metV_ok s1.s r1 (RVs.nil (H0 := H1)) (fun _ => rfl) (h1.laterD x1 s1.n)).2
  · exact h1.elim
theorem w_ext {o e : E} (h : den c W cp ci (.ext o e) σ H Q) : L2.tBM c.K "list" (rM c .extend) (den c W cp ci o) (L2.tCons (den c W cp ci e) L2.tNil) σ H Q := by
  obtain ⟨old, mo, mn, env, S, st, h⟩ := h
  simp only [ev] at h
  refine ⟨old, mo, mn, env, S, st, step st h fun x S1 mn1 H1 v1 _ x1 s1 r1 h1 => ?_⟩
  split at h1
  · rename_i a _
    refine ⟨tyV_lst s1.s r1, old, mo, mn1, env, S1, s1, ?_⟩
    refine step s1 (h1.laterD x1 s1.n) fun y S2 mn2 H2 v2 _ x2 s2 r2 h2 => ?_
    exact (metV_ok s2.s (RV.ext x2 s1.n r1) (.cons r2 .nil) (fun z => absurd rfl z) (h2.laterD x2 s2.n)).2
  · exact h1.elim
end
end Z
/-! Z9: calls, statements. -/
namespace Z
open PySem PySem.Spec PyProof.Rows
open L2 (V Hp HO upd upd_same upd_ne SqL SqT Rd VK TE TT TA TS Ends WX XK)
/-- a pure call's answer of a call's -/
def tid (S : Sto) (r : R D) : R D := match r with
  | .ok d more => tidy S d more
  | .exc c _ => .exc c []
  | .bad => .bad
theorem cP_eq (G : Tab) (n f : Nat) (vs : List D) (S : Sto) : cP G n f vs S = tid S (cI G n f vs S []) := by
  cases n with
  | zero => rfl
  | succ n =>
    simp only [cP, cI]
    cases G.fns f with
    | none => rfl
    | some fn =>
      simp only
      cases h : Nat.beq vs.length fn.ar with
      | false => rfl
      | true =>
        simp only [if_true]
        cases fin (exs (cP G n) (cI G n) S G.fu fn.body (start fn.n vs) []) <;> rfl
section
variable {c : Cg} {H H' H1 H2 H0 Hx Hy : Hp} {m m' mo mn mn' mn1 mn2 : List Addr} {old S S' S1 : Sto} {env : Env} {σ : L2.St} {d x y : D} {v u : V} {ds xs ys zs : List D} {vs us ws : List V} {W : WX} {Q : V → Hp → Prop} {b : Bool}
  {cp : Nat → List D → Sto → R D} {ci : Nat → List D → Sto → Sto → R D} {fu : Nat} {D' : Ends} {α β γ δ : Type}
/-- a def's promise -/
def spF (c : Cg) (ci : Nat → List D → Sto → Sto → R D) (ar f : Nat) : L2.Sp := fun vs H Q E => vs.length = ar ∧ ∃ old mo mn S ds, S0 c H mo mn old S ∧ RDs c H (mo ++ mn) ds vs ∧
  Wr c mo (fun C d _ H' => E C d H') [] (relD c mo H) H mn (ci f ds old S) Q
mutual
theorem RD.pure : ∀ {d : D} {v : V}, d.pure = true → RD c H m d v → RD c H m' d v
  | .non, v, _, h => h
  | .bl _, v, _, h => h
  | .int _, v, _, h => h
  | .str _, v, _, h => h
  | .tup ds, v, hp, h => by
    obtain ⟨a, vs, e, h1, h2⟩ := h
    exact ⟨a, vs, e, h1, RDs.pure (by simpa [D.pure] using hp) h2⟩
  | .lst _, v, hp, _ => by simp [D.pure] at hp
  | .tmp _, v, hp, _ => by simp [D.pure] at hp
  | .fn _, v, _, h => h
  | .exc _, v, _, h => h
theorem RDs.pure : ∀ {ds : List D} {vs : List V}, D.pureAll ds = true → RDs c H m ds vs → RDs c H m' ds vs
  | [], vs, _, h => h
  | d :: ds, vs, hp, h => by
    obtain ⟨v, r, e, h1, h2⟩ := h
    have hp' : d.pure = true ∧ D.pureAll ds = true := by simpa [D.pureAll] using hp
    exact ⟨v, r, e, RD.pure hp'.1 h1, RDs.pure hp'.2 h2⟩
end
/-- all that stood stands: the store is kept -/
theorem keep_n (n : NewOk c H (mo ++ mn) mn S) (x : Ext [] H mn' H') : Ext mn H mn H' ∧ NewOk c H' (mo ++ mn) mn S := by
  have e : Ext mn H mn H' := ⟨List.prefix_rfl, fun a h => .inl h, fun a o h _ => x.keep a o h (by simp)⟩
  refine ⟨e, n.ext e fun a ha => ?_⟩
  obtain ⟨vs, h⟩ := n.there ha
  rw [h]
  exact x.keep a _ h (by simp)
/-- what the callee has made is taken over -/
theorem join_n (n : NewOk c H (mo ++ mn) mn S) (x : Ext [] H mn' H') (n' : NewOk c H' ((mo ++ mn) ++ mn') mn' S') : Ext mn H (mn ++ mn') H' ∧ NewOk c H' (mo ++ (mn ++ mn')) (mn ++ mn') (S ++ S') := by
  have fr : ∀ a ∈ mn', H a = none := fun a ha => (x.fresh a ha).resolve_left (by simp)
  have e : Ext mn H (mn ++ mn') H' := ⟨⟨mn', rfl⟩, fun a h => (List.mem_append.mp h).elim .inl fun h => .inr (fr a h), fun a o h _ => x.keep a o h (by simp)⟩
  have e0 := (keep_n n x)
  refine ⟨e, ?_, by rw [List.length_append, List.length_append, n.len, n'.len], fun i a hi => ?_⟩
  · refine List.nodup_append.mpr ⟨n.nd, n'.nd, fun a ha b hb z => ?_⟩
    subst z
    obtain ⟨vs, h⟩ := n.there ha
    rw [fr a hb] at h; cases h
  · by_cases hl : i < mn.length
    · rw [List.getElem?_append_left hl] at hi
      obtain ⟨xs, vs, h1, h2, h3⟩ := e0.2.at_ i a hi
      refine ⟨xs, vs, by rw [List.getElem?_append_left (by rw [← n.len]; exact hl)]; exact h1, h2, h3.mono (fun _ _ q => q) (pre_app ⟨mn', rfl⟩)⟩
    · rw [List.getElem?_append_right (by omega)] at hi
      obtain ⟨xs, vs, h1, h2, h3⟩ := n'.at_ _ a hi
      refine ⟨xs, vs, by rw [List.getElem?_append_right (by rw [← n.len]; omega), ← n.len]; exact h1, h2, ?_⟩
      rw [← List.append_assoc]; exact h3
/-- tidying -/
theorem tidy_ok {d2 : D} {more more2 : Sto} (s : S0 c H mo mn old S) (x : Ext [] H mn' H') (n' : NewOk c H' ((mo ++ mn) ++ mn') mn' more) (r : RV c H H' ((mo ++ mn) ++ mn') mn' d v) (e : tidy (old ++ S) d more = .ok d2 more2) :
    ∃ mn2, Ext mn H mn2 H' ∧ NewOk c H' (mo ++ mn2) mn2 (S ++ more2) ∧ RV c H H' (mo ++ mn2) mn2 d2 v := by
  have K := keep_n s.n x
  have J := join_n s.n x n'
  have fr : ∀ a ∈ mn', H a = none := fun a ha => (x.fresh a ha).resolve_left (by simp)
  have small : ∀ {d : D}, RV c H H' (mo ++ mn) mn d v → ∃ mn2, Ext mn H mn2 H' ∧ NewOk c H' (mo ++ mn2) mn2 (S ++ []) ∧ RV c H H' (mo ++ mn2) mn2 d v := fun r => ⟨mn, K.1, by rw [List.append_nil]; exact K.2, r⟩
  have big : ∀ {d : D}, RV c H H' (mo ++ (mn ++ mn')) (mn ++ mn') d v → ∃ mn2, Ext mn H mn2 H' ∧ NewOk c H' (mo ++ mn2) mn2 (S ++ more) ∧ RV c H H' (mo ++ mn2) mn2 d v := fun r => ⟨mn ++ mn', J.1, J.2, r⟩
  have nmn : ∀ a, H a = none → a ∉ mn := fun a h ha => by
    obtain ⟨vs, z⟩ := s.n.there ha
    rw [h] at z; cases z
  cases d with
  | tmp xs =>
    obtain ⟨a, vs, rfl, h0, hn, h1, h2⟩ := r
    simp only [tidy] at e
    split at e
    · rename_i hp
      cases e
      exact small ⟨a, vs, rfl, h0, nmn a h0, h1, h2.pure hp⟩
    · cases e
      refine big ⟨a, vs, rfl, h0, fun hm => ?_, h1, by rw [← List.append_assoc]; exact h2⟩
      rcases List.mem_append.mp hm with q | q
      · exact nmn a h0 q
      · exact hn q
  | lst i =>
    obtain ⟨a, ha, rfl⟩ := r
    have hlen : (mo ++ mn).length = (old ++ S).length := by rw [List.length_append, List.length_append, s.o.len, s.n.len]
    simp only [tidy] at e
    split at e
    · rename_i hi
      cases e
      refine small (d := .lst i) ⟨a, ?_, rfl⟩
      rw [List.getElem?_append_left (by rw [hlen]; exact hi)] at ha
      exact ha
    · rename_i hi
      rw [List.getElem?_append_right (by rw [hlen]; omega), hlen] at ha
      split at e
      · rename_i xs ex
        obtain ⟨ys, vs, g1, g2, g3⟩ := n'.at_ _ a ha
        rw [ex] at g1; cases g1
        have ham := List.mem_of_getElem? ha
        split at e
        · rename_i hp
          cases e
          exact small ⟨a, vs, rfl, fr a ham, nmn a (fr a ham), g2, g3.pure hp⟩
        · cases e
          refine big (d := .lst i) ⟨a, ?_, rfl⟩
          rw [← List.append_assoc, List.getElem?_append_right (by rw [hlen]; omega), hlen]
          exact ha
      · cases e
  | tup ds =>
    simp only [tidy] at e
    split at e
    · rename_i hp
      cases e
      exact small (RV.of (RD.pure hp r))
    · cases e
      refine big (RV.of ?_)
      rw [← List.append_assoc]; exact r
  | non => cases e; exact small (d := .non) r
  | bl _ => cases e; exact small (d := .bl _) r
  | int _ => cases e; exact small (d := .int _) r
  | str _ => cases e; exact small (d := .str _) r
  | fn _ => cases e; exact small (d := .fn _) r
  | exc _ => exact r.elim
theorem w_calli {ar f : Nat} {es : Es} (hl : ∀ es env old S ds S1, evs cp ci old es env S = .ok ds S1 → True) (h : den c W cp ci (.calli f es) σ H Q) (har : ∀ (ds : List D) (old S : Sto), ci f ds old S ≠ .bad → ds.length = ar) :
    L2.tCallS (spF c ci ar f) (L2.WE W) (denS c W cp ci es) σ H Q := by
  obtain ⟨old, mo, mn, env, S, st, h⟩ := h
  simp only [ev] at h
  refine ⟨old, mo, mn, env, S, st, step st h fun ds S1 mn1 H1 vs _ x1 s1 r1 h1 => ?_⟩
  have h2 := Wr.laterD x1 s1.n h1
  refine ⟨?_, old, mo, mn1, S1, ds, s1.s, r1, ?_⟩
  · rw [← RDs.len r1]
    refine har ds old S1 fun z => ?_
    rw [z] at h2; exact h2
  · cases e : ci f ds old S1 with
    | ok d S2 => rw [e] at h2; exact h2
    | exc y S2 => rw [e] at h2; exact h2
    | bad => rw [e] at h2; exact h2
theorem w_call {ar f : Nat} {es : Es} (h : den c W cp ci (.call f es) σ H Q) (hcp : ∀ ds S, cp f ds S = tid S (ci f ds S [])) (har : ∀ (ds : List D) (old S : Sto), ci f ds old S ≠ .bad → ds.length = ar) :
    L2.tCallS (spF c ci ar f) (L2.WE W) (denS c W cp ci es) σ H Q := by
  obtain ⟨old, mo, mn, env, S, st, h⟩ := h
  simp only [ev] at h
  refine ⟨old, mo, mn, env, S, st, step st h fun ds S1 mn1 H1 vs _ x1 s1 r1 h1 => ?_⟩
  have h2 := Wr.laterD x1 s1.n h1
  rw [hcp] at h2
  have nb : ci f ds (old ++ S1) [] ≠ .bad := fun z => by
    rw [z] at h2; exact h2
  have so : S0 c H1 (mo ++ mn1) [] (old ++ S1) [] := by
    refine ⟨⟨by rw [List.length_append, List.length_append, s1.o.len, s1.n.len], fun i a e => ?_⟩, ⟨List.nodup_nil, rfl, fun i a e => by simp at e⟩⟩
    rw [List.append_nil]
    by_cases hi : i < mo.length
    · rw [List.getElem?_append_left hi] at e
      rcases s1.o.at_ i a e with ⟨xs, us, e1, e2, _, e4⟩ | ⟨xs, us, e1, e2, e4⟩
      · exact .inl ⟨xs, us, by rw [List.getElem?_append_left (by rw [← s1.o.len]; exact hi)]; exact e1, e2, by simp, e4⟩
      · exact .inr ⟨xs, us, by rw [List.getElem?_append_left (by rw [← s1.o.len]; exact hi)]; exact e1, e2, e4⟩
    · rw [List.getElem?_append_right (by omega)] at e
      obtain ⟨xs, us, e1, e2, e3⟩ := s1.n.at_ _ a e
      exact .inl ⟨xs, us, by rw [List.getElem?_append_right (by rw [← s1.o.len]; omega), ← s1.o.len]; exact e1, e2, by simp, e3⟩
  refine ⟨by rw [← RDs.len r1]; exact har ds _ _ nb, old ++ S1, mo ++ mn1, [], [], ds, so, by rw [List.append_nil]; exact r1, ?_⟩
  cases e : ci f ds (old ++ S1) [] with
  | bad => exact absurd e nb
  | exc y S2 =>
    rw [e] at h2
    intro mn' H' C x' n' hC
    have K := keep_n s1.n x'
    exact h2 mn1 H' C K.1 K.2 hC
  | ok d more =>
    rw [e] at h2
    simp only [tid] at h2
    intro mn' H' v x' n' r'
    cases e2 : tidy (old ++ S1) d more with
    | bad => rw [e2] at h2; exact h2.elim
    | exc y S2 =>
      exfalso
      cases d <;> simp only [tidy] at e2 <;> (repeat' split at e2) <;> cases e2
    | ok d2 more2 =>
      rw [e2] at h2
      obtain ⟨mn2, q1, q2, q3⟩ := tidy_ok s1.s x' n' r' e2
      exact h2 mn2 H' v q1 q2 q3
/-! ### statements -/
theorem w_set {i : Nat} {e : E} (h : denSt c W cp ci fu (.set i e) D' σ H) : L2.tAsg (den c W cp ci e) (L2.gName i) D' σ H := by
  obtain ⟨old, mo, mn, env, S, st, h⟩ := h
  simp only [ex] at h
  refine ⟨old, mo, mn, env, S, st, stepO st h fun x S1 mn1 H1 v1 _ x1 s1 r1 h1 => ?_⟩
  obtain ⟨y, S2, eo, mn2, x2, s2, r2⟩ := own_st st x1 s1 r1
  rw [eo] at h1
  exact h1 mn2 H1 _ x2 ⟨s2.o, s2.n, s2.e.set r2 i⟩
theorem w_unp {is : List Nat} {e : E} (h : denSt c W cp ci fu (.unp is e) D' σ H) : L2.tAsg (den c W cp ci e) (L2.gTup c.K is.length (semGs is)) D' σ H := by
  obtain ⟨old, mo, mn, env, S, st, h⟩ := h
  simp only [ex] at h
  refine ⟨old, mo, mn, env, S, st, stepO st h fun x S1 mn1 H1 v1 _ x1 s1 r1 h1 => ?_⟩
  split at h1
  · rename_i ds _
    split at h1
    · rename_i env2 e2
      obtain ⟨a, vs, rfl, g1, g2⟩ := r1
      exact ⟨a, vs, rfl, g1, by rw [← g2.len]; exact (setAll_len e2).symm, setAll_ok e2 g2 s1.e fun σ1 o1 _ => h1 mn1 H1 σ1 x1 ⟨s1.o, s1.n, o1⟩⟩
    · exact h1.elim
  · exact h1.elim
theorem w_put {o i e : E} (h : denSt c W cp ci fu (.put o i e) D' σ H) : L2.tAsg (den c W cp ci e) (L2.gSub (den c W cp ci o) (den c W cp ci i) L2.rSetL) D' σ H := by
  obtain ⟨old, mo, mn, env, S, st, h⟩ := h
  simp only [ex] at h
  refine ⟨old, mo, mn, env, S, st, stepO st h fun x S1 mn1 H1 v1 _ x1 s1 r1 h1 => ?_⟩
  obtain ⟨y, S2, eo, mn2, x2, s2, r2⟩ := own_st st x1 s1 r1
  rw [eo] at h1
  simp only [bndO] at h1
  refine ⟨old, mo, mn2, env, S2, s2, stepO s2 (WO.later x2 s2.n h1) fun p S3 mn3 H3 pv _ x3 s3 r3 h3 => ⟨old, mo, mn3, env, S3, s3, ?_⟩⟩
  refine stepO s3 (WO.later x3 s3.n h3) fun j S4 mn4 H4 jv _ x4 s4 r4 h4 => ?_
  have h5 := WO.later x4 s4.n h4
  split at h5
  · rename_i S5 e5
    have rp := RV.ext x4 s3.n r3
    have ry := (r2.ext x3 s2.n).ext x4 s3.n
    unfold putV at e5
    split at e5
    · rename_i a i
      split at e5
      · cases e5
      · rename_i ha
        split at e5
        · rename_i xs exs
          split at e5
          · rename_i k ek
            cases e5
            obtain ⟨q, vs0, hq, hr, hh⟩ := s4.s.cell ((at_new (S := S4) ha).trans exs)
            obtain ⟨q', hq', rfl⟩ := rp
            rw [hq] at hq'; cases hq'
            cases r4
            rcases hh with ⟨_, hH⟩ | ⟨z, _⟩
            · simp only [Cell.xs] at hr
              obtain ⟨xw, nw⟩ := wr_ok s4.s hq ha exs hH (hr.set k ry)
              refine ⟨q, vs0, _, k, rfl, rfl, hH, by rw [← hr.len]; exact ek, h5 mn4 _ σ xw (s4.ext xw nw)⟩
            · cases z
          · cases e5
        · cases e5
    · cases e5
  · exact h5.elim
theorem w_exp {e : E} (h : denSt c W cp ci fu (.exp e) D' σ H) : L2.tDrop (den c W cp ci e) D' σ H := by
  obtain ⟨old, mo, mn, env, S, st, h⟩ := h
  simp only [ex] at h
  exact ⟨old, mo, mn, env, S, st, stepO st h fun x S1 mn1 H1 v1 _ x1 s1 r1 h1 => h1 mn1 H1 σ x1 s1⟩
theorem w_ret {e : E} (h : denSt c W cp ci fu (.ret e) D' σ H) : L2.tRet (den c W cp ci e) D' σ H := by
  obtain ⟨old, mo, mn, env, S, st, h⟩ := h
  simp only [ex] at h
  exact ⟨old, mo, mn, env, S, st, stepO st h fun x S1 mn1 H1 v1 _ x1 s1 r1 h1 => h1 mn1 H1 v1 x1 s1.n r1⟩
theorem w_retn (h : denSt c W cp ci fu .retn D' σ H) : L2.tRetN D' σ H := by
  obtain ⟨old, mo, mn, env, S, st, h⟩ := h
  exact h mn H .non Ext.refl st.n rfl
theorem w_brk (h : denSt c W cp ci fu .brk D' σ H) : L2.tBreak D' σ H := by
  obtain ⟨old, mo, mn, env, S, st, h⟩ := h
  exact h mn H σ Ext.refl st
theorem w_cnt (h : denSt c W cp ci fu .cnt D' σ H) : L2.tCont D' σ H := by
  obtain ⟨old, mo, mn, env, S, st, h⟩ := h
  exact h mn H σ Ext.refl st
theorem w_pas (h : denSt c W cp ci fu .pas D' σ H) : L2.tNext D' σ H := by
  obtain ⟨old, mo, mn, env, S, st, h⟩ := h
  exact h mn H σ Ext.refl st
theorem w_if {e : E} {a b : B} (h : denSt c W cp ci fu (.ife e a b) D' σ H) : L2.tIfS (denC c W cp ci (.of e)) (denB c W cp ci fu a) (denB c W cp ci fu b) D' σ H := by
  obtain ⟨old, mo, mn, env, S, st, h⟩ := h
  refine ⟨old, mo, mn, env, S, st, ?_⟩
  simp only [ex, evc] at h ⊢
  cases e1 : ev cp ci old e env S with
  | bad => rw [e1] at h; exact h.elim
  | exc y S1 =>
    rw [e1] at h
    exact fun mn1 H1 C x1 n1 hC => h mn1 H1 σ C x1 (st.ext x1 n1) hC
  | ok x S1 =>
    rw [e1] at h
    simp only [bnd, bndO] at h ⊢
    cases e2 : truth old S1 x with
    | none => rw [e2] at h; exact h.elim
    | some k =>
      rw [e2] at h
      simp only at h
      intro mn1 H1 v1 x1 n1 r1
      cases r1
      cases k with
      | true => rw [if_pos rfl] at h ⊢; exact ⟨old, mo, mn1, env, S1, st.ext x1 n1, WO.later x1 n1 h⟩
      | false => rw [if_neg (by decide)] at h ⊢; exact ⟨old, mo, mn1, env, S1, st.ext x1 n1, WO.later x1 n1 h⟩
theorem w_aug {i : Nat} {o : Op} {e : E} (h : denSt c W cp ci fu (.aug i o e) D' σ H) : L2.tAug i (den c W cp ci e) (fun x y H Q => rOp c o x y H Q) D' σ H := by
  obtain ⟨old, mo, mn, env, S, st, h⟩ := h
  simp only [ex] at h
  split at h
  · rename_i x e1
    obtain ⟨v, e2, r⟩ := st.e.at_ i x e1
    refine ⟨v, e2, old, mo, mn, env, S, st, stepO st h fun y S1 mn1 H1 v1 _ x1 s1 r1 h1 => ?_⟩
    have h2 := WO.later x1 s1.n h1
    refine opV_ok (σ := σ) (W := W) s1.s (RV.of (H0 := H1) (r.ext x1 st.n)) r1 ?_
    cases e3 : opV old o x y S1 with
    | bad => rw [e3] at h2; exact h2.elim
    | exc z S2 =>
      rw [e3] at h2
      exact fun mn3 H3 C x3 n3 hC => h2 mn3 H3 σ C x3 (s1.ext x3 n3) hC
    | ok z S2 =>
      rw [e3] at h2
      simp only [bndO] at h2
      intro mn3 H3 v3 x3 n3 r3
      obtain ⟨w, S4, eo, mn4, x4, s4, r4⟩ := own_st s1 x3 (s1.ext x3 n3) r3
      rw [eo] at h2
      exact h2 mn4 H3 _ x4 ⟨s4.o, s4.n, s4.e.set r4 i⟩
  · exact h.elim
theorem w_rai {y : Nat} {C : Addr} (hC : c.ca y = some C) (h : denSt c W cp ci fu (.rai y) D' σ H) : W (.ref C) none σ H := by
  obtain ⟨old, mo, mn, env, S, st, h⟩ := h
  exact h mn H σ C Ext.refl st hC
theorem w_nil (h : denB c W cp ci fu .nil D' σ H) : L2.tNext D' σ H := by
  obtain ⟨old, mo, mn, env, S, st, h⟩ := h
  exact h mn H σ Ext.refl st
theorem w_seq {t : T} {b : B} (h : denB c W cp ci fu (.seq t b) D' σ H) : L2.tSeq (denSt c W cp ci fu t) (denB c W cp ci fu b) D' σ H := by
  obtain ⟨old, mo, mn, env, S, st, h⟩ := h
  refine ⟨old, mo, mn, env, S, st, ?_⟩
  simp only [exs] at h
  cases e : ex cp ci old fu t env S with
  | nx env2 S2 =>
    rw [e] at h
    exact fun mn1 H1 σ1 x1 s1 => ⟨old, mo, mn1, env2, S2, s1, WO.later x1 s1.n h⟩
  | rt d S2 => rw [e] at h; exact h
  | bk env2 S2 => rw [e] at h; exact h
  | ct env2 S2 => rw [e] at h; exact h
  | exc y env2 S2 => rw [e] at h; exact h
  | bad => rw [e] at h; exact h.elim
end
end Z
/-! Z10: the text is held against the own language; what is held keeps the readings. -/
namespace L2
open PySem PySem.Spec PyProof.Rows
/-- a list or a tuple is walked -/
def iSeq (K : PySem.W.Frag) (tl : TE) : TI := fun σ H R => tl σ H fun x H1 => ∃ a, x = .ref a ∧ ((∃ xs, SqL K H1 a xs ∧ R (Itl K a) H1) ∨ ∃ xs, SqT K H1 a xs ∧ R (Itt K a) H1)
theorem pi_seq {X : Cx} {tg l : Expr} {tl : TE} (hl : PE X l tl) : PI X tg l (iSeq X.K tl) := by
  refine ⟨fun pins s σ H R I h => ?_⟩
  refine thn (hl.run pins s σ H _ I h) fun v s1 ⟨x, H1, I1, r1, q1⟩ => ?_
  obtain ⟨a, e, q⟩ := q1
  subst e
  cases r1
  rcases q with ⟨xs, hq, q⟩ | ⟨xs, hq, q⟩
  · obtain ⟨its, rv, p, hz⟩ := I1.list hq
    refine wpAny_pyIter_list p.isList ?_
    refine ⟨s1.heap.objs.size, [s1.heap.objs.size], _, _, H1, rfl, I1.kept (t' := s1.toks) fun b o e => Heap.get?_push_of_some _ e, turn_list a _, ⟨_, Heap.get?_push_size _ rfl, rfl, rfl⟩, fun b hb => ?_, q⟩
    have e : b = s1.heap.objs.size := by simpa using hb
    subst e
    exact I1.fpOk (Nat.le_refl _) (I1.hok.fresh (Nat.le_refl _))
  · obtain ⟨its, rv, p, hz⟩ := I1.tuple hq
    refine wpAny_pyIter_tuple (show s1.heap.IsTuple a its.toArray from p) ?_
    refine ⟨s1.heap.objs.size, [s1.heap.objs.size], _, _, H1, rfl, I1.kept (t' := s1.toks) fun b o e => Heap.get?_push_of_some _ e, turn_tuple a _, ⟨_, Heap.get?_push_size _ rfl, rfl, rfl⟩, fun b hb => ?_, q⟩
    have e : b = s1.heap.objs.size := by simpa using hb
    subst e
    exact I1.fpOk (Nat.le_refl _) (I1.hok.fresh (Nat.le_refl _))
theorem pi_imp {X : Cx} {tg l : Expr} {wi wi' : TI} (h : PI X tg l wi) (hi : ∀ σ H R, wi' σ H R → wi σ H R) : PI X tg l wi' := ⟨fun pins s σ H R I w => h.run pins s σ H R I (hi σ H R w)⟩
theorem pw_imp {X : Cx} {l : Expr} {t t' : TT} (h : PW X l t) (hi : ∀ σ H R, t' σ H R → t σ H R) : PW X l t' := ⟨fun whole pins s σ H R I w => h.run whole pins s σ H R I (hi σ H R w)⟩
theorem ps_imp {X : Cx} {l : Stmt} {t t' : TS} (h : PS X l t) (hi : ∀ D σ H, t' D σ H → t D σ H) : PS X l t' := ⟨fun pins s σ H D I w => h.run pins s σ H D I (hi D σ H w)⟩
theorem pss_imp {X : Cx} {l : List Stmt} {t t' : TS} (h : PSs X l t) (hi : ∀ D σ H, t' D σ H → t D σ H) : PSs X l t' := ⟨fun pins s σ H D I w => h.run pins s σ H D I (hi D σ H w)⟩
theorem po_imp {X : Cx} {l : Option Expr} {t t' : TO} (h : PO X l t) (hi : ∀ σ H R, t' σ H R → t σ H R) : PO X l t' := ⟨fun pins s σ H R I w => h.run pins s σ H R I (hi σ H R w)⟩
end L2
namespace Z
open PySem PySem.Spec PyProof.Rows
open L2 (V Hp HO upd upd_same upd_ne SqL SqT Rd VK TE TT TA TS Ends WX XK)
section
variable {c : Cg} {H H' H1 H2 H0 Hx Hy : Hp} {m m' mo mn mn' mn1 mn2 : List Addr} {old S S' S1 : Sto} {env : Env} {σ : L2.St} {d x y : D} {v u : V} {ds xs ys zs : List D} {vs us ws : List V} {W : WX} {b : Bool}
  {cp : Nat → List D → Sto → R D} {ci : Nat → List D → Sto → Sto → R D} {fu : Nat} {D' : Ends} {R' : L2.It → Hp → Prop}
/-! ### what is walked -/
theorem RV.h00 (r : RV c H0 H m mn d v) : RV c H00 H m mn d v := r.back fun _ _ => rfl
theorem w_iseq {e : E} (h : denI c W cp ci (.seq e) σ H R') : L2.iSeq c.K (den c W cp ci e) σ H R' := by
  obtain ⟨old, mo, mn, env, S, st, h⟩ := h
  simp only [evi] at h
  refine ⟨old, mo, mn, env, S, st, step st h fun x S1 mn1 H1 v1 _ x1 s1 r1 h1 => ?_⟩
  split at h1
  · rename_i xs e
    obtain ⟨a, vs, rfl, q1, q2⟩ := RV.seqOf s1.s r1 e
    refine ⟨a, rfl, ?_⟩
    rcases q2 with ⟨q2, q3⟩ | ⟨q2, q3⟩
    · refine .inl ⟨vs, q2, h1 mn1 H1 _ x1 s1.n (.seqL (RV.h00 r1) ?_)⟩
      cases x with
      | tup _ => cases q3
      | _ => rfl
    · subst q3
      exact .inr ⟨vs, q2, h1 mn1 H1 _ x1 s1.n (.seqT (RV.h00 r1) rfl)⟩
  · exact h1.elim
theorem w_rng1 {a : E} (h : denI c W cp ci (.rng1 a) σ H R') : L2.iRng1 (L2.tCons (den c W cp ci a) L2.tNil) σ H R' := by
  obtain ⟨old, mo, mn, env, S, st, h⟩ := h
  simp only [evi] at h
  refine ⟨old, mo, mn, env, S, st, step st h fun x S1 mn1 H1 v1 _ x1 s1 r1 h1 => ?_⟩
  split at h1
  · rename_i j _
    cases r1
    split at h1
    · rename_i hz
      simp only [Bool.and_eq_true, decide_eq_true_eq] at hz
      exact ⟨j, rfl, by omega, by omega, h1 mn1 H1 _ x1 s1.n .rng⟩
    · exact h1.elim
  · exact h1.elim
theorem w_rng2 {a b : E} (h : denI c W cp ci (.rng2 a b) σ H R') : L2.iRng2 (L2.tCons (den c W cp ci a) (L2.tCons (den c W cp ci b) L2.tNil)) σ H R' := by
  obtain ⟨old, mo, mn, env, S, st, h⟩ := h
  simp only [evi] at h
  refine ⟨old, mo, mn, env, S, st, step st h fun x S1 mn1 H1 v1 _ x1 s1 r1 h1 => ⟨old, mo, mn1, env, S1, s1, ?_⟩⟩
  refine step s1 (Wr.later (rel1 := relI c mo) x1 h1 fun _ _ _ _ q => q) fun y S2 mn2 H2 v2 _ x2 s2 r2 h2 => ?_
  split at h2
  · rename_i i j _ _
    cases r1
    cases r2
    split at h2
    · rename_i hz
      simp only [Bool.and_eq_true, decide_eq_true_eq] at hz
      exact ⟨i, j, rfl, ⟨by omega, by omega, by omega, by omega⟩, h2 mn2 H2 _ x2 s2.n .rng⟩
    · exact h2.elim
  · exact h2.elim
theorem w_rng3 {a b d : E} (h : denI c W cp ci (.rng3 a b d) σ H R') : L2.iRng3 (L2.tCons (den c W cp ci a) (L2.tCons (den c W cp ci b) (L2.tCons (den c W cp ci d) L2.tNil))) σ H R' := by
  obtain ⟨old, mo, mn, env, S, st, h⟩ := h
  simp only [evi] at h
  refine ⟨old, mo, mn, env, S, st, step st h fun x S1 mn1 H1 v1 _ x1 s1 r1 h1 => ⟨old, mo, mn1, env, S1, s1, ?_⟩⟩
  refine step s1 (Wr.later (rel1 := relI c mo) x1 h1 fun _ _ _ _ q => q) fun y S2 mn2 H2 v2 _ x2 s2 r2 h2 => ⟨old, mo, mn2, env, S2, s2, ?_⟩
  refine step s2 (Wr.later (rel1 := relI c mo) x2 h2 fun _ _ _ _ q => q) fun z S3 mn3 H3 v3 _ x3 s3 r3 h3 => ?_
  split at h3
  · rename_i i j k _ _ _
    cases r1
    cases r2
    cases r3
    split at h3
    · rename_i hz
      simp only [Bool.and_eq_true, decide_eq_true_eq] at hz
      obtain ⟨⟨⟨⟨hk, h1⟩, h2⟩, h4⟩, h5⟩ := hz
      subst hk
      exact ⟨i, j, -1, _, rfl, L2.RgC.neg (by omega) (by omega) (by omega) (by omega), h3 mn3 H3 _ x3 s3.n .rngC⟩
    · exact h3.elim
  · exact h3.elim
theorem w_enu {e : E} (h : denI c W cp ci (.enu e) σ H R') : L2.iEnumT c.K (L2.tCons (den c W cp ci e) L2.tNil) σ H R' := by
  obtain ⟨old, mo, mn, env, S, st, h⟩ := h
  simp only [evi] at h
  refine ⟨old, mo, mn, env, S, st, step st h fun x S1 mn1 H1 v1 _ x1 s1 r1 h1 => ?_⟩
  split at h1
  · rename_i xs e
    obtain ⟨a, vs, rfl, q1, q2⟩ := RV.seqOf s1.s r1 e
    refine ⟨a, vs, rfl, ?_⟩
    rcases q2 with ⟨q2, q3⟩ | ⟨q2, q3⟩
    · refine .inl ⟨q2, h1 mn1 H1 _ x1 s1.n (.enuL (RV.h00 r1) ?_)⟩
      cases x with
      | tup _ => cases q3
      | _ => rfl
    · subst q3
      exact .inr ⟨q2, h1 mn1 H1 _ x1 s1.n (.enuT (RV.h00 r1) rfl)⟩
  · exact h1.elim
theorem w_zip {a b : E} (h : denI c W cp ci (.zip a b) σ H R') : RZ.iZipA c.K (L2.tCons (den c W cp ci a) (L2.tCons (den c W cp ci b) L2.tNil)) σ H R' := by
  obtain ⟨old, mo, mn, env, S, st, h⟩ := h
  simp only [evi] at h
  refine ⟨old, mo, mn, env, S, st, step st h fun x S1 mn1 H1 v1 _ x1 s1 r1 h1 => ⟨old, mo, mn1, env, S1, s1, ?_⟩⟩
  refine step s1 (Wr.later (rel1 := relI c mo) x1 h1 fun _ _ _ _ q => q) fun y S2 mn2 H2 v2 _ x2 s2 r2 h2 => ?_
  split at h2
  · rename_i xs e1
    split at h2
    · rename_i ys e2
      split at h2
      · rename_i hT
        have r1' := RV.ext x2 s1.n r1
        obtain ⟨p, vs, rfl, q1, q2⟩ := RV.seqOf s2.s r1' e1
        obtain ⟨q, us, rfl, p1, p2⟩ := RV.seqOf s2.s r2 e2
        refine ⟨p, q, vs, us, rfl, ?_⟩
        rcases q2 with ⟨q2, q3⟩ | ⟨q2, q3⟩
        · have hx : isT x = false := by cases x with
            | tup _ => cases q3
            | _ => rfl
          rcases p2 with ⟨p2, p3⟩ | ⟨p2, p3⟩
          · have hy : isT y = false := by cases y with
              | tup _ => cases p3
              | _ => rfl
            exact .inl ⟨q2, p2, h2 mn2 H2 _ x2 s2.n (.zipL (RV.h00 r1') (RV.h00 r2) hx hy)⟩
          · subst p3
            rw [hx] at hT; cases hT
        · subst q3
          rcases p2 with ⟨p2, p3⟩ | ⟨p2, p3⟩
          · have hy : isT y = false := by cases y with
              | tup _ => cases p3
              | _ => rfl
            rw [hy] at hT; cases hT
          · subst p3
            exact .inr ⟨q2, p2, h2 mn2 H2 _ x2 s2.n (.zipT (RV.h00 r1') (RV.h00 r2) rfl rfl)⟩
      · exact h2.elim
    · exact h2.elim
  · exact h2.elim
end
end Z
/-! Z11: the checker, and that what it lets by is sound. -/
namespace Z
open PySem PySem.Spec PyProof.Rows
open L2 (V Hp HO upd upd_same upd_ne SqL SqT Rd VK TE TT TA TS Ends WX XK)
/-- what is known of the text: the def's names by place; the defs; the classes; the constants; built-in names that are no globals -/
structure Info where
  N : List Str
  fnm : Nat → Option (Str × Nat)
  cls : Nat → Option Str
  con : List (Str × D)
  bln : List Str
/-- a scope; of a comprehension: its own names too -/
structure Sc where
  sc : Scope
  raw : Option Scope
def visB (sc : Scope) (x : Str) : Bool := match sc.names.lookup x with
  | some .local => true | some .cell => true | some .free => true
  | _ => false
def glB (sc : Scope) (x : Str) : Bool := match sc.names.lookup x with
  | some .globalImplicit => true
  | _ => false
def okn (x : Str) : Bool := !(x == ("__debug__" : Str)) && !(x == ("__classdict__" : Str))
def opB : Op → Operator → Bool
  | .add, .Add => true | .sub, .Sub => true | .mul, .Mult => true | .fdiv, .FloorDiv => true | .mod, .Mod => true | .pow, .Pow => true | .shl, .LShift => true | .shr, .RShift => true | .band, .BitAnd => true | .bor, .BitOr => true | .bxor, .BitXor => true
  | _, _ => false
def cmB : Cm → CmpOp → Bool
  | .eq, .Eq => true | .ne, .NotEq => true | .lt, .Lt => true | .le, .LtE => true | .gt, .Gt => true | .ge, .GtE => true | .is, .Is => true | .isnt, .IsNot => true | .isin, .In => true | .notin, .NotIn => true
  | _, _ => false
def litB : D → Const → Bool
  | .non, .none => true
  | .bl b, .bool k => b == k
  | .int i, .int k => decide (i = k)
  | .str x, .str k => decide (x = k)
  | _, _ => false
mutual
def deq : D → D → Bool
  | .non, .non => true
  | .bl a, .bl b => a == b
  | .int a, .int b => decide (a = b)
  | .str a, .str b => decide (a = b)
  | .tup a, .tup b => deqs a b
  | .fn a, .fn b => Nat.beq a b
  | _, _ => false
def deqs : List D → List D → Bool
  | [], [] => true
  | a :: as, b :: bs => deq a b && deqs as bs
  | _, _ => false
end
mutual
theorem deq_eq : ∀ {a b : D}, deq a b = true → a = b
  | .non, b, h => by cases b <;> first | rfl | simp [deq] at h
  | .bl _, b, h => by cases b <;> simp [deq] at h; rw [h]
  | .int _, b, h => by cases b <;> simp [deq] at h; rw [h]
  | .str _, b, h => by cases b <;> simp [deq] at h; rw [h]
  | .tup as, b, h => by
    cases b <;> simp [deq] at h
    rw [deqs_eq h]
  | .fn _, b, h => by cases b <;> simp [deq] at h; rw [h]
  | .lst _, b, h => by cases b <;> simp [deq] at h
  | .tmp _, b, h => by cases b <;> simp [deq] at h
  | .exc _, b, h => by cases b <;> simp [deq] at h
theorem deqs_eq : ∀ {a b : List D}, deqs a b = true → a = b
  | [], [], _ => rfl
  | [], _ :: _, h => by simp [deqs] at h
  | _ :: _, [], h => by simp [deqs] at h
  | a :: as, b :: bs, h => by
    simp only [deqs, Bool.and_eq_true] at h
    rw [deq_eq h.1, deqs_eq h.2]
end
def notSet : Expr → Bool
  | .Set _ _ _ => false
  | _ => true
def notStar : Expr → Bool
  | .Starred _ _ => false
  | _ => true
def notSlice : Expr → Bool
  | .Slice _ _ _ _ => false
  | _ => true
def notCall0 : Expr → Bool
  | .Call (.Name _ _) [] [] _ => false
  | _ => true
def plainT : Expr → Bool
  | .UnaryOp .Not _ _ => false
  | .BoolOp _ _ _ => false
  | .IfExp _ _ _ _ => false
  | .Compare _ _ _ _ => false
  | _ => true
def isBool : Expr → Bool
  | .BoolOp _ _ _ => true
  | _ => false
def notComp : Expr → Bool
  | .ListComp _ _ _ _ => false
  | .SetComp _ _ _ _ => false
  | .DictComp _ _ _ _ _ => false
  | _ => true
def notTup : Expr → Bool
  | .Tuple _ _ _ => false
  | _ => true
section
variable {env : Env} {e : Expr} {es : List Expr}
end
theorem star_cons {e : Expr} (h : notStar e = true) (es : List Expr) (env : PySem.Env) : starEach (e :: es) env = (false, eval e env) :: starEach es env := by
  cases e <;> first | rfl | exact absurd h (by simp [notStar])
def noStars : List Expr → Bool
  | [] => true
  | e :: es => notStar e && noStars es
theorem star_all : ∀ {es : List Expr} (pos : Pos) (env : PySem.Env), noStars es = true → (backTo pos (starEach es env)).any (·.1) = false
  | [], pos, env, _ => rfl
  | e :: es, pos, env, h => by
    simp only [noStars, Bool.and_eq_true] at h
    rw [star_cons h.1]
    show (false || (backTo pos (starEach es env)).any (·.1)) = false
    rw [star_all pos env h.2]; rfl
theorem star_all2 : ∀ {es : List Expr} (pos : Pos) (env : PySem.Env), noStars es = true → (backTo pos (starEach es env)).all (fun x => !x.1) = true
  | [], pos, env, _ => rfl
  | e :: es, pos, env, h => by
    simp only [noStars, Bool.and_eq_true] at h
    rw [star_cons h.1]
    show (true && (backTo pos (starEach es env)).all (fun x => !x.1)) = true
    rw [star_all2 pos env h.2]; rfl
theorem plainIx_of {e : Expr} (h : notSlice e = true) : L2.PlainIx e := by
  intro o i
  cases e <;> first | rfl | exact absurd h (by simp [notSlice])
theorem noMark_of {e : Expr} {op : CmpOp} (h : notSet e = true) : behindInMarks op e = false := by
  cases e <;> first | rfl | exact absurd h (by simp [notSet])
theorem attr_base {e : Expr} {nm : Str} {env : PySem.Env} (h : notCall0 e = true) : attributeBase e nm env (eval e env) = eval e env := by
  cases e with
  | Call f as ks p =>
    cases f with
    | Name n q =>
      cases as with
      | nil =>
        cases ks with
        | nil => exact absurd h (by simp [notCall0])
        | cons k ks => rfl
      | cons a as => rfl
    | _ => rfl
  | _ => rfl
theorem plainT_of {e : Expr} {env : PySem.Env} (h : plainT e = true) : ∀ whole, isTrue e env whole = (do let v ← whole; standAt e.pos; holding [v] (truthy v)) := by
  intro whole
  cases e with
  | UnaryOp op x p => cases op <;> first | rfl | exact absurd h (by simp [plainT])
  | BoolOp _ _ _ => exact absurd h (by simp [plainT])
  | IfExp _ _ _ _ => exact absurd h (by simp [plainT])
  | Compare _ _ _ _ => exact absurd h (by simp [plainT])
  | _ => rfl
theorem folded_of {e : Expr} {env : PySem.Env} (h : notSet e = true) : ∀ x, foldedSetIterable e env x = pure x := by
  intro x
  cases e <;> first | rfl | exact absurd h (by simp [notSet])
theorem swaps_of {e : Expr} {t : Option Expr} {l : Nat} {env : PySem.Env} (h : notComp e = true) : swapsWith e t l env = pure false := by
  cases e <;> first | rfl | exact absurd h (by simp [notComp])
def celB (s : Sc) (n : Str) : Bool := match s.sc.names.lookup n with
  | some .local => true
  | some .cell => (match s.raw with
    | none => true
    | some r => (match r.names.lookup n with
      | some .cell => true
      | _ => false))
  | _ => false
def chkN (N : List Str) (s : Sc) (i : Nat) : Expr → Bool
  | .Name n _ => decide (N[i]? = some n) && celB s n
  | _ => false
def chkNs (N : List Str) (s : Sc) : List Nat → List Expr → Bool
  | [], [] => true
  | i :: is, e :: es => chkN N s i e && chkNs N s is es
  | _, _ => false
def chkTg (N : List Str) (s : Sc) : Tg → Expr → Bool
  | .nm i, e => chkN N s i e
  | .tu is, .Tuple es _ _ => chkNs N s is es
  | _, _ => false
def isTup : Expr → Bool
  | .Tuple _ _ _ => true
  | _ => false
def tstOk : E → Bool
  | .ife _ _ _ => false
  | .and a b => tstOk a && tstOk b
  | .or a b => tstOk a && tstOk b
  | .not a => tstOk a
  | _ => true
def scR (scope sc : Scope) : Scope :=
  { scope with names := scope.names.map fun (n, k) => if (k == .free && sc.kind == .function && sc.names.lookup n == some .cell) then (n, .cell) else (n, k) }
def isLr : Blt → Bool
  | .lrng => true
  | _ => false
variable (J : Info)
def ownl (own : List Nat) : List (Str × Nat) := own.map fun i => (J.N.getD i ⟨#[]⟩, i)
def blB (n : Str) : Bool := J.bln.contains n
mutual
def chkE : E → Sc → Expr → Bool
  | .var i, s, x => match x with
    | .Name n _ => decide (J.N[i]? = some n) && visB s.sc n && okn n
    | _ => false
  | .lit d, _, x => match x with
    | .Constant k _ _ => litB d k
    | _ => false
  | .glo d, s, x => match x with
    | .Name n _ => glB s.sc n && okn n && (match J.con.lookup n with
      | some e => deq e d
      | none => false)
    | _ => false
  | .bin o a b, s, x => match x with
    | .BinOp l op r _ => opB o op && chkE a s l && chkE b s r
    | _ => false
  | .neg a, s, x => match x with
    | .UnaryOp .USub l _ => chkE a s l
    | _ => false
  | .cmp o a b, s, x => match x with
    | .Compare l [op] [r] _ => cmB o op && notSet r && chkE a s l && chkE b s r
    | _ => false
  | .chn o p a b d, s, x => match x with
    | .Compare l [op, pp] [r, t] _ => cmB o op && cmB p pp && notSet t && chkE a s l && chkE b s r && chkE d s t
    | _ => false
  | .and a b, s, x => match x with
    | .BoolOp .And (l :: r :: rest) p => chkE a s l && (match rest with
      | [] => chkE b s r
      | _ => isBool (.BoolOp .And (r :: rest) p) && chkE b s (.BoolOp .And (r :: rest) p))
    | _ => false
  | .or a b, s, x => match x with
    | .BoolOp .Or (l :: r :: rest) p => chkE a s l && (match rest with
      | [] => chkE b s r
      | _ => isBool (.BoolOp .Or (r :: rest) p) && chkE b s (.BoolOp .Or (r :: rest) p))
    | _ => false
  | .not a, s, x => match x with
    | .UnaryOp .Not l _ => chkE a s l
    | _ => false
  | .ife t a b, s, x => match x with
    | .IfExp q l r _ => tstOk t && chkE t s q && chkE a s l && chkE b s r
    | _ => false
  | .tup es, s, x => match x with
    | .Tuple xs _ _ => chkEs es s xs
    | _ => false
  | .lst es, s, x => match x with
    | .List xs _ => chkEs es s xs
    | _ => false
  | .idx a b, s, x => match x with
    | .Subscript l r _ => notSlice r && chkE a s l && chkE b s r
    | _ => false
  | .sli a lo hi, s, x => match x with
    | .Subscript l (.Slice u w none _) _ => chkE a s l && chkO lo s u && chkO hi s w
    | _ => false
  | .call f es, s, x => match x with
    | .Call (.Name n _) (e :: xs) [] _ => glB s.sc n && okn n && (match J.fnm f with
      | some q => decide (q.1 = n)
      | none => false) && noStars (e :: xs) && chkEs es s (e :: xs)
    | _ => false
  | .calli f es, s, x => match x with
    | .Call (.Name n _) (e :: xs) [] _ => glB s.sc n && okn n && (match J.fnm f with
      | some q => decide (q.1 = n)
      | none => false) && noStars (e :: xs) && chkEs es s (e :: xs)
    | _ => false
  | .blt f es, s, x => if isLr f = true then (match x with
      | .Call (.Name n _) [.Call (.Name n2 _) [a] [] _] [] _ => decide (n = "list") && decide (n2 = "range") && glB s.sc n && glB s.sc n2 && blB J n && blB J n2 && notStar a && chkRs es s [a]
      | _ => false) else match x with
      | .Call (.Name n _) (e :: xs) [] _ => decide (n = (bltNm f).1) && glB s.sc n && blB J n && noStars (e :: xs) && chkRs es s (e :: xs)
      | _ => false
  | .isi a t, s, x => match x with
    | .Call (.Name n _) [e, .Name m _] [] _ => decide (n = "isinstance") && decide (m = Str.ofString (tyNm t)) && glB s.sc n && glB s.sc m && blB J n && blB J m && notStar e && chkE a s e
    | _ => false
  | .met m o es, s, x => match x with
    | .Call (.Attribute l nm ap) xs [] cp => decide (nm = (metId m).1) && notCall0 l && (ap.endLine == cp.line) && noStars xs && decide (xs.length < 20) && chkE o s l && chkEs es s xs
    | _ => false
  | .ext o e, s, x => match x with
    | .Call (.Attribute l nm ap) [r] [] cp => decide (nm = "extend") && notCall0 l && (ap.endLine == cp.line) && notStar r && chkE o s l && chkE e s r
    | _ => false
  | .srt a rev, s, x => false
  | .comp own it tg cond elt, s, x => match x with
    | .ListComp xe [⟨xt, xi, ifs, 0⟩] scope _ => L2.blkC J.N s.sc scope (ownl J own) && notSet xi && tgIn tg own && chkTg J.N ⟨scR scope s.sc, some scope⟩ tg xt && chkI it s xi xt && chkC cond ⟨scR scope s.sc, some scope⟩ ifs && chkE elt ⟨scR scope s.sc, some scope⟩ xe
    | _ => false
def chkO : Eo → Sc → Option Expr → Bool
  | .no, _, none => true
  | .of e, s, some x => chkE e s x
  | _, _, _ => false
def chkC : Eo → Sc → List Expr → Bool
  | .no, _, [] => true
  | .of e, s, [x] => tstOk e && chkE e s x
  | _, _, _ => false
def chkEs : Es → Sc → List Expr → Bool
  | .nil, _, [] => true
  | .cons e es, s, x :: xs => notStar x && chkE e s x && chkEs es s xs
  | _, _, _ => false
def chkRs : Es → Sc → List Expr → Bool
  | .nil, _, [] => true
  | .cons e es, s, x :: xs => notStar x && chkE e s x && chkRs es s xs
  | _, _, _ => false
def chkI : I → Sc → Expr → Expr → Bool
  | .seq e, s, x, _ => chkE e s x
  | .rng1 a, s, x, _ => match x with
    | .Call (.Name n _) [l] [] _ => decide (n = "range") && glB s.sc n && blB J n && notStar l && chkE a s l
    | _ => false
  | .rng2 a b, s, x, _ => match x with
    | .Call (.Name n _) [l, r] [] _ => decide (n = "range") && glB s.sc n && blB J n && notStar l && notStar r && chkE a s l && chkE b s r
    | _ => false
  | .rng3 a b d, s, x, _ => match x with
    | .Call (.Name n _) [l, r, t] [] _ => decide (n = "range") && glB s.sc n && blB J n && notStar l && notStar r && notStar t && chkE a s l && chkE b s r && chkE d s t
    | _ => false
  | .enu e, s, x, t => match x with
    | .Call (.Name n _) [l] [] _ => isTup t && decide (n = "enumerate") && glB s.sc n && blB J n && notStar l && chkE e s l
    | _ => false
  | .zip a b, s, x, t => match x with
    | .Call (.Name n _) [l, r] [] _ => isTup t && decide (n = "zip") && glB s.sc n && blB J n && notStar l && notStar r && chkE a s l && chkE b s r
    | _ => false
end

/-! ### what the context gives -/
structure Good (X : L2.Cx) (c : Cg) (J : Info) (G : Tab) (d : Nat) (W : WX) (s : Sc) : Prop where
  K : X.K = c.K
  calm : X.calm = true
  N : X.N = J.N
  nd : X.N.Nodup
  sc : X.env.scope = s.sc
  kind : s.sc.kind = .function
  cel : ∀ n, celB s n = true → X.fn n = true ∨ s.sc.names.lookup n = some .local
  room : L2.Room d X.A
  takes : L2.Takes X W
  bln : ∀ n, blB J n = true → X.mg n = none
  fns : ∀ f q, J.fnm f = some q → (∃ a fd ps, X.mg q.1 = some (.ref a) ∧ PySem.W.keepIn X.K (.ref a) = true ∧ L2.Binds X.K fd ps [] ∧ L2.FnOk X.prog X.w X.K X.mg X.base (L2.CX X.prog X.w) d a fd ps (spF c (cI G d) q.2 f)) ∧ ∀ fn, G.fns f = some fn → fn.ar = q.2
  con : ∀ n e, J.con.lookup n = some e → ∃ u v, X.mg n = some u ∧ L2.RelV v u ∧ ∀ H m, RD c H m e v
  bb : ∀ n, blB J n = true → n ≠ "__name__" ∧ (n == ("__debug__" : Str)) = false
section
variable {X : L2.Cx} {c : Cg} {J : Info} {G : Tab} {d : Nat} {W : WX} {s : Sc} {x : Expr}
theorem Good.hu (g : Good X c J G d W s) : X.A.units + 65 < cLine := by have := g.room.un; omega
theorem vis_of {sc : Scope} {n : Str} (h : visB sc n = true) : L2.Vis sc n := by
  unfold visB at h
  split at h
  · rename_i e; exact .inl e
  · rename_i e; exact .inr (.inl e)
  · rename_i e; exact .inr (.inr e)
  · cases h
theorem Good.gl (g : Good X c J G d W s) {n : Str} (h : glB s.sc n = true) : L2.Gl X n := by
  show X.env.scope.names.lookup n = some .globalImplicit
  rw [g.sc]
  unfold glB at h
  split at h
  · rename_i e; exact e
  · cases h
theorem okn_of {n : Str} (h : okn n = true) : (n == ("__debug__" : Str)) = false ∧ (n == ("__classdict__" : Str)) = false := by
  unfold okn at h
  simp only [Bool.and_eq_true, Bool.not_eq_true'] at h
  exact h
theorem op_of {o : Op} {op : Operator} (h : opB o op = true) : op = pyOp o := by
  cases o <;> cases op <;> first | rfl | simp [opB] at h
theorem cm_of {o : Cm} {op : CmpOp} (h : cmB o op = true) : op = pyCm o := by
  cases o <;> cases op <;> first | rfl | simp [cmB] at h
/-- the block of a comprehension -/
theorem Good.blk (g : Good X c J G d W s) {scope : Scope} (hk : scope.kind = .function) (s1 : Shared) (H1 : Hp) (C : Addr) (cl : List (Str × Addr)) (fp : List Addr) :
    Good (X.blk s1 H1 scope (compEnvC scope cl C X.env) fp) c J G d WF ⟨scR scope s.sc, some scope⟩ where
  K := g.K
  calm := g.calm
  N := g.N
  nd := g.nd
  sc := by
    show relabel scope X.env = scR scope s.sc
    unfold relabel scR
    rw [← g.sc]
    rfl
  kind := hk
  cel := fun n h => by
    unfold celB at h
    split at h
    · rename_i e; exact .inr e
    · split at h
      · rename_i e2; cases e2
      · rename_i r e2
        cases e2
        split at h
        · rename_i e3
          refine .inl ?_
          show (scope.names.lookup n == some .cell) = true
          rw [e3]; rfl
        · cases h
    · cases h
  room := g.room
  takes := L2.takes0
  bln := g.bln
  fns := g.fns
  con := g.con
  bb := g.bb
theorem Good.nm (g : Good X c J G d W s) {i : Nat} (h : chkN J.N s i x = true) : L2.PG X x (L2.gName i) := by
  cases x with
  | Name n p =>
    simp only [chkN, Bool.and_eq_true, decide_eq_true_eq] at h
    have hl := g.cel n h.2
    refine L2.pg_name g.nd (by rw [g.N]; exact h.1) ?_ ?_
    · rw [g.sc]
      have h2 := h.2
      unfold celB at h2
      split at h2
      · rename_i e; exact .inl e
      · rename_i e; exact .inr e
      · cases h2
    · rw [g.sc]; exact hl
  | _ => exact absurd h (by simp [chkN])
theorem chkN_plain {N : List Str} {i : Nat} {e : Expr} (h : chkN N s i e = true) : ∃ n p, e = .Name n p := by
  cases e with
  | Name n p => exact ⟨n, p, rfl⟩
  | _ => exact absurd h (by simp [chkN])
theorem Good.nms (g : Good X c J G d W s) : ∀ {is : List Nat} {es : List Expr}, chkNs J.N s is es = true → L2.PGs X es (semGs is) ∧ (assignEach es X.env).length = is.length ∧ (assignEach es X.env).findIdx? (·.1) = none
  | [], [], _ => ⟨L2.pgs_nil, rfl, rfl⟩
  | i :: is, e :: es, h => by
    simp only [chkNs, Bool.and_eq_true] at h
    obtain ⟨h1, h2, h3⟩ := g.nms h.2
    obtain ⟨n, p, rfl⟩ := chkN_plain h.1
    refine ⟨L2.pgs_cons (g.nm h.1) h1 rfl, ?_, ?_⟩
    · show (assignEach es X.env).length + 1 = is.length + 1
      rw [h2]
    · have hh : assignEach (Expr.Name n p :: es) X.env = (false, assign (.Name n p) X.env) :: assignEach es X.env := rfl
      rw [hh, List.findIdx?_cons]
      simp only [Bool.false_eq_true, if_false]
      rw [h3]; rfl
  | [], _ :: _, h => by simp [chkNs] at h
  | _ :: _, [], h => by simp [chkNs] at h
theorem Good.tg (g : Good X c J G d W s) {tg : Tg} (h : chkTg J.N s tg x = true) : L2.PG X x (semG c tg) := by
  cases tg with
  | nm i => exact g.nm h
  | tu is =>
    cases x with
    | Tuple es k p =>
      obtain ⟨h1, h2, h3⟩ := g.nms h
      show L2.PG X _ (L2.gTup c.K is.length (semGs is))
      rw [← g.K]
      exact L2.pg_tup g.calm h1 h2 h3
    | _ => exact absurd h (by simp [chkTg])
end
end Z
/-! Z12: what the checker lets by is sound: expressions. -/
namespace Z
open PySem PySem.Spec PyProof.Rows
open L2 (V Hp HO upd upd_same upd_ne SqL SqT Rd VK TE TT TA TS Ends WX XK)
section
variable {c : Cg} {J : Info} {G : Tab} {d : Nat}
theorem beq_len {α : Type} {l : List α} {n : Nat} (h : ¬ Nat.beq l.length n = false) : l.length = n := by
  cases e : Nat.beq l.length n with
  | false => exact absurd e h
  | true => exact Nat.eq_of_beq_eq_true e
theorem cI_len {f ar : Nat} (hf : ∀ fn, G.fns f = some fn → fn.ar = ar) : ∀ (d : Nat) (ds : List D) (old S : Sto), cI G d f ds old S ≠ .bad → ds.length = ar
  | 0, ds, old, S, h => absurd rfl h
  | d + 1, ds, old, S, h => by
    simp only [cI] at h
    cases e : G.fns f with
    | none => rw [e] at h; exact absurd rfl h
    | some fn =>
      rw [e] at h
      simp only at h
      rw [← hf fn e]
      refine beq_len fun z => ?_
      rw [z] at h
      exact h rfl
theorem cmp_bl {cp : Nat → List D → Sto → R D} {ci : Nat → List D → Sto → Sto → R D} {o : Cm} {a b : E} : ∀ old env S x S1, ev cp ci old (.cmp o a b) env S = .ok x S1 → ∃ k, x = .bl k := by
  intro old env S x S1 h
  simp only [ev] at h
  cases e : ev cp ci old a env S with
  | bad => rw [e] at h; cases h
  | exc y S2 => rw [e] at h; cases h
  | ok y S2 =>
    rw [e] at h
    simp only [bnd] at h
    cases e2 : ev cp ci old b env S2 with
    | bad => rw [e2] at h; cases h
    | exc y S2 => rw [e2] at h; cases h
    | ok z S3 =>
      rw [e2] at h
      simp only at h
      split at h
      · cases h; exact ⟨_, rfl⟩
      · cases h
theorem chn_bl {cp : Nat → List D → Sto → R D} {ci : Nat → List D → Sto → Sto → R D} {o p : Cm} {a b t : E} : ∀ old env S x S1, ev cp ci old (.chn o p a b t) env S = .ok x S1 → ∃ k, x = .bl k := by
  intro old env S x S1 h
  simp only [ev] at h
  cases e : ev cp ci old a env S with
  | bad => rw [e] at h; cases h
  | exc y S2 => rw [e] at h; cases h
  | ok y S2 =>
    rw [e] at h
    simp only [bnd] at h
    cases e2 : ev cp ci old b env S2 with
    | bad => rw [e2] at h; cases h
    | exc y S2 => rw [e2] at h; cases h
    | ok z S3 =>
      rw [e2] at h
      simp only at h
      split at h
      · cases e3 : ev cp ci old t env S3 with
        | bad => rw [e3] at h; cases h
        | exc y S2 => rw [e3] at h; cases h
        | ok q S4 =>
          rw [e3] at h
          simp only at h
          split at h
          · cases h; exact ⟨_, rfl⟩
          · cases h
      · cases h; exact ⟨_, rfl⟩
      · cases h
theorem lit_rel {dd : D} {k : Const} (h : litB dd k = true) : ∃ v : V, (∀ (H : Hp) (m : List Addr), RD c H m dd v) ∧ ∀ {X : L2.Cx} {j pos}, L2.PE X (.Constant k j pos) (L2.tC v) := by
  cases dd with
  | non => cases k <;> first | exact ⟨.non, fun _ _ => rfl, L2.pe_non⟩ | exact absurd h (by simp [litB])
  | bl b => cases k with
    | bool b' => simp [litB] at h; subst h; exact ⟨.bl b, fun _ _ => rfl, L2.pe_bl⟩
    | _ => exact absurd h (by simp [litB])
  | int i => cases k with
    | int j => simp [litB] at h; subst h; exact ⟨.int i, fun _ _ => rfl, L2.pe_int⟩
    | _ => exact absurd h (by simp [litB])
  | str z => cases k with
    | str w => simp [litB] at h; subst h; exact ⟨.str z, fun _ _ => rfl, L2.pe_str⟩
    | _ => exact absurd h (by simp [litB])
  | _ => exact absurd h (by simp [litB])
/-- a test that has no form of its own -/
theorem plain_test {X : L2.Cx} {W : WX} {s : Sc} {x : Expr} {e : E} (g : Good X c J G d W s) (hp : plainT x = true) (h : L2.PE X x (den c W (cP G d) (cI G d) e)) : L2.PT X x (denC c W (cP G d) (cI G d) (.of e)) := by
  refine pt_imp (L2.pt_truth h (plainT_of hp)) fun σ H Q w => ?_
  rw [g.K]
  exact w_evc w
theorem bln_rule {X : L2.Cx} {W : WX} {s : Sc} (g : Good X c J G d W s) {f : Blt} (hf : f ≠ .lrng) {n : Str} {e : Expr} {es : List Expr} {t : TA} {p pos : Pos} (hn : n = (bltNm f).1) (hg : glB s.sc n = true) (hb : blB J n = true) (hs : noStars (e :: es) = true) (ha : L2.PA X (e :: es) t) :
    L2.PE X (.Call (.Name n p) (e :: es) [] pos) (L2.tCB (rB c f) t) := by
  have hr := blt_r (c := c) g.K g.calm f hf
  obtain ⟨b1, b2⟩ := g.bb n hb
  have hs' := hs
  simp only [noStars, Bool.and_eq_true] at hs'
  have q1 := star_cons hs'.1 es X.env
  have q2 := star_all pos X.env hs'.2
  cases f with
  | len => subst hn; exact L2.pe_callB hr (g.gl hg) (g.bln _ hb) (by decide +kernel) ha b1 b2 q1 q2
  | abs => subst hn; exact L2.pe_callB hr (g.gl hg) (g.bln _ hb) (by decide +kernel) ha b1 b2 q1 q2
  | max2 => subst hn; exact L2.pe_callB hr (g.gl hg) (g.bln _ hb) (by decide +kernel) ha b1 b2 q1 q2
  | min2 => subst hn; exact L2.pe_callB hr (g.gl hg) (g.bln _ hb) (by decide +kernel) ha b1 b2 q1 q2
  | sum => subst hn; exact L2.pe_callB hr (g.gl hg) (g.bln _ hb) (by decide +kernel) ha b1 b2 q1 q2
  | all => subst hn; exact L2.pe_callB hr (g.gl hg) (g.bln _ hb) (by decide +kernel) ha b1 b2 q1 q2
  | any => subst hn; exact L2.pe_callB hr (g.gl hg) (g.bln _ hb) (by decide +kernel) ha b1 b2 q1 q2
  | int1 => subst hn; exact L2.pe_callTy hr (g.gl hg) (g.bln _ hb) (by decide +kernel) ha b1 b2 q1 q2
  | tuple => subst hn; exact L2.pe_callTy hr (g.gl hg) (g.bln _ hb) (by decide +kernel) ha b1 b2 q1 q2
  | list => subst hn; exact L2.pe_callTy hr (g.gl hg) (g.bln _ hb) (by decide +kernel) ha b1 b2 q1 q2
  | lrng => exact absurd rfl hf
theorem ty_name {X : L2.Cx} {W : WX} {s : Sc} (g : Good X c J G d W s) {t : Ty} {p : Pos} (hg : glB s.sc (Str.ofString (tyNm t)) = true) (hb : blB J (Str.ofString (tyNm t)) = true) : L2.PE X (.Name (Str.ofString (tyNm t)) p) (L2.tC (.ty (tyNm t))) := by
  obtain ⟨b1, b2⟩ := g.bb _ hb
  cases t <;> exact L2.pe_bltn (g.gl hg) (g.bln _ hb) (by decide +kernel) rfl b1 b2
theorem Wr.mono {α β : Type} {mo mn : List Addr} {W : WX} {σ : L2.St} {rel : Hp → List Addr → α → β → Prop} {H : Hp} {r : R α} {Q Q' : β → Hp → Prop} (h : Wr c mo W σ rel H mn r Q) (hq : ∀ v H, Q v H → Q' v H) : Wr c mo W σ rel H mn r Q' := by
  cases r with
  | ok x S => exact fun mn' H' v x' n' r' => hq _ _ (h mn' H' v x' n' r')
  | exc y S => exact h
  | bad => exact h
theorem den_mono {W : WX} {cp : Nat → List D → Sto → R D} {ci : Nat → List D → Sto → Sto → R D} {e : E} {σ : L2.St} {H : Hp} {Q Q' : VK} (h : den c W cp ci e σ H Q) (hq : ∀ v H, Q v H → Q' v H) : den c W cp ci e σ H Q' :=
  let ⟨old, mo, mn, env, S, st, w⟩ := h
  ⟨old, mo, mn, env, S, st, w.mono hq⟩
/-- the statement about an expression -/
def SE (c : Cg) (J : Info) (G : Tab) (d : Nat) (e : E) : Prop := ∀ (X : L2.Cx) (W : WX) (s : Sc) (x : Expr), Good X c J G d W s → chkE J e s x = true →
  L2.PE X x (den c W (cP G d) (cI G d) e) ∧ (tstOk e = true → L2.PT X x (denC c W (cP G d) (cI G d) (.of e))) ∧ (tstOk e = true → isBool x = true → L2.PW X x (denC c W (cP G d) (cI G d) (.of e)))
theorem pes_of {X : L2.Cx} {W : WX} {s : Sc} {x : Expr} {e : E} (g : Good X c J G d W s) (hp : plainT x = true) (hb : isBool x = false) (h : L2.PE X x (den c W (cP G d) (cI G d) e)) :
    L2.PE X x (den c W (cP G d) (cI G d) e) ∧ (tstOk e = true → L2.PT X x (denC c W (cP G d) (cI G d) (.of e))) ∧ (tstOk e = true → isBool x = true → L2.PW X x (denC c W (cP G d) (cI G d) (.of e))) :=
  ⟨h, fun _ => plain_test g hp h, fun _ z => by rw [hb] at z; cases z⟩
theorem call_rule {X : L2.Cx} {W : WX} {s : Sc} (g : Good X c J G d W s) {f : Nat} {n : Str} {e : Expr} {es : List Expr} {t : TA} {p pos : Pos} (hg : glB s.sc n = true) (ho : okn n = true) (hs : noStars (e :: es) = true)
    (hq : (match J.fnm f with
      | some q => decide (q.1 = n)
      | none => false) = true) (ha : L2.PA X (e :: es) t) : ∃ ar, (∀ (ds : List D) (old S : Sto), cI G d f ds old S ≠ .bad → ds.length = ar) ∧ L2.PE X (.Call (.Name n p) (e :: es) [] pos) (L2.tCallS (spF c (cI G d) ar f) (L2.WE W) t) := by
  cases eq : J.fnm f with
  | none => rw [eq] at hq; cases hq
  | some q =>
    rw [eq] at hq
    simp only [decide_eq_true_eq] at hq
    subst hq
    obtain ⟨⟨a, fd, ps, h1, h2, h3, h4⟩, h5⟩ := g.fns f q eq
    have hs' := hs
    simp only [noStars, Bool.and_eq_true] at hs'
    exact ⟨q.2, cI_len h5 d, L2.pe_callS h4 g.room (g.gl hg) h1 h2 h3 (fun σ => L2.passAt g.takes σ) ha (okn_of ho).1 (star_cons hs'.1 es X.env) (star_all pos X.env hs'.2)⟩
mutual
theorem sE : ∀ (e : E), SE c J G d e
  | .var i => by
    intro X W s x g h
    cases x with
    | Name n p =>
      simp only [chkE, Bool.and_eq_true, decide_eq_true_eq] at h
      refine pes_of g rfl rfl (pe_imp (L2.pe_var (i := i) (by rw [g.N]; exact h.1.1) (by rw [g.sc]; exact vis_of h.1.2) (okn_of h.2).1 (okn_of h.2).2) fun σ H Q w => w_var w)
    | _ => exact absurd h (by simp [chkE])
  | .lit dd => by
    intro X W s x g h
    cases x with
    | Constant k j p =>
      simp only [chkE] at h
      obtain ⟨v, h1, h2⟩ := lit_rel (c := c) h
      exact pes_of g rfl rfl (pe_imp h2 fun σ H Q w => w_lit h1 w)
    | _ => exact absurd h (by simp [chkE])
  | .glo dd => by
    intro X W s x g h
    cases x with
    | Name n p =>
      simp only [chkE, Bool.and_eq_true] at h
      cases e : J.con.lookup n with
      | none => rw [e] at h; exact absurd h.2 (by simp)
      | some dd' =>
        rw [e] at h
        have := deq_eq h.2
        subst this
        obtain ⟨u, v, h1, h2, h3⟩ := g.con n dd' e
        exact pes_of g rfl rfl (pe_imp (L2.pe_glob (g.gl h.1.1) h1 h2 (okn_of h.1.2).1) fun σ H Q w => w_glo h3 w)
    | _ => exact absurd h (by simp [chkE])
  | .bin o a b => by
    intro X W s x g h
    cases x with
    | BinOp l op r p =>
      simp only [chkE, Bool.and_eq_true] at h
      obtain ⟨⟨h1, h2⟩, h3⟩ := h
      have := op_of h1
      subst this
      exact pes_of g rfl rfl (pe_imp (L2.pe_op (op_r g.K o) (sE a _ _ _ _ g h2).1 (sE b _ _ _ _ g h3).1) fun σ H Q w => w_bin w)
    | _ => exact absurd h (by simp [chkE])
  | .neg a => by
    intro X W s x g h
    cases x with
    | UnaryOp op l p =>
      cases op with
      | USub =>
        simp only [chkE] at h
        exact pes_of g rfl rfl (pe_imp (L2.pe_un L2.un_neg (sE a _ _ _ _ g h).1) fun σ H Q w => w_neg w)
      | _ => exact absurd h (by simp [chkE])
    | _ => exact absurd h (by simp [chkE])
  | .cmp o a b => by
    intro X W s x g h
    cases x with
    | Compare l ops rs p =>
      match ops, rs, h with
      | [op], [r], h =>
        simp only [chkE, Bool.and_eq_true] at h
        obtain ⟨⟨⟨h1, h2⟩, h3⟩, h4⟩ := h
        have := cm_of h1
        subst this
        have e1 := (sE a _ _ _ _ g h3).1
        have e2 := (sE b _ _ _ _ g h4).1
        refine ⟨pe_imp (L2.pe_cmpR (cm_r g.K g.hu o) e1 e2 (noMark_of h2)) fun σ H Q w => w_cmp w, fun _ => pt_imp (L2.pt_cmpR (cm_r g.K g.hu o) e1 e2 (noMark_of h2)) fun σ H Q w => ?_, fun _ z => by cases z⟩
        exact w_cmp (w_evcB w cmp_bl)
      | [], _, h => exact absurd h (by simp [chkE])
      | _ :: _ :: _, _, h => exact absurd h (by simp [chkE])
      | [_], [], h => exact absurd h (by simp [chkE])
      | [_], _ :: _ :: _, h => exact absurd h (by simp [chkE])
    | _ => exact absurd h (by simp [chkE])
  | .chn o q a b t => by
    intro X W s x g h
    cases x with
    | Compare l ops rs p =>
      match ops, rs, h with
      | [op, op2], [r, r2], h =>
        simp only [chkE, Bool.and_eq_true] at h
        obtain ⟨⟨⟨⟨⟨h1, h2⟩, h3⟩, h4⟩, h5⟩, h6⟩ := h
        have := cm_of h1
        subst this
        have := cm_of h2
        subst this
        have e1 := (sE a _ _ _ _ g h4).1
        have e2 := (sE b _ _ _ _ g h5).1
        have e3 := (sE t _ _ _ _ g h6).1
        have hm : lastMarks [pyCm o, pyCm q] [r, r2] = false := noMark_of h3
        refine ⟨pe_imp (L2.pe_chain (cm_r g.K g.hu o) (cm_r g.K g.hu q) e1 e2 e3 hm) fun σ H Q w => w_chn w, fun _ => pt_imp (L2.pt_chain (cm_r g.K g.hu o) (cm_r g.K g.hu q) e1 e2 e3 hm) fun σ H Q w => ?_, fun _ z => by cases z⟩
        exact w_chn (w_evcB w chn_bl)
      | [], _, h => exact absurd h (by simp [chkE])
      | [_], _, h => exact absurd h (by simp [chkE])
      | _ :: _ :: _ :: _, _, h => exact absurd h (by simp [chkE])
      | [_, _], [], h => exact absurd h (by simp [chkE])
      | [_, _], [_], h => exact absurd h (by simp [chkE])
      | [_, _], _ :: _ :: _ :: _, h => exact absurd h (by simp [chkE])
    | _ => exact absurd h (by simp [chkE])
  | .and a b => by
    intro X W s x g h
    cases x with
    | BoolOp op vs p =>
      cases op with
      | Or => exact absurd h (by simp [chkE])
      | And =>
        match vs, h with
        | [l, r], h =>
          simp only [chkE, Bool.and_eq_true] at h
          obtain ⟨a1, a2, _⟩ := sE a _ _ _ _ g h.1
          obtain ⟨b1, b2, _⟩ := sE b _ _ _ _ g h.2
          have pw : tstOk (.and a b) = true → L2.PW X (.BoolOp .And [l, r] p) (denC c W (cP G d) (cI G d) (.of (.and a b))) := fun ht => by
            simp only [tstOk, Bool.and_eq_true] at ht
            exact L2.pw_imp (L2.pw_and (a2 ht.1) (L2.pw_and1 (b2 ht.2))) fun σ H Q w => w_evcAnd w
          exact ⟨pe_imp (L2.pe_and a1 (L2.pe_one b1)) fun σ H Q w => w_and w, fun ht => (pw ht).pt, fun ht _ => pw ht⟩
        | l :: r :: r2 :: rest, h =>
          simp only [chkE, Bool.and_eq_true] at h
          obtain ⟨a1, a2, _⟩ := sE a _ _ _ _ g h.1
          obtain ⟨b1, b2, b3⟩ := sE b _ _ _ _ g h.2.2
          have pw : tstOk (.and a b) = true → L2.PW X (.BoolOp .And (l :: r :: r2 :: rest) p) (denC c W (cP G d) (cI G d) (.of (.and a b))) := fun ht => by
            simp only [tstOk, Bool.and_eq_true] at ht
            exact L2.pw_imp (L2.pw_and (a2 ht.1) (b3 ht.2 rfl)) fun σ H Q w => w_evcAnd w
          exact ⟨pe_imp (L2.pe_and a1 b1) fun σ H Q w => w_and w, fun ht => (pw ht).pt, fun ht _ => pw ht⟩
        | [], h => exact absurd h (by simp [chkE])
        | [_], h => exact absurd h (by simp [chkE])
    | _ => exact absurd h (by simp [chkE])
  | .or a b => by
    intro X W s x g h
    cases x with
    | BoolOp op vs p =>
      cases op with
      | And => exact absurd h (by simp [chkE])
      | Or =>
        match vs, h with
        | [l, r], h =>
          simp only [chkE, Bool.and_eq_true] at h
          obtain ⟨a1, a2, _⟩ := sE a _ _ _ _ g h.1
          obtain ⟨b1, b2, _⟩ := sE b _ _ _ _ g h.2
          have pw : tstOk (.or a b) = true → L2.PW X (.BoolOp .Or [l, r] p) (denC c W (cP G d) (cI G d) (.of (.or a b))) := fun ht => by
            simp only [tstOk, Bool.and_eq_true] at ht
            exact L2.pw_imp (L2.pw_or (a2 ht.1) (L2.pw_or1 (b2 ht.2))) fun σ H Q w => w_evcOr w
          exact ⟨pe_imp (L2.pe_or a1 (L2.pe_one b1)) fun σ H Q w => w_or w, fun ht => (pw ht).pt, fun ht _ => pw ht⟩
        | l :: r :: r2 :: rest, h =>
          simp only [chkE, Bool.and_eq_true] at h
          obtain ⟨a1, a2, _⟩ := sE a _ _ _ _ g h.1
          obtain ⟨b1, b2, b3⟩ := sE b _ _ _ _ g h.2.2
          have pw : tstOk (.or a b) = true → L2.PW X (.BoolOp .Or (l :: r :: r2 :: rest) p) (denC c W (cP G d) (cI G d) (.of (.or a b))) := fun ht => by
            simp only [tstOk, Bool.and_eq_true] at ht
            exact L2.pw_imp (L2.pw_or (a2 ht.1) (b3 ht.2 rfl)) fun σ H Q w => w_evcOr w
          exact ⟨pe_imp (L2.pe_or a1 b1) fun σ H Q w => w_or w, fun ht => (pw ht).pt, fun ht _ => pw ht⟩
        | [], h => exact absurd h (by simp [chkE])
        | [_], h => exact absurd h (by simp [chkE])
    | _ => exact absurd h (by simp [chkE])
  | .not a => by
    intro X W s x g h
    cases x with
    | UnaryOp op l p =>
      cases op with
      | Not =>
        simp only [chkE] at h
        obtain ⟨a1, a2, _⟩ := sE a _ _ _ _ g h
        exact ⟨pe_imp (L2.pe_not a1) fun σ H Q w => w_not w, fun ht => pt_imp (L2.pt_not (a2 ht)) fun σ H Q w => w_evcNot w, fun _ z => by cases z⟩
      | _ => exact absurd h (by simp [chkE])
    | _ => exact absurd h (by simp [chkE])
  | .ife t a b => by
    intro X W s x g h
    cases x with
    | IfExp q l r p =>
      simp only [chkE, Bool.and_eq_true] at h
      obtain ⟨⟨⟨h1, h2⟩, h3⟩, h4⟩ := h
      exact ⟨pe_imp (L2.pe_ifExp ((sE t _ _ _ _ g h2).2.1 h1) (sE a _ _ _ _ g h3).1 (sE b _ _ _ _ g h4).1) fun σ H Q w => w_ife w, fun ht => absurd ht (by simp [tstOk]), fun ht => absurd ht (by simp [tstOk])⟩
    | _ => exact absurd h (by simp [chkE])
  | .tup es => by
    intro X W s x g h
    cases x with
    | Tuple xs k p =>
      simp only [chkE] at h
      exact pes_of g rfl rfl (pe_imp (L2.pe_tup (sEs es g h)) fun σ H Q w => w_tup w)
    | _ => exact absurd h (by simp [chkE])
  | .lst es => by
    intro X W s x g h
    cases x with
    | List xs p =>
      simp only [chkE] at h
      exact pes_of g rfl rfl (pe_imp (L2.pe_lst (sEs es g h)) fun σ H Q w => w_lst w)
    | _ => exact absurd h (by simp [chkE])
  | .idx a b => by
    intro X W s x g h
    cases x with
    | Subscript l r p =>
      simp only [chkE, Bool.and_eq_true] at h
      obtain ⟨⟨h1, h2⟩, h3⟩ := h
      exact pes_of g rfl rfl (pe_imp (L2.pe_ix (idx_r g.K) (sE a _ _ _ _ g h2).1 (sE b _ _ _ _ g h3).1 (plainIx_of h1)) fun σ H Q w => w_idx w)
    | _ => exact absurd h (by simp [chkE])
  | .sli a lo hi => by
    intro X W s x g h
    cases x with
    | Subscript l r p =>
      cases r with
      | Slice u w st q =>
        cases st with
        | none =>
          simp only [chkE, Bool.and_eq_true] at h
          obtain ⟨⟨h1, h2⟩, h3⟩ := h
          exact pes_of g rfl rfl (pe_imp (L2.pe_slice (sli_r g.K) (sE a _ _ _ _ g h1).1 (sO lo g h2) (sO hi g h3)) fun σ H Q w => w_sli w)
        | some _ => exact absurd h (by simp [chkE])
      | _ => exact absurd h (by simp [chkE])
    | _ => exact absurd h (by simp [chkE])
  | .call f es => by
    intro X W s x g h
    cases x with
    | Call fe as ks p =>
      match fe, as, ks, h with
      | .Name n q, e :: xs, [], h =>
        simp only [chkE, Bool.and_eq_true] at h
        obtain ⟨⟨⟨⟨h1, h2⟩, h3⟩, h4⟩, h5⟩ := h
        obtain ⟨ar, r1, r2⟩ := call_rule (p := q) (pos := p) g h1 h2 h4 h3 (sEs es g h5)
        exact pes_of g rfl rfl (pe_imp r2 fun σ H Q w => w_call w (fun ds S => cP_eq G d f ds S) r1)
      | .Name n q, [], _, h => exact absurd h (by simp [chkE])
      | .Name n q, _ :: _, _ :: _, h => exact absurd h (by simp [chkE])
    | _ => exact absurd h (by simp [chkE])
  | .calli f es => by
    intro X W s x g h
    cases x with
    | Call fe as ks p =>
      match fe, as, ks, h with
      | .Name n q, e :: xs, [], h =>
        simp only [chkE, Bool.and_eq_true] at h
        obtain ⟨⟨⟨⟨h1, h2⟩, h3⟩, h4⟩, h5⟩ := h
        obtain ⟨ar, r1, r2⟩ := call_rule (p := q) (pos := p) g h1 h2 h4 h3 (sEs es g h5)
        exact pes_of g rfl rfl (pe_imp r2 fun σ H Q w => w_calli (fun _ _ _ _ _ _ _ => trivial) w r1)
      | .Name n q, [], _, h => exact absurd h (by simp [chkE])
      | .Name n q, _ :: _, _ :: _, h => exact absurd h (by simp [chkE])
    | _ => exact absurd h (by simp [chkE])
  | .blt f es => by
    intro X W s x g h
    simp only [chkE] at h
    split at h
    · rename_i hl
      have hf : f = .lrng := by cases f <;> first | rfl | exact absurd hl (by simp [isLr])
      subst hf
      split at h
      · rename_i n q n2 q2 a p2 p
        simp only [Bool.and_eq_true, decide_eq_true_eq] at h
        obtain ⟨⟨⟨⟨⟨⟨⟨h1, h2⟩, h3⟩, h4⟩, h5⟩, h6⟩, h7⟩, h8⟩ := h
        subst h1
        subst h2
        have pe := sR1 es g h8
        obtain ⟨e, rfl, pe⟩ := pe
        refine pes_of g rfl rfl (pe_imp (L2.pe_listRg g.calm (g.gl h3) (g.bln _ h5) (L2.prg_1 (g.gl h4) (g.bln _ h6) pe (star_cons h7 [] X.env)) rfl) fun σ H Q w => ?_)
        refine den_mono (w_evr (w_blt w)) fun v H1 w3 => ?_
        obtain ⟨n, e1, e2, e3⟩ := w_evrN w3
        cases e1
        exact ⟨n, rfl, e2, e3⟩
      · cases h
    · rename_i hl
      have hf : f ≠ .lrng := fun z => hl (by subst z; rfl)
      split at h
      · simp only [Bool.and_eq_true, decide_eq_true_eq] at h
        obtain ⟨⟨⟨⟨h1, h2⟩, h3⟩, h4⟩, h5⟩ := h
        exact pes_of g rfl rfl (pe_imp (bln_rule g hf h1 h2 h3 h4 (sRs es g h5)) fun σ H Q w => w_blt w)
      · cases h
  | .isi a t => by
    intro X W s x g h
    simp only [chkE] at h
    split at h
    · rename_i n q e m q2 p
      simp only [Bool.and_eq_true, decide_eq_true_eq] at h
      obtain ⟨⟨⟨⟨⟨⟨⟨h1, h2⟩, h3⟩, h4⟩, h5⟩, h6⟩, h7⟩, h8⟩ := h
      subst h1
      subst h2
      have pe := (sE a _ _ _ _ g h8).1
      have pa : L2.PA X [e, .Name (Str.ofString (tyNm t)) q2] (L2.tCons (den c W (cP G d) (cI G d) a) (L2.tCons (L2.tC (.ty (tyNm t))) L2.tNil)) := L2.pa_cons pe (L2.pa_cons (ty_name g h4 h6) L2.pa_nil rfl) (star_cons h7 _ X.env)
      have hr : L2.CallR X (.builtin "isinstance") (L2.rIsi c.K) := by rw [← g.K]; exact L2.call_isi
      exact pes_of g rfl rfl (pe_imp (L2.pe_callB hr (g.gl h3) (g.bln _ h5) (by decide +kernel) pa (g.bb _ h5).1 (g.bb _ h5).2 (star_cons h7 _ X.env) rfl) fun σ H Q w => w_isi w)
    · cases h
  | .met m o es => by
    intro X W s x g h
    simp only [chkE] at h
    split at h
    · rename_i l nm ap xs cp
      simp only [Bool.and_eq_true, decide_eq_true_eq] at h
      obtain ⟨⟨⟨⟨⟨⟨h1, h2⟩, h3⟩, h4⟩, h5⟩, h6⟩, h7⟩ := h
      subst h1
      have pe := (sE o _ _ _ _ g h6).1
      have pa := sEs es g h7
      have hm := met_r (c := c) (X := X) g.K g.hu m
      cases xs with
      | nil =>
        have he : es = .nil := by
          cases es with
          | nil => rfl
          | cons _ _ => exact absurd h7 (by simp [chkEs])
        subst he
        refine pes_of g rfl rfl (pe_imp (L2.pe_bm0 PySem.F.plainAttrs_list (met_slot m) (met_ty m) hm pe (attr_base h2) h3) fun σ H Q w => ?_)
        rw [g.K]
        exact w_met0 w
      | cons e xs =>
        have h4' := h4
        simp only [noStars, Bool.and_eq_true] at h4'
        refine pes_of g rfl rfl (pe_imp (L2.pe_bm PySem.F.plainAttrs_list (met_slot m) (met_ty m) hm pe pa (attr_base h2) ?_ h3 (star_cons h4'.1 xs X.env) (star_all cp X.env h4'.2)) fun σ H Q w => ?_)
        · rw [star_all2 cp X.env h4]
          simp only [List.length_cons] at h5
          simp [keywordEach, backToKw]
          omega
        · rw [g.K]
          exact w_met w
    · cases h
  | .ext o e => by
    intro X W s x g h
    simp only [chkE] at h
    split at h
    · rename_i l nm ap r cp
      simp only [Bool.and_eq_true, decide_eq_true_eq] at h
      obtain ⟨⟨⟨⟨⟨h1, h2⟩, h3⟩, h4⟩, h5⟩, h6⟩ := h
      subst h1
      have pe := (sE o _ _ _ _ g h5).1
      have pa : L2.PA X [r] (L2.tCons (den c W (cP G d) (cI G d) e) L2.tNil) := L2.pa_cons (sE e _ _ _ _ g h6).1 L2.pa_nil (star_cons h4 [] X.env)
      have hm := met_r (c := c) (X := X) g.K g.hu .extend
      refine pes_of g rfl rfl (pe_imp (L2.pe_bm PySem.F.plainAttrs_list (met_slot .extend) (met_ty .extend) hm pe pa (attr_base h2) ?_ h3 (star_cons h4 [] X.env) rfl) fun σ H Q w => ?_)
      · rw [star_all2 cp X.env (by simp [noStars, h4])]
        simp [keywordEach, backToKw]
      · rw [g.K]
        exact w_ext w
    · cases h
  | .srt a rev => by
    intro X W s x g h
    exact absurd h (by simp [chkE])
  | .comp own it tg cond elt => by
    intro X W s x g h
    simp only [chkE] at h
    split at h
    · rename_i xe xt xi ifs scope p
      simp only [Bool.and_eq_true] at h
      obtain ⟨⟨⟨⟨⟨⟨h1, h2⟩, h3⟩, h4⟩, h5⟩, h6⟩, h7⟩ := h
      have ok : L2.BlkOk X.N X.env.scope scope (ownl J own) := by
        rw [g.N, g.sc]; exact L2.blkOk_by h1
      have hk : scope.kind = .function := ok.kind
      have gb := fun s1 H1 C cl fp => g.blk hk s1 H1 C cl fp
      refine pes_of g rfl rfl (pe_imp (L2.pe_lc g.calm g.nd (sI it g h5) ok (fun s1 H1 C cl fp => (gb s1 H1 C cl fp).tg h4) (fun s1 H1 C cl fp => sC cond (gb s1 H1 C cl fp) h6) (fun s1 H1 C cl fp => (sE elt _ _ _ _ (gb s1 H1 C cl fp) h7).1) (folded_of h2)) fun σ H Q w => ?_)
      have hown : (ownl J own).map (·.2) = own := by
        unfold ownl
        rw [List.map_map]
        exact List.map_id own
      rw [hown]
      exact w_comp h3 w
    · cases h
theorem sR1 : ∀ (es : Es) {X : L2.Cx} {W : WX} {s : Sc} {a : Expr}, Good X c J G d W s → chkRs J es s [a] = true → ∃ e, es = .cons e .nil ∧ L2.PE X a (den c W (cP G d) (cI G d) e)
  | .cons e .nil, X, W, s, a, g, h => by
    simp only [chkRs, Bool.and_eq_true] at h
    exact ⟨e, rfl, (sE e _ _ _ _ g h.1.2).1⟩
  | .nil, X, W, s, a, g, h => absurd h (by simp [chkRs])
  | .cons _ (.cons _ _), X, W, s, a, g, h => absurd h (by simp [chkRs])
theorem sC : ∀ (e : Eo) {X : L2.Cx} {W : WX} {s : Sc} {xs : List Expr}, Good X c J G d W s → chkC J e s xs = true → L2.PTs X xs (denC c W (cP G d) (cI G d) e)
  | .no, X, W, s, [], g, h => by
    refine ⟨fun pins sh σ H Q I w => ?_⟩
    obtain ⟨old, mo, mn, env, S, st, w⟩ := w
    exact L2.pts_nil.run pins sh σ H Q I (w mn H true Ext.refl st.n rfl)
  | .of e, X, W, s, [x], g, h => by
    simp only [chkC, Bool.and_eq_true] at h
    exact L2.pts_one ((sE e _ _ _ _ g h.2).2.1 h.1)
  | .no, X, W, s, _ :: _, g, h => absurd h (by simp [chkC])
  | .of e, X, W, s, [], g, h => absurd h (by simp [chkC])
  | .of e, X, W, s, _ :: _ :: _, g, h => absurd h (by simp [chkC])
theorem sI : ∀ (it : I) {X : L2.Cx} {W : WX} {s : Sc} {x t : Expr}, Good X c J G d W s → chkI J it s x t = true → L2.PI X t x (denI c W (cP G d) (cI G d) it)
  | .seq e, X, W, s, x, t, g, h => by
    simp only [chkI] at h
    refine L2.pi_imp (L2.pi_seq (sE e _ _ _ _ g h).1) fun σ H R w => ?_
    rw [g.K]
    exact w_iseq w
  | .rng1 a, X, W, s, x, t, g, h => by
    simp only [chkI] at h
    split at h
    · simp only [Bool.and_eq_true, decide_eq_true_eq] at h
      obtain ⟨⟨⟨⟨h1, h2⟩, h3⟩, h4⟩, h5⟩ := h
      subst h1
      exact L2.pi_imp (L2.pi_range1 (g.gl h2) (g.bln _ h3) (L2.pa_cons (sE a _ _ _ _ g h5).1 L2.pa_nil (star_cons h4 [] X.env)) (star_cons h4 [] X.env)) fun σ H R w => w_rng1 w
    · cases h
  | .rng2 a b, X, W, s, x, t, g, h => by
    simp only [chkI] at h
    split at h
    · rename_i n q l r p
      simp only [Bool.and_eq_true, decide_eq_true_eq] at h
      obtain ⟨⟨⟨⟨⟨⟨h1, h2⟩, h3⟩, h4⟩, h5⟩, h6⟩, h7⟩ := h
      subst h1
      refine L2.pi_imp (L2.pi_range2 (g.gl h2) (g.bln _ h3) (L2.pa_cons (sE a _ _ _ _ g h6).1 (L2.pa_cons (sE b _ _ _ _ g h7).1 L2.pa_nil (star_cons h5 [] X.env)) (star_cons h4 [r] X.env)) ?_ (star_cons h5 [] X.env)) fun σ H R w => w_rng2 w
      rw [star_cons h4 [r] X.env, star_cons h5 [] X.env]; rfl
    · cases h
  | .rng3 a b e, X, W, s, x, t, g, h => by
    simp only [chkI] at h
    split at h
    · rename_i n q l r u p
      simp only [Bool.and_eq_true, decide_eq_true_eq] at h
      obtain ⟨⟨⟨⟨⟨⟨⟨⟨h1, h2⟩, h3⟩, h4⟩, h5⟩, h6⟩, h7⟩, h8⟩, h9⟩ := h
      subst h1
      exact L2.pi_imp (L2.pi_range3 (g.gl h2) (g.bln _ h3) (L2.pa_cons (sE a _ _ _ _ g h7).1 (L2.pa_cons (sE b _ _ _ _ g h8).1 (L2.pa_cons (sE e _ _ _ _ g h9).1 L2.pa_nil (star_cons h6 [] X.env)) (star_cons h5 [u] X.env)) (star_cons h4 [r, u] X.env)) (star_cons h4 [r, u] X.env)
        (star_all p X.env (by simp [noStars, h5, h6]))) fun σ H R w => w_rng3 w
    · cases h
  | .enu e, X, W, s, x, t, g, h => by
    simp only [chkI] at h
    split at h
    · rename_i n q l p
      simp only [Bool.and_eq_true, decide_eq_true_eq] at h
      obtain ⟨⟨⟨⟨⟨h0, h1⟩, h2⟩, h3⟩, h4⟩, h5⟩ := h
      subst h1
      cases t with
      | Tuple elts kk tp =>
        refine L2.pi_imp (L2.pi_enumT (g.gl h2) (g.bln _ h3) (L2.pa_cons (sE e _ _ _ _ g h5).1 L2.pa_nil (star_cons h4 [] X.env)) (star_cons h4 [] X.env)) fun σ H R w => ?_
        rw [g.K]
        exact w_enu w
      | _ => exact absurd h0 (by simp [isTup])
    · cases h
  | .zip a b, X, W, s, x, t, g, h => by
    simp only [chkI] at h
    split at h
    · rename_i n q l r p
      simp only [Bool.and_eq_true, decide_eq_true_eq] at h
      obtain ⟨⟨⟨⟨⟨⟨⟨h0, h1⟩, h2⟩, h3⟩, h4⟩, h5⟩, h6⟩, h7⟩ := h
      subst h1
      cases t with
      | Tuple elts kk tp =>
        refine L2.pi_imp (RZ.pi_zipA (g.gl h2) (g.bln _ h3) (L2.pa_cons (sE a _ _ _ _ g h6).1 (L2.pa_cons (sE b _ _ _ _ g h7).1 L2.pa_nil (star_cons h5 [] X.env)) (star_cons h4 [r] X.env)) (star_cons h4 [r] X.env) (star_all p X.env (by simp [noStars, h5]))) fun σ H R w => ?_
        rw [g.K]
        exact w_zip w
      | _ => exact absurd h0 (by simp [isTup])
    · cases h
theorem sO : ∀ (e : Eo) {X : L2.Cx} {W : WX} {s : Sc} {x : Option Expr}, Good X c J G d W s → chkO J e s x = true → L2.PO X x (denO c W (cP G d) (cI G d) e)
  | .no, X, W, s, none, g, h => L2.po_imp L2.po_none fun σ H Q w => w_evoN w
  | .of e, X, W, s, some x, g, h => by
    simp only [chkO] at h
    exact L2.po_imp (L2.po_some (sE e _ _ _ _ g h).1) fun σ H Q w => w_evo w
  | .no, X, W, s, some x, g, h => absurd h (by simp [chkO])
  | .of e, X, W, s, none, g, h => absurd h (by simp [chkO])
theorem sEs : ∀ (es : Es) {X : L2.Cx} {W : WX} {s : Sc} {xs : List Expr}, Good X c J G d W s → chkEs J es s xs = true → L2.PA X xs (denS c W (cP G d) (cI G d) es)
  | .nil, X, W, s, [], g, h => pa_imp L2.pa_nil fun σ H Q w => w_evsN w
  | .cons e es, X, W, s, x :: xs, g, h => by
    simp only [chkEs, Bool.and_eq_true] at h
    exact pa_imp (L2.pa_cons (sE e _ _ _ _ g h.1.2).1 (sEs es g h.2) (star_cons h.1.1 xs X.env)) fun σ H Q w => w_evs w
  | .nil, X, W, s, _ :: _, g, h => absurd h (by simp [chkEs])
  | .cons _ _, X, W, s, [], g, h => absurd h (by simp [chkEs])
theorem sRs : ∀ (es : Es) {X : L2.Cx} {W : WX} {s : Sc} {xs : List Expr}, Good X c J G d W s → chkRs J es s xs = true → L2.PA X xs (denR c W (cP G d) (cI G d) es)
  | .nil, X, W, s, [], g, h => pa_imp L2.pa_nil fun σ H Q w => w_evrN w
  | .cons e es, X, W, s, x :: xs, g, h => by
    simp only [chkRs, Bool.and_eq_true] at h
    exact pa_imp (L2.pa_cons (sE e _ _ _ _ g h.1.2).1 (sRs es g h.2) (star_cons h.1.1 xs X.env)) fun σ H Q w => w_evr w
  | .nil, X, W, s, _ :: _, g, h => absurd h (by simp [chkRs])
  | .cons _ _, X, W, s, [], g, h => absurd h (by simp [chkRs])
end
end
end Z
/-! Z13: statements, defs. -/
namespace Z
open PySem PySem.Spec PyProof.Rows
open L2 (V Hp HO upd upd_same upd_ne SqL SqT Rd VK TE TT TA TS Ends WX XK)
section
variable (J : Info)
def swapB (s : Sc) (n : Str) (p' : Pos) (v : Expr) : Bool := match v with
  | .ListComp _ _ scope _ => (match s.sc.names.lookup n with
    | some .local => true
    | _ => false) && p'.line == v.pos.line && !(scope.names.any fun (m, k) => m == n && (k == .local || k == .cell))
  | _ => false
def notSD : Expr → Bool
  | .SetComp _ _ _ _ => false
  | .DictComp _ _ _ _ _ => false
  | _ => true
mutual
def chkT : T → Sc → Stmt → Bool
  | .set i e, s, x => match x with
    | .Assign [.Name n p'] v _ => chkN J.N s i (.Name n p') && notSD v && chkE J e s v
    | _ => false
  | .unp is e, s, x => match x with
    | .Assign [.Tuple ts _ _] v _ => chkNs J.N s is ts && notComp v && notTup v && chkE J e s v
    | _ => false
  | .put o i e, s, x => match x with
    | .Assign [.Subscript ox ix _] v _ => notComp v && notSlice ix && chkE J o s ox && chkE J i s ix && chkE J e s v
    | _ => false
  | .exp e, s, x => match x with
    | .Expr v _ => notComp v && chkE J e s v
    | _ => false
  | .ret e, s, x => match x with
    | .Return (some v) _ => chkE J e s v
    | _ => false
  | .retn, s, x => match x with
    | .Return none _ => true
    | _ => false
  | .ife c a b, s, x => match x with
    | .If t xs ys _ => tstOk c && chkE J c s t && chkB a s xs && chkB b s ys
    | _ => false
  | .fo it tg b, s, x => match x with
    | .For t i xs [] _ => notSet i && chkTg J.N s tg t && chkI J it s i t && chkB b s xs
    | _ => false
  | .wh c b, s, x => match x with
    | .While t xs [] _ => tstOk c && chkE J c s t && chkB b s xs
    | _ => false
  | .aug i o e, s, x => false
  | .rai c, s, x => match x with
    | .Raise (some (.Call (.Name n _) [.Constant (.str _) _ _] [] _)) none _ => glB s.sc n && okn n && (match J.cls c with
      | some m => decide (m = n)
      | none => false)
    | _ => false
  | .brk, s, x => match x with
    | .Break _ => true
    | _ => false
  | .cnt, s, x => match x with
    | .Continue _ => true
    | _ => false
  | .pas, s, x => match x with
    | .Pass _ => true
    | _ => false
def chkB : B → Sc → List Stmt → Bool
  | .nil, _, [] => true
  | .seq t b, s, x :: xs => chkT t s x && chkB b s xs
  | _, _, _ => false
end
end
/-- what the statements want besides -/
structure GoodS (X : L2.Cx) (c : Cg) (J : Info) (G : Tab) (d : Nat) (W : WX) (s : Sc) : Prop extends Good X c J G d W s where
  passes : PassesOwn (model X.prog X.w) X.A X.env X.xe
  fn : ∀ n, X.fn n = true
  raw : s.raw = none
  exc : ∀ y n, J.cls y = some n → ∃ C, X.mg n = some (.ref C) ∧ c.ca y = some C ∧ PySem.W.excIn X.K C PySem.HandSPX.veTail "ValueError.__new__" = true ∧ PySem.W.keepIn X.K (.ref C) = true ∧ L2.Raises X (.ref C)
section
variable {c : Cg} {J : Info} {G : Tab} {d : Nat}
theorem sole_of {t e : Expr} {l : Nat} {env : PySem.Env} (h : notComp e = true) : swapsWithSole [t] e l env = pure false := by
  rw [show swapsWithSole [t] e l env = swapsWith e (some t) l env by simp only [swapsWithSole]]
  exact swaps_of h
theorem sub_assign {ox ix : Expr} {p : Pos} {env : PySem.Env} (h : notSlice ix = true) : ∀ v, assign (.Subscript ox ix p) env v = (do
      let ov ← holding [v] (eval ox env)
      let iv ← holding [v, ov] (eval ix env)
      standAt p
      holding [v, ov, iv] (setItem ov iv v)
      release [v, ov, iv] []) := by
  intro v
  cases ix <;> first | rfl | exact absurd h (by simp [notSlice])
theorem pss_empty {X : L2.Cx} {W : WX} : L2.PSs X [] (denB c W (cP G d) (cI G d) G.fu .nil) := L2.pss_imp L2.pss_nil fun D σ H w => w_nil w
mutual
theorem sT : ∀ (t : T) (X : L2.Cx) (W : WX) (s : Sc) (x : Stmt), GoodS X c J G d W s → chkT J t s x = true → L2.PS X x (denSt c W (cP G d) (cI G d) G.fu t)
  | .set i e => by
    intro X W s x g h
    simp only [chkT] at h
    split at h
    · rename_i n p' v pos
      simp only [Bool.and_eq_true] at h
      obtain ⟨⟨h1, h2⟩, h3⟩ := h
      have h1' := h1
      simp only [chkN, Bool.and_eq_true, decide_eq_true_eq] at h1'
      have hi : X.N[i]? = some n := by rw [g.N]; exact h1'.1
      have hloc : L2.Loc X.env.scope n := by
        rw [g.sc]
        have h2 := h1'.2
        unfold celB at h2
        split at h2
        · rename_i e; exact .inl e
        · rename_i e; exact .inr e
        · cases h2
      by_cases hs : swapB s n p' v = true
      · cases v with
        | ListComp xe gens scope vp =>
          simp only [swapB, Bool.and_eq_true, Bool.not_eq_true'] at hs
          obtain ⟨⟨q1, q2⟩, q3⟩ := hs
          have ql : X.env.scope.names.lookup n = some .local := by
            rw [g.sc]
            split at q1
            · rename_i e; exact e
            · cases q1
          have hk : X.env.scope.kind = .function := by rw [g.sc]; exact g.kind
          cases e with
          | comp own it tg cond elt =>
            simp only [chkE] at h3
            split at h3
            · rename_i xe' xt xi ifs scope' p2 heq
              cases heq
              simp only [Bool.and_eq_true] at h3
              obtain ⟨⟨⟨⟨⟨⟨r1, r2⟩, r3⟩, r4⟩, r5⟩, r6⟩, r7⟩ := h3
              have ok : L2.BlkOk X.N X.env.scope scope (ownl J own) := by
                rw [g.N, g.sc]; exact L2.blkOk_by r1
              have gb := fun s1 H1 C cl fp => g.toGood.blk ok.kind s1 H1 C cl fp
              refine L2.ps_imp (L2.ps_setLc g.calm g.nd hi ql (L2.sw_true hk ql q2 q3) (sI it g.toGood r5) ok (fun s1 H1 C cl fp => (gb s1 H1 C cl fp).tg r4) (fun s1 H1 C cl fp => sC cond (gb s1 H1 C cl fp) r6) (fun s1 H1 C cl fp => (sE elt _ _ _ _ (gb s1 H1 C cl fp) r7).1) (folded_of r2)) fun D σ H w => ?_
              have hown : (ownl J own).map (·.2) = own := by
                unfold ownl
                rw [List.map_map]
                exact List.map_id own
              rw [hown]
              exact w_comp r3 (w_set w)
            · cases h3
          | _ => exact absurd h3 (by simp [chkE])
        | _ => exact absurd hs (by simp [swapB])
      · have pe := (sE e _ _ _ _ g.toGood h3).1
        refine L2.ps_imp (L2.ps_set g.nd hi hloc pe ?_ (.inl (g.fn n))) fun D σ H w => w_set w
        cases v with
        | ListComp xe gens scope vp =>
          have hs' : swapB s n p' (.ListComp xe gens scope vp) = false := by
            cases hh : swapB s n p' (.ListComp xe gens scope vp) with
            | false => rfl
            | true => exact absurd hh hs
          show (pure _ : Sem Bool) = pure false
          congr 1
          simp only [swapB] at hs'
          have hl : (X.env.kindOf n == some .local) = (match s.sc.names.lookup n with
            | some .local => true
            | _ => false) := by
            show (X.env.scope.names.lookup n == some .local) = _
            rw [g.sc]
            cases s.sc.names.lookup n with
            | none => rfl
            | some k => cases k <;> rfl
          rw [Bool.and_assoc, Bool.and_assoc, hl]
          rw [Bool.and_assoc] at hs'
          rw [hs']
          exact Bool.and_false _
        | SetComp _ _ _ _ => exact absurd h2 (by simp [notSD])
        | DictComp _ _ _ _ _ => exact absurd h2 (by simp [notSD])
        | _ => rfl
    · cases h
  | .unp is e => by
    intro X W s x g h
    simp only [chkT] at h
    split at h
    · rename_i ts k p' v pos
      simp only [Bool.and_eq_true] at h
      obtain ⟨⟨⟨h1, h2⟩, h3⟩, h4⟩ := h
      obtain ⟨n1, n2, n3⟩ := g.toGood.nms h1
      have pe := (sE e _ _ _ _ g.toGood h4).1
      have hw : swappedStores [.Tuple ts k p'] v X.env = pure none := by
        cases v <;> first | rfl | exact absurd h3 (by simp [notTup])
      refine L2.ps_imp (L2.ps_asg pe (L2.pg_tup g.calm n1 n2 n3) (sole_of h2) hw rfl) fun D σ H w => ?_
      rw [g.K]
      exact w_unp w
    · cases h
  | .put o i e => by
    intro X W s x g h
    simp only [chkT] at h
    split at h
    · rename_i ox ix p' v pos
      simp only [Bool.and_eq_true] at h
      obtain ⟨⟨⟨⟨h1, h2⟩, h3⟩, h4⟩, h5⟩ := h
      have pe := (sE e _ _ _ _ g.toGood h5).1
      have hw : swappedStores [.Subscript ox ix p'] v X.env = pure none := by
        cases v <;> rfl
      exact L2.ps_imp (L2.ps_asg pe (L2.pg_sub (sE o _ _ _ _ g.toGood h3).1 (sE i _ _ _ _ g.toGood h4).1 L2.set_list (sub_assign h2)) (sole_of h1) hw rfl) fun D σ H w => w_put w
    · cases h
  | .exp e => by
    intro X W s x g h
    simp only [chkT] at h
    split at h
    · simp only [Bool.and_eq_true] at h
      exact L2.ps_imp (L2.ps_expr (sE e _ _ _ _ g.toGood h.2).1 (swaps_of h.1)) fun D σ H w => w_exp w
    · cases h
  | .ret e => by
    intro X W s x g h
    simp only [chkT] at h
    split at h
    · exact L2.ps_imp (L2.ps_ret (sE e _ _ _ _ g.toGood h).1) fun D σ H w => w_ret w
    · cases h
  | .retn => by
    intro X W s x g h
    simp only [chkT] at h
    split at h
    · exact L2.ps_imp L2.ps_retN fun D σ H w => w_retn w
    · cases h
  | .ife e a b => by
    intro X W s x g h
    simp only [chkT] at h
    split at h
    · simp only [Bool.and_eq_true] at h
      obtain ⟨⟨⟨h1, h2⟩, h3⟩, h4⟩ := h
      exact L2.ps_imp (L2.ps_if ((sE e _ _ _ _ g.toGood h2).2.1 h1) (sB a _ _ _ _ g h3) (sB b _ _ _ _ g h4)) fun D σ H w => w_if w
    · cases h
  | .fo it tg b => by
    intro X W s x g h
    simp only [chkT] at h
    split at h
    · simp only [Bool.and_eq_true] at h
      obtain ⟨⟨⟨h1, h2⟩, h3⟩, h4⟩ := h
      exact L2.ps_imp (L2.ps_for g.passes g.calm (sI it g.toGood h3) (g.toGood.tg h2) (sB b _ _ _ _ g h4) (folded_of h1)) fun D σ H w => w_for w
    · cases h
  | .wh e b => by
    intro X W s x g h
    simp only [chkT] at h
    split at h
    · simp only [Bool.and_eq_true] at h
      obtain ⟨⟨h1, h2⟩, h3⟩ := h
      exact L2.ps_imp (L2.ps_while g.passes ((sE e _ _ _ _ g.toGood h2).2.1 h1) (sB b _ _ _ _ g h3)) fun D σ H w => w_while w
    · cases h
  | .aug i o e => by
    intro X W s x g h
    exact absurd h (by simp [chkT])
  | .rai y => by
    intro X W s x g h
    simp only [chkT] at h
    split at h
    · rename_i n p m j p2 p3 p4
      simp only [Bool.and_eq_true] at h
      obtain ⟨⟨h1, h2⟩, h3⟩ := h
      cases eq : J.cls y with
      | none => rw [eq] at h3; cases h3
      | some n' =>
        rw [eq] at h3
        simp only [decide_eq_true_eq] at h3
        subst h3
        obtain ⟨C, q1, q2, q3, q4, q5⟩ := g.exc y n' eq
        exact L2.ps_imp (L2.ps_raise g.calm g.takes (L2.pmk_own PySem.F.excBase_ValueError q3 q1 q4 q5 (g.toGood.gl h1) (okn_of h2).1)) fun D σ H w => w_rai q2 w
    · cases h
  | .brk => by
    intro X W s x g h
    simp only [chkT] at h
    split at h
    · exact L2.ps_imp L2.ps_break fun D σ H w => w_brk w
    · cases h
  | .cnt => by
    intro X W s x g h
    simp only [chkT] at h
    split at h
    · exact L2.ps_imp L2.ps_continue fun D σ H w => w_cnt w
    · cases h
  | .pas => by
    intro X W s x g h
    simp only [chkT] at h
    split at h
    · exact L2.ps_imp L2.ps_pass fun D σ H w => w_pas w
    · cases h
theorem sB : ∀ (b : B) (X : L2.Cx) (W : WX) (s : Sc) (xs : List Stmt), GoodS X c J G d W s → chkB J b s xs = true → L2.PSs X xs (denB c W (cP G d) (cI G d) G.fu b)
  | .nil, X, W, s, [], g, h => pss_empty
  | .seq t b, X, W, s, x :: xs, g, h => by
    simp only [chkB, Bool.and_eq_true] at h
    exact L2.pss_imp (L2.pss_cons (sT t _ _ _ _ g h.1) (sB b _ _ _ _ g h.2)) fun D σ H w => w_seq w
  | .nil, X, W, s, _ :: _, g, h => absurd h (by simp [chkB])
  | .seq _ _, X, W, s, [], g, h => absurd h (by simp [chkB])
end
end
end Z
/-! Z14: all defs of a text keep their promises; the text's facts off the written part. -/
namespace Z
open PySem PySem.Spec PyProof.Rows
open L2 (V Hp HO upd upd_same upd_ne SqL SqT Rd VK TE TT TA TS Ends WX XK)
/-- a def of the text -/
structure DefE where
  id : Nat
  name : Str
  ps : List Str
  N : List Str
  fn : Fn
  st : Stmt
def scopeB (N P : List Str) (sc : Scope) : Bool :=
  (match sc.kind with | .function => true | _ => false) && !sc.isCoroutine && !sc.isGenerator && decide N.Nodup && decide (N.take P.length = P) &&
    (P.all fun x => match sc.names.lookup x with | some .local => true | some .cell => true | _ => false) && (sc.names.all fun y => match y.2 with | .free => false | _ => true)
theorem scope_of {N P : List Str} {sc : Scope} (h : scopeB N P sc = true) : L2.FnScope N P sc := by
  simp only [scopeB, Bool.and_eq_true, Bool.not_eq_true', decide_eq_true_eq, List.all_eq_true] at h
  obtain ⟨⟨⟨⟨⟨⟨h1, h2⟩, h3⟩, h4⟩, h5⟩, h6⟩, h7⟩ := h
  refine ⟨?_, h2, h3, h4, h5, fun x hx => ?_, fun y hy => ?_⟩
  · cases e : sc.kind with
    | function => rfl
    | _ => rw [e] at h1; cases h1
  · have := h6 x hx
    split at this
    · rename_i e; exact .inl e
    · rename_i e; exact .inr e
    · cases this
  · intro z
    have := h7 y hy
    rw [z] at this; cases this
/-- what of a def is looked at in the text -/
def defB (fnm : Nat → Option (Str × Nat)) (cls : Nat → Option Str) (con : List (Str × D)) (bln : List Str) (e : DefE) : Bool :=
  scopeB e.N e.ps (L2.defScope e.st) && Nat.beq e.fn.ar e.ps.length && Nat.beq e.fn.n e.N.length && chkB ⟨e.N, fnm, cls, con, bln⟩ e.fn.body ⟨L2.defScope e.st, none⟩ (L2.defBody e.st)
/-- where it stands -/
def Stands (K : PySem.W.Frag) (mg : Str → Option Value) (e : DefE) : Prop := ∃ a fd, mg e.name = some (.ref a) ∧ L2.Fun K e.name e.name e.st a fd ∧ ∀ us : List Value, us.length = e.ps.length → bindArgs fd ⟨us, []⟩ = pure (e.ps.zip us)
section
variable {P : Program} {w : World} {K : PySem.W.Frag} {mg : Str → Option Value} {base : Heap} {c : Cg} {G : Tab} {defs : List DefE} {fnm : Nat → Option (Str × Nat)} {cls : Nat → Option Str} {con : List (Str × D)} {bln : List Str}
/-- all that is asked of the text -/
structure Text (K : PySem.W.Frag) (mg : Str → Option Value) (c : Cg) (G : Tab) (defs : List DefE) (fnm : Nat → Option (Str × Nat)) (cls : Nat → Option Str) (con : List (Str × D)) (bln : List Str) : Prop where
  hK : c.K = K
  st : ∀ e ∈ defs, Stands K mg e
  chk : ∀ e ∈ defs, defB fnm cls con bln e = true
  fns : ∀ f q, fnm f = some q → ∃ e ∈ defs, e.id = f ∧ e.name = q.1 ∧ e.ps.length = q.2
  tab : ∀ e ∈ defs, G.fns e.id = some e.fn
  con : ∀ n e, con.lookup n = some e → ∃ u v, mg n = some u ∧ L2.RelV v u ∧ ∀ H m, RD c H m e v
  bln : ∀ n, bln.contains n = true → mg n = none ∧ n ≠ "__name__" ∧ (n == ("__debug__" : Str)) = false
  exc : ∀ y n, cls y = some n → ∃ C, mg n = some (.ref C) ∧ c.ca y = some C ∧ PySem.W.excIn K C PySem.HandSPX.veTail "ValueError.__new__" = true ∧ PySem.W.keepIn K (.ref C) = true ∧ PySem.W.subIn K (.ref C) (.type "BaseException") = some true ∧ PySem.W.typeIn K (.ref C) = some (.type "type")
theorem start_rel {H : Hp} {m : List Addr} {N : List Str} {ds : List D} {vs : List V} {k : Nat} (hk : k = N.length) (r : RDs c H m ds vs) : EnvOk c H m (start k ds) (L2.start N vs) := by
  have hl := r.len
  refine ⟨?_, fun i x e => ?_⟩
  · simp only [start, L2.start, List.length_append, List.length_map, List.length_replicate, hl, hk]
  · unfold start at e
    unfold L2.start
    by_cases hi : i < ds.length
    · rw [List.getElem?_append_left (by simpa using hi)] at e
      rw [List.getElem?_map] at e
      obtain ⟨y, e1, e2⟩ := Option.map_eq_some_iff.mp e
      cases e2
      obtain ⟨v, e3, e4⟩ := r.get e1
      refine ⟨v, ?_, e4⟩
      rw [List.getElem?_append_left (by simpa using (by omega : i < vs.length)), List.getElem?_map, e3]; rfl
    · rw [List.getElem?_append_right (by simpa using hi)] at e
      rw [List.getElem?_replicate] at e
      split at e <;> cases e
/-- THE RULE -/
theorem all_ok (T : Text K mg c G defs fnm cls con bln) : ∀ (d : Nat) (e : DefE), e ∈ defs → ∃ a fd, mg e.name = some (.ref a) ∧ PySem.W.keepIn K (.ref a) = true ∧ (∀ us : List Value, us.length = e.ps.length → bindArgs fd ⟨us, []⟩ = pure (e.ps.zip us)) ∧ ∀ base : Heap, L2.FnOk P w K mg base (L2.CX P w) d a fd e.ps (spF c (cI G d) e.ps.length e.id)
  | 0, e, he => by
    obtain ⟨a, fd, h1, h2, h3⟩ := T.st e he
    refine ⟨a, fd, h1, h2.kp, h3, fun base => ⟨fun vs H Q E h => h.1, fun A outer s H args us vs Q E _ _ _ _ h => ?_⟩⟩
    obtain ⟨_, old, mo, mn, S, ds, _, _, h⟩ := h
    exact h.elim
  | d + 1, e, he => by
    obtain ⟨a, fd, h1, h2, h3⟩ := T.st e he
    have hc := T.chk e he
    simp only [defB, Bool.and_eq_true] at hc
    obtain ⟨⟨⟨c1, c2⟩, c3⟩, c4⟩ := hc
    have c2' := Nat.eq_of_beq_eq_true c2
    have c3' := Nat.eq_of_beq_eq_true c3
    have S := scope_of c1
    refine ⟨a, fd, h1, h2.kp, h3, fun base => h2.okX S (fun vs H Q E h => h.1) fun cdv A outer s H vs Q E hr hsp => ?_⟩
    obtain ⟨hl, old, mo, mn, So, ds, s0, rds, hw⟩ := hsp
    refine ⟨denB c (fun C dd _ H => E C dd H) (cP G d) (cI G d) G.fu e.fn.body, ?_, ?_⟩
    · refine sB e.fn.body _ _ _ _ (J := ⟨e.N, fnm, cls, con, bln⟩) ?_ c4
      refine { K := T.hK.symm, calm := rfl, N := rfl, nd := S.nd, sc := rfl, kind := S.kind, cel := fun n _ => .inl rfl, room := hr, takes := L2.takes_of rfl rfl rfl rfl, bln := fun n h => (T.bln n h).1, fns := fun f q hq => ?_, con := T.con, bb := fun n h => (T.bln n h).2, passes := L2.passes_of rfl, fn := fun _ => rfl, raw := rfl, exc := fun y n hy => ?_ }
      · obtain ⟨e', he', i1, i2, i3⟩ := T.fns f q hq
        refine ⟨?_, fun fn hfn => ?_⟩
        · obtain ⟨a', fd', j1, j2, j3, j4⟩ := all_ok T d e' he'
          rw [i2, ] at j1
          rw [i3, i1] at j4
          exact ⟨a', fd', e'.ps, j1, j2, .all j3, j4 base⟩
        · have t := T.tab e' he'
          rw [i1, hfn] at t
          cases t
          have hc' := T.chk e' he'
          simp only [defB, Bool.and_eq_true] at hc'
          rw [← i3]
          exact Nat.eq_of_beq_eq_true hc'.1.1.2
      · obtain ⟨C, q1, q2, q3, q4, q5, q6⟩ := T.exc y n hy
        exact ⟨C, q1, q2, q3, q4, L2.raises_own q5 q6⟩
    · refine ⟨old, mo, mn, start e.fn.n ds, So, ⟨s0.o, s0.n, start_rel c3' rds⟩, ?_⟩
      have e1 : cI G (d + 1) e.id ds old So = fin (exs (cP G d) (cI G d) old G.fu e.fn.body (start e.fn.n ds) So) := by
        simp only [cI, T.tab e he]
        have : Nat.beq ds.length e.fn.ar = true := by
          rw [rds.len, hl, c2']; exact Nat.beq_refl _
        rw [if_pos this]
      rw [e1] at hw
      cases eb : exs (cP G d) (cI G d) old G.fu e.fn.body (start e.fn.n ds) So with
      | nx env S' =>
        rw [eb] at hw
        exact fun mn' H' σ' x' s' => hw mn' H' .non x' s'.n rfl
      | rt dd S' =>
        rw [eb] at hw
        exact fun mn' H' v x' n' r' => hw mn' H' v x' n' r'
      | exc y env S' =>
        rw [eb] at hw
        exact fun mn' H' σ' C x' s' hC => hw mn' H' C x' s'.n hC
      | bk env S' => rw [eb] at hw; exact hw.elim
      | ct env S' => rw [eb] at hw; exact hw.elim
      | bad => rw [eb] at hw; exact hw.elim
end
end Z
/-! Z15: a text's facts off the written part; the end. -/
namespace Z
open PySem PySem.Spec PyProof.Rows
open L2 (V Hp HO upd upd_same upd_ne SqL SqT Rd VK TE TT TA TS Ends WX XK)
theorem lk_zip : ∀ {ps : List Str} {us : List Value}, ps.Nodup → us.length = ps.length → ∀ (n : Str), n ∈ ps → ((ps.zip us).lookup n).isSome = true := by
  intro ps
  induction ps with
  | nil => intro us _ _ n h; cases h
  | cons p ps ih =>
    intro us nd hl n h
    cases us with
    | nil => cases hl
    | cons u us =>
      rw [List.zip_cons_cons, List.lookup_cons]
      cases e : n == p with
      | true => rfl
      | false =>
        rcases List.mem_cons.mp h with h | h
        · subst h; rw [beq_self_eq_true] at e; cases e
        · exact ih (List.nodup_cons.mp nd).2 (by simpa using hl) n h
theorem fm_zip : ∀ {ps : List Str} {us : List Value}, ps.Nodup → us.length = ps.length → ∀ {L : List (Str × Value)}, (∀ n ∈ ps, L.lookup n = (ps.zip us).lookup n) → (ps.filterMap fun n => (L.lookup n).map fun v => (n, v)) = ps.zip us := by
  intro ps
  induction ps with
  | nil => intro us _ hl L _; rfl
  | cons p ps ih =>
    intro us nd hl L hL
    cases us with
    | nil => cases hl
    | cons u us =>
      have h1 := hL p (.head _)
      rw [List.zip_cons_cons, List.lookup_cons, beq_self_eq_true] at h1
      rw [List.filterMap_cons, h1]
      simp only [Option.map_some, List.zip_cons_cons]
      rw [ih (List.nodup_cons.mp nd).2 (by simpa using hl) (L := L)]
      intro n hn
      rw [hL n (.tail _ hn), List.zip_cons_cons, List.lookup_cons]
      have : (n == p) = false := by
        apply beq_eq_false_iff_ne.mpr
        intro e; subst e
        exact (List.nodup_cons.mp nd).1 hn
      rw [this]
theorem mem_lk {x : Str} {v : Value} : ∀ {L : List (Str × Value)}, L.lookup x = some v → (x, v) ∈ L := by
  intro L
  induction L with
  | nil => intro h; cases h
  | cons p L ih =>
    intro h
    obtain ⟨y, w⟩ := p
    rw [List.lookup_cons] at h
    cases e : x == y with
    | true =>
      rw [e] at h
      cases h
      rw [beq_iff_eq] at e
      subst e
      exact .head _
    | false =>
      rw [e] at h
      exact .tail _ (ih h)
def argB (a : Arguments) (ps : List Str) : Bool := a.posonlyargs.isEmpty && decide (a.args.map (·.arg) = ps) && a.vararg.isNone && a.kwonlyargs.isEmpty && a.kwarg.isNone && decide ps.Nodup
theorem bind_of {a : Arguments} {ps : List Str} (h : argB a ps = true) {fd : FuncData} (e1 : fd.params = a) (e2 : fd.defaults = .none) {us : List Value} (hl : us.length = ps.length) : bindArgs fd ⟨us, []⟩ = pure (ps.zip us) := by
  simp only [argB, Bool.and_eq_true, decide_eq_true_eq, List.isEmpty_iff, Option.isNone_iff_eq_none] at h
  obtain ⟨⟨⟨⟨⟨h1, h2⟩, h3⟩, h4⟩, h5⟩, nd⟩ := h
  have hm : (ps.take ps.length).filter (fun n => ((ps.zip us).lookup n).isNone) = [] := by
    rw [List.filter_eq_nil_iff]
    intro n hn
    have := lk_zip nd hl n (List.mem_of_mem_take hn)
    cases e : (ps.zip us).lookup n with
    | none => rw [e] at this; cases this
    | some v => intro z; cases z
  have hf := fm_zip nd hl (L := ps.zip us) (fun _ _ => rfl)
  have hq : seqItems? Value.none = pure none := rfl
  have hg : ¬ (us.length > ps.length) := by omega
  unfold bindArgs
  rw [e1, e2, hq]
  simp only [h1, h2, h3, h4, h5, List.map_nil, List.nil_append, List.append_nil, pure_bind, Option.getD_none, List.drop_nil, List.length_nil, Nat.sub_zero, hm, hf, List.isEmpty_nil, Bool.not_true]
  simp [hl, hm, hf]
  intro x hx hn
  exfalso
  have := lk_zip nd hl x hx
  cases e : (ps.zip us).lookup x with
  | none => rw [e] at this; cases this
  | some v => exact hn v (mem_lk e)

/-- a constant of the text, off the written part -/
def prim : D → Value → Option V
  | .non, .none => some .non
  | .bl b, .bool k => if b = k then some (.bl b) else none
  | .int i, .int k _ => if i = k then some (.int i) else none
  | .str x, .str k _ => if x = k then some (.str x) else none
  | _, _ => none
mutual
def conV (K : PySem.W.Frag) : D → Value → Option V
  | .tup ds, u => match u with
    | .ref a => match K.lookup a with
      | some o => match o.data with
        | .seq its _ => match conVs K ds its.toList with
          | some _ => if o.cls = .type "tuple" ∧ its.size ≤ sizeLine then some (.ref a) else none
          | none => none
        | _ => none
      | none => none
    | _ => none
  | .non, u => prim .non u
  | .bl b, u => prim (.bl b) u
  | .int i, u => prim (.int i) u
  | .str x, u => prim (.str x) u
  | _, _ => none
def conVs (K : PySem.W.Frag) : List D → List Value → Option (List V)
  | [], [] => some []
  | d :: ds, u :: us => match conV K d u with
    | none => none
    | some v => match conVs K ds us with
      | none => none
      | some vs => some (v :: vs)
  | _, _ => none
end
theorem prim_ok {c : Cg} {H : Hp} {m : List Addr} {d : D} {u : Value} {v : V} (h : prim d u = some v) : L2.RelV v u ∧ RD c H m d v := by
  unfold prim at h
  split at h
  · cases h; exact ⟨rfl, rfl⟩
  · split at h
    · rename_i e; cases h; subst e; exact ⟨rfl, rfl⟩
    · cases h
  · split at h
    · rename_i e; cases h; subst e; exact ⟨⟨_, rfl⟩, rfl⟩
    · cases h
  · split at h
    · rename_i e; cases h; subst e; exact ⟨⟨_, rfl⟩, rfl⟩
    · cases h
  · cases h
mutual
theorem conV_ok {c : Cg} {H : Hp} {m : List Addr} : ∀ (d : D) (u : Value) (v : V), conV c.K d u = some v → L2.RelV v u ∧ RD c H m d v
  | .tup ds, u, v, h => by
    simp only [conV] at h
    split at h
    · split at h
      · rename_i o hk
        split at h
        · rename_i its ep hd
          split at h
          · rename_i vs hs
            split at h
            · rename_i hc
              cases h
              obtain ⟨h1, h2⟩ := conVs_ok (H := H) (m := m) _ _ _ hs
              exact ⟨rfl, _, _, rfl, .inr ⟨_, _, _, hk, hc.1, hd, hc.2, h1⟩, h2⟩
            · cases h
          · cases h
        · cases h
      · cases h
    · cases h
  | .non, u, v, h => prim_ok (by simpa [conV] using h)
  | .bl _, u, v, h => prim_ok (by simpa [conV] using h)
  | .int _, u, v, h => prim_ok (by simpa [conV] using h)
  | .str _, u, v, h => prim_ok (by simpa [conV] using h)
  | .lst _, u, v, h => by simp [conV] at h
  | .tmp _, u, v, h => by simp [conV] at h
  | .fn _, u, v, h => by simp [conV] at h
  | .exc _, u, v, h => by simp [conV] at h
theorem conVs_ok {c : Cg} {H : Hp} {m : List Addr} : ∀ (ds : List D) (us : List Value) (vs : List V), conVs c.K ds us = some vs → L2.Vals vs us ∧ RDs c H m ds vs
  | [], us, vs, h => by
    cases us with
    | nil => simp only [conVs] at h; cases h; exact ⟨.nil, rfl⟩
    | cons u us => simp [conVs] at h
  | d :: ds, us, vs, h => by
    cases us with
    | nil => simp [conVs] at h
    | cons u us =>
      simp only [conVs] at h
      split at h
      · cases h
      · rename_i v1 e1
        split at h
        · cases h
        · rename_i vs1 e2
          cases h
          obtain ⟨a1, a2⟩ := conV_ok (H := H) (m := m) d u v1 e1
          obtain ⟨b1, b2⟩ := conVs_ok (H := H) (m := m) ds us vs1 e2
          exact ⟨.cons a1 b1, _, _, rfl, a2, b2⟩
end
/-! ### the text as data, and its looks off the written part -/
structure Txt where
  defs : List DefE
  cls : List (Nat × Str)
  con : List (Str × D)
  bln : List Str
def Txt.get (t : Txt) (f : Nat) : Option DefE := t.defs.find? fun e => Nat.beq e.id f
def Txt.fnm (t : Txt) (f : Nat) : Option (Str × Nat) := (t.get f).map fun e => (e.name, e.ps.length)
def Txt.tab (t : Txt) (fu : Nat) : Tab := ⟨fun f => (t.get f).map (·.fn), fu⟩
def Txt.clsN (t : Txt) (y : Nat) : Option Str := (t.cls.find? fun q => Nat.beq q.1 y).map (·.2)
/-- closed: the text is what its own language says -/
def Txt.okB (t : Txt) : Bool := t.defs.all (fun e => defB t.fnm t.clsN t.con t.bln e && argB (L2.defArgs e.st) e.ps) && decide (t.defs.map (·.id)).Nodup && t.bln.all fun n => !decide (n = "__name__") && !(n == ("__debug__" : Str))
def at1 (K : PySem.W.Frag) (n : Str) : Option Value := match PySem.W.nsIn K mainGlobals n with
  | some (some u) => some u
  | _ => none
abbrev Probe := Str × Str × Arguments × FuncBody × Scope × Addr × List (Str × Addr) × Value × Addr × Bool × Bool
def probe (K : PySem.W.Frag) (n : Str) : Option Probe := match at1 K n with
  | some (.ref a) => match K.lookup a with
    | some ⟨_, _, .func fd, _⟩ => some (fd.name, fd.qualname, fd.params, fd.body, fd.scope, fd.globals, fd.closure, fd.defaults, fd.builtins, PySem.W.codeIn K fd.code n, PySem.W.keepIn K (.ref a))
    | _ => none
  | _ => none
def wantP (e : DefE) : Option Probe := some (e.name, e.name, L2.defArgs e.st, .stmts (L2.defBody e.st), L2.defScope e.st, mainGlobals, [], .none, builtinsNs, true, true)
def absentB (K : PySem.W.Frag) (n : Str) : Bool := match PySem.W.nsIn K mainGlobals n with
  | some none => true
  | _ => false
def conB (K : PySem.W.Frag) (q : Str × D) : Bool := match at1 K q.1 with
  | some u => (conV K q.2 u).isSome
  | none => false
def clsB (K : PySem.W.Frag) (n : Str) : Bool := match at1 K n with
  | some (.ref C) => PySem.W.excIn K C PySem.HandSPX.veTail "ValueError.__new__" && PySem.W.keepIn K (.ref C) && (match PySem.W.subIn K (.ref C) (.type "BaseException") with | some b => b | none => false) && (match PySem.W.typeIn K (.ref C) with | some (.type t) => t == "type" | _ => false)
  | _ => false
structure Seen (K : PySem.W.Frag) (t : Txt) : Prop where
  fns : (t.defs.map fun e => probe K e.name) = t.defs.map wantP
  abs : (t.bln.all fun n => absentB K n) = true
  con : (t.con.all fun q => conB K q) = true
  cls : (t.cls.all fun q => clsB K q.2) = true
def cg (K : PySem.W.Frag) (t : Txt) : Cg := { K := K, fa := fun _ => none, ca := fun y => match t.clsN y with
  | some n => match at1 K n with
    | some (.ref C) => some C
    | _ => none
  | none => none }
theorem at1_of {K : PySem.W.Frag} {h : Heap} {mg : Str → Option Value} {n : Str} {v : Value} (X : K.In h) (G : h.Ns mainGlobals mg) (e : at1 K n = some v) : mg n = some v := by
  unfold at1 at e
  split at e
  · rename_i e2; cases e; exact PySem.W.mg_of X G e2
  · cases e
theorem map_at {α β : Type} {f g : α → β} : ∀ {l : List α}, l.map f = l.map g → ∀ a ∈ l, f a = g a
  | [], _, a, h => by cases h
  | x :: l, e, a, h => by
    rw [List.map_cons, List.map_cons] at e
    injection e with e1 e2
    rcases List.mem_cons.mp h with h | h
    · subst h; exact e1
    · exact map_at e2 a h
theorem stands_of {K : PySem.W.Frag} {h : Heap} {mg : Str → Option Value} (X : K.In h) (G : h.Ns mainGlobals mg) {e : DefE} (p : probe K e.name = wantP e) (ha : argB (L2.defArgs e.st) e.ps = true) : Stands K mg e := by
  unfold probe at p
  split at p
  · rename_i a e1
    split at p
    · rename_i oc od fd osl e2
      unfold wantP at p
      injection p with p
      obtain ⟨nm, ql, pr, bd, sc, gl, cl, df, kd, dc, pm, an, cd, ct, bu⟩ := fd
      simp only [Prod.mk.injEq] at p
      obtain ⟨p1, p2, p3, p4, p5, p6, p7, p8, p9, p10, p11⟩ := p
      subst p1 p3 p4 p5 p6 p7 p8 p9
      have hf : L2.Fun K e.name e.name e.st a _ := ⟨⟨_, _, _, _, _, _, _, _, _, rfl, by rw [e2, p2], p10⟩, p11⟩
      exact ⟨a, _, at1_of X G e1, hf, fun us hl => bind_of ha rfl rfl hl⟩
    · cases p
  · cases p
theorem find_nd {α : Type} {f : α → Nat} : ∀ {l : List α}, (l.map f).Nodup → ∀ a ∈ l, l.find? (fun e => Nat.beq (f e) (f a)) = some a
  | [], _, a, h => by cases h
  | x :: l, nd, a, h => by
    rw [List.find?_cons]
    rw [List.map_cons, List.nodup_cons] at nd
    rcases List.mem_cons.mp h with h | h
    · subst h
      rw [Nat.beq_refl]
    · have : Nat.beq (f x) (f a) = false := by
        cases e : Nat.beq (f x) (f a) with
        | false => rfl
        | true => exact absurd (List.mem_map.mpr ⟨a, h, (Nat.eq_of_beq_eq_true e).symm⟩) nd.1
      rw [this]
      exact find_nd nd.2 a h
theorem text_of {K : PySem.W.Frag} {h : Heap} {mg : Str → Option Value} {t : Txt} (fu : Nat) (X : K.In h) (G : h.Ns mainGlobals mg) (o : t.okB = true) (S : Seen K t) : Text K mg (cg K t) (t.tab fu) t.defs t.fnm t.clsN t.con t.bln := by
  simp only [Txt.okB, Bool.and_eq_true, List.all_eq_true, decide_eq_true_eq, Bool.not_eq_true', decide_eq_false_iff_not] at o
  obtain ⟨⟨o1, o2⟩, o3⟩ := o
  refine { hK := rfl, st := fun e he => stands_of X G (map_at S.fns e he) (o1 e he).2, chk := fun e he => (o1 e he).1, fns := fun f q hq => ?_, tab := fun e he => ?_, con := fun n d hd => ?_, bln := fun n hn => ?_, exc := fun y n hy => ?_ }
  · obtain ⟨e, h1, h2⟩ := Option.map_eq_some_iff.mp hq
    subst h2
    exact ⟨e, List.mem_of_find?_eq_some h1, Nat.eq_of_beq_eq_true (by have := List.find?_some h1; exact this), rfl, rfl⟩
  · show (t.get e.id).map (·.fn) = _
    unfold Txt.get
    rw [find_nd o2 e he]; rfl
  · have hm : (n, d) ∈ t.con := by
      clear o1 o3
      generalize t.con = L at hd
      induction L with
      | nil => cases hd
      | cons p L ih =>
        obtain ⟨y, w⟩ := p
        rw [List.lookup_cons] at hd
        cases e : n == y with
        | true =>
          rw [e] at hd
          cases hd
          rw [beq_iff_eq] at e
          subst e
          exact .head _
        | false =>
          rw [e] at hd
          exact .tail _ (ih hd)
    have hb := List.all_eq_true.mp S.con _ hm
    unfold conB at hb
    split at hb
    · rename_i u e1
      obtain ⟨v, hv⟩ := Option.isSome_iff_exists.mp hb
      refine ⟨u, v, at1_of X G e1, (conV_ok (c := cg K t) (H := fun _ => none) (m := []) d u v hv).1, fun H m => (conV_ok (c := cg K t) d u v hv).2⟩
    · cases hb
  · have hm : n ∈ t.bln := List.contains_iff_mem.mp hn
    have ha := List.all_eq_true.mp S.abs n hm
    refine ⟨?_, o3 n hm⟩
    unfold absentB at ha
    split at ha
    · rename_i e; exact PySem.W.mg_none_of X G e
    · cases ha
  · obtain ⟨q, h1, h2⟩ := Option.map_eq_some_iff.mp hy
    have hb := List.all_eq_true.mp S.cls q (List.mem_of_find?_eq_some h1)
    rw [h2] at hb
    unfold clsB at hb
    split at hb
    · rename_i C e1
      simp only [Bool.and_eq_true] at hb
      obtain ⟨⟨⟨b1, b2⟩, b3⟩, b4⟩ := hb
      refine ⟨C, at1_of X G e1, ?_, b1, b2, ?_, ?_⟩
      · simp only [cg, hy, e1]
      · split at b3
        · rename_i b e; rw [e, b3]
        · cases b3
      · split at b4
        · rename_i b e
          rw [e, beq_iff_eq.mp b4]
        · cases b4
    · cases hb
theorem fin_of {P : Program} {w : World} {K : PySem.W.Frag} {h : Heap} {mg : Str → Option Value} {fa : Addr} {t : Txt} {e : DefE} {x : Str} (fu d : Nat) (X : K.In h) (G : h.Ns mainGlobals mg) (hmg : mg e.name = some (.ref fa)) (o : t.okB = true) (S : Seen K t) (he : e ∈ t.defs) (hx : e.ps = [x]) :
    ∃ fd : FuncData, (∀ (s : Shared) (u : Value), BindsTo s fd ⟨[u], []⟩ [(x, u)]) ∧ ∀ base : Heap, K.In base → base.Ns mainGlobals mg → L2.FnOk P w K mg base (L2.CX P w) d fa fd [x] (spF (cg K t) (cI (t.tab fu) d) 1 e.id) := by
  obtain ⟨a, fd, h1, h2, h3, h4⟩ := all_ok (P := P) (w := w) (text_of fu X G o S) d e he
  rw [hmg] at h1
  cases h1
  rw [hx] at h3 h4
  exact ⟨fd, fun s u => .of_eq (h3 [u] rfl), fun base _ _ => h4 base⟩
/-! ### the end -/
theorem rd_ints {c : Cg} {H : Hp} {m : List Addr} : ∀ ns : List Int, RDs c H m (ns.map D.int) (ns.map V.int)
  | [] => rfl
  | n :: ns => ⟨_, _, rfl, rfl, rd_ints ns⟩
/-- the given list, as a store -/
def given (ns : List Int) : Sto := [.ro (ns.map D.int)]
theorem sp_of {K : PySem.W.Frag} {t : Txt} {fu d f : Nat} {H : Hp} {a : Addr} {ns : List Int} (hO : L2.Only H) (hS : SqL K H a (ns.map V.int)) {S' : Sto} (hr : cI (t.tab fu) d f [.lst 0] (given ns) [] = .ok (.bl true) S') :
    spF (cg K t) (cI (t.tab fu) d) 1 f [.ref a] H (fun v _ => v = .bl true) fun _ _ _ => False := by
  refine ⟨rfl, given ns, [a], [], [], [.lst 0], ⟨⟨rfl, fun i b hb => ?_⟩, ⟨.nil, rfl, fun i b hb => by cases hb⟩⟩, ⟨_, _, rfl, ⟨a, rfl, rfl⟩, rfl⟩, ?_⟩
  · cases i with
    | succ i => simp at hb
    | zero =>
      simp at hb
      subst hb
      refine .inr ⟨_, _, rfl, ?_, rd_ints ns⟩
      rcases hS with (h | ⟨o, h⟩) | h
      · rcases hO a with z | ⟨o, xs, z⟩
        · rw [z] at h; cases h
        · rw [z] at h; cases h
      · exact .inl ⟨o, h⟩
      · exact .inr h
  · rw [hr]
    exact fun mn' H' v x n' r => r
/-- THE WALK of a law -/
theorem walk {l : PySem.W.OpenLaw} {q : Program} {loose : List Str} {XP : (Str → Option Value) → Heap → Prop} {YP : World → Heap → Prop} {d : DefRec} {K : Params → PySem.W.Frag} {t : Txt} {e : DefE} (fu k : Nat)
    (hn : l.most = some 63) (hdf : d.params.defaults = []) (hr : L2.Room k callerA) (hY : ∀ (w : World) (h : Heap), YP w h → (K w.params).In h) (o : t.okB = true) (S : ∀ w : World, Seen (K w.params) t) (he : e ∈ t.defs) (hx : e.ps = [("_law_script" : Str)]) (hd : e.name = d.name)
    (hlaw : ∀ ns : List Int, ns.length ≤ 63 → ∃ S', cI (t.tab fu) k e.id [.lst 0] (given ns) [] = .ok (.bl true) S') :
    PySem.W.WalkO q loose XP YP l.row.toRowW d [] (fun f vs => PySem.call f vs) :=
  L2.walk_of (n := 63) (k := k) (x := "_law_script") (CX := fun w => L2.CX l.prog w) (sp := fun w => spF (cg (K w.params) t) (cI (t.tab fu) k) 1 e.id) hn (by decide) hdf hr hY
    (fun w mg fa h X G hmg => fin_of fu k X G (by rw [hd]; exact hmg) o (S w) he hx)
    (fun w H a ns hl hO hS => by obtain ⟨S', e⟩ := hlaw ns hl; exact sp_of hO hS e)
    (fun w H s e s' h => by obtain ⟨_, _, _, _, _, _, _, _, _, _, _, _, z⟩ := h; exact z)
end Z
/-! Z16: evaluation does not look at where things stand in the store. -/
namespace Z
open PySem
mutual
def D.rn (ρ : Nat → Nat) : D → D
  | .lst a => .lst (ρ a)
  | .tup xs => .tup (D.rns ρ xs)
  | .tmp xs => .tmp (D.rns ρ xs)
  | .non => .non | .bl b => .bl b | .int i => .int i | .str x => .str x | .fn k => .fn k | .exc c => .exc c
def D.rns (ρ : Nat → Nat) : List D → List D
  | [] => []
  | d :: ds => D.rn ρ d :: D.rns ρ ds
end
variable {ρ : Nat → Nat}
theorem rns_map : ∀ xs : List D, D.rns ρ xs = xs.map (D.rn ρ)
  | [] => rfl
  | d :: ds => by rw [D.rns, rns_map ds, List.map_cons]
mutual
theorem rn_pure : ∀ d : D, d.pure = true → D.rn ρ d = d
  | .non, _ => rfl
  | .bl _, _ => rfl
  | .int _, _ => rfl
  | .str _, _ => rfl
  | .fn _, _ => rfl
  | .exc _, _ => rfl
  | .tup xs, h => by rw [D.rn, rns_pure xs (by simpa [D.pure] using h)]
  | .lst _, h => by simp [D.pure] at h
  | .tmp _, h => by simp [D.pure] at h
theorem rns_pure : ∀ ds : List D, D.pureAll ds = true → D.rns ρ ds = ds
  | [], _ => rfl
  | d :: ds, h => by
    simp only [D.pureAll, Bool.and_eq_true] at h
    rw [D.rns, rn_pure d h.1, rns_pure ds h.2]
end
mutual
theorem rn_isPure : ∀ d : D, (D.rn ρ d).pure = d.pure
  | .non => rfl
  | .bl _ => rfl
  | .int _ => rfl
  | .str _ => rfl
  | .fn _ => rfl
  | .exc _ => rfl
  | .tup xs => by simp only [D.rn, D.pure]; exact rns_isPure xs
  | .lst _ => rfl
  | .tmp _ => rfl
theorem rns_isPure : ∀ ds : List D, D.pureAll (D.rns ρ ds) = D.pureAll ds
  | [] => rfl
  | d :: ds => by rw [D.rns, D.pureAll, D.pureAll, rn_isPure d, rns_isPure ds]
end
def Cell.rn (ρ : Nat → Nat) : Cell → Cell
  | .lst xs => .lst (xs.map (D.rn ρ))
  | .ro xs => .ro (xs.map (D.rn ρ))
def rS (ρ : Nat → Nat) (S : Sto) : Sto := S.map (Cell.rn ρ)
def rE (ρ : Nat → Nat) (env : Env) : Env := env.map (Option.map (D.rn ρ))
def R.rn {α β : Type} (ρ : Nat → Nat) (f : α → β) : R α → R β
  | .ok a S => .ok (f a) (rS ρ S)
  | .exc c S => .exc c (rS ρ S)
  | .bad => .bad
structure Rn (ρ : Nat → Nat) (o1 o2 : Sto) : Prop where
  low : ∀ a, a < o1.length → ρ a < o2.length ∧ o2[ρ a]? = (o1[a]?).map (Cell.rn ρ)
  hi : ∀ i, ρ (o1.length + i) = o2.length + i
section
variable {o1 o2 : Sto}
@[simp] theorem rS_len (S : Sto) : (rS ρ S).length = S.length := List.length_map ..
theorem rS_app (S T : Sto) : rS ρ (S ++ T) = rS ρ S ++ rS ρ T := List.map_append ..
theorem Rn.lt (r : Rn ρ o1 o2) (a : Nat) : ρ a < o2.length ↔ a < o1.length := by
  constructor
  · intro h
    by_cases ha : a < o1.length
    · exact ha
    · have := r.hi (a - o1.length)
      rw [show o1.length + (a - o1.length) = a by omega] at this
      omega
  · exact fun h => (r.low a h).1
theorem Rn.sub (r : Rn ρ o1 o2) {a : Nat} (h : ¬ a < o1.length) : ρ a = o2.length + (a - o1.length) := by
  have := r.hi (a - o1.length)
  rwa [show o1.length + (a - o1.length) = a by omega] at this
theorem Rn.at_ (r : Rn ρ o1 o2) (S : Sto) (a : Nat) : at_ o2 (rS ρ S) (ρ a) = (at_ o1 S a).map (Cell.rn ρ) := by
  unfold Z.at_
  by_cases h : a < o1.length
  · obtain ⟨h1, h2⟩ := r.low a h
    rw [List.getElem?_append_left h1, List.getElem?_append_left h, h2]
  · have e := r.sub h
    rw [List.getElem?_append_right (by omega), List.getElem?_append_right (by omega), e]
    simp [rS, List.getElem?_map]
theorem Rn.app (r : Rn ρ o1 o2) (S : Sto) : Rn ρ (o1 ++ S) (o2 ++ rS ρ S) where
  low := fun a ha => by
    refine ⟨?_, r.at_ S a⟩
    by_cases h : a < o1.length
    · have := (r.low a h).1
      simp; omega
    · have := r.sub h
      simp at ha ⊢; omega
  hi := fun i => by
    have := r.hi (S.length + i)
    simp only [List.length_append, rS_len]
    rw [Nat.add_assoc, this]; omega
theorem xs_rn (c : Cell) : (c.rn ρ).xs = c.xs.map (D.rn ρ) := by cases c <;> rfl
theorem Rn.seqOf (r : Rn ρ o1 o2) (S : Sto) (d : D) : seqOf o2 (rS ρ S) (D.rn ρ d) = (seqOf o1 S d).map (List.map (D.rn ρ)) := by
  cases d with
  | lst a =>
    show ((Z.at_ o2 (rS ρ S) (ρ a)).map Cell.xs) = _
    rw [r.at_]
    show _ = ((Z.at_ o1 S a).map Cell.xs).map _
    cases Z.at_ o1 S a with
    | none => rfl
    | some c => exact congrArg some (xs_rn c)
  | tup xs => exact congrArg some (rns_map xs)
  | tmp xs => exact congrArg some (rns_map xs)
  | _ => rfl
theorem Rn.lstOf (r : Rn ρ o1 o2) (S : Sto) (d : D) : lstOf o2 (rS ρ S) (D.rn ρ d) = (lstOf o1 S d).map (List.map (D.rn ρ)) := by
  cases d with
  | lst a =>
    simp only [Z.lstOf, D.rn, r.at_]
    cases Z.at_ o1 S a with
    | none => rfl
    | some c => cases c <;> rfl
  | tmp xs => exact congrArg some (rns_map xs)
  | _ => rfl
theorem Rn.lstRo (r : Rn ρ o1 o2) (S : Sto) (d : D) : lstRo o2 (rS ρ S) (D.rn ρ d) = (lstRo o1 S d).map (List.map (D.rn ρ)) := by
  cases d with
  | lst a =>
    simp only [Z.lstRo, D.rn, r.at_]
    cases Z.at_ o1 S a with
    | none => rfl
    | some c => exact congrArg some (xs_rn c)
  | tmp xs => exact congrArg some (rns_map xs)
  | _ => rfl
theorem mapO_map {α β γ : Type} (f : β → Option γ) (g : α → β) : ∀ xs : List α, mapO f (xs.map g) = mapO (fun x => f (g x)) xs
  | [] => rfl
  | x :: xs => by rw [List.map_cons, mapO, mapO, mapO_map f g xs]
theorem Rn.toPy (r : Rn ρ o1 o2) (S : Sto) : ∀ (n : Nat) (d : D), toPy o2 (rS ρ S) n (D.rn ρ d) = toPy o1 S n d
  | 0, d => rfl
  | n + 1, d => by
    have ih : (fun x => Z.toPy o2 (rS ρ S) n (D.rn ρ x)) = Z.toPy o1 S n := funext fun x => r.toPy S n x
    cases d with
    | lst a =>
      simp only [Z.toPy, D.rn, r.at_]
      cases Z.at_ o1 S a with
      | none => rfl
      | some c => simp only [Option.map_some, xs_rn, mapO_map, ih]
    | tup xs => simp only [Z.toPy, D.rn, rns_map, mapO_map, ih]
    | tmp xs => simp only [Z.toPy, D.rn, rns_map, mapO_map, ih]
    | _ => rfl
theorem Rn.eqv (r : Rn ρ o1 o2) (S : Sto) (x y : D) : eqv o2 (rS ρ S) (D.rn ρ x) (D.rn ρ y) = eqv o1 S x y := by simp only [Z.eqv, r.toPy]
theorem Rn.isIn (r : Rn ρ o1 o2) (S : Sto) (x y : D) : isIn o2 (rS ρ S) (D.rn ρ x) (D.rn ρ y) = isIn o1 S x y := by simp only [Z.isIn, r.toPy]
theorem Rn.pair (r : Rn ρ o1 o2) (S : Sto) (x y : D) : pair o2 (rS ρ S) (D.rn ρ x) (D.rn ρ y) = pair o1 S x y := by simp only [Z.pair, r.toPy]
theorem Rn.truth (r : Rn ρ o1 o2) (S : Sto) (x : D) : truth o2 (rS ρ S) (D.rn ρ x) = truth o1 S x := by
  cases x with
  | lst a =>
    simp only [Z.truth, D.rn, r.at_]
    cases Z.at_ o1 S a with
    | none => rfl
    | some c => simp [xs_rn]
  | tup xs => simp [Z.truth, D.rn, rns_map]
  | tmp xs => simp [Z.truth, D.rn, rns_map]
  | _ => rfl
theorem Rn.cmpV (r : Rn ρ o1 o2) (S : Sto) (o : Cm) (x y : D) : cmpV o2 o (D.rn ρ x) (D.rn ρ y) (rS ρ S) = cmpV o1 o x y S := by
  cases o with
  | eq => exact r.eqv S x y
  | ne => simp only [Z.cmpV, r.eqv]
  | isin => exact r.isIn S x y
  | notin => simp only [Z.cmpV, r.isIn]
  | _ => cases x <;> cases y <;> rfl
theorem isiV_rn (t : Ty) (d : D) : isiV t (D.rn ρ d) = isiV t d := by cases d <;> rfl
theorem rn_opt {α β : Type} {a : Option α} {x y : α → R β} {S : Sto} (h : ∀ v, x v = y v) : (match a with | some v => x v | none => R.bad) = (match a with | some v => y v | none => R.bad) := by cases a <;> simp [h]
theorem flat_map (xs : List D) : ∀ k : Nat, (List.replicate k (xs.map (D.rn ρ))).flatten = ((List.replicate k xs).flatten).map (D.rn ρ)
  | 0 => rfl
  | k + 1 => by simp only [List.replicate_succ, List.flatten_cons, List.map_append, flat_map xs k]
theorem Rn.opV (r : Rn ρ o1 o2) (S : Sto) (o : Op) (x y : D) : opV o2 o (D.rn ρ x) (D.rn ρ y) (rS ρ S) = (opV o1 o x y S).rn ρ (D.rn ρ) := by
  have hadd : ∀ x y : D, (match Z.lstOf o2 (rS ρ S) (D.rn ρ x) with
    | none => (.bad : R D)
    | some xs => match Z.lstOf o2 (rS ρ S) (D.rn ρ y) with
      | none => .bad
      | some ys => if SL (xs.length + ys.length) then .ok (.tmp (xs ++ ys)) (rS ρ S) else .bad) = (match Z.lstOf o1 S x with
    | none => (.bad : R D)
    | some xs => match Z.lstOf o1 S y with
      | none => .bad
      | some ys => if SL (xs.length + ys.length) then .ok (.tmp (xs ++ ys)) S else .bad).rn ρ (D.rn ρ) := by
    intro x y
    rw [r.lstOf, r.lstOf]
    cases Z.lstOf o1 S x with
    | none => rfl
    | some xs =>
      cases Z.lstOf o1 S y with
      | none => rfl
      | some ys =>
        simp only [Option.map_some, List.length_map]
        split
        · simp only [R.rn, D.rn, rns_map, List.map_append]
        · rfl
  have hmul : ∀ (x : D) (k : Int), (match Z.lstOf o2 (rS ρ S) (D.rn ρ x) with
    | none => (.bad : R D)
    | some xs => if decide (0 ≤ k) && decide (k < 16777217) && SL (xs.length * k.toNat) then .ok (.tmp (List.replicate k.toNat xs).flatten) (rS ρ S) else .bad) = (match Z.lstOf o1 S x with
    | none => (.bad : R D)
    | some xs => if decide (0 ≤ k) && decide (k < 16777217) && SL (xs.length * k.toNat) then .ok (.tmp (List.replicate k.toNat xs).flatten) S else .bad).rn ρ (D.rn ρ) := by
    intro x k
    rw [r.lstOf]
    cases Z.lstOf o1 S x with
    | none => rfl
    | some xs =>
      simp only [Option.map_some, List.length_map]
      split
      · simp only [R.rn, D.rn, rns_map, flat_map]
      · rfl
  cases o with
  | add =>
    cases x with
    | int i => cases y <;> first | rfl | exact hadd _ _
    | str i =>
      cases y with
      | str j => simp only [Z.opV, D.rn]; split <;> rfl
      | _ => rfl
    | tup xs =>
      cases y with
      | tup ys =>
        simp only [Z.opV, D.rn, rns_map, List.length_map]
        split
        · simp only [R.rn, D.rn, rns_map, List.map_append]
        · rfl
      | _ => rfl
    | lst a => exact hadd (.lst a) y
    | tmp xs => exact hadd (.tmp xs) y
    | _ => cases y <;> rfl
  | mul =>
    cases y with
    | int k =>
      cases x with
      | int i => simp only [Z.opV, D.rn]; split <;> rfl
      | lst a => exact hmul (.lst a) k
      | tmp xs => exact hmul (.tmp xs) k
      | _ => rfl
    | _ => cases x <;> rfl
  | _ => cases x <;> cases y <;> first | rfl | (simp only [Z.opV, D.rn]; first | rfl | (split <;> rfl))
theorem ints_rn : ∀ xs : List D, intsOf (xs.map (D.rn ρ)) = intsOf xs
  | [] => rfl
  | d :: ds => by
    cases d with
    | int i => simp only [List.map_cons, D.rn, intsOf, ints_rn ds]
    | _ => rfl
theorem bools_rn : ∀ xs : List D, bools (xs.map (D.rn ρ)) = bools xs
  | [] => rfl
  | d :: ds => by
    cases d with
    | bl i => simp only [List.map_cons, D.rn, bools, bools_rn ds]
    | _ => rfl
theorem range_rn (n : Nat) : D.rns ρ ((List.range n).map fun k : Nat => D.int (k : Int)) = (List.range n).map fun k : Nat => D.int (k : Int) := by
  rw [rns_map, List.map_map]; rfl
theorem Rn.bltV (r : Rn ρ o1 o2) (S : Sto) (f : Blt) (vs : List D) : bltV o2 f (vs.map (D.rn ρ)) (rS ρ S) = (bltV o1 f vs S).rn ρ (D.rn ρ) := by
  cases vs with
  | nil => cases f <;> rfl
  | cons x vs =>
    cases vs with
    | nil =>
      cases f with
      | len =>
        cases x with
        | str z => simp only [Z.bltV, D.rn, List.map_cons, List.map_nil]; split <;> rfl
        | lst a =>
          have := r.seqOf S (.lst a)
          simp only [D.rn] at this
          simp only [Z.bltV, D.rn, List.map_cons, List.map_nil, this]
          cases Z.seqOf o1 S (.lst a) <;> simp [R.rn, D.rn]
        | tup a => simp [Z.bltV, D.rn, List.map_cons, List.map_nil, R.rn, Z.seqOf, rns_map]
        | tmp a => simp [Z.bltV, D.rn, List.map_cons, List.map_nil, R.rn, Z.seqOf, rns_map]
        | _ => rfl
      | abs => cases x <;> rfl
      | max2 => cases x <;> rfl
      | min2 => cases x <;> rfl
      | int1 => cases x <;> rfl
      | tuple =>
        simp only [Z.bltV, List.map_cons, List.map_nil, r.seqOf]
        cases Z.seqOf o1 S x <;> simp [R.rn, D.rn, rns_map]
      | list =>
        simp only [Z.bltV, List.map_cons, List.map_nil, r.seqOf]
        cases Z.seqOf o1 S x <;> simp [R.rn, D.rn, rns_map]
      | sum =>
        simp only [Z.bltV, List.map_cons, List.map_nil, r.lstRo]
        cases Z.lstRo o1 S x with
        | none => rfl
        | some xs =>
          simp only [Option.map_some, ints_rn]
          cases intsOf xs <;> rfl
      | all =>
        simp only [Z.bltV, List.map_cons, List.map_nil, r.lstRo]
        cases Z.lstRo o1 S x with
        | none => rfl
        | some xs =>
          simp only [Option.map_some, bools_rn]
          cases bools xs <;> rfl
      | any =>
        simp only [Z.bltV, List.map_cons, List.map_nil, r.lstRo]
        cases Z.lstRo o1 S x with
        | none => rfl
        | some xs =>
          simp only [Option.map_some, bools_rn]
          cases bools xs <;> rfl
      | lrng =>
        cases x with
        | int n =>
          simp only [Z.bltV, List.map_cons, List.map_nil, D.rn]
          split
          · simp only [R.rn, D.rn, range_rn]
          · rfl
        | _ => rfl
    | cons y vs =>
      cases vs with
      | nil => cases f <;> cases x <;> first | rfl | (cases y <;> rfl)
      | cons z vs => cases f <;> first | rfl | (cases x <;> rfl) | (cases x <;> cases y <;> rfl)
theorem Rn.idxV (r : Rn ρ o1 o2) (S : Sto) (x i : D) : idxV o2 (D.rn ρ x) (D.rn ρ i) (rS ρ S) = (idxV o1 x i S).rn ρ (D.rn ρ) := by
  have h : ∀ (x : D) (j : Int), (match Z.seqOf o2 (rS ρ S) (D.rn ρ x) with
      | none => (.bad : R D)
      | some xs => match ixN xs.length j with
        | none => .bad
        | some k => match xs[k]? with
          | some d => .ok d (rS ρ S)
          | none => .bad) = (match Z.seqOf o1 S x with
      | none => (.bad : R D)
      | some xs => match ixN xs.length j with
        | none => .bad
        | some k => match xs[k]? with
          | some d => .ok d S
          | none => .bad).rn ρ (D.rn ρ) := by
    intro x j
    rw [r.seqOf]
    cases Z.seqOf o1 S x with
    | none => rfl
    | some xs =>
      simp only [Option.map_some, List.length_map, List.getElem?_map]
      cases ixN xs.length j with
      | none => rfl
      | some k =>
        simp only
        cases xs[k]? <;> rfl
  cases i with
  | int j =>
    cases x with
    | lst a => exact h (.lst a) j
    | tup xs => exact h (.tup xs) j
    | tmp xs => exact h (.tmp xs) j
    | _ => rfl
  | _ => rfl
theorem cut_rn (xs : List D) (lo hi : Option Int) : cut (xs.map (D.rn ρ)) lo hi = (cut xs lo hi).map (D.rn ρ) := by
  simp only [cut, List.length_map, List.map_drop, List.map_take]
theorem Rn.sliV (r : Rn ρ o1 o2) (S : Sto) (x : D) (lo hi : Option Int) : sliV o2 (D.rn ρ x) lo hi (rS ρ S) = (sliV o1 x lo hi S).rn ρ (D.rn ρ) := by
  have h : ∀ (x : D), (match Z.lstRo o2 (rS ρ S) (D.rn ρ x) with
    | some xs => (.ok (.tmp (cut xs lo hi)) (rS ρ S) : R D)
    | none => .bad) = (match Z.lstRo o1 S x with
    | some xs => (.ok (.tmp (cut xs lo hi)) S : R D)
    | none => .bad).rn ρ (D.rn ρ) := by
    intro x
    rw [r.lstRo]
    cases Z.lstRo o1 S x with
    | none => rfl
    | some xs => simp only [Option.map_some, R.rn, D.rn, rns_map, cut_rn]
  cases x with
  | lst a => exact h (.lst a)
  | tmp a => exact h (.tmp a)
  | tup xs => simp only [Z.sliV, D.rn, R.rn, rns_map, cut_rn]
  | _ => rfl
theorem Rn.own (r : Rn ρ o1 o2) (S : Sto) (d : D) : own o2 (D.rn ρ d) (rS ρ S) = (own o1 d S).rn ρ (D.rn ρ) := by
  cases d with
  | tmp xs => simp only [Z.own, D.rn, R.rn, rS_len, r.hi, rS_app, rns_map]; rfl
  | _ => rfl
theorem rS_set (S : Sto) (i : Nat) (c : Cell) : (rS ρ S).set i (c.rn ρ) = rS ρ (S.set i c) := by simp only [rS, List.map_set]
theorem Rn.wr (r : Rn ρ o1 o2) (S : Sto) {a : Nat} (h : ¬ a < o1.length) (xs : List D) : wr o2 (rS ρ S) (ρ a) (xs.map (D.rn ρ)) = rS ρ (wr o1 S a xs) := by
  have e := r.sub h
  unfold Z.wr
  rw [show ρ a - o2.length = a - o1.length by omega]
  exact rS_set S _ (.lst xs)
theorem Rn.new (r : Rn ρ o1 o2) (S : Sto) {a : Nat} (h : ¬ a < o1.length) : (rS ρ S)[ρ a - o2.length]? = (S[a - o1.length]?).map (Cell.rn ρ) := by
  have e := r.sub h
  rw [show ρ a - o2.length = a - o1.length by omega]
  simp only [rS, List.getElem?_map]
theorem erase_map {α β : Type} (f : α → β) : ∀ (xs : List α) (k : Nat), (xs.map f).eraseIdx k = (xs.eraseIdx k).map f
  | [], k => by simp
  | x :: xs, 0 => rfl
  | x :: xs, k + 1 => by simp [List.eraseIdx_cons_succ, erase_map f xs k]
def metL (old : Sto) (m : Met) (a : Nat) (xs vs : List D) (S : Sto) : R D := match m, vs with
        | .append, [x] => if Nat.blt xs.length 16777216 then .ok .non (wr old S a (xs ++ [x])) else .bad
        | .extend, [y] => match lstOf old S y with
          | some ys => if SL (xs.length + ys.length) then .ok .non (wr old S a (xs ++ ys)) else .bad
          | none => .bad
        | .pop, [] => match xs[xs.length - 1]? with
          | some y => .ok y (wr old S a xs.dropLast)
          | none => .bad
        | .popat, [.int i] => if SL xs.length then (match ixN xs.length i with
          | some k => match xs[k]? with
            | some y => .ok y (wr old S a (xs.eraseIdx k))
            | none => .bad
          | none => .bad) else .bad
        | .insert, [.int i, x] => if decide (0 ≤ i) && decide (i ≤ 16777216) && Nat.blt xs.length 16777216 then .ok .non (wr old S a (xs.take i.toNat ++ [x] ++ xs.drop i.toNat)) else .bad
        | .reverse, [] => .ok .non (wr old S a xs.reverse)
        | .clear, [] => .ok .non (wr old S a [])
        | .remove, [x] => match pair old S (.lst a) x with
          | some (qs, p) => if Nat.blt (qs.findIdx fun z => PyData.eqv z p) qs.length then .ok .non (wr old S a (xs.eraseIdx (qs.findIdx fun z => PyData.eqv z p))) else .bad
          | none => .bad
        | _, _ => .bad
def metN (old : Sto) (m : Met) (vs : List D) (o : D) (S : Sto) : R D := match o with
  | .lst a => if a < old.length then .bad else match S[a - old.length]? with
    | some (.lst xs) => metL old m a xs vs S
    | _ => .bad
  | _ => .bad
theorem met_eq (old : Sto) (m : Met) (o : D) (vs : List D) (S : Sto) (h1 : m ≠ .index) (h2 : m ≠ .count) : metV old m o vs S = metN old m vs o S := by
  cases m with
  | index => exact absurd rfl h1
  | count => exact absurd rfl h2
  | _ =>
    cases o with
    | lst a =>
      simp only [metV, metN]
      split
      · rfl
      · cases S[a - old.length]? with
        | none => rfl
        | some c =>
          cases c with
          | ro xs => rfl
          | lst xs =>
            cases vs with
            | nil => rfl
            | cons x vs =>
              cases vs with
              | nil => first | rfl | (cases x <;> rfl)
              | cons y vs => first | rfl | (cases vs <;> first | rfl | (cases x <;> rfl))
    | _ => rfl
theorem Rn.metL (r : Rn ρ o1 o2) (S : Sto) (m : Met) {a : Nat} (h : ¬ a < o1.length) (xs vs : List D) : metL o2 m (ρ a) (xs.map (D.rn ρ)) (vs.map (D.rn ρ)) (rS ρ S) = (metL o1 m a xs vs S).rn ρ (D.rn ρ) := by
  have hw := fun ys => r.wr S h ys
  cases vs with
  | nil =>
    cases m with
    | pop =>
      simp only [Z.metL, List.map_nil, List.length_map, List.getElem?_map]
      cases xs[xs.length - 1]? with
      | none => rfl
      | some y => simp only [Option.map_some, R.rn, ← List.map_dropLast, hw]
    | reverse => simp only [Z.metL, List.map_nil, R.rn, ← List.map_reverse, hw, D.rn]
    | clear =>
      have := hw []
      simp only [List.map_nil] at this
      simp only [Z.metL, List.map_nil, R.rn, this, D.rn]
    | _ => rfl
  | cons x vs =>
    cases vs with
    | nil =>
      cases m with
      | append =>
        simp only [Z.metL, List.map_nil, List.map_cons, List.length_map]
        split
        · have := hw (xs ++ [x])
          simp only [List.map_append, List.map_cons, List.map_nil] at this
          simp only [R.rn, D.rn, this]
        · rfl
      | extend =>
        simp only [Z.metL, List.map_nil, List.map_cons, List.length_map, r.lstOf]
        cases Z.lstOf o1 S x with
        | none => rfl
        | some ys =>
          simp only [Option.map_some, List.length_map]
          split
          · have := hw (xs ++ ys)
            simp only [List.map_append] at this
            simp only [R.rn, D.rn, this]
          · rfl
      | popat =>
        cases x with
        | int i =>
          simp only [Z.metL, List.map_nil, List.map_cons, List.length_map, D.rn, List.getElem?_map]
          split
          · cases ixN xs.length i with
            | none => rfl
            | some k =>
              simp only
              cases xs[k]? with
              | none => rfl
              | some y => simp only [Option.map_some, R.rn, erase_map, hw]
          · rfl
        | _ => rfl
      | remove =>
        simp only [Z.metL, List.map_nil, List.map_cons]
        have e : Z.pair o2 (rS ρ S) (.lst (ρ a)) (D.rn ρ x) = Z.pair o1 S (.lst a) x := r.pair S (.lst a) x
        rw [e]
        cases Z.pair o1 S (.lst a) x with
        | none => rfl
        | some q =>
          obtain ⟨qs, p⟩ := q
          simp only
          split
          · simp only [R.rn, D.rn, erase_map, hw]
          · rfl
      | insert => cases x <;> rfl
      | _ => rfl
    | cons y vs =>
      cases vs with
      | nil =>
        cases m with
        | insert =>
          cases x with
          | int i =>
            simp only [Z.metL, List.map_nil, List.map_cons, List.length_map, D.rn]
            split
            · have := hw (xs.take i.toNat ++ [y] ++ xs.drop i.toNat)
              simp only [List.map_append, List.map_cons, List.map_nil, List.map_take, List.map_drop] at this
              simp only [R.rn, D.rn, this]
            · rfl
          | _ => rfl
        | popat => cases x <;> rfl
        | _ => rfl
      | cons z vs => cases m <;> first | rfl | (cases x <;> rfl)
theorem idx_bad (old : Sto) (o : D) (vs : List D) (S : Sto) (h : ∀ x, vs ≠ [x]) : metV old .index o vs S = .bad ∧ metV old .count o vs S = .bad := by
  cases vs with
  | nil =>
    cases o with
    | lst a =>
      simp only [metV]
      constructor <;> (split; rfl; split <;> rfl)
    | _ => exact ⟨rfl, rfl⟩
  | cons x vs =>
    cases vs with
    | nil => exact absurd rfl (h x)
    | cons y vs =>
      cases o with
      | lst a =>
        simp only [metV]
        constructor <;> (split; rfl; split <;> rfl)
      | _ => exact ⟨rfl, rfl⟩
theorem one_or {α : Type} (vs : List α) : (∃ x, vs = [x]) ∨ ∀ x, vs ≠ [x] := by
  cases vs with
  | nil => exact .inr fun x h => by cases h
  | cons x vs =>
    cases vs with
    | nil => exact .inl ⟨x, rfl⟩
    | cons y vs => exact .inr fun x h => by cases h
theorem Rn.metV (r : Rn ρ o1 o2) (S : Sto) (m : Met) (o : D) (vs : List D) : metV o2 m (D.rn ρ o) (vs.map (D.rn ρ)) (rS ρ S) = (metV o1 m o vs S).rn ρ (D.rn ρ) := by
  by_cases h1 : m = .index
  · subst h1
    rcases one_or vs with ⟨x, rfl⟩ | h
    · simp only [Z.metV, List.map_cons, List.map_nil, r.pair]
      cases Z.pair o1 S o x with
      | none => rfl
      | some q =>
        obtain ⟨qs, p⟩ := q
        simp only
        split <;> rfl
    · rw [(idx_bad _ _ _ _ h).1, (idx_bad _ _ _ _ ?_).1]; rfl
      intro x e
      rcases one_or vs with ⟨y, rfl⟩ | h2
      · exact h y rfl
      · cases vs with
        | nil => cases e
        | cons y vs =>
          cases vs with
          | nil => exact h y rfl
          | cons z vs => cases e
  by_cases h2 : m = .count
  · subst h2
    rcases one_or vs with ⟨x, rfl⟩ | h
    · simp only [Z.metV, List.map_cons, List.map_nil, r.pair]
      cases Z.pair o1 S o x with
      | none => rfl
      | some q => rfl
    · rw [(idx_bad _ _ _ _ h).2, (idx_bad _ _ _ _ ?_).2]; rfl
      intro x e
      rcases one_or vs with ⟨y, rfl⟩ | h2
      · exact h y rfl
      · cases vs with
        | nil => cases e
        | cons y vs =>
          cases vs with
          | nil => exact h y rfl
          | cons z vs => cases e
  rw [met_eq _ _ _ _ _ h1 h2, met_eq _ _ _ _ _ h1 h2]
  cases o with
  | lst a =>
    simp only [metN, D.rn, r.lt]
    split
    · rfl
    · rename_i h
      rw [r.new S h]
      cases S[a - o1.length]? with
      | none => rfl
      | some c =>
        cases c with
        | ro xs => rfl
        | lst xs => exact r.metL S m h xs vs
  | _ => rfl
theorem Rn.putV (r : Rn ρ o1 o2) (S : Sto) (o i v : D) : putV o2 (D.rn ρ o) (D.rn ρ i) (D.rn ρ v) (rS ρ S) = (putV o1 o i v S).map (rS ρ) := by
  cases o with
  | lst a =>
    cases i with
    | int j =>
      simp only [Z.putV, D.rn, r.lt]
      split
      · rfl
      · rename_i h
        rw [r.new S h]
        cases S[a - o1.length]? with
        | none => rfl
        | some c =>
          cases c with
          | ro xs => rfl
          | lst xs =>
            simp only [Option.map_some, Cell.rn, List.length_map]
            cases ixN xs.length j with
            | none => rfl
            | some k =>
              have := r.wr S h (xs.set k v)
              simp only [List.map_set] at this
              simp only [Option.map_some, this]
    | _ => rfl
  | _ => rfl
/-! what is walked -/
def It.rn (ρ : Nat → Nat) : It → It
  | .seq d => .seq (D.rn ρ d)
  | .rng a b n => .rng a b n
  | .enu d => .enu (D.rn ρ d)
  | .zip x y => .zip (D.rn ρ x) (D.rn ρ y)
theorem Rn.get (r : Rn ρ o1 o2) (S : Sto) (k : Nat) (it : It) : (it.rn ρ).get o2 (rS ρ S) k = (it.get o1 S k).map (Option.map (D.rn ρ)) := by
  cases it with
  | seq d =>
    simp only [It.get, It.rn, r.seqOf]
    cases Z.seqOf o1 S d with
    | none => rfl
    | some xs => simp [List.getElem?_map]
  | rng a b n =>
    simp only [It.get, It.rn, Option.map_some]
    split <;> rfl
  | enu d =>
    simp only [It.get, It.rn, r.seqOf]
    cases Z.seqOf o1 S d with
    | none => rfl
    | some xs =>
      simp only [Option.map_some, List.getElem?_map]
      cases xs[k]? <;> rfl
  | zip x y =>
    simp only [It.get, It.rn, r.seqOf]
    cases Z.seqOf o1 S x with
    | none => rfl
    | some xs =>
      cases Z.seqOf o1 S y with
      | none => rfl
      | some ys =>
        simp only [Option.map_some, List.getElem?_map]
        cases xs[k]? with
        | none => rfl
        | some a => cases ys[k]? <;> rfl
theorem Rn.size (r : Rn ρ o1 o2) (S : Sto) (it : It) : (it.rn ρ).size o2 (rS ρ S) = it.size o1 S := by
  have h : ∀ d, ((Z.seqOf o2 (rS ρ S) (D.rn ρ d)).getD []).length = ((Z.seqOf o1 S d).getD []).length := by
    intro d
    rw [r.seqOf]
    cases Z.seqOf o1 S d <;> simp
  cases it with
  | seq d => exact h d
  | rng a b n => rfl
  | enu d => exact h d
  | zip x y => simp only [It.size, It.rn, h]
theorem rE_set (env : Env) (i : Nat) (d : D) : (rE ρ env).set i (some (D.rn ρ d)) = rE ρ (env.set i (some d)) := by simp only [rE, List.map_set, Option.map_some]
theorem rE_set0 (env : Env) (i : Nat) : (rE ρ env).set i none = rE ρ (env.set i none) := by simp only [rE, List.map_set, Option.map_none]
theorem setAll_rn : ∀ (is : List Nat) (ds : List D) (env : Env), setAll is (ds.map (D.rn ρ)) (rE ρ env) = (setAll is ds env).map (rE ρ)
  | [], [], env => rfl
  | [], _ :: _, env => rfl
  | _ :: _, [], env => rfl
  | i :: is, d :: ds, env => by rw [List.map_cons, setAll, setAll, rE_set, setAll_rn is ds]
theorem put_rn (tg : Tg) (d : D) (env : Env) : tg.put (D.rn ρ d) (rE ρ env) = (tg.put d env).map (rE ρ) := by
  cases tg with
  | nm i => simp only [Tg.put, rE_set, Option.map_some]
  | tu is =>
    cases d with
    | tup ds => simp only [Tg.put, D.rn, rns_map, setAll_rn]
    | _ => rfl
theorem wipe_rn (env : Env) : ∀ vs : List Nat, wipe (rE ρ env) vs = rE ρ (wipe env vs)
  | [] => rfl
  | v :: vs => by rw [wipe, wipe, wipe_rn env vs, rE_set0]
mutual
theorem toTr_pure : ∀ (d : D) {t : Tr}, toTr d = some t → d.pure = true
  | .int _, _, _ => rfl
  | .tup xs, t, h => by
    simp only [toTr] at h
    cases e : toTrs xs with
    | none => rw [e] at h; cases h
    | some ts => simp only [D.pure]; exact toTrs_pure xs e
  | .non, _, h => by simp [toTr] at h
  | .bl _, _, h => by simp [toTr] at h
  | .str _, _, h => by simp [toTr] at h
  | .lst _, _, h => by simp [toTr] at h
  | .tmp _, _, h => by simp [toTr] at h
  | .fn _, _, h => by simp [toTr] at h
  | .exc _, _, h => by simp [toTr] at h
theorem toTrs_pure : ∀ (ds : List D) {ts : List Tr}, toTrs ds = some ts → D.pureAll ds = true
  | [], _, _ => rfl
  | d :: ds, ts, h => by
    simp only [toTrs] at h
    cases e : toTr d with
    | none => rw [e] at h; cases h
    | some p =>
      rw [e] at h
      cases e2 : toTrs ds with
      | none => rw [e2] at h; cases h
      | some ps => simp only [D.pureAll, Bool.and_eq_true]; exact ⟨toTr_pure d e, toTrs_pure ds e2⟩
end
mutual
theorem toTr_rn : ∀ d : D, toTr (D.rn ρ d) = toTr d
  | .tup xs => by simp only [D.rn, toTr, toTrs_rn xs]
  | .non => rfl
  | .bl _ => rfl
  | .int _ => rfl
  | .str _ => rfl
  | .lst _ => rfl
  | .tmp _ => rfl
  | .fn _ => rfl
  | .exc _ => rfl
theorem toTrs_rn : ∀ ds : List D, toTrs (D.rns ρ ds) = toTrs ds
  | [] => rfl
  | d :: ds => by rw [D.rns, toTrs, toTrs, toTr_rn d, toTrs_rn ds]
end
theorem ins_mem {P : D → Prop} : ∀ {ys zs : List (D × Tr)} {x : D × Tr}, insTr x ys = some zs → P x.1 → (∀ y ∈ ys, P y.1) → ∀ z ∈ zs, P z.1
  | [], zs, x, h, hx, _, z, hz => by
    simp only [insTr] at h; cases h
    rw [List.mem_singleton] at hz; subst hz; exact hx
  | y :: ys, zs, x, h, hx, hy, z, hz => by
    simp only [insTr] at h
    split at h
    · cases h
    · cases h
      rcases List.mem_cons.mp hz with e | e
      · subst e; exact hx
      · exact hy z e
    · split at h
      · cases h
      · rename_i ws e
        cases h
        rcases List.mem_cons.mp hz with e2 | e2
        · subst e2; exact hy _ (.head _)
        · exact ins_mem e hx (fun w hw => hy w (.tail _ hw)) z e2
theorem sort_mem {P : D → Prop} : ∀ {xs zs : List (D × Tr)}, sortTr xs = some zs → (∀ y ∈ xs, P y.1) → ∀ z ∈ zs, P z.1
  | [], zs, h, _, z, hz => by simp only [sortTr] at h; cases h; cases hz
  | x :: xs, zs, h, hy, z, hz => by
    simp only [sortTr] at h
    split at h
    · cases h
    · rename_i ys e
      exact ins_mem h (hy _ (.head _)) (fun w hw => sort_mem e (fun v hv => hy v (.tail _ hv)) w hw) z hz
theorem srt_rn (xs : List D) (rev : Bool) : srtV (xs.map (D.rn ρ)) rev = (srtV xs rev).map (List.map (D.rn ρ)) := by
  unfold srtV
  rw [← rns_map, toTrs_rn]
  cases e : toTrs xs with
  | none => rfl
  | some ts =>
    have hp := toTrs_pure xs e
    rw [rns_pure xs hp]
    simp only
    cases e2 : sortTr (xs.zip ts) with
    | none => rfl
    | some ys =>
      have hm : ∀ y ∈ ys, D.rn ρ y.1 = y.1 := sort_mem (P := fun d => D.rn ρ d = d) e2 fun y hy => by
        have hy1 : y.1 ∈ xs := (List.of_mem_zip hy).1
        have hr := rns_pure (ρ := ρ) xs hp
        rw [rns_map] at hr
        clear hp e e2 hy
        induction xs with
        | nil => cases hy1
        | cons a as ih =>
          rw [List.map_cons] at hr
          injection hr with h1 h2
          rcases List.mem_cons.mp hy1 with e | e
          · rw [e]; exact h1
          · exact ih e h2
      have hmap : (ys.map (·.1)).map (D.rn ρ) = ys.map (·.1) := by
        rw [List.map_map]
        exact List.map_congr_left fun y hy => hm y hy
      simp only [Option.map_some]
      cases rev
      · simp [hmap]
      · simp only [if_true, List.map_reverse, hmap]
end
end Z
/-! Z17: the same of whole evaluations. -/
namespace Z
open PySem
variable {ρ : Nat → Nat} {o1 o2 : Sto} {α β γ δ : Type}
theorem bnd_rn {r : R α} {f : α → β} {g : β → Sto → R δ} {h : α → Sto → R γ} {k : γ → δ} (H : ∀ a S, g (f a) (rS ρ S) = (h a S).rn ρ k) : bnd (r.rn ρ f) g = (bnd r h).rn ρ k := by
  cases r with
  | ok a S => exact H a S
  | exc c S => rfl
  | bad => rfl
def Op2 (ρ : Nat → Nat) : Option Int → Option Int := id
theorem cl_rn (r : Rn ρ o1 o2) (it : It) {t1 t2 : D → Sto → R (Option D)} (ht : ∀ x S, t2 (D.rn ρ x) (rS ρ S) = (t1 x S).rn ρ (Option.map (D.rn ρ))) : ∀ (f k : Nat) (S : Sto), cloop o2 (it.rn ρ) t2 f k (rS ρ S) = (cloop o1 it t1 f k S).rn ρ (List.map (D.rn ρ))
  | 0, k, S => by
    simp only [cloop, r.get]
    cases it.get o1 S k with
    | none => rfl
    | some x => cases x <;> rfl
  | f + 1, k, S => by
    simp only [cloop, r.get]
    cases it.get o1 S k with
    | none => rfl
    | some x =>
      cases x with
      | none => rfl
      | some x =>
        simp only [Option.map_some, ht]
        cases t1 x S with
        | bad => rfl
        | exc c S1 => rfl
        | ok y S1 =>
          cases y with
          | none => simp only [R.rn, Option.map_none]; exact cl_rn r it ht f (k + 1) S1
          | some y =>
            simp only [R.rn, Option.map_some, cl_rn r it ht f (k + 1) S1]
            cases cloop o1 it t1 f (k + 1) S1 <;> rfl
section
variable {cp : Nat → List D → Sto → R D} {ci : Nat → List D → Sto → Sto → R D}
  (hp : ∀ (o1 o2 : Sto), Rn ρ o1 o2 → ∀ f ds, cp f (ds.map (D.rn ρ)) o2 = (cp f ds o1).rn ρ (D.rn ρ))
  (hi : ∀ (o1 o2 : Sto), Rn ρ o1 o2 → ∀ f ds S, ci f (ds.map (D.rn ρ)) o2 (rS ρ S) = (ci f ds o1 S).rn ρ (D.rn ρ))
  (r : Rn ρ o1 o2)
include hp hi r
mutual
theorem ev_rn : ∀ (e : E) (env : Env) (S : Sto), ev cp ci o2 e (rE ρ env) (rS ρ S) = (ev cp ci o1 e env S).rn ρ (D.rn ρ)
  | .var i, env, S => by
    simp only [ev, rE, List.getElem?_map]
    cases env[i]? with
    | none => rfl
    | some x => cases x <;> rfl
  | .lit d, env, S => by
    simp only [ev]
    split
    · rename_i h; simp only [R.rn, rn_pure d h]
    · rfl
  | .glo d, env, S => by
    simp only [ev]
    split
    · rename_i h; simp only [R.rn, rn_pure d h]
    · rfl
  | .bin o a b, env, S => by
    simp only [ev, ev_rn a]
    refine bnd_rn fun x S1 => ?_
    simp only [ev_rn b]
    exact bnd_rn fun y S2 => r.opV S2 o x y
  | .neg a, env, S => by
    simp only [ev, ev_rn a]
    refine bnd_rn fun x S1 => ?_
    cases x <;> rfl
  | .cmp o a b, env, S => by
    simp only [ev, ev_rn a]
    refine bnd_rn fun x S1 => ?_
    simp only [ev_rn b]
    refine bnd_rn fun y S2 => ?_
    simp only [r.cmpV]
    cases cmpV o1 o x y S2 <;> rfl
  | .chn o p a b c, env, S => by
    simp only [ev, ev_rn a]
    refine bnd_rn fun x S1 => ?_
    simp only [ev_rn b]
    refine bnd_rn fun y S2 => ?_
    simp only [r.cmpV]
    cases cmpV o1 o x y S2 with
    | none => rfl
    | some k =>
      cases k with
      | false => rfl
      | true =>
        simp only [ev_rn c]
        refine bnd_rn fun z S3 => ?_
        simp only [r.cmpV]
        cases cmpV o1 p y z S3 <;> rfl
  | .and a b, env, S => by
    simp only [ev, ev_rn a]
    refine bnd_rn fun x S1 => ?_
    cases x with
    | bl k =>
      simp only [D.rn, ev_rn b]
      split <;> rfl
    | _ => rfl
  | .or a b, env, S => by
    simp only [ev, ev_rn a]
    refine bnd_rn fun x S1 => ?_
    cases x with
    | bl k =>
      simp only [D.rn, ev_rn b]
      split <;> rfl
    | _ => rfl
  | .not a, env, S => by
    simp only [ev, ev_rn a]
    refine bnd_rn fun x S1 => ?_
    cases x <;> rfl
  | .ife c a b, env, S => by
    simp only [ev, ev_rn c]
    refine bnd_rn fun x S1 => ?_
    simp only [r.truth]
    cases truth o1 S1 x with
    | none => rfl
    | some k =>
      simp only [ev_rn a, ev_rn b]
      split <;> rfl
  | .tup es, env, S => by
    simp only [ev, evs_rn es]
    refine bnd_rn fun ds S1 => ?_
    simp only [List.length_map]
    split
    · simp only [R.rn, D.rn, rns_map]
    · rfl
  | .lst es, env, S => by
    simp only [ev, evs_rn es]
    refine bnd_rn fun ds S1 => ?_
    simp only [List.length_map]
    split
    · simp only [R.rn, D.rn, rns_map]
    · rfl
  | .idx a b, env, S => by
    simp only [ev, ev_rn a]
    refine bnd_rn fun x S1 => ?_
    simp only [ev_rn b]
    exact bnd_rn fun y S2 => r.idxV S2 x y
  | .sli a lo hh, env, S => by
    simp only [ev, ev_rn a]
    refine bnd_rn fun x S1 => ?_
    simp only [evo_rn lo]
    refine bnd_rn (f := id) fun l S2 => ?_
    simp only [evo_rn hh]
    refine bnd_rn (f := id) fun h S3 => ?_
    exact r.sliV S3 x l h
  | .call f es, env, S => by
    simp only [ev, evs_rn es]
    refine bnd_rn fun ds S1 => ?_
    simp only [hp _ _ (r.app S1)]
    cases cp f ds (o1 ++ S1) with
    | ok d more => simp only [R.rn, rS_app]
    | exc c m => rfl
    | bad => rfl
  | .calli f es, env, S => by
    simp only [ev, evs_rn es]
    exact bnd_rn fun ds S1 => hi _ _ r f ds S1
  | .blt f es, env, S => by
    simp only [ev, evr_rn es]
    exact bnd_rn fun ds S1 => r.bltV S1 f ds
  | .isi a t, env, S => by
    simp only [ev, ev_rn a]
    refine bnd_rn fun x S1 => ?_
    simp only [isiV_rn]
    cases isiV t x <;> rfl
  | .met m o es, env, S => by
    simp only [ev, ev_rn o]
    refine bnd_rn fun x S1 => ?_
    cases x with
    | lst a =>
      simp only [D.rn, evs_rn es]
      exact bnd_rn fun ds S2 => r.metV S2 m (.lst a) ds
    | _ => rfl
  | .ext o e, env, S => by
    simp only [ev, ev_rn o]
    refine bnd_rn fun x S1 => ?_
    cases x with
    | lst a =>
      simp only [D.rn, ev_rn e]
      exact bnd_rn fun y S2 => r.metV S2 .extend (.lst a) [y]
    | _ => rfl
  | .srt a rev, env, S => by
    simp only [ev, ev_rn a]
    refine bnd_rn fun x S1 => ?_
    simp only [r.lstRo]
    cases lstRo o1 S1 x with
    | none => rfl
    | some xs =>
      simp only [Option.map_some, srt_rn]
      cases srtV xs rev with
      | none => rfl
      | some ys => simp only [Option.map_some, R.rn, D.rn, rns_map]
  | .comp vs it tg cond elt, env, S => by
    simp only [ev, evi_rn it]
    refine bnd_rn fun j S1 => ?_
    simp only [r.size]
    split
    · rw [cl_rn r j (t1 := fun x S => match tg.put x (wipe env vs) with
          | none => .bad
          | some env2 => match evc cp ci o1 cond env2 S with
            | .ok true S2 => match ev cp ci o1 elt env2 S2 with
              | .ok y S3 => match own o1 y S3 with
                | .ok z S4 => .ok (some z) S4
                | _ => .bad
              | _ => .bad
            | .ok false S2 => .ok none S2
            | _ => .bad)]
      · cases cloop o1 j _ (j.size o1 S1) 0 S1 with
        | ok ys S2 => simp only [R.rn, D.rn, rns_map]
        | exc c S2 => rfl
        | bad => rfl
      · intro x S
        simp only [wipe_rn, put_rn]
        cases tg.put x (wipe env vs) with
        | none => rfl
        | some env2 =>
          simp only [Option.map_some, evc_rn cond]
          cases evc cp ci o1 cond env2 S with
          | bad => rfl
          | exc c S2 => rfl
          | ok k S2 =>
            cases k with
            | false => rfl
            | true =>
              simp only [R.rn, id, ev_rn elt]
              cases ev cp ci o1 elt env2 S2 with
              | bad => rfl
              | exc c S2 => rfl
              | ok y S3 =>
                simp only [R.rn, r.own]
                cases own o1 y S3 <;> rfl
    · rfl
theorem evo_rn : ∀ (e : Eo) (env : Env) (S : Sto), evo cp ci o2 e (rE ρ env) (rS ρ S) = (evo cp ci o1 e env S).rn ρ id
  | .no, env, S => rfl
  | .of e, env, S => by
    simp only [evo, ev_rn e]
    refine bnd_rn fun x S1 => ?_
    cases x <;> rfl
theorem evc_rn : ∀ (e : Eo) (env : Env) (S : Sto), evc cp ci o2 e (rE ρ env) (rS ρ S) = (evc cp ci o1 e env S).rn ρ id
  | .no, env, S => rfl
  | .of e, env, S => by
    simp only [evc, ev_rn e]
    refine bnd_rn fun x S1 => ?_
    simp only [r.truth]
    cases truth o1 S1 x <;> rfl
theorem evs_rn : ∀ (es : Es) (env : Env) (S : Sto), evs cp ci o2 es (rE ρ env) (rS ρ S) = (evs cp ci o1 es env S).rn ρ (List.map (D.rn ρ))
  | .nil, env, S => rfl
  | .cons e es, env, S => by
    simp only [evs, ev_rn e]
    refine bnd_rn fun x S1 => ?_
    simp only [r.own]
    refine bnd_rn fun y S2 => ?_
    simp only [evs_rn es]
    exact bnd_rn fun ys S3 => rfl
theorem evr_rn : ∀ (es : Es) (env : Env) (S : Sto), evr cp ci o2 es (rE ρ env) (rS ρ S) = (evr cp ci o1 es env S).rn ρ (List.map (D.rn ρ))
  | .nil, env, S => rfl
  | .cons e es, env, S => by
    simp only [evr, ev_rn e]
    refine bnd_rn fun x S1 => ?_
    simp only [evr_rn es]
    exact bnd_rn fun ys S3 => rfl
theorem evi_rn : ∀ (i : I) (env : Env) (S : Sto), evi cp ci o2 i (rE ρ env) (rS ρ S) = (evi cp ci o1 i env S).rn ρ (It.rn ρ)
  | .seq e, env, S => by
    simp only [evi, ev_rn e]
    refine bnd_rn fun x S1 => ?_
    simp only [r.seqOf]
    cases seqOf o1 S1 x <;> rfl
  | .rng1 a, env, S => by
    simp only [evi, ev_rn a]
    refine bnd_rn fun x S1 => ?_
    cases x with
    | int j => simp only [D.rn]; split <;> rfl
    | _ => rfl
  | .rng2 a b, env, S => by
    simp only [evi, ev_rn a]
    refine bnd_rn fun x S1 => ?_
    simp only [ev_rn b]
    refine bnd_rn fun y S2 => ?_
    cases x <;> cases y <;> first | rfl | (simp only [D.rn]; split <;> rfl)
  | .rng3 a b d, env, S => by
    simp only [evi, ev_rn a]
    refine bnd_rn fun x S1 => ?_
    simp only [ev_rn b]
    refine bnd_rn fun y S2 => ?_
    simp only [ev_rn d]
    refine bnd_rn fun z S3 => ?_
    cases x with
    | int i =>
      cases y with
      | int j =>
        cases z with
        | int k => simp only [D.rn]; split <;> rfl
        | _ => rfl
      | _ => rfl
    | _ => rfl
  | .enu e, env, S => by
    simp only [evi, ev_rn e]
    refine bnd_rn fun x S1 => ?_
    simp only [r.seqOf]
    cases seqOf o1 S1 x <;> rfl
  | .zip a b, env, S => by
    simp only [evi, ev_rn a]
    refine bnd_rn fun x S1 => ?_
    simp only [ev_rn b]
    refine bnd_rn fun y S2 => ?_
    have hT : ∀ d : D, isT (D.rn ρ d) = isT d := fun d => by cases d <;> rfl
    simp only [r.seqOf, hT]
    cases seqOf o1 S2 x with
    | none => rfl
    | some xs =>
      cases seqOf o1 S2 y with
      | none => rfl
      | some ys => simp only [Option.map_some]; split <;> rfl
end
end
def O.rn (ρ : Nat → Nat) : O → O
  | .nx env S => .nx (rE ρ env) (rS ρ S)
  | .rt d S => .rt (D.rn ρ d) (rS ρ S)
  | .bk env S => .bk (rE ρ env) (rS ρ S)
  | .ct env S => .ct (rE ρ env) (rS ρ S)
  | .exc c env S => .exc c (rE ρ env) (rS ρ S)
  | .bad => .bad
theorem bndO_rn {r : R α} {f : α → β} {env : Env} {g : β → Sto → O} {h : α → Sto → O} (H : ∀ a S, g (f a) (rS ρ S) = (h a S).rn ρ) : bndO (r.rn ρ f) (rE ρ env) g = (bndO r env h).rn ρ := by
  cases r with
  | ok a S => exact H a S
  | exc c S => rfl
  | bad => rfl
theorem fl_rn (r : Rn ρ o1 o2) (it : It) (tg : Tg) {b1 b2 : Env → Sto → O} (hb : ∀ env S, b2 (rE ρ env) (rS ρ S) = (b1 env S).rn ρ) : ∀ (f k : Nat) (env : Env) (S : Sto), floop o2 (it.rn ρ) tg b2 f k (rE ρ env) (rS ρ S) = (floop o1 it tg b1 f k env S).rn ρ
  | 0, k, env, S => by
    simp only [floop, r.get]
    cases it.get o1 S k with
    | none => rfl
    | some x => cases x <;> rfl
  | f + 1, k, env, S => by
    simp only [floop, r.get]
    cases it.get o1 S k with
    | none => rfl
    | some x =>
      cases x with
      | none => rfl
      | some x =>
        simp only [Option.map_some, put_rn]
        cases tg.put x env with
        | none => rfl
        | some env1 =>
          simp only [Option.map_some, hb]
          cases b1 env1 S with
          | nx env2 S2 => simp only [O.rn]; exact fl_rn r it tg hb f (k + 1) env2 S2
          | ct env2 S2 => simp only [O.rn]; exact fl_rn r it tg hb f (k + 1) env2 S2
          | _ => rfl
theorem wl_rn {t1 t2 : Env → Sto → R Bool} {b1 b2 : Env → Sto → O} (ht : ∀ env S, t2 (rE ρ env) (rS ρ S) = (t1 env S).rn ρ id) (hb : ∀ env S, b2 (rE ρ env) (rS ρ S) = (b1 env S).rn ρ) : ∀ (f : Nat) (env : Env) (S : Sto), wloop t2 b2 f (rE ρ env) (rS ρ S) = (wloop t1 b1 f env S).rn ρ
  | 0, env, S => rfl
  | f + 1, env, S => by
    simp only [wloop, ht]
    cases t1 env S with
    | bad => rfl
    | exc c S1 => rfl
    | ok k S1 =>
      cases k with
      | false => rfl
      | true =>
        simp only [R.rn, id, hb]
        cases b1 env S1 with
        | nx env2 S2 => simp only [O.rn]; exact wl_rn ht hb f env2 S2
        | ct env2 S2 => simp only [O.rn]; exact wl_rn ht hb f env2 S2
        | _ => rfl
section
variable {cp : Nat → List D → Sto → R D} {ci : Nat → List D → Sto → Sto → R D} {fu : Nat}
  (hp : ∀ (o1 o2 : Sto), Rn ρ o1 o2 → ∀ f ds, cp f (ds.map (D.rn ρ)) o2 = (cp f ds o1).rn ρ (D.rn ρ))
  (hi : ∀ (o1 o2 : Sto), Rn ρ o1 o2 → ∀ f ds S, ci f (ds.map (D.rn ρ)) o2 (rS ρ S) = (ci f ds o1 S).rn ρ (D.rn ρ))
  (r : Rn ρ o1 o2)
include hp hi r
mutual
theorem ex_rn : ∀ (t : T) (env : Env) (S : Sto), ex cp ci o2 fu t (rE ρ env) (rS ρ S) = (ex cp ci o1 fu t env S).rn ρ
  | .set i e, env, S => by
    simp only [ex, ev_rn hp hi r e]
    refine bndO_rn fun x S1 => ?_
    simp only [r.own]
    refine bndO_rn fun y S2 => ?_
    simp only [rE_set, O.rn]
  | .unp is e, env, S => by
    simp only [ex, ev_rn hp hi r e]
    refine bndO_rn fun x S1 => ?_
    cases x with
    | tup ds =>
      simp only [D.rn, rns_map, setAll_rn]
      cases setAll is ds env <;> rfl
    | _ => rfl
  | .put o i e, env, S => by
    simp only [ex, ev_rn hp hi r e]
    refine bndO_rn fun x S1 => ?_
    simp only [r.own]
    refine bndO_rn fun y S2 => ?_
    simp only [ev_rn hp hi r o]
    refine bndO_rn fun p S3 => ?_
    simp only [ev_rn hp hi r i]
    refine bndO_rn fun j S4 => ?_
    simp only [r.putV]
    cases putV o1 p j y S4 <;> rfl
  | .exp e, env, S => by
    simp only [ex, ev_rn hp hi r e]
    exact bndO_rn fun x S1 => rfl
  | .ret e, env, S => by
    simp only [ex, ev_rn hp hi r e]
    exact bndO_rn fun x S1 => rfl
  | .retn, env, S => rfl
  | .ife c a b, env, S => by
    simp only [ex, ev_rn hp hi r c]
    refine bndO_rn fun x S1 => ?_
    simp only [r.truth]
    cases truth o1 S1 x with
    | none => rfl
    | some k =>
      simp only [exs_rn a, exs_rn b]
      split <;> rfl
  | .fo it tg b, env, S => by
    simp only [ex, evi_rn hp hi r it]
    refine bndO_rn fun j S1 => ?_
    simp only [r.size]
    exact fl_rn r j tg (fun env S => exs_rn b env S) _ _ _ _
  | .wh c b, env, S => by
    simp only [ex]
    exact wl_rn (fun env S => evc_rn hp hi r (.of c) env S) (fun env S => exs_rn b env S) _ _ _
  | .aug i o e, env, S => by
    simp only [ex]
    have : (rE ρ env)[i]? = (env[i]?).map (Option.map (D.rn ρ)) := by simp only [rE, List.getElem?_map]
    rw [this]
    cases env[i]? with
    | none => rfl
    | some x =>
      cases x with
      | none => rfl
      | some x =>
        simp only [Option.map_some, ev_rn hp hi r e]
        refine bndO_rn fun y S1 => ?_
        simp only [r.opV]
        refine bndO_rn fun z S2 => ?_
        simp only [r.own]
        refine bndO_rn fun z S3 => ?_
        simp only [rE_set, O.rn]
  | .rai c, env, S => rfl
  | .brk, env, S => rfl
  | .cnt, env, S => rfl
  | .pas, env, S => rfl
theorem exs_rn : ∀ (b : B) (env : Env) (S : Sto), exs cp ci o2 fu b (rE ρ env) (rS ρ S) = (exs cp ci o1 fu b env S).rn ρ
  | .nil, env, S => rfl
  | .seq t b, env, S => by
    simp only [exs, ex_rn t]
    cases ex cp ci o1 fu t env S with
    | nx env2 S2 => simp only [O.rn]; exact exs_rn b env2 S2
    | _ => rfl
end
end
theorem fin_rn (o : O) : fin (o.rn ρ) = (fin o).rn ρ (D.rn ρ) := by cases o <;> rfl
theorem start_rn (n : Nat) (ds : List D) : start n (ds.map (D.rn ρ)) = rE ρ (start n ds) := by
  simp only [start, rE, List.map_append, List.map_map, List.length_map, List.map_replicate, Option.map_none]
  rfl
theorem tidy_rn (r : Rn ρ o1 o2) (d : D) (more : Sto) : tidy o2 (D.rn ρ d) (rS ρ more) = (tidy o1 d more).rn ρ (D.rn ρ) := by
  cases d with
  | tmp xs =>
    simp only [tidy, D.rn, rns_isPure]
    split <;> simp only [R.rn, D.rn] <;> rfl
  | lst a =>
    simp only [tidy, D.rn, r.lt]
    split
    · rfl
    · rename_i h
      rw [r.new more h]
      cases more[a - o1.length]? with
      | none => rfl
      | some c =>
        cases c with
        | ro xs => rfl
        | lst xs =>
          have hq : D.pureAll (xs.map (D.rn ρ)) = D.pureAll xs := by rw [← rns_map]; exact rns_isPure xs
          simp only [Option.map_some, Cell.rn, hq]
          split
          · simp only [R.rn, D.rn, rns_map]; rfl
          · rfl
  | tup xs =>
    have hq : (D.tup (D.rns ρ xs)).pure = (D.tup xs).pure := rn_isPure (.tup xs)
    simp only [tidy, D.rn, hq]
    split <;> rfl
  | _ => rfl
/-- THE RULE -/
theorem call_rn (G : Tab) : ∀ (d : Nat), (∀ (o1 o2 : Sto), Rn ρ o1 o2 → ∀ f ds, cP G d f (ds.map (D.rn ρ)) o2 = (cP G d f ds o1).rn ρ (D.rn ρ)) ∧
    ∀ (o1 o2 : Sto), Rn ρ o1 o2 → ∀ f ds S, cI G d f (ds.map (D.rn ρ)) o2 (rS ρ S) = (cI G d f ds o1 S).rn ρ (D.rn ρ)
  | 0 => ⟨fun _ _ _ _ _ => by simp only [cP]; rfl, fun _ _ _ _ _ _ => by simp only [cI]; rfl⟩
  | d + 1 => by
    obtain ⟨hp, hi⟩ := call_rn G d
    refine ⟨fun o1 o2 r f ds => ?_, fun o1 o2 r f ds S => ?_⟩
    · simp only [cP]
      cases G.fns f with
      | none => rfl
      | some fn =>
        simp only [List.length_map]
        split
        · have := exs_rn (fu := G.fu) hp hi r fn.body (start fn.n ds) []
          rw [start_rn]
          rw [show (rS ρ [] : Sto) = [] from rfl] at this
          rw [this, fin_rn]
          cases fin (exs (cP G d) (cI G d) o1 G.fu fn.body (start fn.n ds) []) with
          | ok x more => exact tidy_rn r x more
          | exc c m => rfl
          | bad => rfl
        · rfl
    · simp only [cI]
      cases G.fns f with
      | none => rfl
      | some fn =>
        simp only [List.length_map]
        split
        · rw [start_rn, exs_rn (fu := G.fu) hp hi r, fin_rn]
        · rfl
/-- a pure call of pure things answers the same wherever it stands -/
theorem cP_any (G : Tab) (d f : Nat) (ds : List D) (S : Sto) (h : D.pureAll ds = true) {x : D} (hx : x.pure = true) (e : cP G d f ds [] = .ok x []) : cP G d f ds S = .ok x [] := by
  have r : Rn (fun a => a + S.length) [] S := ⟨fun a ha => absurd ha (Nat.not_lt_zero a), fun i => by simp; omega⟩
  have := (call_rn G d).1 [] S r f ds
  rw [← rns_map, rns_pure ds h, e] at this
  rw [this]
  simp only [R.rn, rn_pure x hx]
  rfl
theorem cP_anyT (G : Tab) (d f : Nat) (ds : List D) (S : Sto) (h : D.pureAll ds = true) {xs : List D} (hx : D.pureAll xs = true) (e : cP G d f ds [] = .ok (.tmp xs) []) : cP G d f ds S = .ok (.tmp xs) [] := by
  have r : Rn (fun a => a + S.length) [] S := ⟨fun a ha => absurd ha (Nat.not_lt_zero a), fun i => by simp; omega⟩
  have := (call_rn G d).1 [] S r f ds
  rw [← rns_map, rns_pure ds h, e] at this
  rw [this]
  simp only [R.rn, D.rn, rns_pure xs hx]
  rfl
end Z
/-! Z18: evaluation by simp, one step a lemma. -/
namespace Z
open PySem
def thn (o : O) (f : Env → Sto → O) : O := match o with
  | .nx env S => f env S
  | o => o
def brO (k : Option Bool) (x y : O) : O := match k with
  | some true => x
  | some false => y
  | none => .bad
def brR {α : Type} (k : Option Bool) (x y : R α) : R α := match k with
  | some true => x
  | some false => y
  | none => .bad
def opB1 (k : Option Bool) (S : Sto) : R D := match k with
  | some r => .ok (.bl r) S
  | none => .bad
def optE (o : Option Env) (S : Sto) : O := match o with
  | some env => .nx env S
  | none => .bad
def optS (o : Option Sto) (env : Env) : O := match o with
  | some S => .nx env S
  | none => .bad
def negV (x : D) (S : Sto) : R D := match x with
  | .int i => .ok (.int (-i)) S
  | _ => .bad
def unpV (is : List Nat) (x : D) (env : Env) (S : Sto) : O := match x with
  | .tup ds => optE (setAll is ds env) S
  | _ => .bad
@[simp] theorem unpV_t {is : List Nat} {ds : List D} {env : Env} {S : Sto} : unpV is (.tup ds) env S = optE (setAll is ds env) S := rfl
@[simp] theorem sa_nil {env : Env} : setAll [] [] env = some env := rfl
@[simp] theorem sa_cons {i : Nat} {is : List Nat} {d : D} {ds : List D} {env : Env} : setAll (i :: is) (d :: ds) env = setAll is ds (env.set i (some d)) := rfl
def onL {α : Type} (x : D) (f : Nat → R α) : R α := match x with
  | .lst a => f a
  | _ => .bad
@[simp] theorem onL_l {α : Type} {a : Nat} {f : Nat → R α} : onL (.lst a) f = f a := rfl
def intO (x : D) (S : Sto) : R (Option Int) := match x with
  | .int i => .ok (some i) S
  | _ => .bad
@[simp] theorem intO_i {i : Int} {S : Sto} : intO (.int i) S = .ok (some i) S := rfl
def optB (k : Option Bool) (S : Sto) : R Bool := match k with
  | some b => .ok b S
  | none => .bad
@[simp] theorem optB_s {b : Bool} {S : Sto} : optB (some b) S = .ok b S := rfl
def seqI (it : It) (o : Option (List D)) (S : Sto) : R It := match o with
  | some _ => .ok it S
  | none => .bad
@[simp] theorem seqI_s {it : It} {xs : List D} {S : Sto} : seqI it (some xs) S = .ok it S := rfl
def rngV (x : D) (S : Sto) : R It := match x with
  | .int j => if decide (-4611686018427387904 ≤ j) && decide (j < 4611686018427387904) then .ok (.rng 0 1 j.toNat) S else .bad
  | _ => .bad
@[simp] theorem rngV_i {j : Int} {S : Sto} (h1 : -4611686018427387904 ≤ j) (h2 : j < 4611686018427387904) : rngV (.int j) S = .ok (.rng 0 1 j.toNat) S := by simp [rngV, h1, h2]
def rngV2 (x y : D) (S : Sto) : R It := match x, y with
    | .int i, .int j => if decide (-4611686018427387904 ≤ i) && decide (i < 4611686018427387904) && decide (-4611686018427387904 ≤ j) && decide (j < 4611686018427387904) then .ok (.rng i 1 (j - i).toNat) S else .bad
    | _, _ => .bad
@[simp] theorem rngV2_i {i j : Int} {S : Sto} (h1 : -4611686018427387904 ≤ i) (h2 : i < 4611686018427387904) (h3 : -4611686018427387904 ≤ j) (h4 : j < 4611686018427387904) : rngV2 (.int i) (.int j) S = .ok (.rng i 1 (j - i).toNat) S := by simp [rngV2, h1, h2, h3, h4]
def zipV (x y : D) (a b : Option (List D)) (S : Sto) : R It := match a, b with
  | some _, some _ => if isT x == isT y then .ok (.zip x y) S else .bad
  | _, _ => .bad
@[simp] theorem zipV_s {x y : D} {xs ys : List D} {S : Sto} (h : isT x = isT y) : zipV x y (some xs) (some ys) S = .ok (.zip x y) S := by
  show (if (isT x == isT y) = true then _ else _) = _
  rw [if_pos (by rw [h]; exact beq_self_eq_true _)]
@[simp] theorem size_rng {old S : Sto} {a b : Int} {n : Nat} : (It.rng a b n).size old S = n := rfl
theorem size_seq {old S : Sto} {d : D} {xs : List D} (h : seqOf old S d = some xs) : (It.seq d).size old S = xs.length := by simp [It.size, h]
theorem size_enu {old S : Sto} {d : D} {xs : List D} (h : seqOf old S d = some xs) : (It.enu d).size old S = xs.length := by simp [It.size, h]
theorem size_zip {old S : Sto} {x y : D} {xs ys : List D} (h : seqOf old S x = some xs) (h2 : seqOf old S y = some ys) : (It.zip x y).size old S = min xs.length ys.length := by simp [It.size, h, h2]
@[simp] theorem optE_s {env : Env} {S : Sto} : optE (some env) S = .nx env S := rfl
@[simp] theorem optS_s {env : Env} {S : Sto} : optS (some S) env = .nx env S := rfl
@[simp] theorem negV_i {i : Int} {S : Sto} : negV (.int i) S = .ok (.int (-i)) S := rfl
section
variable {α β : Type} {a : α} {S S1 : Sto} {c : Nat} {f : α → Sto → R β} {g : α → Sto → O} {env : Env} {h : Env → Sto → O} {x y : O} {u v : R α} {d : D}
@[simp] theorem bnd_ok : bnd (.ok a S) f = f a S := rfl
@[simp] theorem bnd_exc : bnd (.exc c S : R α) f = .exc c S := rfl
@[simp] theorem bnd_bad : bnd (.bad : R α) f = .bad := rfl
@[simp] theorem bndO_ok : bndO (.ok a S) env g = g a S := rfl
@[simp] theorem bndO_exc : bndO (.exc c S : R α) env g = .exc c env S := rfl
@[simp] theorem bndO_bad : bndO (.bad : R α) env g = .bad := rfl
@[simp] theorem thn_nx : thn (.nx env S) h = h env S := rfl
@[simp] theorem thn_rt : thn (.rt d S) h = .rt d S := rfl
@[simp] theorem thn_exc : thn (.exc c env S) h = .exc c env S := rfl
@[simp] theorem thn_bk : thn (.bk env S) h = .bk env S := rfl
@[simp] theorem thn_ct : thn (.ct env S) h = .ct env S := rfl
@[simp] theorem brO_t : brO (some true) x y = x := rfl
@[simp] theorem brO_f : brO (some false) x y = y := rfl
@[simp] theorem brR_t : brR (some true) u v = u := rfl
@[simp] theorem brR_f : brR (some false) u v = v := rfl
@[simp] theorem opB1_s {b : Bool} : opB1 (some b) S = .ok (.bl b) S := rfl
@[simp] theorem fin_rt : fin (.rt d S) = .ok d S := rfl
@[simp] theorem fin_nx : fin (.nx env S) = .ok .non S := rfl
@[simp] theorem fin_exc : fin (.exc c env S) = .exc c S := rfl
end
section
variable {cp : Nat → List D → Sto → R D} {ci : Nat → List D → Sto → Sto → R D} {old : Sto} {fu : Nat} {env : Env} {S : Sto} {i j k : Int} {n : Nat}
/-! ### statements -/
@[simp] theorem x_nil : exs cp ci old fu .nil env S = .nx env S := rfl
@[simp] theorem x_seq {t : T} {b : B} : exs cp ci old fu (.seq t b) env S = thn (ex cp ci old fu t env S) (exs cp ci old fu b) := by
  simp only [exs]; cases ex cp ci old fu t env S <;> rfl
@[simp] theorem x_set {e : E} : ex cp ci old fu (.set n e) env S = bndO (ev cp ci old e env S) env fun x S1 => bndO (own old x S1) env fun y S2 => .nx (env.set n (some y)) S2 := by simp only [ex]
@[simp] theorem x_unp {is : List Nat} {e : E} : ex cp ci old fu (.unp is e) env S = bndO (ev cp ci old e env S) env fun x S1 => unpV is x env S1 := by simp only [ex]; rfl
@[simp] theorem x_exp {e : E} : ex cp ci old fu (.exp e) env S = bndO (ev cp ci old e env S) env fun _ S1 => .nx env S1 := by simp only [ex]
@[simp] theorem x_ret {e : E} : ex cp ci old fu (.ret e) env S = bndO (ev cp ci old e env S) env fun x S1 => .rt x S1 := by simp only [ex]
@[simp] theorem x_retn : ex cp ci old fu .retn env S = .rt .non S := rfl
@[simp] theorem x_ife {e : E} {a b : B} : ex cp ci old fu (.ife e a b) env S = bndO (ev cp ci old e env S) env fun x S1 => brO (truth old S1 x) (exs cp ci old fu a env S1) (exs cp ci old fu b env S1) := by
  simp only [ex]
  cases ev cp ci old e env S with
  | ok x S1 =>
    simp only [bndO_ok]
    cases truth old S1 x with
    | none => rfl
    | some k => cases k <;> rfl
  | _ => rfl
@[simp] theorem x_fo {it : I} {tg : Tg} {b : B} : ex cp ci old fu (.fo it tg b) env S = bndO (evi cp ci old it env S) env fun j S1 => floop old j tg (fun env S => exs cp ci old fu b env S) (j.size old S1) 0 env S1 := by simp only [ex]
@[simp] theorem x_put {o i e : E} : ex cp ci old fu (.put o i e) env S = bndO (ev cp ci old e env S) env fun x S1 => bndO (own old x S1) env fun y S2 =>
      bndO (ev cp ci old o env S2) env fun p S3 => bndO (ev cp ci old i env S3) env fun j S4 => optS (putV old p j y S4) env := by simp only [ex]; rfl
@[simp] theorem x_rai {c : Nat} : ex cp ci old fu (.rai c) env S = .exc c env S := rfl
@[simp] theorem x_brk : ex cp ci old fu .brk env S = .bk env S := rfl
@[simp] theorem x_cnt : ex cp ci old fu .cnt env S = .ct env S := rfl
@[simp] theorem x_pas : ex cp ci old fu .pas env S = .nx env S := rfl
/-! ### expressions -/
@[simp] theorem p_int : (D.int i).pure = true := rfl
@[simp] theorem p_bl {b : Bool} : (D.bl b).pure = true := rfl
@[simp] theorem p_non : D.non.pure = true := rfl
@[simp] theorem p_str {x : Str} : (D.str x).pure = true := rfl
@[simp] theorem p_tup {xs : List D} : (D.tup xs).pure = D.pureAll xs := by simp only [D.pure]
@[simp] theorem p_nil : D.pureAll [] = true := rfl
@[simp] theorem p_cons {d : D} {xs : List D} : D.pureAll (d :: xs) = (d.pure && D.pureAll xs) := by simp only [D.pureAll]
@[simp] theorem e_li {cp : Nat → List D → Sto → R D} {ci : Nat → List D → Sto → Sto → R D} : ev cp ci old (.lit (.int i)) env S = .ok (.int i) S := rfl
@[simp] theorem e_lb {b : Bool} : ev cp ci old (.lit (.bl b)) env S = .ok (.bl b) S := rfl
@[simp] theorem e_ln : ev cp ci old (.lit .non) env S = .ok .non S := rfl
@[simp] theorem e_ls {x : Str} : ev cp ci old (.lit (.str x)) env S = .ok (.str x) S := rfl
@[simp] theorem e_gi : ev cp ci old (.glo (.int i)) env S = .ok (.int i) S := rfl
@[simp] theorem e_var {d : D} (h : env[n]? = some (some d)) : ev cp ci old (.var n) env S = .ok d S := by simp only [ev, h]
@[simp] theorem e_lit {d : D} (h : d.pure = true) : ev cp ci old (.lit d) env S = .ok d S := by simp only [ev, if_pos h]
@[simp] theorem e_glo {d : D} (h : d.pure = true) : ev cp ci old (.glo d) env S = .ok d S := by simp only [ev, if_pos h]
@[simp] theorem e_bin {o : Op} {a b : E} : ev cp ci old (.bin o a b) env S = bnd (ev cp ci old a env S) fun x S1 => bnd (ev cp ci old b env S1) fun y S2 => opV old o x y S2 := by simp only [ev]
@[simp] theorem e_neg {a : E} : ev cp ci old (.neg a) env S = bnd (ev cp ci old a env S) fun x S1 => negV x S1 := by simp only [ev]; rfl
@[simp] theorem e_cmp {o : Cm} {a b : E} : ev cp ci old (.cmp o a b) env S = bnd (ev cp ci old a env S) fun x S1 => bnd (ev cp ci old b env S1) fun y S2 => opB1 (cmpV old o x y S2) S2 := by
  simp only [ev]
  rfl
@[simp] theorem e_chn {o p : Cm} {a b c : E} : ev cp ci old (.chn o p a b c) env S = bnd (ev cp ci old a env S) fun x S1 => bnd (ev cp ci old b env S1) fun y S2 => brR (cmpV old o x y S2) (bnd (ev cp ci old c env S2) fun z S3 => opB1 (cmpV old p y z S3) S3) (.ok (.bl false) S2) := by
  simp only [ev]
  refine congrArg _ (funext fun x => funext fun S1 => congrArg _ (funext fun y => funext fun S2 => ?_))
  cases cmpV old o x y S2 with
  | none => rfl
  | some k => cases k <;> rfl
def asB (x : D) : Option Bool := match x with
  | .bl k => some k
  | _ => none
@[simp] theorem asB_bl {b : Bool} : asB (.bl b) = some b := rfl
@[simp] theorem e_and {a b : E} : ev cp ci old (.and a b) env S = bnd (ev cp ci old a env S) fun x S1 => brR (asB x) (ev cp ci old b env S1) (.ok (.bl false) S1) := by
  simp only [ev]
  refine congrArg _ (funext fun x => funext fun S1 => ?_)
  cases x with
  | bl k => cases k <;> rfl
  | _ => rfl
@[simp] theorem e_or {a b : E} : ev cp ci old (.or a b) env S = bnd (ev cp ci old a env S) fun x S1 => brR (asB x) (.ok (.bl true) S1) (ev cp ci old b env S1) := by
  simp only [ev]
  refine congrArg _ (funext fun x => funext fun S1 => ?_)
  cases x with
  | bl k => cases k <;> rfl
  | _ => rfl
@[simp] theorem e_not {a : E} : ev cp ci old (.not a) env S = bnd (ev cp ci old a env S) fun x S1 => opB1 ((asB x).map (!·)) S1 := by
  simp only [ev]
  refine congrArg _ (funext fun x => funext fun S1 => ?_)
  cases x <;> rfl
@[simp] theorem e_ife {c a b : E} : ev cp ci old (.ife c a b) env S = bnd (ev cp ci old c env S) fun x S1 => brR (truth old S1 x) (ev cp ci old a env S1) (ev cp ci old b env S1) := by
  simp only [ev]
  refine congrArg _ (funext fun x => funext fun S1 => ?_)
  cases truth old S1 x with
  | none => rfl
  | some k => cases k <;> rfl
@[simp] theorem e_tup {es : Es} : ev cp ci old (.tup es) env S = bnd (evs cp ci old es env S) fun ds S1 => if SL ds.length then .ok (.tup ds) S1 else .bad := by simp only [ev]
@[simp] theorem e_lst {es : Es} : ev cp ci old (.lst es) env S = bnd (evs cp ci old es env S) fun ds S1 => if SL ds.length then .ok (.tmp ds) S1 else .bad := by simp only [ev]
@[simp] theorem e_idx {a b : E} : ev cp ci old (.idx a b) env S = bnd (ev cp ci old a env S) fun x S1 => bnd (ev cp ci old b env S1) fun y S2 => idxV old x y S2 := by simp only [ev]
@[simp] theorem e_sli {a : E} {lo hi : Eo} : ev cp ci old (.sli a lo hi) env S = bnd (ev cp ci old a env S) fun x S1 => bnd (evo cp ci old lo env S1) fun l S2 => bnd (evo cp ci old hi env S2) fun h S3 => sliV old x l h S3 := by simp only [ev]
def callR (S1 : Sto) (r : R D) : R D := match r with
    | .ok d more => .ok d (S1 ++ more)
    | .exc c _ => .exc c S1
    | .bad => .bad
@[simp] theorem callR_ok {S1 more : Sto} {d : D} : callR S1 (.ok d more) = .ok d (S1 ++ more) := rfl
@[simp] theorem callR_exc {S1 more : Sto} {c : Nat} : callR S1 (.exc c more) = .exc c S1 := rfl
@[simp] theorem e_call {f : Nat} {es : Es} : ev cp ci old (.call f es) env S = bnd (evs cp ci old es env S) fun ds S1 => callR S1 (cp f ds (old ++ S1)) := by
  simp only [ev]; rfl
@[simp] theorem e_calli {f : Nat} {es : Es} : ev cp ci old (.calli f es) env S = bnd (evs cp ci old es env S) fun ds S1 => ci f ds old S1 := by simp only [ev]
@[simp] theorem e_blt {f : Blt} {es : Es} : ev cp ci old (.blt f es) env S = bnd (evr cp ci old es env S) fun ds S1 => bltV old f ds S1 := by simp only [ev]
@[simp] theorem e_isi {a : E} {t : Ty} : ev cp ci old (.isi a t) env S = bnd (ev cp ci old a env S) fun x S1 => opB1 (isiV t x) S1 := by
  simp only [ev]; rfl
@[simp] theorem e_met {m : Met} {o : E} {es : Es} : ev cp ci old (.met m o es) env S = bnd (ev cp ci old o env S) fun x S1 => onL x fun a => bnd (evs cp ci old es env S1) fun ds S2 => metV old m (.lst a) ds S2 := by simp only [ev]; rfl
@[simp] theorem e_ext {o e : E} : ev cp ci old (.ext o e) env S = bnd (ev cp ci old o env S) fun x S1 => onL x fun a => bnd (ev cp ci old e env S1) fun y S2 => metV old .extend (.lst a) [y] S2 := by simp only [ev]; rfl
@[simp] theorem s_nil : evs cp ci old .nil env S = .ok [] S := rfl
@[simp] theorem s_cons {e : E} {es : Es} : evs cp ci old (.cons e es) env S = bnd (ev cp ci old e env S) fun x S1 => bnd (own old x S1) fun y S2 => bnd (evs cp ci old es env S2) fun ys S3 => .ok (y :: ys) S3 := by simp only [evs]
@[simp] theorem r_nil : evr cp ci old .nil env S = .ok [] S := rfl
@[simp] theorem r_cons {e : E} {es : Es} : evr cp ci old (.cons e es) env S = bnd (ev cp ci old e env S) fun x S1 => bnd (evr cp ci old es env S1) fun ys S2 => .ok (x :: ys) S2 := by simp only [evr]
@[simp] theorem o_no : evo cp ci old .no env S = .ok none S := rfl
@[simp] theorem o_of {e : E} : evo cp ci old (.of e) env S = bnd (ev cp ci old e env S) fun x S1 => intO x S1 := by simp only [evo]; rfl
@[simp] theorem c_no : evc cp ci old .no env S = .ok true S := rfl
@[simp] theorem c_of {e : E} : evc cp ci old (.of e) env S = bnd (ev cp ci old e env S) fun x S1 => optB (truth old S1 x) S1 := by simp only [evc]; rfl
@[simp] theorem i_seq {e : E} : evi cp ci old (.seq e) env S = bnd (ev cp ci old e env S) fun x S1 => seqI (.seq x) (seqOf old S1 x) S1 := by simp only [evi]; rfl
@[simp] theorem i_enu {e : E} : evi cp ci old (.enu e) env S = bnd (ev cp ci old e env S) fun x S1 => seqI (.enu x) (seqOf old S1 x) S1 := by simp only [evi]; rfl
@[simp] theorem i_rng1 {e : E} : evi cp ci old (.rng1 e) env S = bnd (ev cp ci old e env S) fun x S1 => rngV x S1 := by simp only [evi]; rfl
@[simp] theorem i_rng2 {a b : E} : evi cp ci old (.rng2 a b) env S = bnd (ev cp ci old a env S) fun x S1 => bnd (ev cp ci old b env S1) fun y S2 => rngV2 x y S2 := by simp only [evi]; rfl
@[simp] theorem i_zip {a b : E} : evi cp ci old (.zip a b) env S = bnd (ev cp ci old a env S) fun x S1 => bnd (ev cp ci old b env S1) fun y S2 => zipV x y (seqOf old S2 x) (seqOf old S2 y) S2 := by
  simp only [evi]
  refine congrArg _ (funext fun x => funext fun S1 => congrArg _ (funext fun y => funext fun S2 => ?_))
  cases seqOf old S2 x with
  | none => rfl
  | some xs => cases seqOf old S2 y <;> rfl
/-! ### values -/
@[simp] theorem own_int : own old (.int i) S = .ok (.int i) S := rfl
@[simp] theorem own_bl {b : Bool} : own old (.bl b) S = .ok (.bl b) S := rfl
@[simp] theorem own_non : own old .non S = .ok .non S := rfl
@[simp] theorem own_str {x : Str} : own old (.str x) S = .ok (.str x) S := rfl
@[simp] theorem own_tup {xs : List D} : own old (.tup xs) S = .ok (.tup xs) S := rfl
@[simp] theorem own_lst {a : Nat} : own old (.lst a) S = .ok (.lst a) S := rfl
@[simp] theorem own_tmp {xs : List D} : own old (.tmp xs) S = .ok (.lst (old.length + S.length)) (S ++ [.lst xs]) := rfl
theorem own_pure {d : D} (h : d.pure = true) : own old d S = .ok d S := by cases d <;> first | rfl | (simp [D.pure] at h)
@[simp] theorem v_add : opV old .add (.int i) (.int j) S = .ok (.int (i + j)) S := rfl
@[simp] theorem v_sub : opV old .sub (.int i) (.int j) S = .ok (.int (i - j)) S := rfl
@[simp] theorem v_mul (h : okm i j = true) : opV old .mul (.int i) (.int j) S = .ok (.int (i * j)) S := by simp only [opV, if_pos h]
@[simp] theorem v_mod (h : 0 < j) : opV old .mod (.int i) (.int j) S = .ok (.int (i % j)) S := by simp [opV, h]
@[simp] theorem v_fdiv (h : 0 < j) (h2 : j < 1073741824) : opV old .fdiv (.int i) (.int j) S = .ok (.int (i / j)) S := by simp [opV, h, h2]
@[simp] theorem v_pow (h : okp i j = true) : opV old .pow (.int i) (.int j) S = .ok (.int (i ^ j.toNat)) S := by simp only [opV, if_pos h]
@[simp] theorem v_shl (h : okp i j = true) : opV old .shl (.int i) (.int j) S = .ok (.int (i * 2 ^ j.toNat)) S := by simp only [opV, if_pos h]
@[simp] theorem v_shr (h : 0 ≤ j) : opV old .shr (.int i) (.int j) S = .ok (.int (i / 2 ^ j.toNat)) S := by simp [opV, h]
@[simp] theorem v_band : opV old .band (.int i) (.int j) S = .ok (.int (Builtin.bitAnd i j)) S := rfl
@[simp] theorem v_bor : opV old .bor (.int i) (.int j) S = .ok (.int (Builtin.bitOr i j)) S := rfl
@[simp] theorem v_bxor : opV old .bxor (.int i) (.int j) S = .ok (.int (Builtin.bitXor i j)) S := rfl
@[simp] theorem v_addt {xs ys : List D} (h : SL (xs.length + ys.length) = true) : opV old .add (.tup xs) (.tup ys) S = .ok (.tup (xs ++ ys)) S := by simp only [opV, if_pos h]
@[simp] theorem k_lt : cmpV old .lt (.int i) (.int j) S = some (decide (i < j)) := rfl
@[simp] theorem k_le : cmpV old .le (.int i) (.int j) S = some (decide (i ≤ j)) := rfl
@[simp] theorem k_gt : cmpV old .gt (.int i) (.int j) S = some (decide (j < i)) := rfl
@[simp] theorem k_ge : cmpV old .ge (.int i) (.int j) S = some (decide (j ≤ i)) := rfl
theorem eqv_int : eqv old S (.int i) (.int j) = some (decide (i = j)) := by
  show some (i == j) = _
  simp [BEq.beq]
@[simp] theorem k_eq : cmpV old .eq (.int i) (.int j) S = some (decide (i = j)) := eqv_int (old := old) (S := S)
@[simp] theorem k_ne : cmpV old .ne (.int i) (.int j) S = some (!decide (i = j)) := by simp only [cmpV, eqv_int, Option.map_some]
@[simp] theorem t_bl {b : Bool} : truth old S (.bl b) = some b := rfl
@[simp] theorem t_non : truth old S .non = some false := rfl
@[simp] theorem t_int : truth old S (.int i) = some (i != 0) := rfl
@[simp] theorem at_0 {c : Cell} {T : Sto} : at_ (c :: T) S 0 = some c := rfl
theorem at_old {a : Nat} {c : Cell} (h : old[a]? = some c) : at_ old S a = some c := by
  unfold at_
  rw [List.getElem?_append_left (List.getElem?_eq_some_iff.mp h).1]; exact h
theorem at_nw {a : Nat} : at_ old S (old.length + a) = S[a]? := by
  unfold at_
  rw [List.getElem?_append_right (by omega)]; congr 1; omega
@[simp] theorem q_tup {xs : List D} : seqOf old S (.tup xs) = some xs := rfl
@[simp] theorem q_tmp {xs : List D} : seqOf old S (.tmp xs) = some xs := rfl
@[simp] theorem q_lst {a : Nat} {c : Cell} (h : at_ old S a = some c) : seqOf old S (.lst a) = some c.xs := by simp only [seqOf, h, Option.map_some]
@[simp] theorem l_tmp {xs : List D} : lstRo old S (.tmp xs) = some xs := rfl
@[simp] theorem l_lst {a : Nat} {c : Cell} (h : at_ old S a = some c) : lstRo old S (.lst a) = some c.xs := by simp only [lstRo, h, Option.map_some]
@[simp] theorem cx_lst {xs : List D} : (Cell.lst xs).xs = xs := rfl
@[simp] theorem cx_ro {xs : List D} : (Cell.ro xs).xs = xs := rfl
@[simp] theorem b_len {d : D} {xs : List D} (h : seqOf old S d = some xs) : bltV old .len [d] S = .ok (.int xs.length) S := by
  cases d <;> first | (simp only [bltV, h]; done) | (exfalso; simp [seqOf] at h; done)
@[simp] theorem b_abs : bltV old .abs [.int i] S = .ok (.int (if i < 0 then -i else i)) S := rfl
@[simp] theorem b_max : bltV old .max2 [.int i, .int j] S = .ok (.int (if j > i then j else i)) S := rfl
@[simp] theorem b_min : bltV old .min2 [.int i, .int j] S = .ok (.int (if j < i then j else i)) S := rfl
@[simp] theorem b_tuple {d : D} {xs : List D} (h : seqOf old S d = some xs) : bltV old .tuple [d] S = .ok (.tup xs) S := by simp only [bltV, h]
@[simp] theorem b_list {d : D} {xs : List D} (h : seqOf old S d = some xs) : bltV old .list [d] S = .ok (.tmp xs) S := by simp only [bltV, h]
@[simp] theorem b_all {d : D} {xs : List D} {bs : List Bool} (h : lstRo old S d = some xs) (h2 : bools xs = some bs) : bltV old .all [d] S = .ok (.bl (bs.all id)) S := by simp only [bltV, h, h2]
@[simp] theorem b_any {d : D} {xs : List D} {bs : List Bool} (h : lstRo old S d = some xs) (h2 : bools xs = some bs) : bltV old .any [d] S = .ok (.bl (bs.any id)) S := by simp only [bltV, h, h2]
theorem x_idx {d x : D} {xs : List D} (h : seqOf old S d = some xs) (h0 : 0 ≤ i) (h1 : xs[i.toNat]? = some x) : idxV old d (.int i) S = .ok x S := by
  have hlt : i.toNat < xs.length := (List.getElem?_eq_some_iff.mp h1).1
  have hk : ixN xs.length i = some i.toNat := by
    unfold ixN
    rw [if_pos h0, if_pos (by omega)]
  cases d <;> first | (simp only [idxV, h, hk, h1]; done) | (exfalso; simp [seqOf] at h; done)
/-- a call of a def -/
def tidyR (S : Sto) (r : R D) : R D := match r with
  | .ok x more => tidy S x more
  | .exc c _ => .exc c []
  | .bad => .bad
variable {G : Tab} {f d : Nat} {fn : Fn} {ds : List D}
theorem cI_run (h : G.fns f = some fn) (hl : ds.length = fn.ar) : cI G (d + 1) f ds old S = fin (exs (cP G d) (cI G d) old G.fu fn.body (start fn.n ds) S) := by
  simp only [cI, h]
  rw [if_pos (by rw [hl]; exact Nat.beq_refl _)]
theorem cP_run (h : G.fns f = some fn) (hl : ds.length = fn.ar) : cP G (d + 1) f ds S = tidyR S (fin (exs (cP G d) (cI G d) S G.fu fn.body (start fn.n ds) [])) := by
  simp only [cP, h]
  rw [if_pos (by rw [hl]; exact Nat.beq_refl _)]
  cases fin (exs (cP G d) (cI G d) S G.fu fn.body (start fn.n ds) []) <;> rfl
@[simp] theorem td_int {more : Sto} : tidyR S (.ok (.int i) more) = .ok (.int i) [] := rfl
@[simp] theorem td_bl {b : Bool} {more : Sto} : tidyR S (.ok (.bl b) more) = .ok (.bl b) [] := rfl
@[simp] theorem td_non {more : Sto} : tidyR S (.ok .non more) = .ok .non [] := rfl
@[simp] theorem td_exc {c : Nat} {more : Sto} : tidyR S (.exc c more) = .exc c [] := rfl
theorem td_tup {xs : List D} {more : Sto} (h : D.pureAll xs = true) : tidyR S (.ok (.tup xs) more) = .ok (.tup xs) [] := by
  show (if (D.tup xs).pure = true then _ else _) = _
  rw [if_pos (by simpa [D.pure] using h)]
theorem td_tmp {xs : List D} {more : Sto} (h : D.pureAll xs = true) : tidyR S (.ok (.tmp xs) more) = .ok (.tmp xs) [] := by
  show (if D.pureAll xs = true then _ else _) = _
  rw [if_pos h]
/-- an element of the store's new part is read and written -/
theorem new_wr {a : Nat} {xs ys : List D} (h : S[a]? = some (.lst xs)) : wr old S (old.length + a) ys = S.set a (.lst ys) := by
  unfold wr
  congr 1; omega
theorem put_new {a k : Nat} {xs : List D} {v : D} (h : S[a]? = some (.lst xs)) (hk : k < xs.length) : putV old (.lst (old.length + a)) (.int (k : Int)) v S = some (S.set a (.lst (xs.set k v))) := by
  have e : old.length + a - old.length = a := by omega
  have hx : ixN xs.length (k : Int) = some k := by
    unfold ixN
    rw [if_pos (by omega), if_pos (by omega)]; simp
  simp only [putV, e, h, hx]
  rw [if_neg (by omega), new_wr h]
end
end Z
/-! Z19: what lies about in the store does not matter. -/
namespace Z
open PySem
variable {J old S : Sto} {α β γ : Type}
def R.pre (J : Sto) : R α → R α
  | .ok a S => .ok a (J ++ S)
  | .exc c S => .exc c (J ++ S)
  | .bad => .bad
def Le (J : Sto) (r1 r2 : R α) : Prop := r1 = .bad ∨ r2 = r1.pre J
structure En (e1 e2 : Env) : Prop where
  len : e1.length = e2.length
  get : ∀ (i : Nat) (d : D), e1[i]? = some (some d) → e2[i]? = some (some d)
theorem Le.bad {r : R α} : Le J .bad r := .inl rfl
theorem Le.of {r1 r2 : R α} (h : r2 = r1.pre J) : Le J r1 r2 := .inr h
theorem Le.bnd {r1 r2 : R α} {g1 g2 : α → Sto → R β} (h : Le J r1 r2) (H : ∀ a S, Le J (g1 a S) (g2 a (J ++ S))) : Le J (bnd r1 g1) (bnd r2 g2) := by
  rcases h with h | h
  · rw [h]; exact .inl rfl
  · rw [h]
    cases r1 with
    | ok a S => exact H a S
    | exc c S => exact .inr rfl
    | bad => exact .inl rfl
theorem fr_at (a : Nat) : at_ old (J ++ S) a = at_ (old ++ J) S a := by unfold at_; rw [List.append_assoc]
theorem fr_seq (d : D) : seqOf old (J ++ S) d = seqOf (old ++ J) S d := by cases d <;> simp only [seqOf, fr_at]
theorem fr_lst (d : D) : lstOf old (J ++ S) d = lstOf (old ++ J) S d := by cases d <;> simp only [lstOf, fr_at]
theorem fr_ro (d : D) : lstRo old (J ++ S) d = lstRo (old ++ J) S d := by cases d <;> simp only [lstRo, fr_at]
theorem fr_py : ∀ (n : Nat) (d : D), toPy old (J ++ S) n d = toPy (old ++ J) S n d
  | 0, d => rfl
  | n + 1, d => by
    have ih : toPy old (J ++ S) n = toPy (old ++ J) S n := funext fun x => fr_py n x
    cases d <;> simp only [toPy, fr_at, ih]
theorem fr_eqv (x y : D) : eqv old (J ++ S) x y = eqv (old ++ J) S x y := by simp only [eqv, fr_py]
theorem fr_isIn (x y : D) : isIn old (J ++ S) x y = isIn (old ++ J) S x y := by simp only [isIn, fr_py]
theorem fr_pair (x y : D) : pair old (J ++ S) x y = pair (old ++ J) S x y := by simp only [pair, fr_py]
theorem fr_truth (d : D) : truth old (J ++ S) d = truth (old ++ J) S d := by cases d <;> simp only [truth, fr_at]
theorem fr_cmp (o : Cm) (x y : D) : cmpV old o x y (J ++ S) = cmpV (old ++ J) o x y S := by
  cases o with
  | eq => exact fr_eqv x y
  | ne => simp only [cmpV, fr_eqv]
  | isin => exact fr_isIn x y
  | notin => simp only [cmpV, fr_isIn]
  | _ => rfl
theorem fr_op (o : Op) (x y : D) : opV old o x y (J ++ S) = (opV (old ++ J) o x y S).pre J := by
  have hadd : ∀ x y : D, (match lstOf old (J ++ S) x with
    | none => (.bad : R D)
    | some xs => match lstOf old (J ++ S) y with
      | none => .bad
      | some ys => if SL (xs.length + ys.length) then .ok (.tmp (xs ++ ys)) (J ++ S) else .bad) = (match lstOf (old ++ J) S x with
    | none => (.bad : R D)
    | some xs => match lstOf (old ++ J) S y with
      | none => .bad
      | some ys => if SL (xs.length + ys.length) then .ok (.tmp (xs ++ ys)) S else .bad).pre J := by
    intro x y
    rw [fr_lst, fr_lst]
    cases lstOf (old ++ J) S x with
    | none => rfl
    | some xs =>
      cases lstOf (old ++ J) S y with
      | none => rfl
      | some ys => simp only; split <;> rfl
  have hmul : ∀ (x : D) (k : Int), (match lstOf old (J ++ S) x with
    | none => (.bad : R D)
    | some xs => if decide (0 ≤ k) && decide (k < 16777217) && SL (xs.length * k.toNat) then .ok (.tmp (List.replicate k.toNat xs).flatten) (J ++ S) else .bad) = (match lstOf (old ++ J) S x with
    | none => (.bad : R D)
    | some xs => if decide (0 ≤ k) && decide (k < 16777217) && SL (xs.length * k.toNat) then .ok (.tmp (List.replicate k.toNat xs).flatten) S else .bad).pre J := by
    intro x k
    rw [fr_lst]
    cases lstOf (old ++ J) S x with
    | none => rfl
    | some xs => simp only; split <;> rfl
  cases o with
  | add =>
    cases x with
    | int i => cases y <;> first | rfl | exact hadd _ _
    | str i =>
      cases y with
      | str j => simp only [opV]; split <;> rfl
      | _ => rfl
    | tup xs =>
      cases y with
      | tup ys => simp only [opV]; split <;> rfl
      | _ => rfl
    | lst a => exact hadd (.lst a) y
    | tmp xs => exact hadd (.tmp xs) y
    | _ => cases y <;> rfl
  | mul =>
    cases y with
    | int k =>
      cases x with
      | int i => simp only [opV]; split <;> rfl
      | lst a => exact hmul (.lst a) k
      | tmp xs => exact hmul (.tmp xs) k
      | _ => rfl
    | _ => cases x <;> rfl
  | _ => cases x <;> cases y <;> first | rfl | (simp only [opV]; first | rfl | (split <;> rfl))
theorem fr_blt (f : Blt) (vs : List D) : bltV old f vs (J ++ S) = (bltV (old ++ J) f vs S).pre J := by
  cases vs with
  | nil => cases f <;> rfl
  | cons x vs =>
    cases vs with
    | nil =>
      cases f with
      | len =>
        cases x with
        | str z => simp only [bltV]; split <;> rfl
        | lst a =>
          simp only [bltV, fr_seq]
          cases seqOf (old ++ J) S (.lst a) <;> rfl
        | _ => rfl
      | tuple =>
        simp only [bltV, fr_seq]
        cases seqOf (old ++ J) S x <;> rfl
      | list =>
        simp only [bltV, fr_seq]
        cases seqOf (old ++ J) S x <;> rfl
      | sum =>
        simp only [bltV, fr_ro]
        cases lstRo (old ++ J) S x with
        | none => rfl
        | some xs => simp only; cases intsOf xs <;> rfl
      | all =>
        simp only [bltV, fr_ro]
        cases lstRo (old ++ J) S x with
        | none => rfl
        | some xs => simp only; cases bools xs <;> rfl
      | any =>
        simp only [bltV, fr_ro]
        cases lstRo (old ++ J) S x with
        | none => rfl
        | some xs => simp only; cases bools xs <;> rfl
      | lrng =>
        cases x with
        | int n => simp only [bltV]; split <;> rfl
        | _ => rfl
      | _ => cases x <;> rfl
    | cons y vs =>
      cases vs with
      | nil => cases f <;> cases x <;> first | rfl | (cases y <;> rfl)
      | cons z vs => cases f <;> first | rfl | (cases x <;> rfl) | (cases x <;> cases y <;> rfl)
theorem fr_idx (x i : D) : idxV old x i (J ++ S) = (idxV (old ++ J) x i S).pre J := by
  cases i with
  | int j =>
    cases x with
    | lst a =>
      simp only [idxV, fr_seq]
      cases seqOf (old ++ J) S (.lst a) with
      | none => rfl
      | some xs =>
        simp only
        cases ixN xs.length j with
        | none => rfl
        | some k => simp only; cases xs[k]? <;> rfl
    | tup xs =>
      simp only [idxV, seqOf]
      cases ixN xs.length j with
      | none => rfl
      | some k => simp only; cases xs[k]? <;> rfl
    | tmp xs =>
      simp only [idxV, seqOf]
      cases ixN xs.length j with
      | none => rfl
      | some k => simp only; cases xs[k]? <;> rfl
    | _ => rfl
  | _ => rfl
theorem fr_sli (x : D) (lo hi : Option Int) : sliV old x lo hi (J ++ S) = (sliV (old ++ J) x lo hi S).pre J := by
  cases x with
  | lst a =>
    simp only [sliV, fr_ro]
    cases lstRo (old ++ J) S (.lst a) <;> rfl
  | _ => rfl
theorem fr_own (d : D) : own old d (J ++ S) = (own (old ++ J) d S).pre J := by
  cases d with
  | tmp xs => simp only [own, R.pre, List.length_append, List.append_assoc, Nat.add_assoc]
  | _ => rfl
theorem fr_wr {a : Nat} (h : ¬ a < (old ++ J).length) (xs : List D) : wr old (J ++ S) a xs = J ++ wr (old ++ J) S a xs := by
  unfold wr
  rw [List.length_append] at h ⊢
  rw [List.set_append_right _ _ (by omega)]
  congr 2; omega
theorem fr_new {a : Nat} (h : ¬ a < (old ++ J).length) : (J ++ S)[a - old.length]? = S[a - (old ++ J).length]? := by
  rw [List.length_append] at h ⊢
  rw [List.getElem?_append_right (by omega)]
  congr 1; omega
theorem fr_metL {a : Nat} (h : ¬ a < (old ++ J).length) (m : Met) (xs vs : List D) : metL old m a xs vs (J ++ S) = (metL (old ++ J) m a xs vs S).pre J := by
  have hw := fun ys => fr_wr (S := S) h ys
  cases vs with
  | nil =>
    cases m with
    | pop => simp only [metL]; cases xs[xs.length - 1]? <;> simp only [R.pre, hw]
    | _ => simp only [metL, R.pre, hw]
  | cons x vs =>
    cases vs with
    | nil =>
      cases m with
      | append => simp only [metL]; split <;> simp only [R.pre, hw]
      | extend =>
        simp only [metL, fr_lst]
        cases lstOf (old ++ J) S x with
        | none => rfl
        | some ys => simp only; split <;> simp only [R.pre, hw]
      | popat =>
        cases x with
        | int i =>
          simp only [metL]
          split
          · cases ixN xs.length i with
            | none => rfl
            | some k => simp only; cases xs[k]? <;> simp only [R.pre, hw]
          · rfl
        | _ => rfl
      | remove =>
        simp only [metL, fr_pair]
        cases pair (old ++ J) S (.lst a) x with
        | none => rfl
        | some q =>
          obtain ⟨qs, p⟩ := q
          simp only; split <;> simp only [R.pre, hw]
      | insert => cases x <;> rfl
      | _ => rfl
    | cons y vs =>
      cases vs with
      | nil =>
        cases m with
        | insert =>
          cases x with
          | int i => simp only [metL]; split <;> simp only [R.pre, hw]
          | _ => rfl
        | popat => cases x <;> rfl
        | _ => rfl
      | cons z vs => cases m <;> first | rfl | (cases x <;> rfl)
theorem fr_met (m : Met) (o : D) (vs : List D) : Le J (metV (old ++ J) m o vs S) (metV old m o vs (J ++ S)) := by
  by_cases h1 : m = .index
  · subst h1
    rcases one_or vs with ⟨x, rfl⟩ | h
    · refine .inr ?_
      simp only [metV, fr_pair]
      cases pair (old ++ J) S o x with
      | none => rfl
      | some q =>
        obtain ⟨qs, p⟩ := q
        simp only; split <;> rfl
    · exact .inl (idx_bad _ _ _ _ h).1
  by_cases h2 : m = .count
  · subst h2
    rcases one_or vs with ⟨x, rfl⟩ | h
    · refine .inr ?_
      simp only [metV, fr_pair]
      cases pair (old ++ J) S o x with
      | none => rfl
      | some q => rfl
    · exact .inl (idx_bad _ _ _ _ h).2
  rw [met_eq _ _ _ _ _ h1 h2, met_eq _ _ _ _ _ h1 h2]
  cases o with
  | lst a =>
    simp only [metN]
    by_cases h : a < (old ++ J).length
    · rw [if_pos h]; exact .inl rfl
    · have h' : ¬ a < old.length := fun z => h (by rw [List.length_append]; omega)
      rw [if_neg h, if_neg h', fr_new h]
      cases S[a - (old ++ J).length]? with
      | none => exact .inl rfl
      | some c =>
        cases c with
        | ro xs => exact .inl rfl
        | lst xs => exact .inr (fr_metL h m xs vs)
  | _ => exact .inl rfl
theorem fr_put (o i v : D) : putV (old ++ J) o i v S = none ∨ putV old o i v (J ++ S) = (putV (old ++ J) o i v S).map (J ++ ·) := by
  cases o with
  | lst a =>
    cases i with
    | int j =>
      simp only [putV]
      by_cases h : a < (old ++ J).length
      · rw [if_pos h]; exact .inl rfl
      · have h' : ¬ a < old.length := fun z => h (by rw [List.length_append]; omega)
        rw [if_neg h, if_neg h', fr_new h]
        cases S[a - (old ++ J).length]? with
        | none => exact .inl rfl
        | some c =>
          cases c with
          | ro xs => exact .inl rfl
          | lst xs =>
            simp only
            cases ixN xs.length j with
            | none => exact .inl rfl
            | some k => exact .inr (by simp only [fr_wr h, Option.map_some])
    | _ => exact .inl rfl
  | _ => exact .inl rfl
theorem fr_get (k : Nat) (it : It) : it.get old (J ++ S) k = it.get (old ++ J) S k := by cases it <;> simp only [It.get, fr_seq]
theorem fr_size (it : It) : it.size old (J ++ S) = it.size (old ++ J) S := by cases it <;> simp only [It.size, fr_seq]
theorem En.set {e1 e2 : Env} (h : En e1 e2) (i : Nat) (d : Option D) : En (e1.set i d) (e2.set i d) := by
  refine ⟨by simp [h.len], fun j x hx => ?_⟩
  rw [List.getElem?_set] at hx ⊢
  split
  · rename_i e
    rw [if_pos e] at hx
    split at hx
    · rename_i hl
      rw [if_pos (by rw [← h.len]; exact hl)]; exact hx
    · cases hx
  · rename_i e
    rw [if_neg e] at hx
    exact h.get j x hx
theorem En.setAll : ∀ (is : List Nat) (ds : List D) {e1 e2 : Env}, En e1 e2 → (Z.setAll is ds e1 = none ∨ ∃ f1 f2, Z.setAll is ds e1 = some f1 ∧ Z.setAll is ds e2 = some f2 ∧ En f1 f2)
  | [], [], e1, e2, h => .inr ⟨e1, e2, rfl, rfl, h⟩
  | [], _ :: _, _, _, h => .inl rfl
  | _ :: _, [], _, _, h => .inl rfl
  | i :: is, d :: ds, e1, e2, h => by simp only [Z.setAll]; exact En.setAll is ds (h.set i (some d))
theorem En.put (tg : Tg) (d : D) {e1 e2 : Env} (h : En e1 e2) : tg.put d e1 = none ∨ ∃ f1 f2, tg.put d e1 = some f1 ∧ tg.put d e2 = some f2 ∧ En f1 f2 := by
  cases tg with
  | nm i => exact .inr ⟨_, _, rfl, rfl, h.set i (some d)⟩
  | tu is =>
    cases d with
    | tup ds => exact h.setAll is ds
    | _ => exact .inl rfl
theorem En.wipe {e1 e2 : Env} (h : En e1 e2) : ∀ vs : List Nat, En (Z.wipe e1 vs) (Z.wipe e2 vs)
  | [] => h
  | v :: vs => (h.wipe vs).set v none
theorem Le.ok {r1 r2 : R α} (h : Le J r1 r2) : (r1 = .bad) ∨ (∃ a S, r1 = .ok a S ∧ r2 = .ok a (J ++ S)) ∨ ∃ c S, r1 = .exc c S ∧ r2 = .exc c (J ++ S) := by
  rcases h with h | h
  · exact .inl h
  · cases r1 with
    | ok a S => exact .inr (.inl ⟨a, S, rfl, h⟩)
    | exc c S => exact .inr (.inr ⟨c, S, rfl, h⟩)
    | bad => exact .inl rfl
theorem fr_cloop (it : It) {t1 t2 : D → Sto → R (Option D)} (ht : ∀ x S, Le J (t1 x S) (t2 x (J ++ S))) : ∀ (f k : Nat) (S : Sto), Le J (cloop (old ++ J) it t1 f k S) (cloop old it t2 f k (J ++ S))
  | 0, k, S => by
    simp only [cloop, fr_get]
    cases it.get (old ++ J) S k with
    | none => exact .inl rfl
    | some x => cases x with
      | none => exact .inr rfl
      | some x => exact .inl rfl
  | f + 1, k, S => by
    simp only [cloop, fr_get]
    cases it.get (old ++ J) S k with
    | none => exact .inl rfl
    | some x =>
      cases x with
      | none => exact .inr rfl
      | some x =>
        simp only
        rcases (ht x S).ok with h | ⟨a, S1, h, h2⟩ | ⟨c, S1, h, h2⟩
        · rw [h]; exact .inl rfl
        · rw [h, h2]
          cases a with
          | none => exact fr_cloop it ht f (k + 1) S1
          | some y =>
            simp only
            rcases (fr_cloop it ht f (k + 1) S1).ok with h3 | ⟨a, S3, h3, h4⟩ | ⟨c, S3, h3, h4⟩
            · rw [h3]; exact .inl rfl
            · rw [h3, h4]; exact .inr rfl
            · rw [h3, h4]; exact .inr rfl
        · rw [h, h2]; exact .inr rfl
def compR (r : R (List D)) : R D := match r with
  | .ok ys S2 => .ok (.tmp ys) S2
  | _ => .bad
theorem le_comp {r1 r2 : R (List D)} (h : Le J r1 r2) : Le J (compR r1) (compR r2) := by
  rcases h.ok with h3 | ⟨y, S3, h3, h4⟩ | ⟨c, S3, h3, h4⟩
  · rw [h3]; exact .inl rfl
  · rw [h3, h4]; exact .inr rfl
  · rw [h3]; exact .inl rfl
section
variable {cp : Nat → List D → Sto → R D} {ci : Nat → List D → Sto → Sto → R D}
  (hi : ∀ (old J : Sto) f ds S, Le J (ci f ds (old ++ J) S) (ci f ds old (J ++ S)))
include hi
mutual
theorem ev_le : ∀ (e : E) (e1 e2 : Env) (S : Sto), En e1 e2 → Le J (ev cp ci (old ++ J) e e1 S) (ev cp ci old e e2 (J ++ S))
  | .var i, e1, e2, S, h => by
    simp only [ev]
    cases q : e1[i]? with
    | none => exact .inl rfl
    | some x =>
      cases x with
      | none => exact .inl rfl
      | some d => rw [h.get i d q]; exact .inr rfl
  | .lit d, e1, e2, S, h => by
    simp only [ev]
    split
    · exact .inr rfl
    · exact .inl rfl
  | .glo d, e1, e2, S, h => by
    simp only [ev]
    split
    · exact .inr rfl
    · exact .inl rfl
  | .bin o a b, e1, e2, S, h => by
    simp only [ev]
    exact (ev_le a e1 e2 S h).bnd fun x S1 => (ev_le b e1 e2 S1 h).bnd fun y S2 => .inr (fr_op o x y)
  | .neg a, e1, e2, S, h => by
    simp only [ev]
    refine (ev_le a e1 e2 S h).bnd fun x S1 => ?_
    cases x <;> first | exact .inr rfl | exact .inl rfl
  | .cmp o a b, e1, e2, S, h => by
    simp only [ev]
    refine (ev_le a e1 e2 S h).bnd fun x S1 => (ev_le b e1 e2 S1 h).bnd fun y S2 => ?_
    rw [fr_cmp]
    cases cmpV (old ++ J) o x y S2 <;> first | exact .inr rfl | exact .inl rfl
  | .chn o p a b c, e1, e2, S, h => by
    simp only [ev]
    refine (ev_le a e1 e2 S h).bnd fun x S1 => (ev_le b e1 e2 S1 h).bnd fun y S2 => ?_
    rw [fr_cmp]
    cases cmpV (old ++ J) o x y S2 with
    | none => exact .inl rfl
    | some k =>
      cases k with
      | false => exact .inr rfl
      | true =>
        refine (ev_le c e1 e2 S2 h).bnd fun z S3 => ?_
        rw [fr_cmp]
        cases cmpV (old ++ J) p y z S3 <;> first | exact .inr rfl | exact .inl rfl
  | .and a b, e1, e2, S, h => by
    simp only [ev]
    refine (ev_le a e1 e2 S h).bnd fun x S1 => ?_
    cases x with
    | bl k =>
      simp only
      split
      · exact ev_le b e1 e2 S1 h
      · exact .inr rfl
    | _ => exact .inl rfl
  | .or a b, e1, e2, S, h => by
    simp only [ev]
    refine (ev_le a e1 e2 S h).bnd fun x S1 => ?_
    cases x with
    | bl k =>
      simp only
      split
      · exact .inr rfl
      · exact ev_le b e1 e2 S1 h
    | _ => exact .inl rfl
  | .not a, e1, e2, S, h => by
    simp only [ev]
    refine (ev_le a e1 e2 S h).bnd fun x S1 => ?_
    cases x <;> first | exact .inr rfl | exact .inl rfl
  | .ife c a b, e1, e2, S, h => by
    simp only [ev]
    refine (ev_le c e1 e2 S h).bnd fun x S1 => ?_
    rw [fr_truth]
    cases truth (old ++ J) S1 x with
    | none => exact .inl rfl
    | some k =>
      simp only
      split
      · exact ev_le a e1 e2 S1 h
      · exact ev_le b e1 e2 S1 h
  | .tup es, e1, e2, S, h => by
    simp only [ev]
    refine (evs_le es e1 e2 S h).bnd fun ds S1 => ?_
    split
    · exact .inr rfl
    · exact .inl rfl
  | .lst es, e1, e2, S, h => by
    simp only [ev]
    refine (evs_le es e1 e2 S h).bnd fun ds S1 => ?_
    split
    · exact .inr rfl
    · exact .inl rfl
  | .idx a b, e1, e2, S, h => by
    simp only [ev]
    exact (ev_le a e1 e2 S h).bnd fun x S1 => (ev_le b e1 e2 S1 h).bnd fun y S2 => .inr (fr_idx x y)
  | .sli a lo hh, e1, e2, S, h => by
    simp only [ev]
    exact (ev_le a e1 e2 S h).bnd fun x S1 => (evo_le lo e1 e2 S1 h).bnd fun l S2 => (evo_le hh e1 e2 S2 h).bnd fun u S3 => .inr (fr_sli x l u)
  | .call f es, e1, e2, S, h => by
    simp only [ev]
    refine (evs_le es e1 e2 S h).bnd fun ds S1 => ?_
    rw [List.append_assoc]
    cases cp f ds (old ++ (J ++ S1)) with
    | ok d more => exact .inr (by simp only [R.pre, List.append_assoc])
    | exc c m => exact .inr rfl
    | bad => exact .inl rfl
  | .calli f es, e1, e2, S, h => by
    simp only [ev]
    exact (evs_le es e1 e2 S h).bnd fun ds S1 => hi old J f ds S1
  | .blt f es, e1, e2, S, h => by
    simp only [ev]
    exact (evr_le es e1 e2 S h).bnd fun ds S1 => .inr (fr_blt f ds)
  | .isi a t, e1, e2, S, h => by
    simp only [ev]
    refine (ev_le a e1 e2 S h).bnd fun x S1 => ?_
    cases isiV t x <;> first | exact .inr rfl | exact .inl rfl
  | .met m o es, e1, e2, S, h => by
    simp only [ev]
    refine (ev_le o e1 e2 S h).bnd fun x S1 => ?_
    cases x with
    | lst a => exact (evs_le es e1 e2 S1 h).bnd fun ds S2 => fr_met m (.lst a) ds
    | _ => exact .inl rfl
  | .ext o e, e1, e2, S, h => by
    simp only [ev]
    refine (ev_le o e1 e2 S h).bnd fun x S1 => ?_
    cases x with
    | lst a => exact (ev_le e e1 e2 S1 h).bnd fun y S2 => fr_met .extend (.lst a) [y]
    | _ => exact .inl rfl
  | .srt a rev, e1, e2, S, h => by
    simp only [ev]
    refine (ev_le a e1 e2 S h).bnd fun x S1 => ?_
    rw [fr_ro]
    cases lstRo (old ++ J) S1 x with
    | none => exact .inl rfl
    | some xs =>
      simp only
      cases srtV xs rev <;> first | exact .inr rfl | exact .inl rfl
  | .comp vs it tg cond elt, e1, e2, S, h => by
    simp only [ev]
    refine (evi_le it e1 e2 S h).bnd fun j S1 => ?_
    rw [fr_size]
    split
    · refine le_comp (fr_cloop j (fun x S => ?_) _ _ _)
      rcases En.put tg x (h.wipe vs) with q | ⟨f1, f2, q1, q2, hf⟩
      · rw [q]; exact .inl rfl
      · rw [q1, q2]
        rcases (evc_le cond f1 f2 S hf).ok with h1 | ⟨k, S2, h1, h2⟩ | ⟨c, S2, h1, h2⟩
        · simp only [h1]; exact .inl rfl
        · simp only [h1, h2]
          cases k with
          | false => exact .inr rfl
          | true =>
            rcases (ev_le elt f1 f2 S2 hf).ok with h3 | ⟨y, S3, h3, h4⟩ | ⟨c, S3, h3, h4⟩
            · simp only [h3]; exact .inl rfl
            · simp only [h3, h4, fr_own]
              cases own (old ++ J) y S3 <;> first | exact .inr rfl | exact .inl rfl
            · simp only [h3]; exact .inl rfl
        · simp only [h1]; exact .inl rfl
    · exact .inl rfl
theorem evo_le : ∀ (e : Eo) (e1 e2 : Env) (S : Sto), En e1 e2 → Le J (evo cp ci (old ++ J) e e1 S) (evo cp ci old e e2 (J ++ S))
  | .no, e1, e2, S, h => .inr rfl
  | .of e, e1, e2, S, h => by
    simp only [evo]
    refine (ev_le e e1 e2 S h).bnd fun x S1 => ?_
    cases x <;> first | exact .inr rfl | exact .inl rfl
theorem evc_le : ∀ (e : Eo) (e1 e2 : Env) (S : Sto), En e1 e2 → Le J (evc cp ci (old ++ J) e e1 S) (evc cp ci old e e2 (J ++ S))
  | .no, e1, e2, S, h => .inr rfl
  | .of e, e1, e2, S, h => by
    simp only [evc]
    refine (ev_le e e1 e2 S h).bnd fun x S1 => ?_
    rw [fr_truth]
    cases truth (old ++ J) S1 x <;> first | exact .inr rfl | exact .inl rfl
theorem evs_le : ∀ (es : Es) (e1 e2 : Env) (S : Sto), En e1 e2 → Le J (evs cp ci (old ++ J) es e1 S) (evs cp ci old es e2 (J ++ S))
  | .nil, e1, e2, S, h => .inr rfl
  | .cons e es, e1, e2, S, h => by
    simp only [evs]
    refine (ev_le e e1 e2 S h).bnd fun x S1 => ?_
    refine Le.bnd (.inr (fr_own x)) fun y S2 => ?_
    exact (evs_le es e1 e2 S2 h).bnd fun ys S3 => .inr rfl
theorem evr_le : ∀ (es : Es) (e1 e2 : Env) (S : Sto), En e1 e2 → Le J (evr cp ci (old ++ J) es e1 S) (evr cp ci old es e2 (J ++ S))
  | .nil, e1, e2, S, h => .inr rfl
  | .cons e es, e1, e2, S, h => by
    simp only [evr]
    refine (ev_le e e1 e2 S h).bnd fun x S1 => ?_
    exact (evr_le es e1 e2 S1 h).bnd fun ys S3 => .inr rfl
theorem evi_le : ∀ (i : I) (e1 e2 : Env) (S : Sto), En e1 e2 → Le J (evi cp ci (old ++ J) i e1 S) (evi cp ci old i e2 (J ++ S))
  | .seq e, e1, e2, S, h => by
    simp only [evi]
    refine (ev_le e e1 e2 S h).bnd fun x S1 => ?_
    rw [fr_seq]
    cases seqOf (old ++ J) S1 x <;> first | exact .inr rfl | exact .inl rfl
  | .rng1 a, e1, e2, S, h => by
    simp only [evi]
    refine (ev_le a e1 e2 S h).bnd fun x S1 => ?_
    cases x with
    | int j =>
      simp only; split
      · exact .inr rfl
      · exact .inl rfl
    | _ => exact .inl rfl
  | .rng2 a b, e1, e2, S, h => by
    simp only [evi]
    refine (ev_le a e1 e2 S h).bnd fun x S1 => (ev_le b e1 e2 S1 h).bnd fun y S2 => ?_
    cases x <;> cases y <;> first | exact .inl rfl | (simp only; split; exact .inr rfl; exact .inl rfl)
  | .rng3 a b d, e1, e2, S, h => by
    simp only [evi]
    refine (ev_le a e1 e2 S h).bnd fun x S1 => (ev_le b e1 e2 S1 h).bnd fun y S2 => (ev_le d e1 e2 S2 h).bnd fun z S3 => ?_
    cases x with
    | int i =>
      cases y with
      | int j =>
        cases z with
        | int k =>
          simp only; split
          · exact .inr rfl
          · exact .inl rfl
        | _ => exact .inl rfl
      | _ => exact .inl rfl
    | _ => exact .inl rfl
  | .enu e, e1, e2, S, h => by
    simp only [evi]
    refine (ev_le e e1 e2 S h).bnd fun x S1 => ?_
    rw [fr_seq]
    cases seqOf (old ++ J) S1 x <;> first | exact .inr rfl | exact .inl rfl
  | .zip a b, e1, e2, S, h => by
    simp only [evi]
    refine (ev_le a e1 e2 S h).bnd fun x S1 => (ev_le b e1 e2 S1 h).bnd fun y S2 => ?_
    rw [fr_seq, fr_seq]
    cases seqOf (old ++ J) S2 x with
    | none => exact .inl rfl
    | some xs =>
      cases seqOf (old ++ J) S2 y with
      | none => exact .inl rfl
      | some ys =>
        simp only; split
        · exact .inr rfl
        · exact .inl rfl
end
end
/-- how a block ends, where it ended well without what lies about -/
def LeO (J : Sto) (o1 o2 : O) : Prop := match o1 with
  | .nx e S => ∃ e2, En e e2 ∧ o2 = .nx e2 (J ++ S)
  | .rt d S => o2 = .rt d (J ++ S)
  | .bk e S => ∃ e2, En e e2 ∧ o2 = .bk e2 (J ++ S)
  | .ct e S => ∃ e2, En e e2 ∧ o2 = .ct e2 (J ++ S)
  | .exc c e S => ∃ e2, En e e2 ∧ o2 = .exc c e2 (J ++ S)
  | .bad => True
theorem Le.bndO {r1 r2 : R α} {e1 e2 : Env} {g1 g2 : α → Sto → O} (he : En e1 e2) (h : Le J r1 r2) (H : ∀ a S, LeO J (g1 a S) (g2 a (J ++ S))) : LeO J (bndO r1 e1 g1) (bndO r2 e2 g2) := by
  rcases h with h | h
  · rw [h]; exact trivial
  · rw [h]
    cases r1 with
    | ok a S => exact H a S
    | exc c S => exact ⟨e2, he, rfl⟩
    | bad => exact trivial
theorem fr_floop (it : It) (tg : Tg) {b1 b2 : Env → Sto → O} (hb : ∀ e1 e2 S, En e1 e2 → LeO J (b1 e1 S) (b2 e2 (J ++ S))) : ∀ (f k : Nat) (e1 e2 : Env) (S : Sto), En e1 e2 → LeO J (floop (old ++ J) it tg b1 f k e1 S) (floop old it tg b2 f k e2 (J ++ S))
  | 0, k, e1, e2, S, h => by
    simp only [floop, fr_get]
    cases it.get (old ++ J) S k with
    | none => exact trivial
    | some x => cases x with
      | none => exact ⟨e2, h, rfl⟩
      | some x => exact trivial
  | f + 1, k, e1, e2, S, h => by
    simp only [floop, fr_get]
    cases it.get (old ++ J) S k with
    | none => exact trivial
    | some x =>
      cases x with
      | none => exact ⟨e2, h, rfl⟩
      | some x =>
        simp only
        rcases En.put tg x h with q | ⟨f1, f2, q1, q2, hf⟩
        · rw [q]; exact trivial
        · rw [q1, q2]
          simp only
          have := hb f1 f2 S hf
          cases q : b1 f1 S with
          | nx e S2 =>
            rw [q] at this
            obtain ⟨e3, he, h3⟩ := this
            rw [h3]
            exact fr_floop it tg hb f (k + 1) e e3 S2 he
          | ct e S2 =>
            rw [q] at this
            obtain ⟨e3, he, h3⟩ := this
            rw [h3]
            exact fr_floop it tg hb f (k + 1) e e3 S2 he
          | bk e S2 =>
            rw [q] at this
            obtain ⟨e3, he, h3⟩ := this
            rw [h3]
            exact ⟨e3, he, rfl⟩
          | rt d S2 =>
            rw [q] at this
            have h3 : b2 f2 (J ++ S) = .rt d (J ++ S2) := this
            rw [h3]
            exact rfl
          | exc c e S2 =>
            rw [q] at this
            obtain ⟨e3, he, h3⟩ := this
            rw [h3]
            exact ⟨e3, he, rfl⟩
          | bad => exact trivial
theorem fr_wloop {t1 t2 : Env → Sto → R Bool} {b1 b2 : Env → Sto → O} (ht : ∀ e1 e2 S, En e1 e2 → Le J (t1 e1 S) (t2 e2 (J ++ S))) (hb : ∀ e1 e2 S, En e1 e2 → LeO J (b1 e1 S) (b2 e2 (J ++ S))) : ∀ (f : Nat) (e1 e2 : Env) (S : Sto), En e1 e2 → LeO J (wloop t1 b1 f e1 S) (wloop t2 b2 f e2 (J ++ S))
  | 0, e1, e2, S, h => trivial
  | f + 1, e1, e2, S, h => by
    simp only [wloop]
    rcases (ht e1 e2 S h).ok with h1 | ⟨k, S1, h1, h2⟩ | ⟨c, S1, h1, h2⟩
    · rw [h1]; exact trivial
    · rw [h1, h2]
      cases k with
      | false => exact ⟨e2, h, rfl⟩
      | true =>
        simp only
        have := hb e1 e2 S1 h
        cases q : b1 e1 S1 with
        | nx e S2 =>
          rw [q] at this
          obtain ⟨e3, he, h3⟩ := this
          rw [h3]
          exact fr_wloop ht hb f e e3 S2 he
        | ct e S2 =>
          rw [q] at this
          obtain ⟨e3, he, h3⟩ := this
          rw [h3]
          exact fr_wloop ht hb f e e3 S2 he
        | bk e S2 =>
          rw [q] at this
          obtain ⟨e3, he, h3⟩ := this
          rw [h3]
          exact ⟨e3, he, rfl⟩
        | rt d S2 =>
          rw [q] at this
          have h3 : b2 e2 (J ++ S1) = .rt d (J ++ S2) := this
          rw [h3]
          exact rfl
        | exc c e S2 =>
          rw [q] at this
          obtain ⟨e3, he, h3⟩ := this
          rw [h3]
          exact ⟨e3, he, rfl⟩
        | bad => exact trivial
    · rw [h1, h2]; exact ⟨e2, h, rfl⟩
section
variable {cp : Nat → List D → Sto → R D} {ci : Nat → List D → Sto → Sto → R D} {fu : Nat}
  (hi : ∀ (old J : Sto) f ds S, Le J (ci f ds (old ++ J) S) (ci f ds old (J ++ S)))
include hi
mutual
theorem ex_le : ∀ (t : T) (e1 e2 : Env) (S : Sto), En e1 e2 → LeO J (ex cp ci (old ++ J) fu t e1 S) (ex cp ci old fu t e2 (J ++ S))
  | .set i e, e1, e2, S, h => by
    simp only [ex]
    exact (ev_le hi e e1 e2 S h).bndO h fun x S1 => Le.bndO h (.inr (fr_own x)) fun y S2 => ⟨_, h.set i (some y), rfl⟩
  | .unp is e, e1, e2, S, h => by
    simp only [ex]
    refine (ev_le hi e e1 e2 S h).bndO h fun x S1 => ?_
    cases x with
    | tup ds =>
      simp only
      rcases En.setAll is ds h with q | ⟨f1, f2, q1, q2, hf⟩
      · rw [q]; exact trivial
      · rw [q1, q2]; exact ⟨f2, hf, rfl⟩
    | _ => exact trivial
  | .put o i e, e1, e2, S, h => by
    simp only [ex]
    refine (ev_le hi e e1 e2 S h).bndO h fun x S1 => Le.bndO h (.inr (fr_own x)) fun y S2 => ?_
    refine (ev_le hi o e1 e2 S2 h).bndO h fun p S3 => (ev_le hi i e1 e2 S3 h).bndO h fun j S4 => ?_
    rcases fr_put (J := J) (old := old) (S := S4) p j y with q | q
    · rw [q]; exact trivial
    · rw [q]
      cases putV (old ++ J) p j y S4 with
      | none => exact trivial
      | some S5 => exact ⟨e2, h, rfl⟩
  | .exp e, e1, e2, S, h => by
    simp only [ex]
    exact (ev_le hi e e1 e2 S h).bndO h fun x S1 => ⟨e2, h, rfl⟩
  | .ret e, e1, e2, S, h => by
    simp only [ex]
    exact (ev_le hi e e1 e2 S h).bndO h fun x S1 => rfl
  | .retn, e1, e2, S, h => rfl
  | .ife c a b, e1, e2, S, h => by
    simp only [ex]
    refine (ev_le hi c e1 e2 S h).bndO h fun x S1 => ?_
    rw [fr_truth]
    cases truth (old ++ J) S1 x with
    | none => exact trivial
    | some k =>
      simp only
      split
      · exact exs_le a e1 e2 S1 h
      · exact exs_le b e1 e2 S1 h
  | .fo it tg b, e1, e2, S, h => by
    simp only [ex]
    refine (evi_le hi it e1 e2 S h).bndO h fun j S1 => ?_
    rw [fr_size]
    exact fr_floop j tg (fun f1 f2 S hf => exs_le b f1 f2 S hf) _ _ _ _ _ h
  | .wh c b, e1, e2, S, h => by
    simp only [ex]
    exact fr_wloop (fun f1 f2 S hf => evc_le hi (.of c) f1 f2 S hf) (fun f1 f2 S hf => exs_le b f1 f2 S hf) _ _ _ _ h
  | .aug i o e, e1, e2, S, h => by
    simp only [ex]
    cases q : e1[i]? with
    | none => exact trivial
    | some x =>
      cases x with
      | none => exact trivial
      | some x =>
        rw [h.get i x q]
        simp only
        refine (ev_le hi e e1 e2 S h).bndO h fun y S1 => Le.bndO h (.inr (fr_op o x y)) fun z S2 => Le.bndO h (.inr (fr_own z)) fun z S3 => ⟨_, h.set i (some z), rfl⟩
  | .rai c, e1, e2, S, h => ⟨e2, h, rfl⟩
  | .brk, e1, e2, S, h => ⟨e2, h, rfl⟩
  | .cnt, e1, e2, S, h => ⟨e2, h, rfl⟩
  | .pas, e1, e2, S, h => ⟨e2, h, rfl⟩
theorem exs_le : ∀ (b : B) (e1 e2 : Env) (S : Sto), En e1 e2 → LeO J (exs cp ci (old ++ J) fu b e1 S) (exs cp ci old fu b e2 (J ++ S))
  | .nil, e1, e2, S, h => ⟨e2, h, rfl⟩
  | .seq t b, e1, e2, S, h => by
    simp only [exs]
    have := ex_le t e1 e2 S h
    cases q : ex cp ci (old ++ J) fu t e1 S with
    | nx e S2 =>
      rw [q] at this
      obtain ⟨e3, he, h3⟩ := this
      rw [h3]
      exact exs_le b e e3 S2 he
    | rt d S2 =>
      rw [q] at this
      have h3 : ex cp ci old fu t e2 (J ++ S) = .rt d (J ++ S2) := this
      rw [h3]
      exact rfl
    | bk e S2 =>
      rw [q] at this
      obtain ⟨e3, he, h3⟩ := this
      rw [h3]
      exact ⟨e3, he, rfl⟩
    | ct e S2 =>
      rw [q] at this
      obtain ⟨e3, he, h3⟩ := this
      rw [h3]
      exact ⟨e3, he, rfl⟩
    | exc c e S2 =>
      rw [q] at this
      obtain ⟨e3, he, h3⟩ := this
      rw [h3]
      exact ⟨e3, he, rfl⟩
    | bad => exact trivial
end
end
theorem En.refl (e : Env) : En e e := ⟨rfl, fun _ _ h => h⟩
/-- THE RULE -/
theorem cI_le (G : Tab) : ∀ (d : Nat) (old J : Sto) (f : Nat) (ds : List D) (S : Sto), Le J (cI G d f ds (old ++ J) S) (cI G d f ds old (J ++ S))
  | 0, old, J, f, ds, S => by simp only [cI]; exact .inl rfl
  | d + 1, old, J, f, ds, S => by
    simp only [cI]
    cases G.fns f with
    | none => exact .inl rfl
    | some fn =>
      simp only
      split
      · have := exs_le (J := J) (old := old) (cp := cP G d) (fu := G.fu) (cI_le G d) fn.body (start fn.n ds) (start fn.n ds) S (En.refl _)
        cases q : exs (cP G d) (cI G d) (old ++ J) G.fu fn.body (start fn.n ds) S with
        | nx e S2 =>
          rw [q] at this
          obtain ⟨e3, he, h3⟩ := this
          rw [h3]
          exact .inr rfl
        | rt d S2 =>
          rw [q] at this
          have h3 : exs (cP G _) (cI G _) old G.fu fn.body (start fn.n ds) (J ++ S) = .rt d (J ++ S2) := this
          rw [h3]
          exact .inr rfl
        | bk e S2 => exact .inl rfl
        | ct e S2 => exact .inl rfl
        | exc c e S2 =>
          rw [q] at this
          obtain ⟨e3, he, h3⟩ := this
          rw [h3]
          exact .inr rfl
        | bad => exact .inl rfl
      · exact .inl rfl
end Z
/-! Z20: a block's end, looked at alone; loops. -/
namespace Z
open PySem
def sh (n a : Nat) : Nat := if a = 0 then 0 else a + n
theorem ints_rn1 (ρ : Nat → Nat) (ns : List Int) : (ns.map D.int).map (D.rn ρ) = ns.map D.int := by
  rw [List.map_map]; rfl
theorem rn_given (ns : List Int) (S : Sto) : Rn (sh S.length) (given ns) (given ns ++ S) where
  low := fun a ha => by
    have : a = 0 := by simp [given] at ha; exact ha
    subst this
    refine ⟨by simp [sh, given], ?_⟩
    simp [sh, given, Cell.rn]; intro a _; rfl
  hi := fun i => by simp [sh, given]; omega
theorem tail_of {G : Tab} {d fu : Nat} {ns : List Int} {S S1 : Sto} {b : B} {e1 e2 : Env} {x : D} (h : exs (cP G d) (cI G d) (given ns) fu b e1 [] = .rt x S1) (he : En (rE (sh S.length) e1) e2) :
    exs (cP G d) (cI G d) (given ns) fu b e2 S = .rt (x.rn (sh S.length)) (S ++ rS (sh S.length) S1) := by
  have r := rn_given ns S
  have h1 := exs_rn (fu := fu) (call_rn (ρ := sh S.length) G d).1 (call_rn (ρ := sh S.length) G d).2 r b e1 []
  rw [h] at h1
  have h2 := exs_le (J := S) (old := given ns) (cp := cP G d) (fu := fu) (cI_le G d) b (rE (sh S.length) e1) e2 [] he
  rw [show (rS (sh S.length) [] : Sto) = [] from rfl] at h1
  rw [h1] at h2
  rw [List.append_nil] at h2
  exact h2
def isRt (o : O) : Bool := match o with
  | .rt (.bl true) _ => true
  | _ => false
theorem isRt_of {o : O} (h : isRt o = true) : ∃ S, o = .rt (.bl true) S := by
  unfold isRt at h
  split at h
  · exact ⟨_, rfl⟩
  · cases h
/-- a loop over a range: what holds ahead of each turn -/
theorem floop_rng {old : Sto} {lo st : Int} {i : Nat} {body : Env → Sto → O} {inv : Nat → Env → Sto → Prop} : ∀ (f k n : Nat), k + f = n →
    (∀ j, j < n → ∀ env S, inv j env S → ∃ env' S', body (env.set i (some (.int (lo + (j : Int) * st)))) S = .nx env' S' ∧ inv (j + 1) env' S') →
    ∀ env S, inv k env S → ∃ env' S', floop old (.rng lo st n) (.nm i) body f k env S = .nx env' S' ∧ inv n env' S'
  | 0, k, n, hk, hs, env, S, h => by
    refine ⟨env, S, ?_, by rw [← hk]; exact h⟩
    simp only [floop, It.get]
    rw [if_neg (by omega)]
  | f + 1, k, n, hk, hs, env, S, h => by
    obtain ⟨env1, S1, e1, h1⟩ := hs k (by omega) env S h
    obtain ⟨env2, S2, e2, h2⟩ := floop_rng (old := old) f (k + 1) n (by omega) hs env1 S1 h1
    refine ⟨env2, S2, ?_, h2⟩
    simp only [floop, It.get]
    rw [if_pos (by omega)]
    simp only [Tg.put, e1, e2]
def B.drop : Nat → B → B
  | 0, b => b
  | _ + 1, .nil => .nil
  | n + 1, .seq _ b => B.drop n b
def B.fo : B → B
  | .seq (.fo _ _ b) _ => b
  | _ => .nil
theorem okm_r {i j : Int} (h1 : -18446744073709551616 < j) (h2 : j < 18446744073709551616) : okm i j = true := by simp [okm, h1, h2]
theorem okm_l {i j : Int} (h1 : -18446744073709551616 < i) (h2 : i < 18446744073709551616) : okm i j = true := by simp [okm, h1, h2]
theorem okp_is {i j : Int} (h0 : 0 ≤ j) (hj : j ≤ 1000000) (h1 : -18446744073709551616 < i) (h2 : i < 18446744073709551616) : okp i j = true := by
  simp [okp, h0, hj]; omega
end Z
/-! the text of k02, printed by gen.py -/
namespace Z
open PySem
def top (i : Nat) : Stmt := PySem.Challenge.pw_spreadplanes_k02_whole_numbers_share_out.main.body.getD i (.Pass ⟨0, 0, 0, 0⟩)
abbrev i_is_whole : Nat := 0
abbrev i_look_field : Nat := 1
abbrev i_sum_known : Nat := 2
abbrev i_difference_known : Nat := 3
abbrev i_product_known : Nat := 4
abbrev i_back_known : Nat := 5
abbrev i_number_sum : Nat := 6
abbrev i_number_difference : Nat := 7
abbrev i_number_product : Nat := 8
abbrev i_number_quotient : Nat := 9
abbrev i_is_table_of : Nat := 10
abbrev i_is_evenly_told : Nat := 11
abbrev i_has_backs : Nat := 12
abbrev i_are_shared_out : Nat := 13
abbrev i_make_numbers : Nat := 14
abbrev i__law_bag : Nat := 15
abbrev i__law_take : Nat := 16
abbrev i__law_rules : Nat := 17
abbrev i_law__2 : Nat := 18
def f_is_whole : Fn := { ar := 1, n := 1, body :=
    (.seq (.ret (.and (.isi (.var 0) .int) (.not (.isi (.var 0) .bool))))
    .nil) }
def f_look_field : Fn := { ar := 1, n := 1, body :=
    (.seq (.ife (.or (.not (.call i_is_whole (.cons (.var 0) .nil))) (.cmp .notin (.var 0) (.glo (.tup [(.int 2), (.int 3), (.int 4), (.int 5)]))))
      (.seq (.rai 1)
      .nil)
      .nil)
    .nil) }
def f_sum_known : Fn := { ar := 3, n := 3, body :=
    (.seq (.ife (.cmp .eq (.var 0) (.lit (.int 4)))
      (.seq (.ret (.bin .bxor (.var 1) (.var 2)))
      .nil)
      .nil)
    (.seq (.ret (.bin .mod (.bin .add (.var 1) (.var 2)) (.var 0)))
    .nil)) }
def f_difference_known : Fn := { ar := 3, n := 3, body :=
    (.seq (.ife (.cmp .eq (.var 0) (.lit (.int 4)))
      (.seq (.ret (.bin .bxor (.var 1) (.var 2)))
      .nil)
      .nil)
    (.seq (.ret (.bin .mod (.bin .sub (.var 1) (.var 2)) (.var 0)))
    .nil)) }
def f_product_known : Fn := { ar := 3, n := 5, body :=
    (.seq (.ife (.cmp .ne (.var 0) (.lit (.int 4)))
      (.seq (.ret (.bin .mod (.bin .mul (.var 1) (.var 2)) (.var 0)))
      .nil)
      .nil)
    (.seq (.set 3 (.lit (.int 0)))
    (.seq (.fo (.rng1 (.lit (.int 2))) (.nm 4)
      (.seq (.ife (.cmp .eq (.bin .band (.bin .shr (.var 2) (.var 4)) (.lit (.int 1))) (.lit (.int 1)))
        (.seq (.set 3 (.bin .bxor (.var 3) (.bin .shl (.var 1) (.var 4))))
        .nil)
        .nil)
      .nil))
    (.seq (.ife (.cmp .gt (.var 3) (.lit (.int 3)))
      (.seq (.set 3 (.bin .bxor (.var 3) (.lit (.int 7))))
      .nil)
      .nil)
    (.seq (.ret (.var 3))
    .nil))))) }
def f_back_known : Fn := { ar := 2, n := 3, body :=
    (.seq (.ret (.idx (.comp [2] (.rng1 (.var 0)) (.nm 2) (.of (.cmp .eq (.call i_product_known (.cons (.var 0) (.cons (.var 1) (.cons (.var 2) .nil)))) (.lit (.int 1)))) (.var 2)) (.lit (.int 0))))
    .nil) }
def f_number_sum : Fn := { ar := 3, n := 3, body :=
    (.seq (.exp (.call i_look_field (.cons (.var 0) .nil)))
    (.seq (.ret (.call i_sum_known (.cons (.var 0) (.cons (.var 1) (.cons (.var 2) .nil)))))
    .nil)) }
def f_number_difference : Fn := { ar := 3, n := 3, body :=
    (.seq (.exp (.call i_look_field (.cons (.var 0) .nil)))
    (.seq (.ret (.call i_difference_known (.cons (.var 0) (.cons (.var 1) (.cons (.var 2) .nil)))))
    .nil)) }
def f_number_product : Fn := { ar := 3, n := 3, body :=
    (.seq (.exp (.call i_look_field (.cons (.var 0) .nil)))
    (.seq (.ret (.call i_product_known (.cons (.var 0) (.cons (.var 1) (.cons (.var 2) .nil)))))
    .nil)) }
def f_number_quotient : Fn := { ar := 3, n := 3, body :=
    (.seq (.exp (.call i_look_field (.cons (.var 0) .nil)))
    (.seq (.ife (.cmp .eq (.var 2) (.lit (.int 0)))
      (.seq (.rai 2)
      .nil)
      .nil)
    (.seq (.ret (.call i_product_known (.cons (.var 0) (.cons (.var 1) (.cons (.call i_back_known (.cons (.var 0) (.cons (.var 2) .nil))) .nil)))))
    .nil))) }
def f_is_table_of : Fn := { ar := 2, n := 4, body :=
    (.seq (.ife (.or (.not (.isi (.var 0) .list)) (.cmp .ne (.blt .len (.cons (.var 0) .nil)) (.var 1)))
      (.seq (.ret (.lit (.bl false)))
      .nil)
      .nil)
    (.seq (.fo (.seq (.var 0)) (.nm 2)
      (.seq (.ife (.or (.not (.isi (.var 2) .list)) (.cmp .ne (.blt .len (.cons (.var 2) .nil)) (.var 1)))
        (.seq (.ret (.lit (.bl false)))
        .nil)
        .nil)
      (.seq (.ife (.not (.blt .all (.cons (.comp [3] (.seq (.var 2)) (.nm 3) .no (.and (.call i_is_whole (.cons (.var 3) .nil)) (.chn .le .lt (.lit (.int 0)) (.var 3) (.var 1)))) .nil)))
        (.seq (.ret (.lit (.bl false)))
        .nil)
        .nil)
      .nil)))
    (.seq (.ret (.lit (.bl true)))
    .nil))) }
def f_is_evenly_told : Fn := { ar := 1, n := 5, body :=
    (.seq (.set 1 (.blt .len (.cons (.var 0) .nil)))
    (.seq (.fo (.rng1 (.var 1)) (.nm 2)
      (.seq (.fo (.rng1 (.var 1)) (.nm 3)
        (.seq (.ife (.cmp .ne (.idx (.idx (.var 0) (.var 2)) (.var 3)) (.idx (.idx (.var 0) (.var 3)) (.var 2)))
          (.seq (.ret (.lit (.bl false)))
          .nil)
          .nil)
        (.seq (.ife (.blt .any (.cons (.comp [4] (.rng1 (.var 1)) (.nm 4) .no (.cmp .ne (.idx (.idx (.var 0) (.idx (.idx (.var 0) (.var 2)) (.var 3))) (.var 4)) (.idx (.idx (.var 0) (.var 2)) (.idx (.idx (.var 0) (.var 3)) (.var 4))))) .nil))
          (.seq (.ret (.lit (.bl false)))
          .nil)
          .nil)
        .nil)))
      .nil))
    (.seq (.ret (.lit (.bl true)))
    .nil))) }
def f_has_backs : Fn := { ar := 3, n := 4, body :=
    (.seq (.ife (.cmp .ne (.idx (.var 0) (.var 1)) (.blt .lrng (.cons (.blt .len (.cons (.var 0) .nil)) .nil)))
      (.seq (.ret (.lit (.bl false)))
      .nil)
      .nil)
    (.seq (.ret (.blt .all (.cons (.comp [3] (.seq (.sli (.var 0) (.of (.var 2)) .no)) (.nm 3) .no (.cmp .isin (.var 1) (.var 3))) .nil)))
    .nil)) }
def f_are_shared_out : Fn := { ar := 2, n := 5, body :=
    (.seq (.fo (.rng1 (.blt .len (.cons (.var 0) .nil))) (.nm 2)
      (.seq (.fo (.rng1 (.blt .len (.cons (.var 0) .nil))) (.nm 3)
        (.seq (.fo (.rng1 (.blt .len (.cons (.var 0) .nil))) (.nm 4)
          (.seq (.ife (.cmp .ne (.idx (.idx (.var 1) (.var 2)) (.idx (.idx (.var 0) (.var 3)) (.var 4))) (.idx (.idx (.var 0) (.idx (.idx (.var 1) (.var 2)) (.var 3))) (.idx (.idx (.var 1) (.var 2)) (.var 4))))
            (.seq (.ret (.lit (.bl false)))
            .nil)
            .nil)
          .nil))
        .nil))
      .nil))
    (.seq (.ret (.lit (.bl true)))
    .nil)) }
def f_make_numbers : Fn := { ar := 2, n := 2, body :=
    (.seq (.ife (.or (.not (.isi (.var 0) .list)) (.not (.chn .le .le (.lit (.int 2)) (.blt .len (.cons (.var 0) .nil)) (.glo (.int 6)))))
      (.seq (.ret (.lit (.bl false)))
      .nil)
      .nil)
    (.seq (.ife (.or (.not (.call i_is_table_of (.cons (.var 0) (.cons (.blt .len (.cons (.var 0) .nil)) .nil)))) (.not (.call i_is_table_of (.cons (.var 1) (.cons (.blt .len (.cons (.var 0) .nil)) .nil)))))
      (.seq (.ret (.lit (.bl false)))
      .nil)
      .nil)
    (.seq (.ife (.or (.not (.call i_is_evenly_told (.cons (.var 0) .nil))) (.not (.call i_is_evenly_told (.cons (.var 1) .nil))))
      (.seq (.ret (.lit (.bl false)))
      .nil)
      .nil)
    (.seq (.ret (.and (.call i_has_backs (.cons (.var 0) (.cons (.lit (.int 0)) (.cons (.lit (.int 0)) .nil)))) (.and (.call i_has_backs (.cons (.var 1) (.cons (.lit (.int 1)) (.cons (.lit (.int 1)) .nil)))) (.call i_are_shared_out (.cons (.var 0) (.cons (.var 1) .nil))))))
    .nil)))) }
def f__law_bag : Fn := { ar := 2, n := 5, body :=
    (.seq (.set 2 (.lit (.int 0)))
    (.seq (.ife (.cmp .lt (.var 1) (.blt .len (.cons (.var 0) .nil)))
      (.seq (.set 2 (.idx (.var 0) (.var 1)))
      .nil)
      .nil)
    (.seq (.set 3 (.lit (.int 0)))
    (.seq (.ife (.cmp .ge (.blt .abs (.cons (.var 2) .nil)) (.bin .pow (.lit (.int 10)) (.lit (.int 18))))
      (.seq (.set 3 (.blt .abs (.cons (.var 2) .nil)))
      .nil)
      .nil)
    (.seq (.set 4 (.lst (.cons (.lit (.int 2147483629)) (.cons (.lit (.int 2147483587)) (.cons (.lit (.int 2147483579)) (.cons (.lit (.int 2147483563)) (.cons (.lit (.int 2147483549)) (.cons (.lit (.int 2147483543)) (.cons (.lit (.int 2147483497)) (.cons (.lit (.int 2147483489)) .nil))))))))))
    (.seq (.ret (.lst (.cons (.var 3) (.cons (.bin .mod (.bin .pow (.bin .add (.bin .add (.bin .mod (.var 2) (.lit (.int 2147483647))) (.bin .mul (.lit (.int 104729)) (.var 1))) (.lit (.int 7))) (.lit (.int 5))) (.idx (.var 4) (.bin .mod (.var 1) (.lit (.int 8))))) .nil))))
    .nil)))))) }
def f__law_take : Fn := { ar := 2, n := 3, body :=
    (.seq (.ife (.cmp .gt (.idx (.var 0) (.lit (.int 0))) (.lit (.int 0)))
      (.seq (.set 2 (.bin .mod (.idx (.var 0) (.lit (.int 0))) (.var 1)))
      (.seq (.put (.var 0) (.lit (.int 0)) (.bin .fdiv (.idx (.var 0) (.lit (.int 0))) (.var 1)))
      (.seq (.ret (.var 2))
      .nil)))
      .nil)
    (.seq (.put (.var 0) (.lit (.int 1)) (.bin .mod (.bin .add (.bin .mul (.idx (.var 0) (.lit (.int 1))) (.lit (.int 48271))) (.lit (.int 11))) (.lit (.int 2147483647))))
    (.seq (.ret (.bin .mod (.bin .mod (.bin .pow (.bin .fdiv (.idx (.var 0) (.lit (.int 1))) (.lit (.int 8))) (.lit (.int 3))) (.lit (.int 2147483629))) (.var 1)))
    .nil))) }
def f__law_rules : Fn := { ar := 4, n := 5, body :=
    (.seq (.ife (.or (.cmp .ne (.call i_number_sum (.cons (.var 0) (.cons (.var 1) (.cons (.var 2) .nil)))) (.call i_number_sum (.cons (.var 0) (.cons (.var 2) (.cons (.var 1) .nil))))) (.cmp .ne (.call i_number_product (.cons (.var 0) (.cons (.var 1) (.cons (.var 2) .nil)))) (.call i_number_product (.cons (.var 0) (.cons (.var 2) (.cons (.var 1) .nil))))))
      (.seq (.ret (.lit (.bl false)))
      .nil)
      .nil)
    (.seq (.ife (.cmp .ne (.call i_number_sum (.cons (.var 0) (.cons (.call i_number_sum (.cons (.var 0) (.cons (.var 1) (.cons (.var 2) .nil)))) (.cons (.var 3) .nil)))) (.call i_number_sum (.cons (.var 0) (.cons (.var 1) (.cons (.call i_number_sum (.cons (.var 0) (.cons (.var 2) (.cons (.var 3) .nil)))) .nil)))))
      (.seq (.ret (.lit (.bl false)))
      .nil)
      .nil)
    (.seq (.ife (.cmp .ne (.call i_number_product (.cons (.var 0) (.cons (.call i_number_product (.cons (.var 0) (.cons (.var 1) (.cons (.var 2) .nil)))) (.cons (.var 3) .nil)))) (.call i_number_product (.cons (.var 0) (.cons (.var 1) (.cons (.call i_number_product (.cons (.var 0) (.cons (.var 2) (.cons (.var 3) .nil)))) .nil)))))
      (.seq (.ret (.lit (.bl false)))
      .nil)
      .nil)
    (.seq (.set 4 (.call i_number_sum (.cons (.var 0) (.cons (.call i_number_product (.cons (.var 0) (.cons (.var 1) (.cons (.var 2) .nil)))) (.cons (.call i_number_product (.cons (.var 0) (.cons (.var 1) (.cons (.var 3) .nil)))) .nil)))))
    (.seq (.ife (.or (.cmp .ne (.call i_number_product (.cons (.var 0) (.cons (.var 1) (.cons (.call i_number_sum (.cons (.var 0) (.cons (.var 2) (.cons (.var 3) .nil)))) .nil)))) (.var 4)) (.cmp .ne (.call i_number_sum (.cons (.var 0) (.cons (.call i_number_difference (.cons (.var 0) (.cons (.var 1) (.cons (.var 2) .nil)))) (.cons (.var 2) .nil)))) (.var 1)))
      (.seq (.ret (.lit (.bl false)))
      .nil)
      .nil)
    (.seq (.ret (.or (.cmp .eq (.var 2) (.lit (.int 0))) (.cmp .eq (.call i_number_product (.cons (.var 0) (.cons (.call i_number_quotient (.cons (.var 0) (.cons (.var 1) (.cons (.var 2) .nil)))) (.cons (.var 2) .nil)))) (.var 1))))
    .nil)))))) }
def f_law__2 : Fn := { ar := 1, n := 8, body :=
    (.seq (.fo (.rng1 (.blt .max2 (.cons (.lit (.int 2)) (.cons (.blt .min2 (.cons (.lit (.int 8)) (.cons (.blt .len (.cons (.var 0) .nil)) .nil))) .nil)))) (.nm 1)
      (.seq (.set 5 (.call i__law_bag (.cons (.var 0) (.cons (.var 1) .nil))))
      (.seq (.set 2 (.bin .add (.lit (.int 2)) (.calli i__law_take (.cons (.var 5) (.cons (.lit (.int 4)) .nil)))))
      (.seq (.ife (.not (.call i__law_rules (.cons (.var 2) (.cons (.calli i__law_take (.cons (.var 5) (.cons (.var 2) .nil))) (.cons (.calli i__law_take (.cons (.var 5) (.cons (.var 2) .nil))) (.cons (.calli i__law_take (.cons (.var 5) (.cons (.var 2) .nil))) .nil))))))
        (.seq (.ret (.lit (.bl false)))
        .nil)
        .nil)
      .nil))))
    (.seq (.set 2 (.bin .add (.lit (.int 2)) (.calli i__law_take (.cons (.call i__law_bag (.cons (.var 0) (.cons (.lit (.int 0)) .nil))) (.cons (.lit (.int 4)) .nil)))))
    (.seq (.set 3 (.comp [6] (.rng1 (.var 2)) (.nm 6) .no (.comp [7] (.rng1 (.var 2)) (.nm 7) .no (.call i_number_sum (.cons (.var 2) (.cons (.var 6) (.cons (.var 7) .nil)))))))
    (.seq (.set 4 (.comp [6] (.rng1 (.var 2)) (.nm 6) .no (.comp [7] (.rng1 (.var 2)) (.nm 7) .no (.call i_number_product (.cons (.var 2) (.cons (.var 6) (.cons (.var 7) .nil)))))))
    (.seq (.ret (.cmp .is (.call i_make_numbers (.cons (.var 3) (.cons (.var 4) .nil))) (.lit (.bl true))))
    .nil))))) }
def e_is_whole : DefE := ⟨i_is_whole, "is_whole", ["thing"], ["thing"], f_is_whole, top 7⟩
def e_look_field : DefE := ⟨i_look_field, "look_field", ["q"], ["q"], f_look_field, top 8⟩
def e_sum_known : DefE := ⟨i_sum_known, "sum_known", ["q", "a", "b"], ["q", "a", "b"], f_sum_known, top 9⟩
def e_difference_known : DefE := ⟨i_difference_known, "difference_known", ["q", "a", "b"], ["q", "a", "b"], f_difference_known, top 10⟩
def e_product_known : DefE := ⟨i_product_known, "product_known", ["q", "a", "b"], ["q", "a", "b", "found", "place"], f_product_known, top 11⟩
def e_back_known : DefE := ⟨i_back_known, "back_known", ["q", "a"], ["q", "a", "b"], f_back_known, top 12⟩
def e_number_sum : DefE := ⟨i_number_sum, "number_sum", ["q", "a", "b"], ["q", "a", "b"], f_number_sum, top 13⟩
def e_number_difference : DefE := ⟨i_number_difference, "number_difference", ["q", "a", "b"], ["q", "a", "b"], f_number_difference, top 14⟩
def e_number_product : DefE := ⟨i_number_product, "number_product", ["q", "a", "b"], ["q", "a", "b"], f_number_product, top 15⟩
def e_number_quotient : DefE := ⟨i_number_quotient, "number_quotient", ["q", "a", "b"], ["q", "a", "b"], f_number_quotient, top 16⟩
def e_is_table_of : DefE := ⟨i_is_table_of, "is_table_of", ["thing", "size"], ["thing", "size", "row", "one"], f_is_table_of, top 17⟩
def e_is_evenly_told : DefE := ⟨i_is_evenly_told, "is_evenly_told", ["table"], ["table", "size", "a", "b", "c"], f_is_evenly_told, top 18⟩
def e_has_backs : DefE := ⟨i_has_backs, "has_backs", ["table", "still", "least"], ["table", "still", "least", "row"], f_has_backs, top 19⟩
def e_are_shared_out : DefE := ⟨i_are_shared_out, "are_shared_out", ["sums", "products"], ["sums", "products", "a", "b", "c"], f_are_shared_out, top 20⟩
def e_make_numbers : DefE := ⟨i_make_numbers, "make_numbers", ["sums", "products"], ["sums", "products"], f_make_numbers, top 21⟩
def e__law_bag : DefE := ⟨i__law_bag, "_law_bag", ["_law_script", "_law_at"], ["_law_script", "_law_at", "_law_cell", "_law_great", "_law_primes"], f__law_bag, top 23⟩
def e__law_take : DefE := ⟨i__law_take, "_law_take", ["_law_bag_here", "_law_many"], ["_law_bag_here", "_law_many", "_law_digit"], f__law_take, top 24⟩
def e__law_rules : DefE := ⟨i__law_rules, "_law_rules", ["_law_q", "_law_a", "_law_b", "_law_c"], ["_law_q", "_law_a", "_law_b", "_law_c", "_law_due"], f__law_rules, top 25⟩
def e_law : DefE := ⟨i_law__2, "law", ["_law_script"], ["_law_script", "_law_k", "_law_q", "_law_sums", "_law_products", "_law_bag_here", "_law_a", "_law_b"], f_law__2, top 26⟩
def defs : List DefE := [e_is_whole, e_look_field, e_sum_known, e_difference_known, e_product_known, e_back_known, e_number_sum, e_number_difference, e_number_product, e_number_quotient, e_is_table_of, e_is_evenly_told, e_has_backs, e_are_shared_out, e_make_numbers, e__law_bag, e__law_take, e__law_rules, e_law]
def txt : Txt := { defs := defs, cls := [(1, "NoField"), (2, "NoOver")], con := [("KNOWN", (.tup [(.int 2), (.int 3), (.int 4), (.int 5)])), ("MOST", (.int 6))], bln := ["abs", "all", "any", "bool", "int", "isinstance", "len", "list", "max", "min", "range"] }
abbrev G : Tab := txt.tab 1000
theorem g_is_whole : G.fns i_is_whole = some f_is_whole := rfl
theorem g_look_field : G.fns i_look_field = some f_look_field := rfl
theorem g_sum_known : G.fns i_sum_known = some f_sum_known := rfl
theorem g_difference_known : G.fns i_difference_known = some f_difference_known := rfl
theorem g_product_known : G.fns i_product_known = some f_product_known := rfl
theorem g_back_known : G.fns i_back_known = some f_back_known := rfl
theorem g_number_sum : G.fns i_number_sum = some f_number_sum := rfl
theorem g_number_difference : G.fns i_number_difference = some f_number_difference := rfl
theorem g_number_product : G.fns i_number_product = some f_number_product := rfl
theorem g_number_quotient : G.fns i_number_quotient = some f_number_quotient := rfl
theorem g_is_table_of : G.fns i_is_table_of = some f_is_table_of := rfl
theorem g_is_evenly_told : G.fns i_is_evenly_told = some f_is_evenly_told := rfl
theorem g_has_backs : G.fns i_has_backs = some f_has_backs := rfl
theorem g_are_shared_out : G.fns i_are_shared_out = some f_are_shared_out := rfl
theorem g_make_numbers : G.fns i_make_numbers = some f_make_numbers := rfl
theorem g__law_bag : G.fns i__law_bag = some f__law_bag := rfl
theorem g__law_take : G.fns i__law_take = some f__law_take := rfl
theorem g__law_rules : G.fns i__law_rules = some f__law_rules := rfl
theorem g_law__2 : G.fns i_law__2 = some f_law__2 := rfl
theorem txt_ok : txt.okB = true := by kernel_rfl
end Z
namespace Z
open PySem
def primes8 : List Int := [2147483629, 2147483587, 2147483579, 2147483563, 2147483549, 2147483543, 2147483497, 2147483489]
theorem pr8 {i : Nat} (h : i < 8) : ∃ p : Int, (primes8.map D.int)[i]? = some (.int p) ∧ 0 < p ∧ p < 2147483648 := by
  have : i = 0 ∨ i = 1 ∨ i = 2 ∨ i = 3 ∨ i = 4 ∨ i = 5 ∨ i = 6 ∨ i = 7 := by omega
  rcases this with rfl | rfl | rfl | rfl | rfl | rfl | rfl | rfl <;> exact ⟨_, rfl, by decide, by decide⟩
theorem bag_ok (d : Nat) (ns : List Int) (S : Sto) (k : Nat) (hk : k ≤ 1000) : ∃ g m : Int, 0 ≤ g ∧ 0 ≤ m ∧ m < 2147483648 ∧ cP G (d + 1) i__law_bag [.lst 0, .int k] (.ro (ns.map D.int) :: S) = .ok (.tmp [.int g, .int m]) [] := by
  have key : ∀ c : Int, ∃ g m : Int, 0 ≤ g ∧ 0 ≤ m ∧ m < 2147483648 ∧ tidyR (.ro (ns.map D.int) :: S) (fin (exs (cP G d) (cI G d) (.ro (ns.map D.int) :: S) G.fu (B.drop 2 f__law_bag.body) [some (.lst 0), some (.int k), some (.int c), none, none] [])) = .ok (.tmp [.int g, .int m]) [] := by
    intro c
    obtain ⟨p, hp, hp0, hp1⟩ := pr8 (i := k % 8) (by omega)
    have e8 : ((k : Int) % 8).toNat = k % 8 := by omega
    have hm1 : okm 104729 (k : Int) = true := okm_l (by decide) (by decide)
    have hp10 : okp 10 18 = true := by decide
    have hp5 : okp (c % 2147483647 + 104729 * (k : Int) + 7) 5 = true := okp_is (by decide) (by decide) (by omega) (by omega)
    have hidx : idxV (.ro (ns.map D.int) :: S) (.lst (S.length + 1)) (.int ((k : Int) % 8)) [Cell.lst (primes8.map D.int)] = .ok (.int p) [Cell.lst (primes8.map D.int)] :=
      x_idx (xs := primes8.map D.int) (q_lst (c := .lst (primes8.map D.int)) (at_nw (a := 0))) (by omega) (by rw [e8]; exact hp)
    simp only [primes8, List.map_cons, List.map_nil] at hidx
    simp [f__law_bag, B.drop, hp10]
    generalize hab : (if c < 0 then -c else c) = ab
    have h0 : 0 ≤ ab := by subst hab; split <;> omega
    have h5 := Int.emod_nonneg ((c % 2147483647 + 104729 * (k : Int) + 7) ^ 5) (by omega : p ≠ 0)
    have h6 := Int.emod_lt_of_pos ((c % 2147483647 + 104729 * (k : Int) + 7) ^ 5) hp0
    by_cases hb : 1000000000000000000 ≤ ab
    · refine ⟨ab, h0, (c % 2147483647 + 104729 * (k : Int) + 7) ^ 5 % p, h5, by omega, ?_⟩
      simp [hb, hab, hm1, hp5, hidx, hp0, SL, td_tmp]
    · refine ⟨0, by omega, (c % 2147483647 + 104729 * (k : Int) + 7) ^ 5 % p, h5, by omega, ?_⟩
      simp [hb, hm1, hp5, hidx, hp0, SL, td_tmp]
  rw [cP_run g__law_bag rfl]
  by_cases hlt : k < ns.length
  · obtain ⟨g, m, h1, h2, h3, h4⟩ := key ns[k]
    refine ⟨g, m, h1, h2, h3, ?_⟩
    rw [← h4]
    have hidx : idxV (.ro (ns.map D.int) :: S) (.lst 0) (.int (k : Int)) [] = .ok (.int ns[k]) [] :=
      x_idx (q_lst at_0) (by omega) (by simp [hlt])
    simp [f__law_bag, start, hlt, hidx, B.drop]
  · obtain ⟨g, m, h1, h2, h3, h4⟩ := key 0
    refine ⟨g, m, h1, h2, h3, ?_⟩
    rw [← h4]
    simp [f__law_bag, start, hlt, B.drop]
/-- a bag's next digit, and the bag behind -/
def tk (g m n : Int) : Int × Int × Int := if 0 < g then (g % n, g / n, m) else ((((m * 48271 + 11) % 2147483647) / 8) ^ 3 % 2147483629 % n, g, (m * 48271 + 11) % 2147483647)
theorem take_ok (d a : Nat) (old S : Sto) (g m n : Int) (hS : S[a]? = some (.lst [.int g, .int m])) (hm0 : 0 ≤ m) (hm1 : m < 2147483648) (hn : 0 < n) (hn1 : n < 1073741824) :
    cI G (d + 1) i__law_take [.lst (old.length + a), .int n] old S = .ok (.int (tk g m n).1) (S.set a (.lst [.int (tk g m n).2.1, .int (tk g m n).2.2])) := by
  rw [cI_run g__law_take rfl]
  have ha : a < S.length := (List.getElem?_eq_some_iff.mp hS).1
  have i0 : ∀ (j0 j1 : D), idxV old (.lst (old.length + a)) (.int 0) (S.set a (.lst [j0, j1])) = .ok j0 (S.set a (.lst [j0, j1])) := fun j0 j1 => x_idx (q_lst (c := .lst [j0, j1]) (by rw [at_nw]; simp [ha])) (by decide) rfl
  have i1 : ∀ (j0 j1 : D), idxV old (.lst (old.length + a)) (.int 1) (S.set a (.lst [j0, j1])) = .ok j1 (S.set a (.lst [j0, j1])) := fun j0 j1 => x_idx (q_lst (c := .lst [j0, j1]) (by rw [at_nw]; simp [ha])) (by decide) rfl
  have e : S.set a (.lst [.int g, .int m]) = S := by
    apply List.ext_getElem? ; intro i
    rw [List.getElem?_set]
    split
    · rename_i h; subst h; exact hS.symm
    · rfl
  have i0' := i0 (.int g) (.int m)
  have i1' := i1 (.int g) (.int m)
  rw [e] at i0' i1'
  have p0 : ∀ (x y v : D), putV old (.lst (old.length + a)) (.int 0) v (S.set a (.lst [x, y])) = some (S.set a (.lst [v, y])) := fun x y v => by
    have := put_new (old := old) (S := S.set a (.lst [x, y])) (a := a) (k := 0) (xs := [x, y]) (v := v) (by simp [ha]) (by simp)
    simpa using this
  have p1 : ∀ (x y v : D), putV old (.lst (old.length + a)) (.int 1) v (S.set a (.lst [x, y])) = some (S.set a (.lst [x, v])) := fun x y v => by
    have := put_new (old := old) (S := S.set a (.lst [x, y])) (a := a) (k := 1) (xs := [x, y]) (v := v) (by simp [ha]) (by simp)
    simpa using this
  have p0' := p0 (.int g) (.int m)
  have p1' := p1 (.int g) (.int m)
  rw [e] at p0' p1'
  by_cases hg : 0 < g
  · simp [f__law_take, start, i0', hg, tk, p0', hn, hn1]
  · have hk1 : okm m 48271 = true := okm_r (by decide) (by decide)
    have hk2 : okp ((m * 48271 + 11) % 2147483647 / 8) 3 = true := okp_is (by decide) (by decide) (by omega) (by omega)
    simp [f__law_take, start, i0', i1', hg, tk, p1', hn, hn1, hk1, hk2, i1]
theorem tk_lt (g m n : Int) (hn : 0 < n) : 0 ≤ (tk g m n).1 ∧ (tk g m n).1 < n := by
  unfold tk
  split
  · exact ⟨Int.emod_nonneg _ (by omega), Int.emod_lt_of_pos _ hn⟩
  · exact ⟨Int.emod_nonneg _ (by omega), Int.emod_lt_of_pos _ hn⟩
theorem tk_m (g m n : Int) (h0 : 0 ≤ m) (h1 : m < 2147483648) : 0 ≤ (tk g m n).2.2 ∧ (tk g m n).2.2 < 2147483648 := by
  unfold tk
  split
  · exact ⟨h0, h1⟩
  · exact ⟨by simp only; omega, by simp only; omega⟩
/-- a bag in the store -/
def Bag (S : Sto) (a : Nat) : Prop := ∃ g m : Int, S[a]? = some (.lst [.int g, .int m]) ∧ 0 ≤ m ∧ m < 2147483648
/-- the store but for one place -/
def Same (a : Nat) (S S' : Sto) : Prop := S'.length = S.length ∧ ∀ i, i ≠ a → S'[i]? = S[i]?
theorem take_bag (d : Nat) {a : Nat} {old S : Sto} {n : Int} (hb : Bag S a) (hn : 0 < n) (hn1 : n < 1073741824) : ∃ (r : Int) (S' : Sto), 0 ≤ r ∧ r < n ∧ cI G (d + 1) i__law_take [.lst (old.length + a), .int n] old S = .ok (.int r) S' ∧ Bag S' a ∧ Same a S S' := by
  obtain ⟨g, m, h1, h2, h3⟩ := hb
  have ha : a < S.length := (List.getElem?_eq_some_iff.mp h1).1
  refine ⟨_, _, (tk_lt g m n hn).1, (tk_lt g m n hn).2, take_ok d a old S g m n h1 h2 h3 hn hn1, ⟨(tk g m n).2.1, (tk g m n).2.2, ?_, tk_m g m n h2 h3⟩, by simp, fun i hi => ?_⟩
  · rw [List.getElem?_set_self ha]
  · rw [List.getElem?_set_ne (fun e => hi e.symm)]
end Z
namespace Z
open PySem
def isT1 : R D → Bool
  | .ok (.bl true) [] => true
  | _ => false
theorem isT1_of {r : R D} (h : isT1 r = true) : r = .ok (.bl true) [] := by
  unfold isT1 at h
  split at h
  · rfl
  · cases h
def rulesB (q : Nat) : Bool := (List.range q).all fun a => (List.range q).all fun b => (List.range q).all fun c => isT1 (cP G 19 i__law_rules [.int q, .int a, .int b, .int c] [])
theorem rules2 : rulesB 2 = true := by kernel_rfl
theorem rules3 : rulesB 3 = true := by kernel_rfl
theorem rules4 : rulesB 4 = true := by kernel_rfl
theorem rules5 : rulesB 5 = true := by kernel_rfl
theorem rules_ok (q a b c : Int) (h1 : 2 ≤ q) (h2 : q ≤ 5) (ha : 0 ≤ a) (ha2 : a < q) (hb : 0 ≤ b) (hb2 : b < q) (hc : 0 ≤ c) (hc2 : c < q) (S : Sto) : cP G 19 i__law_rules [.int q, .int a, .int b, .int c] S = .ok (.bl true) [] := by
  obtain ⟨q, rfl⟩ := Int.eq_ofNat_of_zero_le (by omega : 0 ≤ q)
  obtain ⟨a, rfl⟩ := Int.eq_ofNat_of_zero_le ha
  obtain ⟨b, rfl⟩ := Int.eq_ofNat_of_zero_le hb
  obtain ⟨c, rfl⟩ := Int.eq_ofNat_of_zero_le hc
  refine cP_any G 19 _ _ S rfl rfl (isT1_of ?_)
  have hq : rulesB q = true := by
    have : q = 2 ∨ q = 3 ∨ q = 4 ∨ q = 5 := by omega
    rcases this with rfl | rfl | rfl | rfl
    · exact rules2
    · exact rules3
    · exact rules4
    · exact rules5
  unfold rulesB at hq
  have h := List.all_eq_true.mp hq a (List.mem_range.mpr (by omega))
  have h := List.all_eq_true.mp h b (List.mem_range.mpr (by omega))
  exact List.all_eq_true.mp h c (List.mem_range.mpr (by omega))
theorem turn_ok (ns : List Int) (k : Nat) (hk : k ≤ 1000) (x2 x3 x4 x5 x6 x7 : Option D) (S : Sto) : ∃ S' e1 e2 e3 e4 e5 e6 e7, exs (cP G 19) (cI G 19) (given ns) 1000 f_law__2.body.fo [some (.lst 0), some (.int k), x2, x3, x4, x5, x6, x7] S = .nx [some (.lst 0), e1, e2, e3, e4, e5, e6, e7] S' := by
  obtain ⟨g, m, hg, hm0, hm1, eb⟩ := bag_ok 18 ns S k hk
  have hB : Bag (S ++ [Cell.lst [.int g, .int m]]) S.length := ⟨g, m, by simp, hm0, hm1⟩
  obtain ⟨r1, S1, a1, b1, t1, hB1, _⟩ := take_bag 18 (old := given ns) (n := 4) hB (by decide) (by decide)
  obtain ⟨r2, S2, a2, b2, t2, hB2, _⟩ := take_bag 18 (old := given ns) (n := 2 + r1) hB1 (by omega) (by omega)
  obtain ⟨r3, S3, a3, b3, t3, hB3, _⟩ := take_bag 18 (old := given ns) (n := 2 + r1) hB2 (by omega) (by omega)
  obtain ⟨r4, S4, a4, b4, t4, hB4, _⟩ := take_bag 18 (old := given ns) (n := 2 + r1) hB3 (by omega) (by omega)
  have hrr := rules_ok (2 + r1) r2 r3 r4 (by omega) (by omega) a2 b2 a3 b3 a4 b4
  have hl : (given ns).length = 1 := rfl
  have hg : ∀ S, given ns ++ S = .ro (ns.map D.int) :: S := fun S => rfl
  rw [hl] at t1 t2 t3 t4
  simp [f_law__2, B.fo, hg, eb, hl, t1, t2, t3, t4, hrr]

theorem tail_ok (ns : List Int) (q : Int) (h1 : 2 ≤ q) (h2 : q ≤ 5) : ∃ S, exs (cP G 19) (cI G 19) (given ns) 1000 (B.drop 2 f_law__2.body) [none, none, some (.int q), none, none, none, none, none] [] = .rt (.bl true) S := by
  have : q = 2 ∨ q = 3 ∨ q = 4 ∨ q = 5 := by omega
  rcases this with rfl | rfl | rfl | rfl <;> exact isRt_of (by kernel_rfl)
theorem law_ok (ns : List Int) (hl : ns.length ≤ 63) : ∃ S, cI G 20 i_law__2 [.lst 0] (given ns) [] = .ok (.bl true) S := by
  have hG : ∀ S, given ns ++ S = .ro (ns.map D.int) :: S := fun S => rfl
  rw [cI_run g_law__2 rfl]
  obtain ⟨env', S', e1, x1, x2, x3, x4, x5, x6, x7, hx⟩ := floop_rng (old := given ns) (lo := 0) (st := 1) (i := 1) (body := fun env S => exs (cP G 19) (cI G 19) (given ns) 1000 f_law__2.body.fo env S)
    (inv := fun _ env S => ∃ x1 x2 x3 x4 x5 x6 x7, env = [some (.lst 0), x1, x2, x3, x4, x5, x6, x7]) (if 2 < (if (ns.length : Int) < 8 then (ns.length : Int) else 8) then (if (ns.length : Int) < 8 then (ns.length : Int) else 8) else 2).toNat 0 _ (Nat.zero_add _)
    (fun j hj env S h => by
      obtain ⟨x1, x2, x3, x4, x5, x6, x7, rfl⟩ := h
      obtain ⟨S', e1, e2, e3, e4, e5, e6, e7, h⟩ := turn_ok ns j (by split at hj <;> (try split at hj) <;> omega) x2 x3 x4 x5 x6 x7 S
      refine ⟨_, S', ?_, e1, e2, e3, e4, e5, e6, e7, rfl⟩
      simpa using h) [some (.lst 0), none, none, none, none, none, none, none] [] ⟨none, none, none, none, none, none, none, rfl⟩
  subst hx
  obtain ⟨g, m, hg, hm0, hm1, eb⟩ := bag_ok 18 ns S' 0 (by decide)
  have hB : Bag (S' ++ [Cell.lst [.int g, .int m]]) S'.length := ⟨g, m, by simp, hm0, hm1⟩
  obtain ⟨r1, S1, a1, b1, t1, hB1, _⟩ := take_bag 18 (old := given ns) (n := 4) hB (by decide) (by decide)
  have hl : (given ns).length = 1 := rfl
  rw [hl] at t1
  obtain ⟨S2, h2⟩ := tail_ok ns (2 + r1) (by omega) (by omega)
  have ht := tail_of (S := S1) h2 (e2 := [some (.lst 0), x1, some (.int (2 + r1)), x3, x4, x5, x6, x7]) ⟨rfl, fun i d hi => by
    match i with
    | 0 => cases hi
    | 1 => cases hi
    | 2 => exact hi
    | 3 => cases hi
    | 4 => cases hi
    | 5 => cases hi
    | 6 => cases hi
    | 7 => cases hi
    | i + 8 => cases hi⟩
  have hb : f_law__2.body = .seq (.fo (.rng1 (.blt .max2 (.cons (.lit (.int 2)) (.cons (.blt .min2 (.cons (.lit (.int 8)) (.cons (.blt .len (.cons (.var 0) .nil)) .nil))) .nil)))) (.nm 1) f_law__2.body.fo) (.seq (.set 2 (.bin .add (.lit (.int 2)) (.calli i__law_take (.cons (.call i__law_bag (.cons (.var 0) (.cons (.lit (.int 0)) .nil))) (.cons (.lit (.int 4)) .nil))))) (B.drop 2 f_law__2.body)) := rfl
  rw [hb]
  have hx1 : (if 2 < (if (ns.length : Int) < 8 then (ns.length : Int) else 8) then (if (ns.length : Int) < 8 then (ns.length : Int) else 8) else 2) < 4611686018427387904 := by split <;> (try split) <;> omega
  have hx0 : -4611686018427387904 ≤ (if 2 < (if (ns.length : Int) < 8 then (ns.length : Int) else 8) then (if (ns.length : Int) < 8 then (ns.length : Int) else 8) else 2) := by split <;> (try split) <;> omega
  have hfu : G.fu = 1000 := rfl
  generalize hN : (if 2 < (if (ns.length : Int) < 8 then (ns.length : Int) else 8) then (if (ns.length : Int) < 8 then (ns.length : Int) else 8) else 2) = N at e1 hx0 hx1
  have hn : f_law__2.n = 8 := rfl
  have hg0 : ∀ S, at_ (given ns) S 0 = some (.ro (ns.map D.int)) := fun S => rfl
  rw [show ((0 : Nat) : Int) = 0 from rfl] at eb
  simp [start, hG, hN, hx0, hx1, hfu, e1, hn, hg0, hl, eb, t1, ht, D.rn]
end Z
open PySem PySem.W PyProof.Rows
set_option maxRecDepth 100000 in
set_option maxHeartbeats 0 in
theorem PySem.Challenge.cw_spreadplanes_k02_whole_numbers_share_out_holds : PySem.Challenge.rw_spreadplanes_k02_whole_numbers_share_out.Holds := by
  w_on; o_law; k_head; (case hw => w_witness2)
  k_fill
  refine Z.walk (l := PySem.Challenge.rw_spreadplanes_k02_whole_numbers_share_out) (t := Z.txt) (e := Z.e_law) 1000 20 rfl rfl ⟨rfl, by decide, by decide⟩ (fun w h Y => PySem.W.kIn_of Y) Z.txt_ok ?S (.tail _ (.tail _ (.tail _ (.tail _ (.tail _ (.tail _ (.tail _ (.tail _ (.tail _ (.tail _ (.tail _ (.tail _ (.tail _ (.tail _ (.tail _ (.tail _ (.tail _ (.tail _ (.head _))))))))))))))))))) rfl rfl Z.law_ok
  exact fun w => ⟨by kernel_rfl, by kernel_rfl, by kernel_rfl, by kernel_rfl⟩
