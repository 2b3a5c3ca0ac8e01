import PyProof.Rows.All
import Wide.All
import OpenK.AllK
import Wide.FinOn
import HandS.ForExc
import HandS.Comp
import HandS.Iter
import HandS.Text
import HandS.Dict
import HandS.Flow
import HandS.More
import HandS.IsInst
import HandS.TupAny
import HandS.Conv
import HandS.CallSlots
import HandS.Strs
import HandS.ExcInit
import HandS.TryMany
import HandS.WideBits
import HandS.Wide
import PyProof.IsRules
import HandS.TupSets
import HandS.SetFor
import PyProof.Rows.SortShellAny
import PyProof.Rows.SortStr
import KE.GoesEnum
import KE.GoesMore
import HandS.ExcField
import HandS.ExcIs
import KE.KExcIs
import HandS.Sort
import HandS.WordsExc
import HandS.Nested
import HandS.FStr
import KE.KExcSuper
import PyProof.StrLaws
import HandS.Ends
import HandS.EndBits
import PyProof.TableCode
import PySem.Challenge.RW_eachpicks_k01_whole_sayings_in_views
set_option Elab.async false
section
/-! CORE: a small language of slots and plain data, and its evaluator. Plain Lean; nothing of the model. -/
namespace Cz
/-- plain data -/
inductive D where
  | non | bl (b : Bool) | int (i : Int) | str (s : List Nat)
  | tup (xs : List D) | lst (xs : List D)
  /-- a dict with texts as keys -/
  | dct (ks : List (List Nat)) (vs : List D)
deriving Inhabited
/-- a text -/
def tx (s : String) : List Nat := s.toList.map Char.toNat
abbrev D.s (x : String) : D := .str (tx x)

mutual
def D.beq : D → D → Bool
  | .non, .non => true
  | .bl a, .bl b => a == b
  | .bl a, .int b => (if a then 1 else 0) == b
  | .int a, .bl b => a == (if b then 1 else 0)
  | .int a, .int b => a == b
  | .str a, .str b => a == b
  | .tup a, .tup b => D.beqs a b
  | .lst a, .lst b => D.beqs a b
  | _, _ => false
def D.beqs : List D → List D → Bool
  | [], [] => true
  | a :: r, b :: q => D.beq a b && D.beqs r q
  | _, _ => false
end

mutual
/-- no dict in it, nothing within more than n others -/
def depLe : Nat → D → Bool
  | n, .tup xs => match n with
    | 0 => false
    | n + 1 => depsLe n xs
  | n, .lst xs => match n with
    | 0 => false
    | n + 1 => depsLe n xs
  | _, .dct _ _ => false
  | _, .non => true
  | _, .bl _ => true
  | _, .int _ => true
  | _, .str _ => true
def depsLe : Nat → List D → Bool
  | _, [] => true
  | n, x :: r => depLe n x && depsLe n r
end
/-- a text of bounded length and signs -/
def sOk (s : List Nat) : Bool := decide (s.length ≤ 100000) && s.all (fun c => decide (c < 1114112))

/-- an exception: the number of its class, what it bears -/
structure Exn where
  cls : Nat
  arg : D
deriving Inhabited

/-- a slot: nothing, data, a list of the def's own (lent = true: the caller's) -/
inductive Sl where
  | no | d (x : D) | own (lent : Bool) (xs : List D) | exn (x : Exn)
deriving Inhabited
abbrev Env := List Sl
/-- a value: data, a list just made, the list that a slot owns -/
inductive Val where
  | p (d : D) | f (xs : List D) | b (i : Nat)
deriving Inhabited
inductive Re where
  | ok (v : Val) (ρ : Env) | ex (x : Exn) (ρ : Env) | bad
deriving Inhabited
inductive Ra where
  | ok (vs : List Val) (ρ : Env) | ex (x : Exn) (ρ : Env) | bad
deriving Inhabited
inductive Rs where
  | nx (ρ : Env) | rt (v : Val) (ρ : Env) | bk (ρ : Env) | ct (ρ : Env) | ex (x : Exn) (ρ : Env) | bad
deriving Inhabited
/-- an argument of a call: data, a lent list -/
inductive Arg where
  | a (d : D) | o (xs : List D)
deriving Inhabited
/-- a call's end: the value (Val.p or Val.f), the lent lists behind it in the arguments' order -/
inductive Rc where
  | ok (v : Val) (outs : List (List D)) | ex (x : Exn) (outs : List (List D)) | bad
deriving Inhabited

inductive Bop where | add | sub | mul | fdiv | mod | pow | shl | shr | and | or | xor
deriving DecidableEq
inductive Cop where | eq | ne | lt | le | gt | ge | in_ | nin | isN | nisN
deriving DecidableEq
inductive Bi where | len | int | abs | tuple | list | all | any | max2 | min2 | sorted | sum | set_
deriving DecidableEq
inductive Ty where | int | bool | str | tuple | list
deriving DecidableEq
inductive Me where | count | index | indexL | bitlen
deriving DecidableEq

mutual
inductive E where
  | var (i : Nat)
  | bor (i : Nat)
  | c (d : D)
  | g (k : Nat)
  | bin (o : Bop) (a b : E)
  | neg (a : E)
  | cmp (o : Cop) (a b : E)
  | chain (o o' : Cop) (a b c : E)
  | and (es : Es) | or (es : Es)
  | not (a : E)
  | ife (t a b : E)
  | tup (es : Es) | lst (es : Es)
  | dcc (ks : List (List Nat)) (vs : List D)
  | ix (a b : E)
  | slF (a lo : E) | slT (a hi : E) | slFT (a lo hi : E)
  | call (f : Nat) (es : Es)
  | bi (b : Bi) (es : Es)
  | isi (a : E) (ts : List Ty)
  | me (m : Me) (a : E) (es : Es)
  | lc (t : List Nat) (it : It) (cs : Es) (e : E)
  | lc2 (t : List Nat) (it : It) (t2 : List Nat) (it2 : It) (e : E)
  | sset (e : E)
  | inr (neg : Bool) (a lo hi : E)
  | exf (i : Nat) (f : Nat)
  | exis (i : Nat) (c : Nat)
inductive Es where
  | nil | cons (e : E) (es : Es)
inductive It where
  | val (e : E) | r1 (a : E) | r2 (a b : E) | r3 (a b c : E) | enum (e : E)
end
mutual
inductive S where
  | asg (i : Nat) (e : E)
  | asgT (is : List Nat) (e : E)
  | asgIx (i : Nat) (k e : E)
  | app (i : Nat) (e : E)
  | ex (e : E)
  | ret (e : E) | retN
  | ife (t : E) (a b : Ss)
  | for_ (t : List Nat) (it : It) (body : Ss)
  | while_ (t : E) (body : Ss)
  | raise (c : Nat) (e : E)
  | try_ (body : Ss) (hs : Hs)
  | pass | brk | cnt
inductive Ss where
  | nil | cons (s : S) (ss : Ss)
inductive Hs where
  | nil | cons (c : Nat) (i : Option Nat) (ss : Ss) (hs : Hs)
end

/-! ### operations on data -/
def truth : D → Option Bool
  | .non => some false
  | .bl b => some b
  | .int i => some (i != 0)
  | .str s => some (s.length != 0)
  | .tup xs => some (!xs.isEmpty)
  | .lst xs => some (!xs.isEmpty)
  | .dct .. => none
/-- Python's index into n places -/
def pix (n : Nat) (i : Int) : Option Nat := if 0 ≤ i then (if i < n then some i.toNat else none) else if -(n : Int) ≤ i then some (i + n).toNat else none
/-- a slice's bound as a place among n -/
def six (n d : Nat) : Option Int → Nat
  | none => d
  | some v => if v < 0 then (v + (n : Int)).toNat else min v.toNat n
def cut {α : Type} (xs : List α) (lo hi : Option Int) : List α := (xs.drop (six xs.length 0 lo)).take (six xs.length xs.length hi - six xs.length 0 lo)
def slice (d : D) (lo hi : Option Int) : Option Val :=
  match d with
  | .tup xs => some (.p (.tup (cut xs lo hi)))
  | .lst xs => some (.f (cut xs lo hi))
  | .str xs => some (.p (.str (cut xs lo hi)))
  | _ => none
def item (d : D) (i : D) : Option D :=
  match d, i with
  | .tup xs, .int i => (pix xs.length i).bind (xs[·]?)
  | .lst xs, .int i => (pix xs.length i).bind (xs[·]?)
  | .str xs, .int i => (pix xs.length i).bind fun k => (xs[k]?).map fun c => .str [c]
  | .dct ks vs, .str k => (ks.idxOf? k).bind (vs[·]?)
  | _, _ => none
def big : Nat := 2 ^ 64
def binD (o : Bop) (a b : D) : Option Val :=
  match o, a, b with
  | .add, .int i, .int j => some (.p (.int (i + j)))
  | .add, .str x, .str y => if x.length + y.length ≤ 100000 then some (.p (.str (x ++ y))) else none
  | .add, .tup x, .tup y => if x.length + y.length ≤ 100000 then some (.p (.tup (x ++ y))) else none
  | .add, .lst x, .lst y => if x.length + y.length ≤ 100000 then some (.f (x ++ y)) else none
  | .sub, .int i, .int j => some (.p (.int (i - j)))
  | .mul, .int i, .int j => if i.natAbs < big ∨ j.natAbs < big then some (.p (.int (i * j))) else none
  | .fdiv, .int i, .int j => if 0 < j ∧ j < 18446744073709551616 then some (.p (.int (i / j))) else none
  | .mod, .int i, .int j => if 0 < j then some (.p (.int (i % j))) else none
  | .pow, .int i, .int j => if 0 ≤ j ∧ j ≤ 100000 ∧ i.natAbs < big then some (.p (.int (i ^ j.toNat))) else none
  | .shl, .int i, .int j => if 0 ≤ j ∧ j ≤ 100000 ∧ i.natAbs.log2 < 2000000 then some (.p (.int (i * 2 ^ j.toNat))) else none
  | .shr, .int i, .int j => if 0 ≤ j then some (.p (.int (i / 2 ^ j.toNat))) else none
  | .and, .int i, .int j => if 0 ≤ i then (if 0 ≤ j then some (.p (.int ((i.toNat &&& j.toNat : Nat)))) else some (.p (.int (i - ((i.toNat &&& (-j - 1).toNat : Nat) : Int))))) else none
  | .or, .int i, .int j => if 0 ≤ i ∧ 0 ≤ j then some (.p (.int ((i.toNat ||| j.toNat : Nat)))) else none
  | .xor, .int i, .int j => if 0 ≤ i ∧ 0 ≤ j then some (.p (.int ((i.toNat ^^^ j.toNat : Nat)))) else none
  | _, _, _ => none
/-- flat things: what stands in a written row and is looked for with in -/
def flat : D → Bool
  | .non => true | .bl _ => true | .int _ => true | .str _ => true | _ => false
def memD (x : D) (ys : List D) : Bool := ys.any fun y => D.beq y x
def isNon : D → Bool
  | .non => true
  | _ => false
def isBl (b : Bool) : D → Bool
  | .bl x => x == b
  | _ => false
def cmpD (o : Cop) (a b : D) : Option Bool :=
  match o, a, b with
  | .eq, a, b => if depLe 100 a && depLe 100 b then some (D.beq a b) else none
  | .ne, a, b => if depLe 100 a && depLe 100 b then some (!D.beq a b) else none
  | .lt, .int i, .int j => some (decide (i < j))
  | .le, .int i, .int j => some (decide (i ≤ j))
  | .gt, .int i, .int j => some (decide (j < i))
  | .ge, .int i, .int j => some (decide (j ≤ i))
  | .lt, .str x, .str y => some (decide (x < y))
  | .le, .str x, .str y => some (!decide (y < x))
  | .in_, x, .tup ys => if flat x && ys.all flat then some (memD x ys) else none
  | .in_, x, .lst ys => if flat x && ys.all flat then some (memD x ys) else none
  | .nin, x, .tup ys => if flat x && ys.all flat then some (!memD x ys) else none
  | .nin, x, .lst ys => if flat x && ys.all flat then some (!memD x ys) else none
  | .in_, .str x, .dct ks _ => some (ks.contains x)
  | .nin, .str x, .dct ks _ => some (!ks.contains x)
  | .isN, a, .non => some (isNon a)
  | .nisN, a, .non => some (!isNon a)
  | .isN, a, .bl b => some (isBl b a)
  | .nisN, a, .bl b => some (!isBl b a)
  | _, _, _ => none
def isTy (d : D) (t : Ty) : Bool :=
  match d, t with
  | .bl _, .int => true | .bl _, .bool => true | .int _, .int => true
  | .str _, .str => true | .tup _, .tuple => true | .lst _, .list => true
  | _, _ => false
def allBl : List D → Option (List Bool)
  | [] => some []
  | .bl b :: r => (allBl r).map (b :: ·)
  | _ => none
def allInt : List D → Option (List Int)
  | [] => some []
  | .int i :: r => (allInt r).map (i :: ·)
  | _ => none
def allStr : List D → Option (List (List Nat))
  | [] => some []
  | .str i :: r => (allStr r).map (i :: ·)
  | _ => none
/-- put into an ascending row of texts, if it is not there -/
def insS (k : List Nat) : List (List Nat) → List (List Nat)
  | [] => [k]
  | x :: r => if k = x then x :: r else if k < x then k :: x :: r else x :: insS k r
/-- the texts in their order, each once -/
def sortU : List (List Nat) → List (List Nat)
  | [] => []
  | k :: r => insS k (sortU r)
def bitsOf (i : Int) : Nat := if i == 0 then 0 else i.natAbs.log2 + 1
def biD (b : Bi) (as : List D) : Option Val :=
  match b, as with
  | .len, [.str s] => some (.p (.int s.length))
  | .len, [.tup s] => some (.p (.int s.length))
  | .len, [.lst s] => some (.p (.int s.length))
  | .int, [.int i] => some (.p (.int i))
  | .abs, [.int i] => some (.p (.int (i.natAbs : Int)))
  | .tuple, [.tup xs] => some (.p (.tup xs))
  | .tuple, [.lst xs] => some (.p (.tup xs))
  | .list, [.tup xs] => some (.f xs)
  | .list, [.lst xs] => some (.f xs)
  | .all, [.lst xs] => (allBl xs).map fun bs => .p (.bl (bs.all id))
  | .any, [.lst xs] => (allBl xs).map fun bs => .p (.bl (bs.any id))
  | .sum, [.lst xs] => (allInt xs).map fun is => .p (.int is.sum)
  | .max2, [.int i, .int j] => some (.p (.int (if j > i then j else i)))
  | .min2, [.int i, .int j] => some (.p (.int (if j < i then j else i)))
  | _, _ => none
/-- the texts in which signs are counted: those of p, n and s of at most three signs -/
def fewSigns : List (List Nat) := [[], [112], [110], [115], [112, 112], [115, 112], [115, 112, 112]]
/-- methods; how often p stands in such a text -/
def meCnt (a : D) (as : List D) : Option Val :=
  match a, as with
  | .str s, [.str c] => if fewSigns.contains s && c == [112] then some (.p (.int (s.count 112))) else none
  | _, _ => none
def meBit (a : D) (as : List D) : Option Val :=
  match a, as with
  | .int i, [] => some (.p (.int (bitsOf i)))
  | _, _ => none
def meIdxL (a : D) (as : List D) : Option Val :=
  match a, as with
  | .lst xs, [x] => if flat x && xs.all flat then (xs.findIdx? (D.beq · x)).map fun (k : Nat) => .p (.int (k : Int)) else none
  | _, _ => none
def meIdx (a : D) (as : List D) : Option Val :=
  match a, as with
  | .tup xs, [.str k] => (allStr xs).bind fun ks => (ks.idxOf? k).map fun (k : Nat) => .p (.int (k : Int))
  | _, _ => none
def meD (m : Me) (a : D) (as : List D) : Option Val :=
  match m with
  | .bitlen => meBit a as
  | .indexL => meIdxL a as
  | .index => meIdx a as
  | .count => meCnt a as

/-- what a method is called on -/
def recvOk (m : Me) (d : D) : Bool :=
  match m, d with
  | .count, .str _ => true
  | .index, .tup xs => (allStr xs).isSome
  | .indexL, .lst _ => true
  | .bitlen, .int _ => true
  | _, _ => false

/-! ### environments -/
def res (ρ : Env) : Val → Option D
  | .p d => some d
  | .f xs => some (.lst xs)
  | .b i => match ρ[i]? with
    | some (.own _ xs) => some (.lst xs)
    | _ => none
def ress (ρ : Env) : List Val → Option (List D)
  | [] => some []
  | v :: r => match res ρ v, ress ρ r with
    | some d, some ds => some (d :: ds)
    | _, _ => none
/-- none of them is a list that a slot owns -/
def noB (vs : List Val) : Bool := vs.all fun v => match v with | .b _ => false | _ => true
/-- a list just made becomes data -/
def fz : Val → Val
  | .f xs => .p (.lst xs)
  | v => v
def args (ρ : Env) : List Val → Option (List Arg)
  | [] => some []
  | .p d :: r => (args ρ r).map (.a d :: ·)
  | .f xs :: r => (args ρ r).map (.a (.lst xs) :: ·)
  | .b i :: r => match ρ[i]? with
    | some (.own _ xs) => (args ρ r).map (.o xs :: ·)
    | _ => none
/-- the lent lists come back -/
def back (ρ : Env) : List Val → List (List D) → Option Env
  | [], [] => some ρ
  | .b i :: r, xs :: q => match ρ[i]? with
    | some (.own l _) => back (ρ.set i (.own l xs)) r q
    | _ => none
  | .b _ :: _, [] => none
  | .p _ :: r, q => back ρ r q
  | .f _ :: r, q => back ρ r q
  | [], _ :: _ => none
/-- no list is lent twice -/
def lentOnce : List Val → Bool
  | [] => true
  | .b i :: r => (r.all fun v => match v with | .b j => j != i | _ => true) && lentOnce r
  | _ :: r => lentOnce r
/-- a slot may be stored to: no lent list stands there -/
def free (ρ : Env) (i : Nat) : Bool :=
  match ρ[i]? with
  | some (.own true _) => false
  | some _ => true
  | none => false
def put (ρ : Env) (i : Nat) (v : Val) : Option Env :=
  if free ρ i then
    match v with
    | .p d => some (ρ.set i (.d d))
    | .f xs => some (ρ.set i (.own false xs))
    | .b _ => none
  else none
def putAll (ρ : Env) : List Nat → List D → Option Env
  | [], [] => some ρ
  | i :: r, d :: q => (put ρ i (.p d)).bind fun ρ' => putAll ρ' r q
  | _, _ => none
/-- a target: one name, or some names for a tuple's items -/
def bindT (ρ : Env) (t : List Nat) (d : D) : Option Env :=
  match t, d with
  | [i], d => put ρ i (.p d)
  | t, .tup ds => putAll ρ t ds
  | _, _ => none
def wipe (ρ : Env) (t : List Nat) : Env := t.foldl (fun ρ i => ρ.set i .no) ρ
/-- may the slots t be used by a comprehension: they are no lists of the def's own -/
def plainAt (ρ : Env) (t : List Nat) : Bool := t.all fun i => match ρ[i]? with | some (.own _ _) => false | some _ => true | none => false
def intsD (lo : Int) (n : Nat) : List D := (List.range n).map fun (k : Nat) => D.int (lo + (k : Int))
def enumFrom (k : Nat) : List D → List D
  | [] => []
  | d :: r => .tup [.int k, d] :: enumFrom (k + 1) r
def itemsOf : D → Option (List D)
  | .tup xs => some xs
  | .lst xs => some xs
  | .str s => some (s.map fun c => .str [c])
  | _ => none
/-- the module's constants -/
structure Mo where
  g : Nat → Option D
  /-- is a class of errors under another one -/
  sub : Nat → Nat → Bool
  /-- the name of what an error of the class bears, by its number -/
  fld : Nat → Nat
  /-- how an error of the class tells what it bears: 0 not at all, 1 as a number, 2 as a text -/
  tk : Nat → Nat
/-- what an error that tells so may bear -/
def okArg (k : Nat) (d : D) : Bool := match k, d with
  | 0, _ => true
  | 1, .int i => decide (i.natAbs < 2 ^ 64)
  | 2, .str _ => true
  | _, _ => false

section
variable (M : Mo) (C : Nat → List Arg → Rc)
/-- the turns of a comprehension: what is made, and the environment behind -/
def lcTurns (turn : Env → D → Option (Option D × Env)) : Env → List D → Option (List D × Env)
  | ρ, [] => some ([], ρ)
  | ρ, d :: r => match turn ρ d with
    | some (none, ρ1) => lcTurns turn ρ1 r
    | some (some x, ρ1) => (lcTurns turn ρ1 r).map fun q => (x :: q.1, q.2)
    | none => none
def lcTurns2 (turn : Env → D → Option (List D × Env)) : Env → List D → Option (List D × Env)
  | ρ, [] => some ([], ρ)
  | ρ, d :: r => match turn ρ d with
    | some (xs, ρ1) => (lcTurns2 turn ρ1 r).map fun q => (xs ++ q.1, q.2)
    | none => none
mutual
def evE : E → Env → Re
  | .var i, ρ => match ρ[i]? with
    | some (.d x) => .ok (.p x) ρ
    | some (.own false xs) => .ok (.p (.lst xs)) (ρ.set i (.d (.lst xs)))
    | _ => .bad
  | .bor i, ρ => match ρ[i]? with
    | some (.d x) => .ok (.p x) ρ
    | some (.own _ _) => .ok (.b i) ρ
    | _ => .bad
  | .c d, ρ => .ok (.p d) ρ
  | .g k, ρ => match M.g k with
    | some d => .ok (.p d) ρ
    | none => .bad
  | .bin o a b, ρ => match evE a ρ with
    | .ok v ρ1 => match evE b ρ1 with
      | .ok w ρ2 => match res ρ2 (fz v), res ρ2 (fz w) with
        | some x, some y => match binD o x y with
          | some r => .ok r ρ2
          | none => .bad
        | _, _ => .bad
      | r => r
    | r => r
  | .neg a, ρ => match evE a ρ with
    | .ok v ρ1 => match res ρ1 (fz v) with
      | some (.int i) => .ok (.p (.int (-i))) ρ1
      | _ => .bad
    | r => r
  | .cmp o a b, ρ => match evE a ρ with
    | .ok v ρ1 => match evE b ρ1 with
      | .ok w ρ2 => match res ρ2 (fz v), res ρ2 (fz w) with
        | some x, some y => match cmpD o x y with
          | some r => .ok (.p (.bl r)) ρ2
          | none => .bad
        | _, _ => .bad
      | r => r
    | r => r
  | .chain o o' a b c, ρ => match evE a ρ with
    | .ok v ρ1 => match evE b ρ1 with
      | .ok w ρ2 => match res ρ2 (fz v), fz w with
        | some x, .p y => match cmpD o x y with
          | some false => .ok (.p (.bl false)) ρ2
          | some true => match evE c ρ2 with
            | .ok u ρ3 => match res ρ3 (fz u) with
              | some z => match cmpD o' y z with
                | some r => .ok (.p (.bl r)) ρ3
                | none => .bad
              | none => .bad
            | r => r
          | none => .bad
        | _, _ => .bad
      | r => r
    | r => r
  | .and es, ρ => evAnd es ρ
  | .or es, ρ => evOr es ρ
  | .not a, ρ => match evE a ρ with
    | .ok v ρ1 => match (res ρ1 (fz v)).bind truth with
      | some k => .ok (.p (.bl (!k))) ρ1
      | none => .bad
    | r => r
  | .ife t a b, ρ => match evE t ρ with
    | .ok v ρ1 => match (res ρ1 (fz v)).bind truth with
      | some true => evE a ρ1
      | some false => evE b ρ1
      | none => .bad
    | r => r
  | .tup es, ρ => match evEs es ρ with
    | .ok vs ρ1 => match ress ρ1 vs with
      | some ds => if noB vs then .ok (.p (.tup ds)) ρ1 else .bad
      | none => .bad
    | .ex x ρ1 => .ex x ρ1
    | .bad => .bad
  | .lst es, ρ => match evEs es ρ with
    | .ok vs ρ1 => match ress ρ1 vs with
      | some ds => if noB vs then .ok (.f ds) ρ1 else .bad
      | none => .bad
    | .ex x ρ1 => .ex x ρ1
    | .bad => .bad
  | .dcc ks vs, ρ => .ok (.p (.dct ks vs)) ρ
  | .ix a b, ρ => match evE a ρ with
    | .ok v ρ1 => match evE b ρ1 with
      | .ok w ρ2 => match res ρ2 (fz v), res ρ2 (fz w) with
        | some x, some y => match item x y with
          | some r => .ok (.p r) ρ2
          | none => .bad
        | _, _ => .bad
      | r => r
    | r => r
  | .slF a lo, ρ => match evE a ρ with
    | .ok v ρ1 => match evE lo ρ1 with
      | .ok w ρ2 => match res ρ2 (fz v), res ρ2 (fz w) with
        | some x, some (.int i) => match slice x (some i) none with
          | some r => .ok r ρ2
          | none => .bad
        | _, _ => .bad
      | r => r
    | r => r
  | .slT a hi, ρ => match evE a ρ with
    | .ok v ρ1 => match evE hi ρ1 with
      | .ok w ρ2 => match res ρ2 (fz v), res ρ2 (fz w) with
        | some x, some (.int i) => match slice x none (some i) with
          | some r => .ok r ρ2
          | none => .bad
        | _, _ => .bad
      | r => r
    | r => r
  | .slFT a lo hi, ρ => match evE a ρ with
    | .ok v ρ1 => match evE lo ρ1 with
      | .ok w ρ2 => match evE hi ρ2 with
        | .ok u ρ3 => match res ρ3 (fz v), res ρ3 (fz w), res ρ3 (fz u) with
          | some x, some (.int i), some (.int j) => match slice x (some i) (some j) with
            | some r => .ok r ρ3
            | none => .bad
          | _, _, _ => .bad
        | r => r
      | r => r
    | r => r
  | .call f es, ρ => match evEs es ρ with
    | .ok vs ρ1 => match args ρ1 vs with
      | some as => if lentOnce vs then
          match C f as with
          | .ok v outs => match back ρ1 vs outs with
            | some ρ2 => .ok v ρ2
            | none => .bad
          | .ex x outs => match back ρ1 vs outs with
            | some ρ2 => .ex x ρ2
            | none => .bad
          | .bad => .bad
        else .bad
      | none => .bad
    | .ex x ρ1 => .ex x ρ1
    | .bad => .bad
  | .bi b es, ρ => match evEs es ρ with
    | .ok vs ρ1 => match ress ρ1 vs with
      | some ds => match biD b ds with
        | some r => .ok r ρ1
        | none => .bad
      | none => .bad
    | .ex x ρ1 => .ex x ρ1
    | .bad => .bad
  | .isi a ts, ρ => match evE a ρ with
    | .ok v ρ1 => match res ρ1 (fz v) with
      | some x => .ok (.p (.bl (ts.any (isTy x)))) ρ1
      | none => .bad
    | r => r
  | .me m a es, ρ => match evE a ρ with
    | .ok v ρ1 => match fz v with
      | .p x => if recvOk m x then
          match evEs es ρ1 with
          | .ok vs ρ2 => match ress ρ2 vs with
            | some ds => match meD m x ds with
              | some r => .ok r ρ2
              | none => .bad
            | none => .bad
          | .ex x ρ1 => .ex x ρ1
          | .bad => .bad
        else .bad
      | _ => .bad
    | r => r
  | .lc t it cs e, ρ => match evIt it ρ with
    | some (ds, ρ1) => if plainAt ρ1 t then
        match lcTurns (fun ρ d => match bindT (wipe ρ t) t d with
          | some ρ2 => match evAnd cs ρ2 with
            | .ok v ρ3 => match (res ρ3 (fz v)).bind truth with
              | some true => match evE e ρ3 with
                | .ok w ρ4 => match fz w with
                  | .p x => some (some x, ρ4)
                  | _ => none
                | _ => none
              | some false => some (none, ρ3)
              | none => none
            | _ => none
          | none => none) ρ1 ds with
        | some (xs, ρ2) => .ok (.f xs) (t.foldl (fun ρ i => ρ.set i ((ρ1[i]?).getD .no)) ρ2)
        | none => .bad
      else .bad
    | none => .bad
  | .lc2 t it t2 it2 e, ρ => match evIt it ρ with
    | some (ds, ρ1) => if plainAt ρ1 (t ++ t2) then
        match lcTurns2 (fun ρ d => match bindT (wipe ρ (t ++ t2)) t d with
          | some ρ2 => match evIt it2 ρ2 with
            | some (es, ρ3) => lcTurns (fun ρ d => match bindT (wipe ρ t2) t2 d with
              | some ρ2 => match evE e ρ2 with
                | .ok w ρ4 => match fz w with
                  | .p x => some (some x, ρ4)
                  | _ => none
                | _ => none
              | none => none) ρ3 es
            | none => none
          | none => none) ρ1 ds with
        | some (xs, ρ2) => if 100000 < xs.length then .bad else .ok (.f xs) ((t ++ t2).foldl (fun ρ i => ρ.set i ((ρ1[i]?).getD .no)) ρ2)
        | none => .bad
      else .bad
    | none => .bad
  | .sset a, ρ => match evE a ρ with
    | .ok v ρ1 => match res ρ1 (fz v) with
      | some (.lst xs) => match allStr xs with
        | some ks => if ks.length < 64 then .ok (.f ((sortU ks).map D.str)) ρ1 else .bad
        | none => .bad
      | _ => .bad
    | r => r
  | .inr neg a b c, ρ => match evE a ρ with
    | .ok v ρ1 => match evE b ρ1 with
      | .ok u ρ2 => match evE c ρ2 with
        | .ok t ρ3 => match res ρ3 (fz v), res ρ3 (fz u), res ρ3 (fz t) with
          | some (.int i), some (.int lo), some (.int hi) => .ok (.p (.bl (if neg then !decide (lo ≤ i ∧ i < hi) else decide (lo ≤ i ∧ i < hi)))) ρ3
          | _, _, _ => .bad
        | r => r
      | r => r
    | r => r
  | .exf i f, ρ => match ρ[i]? with
    | some (.exn x) => if M.fld x.cls = f then .ok (.p x.arg) ρ else .bad
    | _ => .bad
  | .exis i c, ρ => match ρ[i]? with
    | some (.exn x) => .ok (.p (.bl (M.sub x.cls c))) ρ
    | _ => .bad
def evEs : Es → Env → Ra
  | .nil, ρ => .ok [] ρ
  | .cons e es, ρ => match evE e ρ with
    | .ok v ρ1 => match evEs es ρ1 with
      | .ok vs ρ2 => .ok (fz v :: vs) ρ2
      | r => r
    | .ex x ρ1 => .ex x ρ1
    | .bad => .bad
/-- a and b and ..: nothing is True -/
def evAnd : Es → Env → Re
  | .nil, ρ => .ok (.p (.bl true)) ρ
  | .cons e es, ρ => match evE e ρ with
    | .ok v ρ1 => match es with
      | .nil => .ok v ρ1
      | .cons _ _ => match (res ρ1 (fz v)).bind truth with
        | some true => evAnd es ρ1
        | some false => .ok v ρ1
        | none => .bad
    | r => r
def evOr : Es → Env → Re
  | .nil, ρ => .ok (.p (.bl false)) ρ
  | .cons e es, ρ => match evE e ρ with
    | .ok v ρ1 => match es with
      | .nil => .ok v ρ1
      | .cons _ _ => match (res ρ1 (fz v)).bind truth with
        | some false => evOr es ρ1
        | some true => .ok v ρ1
        | none => .bad
    | r => r
def evIt : It → Env → Option (List D × Env)
  | .val e, ρ => match evE e ρ with
    | .ok v ρ1 => match fz v with
      | .p d => (itemsOf d).map fun ds => (ds, ρ1)
      | _ => none
    | _ => none
  | .r1 a, ρ => match evE a ρ with
    | .ok (.p (.int n)) ρ1 => if -100000 ≤ n ∧ n ≤ 100000 then some (intsD 0 n.toNat, ρ1) else none
    | _ => none
  | .r2 a b, ρ => match evE a ρ with
    | .ok (.p (.int lo)) ρ1 => match evE b ρ1 with
      | .ok (.p (.int hi)) ρ2 => if -100000 ≤ lo ∧ lo ≤ 100000 ∧ -100000 ≤ hi ∧ hi ≤ 100000 ∧ hi - lo ≤ 100000 then some (intsD lo (hi - lo).toNat, ρ2) else none
      | _ => none
    | _ => none
  | .r3 _ _ _, _ => none
  | .enum e, ρ => match evE e ρ with
    | .ok v ρ1 => match fz v with
      | .p (.tup ds) => some (enumFrom 0 ds, ρ1)
      | .p (.lst ds) => some (enumFrom 0 ds, ρ1)
      | _ => none
    | _ => none
end
/-- the turns of a for: the body at each item -/
def forTurns (turn : Env → D → Rs) : Env → List D → Rs
  | ρ, [] => .nx ρ
  | ρ, d :: r => match turn ρ d with
    | .nx ρ1 => forTurns turn ρ1 r
    | .ct ρ1 => forTurns turn ρ1 r
    | .bk ρ1 => .nx ρ1
    | q => q
def whTurns (test : Env → Re) (body : Env → Rs) : Nat → Env → Rs
  | 0, _ => .bad
  | n + 1, ρ => match test ρ with
    | .ok v ρ1 => match (res ρ1 (fz v)).bind truth with
      | some true => match body ρ1 with
        | .nx ρ2 => whTurns test body n ρ2
        | .ct ρ2 => whTurns test body n ρ2
        | .bk ρ2 => .nx ρ2
        | q => q
      | some false => .nx ρ1
      | none => .bad
    | .ex x ρ1 => .ex x ρ1
    | .bad => .bad
def whFuel : Nat := 100000
mutual
def evS : S → Env → Rs
  | .asg i e, ρ => match evE M C e ρ with
    | .ok v ρ1 => match put ρ1 i v with
      | some ρ2 => .nx ρ2
      | none => .bad
    | .ex x ρ1 => .ex x ρ1
    | .bad => .bad
  | .asgT t e, ρ => match evE M C e ρ with
    | .ok v ρ1 => match fz v with
      | .p d => match bindT ρ1 t d with
        | some ρ2 => .nx ρ2
        | none => .bad
      | _ => .bad
    | .ex x ρ1 => .ex x ρ1
    | .bad => .bad
  | .asgIx i k e, ρ => match evE M C e ρ with
    | .ok v ρ1 => match fz v with
      | .p d => match ρ1[i]? with
        | some (.own _ _) => match evE M C k ρ1 with
          | .ok (.p (.int j)) ρ2 => match ρ2[i]? with
            | some (.own l xs) => match pix xs.length j with
              | some n => .nx (ρ2.set i (.own l (xs.set n d)))
              | none => .bad
            | _ => .bad
          | .ex x ρ1 => .ex x ρ1
          | _ => .bad
        | _ => .bad
      | _ => .bad
    | .ex x ρ1 => .ex x ρ1
    | .bad => .bad
  | .app i e, ρ => match ρ[i]? with
    | some (.own _ _) => match evE M C e ρ with
      | .ok v ρ1 => match fz v with
        | .p d => match ρ1[i]? with
          | some (.own l xs) => if xs.length < 100000 then .nx (ρ1.set i (.own l (xs ++ [d]))) else .bad
          | _ => .bad
        | _ => .bad
      | .ex x ρ1 => .ex x ρ1
      | .bad => .bad
    | _ => .bad
  | .ex e, ρ => match evE M C e ρ with
    | .ok _ ρ1 => .nx ρ1
    | .ex x ρ1 => .ex x ρ1
    | .bad => .bad
  | .ret e, ρ => match e, ρ with
    | .var i, ρ => match ρ[i]? with
      | some (.d x) => .rt (.p x) ρ
      | some (.own false xs) => .rt (.f xs) (ρ.set i .no)
      | _ => .bad
    | e, ρ => match evE M C e ρ with
      | .ok (.b _) _ => .bad
      | .ok v ρ1 => .rt v ρ1
      | .ex x ρ1 => .ex x ρ1
      | .bad => .bad
  | .retN, ρ => .rt (.p .non) ρ
  | .ife t a b, ρ => match evE M C t ρ with
    | .ok v ρ1 => match (res ρ1 (fz v)).bind truth with
      | some true => evSs a ρ1
      | some false => evSs b ρ1
      | none => .bad
    | .ex x ρ1 => .ex x ρ1
    | .bad => .bad
  | .for_ t it body, ρ => match evIt M C it ρ with
    | some (ds, ρ1) => forTurns (fun ρ d => match bindT ρ t d with
        | some ρ2 => evSs body ρ2
        | none => .bad) ρ1 ds
    | none => .bad
  | .while_ t body, ρ => whTurns (evE M C t) (evSs body) whFuel ρ
  | .raise c e, ρ => match evE M C e ρ with
    | .ok v ρ1 => match fz v with
      | .p d => if okArg (M.tk c) d then .ex ⟨c, d⟩ ρ1 else .bad
      | _ => .bad
    | .ex x ρ1 => .ex x ρ1
    | .bad => .bad
  | .try_ body hs, ρ => match evSs body ρ with
    | .ex x ρ1 => evHs hs x ρ1
    | r => r
  | .pass, ρ => .nx ρ
  | .brk, ρ => .bk ρ
  | .cnt, ρ => .ct ρ
def evSs : Ss → Env → Rs
  | .nil, ρ => .nx ρ
  | .cons s ss, ρ => match evS s ρ with
    | .nx ρ1 => evSs ss ρ1
    | r => r
def evHs : Hs → Exn → Env → Rs
  | .nil, x, ρ => .ex x ρ
  | .cons c i ss hs, x, ρ =>
    if M.sub x.cls c then
      match i with
      | some i => if free ρ i then
          match evSs ss (ρ.set i (.exn x)) with
          | .nx ρ1 => if free ρ1 i then .nx (ρ1.set i .no) else .bad
          | .rt v ρ1 => .rt v ρ1
          | _ => .bad
        else .bad
      | none => match evSs ss ρ with
        | .nx ρ1 => .nx ρ1
        | .rt v ρ1 => .rt v ρ1
        | _ => .bad
    else evHs hs x ρ
end
end
/-- a def: how many parameters, how many slots, its body -/
structure Fn where
  np : Nat
  ns : Nat
  body : Ss
def startEnv (as : List Arg) (ns : Nat) : Env :=
  as.map (fun a => match a with | .a d => Sl.d d | .o xs => Sl.own true xs) ++ List.replicate (ns - as.length) Sl.no
/-- the lent lists at the end, in the arguments' order -/
def outsOf (as : List Arg) (ρ : Env) : Option (List (List D)) :=
  match as, ρ with
  | [], _ => some []
  | .a _ :: r, _ :: q => outsOf r q
  | .o _ :: r, .own true xs :: q => (outsOf r q).map (xs :: ·)
  | _, _ => none
def runFn (M : Mo) (C : Nat → List Arg → Rc) (F : Fn) (as : List Arg) : Rc :=
  if as.length = F.np then
    match evSs M C F.body (startEnv as F.ns) with
    | .nx ρ => match outsOf as ρ with
      | some os => .ok (.p .non) os
      | none => .bad
    | .rt v ρ => match v, outsOf as ρ with
      | .p d, some os => .ok (.p d) os
      | .f xs, some os => .ok (.f xs) os
      | _, _ => .bad
    | .ex x ρ => match outsOf as ρ with
      | some os => .ex x os
      | none => .bad
    | _ => .bad
  else .bad
/-- a whole program: its defs by numbers -/
def call (M : Mo) (P : Nat → Option Fn) : Nat → Nat → List Arg → Rc
  | 0, _, _ => .bad
  | n + 1, f, as => match P f with
    | some F => runFn M (call M P n) F as
    | none => .bad
end Cz
end
section
set_option Elab.async false
set_option linter.all false
set_option maxRecDepth 100000
set_option maxHeartbeats 4000000
/-! SOUND 0: tuples that are known to have no dict of their own; their methods. -/
namespace Cs
open PySem L2 PySem.Spec PyProof.Rows
/-- a tuple without a dict of its own -/
def NoD (K : PySem.W.Frag) (H : Hp) (a : Addr) : Prop := (∃ o vs, H a = some (.frz o (.tup vs)) ∧ o.dict = none) ∨ ∃ o, K.lookup a = some o ∧ o.cls = .type "tuple" ∧ o.dict = none
theorem sqt_frz {K : PySem.W.Frag} {H : Hp} {a : Addr} {o : Obj} {vs : List V} (h : H a = some (.frz o (.tup vs))) : SqT K H a vs := .inl (.inr ⟨o, h⟩)
section
variable {X : Cx} {pins : List (Addr × Obj)} {σ : L2.St} {H : Hp} {s : Shared}
theorem nod_at (I : Inv X pins σ H s) {a : Addr} (h : NoD X.K H a) : s.TypeIs (.ref a) "tuple" ∧ ∀ b, Value.ref a = .ref b → ∃ ob, s.heap.get? b = some ob ∧ ob.dict = none := by
  rcases h with ⟨o, vs, ha, hd⟩ | ⟨o, hk, hc, hd⟩
  · have x : ObjOk X.prog X.w H s.heap a (.frz o (.tup vs)) := I.hok a _ ha
    obtain ⟨g, z, its, r, o2, g2, c2, _⟩ := x
    rw [g] at g2
    cases g2
    exact ⟨⟨o, g, c2⟩, fun b e => by cases e; exact ⟨o, g, hd⟩⟩
  · exact ⟨⟨o, I.kIn a o hk, hc⟩, fun b e => by cases e; exact ⟨o, I.kIn _ o hk, hd⟩⟩
end
/-- how the hand layer's rules of new tuples are said here -/
abbrev NewT (xs : List V) (H : Hp) (Q : VK) : Prop := ∀ (p : Addr) (o : Obj), H p = none → o.dict = none → Q (.ref p) (upd H p (.frz o (.tup xs)))
section
variable {X : Cx} {es : List Expr} {t : TA} {pos : Pos}
theorem tup_laid {pins : List (Addr × Obj)} {σ : L2.St} {H : Hp} {s : Shared} {xs : List V} {its : List Value} {Q : VK} (I : Inv X pins σ H s) (r : Vals xs its) (z : xs.length ≤ sizeLine) (q : NewT xs H Q) (t' : Nat) : EP X pins σ Q (.ref s.heap.objs.size) { s with heap := s.heap.push { cls := .type "tuple", data := .seq its.toArray }, toks := t' } :=
  ⟨.ref s.heap.objs.size, upd H s.heap.objs.size (.frz { cls := .type "tuple", data := .seq its.toArray } (.tup xs)), I.laid (t' := t') (fun b u e => Heap.get?_push_of_some _ e) (Nat.le_refl _) ⟨Heap.get?_push_size _ rfl, z, its, r, IsTup.new _ _⟩, rfl, q _ _ (I.hok.fresh (Nat.le_refl _)) rfl⟩
def tTupN (t : TA) : TE := fun σ H Q => t σ H fun xs H1 => xs.length ≤ sizeLine ∧ NewT xs H1 Q
theorem pe_tupN {k} (h : PA X es t) : PE X (.Tuple es k pos) (tTupN t) := by
  refine ⟨fun pins s σ H Q I hq => ?_⟩
  refine wpAny_Tuple_spliced (thn (h.run pos pins s σ H _ I hq) fun us s1 ⟨xs, H1, I1, r, z, q⟩ => ⟨by rw [← r.length]; exact z, ?_⟩)
  exact tup_laid I1 r z q s1.toks
/-- t + u -/
def rCatN (K : PySem.W.Frag) : R2 := fun x y H Q => ∃ a b xs ys, x = .ref a ∧ y = .ref b ∧ SqT K H a xs ∧ SqT K H b ys ∧ xs.length + ys.length ≤ sizeLine ∧ (xs = [] → Q (.ref b) H) ∧ (ys = [] → Q (.ref a) H) ∧ NewT (xs ++ ys) H Q
theorem op_catN : OpR X (binaryOp .Add) (rCatN X.K) := by
  intro pins s σ H x y v u Q I rx ry h
  obtain ⟨a, b, xs, ys, rfl, rfl, ha, hb, hz, q0, q1, q2⟩ := h
  cases rx
  cases ry
  obtain ⟨its, r1, p1, _⟩ := I.tuple ha
  obtain ⟨its2, r2, p2, _⟩ := I.tuple hb
  by_cases hx : xs = []
  · subst hx
    cases r1
    exact cat_tup0 p1 p2 ⟨.ref b, H, I, rfl, q0 rfl⟩
  · refine HT.cat_tup p1 p2 (fun z => hx (r1.nil_iff.mp z)) (fun z => ⟨.ref a, H, I, rfl, q1 (r2.nil_iff.mp z)⟩) (fun _ => ?_) (by rw [← r1.length, ← r2.length]; exact hz)
    exact tup_laid I (r1.append r2) (by rw [List.length_append]; exact hz) q2 s.toks
/-- t[lo:hi] -/
def rSlN (K : PySem.W.Frag) : V → Option Int → Option Int → Hp → VK → Prop := fun x lo hi H Q => ∃ a xs, x = .ref a ∧ SqT K H a xs ∧ (HT.sIx xs.length 0 lo = 0 ∧ HT.sIx xs.length xs.length hi = xs.length → Q (.ref a) H) ∧ NewT (cutV xs lo hi) H Q
theorem sl_tupN : SlR X (rSlN X.K) := by
  intro pins s σ H x v vl vu lo hi sl Q I rx hs pl pu h
  obtain ⟨a, xs, rfl, hx, q1, q2⟩ := h
  cases rx
  obtain ⟨its, r, ht, hz⟩ := I.tuple hx
  have len : its.toArray.size = xs.length := by rw [List.size_toArray]; exact r.length.symm
  by_cases hw : HT.sIx xs.length 0 lo = 0 ∧ HT.sIx xs.length xs.length hi = xs.length
  · refine ⟨"tuple", _, PyProof.Rows.slot_tuple_getitem.lookup, ht.typeIs, ?_⟩
    exact getItem_tuple_whole ht hs pl pu (by rw [len]; exact hw) ⟨.ref a, H, I, rfl, q1 hw⟩
  · refine ⟨"tuple", _, PyProof.Rows.slot_tuple_getitem.lookup, ht.typeIs, ?_⟩
    refine HT.getItem_tuple_cut ht hs pl pu (by rw [len]; exact hw) ?_ (by rw [len]; exact hz)
    rw [len]
    exact tup_laid I ((r.drop (HT.sIx xs.length 0 lo)).take (HT.sIx xs.length xs.length hi - HT.sIx xs.length 0 lo)) (Nat.le_trans (cutV_length xs lo hi) hz) q2 s.toks
/-- tuple(xs) -/
theorem call_tupleN : CallR X (.type "tuple") (fun xs H Q => ∃ p ys, xs = [.ref p] ∧ ((SqL X.K H p ys ∧ NewT ys H Q) ∨ (SqT X.K H p ys ∧ Q (.ref p) H))) := by
  intro pins s σ H xs us Q I r h
  obtain ⟨p, ys, rfl, h⟩ := h
  obtain ⟨u, rfl, rx⟩ := vals1 r
  cases rx
  rcases h with ⟨hq, q⟩ | ⟨hq, q⟩
  · obtain ⟨its, r2, pl, hz⟩ := I.list hq
    have len := r2.length
    refine call_tuple_list pl.isList (fun h2 kp => ?_) (by simp only [List.size_toArray] <;> omega)
    have I1 : Inv X pins σ H { s with heap := h2 } := I.kept (t' := s.toks) kp
    exact tup_laid I1 r2 hz q s.toks
  · obtain ⟨its, r2, pl, hz⟩ := I.tuple hq
    exact call_tuple_same pl ⟨.ref p, H, I, rfl, q⟩
end
/-! ### a method of a tuple -/
def tBMT (K : PySem.W.Frag) (r : V → List V → Hp → VK → Prop) (to : TE) (t : TA) : TE := fun σ H Q => to σ H fun x H1 => (∃ p, x = .ref p ∧ NoD K H1 p) ∧ t σ H1 fun xs H2 => r x xs H2 Q
section
variable {X : Cx} {o e : Expr} {es : List Expr} {to : TE} {t : TA} {name : Str} {apos cpos : Pos} {id : String} {r : V → List V → Hp → VK → Prop}
theorem pe_bmT (slot : Slot "tuple" name id) (hty : typeOf (.builtin id) = pure (.type "method_descriptor")) (hm : MtR X id r) (ho : PE X o to) (ha : PA X (e :: es) t)
    (base : attributeBase o name X.env (eval o X.env) = eval o X.env)
    (few : ((backTo cpos (starEach (e :: es) X.env)).all (fun x => !x.1) && (backToKw cpos (keywordEach [] X.env)).all (fun x => x.1.isSome) && decide ((e :: es).length + ([] : List Keyword).length + (if ([] : List Keyword).isEmpty then 0 else 1) < 30)) = true)
    (line : (apos.endLine == cpos.line) = true) (st : starEach (e :: es) X.env = (false, eval e X.env) :: starEach es X.env) (plain : (backTo cpos (starEach es X.env)).any (·.1) = false) :
    PE X (.Call (.Attribute o name apos) (e :: es) [] cpos) (tBMT X.K r to t) := by
  refine ⟨fun pins s σ H Q I h => ?_⟩
  refine wpAny_Call_method_late base few line rfl (thn (ho.run pins s σ H _ I h) fun v s1 ⟨x, H1, I1, r1, ⟨p, ex, nd⟩, q1⟩ => ?_)
  subst ex
  have e1 : v = Value.ref p := r1
  subst e1
  obtain ⟨h1, h2⟩ := nod_at I1 nd
  refine ⟨"tuple", id, F.plainAttrs_tuple, slot, hty, h1, h2, ?_⟩
  have hA := ha.run cpos pins s1 σ H1 _ I1 q1
  rw [st] at hA ⊢
  refine Calls.callWith_builtin (by show (false || (backTo cpos (starEach es X.env)).any (·.1)) = false; rw [plain] <;> rfl) (Calls.evalArgs_plain ?_)
  exact thn hA fun us s2 ⟨vs, H2, I2, r2, q2⟩ => hm pins s2 σ H2 (.ref p) vs (.ref p) us Q I2 rfl r2 q2
end
end Cs
end
section
set_option Elab.async false
set_option linter.all false
set_option maxRecDepth 100000
set_option maxHeartbeats 2000000
/-! SOUND 1: what a value of the hand layer stands for: plain data; the rules of operators, by data. -/
namespace Cs
open PySem L2 Cz

/-! ### heaps -/
def Ex (H H' : Hp) : Prop := ∀ a o, H a = some o → H' a = some o
theorem Ex.refl (H : Hp) : Ex H H := fun _ _ h => h
theorem Ex.trans {H H1 H2 : Hp} (a : Ex H H1) (b : Ex H1 H2) : Ex H H2 := fun x o h => b x o (a x o h)
theorem Ex.new {H : Hp} {p : Addr} {o : HO} (h : H p = none) : Ex H (upd H p o) := fun a u e => by
  rw [upd_ne (ne_of_none e h)]
  exact e
theorem Ex.mut {H H' : Hp} {p : Addr} {o : HO} (e : Ex H H') (h : H p = none) : Ex H (upd H' p o) := fun a u ha => by
  rw [upd_ne (ne_of_none ha h)]
  exact e a u ha
theorem Ex.both {H H' : Hp} {p : Addr} {o : HO} (e : Ex H H') : Ex (upd H p o) (upd H' p o) := fun a u ha => by
  by_cases h : a = p
  · subst h
    rw [upd_same] at ha ⊢
    exact ha
  · rw [upd_ne h] at ha ⊢
    exact e a u ha
theorem Ex.back {H H' : Hp} {p : Addr} (e : Ex H H') (h : H' p = none) : H p = none := by
  cases h1 : H p with
  | none => rfl
  | some o => rw [e p o h1] at h; cases h
theorem Ex.rd {H H' : Hp} {a : Addr} {u : HO} (e : Ex H H') (h : Rd H a u) : Rd H' a u := by
  rcases h with h | ⟨o, h⟩
  · exact Or.inl (e a _ h)
  · exact Or.inr ⟨o, e a _ h⟩
theorem Ex.l {K : PySem.W.Frag} {H H' : Hp} {a : Addr} {xs : List V} (e : Ex H H') (h : SqL K H a xs) : SqL K H' a xs := by
  rcases h with h | h
  · exact Or.inl (e.rd h)
  · exact Or.inr h
theorem Ex.t {K : PySem.W.Frag} {H H' : Hp} {a : Addr} {xs : List V} (e : Ex H H') (h : SqT K H a xs) : SqT K H' a xs := by
  rcases h with h | h
  · exact Or.inl (e.rd h)
  · exact Or.inr h

/-! ### what stands for data -/
abbrev Lim : Nat := 100000
theorem lim_size {n : Nat} (h : n ≤ Lim) : n ≤ sizeLine := by rw [sizeLine_eq]; exact Nat.le_trans h (by decide)
theorem lim_lt {n : Nat} (h : n ≤ Lim) : n < sizeLine := by rw [sizeLine_eq]; exact Nat.lt_of_le_of_lt h (by decide)
abbrev st (s : List Nat) : Str := ⟨s.toArray⟩
/-- a dict with text keys: tracked, or the module's own -/
def DcT (K : PySem.W.Frag) (w : World) (H : Hp) (a : Addr) (ks : List (List Nat)) (vs : List V) : Prop :=
  (ks.length = vs.length ∧ H a = some (.dK ((ks.map fun k => (Sum.inr (st k) : Key)).zip vs))) ∨
  (∃ es n us, KDict K w a es n ∧ Vals vs us ∧ ks.length = us.length ∧ ∀ z : Str, PySem.W.nsIn K a z = some ((ks.idxOf? z.cps.toList).bind (us[·]?)))
theorem Ex.c {K : PySem.W.Frag} {w : World} {H H' : Hp} {a : Addr} {ks : List (List Nat)} {vs : List V} (e : Ex H H') (h : DcT K w H a ks vs) : DcT K w H' a ks vs := by
  rcases h with ⟨h1, h2⟩ | h
  · exact .inl ⟨h1, e _ _ h2⟩
  · exact .inr h
theorem Ex.nod {K : PySem.W.Frag} {H H' : Hp} {a : Addr} (e : Ex H H') (h : NoD K H a) : NoD K H' a := by
  rcases h with ⟨o, vs, h1, h2⟩ | h
  · exact .inl ⟨o, vs, e _ _ h1, h2⟩
  · exact .inr h
/-- a tuple; one of texts alone is known to have no dict -/
def SqN (K : PySem.W.Frag) (H : Hp) (a : Addr) (vs : List V) (ds : List D) : Prop := SqT K H a vs ∧ (allStr ds = none ∨ NoD K H a)
theorem Ex.n {K : PySem.W.Frag} {H H' : Hp} {a : Addr} {vs : List V} {ds : List D} (e : Ex H H') (h : SqN K H a vs ds) : SqN K H' a vs ds := ⟨e.t h.1, h.2.imp id e.nod⟩
theorem SqN.new {K : PySem.W.Frag} {F : Hp} {p : Addr} {o : Obj} {vs : List V} {ds : List D} (h : o.dict = none) : SqN K (upd F p (.frz o (.tup vs))) p vs ds := ⟨sqt_frz upd_same, .inr (.inl ⟨o, vs, upd_same, h⟩)⟩
mutual
inductive DV (K : PySem.W.Frag) (w : World) (H : Hp) : V → D → Prop
  | non : DV K w H .non .non
  | bl (b : Bool) : DV K w H (.bl b) (.bl b)
  | int (i : Int) : DV K w H (.int i) (.int i)
  | str (s : List Nat) : sOk s = true → DV K w H (.str (st s)) (.str s)
  | tup {a : Addr} {vs : List V} {ds : List D} : SqN K H a vs ds → DVs K w H vs ds → ds.length ≤ Lim → DV K w H (.ref a) (.tup ds)
  | lst {a : Addr} {vs : List V} {ds : List D} : SqL K H a vs → DVs K w H vs ds → ds.length ≤ Lim → DV K w H (.ref a) (.lst ds)
  | dct {a : Addr} {ks : List (List Nat)} {vs : List V} {ds : List D} : DcT K w H a ks vs → DVs K w H vs ds → DV K w H (.ref a) (.dct ks ds)
inductive DVs (K : PySem.W.Frag) (w : World) (H : Hp) : List V → List D → Prop
  | nil : DVs K w H [] []
  | cons {v : V} {vs : List V} {d : D} {ds : List D} : DV K w H v d → DVs K w H vs ds → DVs K w H (v :: vs) (d :: ds)
end
section
variable {K : PySem.W.Frag} {w : World} {H H' : Hp}
mutual
theorem DV.mono (e : Ex H H') : ∀ {v : V} {d : D}, DV K w H v d → DV K w H' v d
  | _, _, .non => .non
  | _, _, .bl b => .bl b
  | _, _, .int i => .int i
  | _, _, .str s h => .str s h
  | _, _, .tup h q l => .tup (e.n h) (DVs.mono e q) l
  | _, _, .lst h q l => .lst (e.l h) (DVs.mono e q) l
  | _, _, .dct h q => .dct (e.c h) (DVs.mono e q)
theorem DVs.mono (e : Ex H H') : ∀ {v : List V} {d : List D}, DVs K w H v d → DVs K w H' v d
  | _, _, .nil => .nil
  | _, _, .cons h q => .cons (DV.mono e h) (DVs.mono e q)
end
theorem DVs.length : ∀ {vs : List V} {ds : List D}, DVs K w H vs ds → vs.length = ds.length
  | _, _, .nil => rfl
  | _, _, .cons _ q => by rw [List.length_cons, List.length_cons, DVs.length q]
theorem DVs.append : ∀ {vs us : List V} {ds es : List D}, DVs K w H vs ds → DVs K w H us es → DVs K w H (vs ++ us) (ds ++ es)
  | _, _, _, _, .nil, h => h
  | _, _, _, _, .cons h q, r => .cons h (DVs.append q r)
theorem DVs.take : ∀ {vs : List V} {ds : List D} (n : Nat), DVs K w H vs ds → DVs K w H (vs.take n) (ds.take n)
  | _, _, 0, _ => by rw [List.take_zero, List.take_zero]; exact .nil
  | _, _, _ + 1, .nil => .nil
  | _, _, n + 1, .cons h q => .cons h (DVs.take n q)
theorem DVs.drop : ∀ {vs : List V} {ds : List D} (n : Nat), DVs K w H vs ds → DVs K w H (vs.drop n) (ds.drop n)
  | _, _, 0, r => r
  | _, _, _ + 1, .nil => .nil
  | _, _, n + 1, .cons _ q => DVs.drop n q
theorem DVs.get : ∀ {vs : List V} {ds : List D} {i : Nat} {d : D}, DVs K w H vs ds → ds[i]? = some d → ∃ v, vs[i]? = some v ∧ DV K w H v d
  | _, _, _, _, .nil, e => by simp at e
  | _, _, 0, _, .cons h _, e => by simp at e; subst e; exact ⟨_, rfl, h⟩
  | _, _, i + 1, d, .cons _ q, e => by
    obtain ⟨v, h1, h2⟩ := DVs.get (i := i) (d := d) q (by simpa using e)
    exact ⟨v, by simpa using h1, h2⟩
theorem DVs.getV : ∀ {vs : List V} {ds : List D} {i : Nat} {v : V}, DVs K w H vs ds → vs[i]? = some v → ∃ d, ds[i]? = some d ∧ DV K w H v d
  | _, _, _, _, .nil, e => by simp at e
  | _, _, 0, _, .cons h _, e => by simp at e; subst e; exact ⟨_, rfl, h⟩
  | _, _, i + 1, d, .cons _ q, e => by
    obtain ⟨v, h1, h2⟩ := DVs.getV (i := i) (v := d) q (by simpa using e)
    exact ⟨v, by simpa using h1, h2⟩
theorem DVs.set {v : V} {d : D} (h : DV K w H v d) : ∀ {vs : List V} {ds : List D} (i : Nat), DVs K w H vs ds → DVs K w H (vs.set i v) (ds.set i d)
  | _, _, _, .nil => .nil
  | _, _, 0, .cons _ q => .cons h q
  | _, _, i + 1, .cons g q => .cons g (DVs.set h i q)
theorem DVs.snoc {vs : List V} {ds : List D} {v : V} {d : D} (h : DVs K w H vs ds) (q : DV K w H v d) : DVs K w H (vs ++ [v]) (ds ++ [d]) := h.append (.cons q .nil)
end

/-- the state grows: nothing that stood changes; F: what is data for ever, H: all -/
structure Grow (F H F' H' : Hp) : Prop where
  f : Ex F F'
  fh : Ex F' H'
  h : Ex H H'
  mask : ∀ a, H a ≠ none → F a = none → F' a = none
theorem Grow.refl {F H : Hp} (e : Ex F H) : Grow F H F H := ⟨.refl F, e, .refl H, fun _ _ h => h⟩
theorem Grow.trans {F H F1 H1 F2 H2 : Hp} (a : Grow F H F1 H1) (b : Grow F1 H1 F2 H2) : Grow F H F2 H2 :=
  ⟨a.f.trans b.f, b.fh, a.h.trans b.h, fun x h n => b.mask x (fun z => h (a.h.back z)) (a.mask x h n)⟩
/-- a new thing that is data for ever -/
theorem Grow.data {F H : Hp} {p : Addr} {o : HO} (e : Ex F H) (h : H p = none) : Grow F H (upd F p o) (upd H p o) :=
  ⟨.new (e.back h), e.both, .new h, fun a ha n => by
    have : a ≠ p := fun z => by subst z; exact ha h
    rw [upd_ne this]; exact n⟩
/-- a new thing that may change -/
theorem Grow.own {F H : Hp} {p : Addr} {o : HO} (e : Ex F H) (h : H p = none) : Grow F H F (upd H p o) :=
  ⟨.refl F, e.mut (e.back h), .new h, fun _ _ n => n⟩

/-- an operand: data, or a list that stands there now -/
def Op (K : PySem.W.Frag) (w : World) (F H : Hp) (x : V) (d : D) : Prop :=
  DV K w F x d ∨ ∃ p vs ys, x = .ref p ∧ d = .lst ys ∧ H p = some (.lst vs) ∧ DVs K w F vs ys ∧ ys.length ≤ Lim
theorem Op.now {K : PySem.W.Frag} {w : World} {F H : Hp} {x : V} {d : D} (e : Ex F H) (h : Op K w F H x d) : DV K w H x d := by
  rcases h with h | ⟨p, vs, ys, rfl, rfl, h, q, l⟩
  · exact h.mono e
  · exact .lst (SqL.of h) (q.mono e) l
theorem Op.grow {K : PySem.W.Frag} {w : World} {F H F' H' : Hp} {x : V} {d : D} (g : Grow F H F' H') (h : Op K w F H x d) : Op K w F' H' x d := by
  rcases h with h | ⟨p, vs, ys, rfl, rfl, h, q, l⟩
  · exact .inl (h.mono g.f)
  · exact .inr ⟨p, vs, ys, rfl, rfl, g.h _ _ h, q.mono g.f, l⟩
/-- as a sequence: the elements are data for ever -/
theorem Op.lst {K : PySem.W.Frag} {w : World} {F H : Hp} {x : V} {ds : List D} (e : Ex F H) (h : Op K w F H x (.lst ds)) : ∃ p vs, x = .ref p ∧ SqL K H p vs ∧ DVs K w F vs ds ∧ ds.length ≤ Lim := by
  rcases h with h | ⟨p, vs, ys, rfl, e2, h, q, l⟩
  · cases h with
    | lst h q l => exact ⟨_, _, rfl, e.l h, q, l⟩
  · cases e2
    exact ⟨p, vs, rfl, SqL.of h, q, l⟩
theorem Op.tup {K : PySem.W.Frag} {w : World} {F H : Hp} {x : V} {ds : List D} (e : Ex F H) (h : Op K w F H x (.tup ds)) : ∃ p vs, x = .ref p ∧ SqT K H p vs ∧ DVs K w F vs ds ∧ ds.length ≤ Lim ∧ SqN K F p vs ds := by
  rcases h with h | ⟨p, vs, ys, rfl, e2, h, q, l⟩
  · cases h with
    | tup h q l => exact ⟨_, _, rfl, e.t h.1, q, l, h⟩
  · cases e2
theorem Op.int {K : PySem.W.Frag} {w : World} {F H : Hp} {x : V} {i : Int} (h : Op K w F H x (.int i)) : x = .int i := by
  rcases h with h | ⟨p, vs, ys, rfl, e2, h, q, l⟩
  · cases h; rfl
  · cases e2
theorem Op.str {K : PySem.W.Frag} {w : World} {F H : Hp} {x : V} {s : List Nat} (h : Op K w F H x (.str s)) : x = .str (st s) ∧ sOk s = true := by
  rcases h with h | ⟨p, vs, ys, rfl, e2, h, q, l⟩
  · cases h with
    | str _ l => exact ⟨rfl, l⟩
  · cases e2
theorem Op.bl {K : PySem.W.Frag} {w : World} {F H : Hp} {x : V} {b : Bool} (h : Op K w F H x (.bl b)) : x = .bl b := by
  rcases h with h | ⟨p, vs, ys, rfl, e2, h, q, l⟩
  · cases h; rfl
  · cases e2
theorem Op.non {K : PySem.W.Frag} {w : World} {F H : Hp} {x : V} (h : Op K w F H x .non) : x = .non := by
  rcases h with h | ⟨p, vs, ys, rfl, e2, h, q, l⟩
  · cases h; rfl
  · cases e2
theorem Op.dct {K : PySem.W.Frag} {w : World} {F H : Hp} {x : V} {ks : List (List Nat)} {ds : List D} (e : Ex F H) (h : Op K w F H x (.dct ks ds)) : ∃ p vs, x = .ref p ∧ DcT K w H p ks vs ∧ DVs K w F vs ds := by
  rcases h with h | ⟨p, vs, ys, rfl, e2, h, q, l⟩
  · cases h with
    | dct h q => exact ⟨_, _, rfl, e.c h, q⟩
  · cases e2

/-- what an operation hands back -/
def Rv (K : PySem.W.Frag) (w : World) (H F' H' : Hp) (u : V) : Val → Prop
  | .p d => DV K w F' u d
  | .f xs => ∃ p vs, u = .ref p ∧ H p = none ∧ F' p = none ∧ H' p = some (.lst vs) ∧ DVs K w F' vs xs ∧ xs.length ≤ Lim
  | .b _ => False
end Cs
end
section
set_option Elab.async false
set_option linter.all false
set_option maxRecDepth 100000
set_option maxHeartbeats 2000000
/-! SOUND 2: operators on data. -/
namespace Cs
open PySem L2 Cz PyProof.Rows
def opOf : Bop → Operator
  | .add => .Add | .sub => .Sub | .mul => .Mult | .fdiv => .FloorDiv | .mod => .Mod | .pow => .Pow | .shl => .LShift | .shr => .RShift | .and => .BitAnd | .or => .BitOr | .xor => .BitXor
/-- a two-place operation on data -/
def rBin (K : PySem.W.Frag) (w : World) (f : D → D → Option Val) : R2 := fun x y H Q => ∃ F dx dy r, Ex F H ∧ Op K w F H x dx ∧ Op K w F H y dy ∧ f dx dy = some r ∧ ∀ u F' H', Grow F H F' H' → Rv K w H F' H' u r → Q u H'
/-- a list and a list, whatever they are -/
def rCatS (K : PySem.W.Frag) : R2 := fun x y H Q => ∃ l b xs zs, x = .ref l ∧ y = .ref b ∧ SqL K H l xs ∧ SqL K H b zs ∧ xs.length + zs.length ≤ sizeLine ∧ ∀ p, H p = none → Q (.ref p) (upd H p (.lst (xs ++ zs)))
theorem op_catS {X : Cx} : OpR X (binaryOp .Add) (rCatS X.K) := by
  intro pins s σ H x y v u Q I rx ry h
  obtain ⟨l, b, xs, zs, rfl, rfl, hH, hB, hz, q⟩ := h
  cases rx
  cases ry
  obtain ⟨its, r, ⟨⟨cls, dd, data, sl⟩, n, ho, hc, hdd, hd⟩, z⟩ := I.list hH
  obtain ⟨its2, r2, ⟨⟨cls2, dd2, data2, sl2⟩, n2, ho2, hc2, hdd2, hd2⟩, z2⟩ := I.list hB
  simp only at hc hd hc2 hd2 hdd hdd2
  subst hc hd hc2 hd2 hdd hdd2
  refine PySem.concat_meets ⟨_, ho, rfl⟩ ⟨_, ho2, rfl⟩ PySem.noFill_list_add PySem.seq_list_add PySem.F.slot_list_add PySem.F.entry_list_add (PySem.F.args_list_add_2 _ _)
    (PyProof.Rows.list_addW l b its.toArray its2.toArray n n2 none none sl sl2 (by rw [List.size_toArray, List.size_toArray, ← r.length, ← r2.length]; exact hz)) ⟨ho, ho2, ?_⟩
  have ea : its.toArray ++ its2.toArray = (its ++ its2).toArray := by simp
  rw [ea]
  exact ⟨.ref _, _, I.lnew (t' := s.toks) (r.append r2) (by rw [List.length_append]; exact hz), rfl, q _ I.fresh⟩

section
variable {K : PySem.W.Frag} {w : World}
theorem st_len (s : List Nat) : (st s).length = s.length := by show (s.toArray).size = _; rw [List.size_toArray]
theorem sOk_len {s : List Nat} (h : sOk s = true) : s.length ≤ Lim := by
  unfold sOk at h
  exact of_decide_eq_true (Bool.and_eq_true_iff.mp h).1
theorem sOk_app {s t : List Nat} (h : sOk s = true) (g : sOk t = true) (l : s.length + t.length ≤ Lim) : sOk (s ++ t) = true := by
  unfold sOk at h g ⊢
  rw [Bool.and_eq_true_iff] at h g ⊢
  refine ⟨decide_eq_true (by rw [List.length_append]; exact l), ?_⟩
  rw [List.all_append, h.2, g.2]; rfl
theorem st_app (s t : List Nat) : st s ++ st t = st (s ++ t) := by
  show Str.append (st s) (st t) = _
  unfold Str.append st
  simp
/-- a scalar comes back: nothing grows -/
theorem Rv.p {H F : Hp} {u : V} {d : D} (h : DV K w F u d) : Rv K w H F H u (.p d) := h
theorem Rv.new {H F H' : Hp} {p : Addr} {vs : List V} {ds : List D} (e : Ex F H) (hp : H p = none) (q : DVs K w F vs ds) (l : ds.length ≤ Lim) : Rv K w H F (upd H p (.lst vs)) (.ref p) (.f ds) :=
  ⟨p, vs, rfl, hp, e.back hp, upd_same, q, l⟩
end
theorem shlOk {i j : Int} (l : 0 ≤ j ∧ j ≤ 100000 ∧ i.natAbs.log2 < 2000000) : CShl i j := by
  obtain ⟨k, rfl⟩ := Int.eq_ofNat_of_zero_le l.1
  refine shl_ok (n := 2000000) ?_ (by omega)
  by_cases z : i.natAbs = 0
  · rw [z]; exact Nat.two_pow_pos _
  · exact (Nat.log2_lt z).mp l.2.2
theorem bitAnd_pn {i j : Int} (h : 0 ≤ i) (g : ¬ 0 ≤ j) : Builtin.bitAnd i j = i - ((i.toNat &&& (-j - 1).toNat : Nat) : Int) := by
  unfold Builtin.bitAnd
  rw [decide_eq_true h, decide_eq_false g]
  have e : Builtin.bitNot j = -j - 1 := by unfold Builtin.bitNot; omega
  simp only [e]
section
variable {X : Cx}
theorem op_bin (o : Bop) : OpR X (binaryOp (opOf o)) (rBin X.K X.w (binD o)) := by
  intro pins s σ H x y v u Q I rx ry h
  obtain ⟨F, dx, dy, r, e, hx, hy, hb, q⟩ := h
  have g0 : Grow F H F H := .refl e
  unfold binD at hb
  split at hb
  · -- ints
    cases hb
    exact op_add pins s σ H x y v u Q I rx ry ⟨_, _, hx.int, hy.int, q _ F H g0 (.int _)⟩
  · rename_i a b
    split at hb
    · cases hb
      rename_i l
      obtain ⟨ea, la⟩ := hx.str
      obtain ⟨eb, lb⟩ := hy.str
      refine op_add_str pins s σ H x y v u Q I rx ry ⟨_, _, ea, eb, by rw [st_len, st_len]; exact lim_size l, ?_⟩
      rw [st_app]
      exact q _ F H g0 (.str _ (sOk_app la lb l))
    · cases hb
  · split at hb
    · cases hb
      rename_i l
      obtain ⟨p1, v1, e1, s1, q1, l1, t1⟩ := hx.tup e
      obtain ⟨p2, v2, e2, s2, q2, l2, t2⟩ := hy.tup e
      refine op_catN pins s σ H x y v u Q I rx ry ⟨p1, p2, v1, v2, e1, e2, s1, s2, by rw [q1.length, q2.length]; exact lim_size l, fun z => ?_, fun z2 => ?_, fun p o hp hd => ?_⟩
      · have zd : ∀ ds, DVs X.K X.w F v1 ds → ds = [] := fun ds h => by subst z; cases h; rfl
        rw [zd _ q1, List.nil_append] at q
        exact q _ F H g0 (.tup t2 q2 l2)
      · have zd : ∀ ds, DVs X.K X.w F v2 ds → ds = [] := fun ds h => by subst z2; cases h; rfl
        rw [zd _ q2, List.append_nil] at q
        exact q _ F H g0 (.tup t1 q1 l1)
      · have g := Grow.data (o := .frz o (.tup (v1 ++ v2))) e hp
        exact q _ _ _ g (.tup (SqN.new hd) ((q1.append q2).mono g.f) (by rw [List.length_append]; exact l))
    · cases hb
  · split at hb
    · cases hb
      rename_i l
      obtain ⟨p1, v1, e1, s1, q1, l1⟩ := hx.lst e
      obtain ⟨p2, v2, e2, s2, q2, l2⟩ := hy.lst e
      refine op_catS pins s σ H x y v u Q I rx ry ⟨p1, p2, v1, v2, e1, e2, s1, s2, by rw [q1.length, q2.length]; exact lim_size l, fun p hp => ?_⟩
      exact q _ F _ (Grow.own e hp) (Rv.new (H' := H) e hp (q1.append q2) (by rw [List.length_append]; exact l))
    · cases hb
  · cases hb
    exact op_sub pins s σ H x y v u Q I rx ry ⟨_, _, hx.int, hy.int, q _ F H g0 (.int _)⟩
  · split at hb
    · cases hb
      rename_i i j l
      refine op_mul pins s σ H x y v u Q I rx ry ⟨_, _, hx.int, hy.int, ?_, q _ F H g0 (.int _)⟩
      unfold Cz.big at l
      rcases l with l | l
      · exact .inl (by omega)
      · exact .inr (by omega)
    · cases hb
  · split at hb
    · cases hb
      rename_i l
      exact op_fdivW pins s σ H x y v u Q I rx ry ⟨_, _, hx.int, hy.int, wide_div (b := 64) l.1 (by have := l.2; omega) (by decide) (by decide), q _ F H g0 (.int _)⟩
    · cases hb
  · split at hb
    · cases hb
      rename_i l
      exact op_mod pins s σ H x y v u Q I rx ry ⟨_, _, hx.int, hy.int, l, q _ F H g0 (.int _)⟩
    · cases hb
  · split at hb
    · cases hb
      rename_i l
      refine op_pow pins s σ H x y v u Q I rx ry ⟨_, _, hx.int, hy.int, ⟨l.1, by omega, ?_⟩, q _ F H g0 (.int _)⟩
      exact l.2.2
    · cases hb
  · split at hb
    · cases hb
      rename_i l
      exact op_shlW pins s σ H x y v u Q I rx ry ⟨_, _, hx.int, hy.int, shlOk l, q _ F H g0 (.int _)⟩
    · cases hb
  · split at hb
    · cases hb
      rename_i l
      exact op_shr pins s σ H x y v u Q I rx ry ⟨_, _, hx.int, hy.int, l, q _ F H g0 (.int _)⟩
    · cases hb
  · split at hb
    · rename_i l0
      split at hb
      · cases hb
        rename_i l
        refine op_and pins s σ H x y v u Q I rx ry ⟨_, _, hx.int, hy.int, ?_⟩
        show Q (.int (Builtin.bitAnd _ _)) H
        rw [PyProof.Rows.bitAnd_pp l0 l]
        exact q _ F H g0 (.int _)
      · cases hb
        rename_i l
        refine op_and pins s σ H x y v u Q I rx ry ⟨_, _, hx.int, hy.int, ?_⟩
        show Q (.int (Builtin.bitAnd _ _)) H
        rw [bitAnd_pn l0 l]
        exact q _ F H g0 (.int _)
    · cases hb
  · split at hb
    · cases hb
      rename_i l
      refine op_or pins s σ H x y v u Q I rx ry ⟨_, _, hx.int, hy.int, ?_⟩
      show Q (.int (Builtin.bitOr _ _)) H
      rw [_root_.Bits.bitOr_pp l.1 l.2]
      exact q _ F H g0 (.int _)
    · cases hb
  · split at hb
    · cases hb
      rename_i l
      refine op_xor pins s σ H x y v u Q I rx ry ⟨_, _, hx.int, hy.int, ?_⟩
      show Q (.int (Builtin.bitXor _ _)) H
      rw [_root_.Bits.bitXor_pp l.1 l.2]
      exact q _ F H g0 (.int _)
    · cases hb
  · cases hb
end
end Cs
end
section
set_option Elab.async false
set_option linter.all false
set_option maxRecDepth 100000
set_option maxHeartbeats 2000000
/-! SOUND 3: comparisons of data. -/
namespace Cs
open PySem L2 Cz PyProof.Rows
mutual
def toP : D → PyData
  | .non => .none
  | .bl b => .bool b
  | .int i => .int i
  | .str s => .str (st s)
  | .tup xs => .tuple (toPs xs)
  | .lst xs => .list (toPs xs)
  | .dct _ _ => .none
def toPs : List D → List PyData
  | [] => []
  | x :: r => toP x :: toPs r
end
theorem sOk_strOk {s : List Nat} (h : sOk s = true) : PySem.PyData.strOk (st s) = true := by
  unfold sOk at h
  have h2 := (Bool.and_eq_true_iff.mp h).2
  unfold PySem.PyData.strOk
  show (s.toArray).all _ = true
  simpa using h2
section
variable {K : PySem.W.Frag} {w : World} {H : Hp}
mutual
theorem DV.dp : ∀ {n : Nat} {v : V} {d : D}, DV K w H v d → depLe n d = true → Dp K H v (toP d) ∧ (toP d).canLay0 = true ∧ (toP d).depth ≤ n
  | n, _, _, .non, _ => ⟨.non, rfl, Nat.zero_le _⟩
  | n, _, _, .bl b, _ => ⟨.bl b, rfl, Nat.zero_le _⟩
  | n, _, _, .int i, _ => ⟨.int i, rfl, Nat.zero_le _⟩
  | n, _, _, .str s h, _ => ⟨.str _, sOk_strOk h, Nat.zero_le _⟩
  | 0, _, _, .tup h q _, e => nomatch (show false = true from e)
  | n + 1, _, _, .tup h q _, e => by
    obtain ⟨a, b, c⟩ := DVs.dp q (show depsLe n _ = true from e)
    exact ⟨.tup h.1 a, b, Nat.succ_le_succ c⟩
  | 0, _, _, .lst h q _, e => nomatch (show false = true from e)
  | n + 1, _, _, .lst h q _, e => by
    obtain ⟨a, b, c⟩ := DVs.dp q (show depsLe n _ = true from e)
    exact ⟨.lst h a, b, Nat.succ_le_succ c⟩
  | n, _, _, .dct _ _, e => by
    unfold depLe at e
    cases e
theorem DVs.dp : ∀ {n : Nat} {v : List V} {d : List D}, DVs K w H v d → depsLe n d = true → DpAll K H v (toPs d) ∧ PyData.canLayAll0 (toPs d) = true ∧ PyData.depthAll (toPs d) ≤ n
  | n, _, _, .nil, _ => ⟨.nil, rfl, Nat.zero_le _⟩
  | n, _, _, .cons h q, e => by
    have e' := Bool.and_eq_true_iff.mp (show (depLe n _ && depsLe n _) = true from e)
    obtain ⟨a, b, c⟩ := DV.dp h e'.1
    obtain ⟨a2, b2, c2⟩ := DVs.dp q e'.2
    exact ⟨.cons a a2, by show (PyData.canLay0 _ && PyData.canLayAll0 _) = true; rw [b, b2]; rfl, Nat.max_le.mpr ⟨c, c2⟩⟩
end
end
theorem st_beq (s t : List Nat) : (st s == st t) = (s == t) := by
  rw [Bool.eq_iff_iff]
  simp only [beq_iff_eq]
  constructor
  · intro h
    have h2 : s.toArray = t.toArray := congrArg Str.cps h
    simpa using h2
  · intro h; rw [h]
mutual
theorem eqv_beq : ∀ {n m : Nat} {a b : D}, depLe n a = true → depLe m b = true → PyData.eqv (toP a) (toP b) = D.beq a b := fun {n m a b} ha hb => by
  cases a with
  | dct ks vs => unfold depLe at ha; cases ha
  | non => cases b <;> first | rfl | (unfold depLe at hb; cases hb)
  | bl x => cases b <;> first | rfl | (unfold depLe at hb; cases hb)
  | int x => cases b <;> first | rfl | (unfold depLe at hb; cases hb)
  | str x =>
    cases b with
    | str y =>
      show (st x == st y) = (x == y)
      exact st_beq _ _
    | dct _ _ => unfold depLe at hb; cases hb
    | _ => rfl
  | tup xs =>
    cases b with
    | tup ys =>
      cases n with
      | zero => unfold depLe at ha; cases ha
      | succ n =>
        cases m with
        | zero => unfold depLe at hb; cases hb
        | succ m => exact eqv_beqs (n := n) (m := m) ha hb
    | dct _ _ => unfold depLe at hb; cases hb
    | _ => rfl
  | lst xs =>
    cases b with
    | lst ys =>
      cases n with
      | zero => unfold depLe at ha; cases ha
      | succ n =>
        cases m with
        | zero => unfold depLe at hb; cases hb
        | succ m => exact eqv_beqs (n := n) (m := m) ha hb
    | dct _ _ => unfold depLe at hb; cases hb
    | _ => rfl
theorem eqv_beqs : ∀ {n m : Nat} {a b : List D}, depsLe n a = true → depsLe m b = true → PyData.eqvAll (toPs a) (toPs b) = D.beqs a b := fun {n m a b} ha hb => by
  cases a with
  | nil => cases b <;> rfl
  | cons x r =>
    cases b with
    | nil => rfl
    | cons y q =>
      have ha' := Bool.and_eq_true_iff.mp (show (depLe n _ && depsLe n _) = true from ha)
      have hb' := Bool.and_eq_true_iff.mp (show (depLe m _ && depsLe m _) = true from hb)
      show (PyData.eqv (toP x) (toP y) && PyData.eqvAll (toPs r) (toPs q)) = (D.beq x y && D.beqs r q)
      rw [eqv_beq ha'.1 hb'.1, eqv_beqs ha'.2 hb'.2]
end
section
variable {K : PySem.W.Frag} {w : World} {H : Hp}
theorem DV.flat {v : V} {d : D} (h : DV K w H v d) (f : flat d = true) : flatV v = true := by
  cases h <;> first | rfl | (unfold Cz.flat at f; cases f)
theorem DVs.flat : ∀ {vs : List V} {ds : List D}, DVs K w H vs ds → ds.all Cz.flat = true → vs.all flatV = true
  | _, _, .nil, _ => rfl
  | _, _, .cons h q, f => by
    rw [List.all_cons, Bool.and_eq_true] at f ⊢
    exact ⟨h.flat f.1, DVs.flat q f.2⟩
theorem DV.eqV {v u : V} {d e : D} (h : DV K w H v d) (g : DV K w H u e) (f : Cz.flat d = true) (f' : Cz.flat e = true) : L2.eqV v u = D.beq d e := by
  cases h with
  | tup _ _ _ => unfold Cz.flat at f; cases f
  | lst _ _ _ => unfold Cz.flat at f; cases f
  | dct _ _ => unfold Cz.flat at f; cases f
  | non => cases g <;> first | rfl | (unfold Cz.flat at f'; cases f')
  | bl x => cases g <;> first | rfl | (unfold Cz.flat at f'; cases f')
  | int x => cases g <;> first | rfl | (unfold Cz.flat at f'; cases f')
  | str x _ =>
    cases g with
    | str y _ =>
      show (st x == st y) = (x == y)
      exact st_beq _ _
    | tup _ _ _ => unfold Cz.flat at f'; cases f'
    | lst _ _ _ => unfold Cz.flat at f'; cases f'
    | dct _ _ => unfold Cz.flat at f'; cases f'
    | _ => rfl
theorem DVs.mem {u : V} {e : D} (g : DV K w H u e) (f' : Cz.flat e = true) : ∀ {vs : List V} {ds : List D}, DVs K w H vs ds → ds.all Cz.flat = true → inV u vs = memD e ds
  | _, _, .nil, _ => rfl
  | _, _, .cons h q, f => by
    rw [List.all_cons, Bool.and_eq_true] at f
    show (L2.eqV _ u || inV u _) = (D.beq _ e || memD e _)
    rw [h.eqV g f.1 f', DVs.mem g f' q f.2]
end
def copOf : Cop → CmpOp
  | .eq => .Eq | .ne => .NotEq | .lt => .Lt | .le => .LtE | .gt => .Gt | .ge => .GtE | .in_ => .In | .nin => .NotIn | .isN => .Is | .nisN => .IsNot
def rCmp (K : PySem.W.Frag) (w : World) (o : Cop) : R2 := fun x y H Q => ∃ F dx dy b, Ex F H ∧ Op K w F H x dx ∧ Op K w F H y dy ∧ cmpD o dx dy = some b ∧ Q (.bl b) H
section
variable {X : Cx}
theorem isnon {K : PySem.W.Frag} {w : World} {H : Hp} {x : V} {d : D} (h : DV K w H x d) : decide (x = V.non) = isNon d := by
  cases h <;> rfl
/-- k in a dict with text keys -/
theorem valV_zip {k : List Nat} : ∀ (ks : List (List Nat)) (vs : List V), ks.length = vs.length → valV ((ks.map fun k => (Sum.inr (st k) : Key)).zip vs) (Sum.inr (st k)) = (ks.idxOf? k).bind (vs[·]?) := by
  intro ks
  induction ks with
  | nil => intro vs _; cases vs <;> rfl
  | cons a r ih =>
    intro vs hl
    cases vs with
    | nil => simp at hl
    | cons v q =>
      have hl' : r.length = q.length := by simpa using hl
      show valV (((Sum.inr (st a) : Key), v) :: ((r.map fun k => (Sum.inr (st k) : Key)).zip q)) (Sum.inr (st k)) = _
      by_cases e : a = k
      · subst e
        rw [valV_pos rfl]
        have : List.idxOf? a (a :: r) = some 0 := by simp [List.idxOf?, List.findIdx?_cons]
        rw [this]; rfl
      · rw [valV_neg (by
          intro z
          have z2 : st a = st k := Sum.inr.inj z
          exact e (by simpa using congrArg (fun s : Str => s.cps.toList) z2)), ih q hl']
        have : List.idxOf? k (a :: r) = (List.idxOf? k r).map (· + 1) := by simp [List.idxOf?, List.findIdx?_cons, e]
        rw [this]
        cases List.idxOf? k r <;> rfl
theorem dct_get {K : PySem.W.Frag} {w : World} {H : Hp} {a : Addr} {ks : List (List Nat)} {vs : List V} (k : List Nat) (h : ks.length = vs.length ∧ H a = some (.dK ((ks.map fun k => (Sum.inr (st k) : Key)).zip vs))) : DGet H a (.str (st k)) ((ks.idxOf? k).bind (vs[·]?)) := by
  rw [← valV_zip ks vs h.1]
  exact DGet.k (k := Sum.inr (st k)) h.2
theorem idx_len {k : List Nat} {ks : List (List Nat)} {i : Nat} (h : ks.idxOf? k = some i) : i < ks.length := by
  unfold List.idxOf? at h
  exact (List.findIdx?_eq_some_iff_getElem.mp h).1
theorem idx_contains (k : List Nat) (ks : List (List Nat)) : (ks.idxOf? k).isSome = ks.contains k := by
  induction ks with
  | nil => rfl
  | cons a r ih =>
    by_cases e : a = k
    · subst e; simp [List.idxOf?, List.findIdx?_cons]
    · have h1 : List.idxOf? k (a :: r) = (List.idxOf? k r).map (· + 1) := by simp [List.idxOf?, List.findIdx?_cons, e]
      have h2 : (k == a) = false := by simpa using fun z : k = a => e z.symm
      rw [h1, Option.isSome_map, ih, List.contains_cons, h2, Bool.false_or]
theorem bind_some {α : Type} {k : List Nat} {ks : List (List Nat)} {vs : List α} (hl : ks.length ≤ vs.length) : ((ks.idxOf? k).bind (vs[·]?)).isSome = ks.contains k := by
  rw [← idx_contains]
  cases h : ks.idxOf? k with
  | none => rfl
  | some i =>
    have hi := idx_len h
    show (vs[i]?).isSome = true
    rw [List.getElem?_eq_getElem (by omega)]; rfl
/-- x is True, x is not False, .. -/
theorem is_bl {K : PySem.W.Frag} {w : World} {H : Hp} {x : V} {d : D} {v : Value} {b : Bool} (h : DV K w H x d) (r : RelV x v) : PySem.plainIs v (.bool b) = true ∧ ((v = .bool b) ↔ isBl b d = true) := by
  cases h with
  | non => cases (show v = Value.none from r); exact ⟨rfl, by simp [isBl]⟩
  | bl a => cases (show v = Value.bool a from r); exact ⟨rfl, by simp [isBl]⟩
  | int i => obtain ⟨t, rfl⟩ := r; exact ⟨rfl, by simp [isBl]⟩
  | str s _ => obtain ⟨t, rfl⟩ := r; exact ⟨rfl, by simp [isBl]⟩
  | tup _ _ _ => cases (show v = Value.ref _ from r); exact ⟨rfl, by simp [isBl]⟩
  | lst _ _ _ => cases (show v = Value.ref _ from r); exact ⟨rfl, by simp [isBl]⟩
  | dct _ _ => cases (show v = Value.ref _ from r); exact ⟨rfl, by simp [isBl]⟩
theorem op_cmp (hu : X.A.units + 150 < cLine) (o : Cop) : OpR X (compareOp (copOf o)) (rCmp X.K X.w o) := by
  intro pins s σ H x y v u Q I rx ry h
  obtain ⟨F, dx, dy, b, e, hx, hy, hb, q⟩ := h
  unfold cmpD at hb
  split at hb
  · split at hb
    · cases hb
      rename_i l
      rw [Bool.and_eq_true] at l
      obtain ⟨d1, c1, n1⟩ := (hx.now e).dp l.1
      obtain ⟨d2, c2, n2⟩ := (hy.now e).dp l.2
      obtain ⟨as, r1⟩ := Dp.reads I _ x v d1 rx
      obtain ⟨bs, r2⟩ := Dp.reads I _ y u d2 ry
      refine SeqAt.compareEq_reads r1 r2 c1 c2 (by omega) ⟨.bl _, H, I, rfl, ?_⟩
      rw [eqv_beq l.1 l.2]
      exact q
    · cases hb
  · split at hb
    · cases hb
      rename_i l
      rw [Bool.and_eq_true] at l
      obtain ⟨d1, c1, n1⟩ := (hx.now e).dp l.1
      obtain ⟨d2, c2, n2⟩ := (hy.now e).dp l.2
      obtain ⟨as, r1⟩ := Dp.reads I _ x v d1 rx
      obtain ⟨bs, r2⟩ := Dp.reads I _ y u d2 ry
      refine SeqAt.compareNe_reads r1 r2 c1 c2 (by omega) ⟨.bl _, H, I, rfl, ?_⟩
      rw [eqv_beq l.1 l.2]
      exact q
    · cases hb
  · cases hb
    exact op_lt pins s σ H x y v u Q I rx ry ⟨_, _, hx.int, hy.int, q⟩
  · cases hb
    exact op_le pins s σ H x y v u Q I rx ry ⟨_, _, hx.int, hy.int, q⟩
  · cases hb
    exact op_gt pins s σ H x y v u Q I rx ry ⟨_, _, hx.int, hy.int, q⟩
  · cases hb
    exact op_ge pins s σ H x y v u Q I rx ry ⟨_, _, hx.int, hy.int, q⟩
  · cases hb
    exact op_lt_str pins s σ H x y v u Q I rx ry ⟨_, _, hx.str.1, hy.str.1, q⟩
  · cases hb
    exact op_le_str pins s σ H x y v u Q I rx ry ⟨_, _, hx.str.1, hy.str.1, q⟩
  · split at hb
    · cases hb
      rename_i l
      rw [Bool.and_eq_true] at l
      obtain ⟨p, vs, rfl, sq, qs, _, _⟩ := hy.tup e
      refine op_in_seq pins s σ H x _ v u Q I rx ry ⟨p, vs, rfl, .inr sq, (hx.now e).flat l.1, qs.flat l.2, ?_⟩
      rw [if_neg Bool.false_ne_true, DVs.mem (hx.now e) l.1 (qs.mono e) l.2]
      exact q
    · cases hb
  · split at hb
    · cases hb
      rename_i l
      rw [Bool.and_eq_true] at l
      obtain ⟨p, vs, rfl, sq, qs, _⟩ := hy.lst e
      refine op_in_seq pins s σ H x _ v u Q I rx ry ⟨p, vs, rfl, .inl sq, (hx.now e).flat l.1, qs.flat l.2, ?_⟩
      rw [if_neg Bool.false_ne_true, DVs.mem (hx.now e) l.1 (qs.mono e) l.2]
      exact q
    · cases hb
  · split at hb
    · cases hb
      rename_i l
      rw [Bool.and_eq_true] at l
      obtain ⟨p, vs, rfl, sq, qs, _, _⟩ := hy.tup e
      refine op_notIn_seq pins s σ H x _ v u Q I rx ry ⟨p, vs, rfl, .inr sq, (hx.now e).flat l.1, qs.flat l.2, ?_⟩
      rw [if_pos rfl, DVs.mem (hx.now e) l.1 (qs.mono e) l.2]
      exact q
    · cases hb
  · split at hb
    · cases hb
      rename_i l
      rw [Bool.and_eq_true] at l
      obtain ⟨p, vs, rfl, sq, qs, _⟩ := hy.lst e
      refine op_notIn_seq pins s σ H x _ v u Q I rx ry ⟨p, vs, rfl, .inl sq, (hx.now e).flat l.1, qs.flat l.2, ?_⟩
      rw [if_pos rfl, DVs.mem (hx.now e) l.1 (qs.mono e) l.2]
      exact q
    · cases hb
  · cases hb
    obtain ⟨rfl, _⟩ := hx.str
    obtain ⟨p, vs, rfl, dc, qs⟩ := hy.dct e
    cases (show u = Value.ref p from ry)
    rcases dc with dc | ⟨es, n, us, kd, rv, hl, hz⟩
    · refine d_in (by omega) I (dct_get (K := X.K) (w := X.w) _ dc) rx fun s' I' => ⟨.bl _, H, I', rfl, ?_⟩
      rw [bind_some (Nat.le_of_eq dc.1)]
      exact q
    · refine op_in_kd kd pins s σ H _ (.ref p) v (.ref p) Q I rx rfl ⟨_, _, rfl, rfl, hz _, ?_⟩
      rw [bind_some (Nat.le_of_eq hl)]
      exact q
  · cases hb
    obtain ⟨rfl, _⟩ := hx.str
    obtain ⟨p, vs, rfl, dc, qs⟩ := hy.dct e
    cases (show u = Value.ref p from ry)
    rcases dc with dc | ⟨es, n, us, kd, rv, hl, hz⟩
    · refine d_notIn (by omega) I (dct_get (K := X.K) (w := X.w) _ dc) rx fun s' I' => ⟨.bl _, H, I', rfl, ?_⟩
      rw [bind_some (Nat.le_of_eq dc.1)]
      exact q
    · refine op_notIn_kd kd pins s σ H _ (.ref p) v (.ref p) Q I rx rfl ⟨_, _, rfl, rfl, hz _, ?_⟩
      rw [bind_some (Nat.le_of_eq hl)]
      exact q
  · cases hb
    have ey := hy.non
    subst ey
    refine op_isN pins s σ H x _ v u Q I rx ry ⟨rfl, ?_⟩
    rw [isnon (hx.now e)]
    exact q
  · cases hb
    have ey := hy.non
    subst ey
    refine op_notN pins s σ H x _ v u Q I rx ry ⟨rfl, ?_⟩
    rw [isnon (hx.now e)]
    exact q
  · cases hb
    cases hy.bl
    cases (show u = Value.bool _ from ry)
    obtain ⟨p1, p2⟩ := is_bl (hx.now e) rx
    rename_i bb
    cases hi : isBl bb dx with
    | true =>
      rw [hi] at q
      have e1 := p2.mpr hi
      subst e1
      exact PySem.wpAny_is_self p1 ⟨.bl true, H, I, rfl, q⟩
    | false =>
      rw [hi] at q
      exact PySem.wpAny_is_other p1 (fun z => by rw [p2.mp z] at hi; cases hi) ⟨.bl false, H, I, rfl, q⟩
  · cases hb
    cases hy.bl
    cases (show u = Value.bool _ from ry)
    obtain ⟨p1, p2⟩ := is_bl (hx.now e) rx
    rename_i bb
    cases hi : isBl bb dx with
    | true =>
      rw [hi] at q
      have e1 := p2.mpr hi
      subst e1
      exact PySem.wpAny_isNot_self p1 ⟨.bl false, H, I, rfl, q⟩
    | false =>
      rw [hi] at q
      exact PySem.wpAny_isNot_other p1 (fun z => by rw [p2.mp z] at hi; cases hi) ⟨.bl true, H, I, rfl, q⟩
  · cases hb
end
end Cs
end
section
set_option Elab.async false
set_option linter.all false
set_option maxRecDepth 100000
set_option maxHeartbeats 2000000
/-! SOUND 4: items, slices, truth, built-ins by data. -/
namespace Cs
open PySem L2 Cz PyProof.Rows
section
variable {K : PySem.W.Frag} {w : World} {H F : Hp}
theorem at_ix {vs : List V} {ds : List D} {i : Int} {d : D} (q : DVs K w F vs ds) (h : (pix ds.length i).bind (ds[·]?) = some d) : ∃ v, atI vs i = some v ∧ DV K w F v d := by
  cases e : pix ds.length i with
  | none => rw [e] at h; cases h
  | some j =>
    rw [e] at h
    obtain ⟨v, h1, h2⟩ := q.get (show ds[j]? = some d from h)
    refine ⟨v, ?_, h2⟩
    unfold atI
    rw [q.length, show ixN ds.length i = some j from e]
    exact h1
theorem sOk_mem {s : List Nat} (h : sOk s = true) {c : Nat} (hc : c ∈ s) : c < 1114112 := by
  unfold sOk at h
  have h2 := List.all_eq_true.mp (Bool.and_eq_true_iff.mp h).2 c hc
  exact of_decide_eq_true h2
theorem sOk_one {c : Nat} (h : c < 1114112) : sOk [c] = true := by
  unfold sOk
  rw [Bool.and_eq_true]
  refine ⟨decide_eq_true (by show 1 ≤ 100000; decide), ?_⟩
  rw [List.all_cons, List.all_nil, Bool.and_true]
  exact decide_eq_true h
theorem sOk_sub {s t : List Nat} (h : sOk s = true) (hl : t.length ≤ s.length) (hm : ∀ c ∈ t, c ∈ s) : sOk t = true := by
  have hl2 := sOk_len h
  unfold sOk
  rw [Bool.and_eq_true]
  refine ⟨decide_eq_true (Nat.le_trans hl hl2), List.all_eq_true.mpr fun c hc => decide_eq_true (sOk_mem h (hm c hc))⟩
end
theorem item_dct {ks : List (List Nat)} {ds : List D} {k : List Nat} {d : D} (h : (ks.idxOf? k).bind (ds[·]?) = some d) : ∃ j, ks.idxOf? k = some j ∧ ds[j]? = some d := by
  cases e : ks.idxOf? k with
  | none => rw [e] at h; cases h
  | some j => rw [e] at h; exact ⟨j, rfl, h⟩
theorem dct_at {K : PySem.W.Frag} {w : World} {H : Hp} {a : Addr} {ks : List (List Nat)} {vs : List V} {k : List Nat} {j : Nat} {z : V} (h : ks.length = vs.length ∧ H a = some (.dK ((ks.map fun k => (Sum.inr (st k) : Key)).zip vs)))
    (ej : ks.idxOf? k = some j) (h1 : vs[j]? = some z) : DGet H a (.str (st k)) (some z) := by
  have g := dct_get (K := K) (w := w) k h
  rw [ej] at g
  rw [← h1]
  exact g
theorem dct_ns {K : PySem.W.Frag} {p : Addr} {ks : List (List Nat)} {us : List Value} {k : List Nat} {j : Nat} {u : Value} (hz : ∀ z : Str, PySem.W.nsIn K p z = some ((ks.idxOf? z.cps.toList).bind (us[·]?)))
    (ej : ks.idxOf? k = some j) (h1 : us[j]? = some u) : PySem.W.nsIn K p (st k) = some (some u) := by
  have g := hz (st k)
  rw [show (st k).cps.toList = k from rfl, ej] at g
  rw [g, ← h1]
  rfl
/-- a[b] by data -/
def rIdx (K : PySem.W.Frag) (w : World) : R2 := fun x y H Q => ∃ F dx dy d, Ex F H ∧ Op K w F H x dx ∧ Op K w F H y dy ∧ item dx dy = some d ∧ ∀ v, DV K w F v d → Q v H
section
variable {X : Cx}
theorem ix_dat (hu : X.A.units + 150 < cLine) : IxR X (rIdx X.K X.w) := by
  intro value slice pins s σ H x y v u Q I rx ry h hs
  obtain ⟨F, dx, dy, d, e, hx, hy, hb, q⟩ := h
  unfold item at hb
  split at hb
  · obtain ⟨p, vs, e1, sq, qs, l, _⟩ := hx.tup e
    obtain ⟨z, h1, h2⟩ := at_ix qs hb
    exact ix_tup value slice pins s σ H x y v u Q I rx ry ⟨p, vs, _, z, e1, hy.int, sq, h1, q z h2⟩ hs
  · obtain ⟨p, vs, e1, sq, qs, l⟩ := hx.lst e
    obtain ⟨z, h1, h2⟩ := at_ix qs hb
    exact ix_list value slice pins s σ H x y v u Q I rx ry ⟨p, vs, _, z, e1, hy.int, sq, h1, q z h2⟩ hs
  · obtain ⟨e1, l⟩ := hx.str
    rename_i xs i
    cases ej : pix xs.length i with
    | none => rw [ej] at hb; cases hb
    | some j =>
      rw [ej] at hb
      have hb' : (xs[j]?).map (fun c => D.str [c]) = some d := hb
      cases ec : xs[j]? with
      | none => rw [ec] at hb'; cases hb'
      | some c =>
        rw [ec] at hb'
        cases hb'
        refine ix_str value slice pins s σ H x y v u Q I rx ry ⟨_, i, c, e1, hy.int, by rw [st_len]; exact lim_size (sOk_len l), ?_, ?_⟩ hs
        · unfold atI
          show (ixN xs.toArray.toList.length i).bind _ = _
          rw [show xs.toArray.toList = xs from rfl, show ixN xs.length i = some j from ej]
          exact ec
        · exact q _ (.str [c] (sOk_one (sOk_mem l (List.mem_of_getElem? ec))))
  · obtain ⟨e2, _⟩ := hy.str
    obtain ⟨p, vs, rfl, dc, qs⟩ := hx.dct e
    subst e2
    obtain ⟨j, ej, hj⟩ := item_dct hb
    obtain ⟨z, h1, h2⟩ := qs.get hj
    rcases dc with dc | ⟨es, n, us, kd, rv, hl, hz⟩
    · have g' := dct_at (K := X.K) (w := X.w) dc ej h1
      cases (show v = Value.ref p from rx)
      refine tail_any (dict_typeIs I g') slot_dict_getitem.lookup (d_getItem (by omega) I g' ry fun w' s3 I3 rw' => ⟨z, H, I3, rw', q z h2⟩) hs
    · obtain ⟨u0, hu0, ru⟩ := rv.get h1
      have hz2 := dct_ns hz ej hu0
      exact ix_kdict value slice pins s σ H (.ref p) _ v u Q I rx ry ⟨p, st _, z, rfl, rfl, ⟨es, n, u0, kd.at_, kd.lit, hz2, ru⟩, q z h2⟩ hs
  · cases hb
/-- a[lo:hi] by data -/
def rSli (K : PySem.W.Frag) (w : World) : V → Option Int → Option Int → Hp → VK → Prop := fun x lo hi H Q => ∃ F dx r, Ex F H ∧ Op K w F H x dx ∧ slice dx lo hi = some r ∧ ∀ u F' H', Grow F H F' H' → Rv K w H F' H' u r → Q u H'
theorem six_eq (n d : Nat) (o : Option Int) : HT.sIx n d o = six n d o := by cases o <;> rfl
theorem cut_eq {xs : List V} {lo hi : Option Int} : cutV xs lo hi = cut xs lo hi := by
  unfold cutV cut
  rw [six_eq, six_eq]
theorem DVs.cut {K : PySem.W.Frag} {w : World} {F : Hp} {vs : List V} {ds : List D} (q : DVs K w F vs ds) (lo hi : Option Int) : DVs K w F (Cz.cut vs lo hi) (Cz.cut ds lo hi) := by
  unfold Cz.cut
  rw [q.length]
  exact (q.drop _).take _
theorem cut_len {α : Type} (xs : List α) (lo hi : Option Int) : (Cz.cut xs lo hi).length ≤ xs.length := by
  unfold Cz.cut
  rw [List.length_take, List.length_drop]
  omega
theorem cut_mem {α : Type} (xs : List α) (lo hi : Option Int) {c : α} (h : c ∈ Cz.cut xs lo hi) : c ∈ xs := by
  unfold Cz.cut at h
  exact List.mem_of_mem_drop (List.mem_of_mem_take h)
theorem cut_whole {α : Type} (xs : List α) (lo hi : Option Int) (h1 : six xs.length 0 lo = 0) (h2 : six xs.length xs.length hi = xs.length) : Cz.cut xs lo hi = xs := by
  unfold Cz.cut
  rw [h1, h2, List.drop_zero, Nat.sub_zero, List.take_length]
theorem sl_dat : SlR X (rSli X.K X.w) := by
  intro pins s σ H x v vl vu lo hi sl Q I rx hs pl pu h
  obtain ⟨F, dx, r, e, hx, hb, q⟩ := h
  have g0 : Grow F H F H := .refl e
  unfold slice at hb
  split at hb
  · cases hb
    obtain ⟨p, vs, e1, sq, qs, l, sf⟩ := hx.tup e
    refine sl_tupN pins s σ H x v vl vu lo hi sl Q I rx hs pl pu ⟨p, vs, e1, sq, fun hw => ?_, fun p2 o hp hd => ?_⟩
    · rw [six_eq, six_eq, qs.length] at hw
      rw [cut_whole _ _ _ hw.1 hw.2] at q
      exact q _ F H g0 (.tup sf qs l)
    · rw [cut_eq]
      have g := Grow.data (o := .frz o (.tup (Cz.cut vs lo hi))) e hp
      exact q _ _ _ g (.tup (SqN.new hd) ((qs.cut lo hi).mono g.f) (Nat.le_trans (cut_len _ _ _) l))
  · cases hb
    obtain ⟨p, vs, e1, sq, qs, l⟩ := hx.lst e
    refine sl_list pins s σ H x v vl vu lo hi sl Q I rx hs pl pu ⟨p, vs, e1, sq, fun p2 hp => ?_⟩
    rw [cut_eq]
    exact q _ F _ (Grow.own e hp) (Rv.new (H' := H) e hp (qs.cut lo hi) (Nat.le_trans (cut_len _ _ _) l))
  · cases hb
    obtain ⟨e1, l⟩ := hx.str
    rename_i xs
    refine sl_str pins s σ H x v vl vu lo hi sl Q I rx hs pl pu ⟨_, e1, by rw [st_len]; exact lim_size (sOk_len l), ?_⟩
    have ec : cutS (st xs) lo hi = st (Cz.cut xs lo hi) := by
      unfold cutS Cz.cut
      rw [st_len, six_eq, six_eq]
    rw [ec]
    exact q _ F H g0 (.str _ (sOk_sub l (cut_len _ _ _) fun c hc => cut_mem _ _ _ hc))
  · cases hb
/-- truth by data -/
theorem tru_dat {F H : Hp} {x : V} {d : D} {k : Bool} (e : Ex F H) (h : Op X.K X.w F H x d) (ht : truth d = some k) : TruV X.K x H k := by
  unfold truth at ht
  split at ht
  · cases ht; rw [h.non]; exact rfl
  · cases ht; rw [h.bl]; exact rfl
  · cases ht; rw [h.int]; exact rfl
  · cases ht
    obtain ⟨e1, l⟩ := h.str
    rw [e1]
    refine ⟨by rw [st_len]; exact lim_size (sOk_len l), ?_⟩
    rw [st_len, Bool.eq_iff_iff]
    simp
  · cases ht
    obtain ⟨p, vs, e1, sq, qs, l, _⟩ := h.tup e
    rw [e1]
    refine .inr (.inl ⟨vs, sq, ?_⟩)
    cases qs <;> rfl
  · cases ht
    obtain ⟨p, vs, e1, sq, qs, l⟩ := h.lst e
    rw [e1]
    refine .inl ⟨vs, sq, ?_⟩
    cases qs <;> rfl
  · cases ht
end
end Cs
end
section
set_option Elab.async false
set_option linter.all false
set_option maxRecDepth 100000
set_option maxHeartbeats 2000000
/-! SOUND 5: built-in functions by data. -/
namespace Cs
open PySem L2 Cz PyProof.Rows
/-- operands in a row -/
inductive Ops (K : PySem.W.Frag) (w : World) (F H : Hp) : List V → List D → Prop
  | nil : Ops K w F H [] []
  | cons {v : V} {vs : List V} {d : D} {ds : List D} : Op K w F H v d → Ops K w F H vs ds → Ops K w F H (v :: vs) (d :: ds)
def biOf : Bi → Value
  | .len => .builtin "len" | .int => .type "int" | .abs => .builtin "abs" | .tuple => .type "tuple" | .list => .type "list" | .all => .builtin "all" | .any => .builtin "any"
  | .max2 => .builtin "max" | .min2 => .builtin "min" | .sorted => .builtin "sorted" | .sum => .builtin "sum" | .set_ => .type "set"
def rBi (K : PySem.W.Frag) (w : World) (b : Bi) : List V → Hp → VK → Prop := fun xs H Q => ∃ F ds r, Ex F H ∧ Ops K w F H xs ds ∧ biD b ds = some r ∧ ∀ u F' H', Grow F H F' H' → Rv K w H F' H' u r → Q u H'
theorem ops1 {K : PySem.W.Frag} {w : World} {F H : Hp} {xs : List V} {d : D} (h : Ops K w F H xs [d]) : ∃ x, xs = [x] ∧ Op K w F H x d := by
  cases h with
  | cons h q => cases q; exact ⟨_, rfl, h⟩
theorem ops2 {K : PySem.W.Frag} {w : World} {F H : Hp} {xs : List V} {d e : D} (h : Ops K w F H xs [d, e]) : ∃ x y, xs = [x, y] ∧ Op K w F H x d ∧ Op K w F H y e := by
  cases h with
  | cons h q =>
    obtain ⟨y, rfl, h2⟩ := ops1 q
    exact ⟨_, _, rfl, h, h2⟩
theorem allBl_ok {K : PySem.W.Frag} {w : World} {F : Hp} : ∀ {vs : List V} {ds : List D} {bs : List Bool}, DVs K w F vs ds → allBl ds = some bs → vs = bs.map V.bl
  | _, _, _, .nil, h => by cases h; rfl
  | _, _, bs, .cons (d := d) (ds := r) g q, h => by
    cases d with
    | bl b =>
      cases e : allBl r with
      | none => unfold allBl at h; rw [e] at h; cases h
      | some cs =>
        unfold allBl at h
        rw [e] at h
        cases h
        cases g
        rw [allBl_ok q e]; rfl
    | _ => unfold allBl at h; cases h
theorem allInt_ok {K : PySem.W.Frag} {w : World} {F : Hp} : ∀ {vs : List V} {ds : List D} {is : List Int}, DVs K w F vs ds → allInt ds = some is → vs = is.map V.int
  | _, _, _, .nil, h => by cases h; rfl
  | _, _, is, .cons (d := d) (ds := r) g q, h => by
    cases d with
    | int b =>
      cases e : allInt r with
      | none => unfold allInt at h; rw [e] at h; cases h
      | some cs =>
        unfold allInt at h
        rw [e] at h
        cases h
        cases g
        rw [allInt_ok q e]; rfl
    | _ => unfold allInt at h; cases h
theorem allStr_ok {K : PySem.W.Frag} {w : World} {F : Hp} : ∀ {vs : List V} {ds : List D} {ks : List (List Nat)}, DVs K w F vs ds → allStr ds = some ks → vs = ks.map (fun k => V.str (st k)) ∧ ∀ k ∈ ks, sOk k = true
  | _, _, _, .nil, h => by cases h; exact ⟨rfl, fun _ m => nomatch m⟩
  | _, _, ks, .cons (d := d) (ds := r) g q, h => by
    cases d with
    | str b =>
      cases e : allStr r with
      | none => unfold allStr at h; rw [e] at h; cases h
      | some cs =>
        unfold allStr at h
        rw [e] at h
        cases h
        obtain ⟨e1, e2⟩ := allStr_ok q e
        cases g with
        | str _ ok =>
          refine ⟨by rw [e1]; rfl, fun k m => ?_⟩
          rcases List.mem_cons.mp m with rfl | m
          · exact ok
          · exact e2 k m
    | _ => unfold allStr at h; cases h
section
variable {X : Cx}
theorem call_bi (hc : X.calm = true) (b : Bi) : CallR X (biOf b) (rBi X.K X.w b) := by
  intro pins s σ H xs us Q I rs h
  obtain ⟨F, ds, r, e, ho, hb, q⟩ := h
  have g0 : Grow F H F H := .refl e
  unfold biD at hb
  split at hb
  · cases hb
    obtain ⟨x, rfl, hx⟩ := ops1 ho
    obtain ⟨rfl, l⟩ := hx.str
    refine call_len_str pins s σ H _ us Q I rs ⟨_, rfl, by rw [st_len]; exact lim_size (sOk_len l), ?_⟩
    rw [st_len]
    exact q _ F H g0 (.int _)
  · cases hb
    obtain ⟨x, rfl, hx⟩ := ops1 ho
    obtain ⟨p, vs, rfl, sq, qs, l, _⟩ := hx.tup e
    refine call_len_seq pins s σ H _ us Q I rs ⟨p, vs, rfl, .inr sq, ?_⟩
    rw [qs.length]
    exact q _ F H g0 (.int _)
  · cases hb
    obtain ⟨x, rfl, hx⟩ := ops1 ho
    obtain ⟨p, vs, rfl, sq, qs, l⟩ := hx.lst e
    refine call_len_seq pins s σ H _ us Q I rs ⟨p, vs, rfl, .inl sq, ?_⟩
    rw [qs.length]
    exact q _ F H g0 (.int _)
  · cases hb
    obtain ⟨x, rfl, hx⟩ := ops1 ho
    cases hx.int
    exact call_int1 pins s σ H _ us Q I rs (.inl ⟨_, rfl, q _ F H g0 (.int _)⟩)
  · cases hb
    obtain ⟨x, rfl, hx⟩ := ops1 ho
    cases hx.int
    rename_i i _
    refine call_abs pins s σ H _ us Q I rs ⟨_, rfl, ?_⟩
    have ei : ∀ j : Int, (if j < 0 then -j else j) = (j.natAbs : Int) := fun j => by split <;> omega
    rw [ei]
    exact q _ F H g0 (.int _)
  · cases hb
    obtain ⟨x, rfl, hx⟩ := ops1 ho
    obtain ⟨p, vs, rfl, sq, qs, l, sf⟩ := hx.tup e
    exact call_tupleN pins s σ H _ us Q I rs ⟨p, vs, rfl, .inr ⟨sq, q _ F H g0 (.tup sf qs l)⟩⟩
  · cases hb
    obtain ⟨x, rfl, hx⟩ := ops1 ho
    obtain ⟨p, vs, rfl, sq, qs, l⟩ := hx.lst e
    refine call_tupleN pins s σ H _ us Q I rs ⟨p, vs, rfl, .inl ⟨sq, fun p2 o hp hd => ?_⟩⟩
    have g := Grow.data (o := .frz o (.tup vs)) e hp
    exact q _ _ _ g (.tup (SqN.new hd) (qs.mono g.f) l)
  · cases hb
    obtain ⟨x, rfl, hx⟩ := ops1 ho
    obtain ⟨p, vs, rfl, sq, qs, l, sf⟩ := hx.tup e
    exact call_list_of pins s σ H _ us Q I rs ⟨p, vs, rfl, .inr sq, fun p2 hp => q _ F _ (Grow.own e hp) (Rv.new (H' := H) e hp qs l)⟩
  · cases hb
    obtain ⟨x, rfl, hx⟩ := ops1 ho
    obtain ⟨p, vs, rfl, sq, qs, l⟩ := hx.lst e
    exact call_list_of pins s σ H _ us Q I rs ⟨p, vs, rfl, .inl sq, fun p2 hp => q _ F _ (Grow.own e hp) (Rv.new (H' := H) e hp qs l)⟩
  · obtain ⟨x, rfl, hx⟩ := ops1 ho
    obtain ⟨p, vs, rfl, sq, qs, l⟩ := hx.lst e
    obtain ⟨bs, eb, er⟩ := Option.map_eq_some_iff.mp hb
    subst er
    rw [allBl_ok qs eb] at sq
    exact cr_all hc pins s σ H _ us Q I rs ⟨p, bs, rfl, sq, q _ F H g0 (.bl _)⟩
  · obtain ⟨x, rfl, hx⟩ := ops1 ho
    obtain ⟨p, vs, rfl, sq, qs, l⟩ := hx.lst e
    obtain ⟨bs, eb, er⟩ := Option.map_eq_some_iff.mp hb
    subst er
    rw [allBl_ok qs eb] at sq
    exact cr_any hc pins s σ H _ us Q I rs ⟨p, bs, rfl, sq, q _ F H g0 (.bl _)⟩
  · obtain ⟨x, rfl, hx⟩ := ops1 ho
    obtain ⟨p, vs, rfl, sq, qs, l⟩ := hx.lst e
    obtain ⟨is, eb, er⟩ := Option.map_eq_some_iff.mp hb
    subst er
    rw [allInt_ok qs eb] at sq
    exact cr_sum hc pins s σ H _ us Q I rs ⟨p, is, rfl, sq, q _ F H g0 (.int _)⟩
  · cases hb
    obtain ⟨x, y, rfl, hx, hy⟩ := ops2 ho
    cases hx.int
    cases hy.int
    exact call_max2 hc pins s σ H _ us Q I rs ⟨_, _, rfl, q _ F H g0 (.int _)⟩
  · cases hb
    obtain ⟨x, y, rfl, hx, hy⟩ := ops2 ho
    cases hx.int
    cases hy.int
    exact call_min2 hc pins s σ H _ us Q I rs ⟨_, _, rfl, q _ F H g0 (.int _)⟩
  · cases hb

/-! ### isinstance of built-in types -/
def tyOf : Ty → String
  | .int => "int" | .bool => "bool" | .str => "str" | .tuple => "tuple" | .list => "list"
theorem kt_non : ∀ y, kitB "NoneType" (tyOf y) = some false := fun y => by cases y <;> decide +kernel
theorem kt_bl : ∀ y, kitB "bool" (tyOf y) = some (match y with | .int => true | .bool => true | _ => false) := fun y => by cases y <;> decide +kernel
theorem kt_int : ∀ y, kitB "int" (tyOf y) = some (match y with | .int => true | _ => false) := fun y => by cases y <;> decide +kernel
theorem kt_str : ∀ y, kitB "str" (tyOf y) = some (match y with | .str => true | _ => false) := fun y => by cases y <;> decide +kernel
theorem kt_tup : ∀ y, kitB "tuple" (tyOf y) = some (match y with | .tuple => true | _ => false) := fun y => by cases y <;> decide +kernel
theorem kt_lst : ∀ y, kitB "list" (tyOf y) = some (match y with | .list => true | _ => false) := fun y => by cases y <;> decide +kernel
theorem kt_dct : ∀ y, kitB "dict" (tyOf y) = some false := fun y => by cases y <;> decide +kernel
theorem kit_of' {K : PySem.W.Frag} {a : String} {f g : Cz.Ty → Bool} (h : ∀ y, kitB a (tyOf y) = some (f y)) (e : ∀ y, g y = f y) : ∀ y, PySem.W.kitOne K (.type a) (.type (tyOf y)) = some (g y) := fun y => by
  rw [e]
  exact kit_ty (h y)
theorem kit_ok {F H : Hp} {x : V} {d : D} (e : Ex F H) (h : Op X.K X.w F H x d) : ∃ tv, TyX X.K H x tv ∧ ∀ y, PySem.W.kitOne X.K tv (.type (tyOf y)) = some (isTy d y) := by
  have hn := h.now e
  cases hn with
  | non => exact ⟨_, .base .non, kit_of' kt_non fun y => by cases y <;> rfl⟩
  | bl b => exact ⟨_, .base (.bl b), kit_of' kt_bl fun y => by cases y <;> rfl⟩
  | int i => exact ⟨_, .base (.int i), kit_of' kt_int fun y => by cases y <;> rfl⟩
  | str s _ => exact ⟨_, .base (.str _), kit_of' kt_str fun y => by cases y <;> rfl⟩
  | tup hq _ _ =>
    rcases hq.1 with (hq | ⟨o, hq⟩) | ⟨o, its, n, hk, hc, hd, hz, r⟩
    · exact ⟨_, .base (.tup hq), kit_of' kt_tup fun y => by cases y <;> rfl⟩
    · exact ⟨_, .fTuple hq, kit_of' kt_tup fun y => by cases y <;> rfl⟩
    · exact ⟨_, .kTuple hk hc, kit_of' kt_tup fun y => by cases y <;> rfl⟩
  | lst hq _ _ =>
    rcases hq with (hq | ⟨o, hq⟩) | ⟨o, its, n, hk, hc, hdd, hd, hz, r⟩
    · exact ⟨_, .base (.lst hq), kit_of' kt_lst fun y => by cases y <;> rfl⟩
    · exact ⟨_, .base (.frz hq), kit_of' kt_lst fun y => by cases y <;> rfl⟩
    · exact ⟨_, .kList hk hc, kit_of' kt_lst fun y => by cases y <;> rfl⟩
  | dct hq _ =>
    rcases hq with ⟨_, hq⟩ | ⟨es, n, us, kd, _⟩
    · exact ⟨_, .base (.dK hq), kit_of' kt_dct fun y => by cases y <;> rfl⟩
    · exact ⟨_, .kDict kd.at_ rfl, kit_of' kt_dct fun y => by cases y <;> rfl⟩
/-- isinstance(x, T) -/
def rIs1 (K : PySem.W.Frag) (w : World) (t : Cz.Ty) : List V → Hp → VK → Prop := fun xs H Q => ∃ F x d, Ex F H ∧ xs = [x, .ty (tyOf t)] ∧ Op K w F H x d ∧ Q (.bl (isTy d t)) H
theorem call_is1 (t : Cz.Ty) : CallR X (.builtin "isinstance") (rIs1 X.K X.w t) := by
  intro pins s σ H xs us Q I rs h
  obtain ⟨F, x, d, e, rfl, hx, q⟩ := h
  obtain ⟨tv, ty, k⟩ := kit_ok e hx
  exact call_isi pins s σ H _ us Q I rs ⟨x, .ty (tyOf t), tv, .type (tyOf t), _, rfl, .ty _, ty, k t, q⟩
/-- isinstance(x, (T, T2, ..)), the tuple just laid -/
def rIsT (K : PySem.W.Frag) (w : World) (ts : List Cz.Ty) : List V → Hp → VK → Prop := fun xs H Q => ∃ F x d p, Ex F H ∧ xs = [x, .ref p] ∧ Op K w F H x d ∧ H p = some (.tup (ts.map fun t => .ty (tyOf t))) ∧ Q (.bl (ts.any (isTy d))) H
theorem kit_any {K : PySem.W.Frag} {tv : Value} {d : D} (k : ∀ y, PySem.W.kitOne K tv (.type (tyOf y)) = some (isTy d y)) : ∀ ts : List Cz.Ty, PySem.W.kitAny K tv (ts.map fun t => Value.type (tyOf t)) = some (ts.any (isTy d))
  | [] => rfl
  | t :: r => by
    show (match PySem.W.kitOne K tv (.type (tyOf t)) with | some true => some true | some false => PySem.W.kitAny K tv (r.map fun t => Value.type (tyOf t)) | none => none) = some (isTy d t || r.any (isTy d))
    rw [k t, kit_any k r]
    cases isTy d t <;> rfl
theorem cls_all : ∀ ts : List Cz.Ty, Paired ClsV (ts.map fun t => V.ty (tyOf t)) (ts.map fun t => Value.type (tyOf t))
  | [] => .nil
  | t :: r => .cons (.ty _) (cls_all r)
theorem call_isT (ts : List Cz.Ty) : CallR X (.builtin "isinstance") (rIsT X.K X.w ts) := by
  intro pins s σ H xs us Q I rs h
  obtain ⟨F, x, d, p, e, rfl, hx, hp, q⟩ := h
  obtain ⟨tv, ty, k⟩ := kit_ok e hx
  exact call_isiT pins s σ H _ us Q I rs ⟨x, p, _, tv, _, _, rfl, hp, cls_all ts, ty, kit_any k ts, q⟩
/-! ### text.count('p') -/
/-- a method by data -/
def rMe (K : PySem.W.Frag) (w : World) (m : Me) : V → List V → Hp → VK → Prop := fun x xs H Q => ∃ F d ds r, Ex F H ∧ Op K w F H x d ∧ Ops K w F H xs ds ∧ meD m d ds = some r ∧ ∀ u F' H', Grow F H F' H' → Rv K w H F' H' u r → Q u H'
abbrev rCount (K : PySem.W.Frag) (w : World) : V → List V → Hp → VK → Prop := rMe K w .count
theorem few_count : (fewSigns.all fun s => decide (PySem.Txt.count (st s) (st [112]) = (s.count 112 : Nat))) = true := by decide +kernel
theorem mt_cnt : MtR X "str.count" (rCount X.K X.w) := by
  intro pins s σ H x xs v us Q I rx rs h
  obtain ⟨F, d, ds, r, e, hx, ho, hm, q⟩ := h
  have hm : meCnt d ds = some r := hm
  unfold meCnt at hm
  split at hm
  · split at hm
    · rename_i l
      cases hm
      rw [Bool.and_eq_true] at l
      obtain ⟨y, rfl, hy⟩ := ops1 ho
      have ec := eq_of_beq l.2
      subst ec
      refine L2.mt_count pins s σ H x _ v us Q I rx rs ⟨_, _, hx.str.1, congrArg (fun z => [z]) hy.str.1, ?_⟩
      have f := of_decide_eq_true (List.all_eq_true.mp few_count _ (List.contains_iff_mem.mp l.1))
      rw [f]
      exact q _ F H (.refl e) (.int _)
    · cases hm
  · cases hm
/-! ### row.index(x) -/
abbrev rIdxT (K : PySem.W.Frag) (w : World) : V → List V → Hp → VK → Prop := rMe K w .index
abbrev rIdxL (K : PySem.W.Frag) (w : World) : V → List V → Hp → VK → Prop := rMe K w .indexL
theorem st_inj2 {a b : List Nat} (h : st a = st b) : a = b := by
  have := congrArg (fun x : Str => x.cps.toList) h
  simpa using this
theorem idx_first {k : List Nat} : ∀ {ks : List (List Nat)} {j : Nat}, ks.idxOf? k = some j → ks[j]? = some k ∧ ∀ m, m < j → ks[m]? ≠ some k
  | [], j, h => by simp [List.idxOf?] at h
  | a :: r, j, h => by
    by_cases e : a = k
    · subst e
      have : j = 0 := by simpa [List.idxOf?, List.findIdx?_cons] using h.symm
      subst this
      exact ⟨rfl, fun m hm => by omega⟩
    · have h2 : (List.idxOf? k r).map (· + 1) = some j := by simpa [List.idxOf?, List.findIdx?_cons, e] using h
      obtain ⟨i, hi, rfl⟩ := Option.map_eq_some_iff.mp h2
      obtain ⟨g1, g2⟩ := idx_first hi
      refine ⟨by simpa using g1, fun m hm => ?_⟩
      cases m with
      | zero => simpa using e
      | succ m => simpa using g2 m (by omega)
theorem mt_idxT : MtR X "tuple.index" (rIdxT X.K X.w) := by
  intro pins s σ H x xs v us Q I rx rs h
  obtain ⟨F, d, ds, r, e, hx, ho, hm, q⟩ := h
  have hm : meIdx d ds = some r := hm
  unfold meIdx at hm
  split at hm
  · rename_i xs' k _
    obtain ⟨y, rfl, hy⟩ := ops1 ho
    cases ea : allStr xs' with
    | none => rw [ea] at hm; cases hm
    | some ks =>
      rw [ea] at hm
      obtain ⟨j, hj, er⟩ := Option.map_eq_some_iff.mp (show (ks.idxOf? k).map _ = some r from hm)
      subst er
      obtain ⟨p, vs, rfl, sq, qs, l, _⟩ := hx.tup e
      obtain ⟨e1, _⟩ := allStr_ok qs ea
      obtain ⟨i1, i2⟩ := idx_first hj
      have sq2 : SqT X.K H p ((ks.map st).map V.str) := by rw [List.map_map]; rw [e1] at sq; exact sq
      refine mt_tup_index pins s σ H _ _ v us Q I rx rs ⟨p, ks.map st, st k, j, rfl, congrArg (fun z => [z]) hy.str.1, sq2, by rw [List.getElem?_map, i1]; rfl, fun m hm2 z => ?_, ?_⟩
      · rw [List.getElem?_map] at z
        cases ez : ks[m]? with
        | none => rw [ez] at z; cases z
        | some k2 =>
          rw [ez] at z
          exact i2 m hm2 (by rw [ez, st_inj2 (Option.some.inj z)])
      · exact q _ F H (.refl e) (.int _)
  · cases hm
theorem mt_idxL : MtR X "list.index" (rIdxL X.K X.w) := by
  intro pins s σ H x xs v us Q I rx rs h
  obtain ⟨F, d, ds, r, e, hx, ho, hm, q⟩ := h
  have hm : meIdxL d ds = some r := hm
  unfold meIdxL at hm
  split at hm
  · rename_i xs' z _
    split at hm
    · rename_i fl
      rw [Bool.and_eq_true] at fl
      obtain ⟨j, hj, er⟩ := Option.map_eq_some_iff.mp hm
      subst er
      obtain ⟨y, rfl, hy⟩ := ops1 ho
      obtain ⟨p, vs, rfl, sq, qs, l⟩ := hx.lst e
      have hy2 := hy.now e
      obtain ⟨lj, b1, b2⟩ := List.findIdx?_eq_some_iff_getElem.mp hj
      obtain ⟨z1, hz1, dz1⟩ := qs.get (List.getElem?_eq_getElem lj)
      have al := List.all_eq_true.mp fl.2
      refine mt_index pins s σ H _ _ v us Q I rx rs ⟨p, vs, y, j, z1, rfl, rfl, sq, hy2.flat fl.1, (qs.mono e).flat fl.2, hz1, ?_, fun m z' hm2 hz' => ?_, q _ F H (.refl e) (.int _)⟩
      · rw [(dz1.mono e).eqV hy2 (al _ (List.getElem_mem lj)) fl.1]
        exact b1
      · obtain ⟨d', hd', dv'⟩ := qs.getV hz'
        have lm : m < xs'.length := by omega
        rw [List.getElem?_eq_getElem lm] at hd'
        cases hd'
        rw [(dv'.mono e).eqV hy2 (al _ (List.getElem_mem lm)) fl.1]
        have := b2 m hm2
        simpa using this
    · cases hm
  · cases hm
end
end Cs
end
section
set_option Elab.async false
set_option linter.all false
set_option maxRecDepth 100000
set_option maxHeartbeats 2000000
/-! SOUND 6: an environment of data stands for a frame's slots. -/
namespace Cs
open PySem L2 Cz PyProof.Rows
/-- the entry of a def: what was data for ever there, all, the lent lists by slots -/
structure Bas where
  F0 : Hp
  H0 : Hp
  L : List (Nat × Addr)
structure Rep (K : PySem.W.Frag) (w : World) (B : Bas) (F H : Hp) (σ : List (Option V)) (ρ : List Sl) : Prop where
  fe : Ex B.F0 F
  fh : Ex F H
  len : σ.length = ρ.length
  dat : ∀ (i : Nat) (x : D), ρ[i]? = some (Sl.d x) → ∃ v, σ[i]? = some (some v) ∧ DV K w F v x
  own : ∀ (i : Nat) (l : Bool) (xs : List D), ρ[i]? = some (Sl.own l xs) → ∃ p vs, σ[i]? = some (some (V.ref p)) ∧ F p = none ∧ H p = some (.lst vs) ∧ DVs K w F vs xs ∧ xs.length ≤ Lim ∧ (l = false → B.H0 p = none) ∧ (l = true → (i, p) ∈ B.L)
  apart : ∀ (i j : Nat) (l l' : Bool) (xs ys : List D) (p : Addr), ρ[i]? = some (Sl.own l xs) → ρ[j]? = some (Sl.own l' ys) → σ[i]? = some (some (V.ref p)) → σ[j]? = some (some (V.ref p)) → i = j
  lent : ∀ q ∈ B.L, (∃ xs, ρ[q.1]? = some (Sl.own true xs)) ∧ σ[q.1]? = some (some (V.ref q.2))
  frame : ∀ a o, B.H0 a = some o → (∀ q ∈ B.L, q.2 ≠ a) → H a = some o
  mask : ∀ a, B.H0 a ≠ none → B.F0 a = none → F a = none
section
variable {K : PySem.W.Frag} {w : World} {B : Bas} {F H F' H' : Hp} {σ : List (Option V)} {ρ : List Sl}
theorem Rep.grow (r : Rep K w B F H σ ρ) (g : Grow F H F' H') : Rep K w B F' H' σ ρ where
  fe := r.fe.trans g.f
  fh := g.fh
  len := r.len
  dat := fun i x h => let ⟨v, a, b⟩ := r.dat i x h; ⟨v, a, b.mono g.f⟩
  own := fun i l xs h => let ⟨p, vs, a, b, c, d, e, f1, f2⟩ := r.own i l xs h; ⟨p, vs, a, g.mask p (by rw [c]; simp) b, g.h _ _ c, d.mono g.f, e, f1, f2⟩
  apart := r.apart
  lent := r.lent
  frame := fun a o h1 h2 => g.h _ _ (r.frame a o h1 h2)
  mask := fun a h1 h2 => by
    have n := r.mask a h1 h2
    by_cases hl : ∃ q ∈ B.L, q.2 = a
    · obtain ⟨q, hq, e⟩ := hl
      obtain ⟨⟨xs, hx⟩, hs⟩ := r.lent q hq
      obtain ⟨p, vs, a1, b1, c1, _⟩ := r.own _ _ _ hx
      rw [hs] at a1
      cases a1
      exact g.mask a (by rw [← e, c1]; simp) n
    · cases e : B.H0 a with
      | none => exact absurd e h1
      | some o =>
        have hh := r.frame a o e fun q hq z => hl ⟨q, hq, z⟩
        exact g.mask a (by rw [hh]; simp) n
/-- what is new now was new at the entry -/
theorem Rep.fresh (r : Rep K w B F H σ ρ) {p : Addr} (h : H p = none) : B.H0 p = none := by
  cases e : B.H0 p with
  | none => rfl
  | some o =>
    by_cases hl : ∃ q ∈ B.L, q.2 = p
    · obtain ⟨q, hq, e2⟩ := hl
      obtain ⟨⟨xs, hx⟩, hs⟩ := r.lent q hq
      obtain ⟨p', vs, a1, b1, c1, _⟩ := r.own _ _ _ hx
      rw [hs] at a1
      cases a1
      rw [← e2, c1] at h
      cases h
    · have hh := r.frame p o e fun q hq z => hl ⟨q, hq, z⟩
      rw [hh] at h; cases h
theorem Rep.noOwn (r : Rep K w B F H σ ρ) {p : Addr} (h : H p = none) : ∀ (i : Nat) (l : Bool) (ys : List D), ρ[i]? = some (Sl.own l ys) → σ[i]? ≠ some (some (V.ref p)) := fun i l ys hi hs => by
  obtain ⟨p', vs, a1, _, c1, _⟩ := r.own i l ys hi
  rw [hs] at a1
  cases a1
  rw [h] at c1; cases c1
/-- a list of one's own becomes data for ever -/
theorem Rep.freeze (r : Rep K w B F H σ ρ) {p : Addr} {vs : List V} (hF : F p = none) (hH : H p = some (.lst vs)) (h0 : B.H0 p = none) (hn : ∀ (i : Nat) (l : Bool) (ys : List D), ρ[i]? = some (Sl.own l ys) → σ[i]? ≠ some (some (V.ref p))) : Rep K w B (upd F p (.lst vs)) H σ ρ := by
  have e : Ex F (upd F p (.lst vs)) := .new hF
  exact {
    fe := r.fe.trans e
    fh := fun a o h => by
      by_cases z : a = p
      · subst z; rw [upd_same] at h; cases h; exact hH
      · rw [upd_ne z] at h; exact r.fh _ _ h
    len := r.len
    dat := fun i x h => let ⟨v, a, b⟩ := r.dat i x h; ⟨v, a, b.mono e⟩
    own := fun i l xs h => by
      obtain ⟨q, ws, a, b, c, d, l2, f1, f2⟩ := r.own i l xs h
      have : q ≠ p := fun z => hn i l xs h (by rw [a, z])
      exact ⟨q, ws, a, by rw [upd_ne this]; exact b, c, d.mono e, l2, f1, f2⟩
    apart := r.apart
    lent := r.lent
    frame := r.frame
    mask := fun a h1 h2 => by
      have : a ≠ p := fun z => by subst z; exact h1 h0
      rw [upd_ne this]
      exact r.mask a h1 h2 }
end
/-- what an expression's value is -/
def EvP (K : PySem.W.Frag) (w : World) (B : Bas) (F H : Hp) (σ : List (Option V)) (ρ : List Sl) (v : Val) (x : V) : Prop :=
  match v with
  | .p d => DV K w F x d
  | .f xs => ∃ p vs, x = .ref p ∧ F p = none ∧ H p = some (.lst vs) ∧ DVs K w F vs xs ∧ xs.length ≤ Lim ∧ B.H0 p = none ∧ ∀ (i : Nat) (l : Bool) (ys : List D), ρ[i]? = some (Sl.own l ys) → σ[i]? ≠ some (some (V.ref p))
  | .b i => σ[i]? = some (some x) ∧ ∃ l ys, ρ[i]? = some (Sl.own l ys)
/-- what stays of it -/
def Kp (K : PySem.W.Frag) (w : World) (F : Hp) (σ : List (Option V)) (v : Val) (x : V) : Prop :=
  match v with
  | .p d => DV K w F x d
  | .f _ => False
  | .b i => σ[i]? = some (some x)
section
variable {K : PySem.W.Frag} {w : World} {B : Bas} {F H F' H' : Hp} {σ : List (Option V)} {ρ : List Sl} {v : Val} {x : V} {d : D}
theorem Kp.mono (e : Ex F F') (h : Kp K w F σ v x) : Kp K w F' σ v x := by
  cases v with
  | p d => exact DV.mono e h
  | f xs => exact h.elim
  | b i => exact h
/-- let go -/
theorem EvP.fz (r : Rep K w B F H σ ρ) (h : EvP K w B F H σ ρ v x) : ∃ F', Ex F F' ∧ Rep K w B F' H σ ρ ∧ Kp K w F' σ (Cz.fz v) x := by
  cases v with
  | p d => exact ⟨F, .refl F, r, h⟩
  | b i => exact ⟨F, .refl F, r, h.1⟩
  | f xs =>
    obtain ⟨p, vs, rfl, hF, hH, q, l, h0, hn⟩ := h
    refine ⟨upd F p (.lst vs), .new hF, r.freeze hF hH h0 hn, ?_⟩
    exact .lst (SqL.of upd_same) (q.mono (.new hF)) l
theorem Kp.op (r : Rep K w B F H σ ρ) (h : Kp K w F σ v x) (e : res ρ v = some d) : Op K w F H x d := by
  cases v with
  | p d' => cases e; exact .inl h
  | f xs => exact h.elim
  | b i =>
    have e' : (match ρ[i]? with | some (Sl.own _ xs) => some (D.lst xs) | _ => none) = some d := e
    split at e'
    · rename_i l xs hi
      cases e'
      obtain ⟨p, vs, a, b, c, q, l2, _⟩ := r.own i _ xs hi
      rw [show σ[i]? = some (some x) from h] at a
      cases a
      exact .inr ⟨p, vs, xs, rfl, rfl, c, q, l2⟩
    · cases e'
/-- an operation's result -/
theorem Rv.ev (r : Rep K w B F H σ ρ) (g : Grow F H F' H') {u : V} {z : Val} (h : Rv K w H F' H' u z) : EvP K w B F' H' σ ρ z u := by
  cases z with
  | p d => exact h
  | b i => exact h.elim
  | f xs =>
    obtain ⟨p, vs, rfl, a, b, c, q, l⟩ := h
    exact ⟨p, vs, rfl, b, c, q, l, r.fresh a, r.noOwn a⟩
end
end Cs
end
section
set_option Elab.async false
set_option linter.all false
set_option maxRecDepth 100000
set_option maxHeartbeats 2000000
/-! SOUND 7: expressions. -/
namespace Cs
open PySem L2 Cz PyProof.Rows
/-- an exception as it flies: its class's address, its own dict -/
def XRep (xa : Nat → Option Addr) (xf : Nat → Str) (K : PySem.W.Frag) (w : World) (F H : Hp) (x : Exn) (cls : Value) (d : Option Addr) : Prop :=
  ∃ C dd v, xa x.cls = some C ∧ cls = .ref C ∧ d = some dd ∧ H dd = some (.xd [(xf x.cls, v)]) ∧ DV K w F v x.arg
/-- what an exception is wished to be, by data -/
abbrev Wi := Exn → List Sl → Prop
/-- the fixed things of a proof: the constants, the defs' meaning, where the errors' classes stand, the entry -/
structure Fx where
  M : Mo
  C : Nat → List Cz.Arg → Rc
  xa : Nat → Option Addr
  xf : Nat → Str
def WD (G : Fx) (K : PySem.W.Frag) (w : World) (B : Bas) (W : Wi) : WX := fun cls d σ H => ∃ F x ρ, Rep K w B F H σ ρ ∧ XRep G.xa G.xf K w F H x cls d ∧ W x ρ
section
variable (G : Fx) (K : PySem.W.Frag) (w : World) (B : Bas) (W : Wi)
def tE (e : E) : TE := fun σ H Q => ∃ F ρ, Rep K w B F H σ ρ ∧ (match evE G.M G.C e ρ with
  | .ok v ρ' => ∀ x F' H', Ex F F' → Rep K w B F' H' σ ρ' → EvP K w B F' H' σ ρ' v x → Q x H'
  | .ex x ρ' => W x ρ'
  | .bad => False)
def tT (e : E) : TT := fun σ H Q => ∃ F ρ, Rep K w B F H σ ρ ∧ (match evE G.M G.C e ρ with
  | .ok v ρ' => ∃ k, (res ρ' (fz v)).bind truth = some k ∧ ∀ F' H', Ex F F' → Rep K w B F' H' σ ρ' → Q k H'
  | .ex x ρ' => W x ρ'
  | .bad => False)
/-- values in a row -/
inductive Kps (F : Hp) (σ : List (Option V)) : List Val → List V → Prop
  | nil : Kps F σ [] []
  | cons {v : Val} {vs : List Val} {x : V} {xs : List V} : Kp K w F σ v x → Kps F σ vs xs → Kps F σ (v :: vs) (x :: xs)
def tEs (es : Es) : TA := fun σ H Q => ∃ F ρ, Rep K w B F H σ ρ ∧ (match evEs G.M G.C es ρ with
  | .ok vs ρ' => ∀ xs F' H', Ex F F' → Rep K w B F' H' σ ρ' → Kps K w F' σ vs xs → Q xs H'
  | .ex x ρ' => W x ρ'
  | .bad => False)
end
theorem Kps.mono {K : PySem.W.Frag} {w : World} {F F' : Hp} {σ : List (Option V)} (e : Ex F F') : ∀ {vs : List Val} {xs : List V}, Kps K w F σ vs xs → Kps K w F' σ vs xs
  | _, _, .nil => .nil
  | _, _, .cons h q => .cons (h.mono e) (Kps.mono e q)
theorem _root_.L2.PE.imp {X : Cx} {e : Expr} {t t' : TE} (h : PE X e t) (i : ∀ σ H Q, t' σ H Q → t σ H Q) : PE X e t' := ⟨fun pins s σ H Q I q => h.run pins s σ H Q I (i σ H Q q)⟩
theorem _root_.L2.PT.imp {X : Cx} {e : Expr} {t t' : TT} (h : PT X e t) (i : ∀ σ H Q, t' σ H Q → t σ H Q) : PT X e t' := ⟨fun pins s σ H Q I q => h.run pins s σ H Q I (i σ H Q q)⟩
theorem _root_.L2.PW.imp {X : Cx} {e : Expr} {t t' : TT} (h : PW X e t) (i : ∀ σ H Q, t' σ H Q → t σ H Q) : PW X e t' := ⟨fun wh pins s σ H Q I q => h.run wh pins s σ H Q I (i σ H Q q)⟩
theorem _root_.L2.PA.imp {X : Cx} {e : List Expr} {t t' : TA} (h : PA X e t) (i : ∀ σ H Q, t' σ H Q → t σ H Q) : PA X e t' := ⟨fun pos pins s σ H Q I q => h.run pos pins s σ H Q I (i σ H Q q)⟩
theorem pset1 (ρ : List Sl) (i j : Nat) (z y : Sl) : (ρ.set i z)[j]? = some y ↔ (if i = j then (i < ρ.length ∧ z = y) else ρ[j]? = some y) := by
  by_cases h : i = j
  · subst h
    rw [if_pos rfl, List.getElem?_set_self']
    by_cases hl : i < ρ.length
    · rw [List.getElem?_eq_getElem hl]
      simp [hl]
    · rw [List.getElem?_eq_none (by omega)]
      simp [hl]
  · rw [if_neg h, List.getElem?_set_ne h]
section
variable {X : Cx} {G : Fx} {B : Bas} {W : Wi}
/-- a slot read -/
theorem sE_var {i : Nat} {x : Str} {pos : Pos} (hN : X.N[i]? = some x) (hv : Vis X.env.scope x) (hd : (x == ("__debug__" : Str)) = false) (hcd : (x == ("__classdict__" : Str)) = false) : PE X (.Name x pos) (tE G X.K X.w B W (.var i)) := by
  refine (pe_var hN hv hd hcd).imp fun σ H Q h => ?_
  obtain ⟨F, ρ, r, h⟩ := h
  unfold evE at h
  split at h
  · rename_i v ρ' he
    split at he
    · rename_i y hy
      cases he
      obtain ⟨z, hz, dv⟩ := r.dat i y hy
      exact ⟨z, hz, h z F H (.refl F) r dv⟩
    · rename_i xs hy
      cases he
      obtain ⟨p, vs, a, b, c, d, l, f1, f2⟩ := r.own i _ xs hy
      refine ⟨_, a, ?_⟩
      have hn : ∀ (j : Nat) (l : Bool) (ys : List D), (ρ.set i (.d (.lst xs)))[j]? = some (Sl.own l ys) → σ[j]? ≠ some (some (V.ref p)) := fun j l ys hj hs => by
        rw [pset1] at hj
        split at hj
        · cases hj.2
        · rename_i hij
          exact hij (r.apart i j _ _ _ _ p hy hj a hs)
      have e1 : Ex F (upd F p (.lst vs)) := .new b
      have r2 : Rep X.K X.w B (upd F p (.lst vs)) H σ (ρ.set i (.d (.lst xs))) := {
        fe := r.fe.trans e1
        fh := fun a o h => by
          by_cases z : a = p
          · subst z; rw [upd_same] at h; cases h; exact c
          · rw [upd_ne z] at h; exact r.fh _ _ h
        len := by rw [List.length_set]; exact r.len
        dat := fun j y hj => by
          rw [pset1] at hj
          split at hj
          · rename_i hij
            subst hij
            cases hj.2
            exact ⟨_, a, .lst (SqL.of upd_same) (d.mono e1) l⟩
          · obtain ⟨v, a, b⟩ := r.dat j y hj
            exact ⟨v, a, b.mono e1⟩
        own := fun j l ys hj => by
          have hj' := hj
          rw [pset1] at hj'
          split at hj'
          · cases hj'.2
          · obtain ⟨q, ws, a', b', c', d', l', f1', f2'⟩ := r.own j l ys hj'
            have : q ≠ p := fun z => hn j l ys hj (by rw [a', z])
            exact ⟨q, ws, a', by rw [upd_ne this]; exact b', c', d'.mono e1, l', f1', f2'⟩
        apart := fun j k l l' ys zs q hj hk => by
          rw [pset1] at hj hk
          split at hj
          · cases hj.2
          · split at hk
            · cases hk.2
            · exact r.apart j k l l' ys zs q hj hk
        lent := fun q hq => by
          obtain ⟨⟨ys, hy2⟩, hs⟩ := r.lent q hq
          refine ⟨⟨ys, ?_⟩, hs⟩
          rw [pset1]
          split
          · rename_i hij
            rw [← hij, hy] at hy2
            cases hy2
          · exact hy2
        frame := r.frame
        mask := fun a h1 h2 => by
          have : a ≠ p := fun z => by subst z; exact h1 (f1 rfl)
          rw [upd_ne this]
          exact r.mask a h1 h2 }
      exact h (V.ref p) _ H e1 r2 (.lst (SqL.of upd_same) (d.mono e1) l)
    · cases he
  · rename_i he
    split at he <;> cases he
  · exact h.elim
/-- a slot lent -/
theorem sE_bor {i : Nat} {x : Str} {pos : Pos} (hN : X.N[i]? = some x) (hv : Vis X.env.scope x) (hd : (x == ("__debug__" : Str)) = false) (hcd : (x == ("__classdict__" : Str)) = false) : PE X (.Name x pos) (tE G X.K X.w B W (.bor i)) := by
  refine (pe_var hN hv hd hcd).imp fun σ H Q h => ?_
  obtain ⟨F, ρ, r, h⟩ := h
  unfold evE at h
  split at h
  · rename_i v ρ' he
    split at he
    · rename_i y hy
      cases he
      obtain ⟨z, hz, dv⟩ := r.dat i y hy
      exact ⟨z, hz, h z F H (.refl F) r dv⟩
    · rename_i l xs hy
      cases he
      obtain ⟨p, vs, a, b, c, d, l, f1, f2⟩ := r.own i _ xs hy
      exact ⟨_, a, h _ F H (.refl F) r ⟨a, _, _, hy⟩⟩
    · cases he
  · rename_i he
    split at he <;> cases he
  · exact h.elim
theorem sE_c {d : D} {v : V} {e : Expr} (h : PE X e (tC v)) (hd : ∀ H, DV X.K X.w H v d) : PE X e (tE G X.K X.w B W (.c d)) := by
  refine h.imp fun σ H Q h => ?_
  obtain ⟨F, ρ, r, h⟩ := h
  exact h v F H (.refl F) r (hd F)
theorem sE_g {k : Nat} {e : Expr} {d : D} {v : V} (hk : G.M.g k = some d) (h : PE X e (tC v)) (hd : ∀ H, DV X.K X.w H v d) : PE X e (tE G X.K X.w B W (.g k)) := by
  refine h.imp fun σ H Q h => ?_
  obtain ⟨F, ρ, r, h⟩ := h
  unfold evE at h
  rw [hk] at h
  exact h v F H (.refl F) r (hd F)
/-- two operands, then an operation -/
theorem two {a b : E} {σ : List (Option V)} {H : Hp} {R : V → V → Hp → Prop} {F : Hp} {ρ : List Sl} (r : Rep X.K X.w B F H σ ρ)
    (h : match evE G.M G.C a ρ with
      | .ok v ρ1 => (match evE G.M G.C b ρ1 with
        | .ok u ρ2 => ∃ dx dy, res ρ2 (fz v) = some dx ∧ res ρ2 (fz u) = some dy ∧ ∀ x y F' H', Ex F F' → Rep X.K X.w B F' H' σ ρ2 → Op X.K X.w F' H' x dx → Op X.K X.w F' H' y dy → R x y H'
        | .ex x ρ2 => W x ρ2
        | .bad => False)
      | .ex x ρ1 => W x ρ1
      | .bad => False) : tE G X.K X.w B W a σ H fun x H1 => tE G X.K X.w B W b σ H1 fun y H2 => R x y H2 := by
  refine ⟨F, ρ, r, ?_⟩
  split at h
  · rename_i v ρ1 ha
    intro x F1 H1 e1 r1 ev1
    obtain ⟨F2, e2, r2, k2⟩ := ev1.fz r1
    refine ⟨F2, ρ1, r2, ?_⟩
    split at h
    · rename_i u ρ2 hb
      intro y F3 H3 e3 r3 ev3
      obtain ⟨dx, dy, hx, hy, k⟩ := h
      obtain ⟨F4, e4, r4, k4⟩ := ev3.fz r3
      exact k x y F4 H3 (((e1.trans e2).trans e3).trans e4) r4 ((k2.mono (e3.trans e4)).op r4 hx) (k4.op r4 hy)
    · exact h
    · exact h.elim
  · exact h
  · exact h.elim
theorem sE_bin {o : Bop} {a b : E} {ea eb : Expr} {pos : Pos} (ha : PE X ea (tE G X.K X.w B W a)) (hb : PE X eb (tE G X.K X.w B W b)) : PE X (.BinOp ea (opOf o) eb pos) (tE G X.K X.w B W (.bin o a b)) := by
  refine (pe_op (op_bin o) ha hb).imp fun σ H Q h => ?_
  obtain ⟨F, ρ, r, h⟩ := h
  refine two r ?_
  unfold evE at h
  cases h1 : evE G.M G.C a ρ with
  | ok v ρ1 =>
    rw [h1] at h
    simp only at h ⊢
    cases h2 : evE G.M G.C b ρ1 with
    | ok u ρ2 =>
      rw [h2] at h
      simp only at h ⊢
      cases h3 : res ρ2 (fz v) with
      | none => rw [h3] at h; exact h.elim
      | some dx =>
        cases h4 : res ρ2 (fz u) with
        | none => rw [h3, h4] at h; exact h.elim
        | some dy =>
          rw [h3, h4] at h
          simp only at h
          cases h5 : binD o dx dy with
          | none => rw [h5] at h; exact h.elim
          | some z =>
            rw [h5] at h
            exact ⟨dx, dy, rfl, rfl, fun x y F' H' e r' ox oy => ⟨F', dx, dy, z, r'.fh, ox, oy, h5, fun q F2 H2 g rv => h q F2 H2 (e.trans g.f) (r'.grow g) (rv.ev r' g)⟩⟩
    | ex x ρ2 => rw [h2] at h; exact h
    | bad => rw [h2] at h; exact h
  | ex x ρ1 => rw [h1] at h; exact h
  | bad => rw [h1] at h; exact h
end
end Cs
end
section
set_option Elab.async false
set_option linter.all false
set_option maxRecDepth 100000
set_option maxHeartbeats 2000000
/-! SOUND 8: expressions, further. -/
namespace Cs
open PySem L2 Cz PyProof.Rows
section
variable {X : Cx} {G : Fx} {B : Bas} {W : Wi}
theorem sE_cmp (hu : X.A.units + 150 < cLine) {o : Cop} {a b : E} {ea eb : Expr} {pos : Pos} (hm : behindInMarks (copOf o) eb = false) (ha : PE X ea (tE G X.K X.w B W a)) (hb : PE X eb (tE G X.K X.w B W b)) : PE X (.Compare ea [copOf o] [eb] pos) (tE G X.K X.w B W (.cmp o a b)) := by
  refine (pe_cmpR (op_cmp hu o) ha hb hm).imp fun σ H Q h => ?_
  obtain ⟨F, ρ, r, h⟩ := h
  refine two r ?_
  unfold evE at h
  cases h1 : evE G.M G.C a ρ with
  | ok v ρ1 =>
    rw [h1] at h
    simp only at h ⊢
    cases h2 : evE G.M G.C b ρ1 with
    | ok u ρ2 =>
      rw [h2] at h
      simp only at h ⊢
      cases h3 : res ρ2 (fz v) with
      | none => rw [h3] at h; exact h.elim
      | some dx =>
        cases h4 : res ρ2 (fz u) with
        | none => rw [h3, h4] at h; exact h.elim
        | some dy =>
          rw [h3, h4] at h
          simp only at h
          cases h5 : cmpD o dx dy with
          | none => rw [h5] at h; exact h.elim
          | some z =>
            rw [h5] at h
            exact ⟨dx, dy, rfl, rfl, fun x y F' H' e r' ox oy => ⟨F', dx, dy, z, r'.fh, ox, oy, h5, h _ F' H' e r' (.bl z)⟩⟩
    | ex x ρ2 => rw [h2] at h; exact h
    | bad => rw [h2] at h; exact h
  | ex x ρ1 => rw [h1] at h; exact h
  | bad => rw [h1] at h; exact h
theorem sT_cmp (hu : X.A.units + 150 < cLine) {o : Cop} {a b : E} {ea eb : Expr} {pos : Pos} (hm : behindInMarks (copOf o) eb = false) (ha : PE X ea (tE G X.K X.w B W a)) (hb : PE X eb (tE G X.K X.w B W b)) : PT X (.Compare ea [copOf o] [eb] pos) (tT G X.K X.w B W (.cmp o a b)) := by
  refine (pt_cmpR (op_cmp hu o) ha hb hm).imp fun σ H Q h => ?_
  obtain ⟨F, ρ, r, h⟩ := h
  refine two (R := fun x y H2 => rCmp X.K X.w o x y H2 fun x H' => ∃ k, x = V.bl k ∧ Q k H') r ?_
  unfold evE at h
  cases h1 : evE G.M G.C a ρ with
  | ok v ρ1 =>
    rw [h1] at h
    simp only at h ⊢
    cases h2 : evE G.M G.C b ρ1 with
    | ok u ρ2 =>
      rw [h2] at h
      simp only at h ⊢
      cases h3 : res ρ2 (fz v) with
      | none => rw [h3] at h; exact h.elim
      | some dx =>
        cases h4 : res ρ2 (fz u) with
        | none => rw [h3, h4] at h; exact h.elim
        | some dy =>
          rw [h3, h4] at h
          simp only at h
          cases h5 : cmpD o dx dy with
          | none => rw [h5] at h; exact h.elim
          | some z =>
            rw [h5] at h
            obtain ⟨k, hk, q⟩ := h
            have hz : z = k := Option.some.inj hk
            subst hz
            exact ⟨dx, dy, rfl, rfl, fun x y F' H' e r' ox oy => ⟨F', dx, dy, z, r'.fh, ox, oy, h5, z, rfl, q F' H' e r'⟩⟩
    | ex x ρ2 => rw [h2] at h; exact h
    | bad => rw [h2] at h; exact h
  | ex x ρ1 => rw [h1] at h; exact h
  | bad => rw [h1] at h; exact h
/-- the test of a thing whose truth is looked up -/
theorem sT_any {a : E} {ea : Expr} (ha : PE X ea (tE G X.K X.w B W a)) (he : ∀ whole, isTrue ea X.env whole = (do let v ← whole; standAt ea.pos; holding [v] (truthy v))) : PT X ea (tT G X.K X.w B W a) := by
  refine (pt_truth ha he).imp fun σ H Q h => ?_
  obtain ⟨F, ρ, r, h⟩ := h
  refine ⟨F, ρ, r, ?_⟩
  cases h1 : evE G.M G.C a ρ with
  | ok v ρ1 =>
    rw [h1] at h
    obtain ⟨k, hk, q⟩ := h
    intro x F1 H1 e1 r1 ev1
    obtain ⟨F2, e2, r2, k2⟩ := ev1.fz r1
    obtain ⟨d, hd, ht⟩ := Option.bind_eq_some_iff.mp hk
    exact ⟨k, tru_dat r2.fh (k2.op r2 hd) ht, q F2 H1 (e1.trans e2) r2⟩
  | ex x ρ1 => rw [h1] at h; exact h
  | bad => rw [h1] at h; exact h
/-- not -/
theorem sT_not {a : E} {ea : Expr} {pos : Pos} (ha : PT X ea (tT G X.K X.w B W a)) : PT X (.UnaryOp .Not ea pos) (tT G X.K X.w B W (.not a)) := by
  refine (pt_not ha).imp fun σ H Q h => ?_
  obtain ⟨F, ρ, r, h⟩ := h
  refine ⟨F, ρ, r, ?_⟩
  unfold evE at h
  cases h1 : evE G.M G.C a ρ with
  | ok v ρ1 =>
    rw [h1] at h
    simp only at h ⊢
    cases h2 : (res ρ1 (fz v)).bind truth with
    | none => rw [h2] at h; exact h.elim
    | some k =>
      rw [h2] at h
      obtain ⟨k', hk', q⟩ := h
      have hz : (!k) = k' := Option.some.inj hk'
      subst hz
      exact ⟨k, rfl, q⟩
  | ex x ρ1 => rw [h1] at h; exact h
  | bad => rw [h1] at h; exact h
/-- what was told of an earlier state -/
theorem tE_of {a : E} {σ : List (Option V)} {H' : Hp} {Q : VK} {F F' : Hp} {ρ : List Sl} (e : Ex F F') (r' : Rep X.K X.w B F' H' σ ρ)
    (h : match evE G.M G.C a ρ with
      | .ok v ρ' => ∀ x F' H', Ex F F' → Rep X.K X.w B F' H' σ ρ' → EvP X.K X.w B F' H' σ ρ' v x → Q x H'
      | .ex x ρ' => W x ρ'
      | .bad => False) : tE G X.K X.w B W a σ H' Q := by
  refine ⟨F', ρ, r', ?_⟩
  cases h3 : evE G.M G.C a ρ with
  | ok v ρ2 =>
    rw [h3] at h
    intro x F2 H2 e2 r2 ev2
    exact h x F2 H2 (e.trans e2) r2 ev2
  | ex x ρ2 => rw [h3] at h; exact h
  | bad => rw [h3] at h; exact h
theorem tT_of {a : E} {σ : List (Option V)} {H' : Hp} {Q : Bool → Hp → Prop} {F F' : Hp} {ρ : List Sl} (e : Ex F F') (r' : Rep X.K X.w B F' H' σ ρ)
    (h : match evE G.M G.C a ρ with
      | .ok v ρ' => ∃ k, (res ρ' (fz v)).bind truth = some k ∧ ∀ F' H', Ex F F' → Rep X.K X.w B F' H' σ ρ' → Q k H'
      | .ex x ρ' => W x ρ'
      | .bad => False) : tT G X.K X.w B W a σ H' Q := by
  refine ⟨F', ρ, r', ?_⟩
  cases h3 : evE G.M G.C a ρ with
  | ok v ρ2 =>
    rw [h3] at h
    obtain ⟨k, hk, q⟩ := h
    exact ⟨k, hk, fun F2 H2 e2 r2 => q F2 H2 (e.trans e2) r2⟩
  | ex x ρ2 => rw [h3] at h; exact h
  | bad => rw [h3] at h; exact h
/-- a condition: t, then this or that -/
theorem cond {c a b : E} {tc : TT} {σ : List (Option V)} {H : Hp} {Q : VK} {F : Hp} {ρ : List Sl} (r : Rep X.K X.w B F H σ ρ)
    (h : match evE G.M G.C (.ife c a b) ρ with
      | .ok v ρ' => ∀ x F' H', Ex F F' → Rep X.K X.w B F' H' σ ρ' → EvP X.K X.w B F' H' σ ρ' v x → Q x H'
      | .ex x ρ' => W x ρ'
      | .bad => False) : tT G X.K X.w B W c σ H fun k H1 => if k = true then tE G X.K X.w B W a σ H1 Q else tE G X.K X.w B W b σ H1 Q := by
  refine ⟨F, ρ, r, ?_⟩
  unfold evE at h
  cases h1 : evE G.M G.C c ρ with
  | ok v ρ1 =>
    rw [h1] at h
    simp only at h ⊢
    cases h2 : (res ρ1 (fz v)).bind truth with
    | none => rw [h2] at h; exact h.elim
    | some k =>
      rw [h2] at h
      refine ⟨k, rfl, fun F' H' e r' => ?_⟩
      cases k with
      | true =>
        rw [if_pos rfl]
        exact tE_of e r' h
      | false =>
        rw [if_neg Bool.false_ne_true]
        exact tE_of e r' h
  | ex x ρ1 => rw [h1] at h; exact h
  | bad => rw [h1] at h; exact h
theorem sE_ife {c a b : E} {ec ea eb : Expr} {pos : Pos} (hc : PT X ec (tT G X.K X.w B W c)) (ha : PE X ea (tE G X.K X.w B W a)) (hb : PE X eb (tE G X.K X.w B W b)) : PE X (.IfExp ec ea eb pos) (tE G X.K X.w B W (.ife c a b)) := by
  refine (pe_ifExp hc ha hb).imp fun σ H Q h => ?_
  obtain ⟨F, ρ, r, h⟩ := h
  exact cond (tc := fun _ _ _ => True) r h
/-- a condition as a test -/
theorem pt_ifExp {ec ea eb : Expr} {tc ta tb : TT} {pos : Pos} (hc : PT X ec tc) (ha : PT X ea ta) (hb : PT X eb tb) : PT X (.IfExp ec ea eb pos) (fun σ H Q => tc σ H fun k H1 => if k = true then ta σ H1 Q else tb σ H1 Q) := by
  refine ⟨fun pins s σ H Q I h => ?_⟩
  show wpAny _ _ (isTrue ec X.env (eval ec X.env) >>= fun k => if k = true then isTrue ea X.env (eval ea X.env) else isTrue eb X.env (eval eb X.env)) _ _ _
  refine wpAny_bind (thn (hc.run pins s σ H _ I h) fun d s1 ⟨H1, I1, q1⟩ => ?_)
  cases d with
  | true => exact ha.run pins s1 σ H1 Q I1 q1
  | false => exact hb.run pins s1 σ H1 Q I1 q1
theorem sT_ife {c a b : E} {ec ea eb : Expr} {pos : Pos} (hc : PT X ec (tT G X.K X.w B W c)) (ha : PT X ea (tT G X.K X.w B W a)) (hb : PT X eb (tT G X.K X.w B W b)) : PT X (.IfExp ec ea eb pos) (tT G X.K X.w B W (.ife c a b)) := by
  refine (pt_ifExp hc ha hb).imp fun σ H Q h => ?_
  obtain ⟨F, ρ, r, h⟩ := h
  refine ⟨F, ρ, r, ?_⟩
  unfold evE at h
  cases h1 : evE G.M G.C c ρ with
  | ok v ρ1 =>
    rw [h1] at h
    simp only at h ⊢
    cases h2 : (res ρ1 (fz v)).bind truth with
    | none => rw [h2] at h; exact h.elim
    | some k =>
      rw [h2] at h
      refine ⟨k, rfl, fun F' H' e r' => ?_⟩
      cases k with
      | true =>
        rw [if_pos rfl]
        exact tT_of e r' h
      | false =>
        rw [if_neg Bool.false_ne_true]
        exact tT_of e r' h
  | ex x ρ1 => rw [h1] at h; exact h
  | bad => rw [h1] at h; exact h
/-- arguments -/
theorem sA_nil : PA X [] (tEs G X.K X.w B W .nil) := by
  refine pa_nil.imp fun σ H Q h => ?_
  obtain ⟨F, ρ, r, h⟩ := h
  exact h [] F H (.refl F) r .nil
theorem sA_cons {e : E} {es : Es} {ea : Expr} {eas : List Expr} (he : PE X ea (tE G X.K X.w B W e)) (hs : PA X eas (tEs G X.K X.w B W es)) (hst : starEach (ea :: eas) X.env = (false, eval ea X.env) :: starEach eas X.env) : PA X (ea :: eas) (tEs G X.K X.w B W (.cons e es)) := by
  refine (pa_cons he hs hst).imp fun σ H Q h => ?_
  obtain ⟨F, ρ, r, h⟩ := h
  refine ⟨F, ρ, r, ?_⟩
  unfold evEs at h
  cases h1 : evE G.M G.C e ρ with
  | ok v ρ1 =>
    rw [h1] at h
    simp only at h ⊢
    intro x F1 H1 e1 r1 ev1
    obtain ⟨F2, e2, r2, k2⟩ := ev1.fz r1
    refine ⟨F2, ρ1, r2, ?_⟩
    cases h2 : evEs G.M G.C es ρ1 with
    | ok vs ρ2 =>
      rw [h2] at h
      simp only at h ⊢
      intro xs F3 H3 e3 r3 k3
      exact h (x :: xs) F3 H3 ((e1.trans e2).trans e3) r3 (.cons (k2.mono e3) k3)
    | ex x ρ2 => rw [h2] at h; exact h
    | bad => rw [h2] at h; exact h
  | ex x ρ1 => rw [h1] at h; exact h
  | bad => rw [h1] at h; exact h
theorem Kps.ops {F H : Hp} {σ : List (Option V)} {ρ : List Sl} (r : Rep X.K X.w B F H σ ρ) : ∀ {vs : List Val} {xs : List V} {ds : List D}, Kps X.K X.w F σ vs xs → ress ρ vs = some ds → Ops X.K X.w F H xs ds
  | [], _, _, .nil, h => by cases h; exact .nil
  | v :: vs, _, _, .cons k q, h => by
    unfold ress at h
    split at h
    · rename_i d ds h1 h2
      cases h
      exact .cons (k.op r h1) (Kps.ops r q h2)
    · cases h
/-- all are data for ever -/
theorem Kps.dvs {F : Hp} {σ : List (Option V)} {ρ : List Sl} : ∀ {vs : List Val} {xs : List V} {ds : List D}, Kps X.K X.w F σ vs xs → ress ρ vs = some ds → noB vs = true → DVs X.K X.w F xs ds
  | [], _, _, .nil, h, _ => by cases h; exact .nil
  | v :: vs, _, _, .cons k q, h, l => by
    unfold ress at h
    unfold noB at l
    rw [List.all_cons, Bool.and_eq_true] at l
    split at h
    · rename_i d ds h1 h2
      cases h
      refine .cons ?_ (Kps.dvs q h2 l.2)
      cases v with
      | p d' => cases h1; exact k
      | f _ => exact k.elim
      | b i => exact absurd l.1 Bool.false_ne_true
    · cases h
def esLen : Es → Nat
  | .nil => 0
  | .cons _ es => esLen es + 1
theorem es_len : ∀ (es : Es) {ρ ρ' : List Sl} {vs : List Val}, evEs G.M G.C es ρ = .ok vs ρ' → vs.length = esLen es
  | .nil, ρ, ρ', vs, h => by unfold evEs at h; cases h; rfl
  | .cons e es, ρ, ρ', vs, h => by
    unfold evEs at h
    split at h
    · split at h
      · rename_i h2
        cases h
        show (List.length _) + 1 = _
        rw [es_len es h2]; rfl
      · rename_i q h2; exact absurd h (h2 _ _)
    · cases h
    · cases h
theorem sE_tup {es : Es} {eas : List Expr} {k : Nat} {pos : Pos} (hl : esLen es ≤ Lim) (hs : PA X eas (tEs G X.K X.w B W es)) : PE X (.Tuple eas k pos) (tE G X.K X.w B W (.tup es)) := by
  refine (pe_tupN hs).imp fun σ H Q h => ?_
  obtain ⟨F, ρ, r, h⟩ := h
  refine ⟨F, ρ, r, ?_⟩
  unfold evE at h
  cases h1 : evEs G.M G.C es ρ with
  | ok vs ρ1 =>
    rw [h1] at h
    simp only at h ⊢
    intro xs F1 H1 e1 r1 k1
    cases h2 : ress ρ1 vs with
    | none => rw [h2] at h; exact h.elim
    | some ds =>
      rw [h2] at h
      simp only at h
      by_cases l : noB vs = true
      · rw [if_pos l] at h
        have q := k1.dvs h2 l
        have ll : ds.length ≤ Lim := by
          have a1 := es_len es h1
          have a2 : ∀ {vs : List Val} {xs : List V}, Kps X.K X.w F1 σ vs xs → xs.length = vs.length := fun {vs xs} k => by
            induction k with
            | nil => rfl
            | cons _ _ ih => rw [List.length_cons, List.length_cons, ih]
          rw [← q.length, a2 k1, a1]; exact hl
        refine ⟨lim_size (by rw [q.length]; exact ll), fun p o hp hd => ?_⟩
        have g := Grow.data (o := .frz o (.tup xs)) r1.fh hp
        exact h _ _ _ (e1.trans g.f) (r1.grow g) (.tup (SqN.new hd) (q.mono g.f) ll)
      · rw [if_neg l] at h
        exact h.elim
  | ex x ρ1 => rw [h1] at h; exact h
  | bad => rw [h1] at h; exact h
theorem sE_lst {es : Es} {eas : List Expr} {pos : Pos} (hl : esLen es ≤ Lim) (hs : PA X eas (tEs G X.K X.w B W es)) : PE X (.List eas pos) (tE G X.K X.w B W (.lst es)) := by
  refine (pe_lst hs).imp fun σ H Q h => ?_
  obtain ⟨F, ρ, r, h⟩ := h
  refine ⟨F, ρ, r, ?_⟩
  unfold evE at h
  cases h1 : evEs G.M G.C es ρ with
  | ok vs ρ1 =>
    rw [h1] at h
    simp only at h ⊢
    intro xs F1 H1 e1 r1 k1
    cases h2 : ress ρ1 vs with
    | none => rw [h2] at h; exact h.elim
    | some ds =>
      rw [h2] at h
      simp only at h
      by_cases l : noB vs = true
      · rw [if_pos l] at h
        have q := k1.dvs h2 l
        have ll : ds.length ≤ Lim := by
          have a1 := es_len es h1
          have a2 : ∀ {vs : List Val} {xs : List V}, Kps X.K X.w F1 σ vs xs → xs.length = vs.length := fun {vs xs} k => by
            induction k with
            | nil => rfl
            | cons _ _ ih => rw [List.length_cons, List.length_cons, ih]
          rw [← q.length, a2 k1, a1]; exact hl
        refine ⟨lim_size (by rw [q.length]; exact ll), fun p hp => ?_⟩
        have g := Grow.own (o := .lst xs) r1.fh hp
        exact h _ _ _ (e1.trans g.f) (r1.grow g) (Rv.ev r1 g (Rv.new (H' := H1) r1.fh hp q ll))
      · rw [if_neg l] at h
        exact h.elim
  | ex x ρ1 => rw [h1] at h; exact h
  | bad => rw [h1] at h; exact h
/-- a[b] -/
theorem sE_ix (hu : X.A.units + 150 < cLine) {a b : E} {ea eb : Expr} {pos : Pos} (hs : PlainIx eb) (ha : PE X ea (tE G X.K X.w B W a)) (hb : PE X eb (tE G X.K X.w B W b)) : PE X (.Subscript ea eb pos) (tE G X.K X.w B W (.ix a b)) := by
  refine (pe_ix (ix_dat hu) ha hb hs).imp fun σ H Q h => ?_
  obtain ⟨F, ρ, r, h⟩ := h
  refine two r ?_
  unfold evE at h
  cases h1 : evE G.M G.C a ρ with
  | ok v ρ1 =>
    rw [h1] at h
    simp only at h ⊢
    cases h2 : evE G.M G.C b ρ1 with
    | ok u ρ2 =>
      rw [h2] at h
      simp only at h ⊢
      cases h3 : res ρ2 (fz v) with
      | none => rw [h3] at h; exact h.elim
      | some dx =>
        cases h4 : res ρ2 (fz u) with
        | none => rw [h3, h4] at h; exact h.elim
        | some dy =>
          rw [h3, h4] at h
          simp only at h
          cases h5 : item dx dy with
          | none => rw [h5] at h; exact h.elim
          | some z =>
            rw [h5] at h
            exact ⟨dx, dy, rfl, rfl, fun x y F' H' e r' ox oy => ⟨F', dx, dy, z, r'.fh, ox, oy, h5, fun q dv => h q F' H' e r' dv⟩⟩
    | ex x ρ2 => rw [h2] at h; exact h
    | bad => rw [h2] at h; exact h
  | ex x ρ1 => rw [h1] at h; exact h
  | bad => rw [h1] at h; exact h
end
end Cs
end
section
set_option Elab.async false
set_option linter.all false
set_option maxRecDepth 100000
set_option maxHeartbeats 4000000
/-! SOUND 9: expressions: and, or, chains, slices, built-ins, dicts. -/
namespace Cs
open PySem L2 Cz PyProof.Rows
theorem mem_insS {k x : List Nat} : ∀ {l : List (List Nat)}, x ∈ insS k l ↔ x = k ∨ x ∈ l
  | [] => by simp [insS]
  | y :: r => by
    unfold insS
    split
    · rename_i e
      subst e
      simp
    · split
      · simp
      · simp only [List.mem_cons, mem_insS (l := r)]
        exact ⟨fun h => h.elim (fun a => .inr (.inl a)) (fun a => a.elim .inl (fun b => .inr (.inr b))), fun h => h.elim (fun a => .inr (.inl a)) (fun a => a.elim .inl (fun b => .inr (.inr b)))⟩
theorem mem_sortU {x : List Nat} : ∀ {l : List (List Nat)}, x ∈ sortU l ↔ x ∈ l
  | [] => by simp [sortU]
  | y :: r => by
    unfold sortU
    rw [mem_insS, mem_sortU, List.mem_cons]
theorem insS_len (k : List Nat) : ∀ (l : List (List Nat)), (insS k l).length ≤ l.length + 1
  | [] => by simp [insS]
  | y :: r => by
    unfold insS
    split
    · simp
    · split
      · simp
      · simpa using insS_len k r
theorem sortU_len : ∀ (l : List (List Nat)), (sortU l).length ≤ l.length
  | [] => Nat.le_refl _
  | y :: r => by
    unfold sortU
    have := insS_len y (sortU r)
    have := sortU_len r
    simp
    omega
theorem dvs_txts {K : PySem.W.Frag} {w : World} {F : Hp} : ∀ {ks : List (List Nat)}, (∀ k ∈ ks, sOk k = true) → DVs K w F (ks.map fun k => V.str (st k)) (ks.map D.str)
  | [], _ => .nil
  | k :: r, h => .cons (.str k (h k List.mem_cons_self)) (dvs_txts fun x m => h x (List.mem_cons_of_mem _ m))
section
variable {X : Cx} {G : Fx} {B : Bas} {W : Wi}
theorem sE_not {a : E} {ea : Expr} {pos : Pos} (ha : PE X ea (tE G X.K X.w B W a)) : PE X (.UnaryOp .Not ea pos) (tE G X.K X.w B W (.not a)) := by
  refine (pe_notT ha).imp fun σ H Q h => ?_
  obtain ⟨F, ρ, r, h⟩ := h
  refine ⟨F, ρ, r, ?_⟩
  unfold evE at h
  cases h1 : evE G.M G.C a ρ with
  | ok v ρ1 =>
    rw [h1] at h
    simp only at h ⊢
    intro x F1 H1 e1 r1 ev1
    obtain ⟨F2, e2, r2, k2⟩ := ev1.fz r1
    cases h2 : (res ρ1 (fz v)).bind truth with
    | none => rw [h2] at h; exact h.elim
    | some k =>
      rw [h2] at h
      obtain ⟨d, hd, ht⟩ := Option.bind_eq_some_iff.mp h2
      exact ⟨k, tru_dat r2.fh (k2.op r2 hd) ht, h _ F2 H1 (e1.trans e2) r2 (.bl _)⟩
  | ex x ρ1 => rw [h1] at h; exact h
  | bad => rw [h1] at h; exact h
theorem sE_neg {a : E} {ea : Expr} {pos : Pos} (ha : PE X ea (tE G X.K X.w B W a)) : PE X (.UnaryOp .USub ea pos) (tE G X.K X.w B W (.neg a)) := by
  refine (pe_un un_neg ha).imp fun σ H Q h => ?_
  obtain ⟨F, ρ, r, h⟩ := h
  refine ⟨F, ρ, r, ?_⟩
  unfold evE at h
  cases h1 : evE G.M G.C a ρ with
  | ok v ρ1 =>
    rw [h1] at h
    simp only at h ⊢
    intro x F1 H1 e1 r1 ev1
    obtain ⟨F2, e2, r2, k2⟩ := ev1.fz r1
    split at h
    · rename_i d i hd
      split at hd
      · rename_i i2 h2
        cases hd
        exact ⟨_, (k2.op r2 h2).int, h _ F2 H1 (e1.trans e2) r2 (.int _)⟩
      · cases hd
    · rename_i hd
      split at hd <;> cases hd
    · exact h.elim
  | ex x ρ1 => rw [h1] at h; exact h
  | bad => rw [h1] at h; exact h
/-! ### and, or -/
theorem sE_and1 {a : E} {ea : Expr} {pos : Pos} (ha : PE X ea (tE G X.K X.w B W a)) : PE X (.BoolOp .And [ea] pos) (tE G X.K X.w B W (.and (.cons a .nil))) := by
  refine (pe_one ha).imp fun σ H Q h => ?_
  obtain ⟨F, ρ, r, h⟩ := h
  refine ⟨F, ρ, r, ?_⟩
  unfold evE evAnd at h
  cases h1 : evE G.M G.C a ρ with
  | ok v ρ1 => rw [h1] at h; exact h
  | ex x ρ1 => rw [h1] at h; exact h
  | bad => rw [h1] at h; exact h
theorem sE_or1 {a : E} {ea : Expr} {pos : Pos} (ha : PE X ea (tE G X.K X.w B W a)) : PE X (.BoolOp .Or [ea] pos) (tE G X.K X.w B W (.or (.cons a .nil))) := by
  refine (pe_one ha).imp fun σ H Q h => ?_
  obtain ⟨F, ρ, r, h⟩ := h
  refine ⟨F, ρ, r, ?_⟩
  unfold evE evOr at h
  cases h1 : evE G.M G.C a ρ with
  | ok v ρ1 => rw [h1] at h; exact h
  | ex x ρ1 => rw [h1] at h; exact h
  | bad => rw [h1] at h; exact h
theorem sE_and {a b : E} {es : Es} {ea eb : Expr} {eas : List Expr} {pos : Pos} (ha : PE X ea (tE G X.K X.w B W a)) (hb : PE X (.BoolOp .And (eb :: eas) pos) (tE G X.K X.w B W (.and (.cons b es)))) :
    PE X (.BoolOp .And (ea :: eb :: eas) pos) (tE G X.K X.w B W (.and (.cons a (.cons b es)))) := by
  refine (pe_andT ha hb).imp fun σ H Q h => ?_
  obtain ⟨F, ρ, r, h⟩ := h
  refine ⟨F, ρ, r, ?_⟩
  unfold evE evAnd at h
  cases h1 : evE G.M G.C a ρ with
  | ok v ρ1 =>
    rw [h1] at h
    simp only at h ⊢
    intro x F1 H1 e1 r1 ev1
    cases h2 : (res ρ1 (fz v)).bind truth with
    | none => rw [h2] at h; exact h.elim
    | some k =>
      rw [h2] at h
      obtain ⟨d, hd, ht⟩ := Option.bind_eq_some_iff.mp h2
      obtain ⟨F2, e2, r2, k2⟩ := ev1.fz r1
      refine ⟨k, tru_dat r2.fh (k2.op r2 hd) ht, ?_⟩
      cases k with
      | true =>
        rw [if_pos rfl]
        exact tE_of (a := .and (.cons b es)) (e1.trans e2) r2 h
      | false =>
        rw [if_neg Bool.false_ne_true]
        exact h x F1 H1 e1 r1 ev1
  | ex x ρ1 => rw [h1] at h; exact h
  | bad => rw [h1] at h; exact h
theorem sE_or {a b : E} {es : Es} {ea eb : Expr} {eas : List Expr} {pos : Pos} (ha : PE X ea (tE G X.K X.w B W a)) (hb : PE X (.BoolOp .Or (eb :: eas) pos) (tE G X.K X.w B W (.or (.cons b es)))) :
    PE X (.BoolOp .Or (ea :: eb :: eas) pos) (tE G X.K X.w B W (.or (.cons a (.cons b es)))) := by
  refine (pe_orT ha hb).imp fun σ H Q h => ?_
  obtain ⟨F, ρ, r, h⟩ := h
  refine ⟨F, ρ, r, ?_⟩
  unfold evE evOr at h
  cases h1 : evE G.M G.C a ρ with
  | ok v ρ1 =>
    rw [h1] at h
    simp only at h ⊢
    intro x F1 H1 e1 r1 ev1
    cases h2 : (res ρ1 (fz v)).bind truth with
    | none => rw [h2] at h; exact h.elim
    | some k =>
      rw [h2] at h
      obtain ⟨d, hd, ht⟩ := Option.bind_eq_some_iff.mp h2
      obtain ⟨F2, e2, r2, k2⟩ := ev1.fz r1
      refine ⟨k, tru_dat r2.fh (k2.op r2 hd) ht, ?_⟩
      cases k with
      | true =>
        rw [if_pos rfl]
        exact h x F1 H1 e1 r1 ev1
      | false =>
        rw [if_neg Bool.false_ne_true]
        exact tE_of (a := .or (.cons b es)) (e1.trans e2) r2 h
  | ex x ρ1 => rw [h1] at h; exact h
  | bad => rw [h1] at h; exact h
theorem sW_and1 {a : E} {ea : Expr} {pos : Pos} (ha : PT X ea (tT G X.K X.w B W a)) : PW X (.BoolOp .And [ea] pos) (tT G X.K X.w B W (.and (.cons a .nil))) := by
  refine (pw_and1 ha).imp fun σ H Q h => ?_
  obtain ⟨F, ρ, r, h⟩ := h
  refine ⟨F, ρ, r, ?_⟩
  unfold evE evAnd at h
  cases h1 : evE G.M G.C a ρ with
  | ok v ρ1 => rw [h1] at h; exact h
  | ex x ρ1 => rw [h1] at h; exact h
  | bad => rw [h1] at h; exact h
theorem sW_or1 {a : E} {ea : Expr} {pos : Pos} (ha : PT X ea (tT G X.K X.w B W a)) : PW X (.BoolOp .Or [ea] pos) (tT G X.K X.w B W (.or (.cons a .nil))) := by
  refine (pw_or1 ha).imp fun σ H Q h => ?_
  obtain ⟨F, ρ, r, h⟩ := h
  refine ⟨F, ρ, r, ?_⟩
  unfold evE evOr at h
  cases h1 : evE G.M G.C a ρ with
  | ok v ρ1 => rw [h1] at h; exact h
  | ex x ρ1 => rw [h1] at h; exact h
  | bad => rw [h1] at h; exact h
theorem sW_and {a b : E} {es : Es} {ea eb : Expr} {eas : List Expr} {pos : Pos} (ha : PT X ea (tT G X.K X.w B W a)) (hb : PW X (.BoolOp .And (eb :: eas) pos) (tT G X.K X.w B W (.and (.cons b es)))) :
    PW X (.BoolOp .And (ea :: eb :: eas) pos) (tT G X.K X.w B W (.and (.cons a (.cons b es)))) := by
  refine (pw_and ha hb).imp fun σ H Q h => ?_
  obtain ⟨F, ρ, r, h⟩ := h
  refine ⟨F, ρ, r, ?_⟩
  unfold evE evAnd at h
  cases h1 : evE G.M G.C a ρ with
  | ok v ρ1 =>
    rw [h1] at h
    simp only at h ⊢
    cases h2 : (res ρ1 (fz v)).bind truth with
    | none => rw [h2] at h; exact h.elim
    | some k =>
      rw [h2] at h
      refine ⟨k, rfl, fun F' H' e r' => ?_⟩
      cases k with
      | true =>
        rw [if_pos rfl]
        exact tT_of (a := .and (.cons b es)) e r' h
      | false =>
        rw [if_neg Bool.false_ne_true]
        obtain ⟨k2, hk2, q⟩ := h
        rw [h2] at hk2
        cases hk2
        exact q F' H' e r'
  | ex x ρ1 => rw [h1] at h; exact h
  | bad => rw [h1] at h; exact h
theorem sW_or {a b : E} {es : Es} {ea eb : Expr} {eas : List Expr} {pos : Pos} (ha : PT X ea (tT G X.K X.w B W a)) (hb : PW X (.BoolOp .Or (eb :: eas) pos) (tT G X.K X.w B W (.or (.cons b es)))) :
    PW X (.BoolOp .Or (ea :: eb :: eas) pos) (tT G X.K X.w B W (.or (.cons a (.cons b es)))) := by
  refine (pw_or ha hb).imp fun σ H Q h => ?_
  obtain ⟨F, ρ, r, h⟩ := h
  refine ⟨F, ρ, r, ?_⟩
  unfold evE evOr at h
  cases h1 : evE G.M G.C a ρ with
  | ok v ρ1 =>
    rw [h1] at h
    simp only at h ⊢
    cases h2 : (res ρ1 (fz v)).bind truth with
    | none => rw [h2] at h; exact h.elim
    | some k =>
      rw [h2] at h
      refine ⟨k, rfl, fun F' H' e r' => ?_⟩
      cases k with
      | true =>
        rw [if_pos rfl]
        obtain ⟨k2, hk2, q⟩ := h
        rw [h2] at hk2
        cases hk2
        exact q F' H' e r'
      | false =>
        rw [if_neg Bool.false_ne_true]
        exact tT_of (a := .or (.cons b es)) e r' h
  | ex x ρ1 => rw [h1] at h; exact h
  | bad => rw [h1] at h; exact h
/-! ### a < b < c -/
theorem sE_chain (hu : X.A.units + 150 < cLine) {o o' : Cop} {a b c : E} {ea eb ec : Expr} {pos : Pos} (hm : lastMarks [copOf o, copOf o'] [eb, ec] = false) (ha : PE X ea (tE G X.K X.w B W a)) (hb : PE X eb (tE G X.K X.w B W b)) (hc : PE X ec (tE G X.K X.w B W c)) :
    PE X (.Compare ea [copOf o, copOf o'] [eb, ec] pos) (tE G X.K X.w B W (.chain o o' a b c)) := by
  refine (pe_chain (op_cmp hu o) (op_cmp hu o') ha hb hc hm).imp fun σ H Q h => ?_
  obtain ⟨F, ρ, r, h⟩ := h
  refine ⟨F, ρ, r, ?_⟩
  unfold evE at h
  cases h1 : evE G.M G.C a ρ with
  | ok v ρ1 =>
    rw [h1] at h
    simp only at h ⊢
    intro x F1 H1 e1 r1 ev1
    obtain ⟨F2, e2, r2, k2⟩ := ev1.fz r1
    refine ⟨F2, ρ1, r2, ?_⟩
    cases h2 : evE G.M G.C b ρ1 with
    | ok u ρ2 =>
      rw [h2] at h
      simp only at h ⊢
      intro y F3 H3 e3 r3 ev3
      obtain ⟨F4, e4, r4, k4⟩ := ev3.fz r3
      cases h3 : res ρ2 (fz v) with
      | none => rw [h3] at h; exact h.elim
      | some dx =>
        cases h4 : fz u with
        | f xs => rw [h4] at k4; exact k4.elim
        | b i => rw [h3, h4] at h; exact h.elim
        | p dy =>
          rw [h3, h4] at h
          rw [h4] at k4
          simp only at h
          cases h5 : cmpD o dx dy with
          | none => rw [h5] at h; exact h.elim
          | some k =>
            rw [h5] at h
            have e14 := ((e1.trans e2).trans e3).trans e4
            refine ⟨F4, dx, dy, k, r4.fh, (k2.mono (e3.trans e4)).op r4 h3, .inl k4, h5, k, rfl, ?_⟩
            cases k with
            | false =>
              rw [if_neg Bool.false_ne_true]
              exact h _ F4 H3 e14 r4 (.bl false)
            | true =>
              rw [if_pos rfl]
              refine ⟨F4, ρ2, r4, ?_⟩
              simp only at h
              cases h6 : evE G.M G.C c ρ2 with
              | ok t ρ3 =>
                rw [h6] at h
                simp only at h ⊢
                intro z F5 H5 e5 r5 ev5
                obtain ⟨F6, e6, r6, k6⟩ := ev5.fz r5
                cases h7 : res ρ3 (fz t) with
                | none => rw [h7] at h; exact h.elim
                | some dz =>
                  rw [h7] at h
                  simp only at h
                  cases h8 : cmpD o' dy dz with
                  | none => rw [h8] at h; exact h.elim
                  | some k' =>
                    rw [h8] at h
                    exact ⟨F6, dy, dz, k', r6.fh, .inl (DV.mono (e5.trans e6) k4), k6.op r6 h7, h8, h _ F6 H5 ((e14.trans e5).trans e6) r6 (.bl k')⟩
              | ex x ρ3 => rw [h6] at h; exact h
              | bad => rw [h6] at h; exact h
    | ex x ρ2 => rw [h2] at h; exact h
    | bad => rw [h2] at h; exact h
  | ex x ρ1 => rw [h1] at h; exact h
  | bad => rw [h1] at h; exact h
theorem sT_chain (hu : X.A.units + 150 < cLine) {o o' : Cop} {a b c : E} {ea eb ec : Expr} {pos : Pos} (hm : lastMarks [copOf o, copOf o'] [eb, ec] = false) (ha : PE X ea (tE G X.K X.w B W a)) (hb : PE X eb (tE G X.K X.w B W b)) (hc : PE X ec (tE G X.K X.w B W c)) :
    PT X (.Compare ea [copOf o, copOf o'] [eb, ec] pos) (tT G X.K X.w B W (.chain o o' a b c)) := by
  refine (pt_chain (op_cmp hu o) (op_cmp hu o') ha hb hc hm).imp fun σ H Q h => ?_
  obtain ⟨F, ρ, r, h⟩ := h
  refine ⟨F, ρ, r, ?_⟩
  unfold evE at h
  cases h1 : evE G.M G.C a ρ with
  | ok v ρ1 =>
    rw [h1] at h
    simp only at h ⊢
    intro x F1 H1 e1 r1 ev1
    obtain ⟨F2, e2, r2, k2⟩ := ev1.fz r1
    refine ⟨F2, ρ1, r2, ?_⟩
    cases h2 : evE G.M G.C b ρ1 with
    | ok u ρ2 =>
      rw [h2] at h
      simp only at h ⊢
      intro y F3 H3 e3 r3 ev3
      obtain ⟨F4, e4, r4, k4⟩ := ev3.fz r3
      cases h3 : res ρ2 (fz v) with
      | none => rw [h3] at h; exact h.elim
      | some dx =>
        cases h4 : fz u with
        | f xs => rw [h4] at k4; exact k4.elim
        | b i => rw [h3, h4] at h; exact h.elim
        | p dy =>
          rw [h3, h4] at h
          rw [h4] at k4
          simp only at h
          cases h5 : cmpD o dx dy with
          | none => rw [h5] at h; exact h.elim
          | some k =>
            rw [h5] at h
            have e14 := ((e1.trans e2).trans e3).trans e4
            refine ⟨F4, dx, dy, k, r4.fh, (k2.mono (e3.trans e4)).op r4 h3, .inl k4, h5, k, rfl, ?_⟩
            cases k with
            | false =>
              rw [if_neg Bool.false_ne_true]
              obtain ⟨k9, hk9, q⟩ := h
              have hz : false = k9 := Option.some.inj hk9
              subst hz
              exact ⟨false, rfl, q F4 H3 e14 r4⟩
            | true =>
              rw [if_pos rfl]
              refine ⟨F4, ρ2, r4, ?_⟩
              simp only at h
              cases h6 : evE G.M G.C c ρ2 with
              | ok t ρ3 =>
                rw [h6] at h
                simp only at h ⊢
                intro z F5 H5 e5 r5 ev5
                obtain ⟨F6, e6, r6, k6⟩ := ev5.fz r5
                cases h7 : res ρ3 (fz t) with
                | none => rw [h7] at h; exact h.elim
                | some dz =>
                  rw [h7] at h
                  simp only at h
                  cases h8 : cmpD o' dy dz with
                  | none => rw [h8] at h; exact h.elim
                  | some k' =>
                    rw [h8] at h
                    obtain ⟨k9, hk9, q⟩ := h
                    have hz : k' = k9 := Option.some.inj hk9
                    subst hz
                    exact ⟨F6, dy, dz, k', r6.fh, .inl (DV.mono (e5.trans e6) k4), k6.op r6 h7, h8, k', rfl, q F6 H5 ((e14.trans e5).trans e6) r6⟩
              | ex x ρ3 => rw [h6] at h; exact h
              | bad => rw [h6] at h; exact h
    | ex x ρ2 => rw [h2] at h; exact h
    | bad => rw [h2] at h; exact h
  | ex x ρ1 => rw [h1] at h; exact h
  | bad => rw [h1] at h; exact h
/-! ### slices -/
theorem sE_slF {a lo : E} {ea el : Expr} {p2 pos : Pos} (ha : PE X ea (tE G X.K X.w B W a)) (hl : PE X el (tE G X.K X.w B W lo)) : PE X (.Subscript ea (.Slice (some el) none none p2) pos) (tE G X.K X.w B W (.slF a lo)) := by
  refine (pe_slice sl_dat ha (po_some hl) po_none).imp fun σ H Q h => ?_
  obtain ⟨F, ρ, r, h⟩ := h
  refine two (R := fun x y H2 => ∃ i, y = V.int i ∧ rSli X.K X.w x (some i) none H2 Q) r ?_
  unfold evE at h
  cases h1 : evE G.M G.C a ρ with
  | ok v ρ1 =>
    rw [h1] at h
    simp only at h ⊢
    cases h2 : evE G.M G.C lo ρ1 with
    | ok u ρ2 =>
      rw [h2] at h
      simp only at h ⊢
      cases h3 : res ρ2 (fz v) with
      | none => rw [h3] at h; exact h.elim
      | some dx =>
        cases h4 : res ρ2 (fz u) with
        | none => rw [h3, h4] at h; exact h.elim
        | some dy =>
          rw [h3, h4] at h
          cases dy with
          | int i =>
            simp only at h
            cases h5 : slice dx (some i) none with
            | none => rw [h5] at h; exact h.elim
            | some z =>
              rw [h5] at h
              exact ⟨dx, _, rfl, rfl, fun x y F' H' e r' ox oy => ⟨i, oy.int, F', dx, z, r'.fh, ox, h5, fun q F2 H2 g rv => h q F2 H2 (e.trans g.f) (r'.grow g) (rv.ev r' g)⟩⟩
          | _ => exact h.elim
    | ex x ρ2 => rw [h2] at h; exact h
    | bad => rw [h2] at h; exact h
  | ex x ρ1 => rw [h1] at h; exact h
  | bad => rw [h1] at h; exact h
theorem sE_slT {a hi : E} {ea el : Expr} {p2 pos : Pos} (ha : PE X ea (tE G X.K X.w B W a)) (hl : PE X el (tE G X.K X.w B W hi)) : PE X (.Subscript ea (.Slice none (some el) none p2) pos) (tE G X.K X.w B W (.slT a hi)) := by
  refine (pe_slice sl_dat ha po_none (po_some hl)).imp fun σ H Q h => ?_
  obtain ⟨F, ρ, r, h⟩ := h
  refine two (R := fun x y H2 => ∃ i, y = V.int i ∧ rSli X.K X.w x none (some i) H2 Q) r ?_
  unfold evE at h
  cases h1 : evE G.M G.C a ρ with
  | ok v ρ1 =>
    rw [h1] at h
    simp only at h ⊢
    cases h2 : evE G.M G.C hi ρ1 with
    | ok u ρ2 =>
      rw [h2] at h
      simp only at h ⊢
      cases h3 : res ρ2 (fz v) with
      | none => rw [h3] at h; exact h.elim
      | some dx =>
        cases h4 : res ρ2 (fz u) with
        | none => rw [h3, h4] at h; exact h.elim
        | some dy =>
          rw [h3, h4] at h
          cases dy with
          | int i =>
            simp only at h
            cases h5 : slice dx none (some i) with
            | none => rw [h5] at h; exact h.elim
            | some z =>
              rw [h5] at h
              exact ⟨dx, _, rfl, rfl, fun x y F' H' e r' ox oy => ⟨i, oy.int, F', dx, z, r'.fh, ox, h5, fun q F2 H2 g rv => h q F2 H2 (e.trans g.f) (r'.grow g) (rv.ev r' g)⟩⟩
          | _ => exact h.elim
    | ex x ρ2 => rw [h2] at h; exact h
    | bad => rw [h2] at h; exact h
  | ex x ρ1 => rw [h1] at h; exact h
  | bad => rw [h1] at h; exact h
/-! ### built-in functions -/
theorem sBi {b : Bi} {es : Es} {σ : List (Option V)} {H : Hp} {Q : VK} (h : tE G X.K X.w B W (.bi b es) σ H Q) : tCB (rBi X.K X.w b) (tEs G X.K X.w B W es) σ H Q := by
  obtain ⟨F, ρ, r, h⟩ := h
  refine ⟨F, ρ, r, ?_⟩
  unfold evE at h
  cases h1 : evEs G.M G.C es ρ with
  | ok vs ρ1 =>
    rw [h1] at h
    simp only at h ⊢
    intro xs F1 H1 e1 r1 k1
    cases h2 : ress ρ1 vs with
    | none => rw [h2] at h; exact h.elim
    | some ds =>
      rw [h2] at h
      simp only at h
      cases h3 : biD b ds with
      | none => rw [h3] at h; exact h.elim
      | some z =>
        rw [h3] at h
        exact ⟨F1, ds, z, r1.fh, k1.ops r1 h2, h3, fun u F2 H2 g rv => h u F2 H2 (e1.trans g.f) (r1.grow g) (rv.ev r1 g)⟩
  | ex x ρ1 => rw [h1] at h; exact h
  | bad => rw [h1] at h; exact h
/-! ### isinstance -/
theorem sIs {a : E} {ts : List Cz.Ty} {σ : List (Option V)} {H : Hp} {Q : VK} (h : tE G X.K X.w B W (.isi a ts) σ H Q) :
    tE G X.K X.w B W a σ H fun x H1 => ∃ F d, Ex F H1 ∧ Op X.K X.w F H1 x d ∧ ∀ F' H', Grow F H1 F' H' → Q (.bl (ts.any (isTy d))) H' := by
  obtain ⟨F, ρ, r, h⟩ := h
  refine ⟨F, ρ, r, ?_⟩
  unfold evE at h
  cases h1 : evE G.M G.C a ρ with
  | ok v ρ1 =>
    rw [h1] at h
    simp only at h ⊢
    intro x F1 H1 e1 r1 ev1
    obtain ⟨F2, e2, r2, k2⟩ := ev1.fz r1
    cases h2 : res ρ1 (fz v) with
    | none => rw [h2] at h; exact h.elim
    | some d =>
      rw [h2] at h
      exact ⟨F2, d, r2.fh, k2.op r2 h2, fun F' H' g => h _ F' H' ((e1.trans e2).trans g.f) (r2.grow g) (.bl _)⟩
  | ex x ρ1 => rw [h1] at h; exact h
  | bad => rw [h1] at h; exact h
/-! ### methods -/
theorem sMe {m : Me} {T : String} (hT : ∀ {F H : Hp} {x : V} {d : D}, Ex F H → Op X.K X.w F H x d → recvOk m d = true → tyV X.K T x H) {a : E} {es : Es} {σ : List (Option V)} {H : Hp} {Q : VK} (h : tE G X.K X.w B W (.me m a es) σ H Q) : tBM X.K T (rMe X.K X.w m) (tE G X.K X.w B W a) (tEs G X.K X.w B W es) σ H Q := by
  obtain ⟨F, ρ, r, h⟩ := h
  refine ⟨F, ρ, r, ?_⟩
  unfold evE at h
  cases h1 : evE G.M G.C a ρ with
  | ok v ρ1 =>
    rw [h1] at h
    simp only at h ⊢
    intro x F1 H1 e1 r1 ev1
    obtain ⟨F2, e2, r2, k2⟩ := ev1.fz r1
    cases h2 : fz v with
    | f _ => rw [h2] at k2; exact k2.elim
    | b _ => rw [h2] at h; exact h.elim
    | p d =>
      rw [h2] at h k2
      simp only at h
      by_cases hr : recvOk m d = true
      · rw [if_pos hr] at h
        have hx : tyV X.K T x H1 := hT r2.fh (.inl k2) hr
        refine ⟨hx, F2, ρ1, r2, ?_⟩
        cases h3 : evEs G.M G.C es ρ1 with
        | ok vs ρ2 =>
          rw [h3] at h
          simp only at h ⊢
          intro xs F3 H3 e3 r3 k3
          cases h5 : ress ρ2 vs with
          | none => rw [h5] at h; exact h.elim
          | some ds =>
            rw [h5] at h
            simp only at h
            cases h6 : meD m d ds with
            | none => rw [h6] at h; exact h.elim
            | some z =>
              rw [h6] at h
              exact ⟨F3, d, ds, z, r3.fh, .inl (DV.mono e3 k2), k3.ops r3 h5, h6, fun u F' H' g rv => h u F' H' (((e1.trans e2).trans e3).trans g.f) (r3.grow g) (rv.ev r3 g)⟩
        | ex x ρ2 => rw [h3] at h; exact h
        | bad => rw [h3] at h; exact h
      · rw [if_neg hr] at h; exact h.elim
  | ex x ρ1 => rw [h1] at h; exact h
  | bad => rw [h1] at h; exact h
theorem ty_cnt {F H : Hp} {x : V} {d : D} (e : Ex F H) (h : Op X.K X.w F H x d) (hr : recvOk .count d = true) : tyV X.K "str" x H := by
  cases d with
  | str s => rw [h.str.1]; exact rfl
  | _ => cases hr
/-- of a tuple -/
theorem sMeT {m : Me} (hT : ∀ {F H : Hp} {x : V} {d : D}, Ex F H → Op X.K X.w F H x d → recvOk m d = true → ∃ p, x = .ref p ∧ NoD X.K H p) {a : E} {es : Es} {σ : List (Option V)} {H : Hp} {Q : VK} (h : tE G X.K X.w B W (.me m a es) σ H Q) : tBMT X.K (rMe X.K X.w m) (tE G X.K X.w B W a) (tEs G X.K X.w B W es) σ H Q := by
  obtain ⟨F, ρ, r, h⟩ := h
  refine ⟨F, ρ, r, ?_⟩
  unfold evE at h
  cases h1 : evE G.M G.C a ρ with
  | ok v ρ1 =>
    rw [h1] at h
    simp only at h ⊢
    intro x F1 H1 e1 r1 ev1
    obtain ⟨F2, e2, r2, k2⟩ := ev1.fz r1
    cases h2 : fz v with
    | f _ => rw [h2] at k2; exact k2.elim
    | b _ => rw [h2] at h; exact h.elim
    | p d =>
      rw [h2] at h k2
      simp only at h
      by_cases hr : recvOk m d = true
      · rw [if_pos hr] at h
        have hx := hT r2.fh (.inl k2) hr
        refine ⟨hx, F2, ρ1, r2, ?_⟩
        cases h3 : evEs G.M G.C es ρ1 with
        | ok vs ρ2 =>
          rw [h3] at h
          simp only at h ⊢
          intro xs F3 H3 e3 r3 k3
          cases h5 : ress ρ2 vs with
          | none => rw [h5] at h; exact h.elim
          | some ds =>
            rw [h5] at h
            simp only at h
            cases h6 : meD m d ds with
            | none => rw [h6] at h; exact h.elim
            | some z =>
              rw [h6] at h
              exact ⟨F3, d, ds, z, r3.fh, .inl (DV.mono e3 k2), k3.ops r3 h5, h6, fun u F' H' g rv => h u F' H' (((e1.trans e2).trans e3).trans g.f) (r3.grow g) (rv.ev r3 g)⟩
        | ex x ρ2 => rw [h3] at h; exact h
        | bad => rw [h3] at h; exact h
      · rw [if_neg hr] at h; exact h.elim
  | ex x ρ1 => rw [h1] at h; exact h
  | bad => rw [h1] at h; exact h
theorem ty_idx {F H : Hp} {x : V} {d : D} (e : Ex F H) (h : Op X.K X.w F H x d) (hr : recvOk .index d = true) : ∃ p, x = .ref p ∧ NoD X.K H p := by
  cases d with
  | tup xs =>
    obtain ⟨p, vs, rfl, _, _, _, sq⟩ := h.tup e
    refine ⟨p, rfl, e.nod (sq.2.elim (fun z => ?_) id)⟩
    have hr : (allStr xs).isSome = true := hr
    rw [z] at hr
    cases hr
  | _ => cases hr
theorem ty_idxL {F H : Hp} {x : V} {d : D} (e : Ex F H) (h : Op X.K X.w F H x d) (hr : recvOk .indexL d = true) : tyV X.K "list" x H := by
  cases d with
  | lst xs =>
    obtain ⟨p, vs, rfl, sq, _⟩ := h.lst e
    exact .inl ⟨rfl, _, sq⟩
  | _ => cases hr
/-- number.bit_length() -/
theorem sBit {a : E} {σ : List (Option V)} {H : Hp} {Q : VK} (h : tE G X.K X.w B W (.me .bitlen a .nil) σ H Q) : tBits (tE G X.K X.w B W a) σ H Q := by
  obtain ⟨F, ρ, r, h⟩ := h
  refine ⟨F, ρ, r, ?_⟩
  unfold evE at h
  cases h1 : evE G.M G.C a ρ with
  | ok v ρ1 =>
    rw [h1] at h
    simp only at h ⊢
    intro x F1 H1 e1 r1 ev1
    obtain ⟨F2, e2, r2, k2⟩ := ev1.fz r1
    cases h2 : fz v with
    | f _ => rw [h2] at k2; exact k2.elim
    | b _ => rw [h2] at h; exact h.elim
    | p d =>
      rw [h2] at h k2
      simp only at h
      cases d with
      | int i =>
        cases k2
        exact ⟨i, rfl, h _ F2 H1 (e1.trans e2) r2 (.int _)⟩
      | _ => exact h.elim
  | ex x ρ1 => rw [h1] at h; exact h
  | bad => rw [h1] at h; exact h
/-! ### sorted(set(texts)) -/
theorem sSset {a : E} {σ : List (Option V)} {H : Hp} {Q : VK} (h : tE G X.K X.w B W (.sset a) σ H Q) :
    tE G X.K X.w B W a σ H fun x H1 => ∃ F ks, Ex F H1 ∧ (∃ p, x = .ref p ∧ SqL X.K H1 p (ks.map fun k => V.str (st k))) ∧ (∀ k ∈ ks, sOk k = true) ∧ ks.length < 64 ∧ ∀ u F' H', Grow F H1 F' H' → (∃ p, u = .ref p ∧ H1 p = none ∧ F' p = none ∧ H' p = some (.lst ((sortU ks).map fun k => V.str (st k)))) → Q u H' := by
  obtain ⟨F, ρ, r, h⟩ := h
  refine ⟨F, ρ, r, ?_⟩
  unfold evE at h
  cases h1 : evE G.M G.C a ρ with
  | ok v ρ1 =>
    rw [h1] at h
    simp only at h ⊢
    intro x F1 H1 e1 r1 ev1
    obtain ⟨F2, e2, r2, k2⟩ := ev1.fz r1
    cases h2 : res ρ1 (fz v) with
    | none => rw [h2] at h; exact h.elim
    | some d =>
      rw [h2] at h
      cases d with
      | lst xs =>
        simp only at h
        cases h3 : allStr xs with
        | none => rw [h3] at h; exact h.elim
        | some ks =>
          rw [h3] at h
          simp only at h
          by_cases hl : ks.length < 64
          · rw [if_pos hl] at h
            obtain ⟨p, vs, rfl, sq, qs, l⟩ := (k2.op r2 h2).lst r2.fh
            obtain ⟨e3, ok⟩ := allStr_ok qs h3
            rw [e3] at sq
            refine ⟨F2, ks, r2.fh, ⟨p, rfl, sq⟩, ok, hl, fun u F' H' g hu => ?_⟩
            obtain ⟨p2, rfl, n1, n2, n3⟩ := hu
            refine h _ F' H' ((e1.trans e2).trans g.f) (r2.grow g) ?_
            refine Rv.ev r2 g ?_
            exact ⟨p2, _, rfl, n1, n2, n3, dvs_txts fun k m => ok k (mem_sortU.mp m), by rw [List.length_map]; exact Nat.le_trans (sortU_len ks) (Nat.le_trans (Nat.le_of_lt hl) (by decide))⟩
          · rw [if_neg hl] at h; exact h.elim
      | _ => exact h.elim
  | ex x ρ1 => rw [h1] at h; exact h
  | bad => rw [h1] at h; exact h
/-! ### a in range(b, c) -/
/-- three operands in a row -/
theorem sInr {neg : Bool} {a b c : E} {σ : List (Option V)} {H : Hp} {Q : VK} (h : tE G X.K X.w B W (.inr neg a b c) σ H Q) :
    tE G X.K X.w B W a σ H fun x H1 => tE G X.K X.w B W b σ H1 fun y H2 => tE G X.K X.w B W c σ H2 fun z H3 => ∃ F i lo hi, Ex F H3 ∧ x = .int i ∧ y = .int lo ∧ z = .int hi ∧ ∀ F' H', Grow F H3 F' H' → Q (.bl (if neg then !decide (lo ≤ i ∧ i < hi) else decide (lo ≤ i ∧ i < hi))) H' := by
  obtain ⟨F, ρ, r, h⟩ := h
  refine ⟨F, ρ, r, ?_⟩
  unfold evE at h
  cases h1 : evE G.M G.C a ρ with
  | ex x ρ1 => rw [h1] at h; exact h
  | bad => rw [h1] at h; exact h
  | ok v ρ1 =>
    rw [h1] at h
    simp only at h ⊢
    intro x F1 H1 e1 r1 ev1
    obtain ⟨F2, e2, r2, k2⟩ := ev1.fz r1
    refine ⟨F2, ρ1, r2, ?_⟩
    cases h2 : evE G.M G.C b ρ1 with
    | ex x ρ2 => rw [h2] at h; exact h
    | bad => rw [h2] at h; exact h
    | ok u ρ2 =>
      rw [h2] at h
      simp only at h ⊢
      intro y F3 H3 e3 r3 ev3
      obtain ⟨F4, e4, r4, k4⟩ := ev3.fz r3
      refine ⟨F4, ρ2, r4, ?_⟩
      cases h3 : evE G.M G.C c ρ2 with
      | ex x ρ3 => rw [h3] at h; exact h
      | bad => rw [h3] at h; exact h
      | ok t ρ3 =>
        rw [h3] at h
        simp only at h ⊢
        intro z F5 H5 e5 r5 ev5
        obtain ⟨F6, e6, r6, k6⟩ := ev5.fz r5
        cases q1 : res ρ3 (fz v) with
        | none => rw [q1] at h; exact h.elim
        | some dx =>
          cases q2 : res ρ3 (fz u) with
          | none => rw [q1, q2] at h; cases dx <;> exact h.elim
          | some dy =>
            cases q3 : res ρ3 (fz t) with
            | none => rw [q1, q2, q3] at h; cases dx <;> cases dy <;> exact h.elim
            | some dz =>
              rw [q1, q2, q3] at h
              cases dx with
              | int i =>
                cases dy with
                | int lo =>
                  cases dz with
                  | int hi =>
                    simp only at h
                    have o1 := ((k2.mono e3).mono (e4.trans (e5.trans e6))).op r6 q1
                    have o2 := (k4.mono (e5.trans e6)).op r6 q2
                    have o3 := k6.op r6 q3
                    exact ⟨F6, i, lo, hi, r6.fh, o1.int, o2.int, o3.int, fun F' H' g => h _ F' H' (((((e1.trans e2).trans e3).trans e4).trans (e5.trans e6)).trans g.f) (r6.grow g) (.bl _)⟩
                  | _ => exact h.elim
                | _ => exact h.elim
              | _ => exact h.elim
end
end Cs
end
section
set_option Elab.async false
set_option linter.all false
set_option maxRecDepth 100000
set_option maxHeartbeats 4000000
/-! SETTX: sets of texts, made of a list and sorted. -/
namespace Cs
open PySem PySem.Spec PyProof.Rows L2
def tKey (e : Int × Value) : Str := match e.2 with | .str k _ => k | _ => Str.empty
def TGood (P : Program) (w : World) (e : Int × Value) : Prop := ∃ k tk, e.2 = Value.str k tk ∧ e.1 = (PySem.strKind P w).hash k
/-- what a set of texts is: its members are ks, there are at most n -/
structure TIn (P : Program) (w : World) (ks : List Str) (n : Nat) (es : Array (Int × Value)) (t : SetTable) : Prop where
  good : ∀ e ∈ es.toList, TGood P w e
  nd : (es.toList.map tKey).Nodup
  mem : ∀ k, k ∈ ks ↔ k ∈ es.toList.map tKey
  few : es.size ≤ n
  fits : t.fits es.size = true
  ris : Ris t.place.toList
  led : w.params.followText "set-order" = true ∨ t.led = true
def TSet (P : Program) (w : World) (h : Heap) (a : Addr) (ks : List Str) (n : Nat) : Prop := ∃ o es ep t, h.get? a = some o ∧ o.ExactSet ∧ o.data = .set es ep t ∧ TIn P w ks n es t
section
variable {P : Program} {w : World} {h h' : Heap} {a : Addr} {ks : List Str} {n : Nat}
theorem TSet.at (R : TSet P w h a ks n) (k : ∀ o, h.get? a = some o → h'.get? a = some o) : TSet P w h' a ks n :=
  let ⟨o, es, ep, t, q, r⟩ := R
  ⟨o, es, ep, t, k o q, r⟩
theorem tgood_is {e : Int × Value} (g : TGood P w e) (k : Str) : (PySem.strKind P w).is k e.2 = true ↔ tKey e = k := by
  obtain ⟨k0, tk, g1, _⟩ := g
  unfold tKey
  rw [g1]
  show ((k0 == k) = true) ↔ k0 = k
  simp
theorem tgood_elems {l : List (Int × Value)} (g : ∀ e ∈ l, TGood P w e) : ElemsOf (PySem.strKind P w) l := fun e m => by
  obtain ⟨k, tk, g1, g2⟩ := g e m
  exact ⟨⟨k, by rw [g1]; exact strKind_is P w k tk, g2⟩, by rw [g1] <;> rfl⟩
theorem tgood_mem {l : List (Int × Value)} (g : ∀ e ∈ l, TGood P w e) (k : Str) : k ∈ l.map tKey ↔ ∃ e ∈ l, (PySem.strKind P w).is k e.2 = true := by
  rw [List.mem_map]
  exact ⟨fun ⟨e, m, q⟩ => ⟨e, m, (tgood_is (g e m) k).2 q⟩, fun ⟨e, m, q⟩ => ⟨e, m, (tgood_is (g e m) k).1 q⟩⟩
theorem tset_fresh {h : Heap} {a : Addr} (g : h.get? a = some { cls := .type "set", dict := none, data := .set #[] 0 (.fresh 0 0 (!w.params.followText "set-order")) }) : TSet P w h a [] 0 :=
  ⟨_, #[], 0, _, g, ⟨rfl, rfl, rfl⟩, rfl, ⟨(fun e he => by simp at he), (by simp), (fun k => by simp), Nat.le_refl _, (by rfl), List.Pairwise.nil, by
    show _ ∨ (!w.params.followText "set-order") = true
    cases w.params.followText "set-order" <;> first | exact .inr rfl | exact .inl rfl⟩⟩
end
section
variable {P : Program} {w : World} {A : Around} {E : Value → Shared → Prop} {s : Shared} {a : Addr} {ks : List Str} {n : Nat}
/-- behind the search: the row is laid, and if need be all anew -/
theorem tset_tail {gv : Bool → Sem Unit} (hgv : ∀ (b : Bool) (s₁ : Shared) (Q' : Unit → Shared → Prop), Q' () s₁ → wpAny (model P w) A (gv b) Q' E s₁)
    {o : Obj} {es es1 : Array (Int × Value)} {ep : Nat} {t t2 : SetTable} (ge : s.heap.get? a = some o) (gx : o.ExactSet) (gd : o.data = .set es ep t) (T : TIn P w ks n es1 t2) (hn : n < scanBound) {wd : Bool} {R : Option Bool → Shared → Prop}
    (hR : ∀ h', Heap.SameBut a s.heap h' → TSet P w h' a ks n → R (some true) { s with heap := h' }) :
    wpAny (model P w) A (do
        storeSet a es1 t2
        if (!wd && t2.tooFull) = true then do
            gv (relayAll t2 es1 (SetTable.grown es1.size)).2.2
            storeSet a (relayAll t2 es1 (SetTable.grown es1.size)).1 (relayAll t2 es1 (SetTable.grown es1.size)).2.1
            pure (some true)
          else pure (some true)) R E s := by
  have few1 : es1.size < scanBound := Nat.lt_of_le_of_lt T.few hn
  refine wpAny_bind (wpAny_storeSet_of ge gd ?_ (fits_of_scanBound few1))
  have ge1 := store_at (es' := es1) (t' := t2) ge gd
  have same1 := Heap.SameBut.update s.heap a (Obj.putSet es1 t2)
  split
  · have per := relayAll_perm t2 es1 (SetTable.grown es1.size)
    have fit := relayAll_fits t2 es1 (SetTable.grown es1.size)
    have ri := relayAll_ris t2 es1 (SetTable.grown es1.size)
    have le := relayAll_led t2 es1 (SetTable.grown es1.size)
    generalize relayAll t2 es1 (SetTable.grown es1.size) = Z at per fit ri le ⊢
    obtain ⟨es2, t3, gave⟩ := Z
    dsimp only at per fit ri le ⊢
    have same : es2.size = es1.size := by rw [← Array.length_toList, per.length_eq, Array.length_toList]
    refine wpAny_bind (hgv _ _ _ ?_)
    refine wpAny_bind (wpAny_storeSet_of ge1 rfl ?_ (fits_of_scanBound (by rw [same]; exact few1)))
    have ge2 := store_at (es' := es2) (t' := t3) ge1 rfl
    refine wpAny_pure (hR _ (same1.trans (Heap.SameBut.update _ a _)) ?_)
    exact ⟨_, es2, _, t3, ge2, gx, rfl, ⟨fun e m => T.good e (per.mem_iff.mp m), (per.map tKey).nodup_iff.mpr T.nd, fun k => (T.mem k).trans (per.map tKey).mem_iff.symm, by rw [same]; exact T.few, fit, ri, T.led.imp id fun z => by rw [le]; exact z⟩⟩
  · exact wpAny_pure (hR _ same1 ⟨_, es1, _, t2, ge1, gx, rfl, T⟩)
theorem tset_add {k : Str} {tk : Tok} {Q : Bool → Shared → Prop} (R : TSet P w s.heap a ks n) (room : n + 1 < scanBound)
    (hQ : ∀ b h', Heap.SameBut a s.heap h' → TSet P w h' a (ks ++ [k]) (n + 1) → Q b { s with heap := h' }) :
    wpAny (model P w) A (setAddHashed a (.str k tk) ((PySem.strKind P w).hash k)) Q E s := by
  obtain ⟨o, es, ep, t, ge, gx, gd, T⟩ := R
  have isK : (PySem.strKind P w).is k (.str k tk) = true := strKind_is P w k tk
  have scn : (Value.str k tk).scannable = true := rfl
  have elm : ElemsOf (PySem.strKind P w) es.toList := tgood_elems T.good
  have few0 : es.size < scanBound := by have := T.few; omega
  unfold setAddHashed setAddHashedIn
  refine wpAny_holding (wpAny_bind (wpAny_setState_of ge gd T.fits ?_))
  dsimp only
  rw [byScan_of scn few0 elm]
  simp only [↓reduceIte]
  unfold setAddByScan
  refine wpAny_bind ?_
  refine wpAny_bind (wpAny_rule ?_)
  refine wpAny_bind (wpAny_setScan_of isK ge gd T.fits elm ?_)
  cases fnd : List.findIdx? (fun e => (PySem.strKind P w).is k e.2) es.toList with
  | some j =>
    dsimp only
    obtain ⟨lj, pj, _⟩ := List.findIdx?_eq_some_iff_getElem.mp fnd
    have kin : k ∈ es.toList.map tKey := (tgood_mem (P := P) (w := w) T.good k).2 ⟨es.toList[j], List.getElem_mem lj, pj⟩
    refine wpAny_pure (wpAny_pure ?_)
    exact hQ false s.heap (Heap.SameBut.refl a s.heap) ⟨o, es, ep, t, ge, gx, gd, ⟨T.good, T.nd, fun i => by
      rw [List.mem_append, List.mem_singleton, T.mem i]
      exact ⟨fun z => z.elim id (fun e => e ▸ kin), .inl⟩, Nat.le_succ_of_le T.few, T.fits, T.ris, T.led⟩⟩
  | none =>
    dsimp only
    have kout : k ∉ es.toList.map tKey := fun z => by
      obtain ⟨e, me, q⟩ := (tgood_mem (P := P) (w := w) T.good k).1 z
      have c := List.findIdx?_eq_none_iff.mp fnd e me
      rw [q] at c
      cases c
    have gave0 : ∀ (b : Bool) {s₁ : Shared} {Q' : Unit → Shared → Prop}, Q' () s₁ → wpAny (model P w) A (match b with | true => rule "set.scan.the-table-gave-way" | false => pure ()) Q' E s₁ :=
      fun b s₁ Q' q => by cases b <;> first | exact wpAny_rule q | exact wpAny_pure q
    have per := layNew_perm t es ((PySem.strKind P w).hash k) (.str k tk)
    have fit1 := layNew_fits t es ((PySem.strKind P w).hash k) (.str k tk)
    have ri1 := layNew_ris t es ((PySem.strKind P w).hash k) (.str k tk) T.ris
    have le1 := layNew_led t es ((PySem.strKind P w).hash k) (.str k tk)
    generalize layNew t es ((PySem.strKind P w).hash k) (.str k tk) = Z at per fit1 ri1 le1 ⊢
    obtain ⟨es1, t1, wd, gave⟩ := Z
    dsimp only at per fit1 ri1 le1 ⊢
    rw [Array.toList_push] at per
    have per2 : es1.toList.Perm (((PySem.strKind P w).hash k, Value.str k tk) :: es.toList) := per.trans (List.perm_append_singleton _ _)
    have perk : (es1.toList.map tKey).Perm (k :: es.toList.map tKey) := per2.map tKey
    have siz : es1.size = es.size + 1 := by rw [← Array.length_toList, per2.length_eq, List.length_cons, Array.length_toList]
    have led1 : w.params.followText "set-order" = true ∨ t1.led = true := T.led.imp id fun z => by rw [le1]; exact z
    have T1 : ∀ t', t'.fits es1.size = true → Ris t'.place.toList → (w.params.followText "set-order" = true ∨ t'.led = true) → TIn P w (ks ++ [k]) (n + 1) es1 t' := fun t' f r l => ⟨fun e me => by
        rcases List.mem_cons.mp (per2.mem_iff.mp me) with z | z
        · rw [z]; exact ⟨k, tk, rfl, rfl⟩
        · exact T.good e z, perk.nodup_iff.mpr (List.nodup_cons.mpr ⟨kout, T.nd⟩), fun i => by
        rw [List.mem_append, List.mem_singleton, T.mem i, perk.mem_iff, List.mem_cons]
        exact Or.comm, by rw [siz]; exact Nat.succ_le_succ T.few, f, r, l⟩
    refine wpAny_bind (gave0 _ ?_)
    split
    · refine wpAny_bind ?_
      rw [hashByValue_scannable 8 scn]
      refine wpAny_pure ?_
      refine tset_tail ?_ ge gx gd (T1 _ ?_ ?_ ?_) room ?_
      · intro b s₁ Q' q; cases b <;> first | exact wpAny_rule q | exact wpAny_pure q
      · first | (split <;> first | exact fit1 | exact SetTable.fits_plain_off fit1) | exact fit1
      · first | (split <;> exact ri1) | exact ri1
      · first | (split <;> exact led1) | exact led1
      · intro h' sb r; dsimp only; exact wpAny_pure (hQ true h' sb r)
    · refine wpAny_bind (wpAny_pure ?_)
      simp only [↓reduceIte]
      refine tset_tail ?_ ge gx gd (T1 _ fit1 ri1 led1) room ?_
      · intro b s₁ Q' q; cases b <;> first | exact wpAny_rule q | exact wpAny_pure q
      · intro h' sb r; dsimp only; exact wpAny_pure (hQ true h' sb r)
end
end Cs
end
section
set_option Elab.async false
set_option linter.all false
set_option maxRecDepth 100000
set_option maxHeartbeats 8000000
/-! SETTX 2: set(xs) of a list of texts, sorted of it. -/
namespace Cs
open PySem PySem.Spec PyProof.Rows L2
theorem texts_at : ∀ {us : List Value} {xs : List Str}, StrsAre us xs → ∀ (i : Nat) (v : Value), us[i]? = some v → ∃ k t, xs[i]? = some k ∧ v = .str k t
  | _, _, .nil, i, v, g => by simp at g
  | _, _, .cons k t r, 0, v, g => by simp at g; exact ⟨k, t, rfl, g.symm⟩
  | _, _, .cons k t r, i + 1, v, g => by
    simp only [List.getElem?_cons_succ] at g
    obtain ⟨k', t', e, e2⟩ := texts_at r i v g
    exact ⟨k', t', by simpa using e, e2⟩
theorem take_more {α : Type} {l : List α} {i : Nat} {x : α} (g : l[i]? = some x) : l.take (i + 1) = l.take i ++ [x] := by
  rw [List.take_succ, g] <;> rfl
section
variable {P : Program} {w : World} {A : Around} {E : Value → Shared → Prop} {s : Shared}
theorem tset_loop {I : Addr} {fp wr : List Addr} {G : Array GenState → Array GenState → Prop} {n : Nat} {Pv : Nat → Value → Prop} {St : Nat → Shared → Prop} {R : Result → Shared → Prop}
    (W : WalksS P w A.in1 I fp wr G n Pv St) (S : Addr) (nin : S ∉ fp) (xs : List Str) (ln : n = xs.length) (lt : n + 1 < scanBound) (val : ∀ i v, Pv i v → ∃ k t, xs[i]? = some k ∧ v = .str k t) :
    ∀ (k i : Nat) (s : Shared), n - i = k → i ≤ n → St i s → TSet P w s.heap S (xs.take i) i →
      (∀ s', Moved (S :: wr) G s s' → TSet P w s'.heap S (xs.take n) n → R (.ok (.ret .none)) s') →
      codeAny (model P w) A (.builtin "set.update.loop" ⟨[.ref S, .ref I], []⟩) R s := by
  have ninw : S ∉ wr := fun z => nin (W.sub _ z)
  have subw : ∀ b ∈ wr, b ∈ S :: wr := fun b m => List.mem_cons_of_mem _ m
  intro k
  induction k with
  | zero =>
    intro i s ek li st T fin
    obtain rfl : i = n := by omega
    refine codeAny_builtin PyProof.Rows.F.entry_set_update_loop ?_
    rw [Around.under_plainId PyProof.Rows.F.plain_set_update_loop _]
    show wpAny _ A.in1 (pyNext (.ref I) >>= _) _ _ s
    refine wpAny_bind (W.done s _ _ st fun s1 mv => ?_)
    show wpAny _ A.in1 (ret Value.none) _ _ s1
    exact wpAny_pure (fin s1 (mv.mono subw) (T.at fun o g => mv.heap S o ninw g))
  | succ k ih =>
    intro i s ek li st T fin
    have lti : i < n := by omega
    refine codeAny_builtin PyProof.Rows.F.entry_set_update_loop ?_
    rw [Around.under_plainId PyProof.Rows.F.plain_set_update_loop _]
    show wpAny _ A.in1 (pyNext (.ref I) >>= _) _ _ s
    refine wpAny_bind (W.item i s _ _ lti st fun v s1 pv st1 mv => ?_)
    obtain ⟨x, tk, gx, rfl⟩ := val i v pv
    have T1 : TSet P w s1.heap S (xs.take i) i := T.at fun o g => mv.heap S o ninw g
    show wpAny _ A.in1 (holding [Value.str x tk] (setAdd S (.str x tk)) >>= _) _ _ s1
    refine wpAny_bind (wpAny_holding ?_)
    unfold setAdd
    refine wpAny_holding ?_
    refine wpAny_bind ((PySem.strKind P w).pyHash (k := x) (strKind_is _ _ _ _) ?_)
    refine tset_add (s := { s1 with toks := s1.toks + 1 }) T1 (by omega) fun b h2 sam T2 => ?_
    rw [← take_more gx] at T2
    refine wpAny_pure ⟨plainId_quiet PyProof.Rows.F.plain_set_update_loop _, ih (i + 1) _ (by omega) lti (W.frame _ s1 _ _ st1 (Nat.le_succ _) fun b mb o e => ?_) T2 fun s3 mv3 T3 => ?_⟩
    · rw [sam.2 b (fun z : b = S => nin (by rw [← z]; exact mb))]; exact e
    · refine fin s3 (Moved.trans W.gtrans ((mv.mono subw).then_heap (Nat.le_succ _) fun b o mb e => ?_) mv3) T3
      rw [sam.2 b (fun z : b = S => mb (by rw [z]; exact List.mem_cons_self))]; exact e
abbrev sObj (w : World) : Obj := { cls := .type "set", dict := none, data := .set #[] 0 (.fresh 0 0 (!w.params.followText "set-order")) }
set_option maxHeartbeats 6400000 in
theorem tset_make {l : Addr} {items : Array Value} {xs : List Str} {Q : Value → Shared → Prop} (nh : A.handled = none) (isl : s.heap.IsList l items) (are : StrsAre items.toList xs) (few : xs.length + 1 < scanBound)
    (fin : ∀ (h' : Heap) (tk : Nat), TSet P w h' s.heap.objs.size xs xs.length → (∀ b o, s.heap.get? b = some o → h'.get? b = some o) → Q (.ref s.heap.objs.size) { s with heap := h', toks := tk }) :
    wpAny (model P w) A (call (.type "set") [.ref l]) Q E s := by
  have siz : items.size = xs.length := by rw [← StrsAre.len_eq are, Array.length_toList]
  obtain ⟨c, tl, hmro⟩ := PySem.F.called_set.mro
  have made := PySem.F.called_set.made
  have subs := PySem.F.called_set.sub
  refine wpAny_call (codeAny_of_tree ?_)
  show wpAny _ _ (callAny (.type "set") _) _ _ _
  refine wpAny_pure ⟨Code.quiet_builtin _ (by decide +kernel), codeAny_builtin PySem.F.entry_type_call ?_⟩
  rw [Around.under_plain (weight_type_call_type "set" [.ref l] []) rfl]
  have f1 := PySem.F.called_set.notType
  have f2 := PySem.F.called_set.canCreate
  have fct := PySem.F.typeCall_set_1 (.ref l)
  repeat (any_goals (first | assumption | wp_step))
  refine codeAny_mono (code_set_led1 (.ref l) (E := E) (Q₁ := fun obj s₁ => obj = .ref s.heap.objs.size ∧ s₁ = { s with heap := s.heap.push (sObj w) }) ⟨rfl, rfl⟩) fun r s₁ hr => ?_
  cases r with
  | error e => exact hr
  | ok fl =>
    cases fl with
    | ret obj =>
      obtain ⟨rfl, rfl⟩ := hr
      have gS : (s.heap.push (sObj w)).get? s.heap.objs.size = some (sObj w) := Heap.get?_push_size _ rfl
      have gT : Shared.TypeIs { s with heap := s.heap.push (sObj w) } (.ref s.heap.objs.size) "set" := ⟨_, gS, rfl⟩
      have gli := PySem.F.called_set.init.lookup
      have gbi := PySem.F.called_set.init.bind (.ref s.heap.objs.size)
      repeat (any_goals (first | assumption | wp_step))
      refine codeAny_mono (codeAny_call_builtin (R := wants (fun r s₂ => r = .none ∧ ∃ h' tk, s₂ = { s with heap := h', toks := tk } ∧ TSet P w h' s.heap.objs.size xs xs.length ∧
          (∀ b o, s.heap.get? b = some o → h'.get? b = some o)) E) PySem.F.called_set.init.plain PySem.F.entry_set_init (check_set_init_1 gT ?_)) fun r₂ s₂ hr₂ => ?_
      · obtain ⟨ol, gol, gcl, nl, gdl⟩ := isl
        obtain ⟨ocls, odict, odata, oslots⟩ := ol
        simp only at gcl gdl
        subst gcl; subst gdl
        have gol2 : (s.heap.push (sObj w)).get? l = some { cls := .type "list", dict := odict, data := .seq items nl, slots := oslots } := Heap.get?_push_of_some _ gol
        have fsl := PySem.F.sub_list_set
        have fsf := PySem.F.sub_list_frozenset
        have fne : (Value.type "list" == Value.type "dict") = false := by decide
        have isl2 : (s.heap.push (sObj w)).IsList l items := ⟨_, gol2, rfl, nl, rfl⟩
        unfold Builtin.«set.__init__» noKeywords Builtin.Frozenset.updateFrom
        generalize gPI : pyIter = PI
        wp_walk
        subst gPI
        refine wpAny_pyIter_list isl2 ?_
        refine wpAny_bind (wpAny_runValue ?_)
        have lS : l < s.heap.objs.size := Heap.lt_size gol
        have nh3 : A.in1.in1.in1.handled = none := by simp [nh]
        have neI : l ≠ (s.heap.push (sObj w)).objs.size := by
          rw [Heap.size_push]; exact Nat.ne_of_lt (Nat.lt_succ_of_lt lS)
        have nf : s.heap.objs.size ∉ [(s.heap.push (sObj w)).objs.size, l] := by
          rw [Heap.size_push]; simp only [List.mem_cons, List.mem_singleton, List.not_mem_nil, or_false, not_or]
          exact ⟨Nat.ne_of_lt (Nat.lt_succ_self _), Nat.ne_of_gt lS⟩
        refine tset_loop ((Walks.list nh3 _ l neI items).toS) s.heap.objs.size
          nf xs siz (by rw [siz]; exact few) (fun i v e => texts_at are i v (by rw [Array.getElem?_toList]; exact e)) (items.size - 0) 0 _ (by omega) (Nat.zero_le _)
          ⟨⟨_, Heap.get?_push_size _ rfl, rfl, rfl⟩, (isl2.push _)⟩ ?gS0 ?gR
        case gS0 =>
          exact tset_fresh (Heap.get?_push_of_some _ gS)
        case gR =>
          intro s1 mv T1
          obtain ⟨h1, g1, d1, tk1, os1⟩ := s1
          have eg : g1 = s.gens := mv.gens
          have ed : d1 = s.drawn := mv.drawn
          have eo : os1 = s.os := mv.os
          subst eg; subst ed; subst eo
          show wpAny _ _ _ _ _ _
          refine wpAny_pure ?_
          show wpAny _ _ (ret Value.none) _ _ _
          rw [siz, List.take_length] at T1
          refine wpAny_pure ⟨rfl, h1, tk1, rfl, T1, fun b o e => ?_⟩
          have nb : b < s.heap.objs.size := Heap.lt_size e
          have nb1 : b ≠ s.heap.objs.size := Nat.ne_of_lt nb
          have nb2 : b ≠ (s.heap.push (sObj w)).objs.size := by
            rw [Heap.size_push]; exact Nat.ne_of_lt (Nat.lt_succ_of_lt nb)
          exact mv.heap b o (by simp only [List.mem_cons, List.mem_singleton, List.not_mem_nil, or_false, not_or]; exact ⟨nb1, nb2⟩) (Heap.get?_push_of_some _ (Heap.get?_push_of_some _ e))
      · cases r₂ with
        | error e => exact hr₂
        | ok fl₂ =>
          cases fl₂ with
          | ret r =>
            obtain ⟨rfl, h', tk, rfl, T1, kp⟩ := hr₂
            repeat (any_goals (first | assumption | wp_step))
            exact fin _ _ T1 kp
          | _ => exact hr₂.elim
    | _ => exact hr.elim
end
end Cs
end
section
set_option Elab.async false
set_option linter.all false
set_option maxRecDepth 100000
set_option maxHeartbeats 8000000
/-! SETTX 3: sorted of a set of texts; the rules of calls. -/
namespace Cs
open PySem PySem.Spec PyProof.Rows L2
theorem texts_of : ∀ (l : List Value), (∀ v ∈ l, ∃ k tk, v = Value.str k tk) → StrsAre l (l.map fun v => tKey (0, v))
  | [], _ => .nil
  | v :: l, g => by
    obtain ⟨k, tk, rfl⟩ := g v List.mem_cons_self
    exact .cons k tk (texts_of l fun u m => g u (List.mem_cons_of_mem _ m))
section
variable {P : Program} {w : World} {A : Around} {E : Value → Shared → Prop} {s : Shared} {a : Addr} {ks : List Str} {n : Nat}
theorem tset_sorted {Q : Value → Shared → Prop} (R : TSet P w s.heap a ks n) (nh : A.handled = none) (few : n < 64)
    (fin : ∀ s' p (out : Array Value) (c : Nat) (ys : List Str), (∀ b o, s.heap.get? b = some o → s'.heap.get? b = some o) → s'.gens = s.gens → s'.os = s.os → s.heap.objs.size ≤ p →
      s'.heap.get? p = some (seqObj "list" out c) → StrsAre out.toList ys → ys.Nodup → (∀ k, k ∈ ys ↔ k ∈ ks) → sortedS ys = true → ys.length ≤ n → Q (.ref p) s') :
    wpAny (model P w) A (call (.builtin "sorted") [.ref a]) Q E s := by
  obtain ⟨o, es, ep, t, ge, gx, gd, T⟩ := R
  have few0 : es.size < 64 := Nat.lt_of_le_of_lt T.few few
  refine Calls.call_function_entry kind_sorted plain_sorted entry_sorted (args_sorted1 _) ?_
  unfold Builtin.«sorted»
  refine wpAny_bind (m := checkCount "sorted" 1 1 _) (wpAny_pure ?_)
  refine wpAny_bind (collect_set (A := A.in1) nh ⟨o, ge, gx.1, gd⟩ T.fits (by unfold scanBound; omega) T.ris T.led fun s1 vs kp1 sz1 gn1 os1 per => ?_)
  have lvs : vs.length = es.size := by rw [per.length_eq, List.length_map, Array.length_toList]
  have are : StrsAre vs (vs.map fun v => tKey (0, v)) := texts_of vs fun v m => by
    obtain ⟨e, me, q⟩ := List.mem_map.mp (per.mem_iff.mp m)
    obtain ⟨k, tk, g1, _⟩ := T.good e me
    exact ⟨k, tk, by rw [← q]; exact g1⟩
  have perk : (vs.map fun v => tKey (0, v)).Perm (es.toList.map tKey) := by
    have q := per.map fun v => tKey (0, v)
    rw [List.map_map] at q
    exact q
  refine wpAny_bind (wpAny_newList ?_ (by rw [lvs, sizeLine_eq]; omega))
  have goL : (s1.heap.push (seqObj "list" vs.toArray 0)).get? s1.heap.objs.size = some (seqObj "list" vs.toArray 0) := Heap.get?_push_size _ rfl
  refine wpAny_bind (wpAny_holding (wpAny_call_entry slot_list_sort ⟨_, goL, rfl⟩ entry_list_sort (list_sort_treeKAny strKind_oneLt goL are.keysOf (fun v₁ v₂ rest e => keyKind_strs (by rw [← e]; exact are)) (by rw [lvs, sizeLine_eq]; omega) fun st' q1 q2 => ⟨_, rfl, ?_⟩) (args_list_sort _)))
  obtain ⟨ys, a1, a2, a3⟩ := sorted_out_str are q1 q2
  obtain ⟨c, gc⟩ := sortedHeap_at (vs := vs) (out := (arrOf st').map (·.2)) goL
  have pery : ys.Perm (es.toList.map tKey) := a2.trans perk
  refine wpAny_pure ⟨_, rfl, fin _ s1.heap.objs.size _ c ys (fun b u e => ?_) gn1 os1 sz1 gc a1 (pery.nodup_iff.mpr T.nd) (fun k => by rw [pery.mem_iff, ← T.mem k]) a3 (by rw [pery.length_eq, List.length_map, Array.length_toList]; exact T.few)⟩
  have e1 := kp1 b u e
  have lt1 := Heap.lt_size e1
  show (sortedHeap (s1.heap.push (seqObj "list" vs.toArray 0)) s1.heap.objs.size vs _).get? b = some u
  rw [sortedHeap_old (Nat.ne_of_lt lt1) (by rw [size_push']; exact Nat.lt_succ_of_lt lt1)]
  exact Heap.get?_push_of_some _ e1
end
/-- the set of texts, as a thing of the hand layer -/
def TSetO (P : Program) (w : World) (a : Addr) (ks : List Str) (n : Nat) : HO := .ext fun h => TSet P w h a ks n
section
variable {X : Cx}
theorem tsetO_new {P : Program} {w : World} {H : Hp} {h : Heap} {a : Addr} {ks : List Str} {n : Nat} (R : TSet P w h a ks n) : ObjOk P w H h a (TSetO P w a ks n) := by
  have ⟨o, _, _, _, g, _⟩ := R
  exact ⟨R, ⟨o, g⟩, fun h1 h2 p k => TSet.at p k⟩
theorem tsetO_get {pins : List (Addr × Obj)} {σ : L2.St} {H : Hp} {s : Shared} {a : Addr} {ks : List Str} {n : Nat} (I : Inv X pins σ H s) (g : H a = some (TSetO X.prog X.w a ks n)) : TSet X.prog X.w s.heap a ks n := (I.hok a _ g).1
/-- set(xs), xs a list of texts -/
def rSetTx (K : PySem.W.Frag) (P : Program) (w : World) : List V → Hp → VK → Prop := fun xs H Q => ∃ (l : Addr) (ks : List Str), xs = [V.ref l] ∧ SqL K H l (ks.map V.str) ∧ ks.length < 4000 ∧ ∀ p, H p = none → Q (.ref p) (upd H p (TSetO P w p ks ks.length))
theorem cr_setTx (hc : X.calm = true) : CallR X (.type "set") (rSetTx X.K X.prog X.w) := by
  intro pins s σ H xs us Q I r h
  obtain ⟨l, ks, rfl, gl, lt, q⟩ := h
  rw [Vals.ref1 r]
  obtain ⟨its, rv, pl, _⟩ := I.list gl
  have gn : H s.heap.objs.size = none := I.hok.fresh (Nat.le_refl _)
  refine tset_make (P := X.prog) (w := X.w) (I.ok.hd hc) pl.isList (by simpa using rv.strs) (by unfold scanBound; omega) fun h' tk T kp => ?_
  exact ⟨.ref s.heap.objs.size, upd H s.heap.objs.size (TSetO X.prog X.w s.heap.objs.size ks ks.length), I.laid (t' := tk) kp (Nat.le_refl _) (tsetO_new T), rfl, q _ gn⟩
/-- sorted(s), s a set of texts -/
def rSortTx (P : Program) (w : World) : List V → Hp → VK → Prop := fun vs H Q => ∃ (a : Addr) (ks : List Str) (n : Nat), vs = [V.ref a] ∧ H a = some (TSetO P w a ks n) ∧ n < 64 ∧
  ∀ (ys : List Str) (p : Addr), ys.Nodup → (∀ k, k ∈ ys ↔ k ∈ ks) → sortedS ys = true → ys.length ≤ n → H p = none → Q (.ref p) (upd H p (.lst (ys.map V.str)))
theorem cr_sortTx (hc : X.calm = true) : CallR X (.builtin "sorted") (rSortTx X.prog X.w) := by
  intro pins s σ H vs us Q I r h
  obtain ⟨a, ks, n, rfl, ga, few, q⟩ := h
  have e0 := Vals.ref1 r
  rw [e0]
  refine tset_sorted (tsetO_get I ga) (I.ok.hd hc) few fun s' p out c ys kp gn os lp gp are nd mem srt ly => ?_
  have len : (ys.map V.str).length ≤ sizeLine := by rw [List.length_map, sizeLine_eq]; omega
  have new : H p = none := I.hok.fresh lp
  have J : Inv X pins σ (upd H p (.lst (ys.map V.str))) { s with heap := s'.heap, gens := s'.gens, drawn := s'.drawn, toks := s'.toks } :=
    I.call (ch := []) (Un.laid kp lp new) (I.hok.laid kp lp ⟨len, out.toList, c, vals_of_strs are, gp⟩) (by rw [gn]; exact I.bare) (fun _ z => nomatch z)
  have e : s' = { s with heap := s'.heap, gens := s'.gens, drawn := s'.drawn, toks := s'.toks } := by
    cases s'
    cases s
    cases os
    rfl
  rw [e]
  exact ⟨.ref p, _, J, rfl, q ys p nd mem srt ly new⟩
end
end Cs
end
section
set_option Elab.async false
set_option linter.all false
set_option maxRecDepth 100000
set_option maxHeartbeats 4000000
/-! SORTU: the ascending row of texts is the one. -/
namespace Cs
open PySem PySem.Spec Cz PyProof.Rows
theorem ltx_cons {a b : Nat} {x y : List Nat} : a :: x < b :: y ↔ a < b ∨ (a = b ∧ x < y) := List.cons_lt_cons_iff
theorem ltx_nil {x : List Nat} : ¬ x < [] := by
  intro h
  cases h
theorem ltx_irr : ∀ {x : List Nat}, ¬ x < x
  | [] => ltx_nil
  | a :: x => fun h => by
    rcases ltx_cons.mp h with h | h
    · omega
    · exact ltx_irr h.2
theorem ltx_tr : ∀ {x y z : List Nat}, x < y → y < z → x < z
  | x, [], z, h, _ => absurd h ltx_nil
  | x, _ :: _, [], _, g => absurd g ltx_nil
  | [], b :: y, c :: z, _, _ => List.nil_lt_cons _ _
  | a :: x, b :: y, c :: z, h, g => by
    rcases ltx_cons.mp h with h | h
    · rcases ltx_cons.mp g with g | g
      · exact ltx_cons.mpr (.inl (by omega))
      · exact ltx_cons.mpr (.inl (by omega))
    · rcases ltx_cons.mp g with g | g
      · exact ltx_cons.mpr (.inl (by omega))
      · exact ltx_cons.mpr (.inr ⟨by omega, ltx_tr h.2 g.2⟩)
theorem ltx_tri : ∀ (x y : List Nat), x < y ∨ x = y ∨ y < x
  | [], [] => .inr (.inl rfl)
  | [], b :: y => .inl (List.nil_lt_cons _ _)
  | a :: x, [] => .inr (.inr (List.nil_lt_cons _ _))
  | a :: x, b :: y => by
    rcases Nat.lt_trichotomy a b with h | h | h
    · exact .inl (ltx_cons.mpr (.inl h))
    · rcases ltx_tri x y with g | g | g
      · exact .inl (ltx_cons.mpr (.inr ⟨h, g⟩))
      · exact .inr (.inl (by rw [h, g]))
      · exact .inr (.inr (ltx_cons.mpr (.inr ⟨h.symm, g⟩)))
    · exact .inr (.inr (ltx_cons.mpr (.inl h)))
theorem insS_asc {k : List Nat} : ∀ {l : List (List Nat)}, l.Pairwise (· < ·) → (insS k l).Pairwise (· < ·)
  | [], _ => by simp [insS]
  | y :: r, h => by
    obtain ⟨h1, h2⟩ := List.pairwise_cons.mp h
    unfold insS
    split
    · exact h
    · rename_i ne
      split
      · rename_i lt
        refine List.pairwise_cons.mpr ⟨fun z m => ?_, h⟩
        rcases List.mem_cons.mp m with rfl | m
        · exact lt
        · exact ltx_tr lt (h1 z m)
      · rename_i nlt
        refine List.pairwise_cons.mpr ⟨fun z m => ?_, insS_asc h2⟩
        rcases mem_insS.mp m with rfl | m
        · rcases ltx_tri z y with g | g | g
          · exact absurd g nlt
          · exact absurd g ne
          · exact g
        · exact h1 z m
theorem sortU_asc : ∀ (l : List (List Nat)), (sortU l).Pairwise (· < ·)
  | [] => List.Pairwise.nil
  | y :: r => insS_asc (sortU_asc r)
theorem asc_one : ∀ {a b : List (List Nat)}, a.Pairwise (· < ·) → b.Pairwise (· < ·) → (∀ x, x ∈ a ↔ x ∈ b) → a = b
  | [], [], _, _, _ => rfl
  | [], y :: b, _, _, h => by have := (h y).mpr List.mem_cons_self; cases this
  | x :: a, [], _, _, h => by have := (h x).mp List.mem_cons_self; cases this
  | x :: a, y :: b, ha, hb, h => by
    obtain ⟨a1, a2⟩ := List.pairwise_cons.mp ha
    obtain ⟨b1, b2⟩ := List.pairwise_cons.mp hb
    have e : x = y := by
      rcases List.mem_cons.mp ((h x).mp List.mem_cons_self) with e | m
      · exact e
      · rcases List.mem_cons.mp ((h y).mpr List.mem_cons_self) with e | m2
        · exact e.symm
        · exact absurd (ltx_tr (a1 y m2) (b1 x m)) ltx_irr
    subst e
    have : a = b := asc_one a2 b2 fun z => by
      constructor
      · intro m
        rcases List.mem_cons.mp ((h z).mp (List.mem_cons_of_mem _ m)) with rfl | g
        · exact absurd (a1 _ m) ltx_irr
        · exact g
      · intro m
        rcases List.mem_cons.mp ((h z).mpr (List.mem_cons_of_mem _ m)) with rfl | g
        · exact absurd (b1 _ m) ltx_irr
        · exact g
    rw [this]
theorem rising_asc : ∀ {l : List Str} {p : Str}, PyProof.Rows.risingS p l = true → (p :: l).Nodup → ((p :: l).map fun x => x.cps.toList).Pairwise (· < ·)
  | [], p, _, _ => by simp
  | x :: r, p, h, nd => by
    have h2 := Bool.and_eq_true_iff.mp (show (!ltCps x.cps.toList p.cps.toList && PyProof.Rows.risingS x r) = true from h)
    obtain ⟨n1, n2⟩ := List.nodup_cons.mp nd
    have ih := rising_asc h2.2 n2
    have nlt : ¬ x.cps.toList < p.cps.toList := by
      have := h2.1
      rw [ltCps_eq] at this
      simpa using this
    have lt : p.cps.toList < x.cps.toList := by
      rcases ltx_tri p.cps.toList x.cps.toList with g | g | g
      · exact g
      · exact absurd (show p ∈ x :: r by
          have : p = x := by cases p; cases x; simp at g; simp [g]
          rw [this]; exact List.mem_cons_self) n1
      · exact absurd g nlt
    rw [List.map_cons, List.map_cons] at *
    refine List.pairwise_cons.mpr ⟨fun z m => ?_, ih⟩
    rcases List.mem_cons.mp m with rfl | m
    · exact lt
    · exact ltx_tr lt ((List.pairwise_cons.mp ih).1 z m)
theorem sortedS_asc : ∀ {l : List Str}, PyProof.Rows.sortedS l = true → l.Nodup → (l.map fun x => x.cps.toList).Pairwise (· < ·)
  | [], _, _ => by simp
  | p :: l, h, nd => rising_asc h nd
theorem sorted_one {ks : List (List Nat)} {ys : List Str} (nd : ys.Nodup) (mem : ∀ k, k ∈ ys ↔ k ∈ ks.map st) (srt : PyProof.Rows.sortedS ys = true) : ys = (sortU ks).map st := by
  have e : (ys.map fun x => x.cps.toList) = sortU ks := asc_one (sortedS_asc srt nd) (sortU_asc ks) fun x => by
    rw [mem_sortU, List.mem_map]
    constructor
    · rintro ⟨y, m, rfl⟩
      obtain ⟨k, mk, rfl⟩ := List.mem_map.mp ((mem y).mp m)
      exact mk
    · intro m
      exact ⟨st x, (mem _).mpr (List.mem_map.mpr ⟨x, m, rfl⟩), rfl⟩
  rw [← e, List.map_map]
  have : ∀ l : List Str, l = l.map (st ∘ fun x => x.cps.toList) := fun l => by
    induction l with
    | nil => rfl
    | cons a r ih =>
      rw [List.map_cons, ← ih]
      congr 1
  exact this ys
end Cs
end
section
set_option Elab.async false
set_option linter.all false
set_option maxRecDepth 100000
set_option maxHeartbeats 4000000
/-! SOUND 10: what a def promises, by data; calls. -/
namespace Cs
open PySem L2 Cz PyProof.Rows
section
variable (K : PySem.W.Frag) (w : World)
inductive Argvs (F H : Hp) : List V → List Cz.Arg → Prop
  | nil : Argvs F H [] []
  | a {v : V} {vs : List V} {d : D} {as : List Cz.Arg} : DV K w F v d → Argvs F H vs as → Argvs F H (v :: vs) (.a d :: as)
  | o {p : Addr} {us vs : List V} {xs : List D} {as : List Cz.Arg} : F p = none → H p = some (.lst us) → DVs K w F us xs → xs.length ≤ Lim → Argvs F H vs as → Argvs F H (.ref p :: vs) (.o xs :: as)
/-- the addresses of the lent lists -/
def lentsOf : List V → List Cz.Arg → List Addr
  | v :: vs, .o _ :: as => (match v with | .ref p => [p] | _ => []) ++ lentsOf vs as
  | _ :: vs, .a _ :: as => lentsOf vs as
  | _, _ => []
inductive Outs (F H : Hp) : List V → List Cz.Arg → List (List D) → Prop
  | nil : Outs F H [] [] []
  | a {v : V} {vs : List V} {d : D} {as : List Cz.Arg} {os : List (List D)} : Outs F H vs as os → Outs F H (v :: vs) (.a d :: as) os
  | o {p : Addr} {us vs : List V} {xs ys : List D} {as : List Cz.Arg} {os : List (List D)} : F p = none → H p = some (.lst us) → DVs K w F us ys → ys.length ≤ Lim → Outs F H vs as os → Outs F H (.ref p :: vs) (.o xs :: as) (ys :: os)
/-- what stands behind a call -/
structure Aft (F H : Hp) (L : List Addr) (F' H' : Hp) : Prop where
  f : Ex F F'
  fh : Ex F' H'
  frame : ∀ a o, H a = some o → a ∉ L → H' a = some o
  mask : ∀ a, H a ≠ none → F a = none → F' a = none
end
/-- THE PROMISE of a def, by what its data mean -/
def spC (G : Fx) (K : PySem.W.Frag) (w : World) (f : Nat) (np : Nat) : Sp := fun vs H Q E => ∃ F as, vs.length = np ∧ Ex F H ∧ Argvs K w F H vs as ∧ (lentsOf vs as).Nodup ∧ (match G.C f as with
  | .ok v outs => ∀ u F' H', Aft F H (lentsOf vs as) F' H' → Outs K w F' H' vs as outs → Rv K w H F' H' u v → Q u H'
  | .ex x outs => ∀ cls d F' H', Aft F H (lentsOf vs as) F' H' → Outs K w F' H' vs as outs → XRep G.xa G.xf K w F' H' x cls d → E cls d H'
  | .bad => False)
def lentIx : List Val → List Nat
  | [] => []
  | .b i :: r => i :: lentIx r
  | .p _ :: r => lentIx r
  | .f _ :: r => lentIx r
section
variable {K : PySem.W.Frag} {w : World} {B : Bas} {F H F' H' : Hp} {σ : List (Option V)}
theorem mem_lentIx {i : Nat} : ∀ {vs : List Val}, i ∈ lentIx vs ↔ Val.b i ∈ vs
  | [] => by simp [lentIx]
  | .b j :: r => by simp [lentIx, mem_lentIx (vs := r)]
  | .p _ :: r => by simp [lentIx, mem_lentIx (vs := r)]
  | .f _ :: r => by simp [lentIx, mem_lentIx (vs := r)]
theorem lentOnce_cons {i : Nat} {r : List Val} (h : lentOnce (.b i :: r) = true) : i ∉ lentIx r ∧ lentOnce r = true := by
  unfold lentOnce at h
  rw [Bool.and_eq_true] at h
  refine ⟨fun hm => ?_, h.2⟩
  have := List.all_eq_true.mp h.1 _ (mem_lentIx.mp hm)
  simp at this
/-- the arguments as they are handed over -/
theorem args_ok {ρ : List Sl} (r : Rep K w B F H σ ρ) : ∀ {vs : List Val} {xs : List V} {as : List Cz.Arg}, Kps K w F σ vs xs → args ρ vs = some as →
    Argvs K w F H xs as ∧ (∀ p ∈ lentsOf xs as, ∃ i ∈ lentIx vs, σ[i]? = some (some (V.ref p)) ∧ ∃ l ys, ρ[i]? = some (Sl.own l ys)) ∧ (∀ i ∈ lentIx vs, ∃ p ∈ lentsOf xs as, σ[i]? = some (some (V.ref p))) ∧ (lentOnce vs = true → (lentsOf xs as).Nodup)
  | [], _, _, .nil, h => by
    cases h
    exact ⟨.nil, fun p hp => absurd hp (by simp [lentsOf]), fun i hi => absurd hi (by simp [lentIx]), fun _ => by simp [lentsOf]⟩
  | .p d :: vs, _, _, .cons k q, h => by
    unfold args at h
    obtain ⟨as, ha, e⟩ := Option.map_eq_some_iff.mp h
    subst e
    obtain ⟨a1, a2, a3, a4⟩ := args_ok r q ha
    exact ⟨.a k a1, a2, a3, fun l => a4 (by simpa [lentOnce] using l)⟩
  | .f xs :: vs, _, _, .cons k q, h => k.elim
  | .b i :: vs, _, _, .cons (x := x) k q, h => by
    unfold args at h
    split at h
    · rename_i l ys hi
      obtain ⟨as, ha, e⟩ := Option.map_eq_some_iff.mp h
      subst e
      obtain ⟨a1, a2, a3, a4⟩ := args_ok r q ha
      obtain ⟨p, us, s1, f1, h1, d1, l1, _⟩ := r.own i l ys hi
      have k' : σ[i]? = some (some x) := k
      rw [s1] at k'
      cases k'
      refine ⟨.o f1 h1 d1 l1 a1, fun p' hp => ?_, fun j hj => ?_, fun lo => ?_⟩
      · rcases List.mem_append.mp (show p' ∈ [p] ++ lentsOf _ as from hp) with hp | hp
        · have e : p' = p := by simpa using hp
          subst e
          exact ⟨i, by simp [lentIx], s1, l, ys, hi⟩
        · obtain ⟨j, hj, z⟩ := a2 p' hp
          exact ⟨j, by simp [lentIx, hj], z⟩
      · rcases List.mem_cons.mp (show j ∈ i :: lentIx vs from hj) with e | hj
        · subst e
          exact ⟨p, List.mem_append_left _ (by simp), s1⟩
        · obtain ⟨p', hp, z⟩ := a3 j hj
          exact ⟨p', List.mem_append_right _ hp, z⟩
      · obtain ⟨n1, n2⟩ := lentOnce_cons lo
        show ([p] ++ lentsOf _ as).Nodup
        rw [List.singleton_append, List.nodup_cons]
        refine ⟨fun hm => ?_, a4 n2⟩
        obtain ⟨j, hj, z, l', ys', hj'⟩ := a2 p hm
        have e := r.apart i j _ _ _ _ p hi hj' s1 z
        subst e
        exact n1 hj
    · cases h
/-- what back does -/
theorem back_ok : ∀ {vs : List Val} {xs : List V} {as : List Cz.Arg} {os : List (List D)} {ρ ρ0 ρ2 : List Sl}, Kps K w F σ vs xs → args ρ0 vs = some as → Outs K w F' H' xs as os → lentOnce vs = true → back ρ vs os = some ρ2 →
    ρ2.length = ρ.length ∧ (∀ (i : Nat), i ∉ lentIx vs → ρ2[i]? = ρ[i]?) ∧
    (∀ i ∈ lentIx vs, ∃ l ys p us, (∃ zs, ρ[i]? = some (Sl.own l zs)) ∧ ρ2[i]? = some (Sl.own l ys) ∧ σ[i]? = some (some (V.ref p)) ∧ F' p = none ∧ H' p = some (.lst us) ∧ DVs K w F' us ys ∧ ys.length ≤ Lim)
  | [], _, _, _, ρ, ρ0, ρ2, .nil, h, o, _, hb => by
    cases h
    cases o
    cases hb
    exact ⟨rfl, fun _ _ => rfl, fun i hi => absurd hi (by simp [lentIx])⟩
  | .p d :: vs, _, _, os, ρ, ρ0, ρ2, .cons k q, h, o, lo, hb => by
    unfold args at h
    obtain ⟨as, ha, e⟩ := Option.map_eq_some_iff.mp h
    subst e
    cases o with
    | a o =>
      have z := back_ok (vs := vs) (ρ := ρ) (ρ2 := ρ2) q ha o (by simpa [lentOnce] using lo) (by unfold back at hb; exact hb)
      exact z
  | .f xs :: vs, _, _, _, _, _, _, .cons k q, h, _, _, _ => k.elim
  | .b i :: vs, _, _, os, ρ, ρ0, ρ2, .cons (x := x) k q, h, o, lo, hb => by
    unfold args at h
    split at h
    · obtain ⟨as, ha, e⟩ := Option.map_eq_some_iff.mp h
      subst e
      obtain ⟨n1, n2⟩ := lentOnce_cons lo
      cases o with
      | o f1 h1 d1 l1 o =>
        unfold back at hb
        split at hb
        · rename_i l zs hi
          obtain ⟨b1, b2, b3⟩ := back_ok q ha o n2 hb
          have hlt : i < ρ.length := (List.getElem?_eq_some_iff.mp hi).1
          refine ⟨by rw [b1, List.length_set], fun j hj => ?_, fun j hj => ?_⟩
          · have nj : j ∉ lentIx vs := fun z => hj (by simp [lentIx, z])
            have ne : i ≠ j := fun z => hj (by simp [lentIx, z])
            rw [b2 j nj, List.getElem?_set_ne ne]
          · rcases List.mem_cons.mp (show j ∈ i :: lentIx vs from hj) with e | hj
            · subst e
              refine ⟨l, _, _, _, ⟨zs, hi⟩, ?_, k, f1, h1, d1, l1⟩
              rw [b2 j n1, List.getElem?_set_self hlt]
            · obtain ⟨l', ys, p, us, ⟨zs', hz⟩, r1, r2⟩ := b3 j hj
              have ne : i ≠ j := fun z => n1 (z ▸ hj)
              rw [List.getElem?_set_ne ne] at hz
              exact ⟨l', ys, p, us, ⟨zs', hz⟩, r1, r2⟩
        · cases hb
    · cases h
/-- behind a call -/
theorem Rep.call {ρ ρ2 : List Sl} {vs : List Val} {xs : List V} {as : List Cz.Arg} {os : List (List D)} (r : Rep K w B F H σ ρ) (kps : Kps K w F σ vs xs) (ha : args ρ vs = some as) (lo : lentOnce vs = true) (af : Aft F H (lentsOf xs as) F' H')
    (o : Outs K w F' H' xs as os) (hb : back ρ vs os = some ρ2) : Rep K w B F' H' σ ρ2 := by
  obtain ⟨a1, a2, a3, a4⟩ := args_ok r kps ha
  obtain ⟨b1, b2, b3⟩ := back_ok kps ha o lo hb
  -- the kind of every slot stays
  have same : ∀ (i : Nat) (l : Bool) (ys : List D), ρ2[i]? = some (Sl.own l ys) → ∃ zs, ρ[i]? = some (Sl.own l zs) := fun i l ys hi => by
    by_cases hm : i ∈ lentIx vs
    · obtain ⟨l', ys', p, us, ⟨zs, hz⟩, r1, _⟩ := b3 i hm
      rw [hi] at r1
      cases r1
      exact ⟨zs, hz⟩
    · exact ⟨ys, by rw [← b2 i hm]; exact hi⟩
  have apartL : ∀ (i : Nat) (l : Bool) (ys : List D) (p : Addr), ρ[i]? = some (Sl.own l ys) → σ[i]? = some (some (V.ref p)) → i ∉ lentIx vs → p ∉ lentsOf xs as := fun i l ys p hi hs hn hp => by
    obtain ⟨j, hj, z, l', ys', hj'⟩ := a2 p hp
    have e := r.apart i j _ _ _ _ p hi hj' hs z
    subst e
    exact hn hj
  exact {
    fe := r.fe.trans af.f
    fh := af.fh
    len := by rw [r.len, b1]
    dat := fun i x hi => by
      by_cases hm : i ∈ lentIx vs
      · obtain ⟨l', ys', p, us, _, r1, _⟩ := b3 i hm
        rw [hi] at r1
        cases r1
      · rw [b2 i hm] at hi
        obtain ⟨v, h1, h2⟩ := r.dat i x hi
        exact ⟨v, h1, h2.mono af.f⟩
    own := fun i l ys hi => by
      obtain ⟨zs, hz⟩ := same i l ys hi
      obtain ⟨p, us, s1, f1, h1, d1, l1, g1, g2⟩ := r.own i l zs hz
      by_cases hm : i ∈ lentIx vs
      · obtain ⟨l', ys', p', us', _, r1, r2, r3, r4, r5, r6⟩ := b3 i hm
        rw [hi] at r1
        cases r1
        rw [s1] at r2
        cases r2
        exact ⟨p, us', s1, r3, r4, r5, r6, g1, g2⟩
      · rw [b2 i hm] at hi
        rw [hz] at hi
        cases hi
        exact ⟨p, us, s1, af.mask p (by rw [h1]; simp) f1, af.frame _ _ h1 (apartL i l _ p hz s1 hm), d1.mono af.f, l1, g1, g2⟩
    apart := fun i j l l' ys zs p hi hj si sj => by
      obtain ⟨_, hi'⟩ := same i l ys hi
      obtain ⟨_, hj'⟩ := same j l' zs hj
      exact r.apart i j _ _ _ _ p hi' hj' si sj
    lent := fun q hq => by
      obtain ⟨⟨ys, hy⟩, hs⟩ := r.lent q hq
      refine ⟨?_, hs⟩
      by_cases hm : q.1 ∈ lentIx vs
      · obtain ⟨l', ys', p, us, ⟨zs, hz⟩, r1, _⟩ := b3 q.1 hm
        rw [hy] at hz
        cases hz
        exact ⟨ys', r1⟩
      · exact ⟨ys, by rw [b2 _ hm]; exact hy⟩
    frame := fun a o h1 h2 => by
      refine af.frame a o (r.frame a o h1 h2) fun hp => ?_
      obtain ⟨j, hj, z, l', ys', hj'⟩ := a2 a hp
      obtain ⟨p, us, s1, _, _, _, _, g1, g2⟩ := r.own j _ _ hj'
      rw [z] at s1
      cases s1
      cases l' with
      | true => exact h2 _ (g2 rfl) rfl
      | false => rw [g1 rfl] at h1; cases h1
    mask := fun a h1 h2 => by
      by_cases hl : ∃ q ∈ B.L, q.2 = a
      · obtain ⟨q, hq, e⟩ := hl
        obtain ⟨⟨ys, hy⟩, hs⟩ := r.lent q hq
        obtain ⟨p, us, s1, f1, g1, _⟩ := r.own _ _ _ hy
        rw [hs] at s1
        cases s1
        exact af.mask a (by rw [← e, g1]; simp) (r.mask a h1 h2)
      · cases e : B.H0 a with
        | none => exact absurd e h1
        | some o => exact af.mask a (by rw [r.frame a o e fun q hq z => hl ⟨q, hq, z⟩]; simp) (r.mask a h1 h2) }
end
section
variable {X : Cx} {G : Fx} {B : Bas} {W : Wi}
/-- a def that stands at the module's name x and keeps the promise of number f -/
structure CalOk (X : Cx) (G : Fx) (k : Nat) (f : Nat) (x : Str) : Prop where
  ex : ∃ (addr : Addr) (fd : FuncData) (ps : List Str), FnOk X.prog X.w X.K X.mg X.base (L2.CX X.prog X.w) k addr fd ps (spC G X.K X.w f ps.length) ∧ X.mg x = some (.ref addr) ∧ PySem.W.keepIn X.K (.ref addr) = true ∧ Binds X.K fd ps []
theorem sCall {f np : Nat} {es : Es} {σ : List (Option V)} {H : Hp} {Q : VK} (hn : esLen es = np) (h : tE G X.K X.w B W (.call f es) σ H Q) :
    tEs G X.K X.w B W es σ H fun vs H1 => spC G X.K X.w f np vs H1 Q (WD G X.K X.w B W · · σ ·) := by
  obtain ⟨F, ρ, r, h⟩ := h
  refine ⟨F, ρ, r, ?_⟩
  unfold evE at h
  cases h1 : evEs G.M G.C es ρ with
  | ok vs ρ1 =>
    rw [h1] at h
    simp only at h ⊢
    intro xs F1 H1 e1 r1 k1
    cases h2 : args ρ1 vs with
    | none => rw [h2] at h; exact h.elim
    | some as =>
      rw [h2] at h
      simp only at h
      by_cases lo : lentOnce vs = true
      · rw [if_pos lo] at h
        obtain ⟨a1, a2, a3, a4⟩ := args_ok r1 k1 h2
        have len : xs.length = np := by
          have b1 := es_len es h1
          have b2 : ∀ {vs : List Val} {xs : List V}, Kps X.K X.w F1 σ vs xs → xs.length = vs.length := fun {vs xs} k => by
            induction k with
            | nil => rfl
            | cons _ _ ih => rw [List.length_cons, List.length_cons, ih]
          rw [b2 k1, b1, hn]
        refine ⟨F1, as, len, r1.fh, a1, a4 lo, ?_⟩
        cases h3 : G.C f as with
        | ok v outs =>
          rw [h3] at h
          simp only at h ⊢
          intro u F' H' af o rv
          cases h4 : back ρ1 vs outs with
          | none => rw [h4] at h; exact h.elim
          | some ρ2 =>
            rw [h4] at h
            have r2 := r1.call k1 h2 lo af o h4
            have same : ∀ (i : Nat) (l : Bool) (ys : List D), ρ2[i]? = some (Sl.own l ys) → ∃ l' zs, ρ1[i]? = some (Sl.own l' zs) := fun i l ys hi => by
              obtain ⟨b1, b2, b3⟩ := back_ok k1 h2 o lo h4
              by_cases hm : i ∈ lentIx vs
              · obtain ⟨l', ys', p, us, ⟨zs, hz⟩, _⟩ := b3 i hm
                exact ⟨l', zs, hz⟩
              · exact ⟨l, ys, by rw [← b2 i hm]; exact hi⟩
            refine h u F' H' (e1.trans af.f) r2 ?_
            cases v with
            | p d => exact rv
            | b i => exact rv.elim
            | f ys =>
              obtain ⟨p, us, rfl, a, b, c, q, l⟩ := rv
              exact ⟨p, us, rfl, b, c, q, l, r1.fresh a, fun i l ys hi hs => by
                obtain ⟨l', zs, hz⟩ := same i l ys hi
                exact r1.noOwn a i l' zs hz hs⟩
        | ex x outs =>
          rw [h3] at h
          simp only at h ⊢
          intro cls d F' H' af o xr
          cases h4 : back ρ1 vs outs with
          | none => rw [h4] at h; exact h.elim
          | some ρ2 =>
            rw [h4] at h
            exact ⟨F', x, ρ2, r1.call k1 h2 lo af o h4, xr, h⟩
        | bad => rw [h3] at h; exact h
      · rw [if_neg lo] at h; exact h.elim
  | ex x ρ1 => rw [h1] at h; exact h
  | bad => rw [h1] at h; exact h
theorem sE_call {k f : Nat} {e : Cz.E} {es : Es} {x : Str} {ea : Expr} {eas : List Expr} {p pos : Pos} (tk : Takes X (WD G X.K X.w B W)) (hr : Room k X.A) (c : ∃ (addr : Addr) (fd : FuncData) (ps : List Str), ps.length = esLen (.cons e es) ∧ FnOk X.prog X.w X.K X.mg X.base (L2.CX X.prog X.w) k addr fd ps (spC G X.K X.w f ps.length) ∧ X.mg x = some (.ref addr) ∧ PySem.W.keepIn X.K (.ref addr) = true ∧ Binds X.K fd ps [])
    (hg : Gl X x) (hdb : (x == ("__debug__" : Str)) = false) (he : starEach (ea :: eas) X.env = (false, eval ea X.env) :: starEach eas X.env) (hpl : (backTo pos (starEach eas X.env)).any (·.1) = false) (ha : PA X (ea :: eas) (tEs G X.K X.w B W (.cons e es))) :
    PE X (.Call (.Name x p) (ea :: eas) [] pos) (tE G X.K X.w B W (.call f (.cons e es))) := by
  obtain ⟨addr, fd, ps, hps, F, hm, hk, hb⟩ := c
  refine (pe_callS (E := WE (WD G X.K X.w B W)) F hr hg hm hk hb (fun σ => passAt tk σ) ha hdb he hpl).imp fun σ H Q h => ?_
  exact sCall hps.symm h
end
end Cs
end
section
set_option Elab.async false
set_option linter.all false
set_option maxRecDepth 100000
set_option maxHeartbeats 4000000
/-! SOUND 11: what is walked. -/
namespace PySem
open Sem (wp)
/-- enumerate over anything that begins, from nought -/
theorem czEnumNew {v : Value} {o : Obj} {Z : Heap → Prop} (B : Begins v o Z) : Meets (Builtin.«enumerate.__new__» ⟨[.type "enumerate", v], []⟩) (fun _ R z => Z z.heap ∧
    R (.ok (.ret (.ref (z.heap.push o).objs.size))) { z with heap := (z.heap.push o).push { cls := .type "enumerate", data := .fields #[.none, .bool false, .ref z.heap.objs.size, rawInt 0, .none, .none] } }) :=
  .of_wp fun prog w A R z hz => by
    obtain ⟨hp, gg, dd, tt, oo⟩ := z
    obtain ⟨h1, hR⟩ := hz
    have hsb := sub_enumerate
    have it : ∀ {A' : Around} {E' : Value → Shared → Prop} {Q' : Value → Shared → Prop}, Q' (.ref hp.objs.size) ⟨hp.push o, gg, dd, tt, oo⟩ → wpAny (model prog w) A' (pyIter v) Q' E' ⟨hp, gg, dd, tt, oo⟩ :=
      fun q => B.iter prog w _ _ ⟨hp, gg, dd, tt, oo⟩ _ h1 q
    wp_walk using it
    refine wpAny_stack_any fun stk => wpAny_pure ?_
    split
    · rename_i cc _ _ _ _ _
      cases (cc == Value.type "enumerate") <;> (wp_walk using it; exact ⟨_, rfl, hR⟩)
    · (wp_walk using it; exact ⟨_, rfl, hR⟩)
theorem czEnumCall {prog : Program} {w : World} {A : Around} {E : Value → Shared → Prop} {z : Shared} {v : Value} {o : Obj} {Z : Heap → Prop} {Q : Value → Shared → Prop} (B : Begins v o Z) (h1 : Z z.heap)
    (k : ∀ g, IsEnum g (z.heap.objs.size + 1) z.heap.objs.size 0 .none → g.get? z.heap.objs.size = some o → (∀ b u, z.heap.get? b = some u → g.get? b = some u) → Q (.ref (z.heap.objs.size + 1)) { z with heap := g }) :
    wpAny (model prog w) A (call (.type "enumerate") [v]) Q E z := by
  refine callType_new F.called_enumerate (by decide) (F.typeCall_enumerate_1 _) (F.newCall_enumerate_1 _) (fun ob => F.args_object_init_2 ob _) F.entry_enumerate_new (czEnumNew B) ⟨h1, ?_⟩
  have sz : (z.heap.push o).objs.size = z.heap.objs.size + 1 := Heap.size_push ..
  show _ ∧ _
  rw [sz]
  have en : IsEnum ((z.heap.push o).push { cls := .type "enumerate", data := .fields #[.none, .bool false, .ref z.heap.objs.size, rawInt 0, .none, .none] }) (z.heap.objs.size + 1) z.heap.objs.size 0 .none := by
    have t := Heap.get?_push_size (z.heap.push o) (o := { cls := .type "enumerate", data := .fields #[.none, .bool false, .ref z.heap.objs.size, rawInt 0, .none, .none] }) rfl
    rw [sz] at t
    exact t
  exact ⟨⟨_, en, rfl⟩, k _ en (Heap.get?_push_of_some _ (Heap.get?_push_size _ B.free)) fun b u x => Heap.get?_push_of_some _ (Heap.get?_push_of_some _ x)⟩
end PySem
namespace Cs
open PySem L2 Cz PyProof.Rows
/-- a tuple's items with their numbers -/
def Itet (K : PySem.W.Frag) (a : Addr) : L2.It where
  go := fun i H => ∃ (xs : List V) (x : V), SqT K H a xs ∧ xs[i]? = some x
  yld := fun i H v H' => ∃ T x, v = .ref T ∧ H T = none ∧ H' = upd H T (.tup [.int (i : Nat), x]) ∧ ∀ ys, SqT K H a ys → ys[i]? = some x
  stop := fun i H => ∃ xs : List V, SqT K H a xs ∧ xs.length = i
theorem tupApart {h : Heap} {a b c : Addr} {its : Array Value} {i : Nat} (t : h.IsTuple a its) (q : h.IsTupleIter b c i) : a ≠ b := fun z => by
  obtain ⟨o, h1, h2, _⟩ := t
  obtain ⟨u, g1, g2, _⟩ := q
  rw [z, g1] at h1
  cases h1
  rw [g2] at h2
  have w : ("tuple_iterator" : String) = "tuple" := Value.type.inj h2
  exact absurd w (by decide)
theorem tupApartE {h : Heap} {a b c : Addr} {its : Array Value} {i : Int} {old : Value} (t : h.IsTuple a its) (q : IsEnum h b c i old) : a ≠ b := fun z => by
  obtain ⟨o, h1, h2, _⟩ := t
  have q' : h.get? b = some _ := q
  rw [z, q'] at h1
  cases h1
  have w : ("enumerate" : String) = "tuple" := Value.type.inj h2
  exact absurd w (by decide)
theorem turn_enumT {P : Program} {w : World} {K : PySem.W.Frag} {elts : List Expr} {kk : Nat} {tpos : Pos} (a e it : Addr) :
    Turn P w K (.Tuple elts kk tpos) (Itet K a) [e, it] e (fun i h => (∃ old, IsEnum h e it ((i : Nat) : Int) old) ∧ h.IsTupleIter it a i ∧ e ≠ it) where
  mem := List.mem_cons_self
  obj := fun i h tn b hb => by
    obtain ⟨⟨old, en⟩, ⟨o, ho, hc, hd⟩, _⟩ := tn
    rcases List.mem_cons.mp hb with z | z
    · rw [z]; exact ⟨_, en, fun v q => nomatch q⟩
    · rw [List.mem_singleton.mp z]; exact ⟨o, ho, fun v q => by rw [hd] at q; cases q⟩
  keep := fun i h g tn k => let ⟨⟨old, en⟩, ti, ne⟩ := tn; ⟨⟨old, k e List.mem_cons_self _ en⟩, ti.at fun o q => k it (List.mem_cons_of_mem _ List.mem_cons_self) o q, ne⟩
  item := by
    intro X eP ew eK hc i pins z σ H E I fp tn go
    subst eP ew eK
    obtain ⟨⟨old, en⟩, ti, ne⟩ := tn
    obtain ⟨xs, x, sq, hx⟩ := go
    obtain ⟨its, rv, it1, lz⟩ := I.tuple sq
    obtain ⟨u, hu, ru⟩ := rv.get hx
    have a1 : a ≠ it := tupApart it1 ti
    have a2 : a ≠ e := tupApartE it1 en
    have le : e < z.heap.objs.size := Heap.lt_size en
    have li : it < z.heap.objs.size := by obtain ⟨_, q, _⟩ := ti; exact Heap.lt_size q
    have lt : i < its.length := (List.getElem?_eq_some_iff.mp hu).1
    have D := Draws.tuple (prog := X.prog) (w := X.w) (A := X.A.in1) (I.ok.hd hc) it a a1 its.toArray
    refine wpAny_pyNext_enum_itemD D en ⟨ti, it1⟩ (by simpa using lt) ne (by simp [ne, Ne.symm a2]) fun y g tk py eo st' gT gs gk => ?_
    have ey : y = u := by
      have q : its.toArray[i]? = some y := py
      have q' : its[i]? = some y := by simpa using q
      rw [hu] at q'
      exact (Option.some.inj q').symm
    subst ey
    refine ⟨_, rfl, wpAny_letOwnedTupleGo_enum (s := { z with heap := g, toks := tk + 1 }) eo fun g2 en2 sb => ?_⟩
    have gT2 : g2.get? z.heap.objs.size = some { cls := .type "tuple", data := .seq #[.int i tk, y] } := (sb.2 _ (Nat.ne_of_gt le)).trans gT
    have new : ObjOk X.prog X.w (upd H z.heap.objs.size (.tup [.int (i : Nat), x])) g2 z.heap.objs.size (.tup [.int (i : Nat), x]) :=
      ⟨by show 2 ≤ sizeLine; decide, [.int i tk, y], .cons ⟨_, rfl⟩ (.cons ru .nil), ⟨_, gT2, rfl, _, rfl⟩⟩
    have I2 : Inv X pins σ (upd H z.heap.objs.size (.tup [.int (i : Nat), x])) { z with heap := g2, toks := tk + 1 } :=
      I.turnedNew (ch := [e, it]) (fun b ob hb q => (sb.2 b (fun y => hb (by simp [y]))).trans (gk b ob (fun y => hb (by simp [y])) (fun y => hb (by simp [y])) q)) fp (Nat.le_refl _) new
    refine ⟨.ref z.heap.objs.size, _, I2, rfl, ⟨_, x, rfl, I.hok.fresh (Nat.le_refl _), rfl, fun ys hy => by rw [I.tuple_inj hy sq]; exact hx⟩, ⟨⟨y, ?_⟩, st'.1.at fun o q => (sb.2 it (Ne.symm ne)).trans q, ne⟩, fun b hb => ?_⟩
    · rw [show ((i + 1 : Nat) : Int) = (i : Int) + 1 by omega]
      exact en2
    · have lb : b < z.heap.objs.size := by
        rcases List.mem_cons.mp hb with y | y
        · rw [y]; exact le
        · rw [List.mem_singleton.mp y]; exact li
      rw [upd_ne (Nat.ne_of_lt lb)]
      exact (fp b hb).1
  done := by
    intro X eP ew eK hc i pins z σ H E I fp tn st
    subst eP ew eK
    obtain ⟨⟨old, en⟩, ti, ne⟩ := tn
    obtain ⟨xs, sq, hx⟩ := st
    obtain ⟨its, rv, it1, lz⟩ := I.tuple sq
    have a1 : a ≠ it := tupApart it1 ti
    obtain ⟨f0, f1, f2, f3, f4, f5⟩ := fp it (List.mem_cons_of_mem _ List.mem_cons_self)
    have hl := rv.length
    have D := Draws.tuple (prog := X.prog) (w := X.w) (A := X.A.in1) (I.ok.hd hc) it a a1 its.toArray
    have e : its.toArray.size = i := by
      rw [List.size_toArray]
      omega
    refine wpAny_pyNext_enum_endD D en (e ▸ ⟨ti, it1⟩) fun g eb => ⟨rfl, I.turned (t' := z.toks) (fun b ob hb q => eb b ob hb q) f0 f1 f3 f4 f5⟩
  self := fun A i z Q E tn k => let ⟨⟨_, en⟩, _⟩ := tn; wpAny_pyIter_enum en k
end Cs
end
section
set_option Elab.async false
set_option linter.all false
set_option maxRecDepth 100000
set_option maxHeartbeats 4000000
/-! SOUND 12: stores; targets; what is walked, by data. -/
namespace Cs
open PySem L2 Cz PyProof.Rows
section
variable {K : PySem.W.Frag} {w : World} {B : Bas} {F H F' H' : Hp} {σ : List (Option V)} {ρ : List Sl}
/-- what may stand in a slot -/
def SlOk (K : PySem.W.Frag) (w : World) (B : Bas) (F H : Hp) (σ : List (Option V)) (ρ : List Sl) (i : Nat) (y : Option V) : Sl → Prop
  | .no => True
  | .exn _ => True
  | .d x => ∃ v, y = some v ∧ DV K w F v x
  | .own l xs => l = false ∧ ∃ p vs, y = some (V.ref p) ∧ F p = none ∧ H p = some (.lst vs) ∧ DVs K w F vs xs ∧ xs.length ≤ Lim ∧ B.H0 p = none ∧ ∀ (j : Nat) (l : Bool) (ys : List D), j ≠ i → ρ[j]? = some (Sl.own l ys) → σ[j]? ≠ some (some (V.ref p))
theorem vset1 (σ : List (Option V)) (i j : Nat) (y z : Option V) : (σ.set i y)[j]? = some z ↔ (if i = j then (i < σ.length ∧ y = z) else σ[j]? = some z) := by
  by_cases h : i = j
  · subst h
    rw [if_pos rfl, List.getElem?_set_self']
    by_cases hl : i < σ.length
    · rw [List.getElem?_eq_getElem hl]; simp [hl]
    · rw [List.getElem?_eq_none (by omega)]; simp [hl]
  · rw [if_neg h, List.getElem?_set_ne h]
theorem Rep.store {i : Nat} {y : Option V} {z : Sl} (r : Rep K w B F H σ ρ) (hf : free ρ i = true) (h : SlOk K w B F H σ ρ i y z) : Rep K w B F H (σ.set i y) (ρ.set i z) := by
  have hlt : i < ρ.length := by
    unfold free at hf
    split at hf
    · cases hf
    · rename_i e; exact (List.getElem?_eq_some_iff.mp e).1
    · cases hf
  have hnl : ∀ xs, ρ[i]? ≠ some (Sl.own true xs) := fun xs e => by
    unfold free at hf
    rw [e] at hf
    cases hf
  exact {
    fe := r.fe
    fh := r.fh
    len := by rw [List.length_set, List.length_set]; exact r.len
    dat := fun j x e => by
      rw [pset1] at e
      split at e
      · rename_i e1
        subst e1
        rw [e.2] at h
        obtain ⟨v, e2, dv⟩ := h
        exact ⟨v, by rw [vset1, if_pos rfl]; exact ⟨by rw [r.len]; exact hlt, e2⟩, dv⟩
      · rename_i e1
        obtain ⟨v, e2, dv⟩ := r.dat j x e
        exact ⟨v, by rw [vset1, if_neg e1]; exact e2, dv⟩
    own := fun j l xs e => by
      rw [pset1] at e
      split at e
      · rename_i e1
        subst e1
        rw [e.2] at h
        obtain ⟨hl, p, vs, e2, f1, h1, d1, l1, b1, _⟩ := h
        subst hl
        exact ⟨p, vs, by rw [vset1, if_pos rfl]; exact ⟨by rw [r.len]; exact hlt, e2⟩, f1, h1, d1, l1, fun _ => b1, fun z => by cases z⟩
      · rename_i e1
        obtain ⟨p, vs, e2, q⟩ := r.own j l xs e
        exact ⟨p, vs, by rw [vset1, if_neg e1]; exact e2, q⟩
    apart := fun j k l l' xs ys p ej ek sj sk => by
      rw [pset1] at ej ek
      rw [vset1] at sj sk
      by_cases e1 : i = j
      · by_cases e2 : i = k
        · rw [← e1, ← e2]
        · rw [if_pos e1] at ej sj
          rw [if_neg e2] at ek sk
          rw [ej.2] at h
          obtain ⟨_, p', vs, e3, _, _, _, _, _, n⟩ := h
          rw [sj.2] at e3
          cases e3
          exact absurd sk (n k l' ys (fun z => e2 z.symm) ek)
      · by_cases e2 : i = k
        · rw [if_neg e1] at ej sj
          rw [if_pos e2] at ek sk
          rw [ek.2] at h
          obtain ⟨_, p', vs, e3, _, _, _, _, _, n⟩ := h
          rw [sk.2] at e3
          cases e3
          exact absurd sj (n j l xs (fun z => e1 z.symm) ej)
        · rw [if_neg e1] at ej sj
          rw [if_neg e2] at ek sk
          exact r.apart j k l l' xs ys p ej ek sj sk
    lent := fun q hq => by
      obtain ⟨⟨xs, hx⟩, hs⟩ := r.lent q hq
      have ne : i ≠ q.1 := fun e => hnl xs (by rw [e]; exact hx)
      exact ⟨⟨xs, by rw [pset1, if_neg ne]; exact hx⟩, by rw [vset1, if_neg ne]; exact hs⟩
    frame := r.frame
    mask := r.mask }
/-- a slot's part: only what is read -/
theorem free_set {i j : Nat} {z : Sl} (h : free ρ j = true) (hz : ∀ xs, z ≠ .own true xs) : free (ρ.set i z) j = true := by
  unfold free at h ⊢
  by_cases e : i = j
  · subst e
    by_cases hl : i < ρ.length
    · rw [List.getElem?_set_self hl]
      cases z with
      | own l xs => cases l with
        | true => exact absurd rfl (hz xs)
        | false => rfl
      | _ => rfl
    · rw [List.getElem?_eq_none (by rw [List.length_set]; omega)]
      rw [List.getElem?_eq_none (by omega)] at h
      exact h
  · rw [List.getElem?_set_ne e]; exact h
end
section
variable (K : PySem.W.Frag) (w : World) (B : Bas)
/-- a value of data goes to slots -/
def tGt (t : List Nat) : TG := fun v σ H Q => ∃ F ρ d ρ', Rep K w B F H σ ρ ∧ DV K w F v d ∧ bindT ρ t d = some ρ' ∧ ∀ σ', Rep K w B F H σ' ρ' → σ'.length = σ.length → (∀ j, j ∉ t → σ'[j]? = σ[j]?) → Q σ' H
def tGts (t : List Nat) : TGs := fun vs σ H Q => ∃ F ρ ds ρ', Rep K w B F H σ ρ ∧ DVs K w F vs ds ∧ Cz.putAll ρ t ds = some ρ' ∧ ∀ σ', Rep K w B F H σ' ρ' → σ'.length = σ.length → (∀ j, j ∉ t → σ'[j]? = σ[j]?) → Q σ' H
end
theorem put_d {ρ ρ' : List Sl} {i : Nat} {d : D} (h : put ρ i (.p d) = some ρ') : free ρ i = true ∧ ρ' = ρ.set i (.d d) := by
  unfold put at h
  split at h
  · rename_i f
    cases h
    exact ⟨f, rfl⟩
  · cases h
theorem put_f {ρ ρ' : List Sl} {i : Nat} {xs : List D} (h : put ρ i (.f xs) = some ρ') : free ρ i = true ∧ ρ' = ρ.set i (.own false xs) := by
  unfold put at h
  split at h
  · rename_i f
    cases h
    exact ⟨f, rfl⟩
  · cases h
section
variable {X : Cx} {B : Bas}
theorem _root_.L2.PG.imp {e : Expr} {t t' : TG} (h : PG X e t) (i : ∀ v σ H Q, t' v σ H Q → t v σ H Q) : PG X e t' := ⟨fun pins s σ H v u Q I r q => h.run pins s σ H v u Q I r (i v σ H Q q)⟩
theorem _root_.L2.PGs.imp {e : List Expr} {t t' : TGs} (h : PGs X e t) (i : ∀ v σ H Q, t' v σ H Q → t v σ H Q) : PGs X e t' := ⟨fun pins s σ H v u Q I r q => h.run pins s σ H v u Q I r (i v σ H Q q)⟩
theorem _root_.L2.PI.imp {tg e : Expr} {t t' : TI} (h : PI X tg e t) (i : ∀ σ H Q, t' σ H Q → t σ H Q) : PI X tg e t' := ⟨fun pins s σ H Q I q => h.run pins s σ H Q I (i σ H Q q)⟩
theorem _root_.L2.PS.imp {e : Stmt} {t t' : TS} (h : PS X e t) (i : ∀ D σ H, t' D σ H → t D σ H) : PS X e t' := ⟨fun pins s σ H D I q => h.run pins s σ H D I (i D σ H q)⟩
theorem _root_.L2.PSs.imp {e : List Stmt} {t t' : TS} (h : PSs X e t) (i : ∀ D σ H, t' D σ H → t D σ H) : PSs X e t' := ⟨fun pins s σ H D I q => h.run pins s σ H D I (i D σ H q)⟩
theorem sG_one (hN : X.N.Nodup) {i : Nat} {x : Str} {pos : Pos} (hi : X.N[i]? = some x) (hx : Loc X.env.scope x) (hf : X.fn x = true ∨ X.env.scope.names.lookup x = some .local) : PG X (.Name x pos) (tGt X.K X.w B [i]) := by
  refine (pg_name hN hi hx hf).imp fun v σ H Q h => ?_
  obtain ⟨F, ρ, d, ρ', r, dv, hb, q⟩ := h
  have hp : put ρ i (.p d) = some ρ' := by
    unfold bindT at hb
    exact hb
  obtain ⟨f, e⟩ := put_d hp
  subst e
  exact q _ (r.store f ⟨v, rfl, dv⟩) (by rw [List.length_set]) fun j hj => List.getElem?_set_ne (by intro e; exact hj (by simp [e]))
theorem sGs_nil : PGs X [] (tGts X.K X.w B []) := by
  refine pgs_nil.imp fun vs σ H Q h => ?_
  obtain ⟨F, ρ, ds, ρ', r, dv, hb, q⟩ := h
  cases ds with
  | nil =>
    cases hb
    cases dv
    exact ⟨rfl, q σ r rfl fun _ _ => rfl⟩
  | cons d ds => cases hb
theorem sGs_cons (hN : X.N.Nodup) {i : Nat} {x : Str} {pos : Pos} {es : List Expr} {t : List Nat} (hi : X.N[i]? = some x) (hx : Loc X.env.scope x) (hf : X.fn x = true ∨ X.env.scope.names.lookup x = some .local) (hs : PGs X es (tGts X.K X.w B t)) : PGs X (.Name x pos :: es) (tGts X.K X.w B (i :: t)) := by
  refine (pgs_cons (pg_name hN hi hx hf) hs rfl).imp fun vs σ H Q h => ?_
  obtain ⟨F, ρ, ds, ρ', r, dv, hb, q⟩ := h
  cases ds with
  | nil => cases hb
  | cons d ds =>
    cases dv with
    | cons dv dvs =>
      unfold Cz.putAll at hb
      obtain ⟨ρ1, hp, hb⟩ := Option.bind_eq_some_iff.mp hb
      obtain ⟨f, e⟩ := put_d hp
      subst e
      refine ⟨_, _, rfl, F, _, ds, ρ', r.store (z := .d d) f ⟨_, rfl, dv⟩, dvs, hb, fun σ' r' l' k' => q σ' r' (by rw [l', List.length_set]) fun j hj => ?_⟩
      rw [k' j (fun z => hj (by simp [z])), List.getElem?_set_ne (by intro e; exact hj (by simp [e]))]
/-- the names of a target -/
inductive Nms (X : Cx) : List Expr → List Nat → Prop
  | nil : Nms X [] []
  | cons {i : Nat} {x : Str} {pos : Pos} {es : List Expr} {t : List Nat} : X.N[i]? = some x → Loc X.env.scope x → (X.fn x = true ∨ X.env.scope.names.lookup x = some .local) → Nms X es t → Nms X (.Name x pos :: es) (i :: t)
theorem Nms.pgs (hN : X.N.Nodup) : ∀ {es : List Expr} {t : List Nat}, Nms X es t → PGs X es (tGts X.K X.w B t)
  | _, _, .nil => sGs_nil
  | _, _, .cons a b c d => sGs_cons hN a b c (Nms.pgs hN d)
theorem Nms.len : ∀ {es : List Expr} {t : List Nat}, Nms X es t → (assignEach es X.env).length = t.length ∧ (assignEach es X.env).findIdx? (·.1) = none
  | _, _, .nil => ⟨rfl, rfl⟩
  | _, _, .cons (x := x) (pos := pos) (es := es) a b c d => by
    obtain ⟨h1, h2⟩ := Nms.len d
    refine ⟨by show (assignEach es X.env).length + 1 = _; rw [h1]; rfl, ?_⟩
    show List.findIdx? _ ((false, assign (.Name x pos) X.env) :: assignEach es X.env) = none
    rw [List.findIdx?_cons]
    simp [h2]
theorem putAll_len : ∀ {t : List Nat} {ds : List D} {ρ ρ' : List Sl}, Cz.putAll ρ t ds = some ρ' → ds.length = t.length
  | [], [], _, _, _ => rfl
  | i :: t, d :: ds, ρ, ρ', h => by
    unfold Cz.putAll at h
    obtain ⟨ρ1, hp, hb⟩ := Option.bind_eq_some_iff.mp h
    rw [List.length_cons, List.length_cons, putAll_len hb]
  | [], _ :: _, _, _, h => by cases h
  | _ :: _, [], _, _, h => by cases h
theorem sG_tup (hN : X.N.Nodup) (hc : X.calm = true) {es : List Expr} {t : List Nat} {k : Nat} {pos : Pos} (h : Nms X es t) (ht : 2 ≤ t.length) : PG X (.Tuple es k pos) (tGt X.K X.w B t) := by
  refine (pg_tup hc (h.pgs (B := B) hN) h.len.1 h.len.2).imp fun v σ H Q h => ?_
  obtain ⟨F, ρ, d, ρ', r, dv, hb, q⟩ := h
  match t, ht, hb, q with
  | i :: j :: t, _, hb, q =>
    cases dv with
    | tup sq dvs _ =>
      have hb' : Cz.putAll ρ (i :: j :: t) _ = some ρ' := hb
      exact ⟨_, _, rfl, r.fh.t sq.1, by rw [dvs.length, putAll_len hb'], F, ρ, _, ρ', r, dvs, hb', q⟩
    | _ => cases hb
end

/-! ### what is walked -/
/-- an iterator that hands out these data -/
def ItOk (K : PySem.W.Frag) (w : World) (F : Hp) (J : L2.It) (ds : List D) : Prop := ∀ F' H', Ex F F' → Ex F' H' →
  (∀ i d, ds[i]? = some d → J.go i H' ∧ ∀ x H2, J.yld i H' x H2 → ∃ F2, Grow F' H' F2 H2 ∧ DV K w F2 x d) ∧ J.stop ds.length H'
section
variable (G : Fx) (K : PySem.W.Frag) (w : World) (B : Bas)
def tI (it : Cz.It) : TI := fun σ H R => ∃ F ρ ds ρ', Rep K w B F H σ ρ ∧ evIt G.M G.C it ρ = some (ds, ρ') ∧ ∀ J F' H', Ex F F' → Rep K w B F' H' σ ρ' → ds.length ≤ Lim → ItOk K w F' J ds → R J H'
end
section
variable {K : PySem.W.Frag} {w : World} {F : Hp}
theorem itok_list {a : Addr} {vs : List V} {ds : List D} (h : SqL K F a vs) (q : DVs K w F vs ds) : ItOk K w F (Itl K a) ds := fun F' H' e1 e2 => by
  have h2 := (e1.trans e2).l h
  refine ⟨fun i d hd => ?_, ⟨vs, h2, by rw [q.length]; exact Nat.le_refl _⟩⟩
  obtain ⟨v, hv, dv⟩ := q.get hd
  refine ⟨⟨vs, v, h2, hv⟩, fun x H2 hy => ?_⟩
  obtain ⟨rfl, hx⟩ := hy
  have e := hx vs h2
  rw [hv] at e
  cases e
  exact ⟨F', .refl e2, dv.mono e1⟩
theorem itok_tup {a : Addr} {vs : List V} {ds : List D} (h : SqT K F a vs) (q : DVs K w F vs ds) : ItOk K w F (Itt K a) ds := fun F' H' e1 e2 => by
  have h2 := (e1.trans e2).t h
  refine ⟨fun i d hd => ?_, ⟨vs, h2, by rw [q.length]; exact Nat.le_refl _⟩⟩
  obtain ⟨v, hv, dv⟩ := q.get hd
  refine ⟨⟨vs, v, h2, hv⟩, fun x H2 hy => ?_⟩
  obtain ⟨rfl, hx⟩ := hy
  have e := hx vs h2
  rw [hv] at e
  cases e
  exact ⟨F', .refl e2, dv.mono e1⟩
theorem itok_str {s : List Nat} (h : sOk s = true) : ItOk K w F (Its (st s)) (s.map fun c => .str [c]) := fun F' H' e1 e2 => by
  refine ⟨fun i d hd => ?_, by show (st s).cps.size ≤ _; simp⟩
  rw [List.getElem?_map] at hd
  obtain ⟨c, hc, rfl⟩ := Option.map_eq_some_iff.mp hd
  refine ⟨by show i < (st s).cps.size; exact by simpa using (List.getElem?_eq_some_iff.mp hc).1, fun x H2 hy => ?_⟩
  obtain ⟨rfl, c', hc', rfl⟩ := hy
  have e : c' = c := by
    have h2 : s[i]? = some c' := by simpa using hc'
    rw [hc] at h2
    exact (Option.some.inj h2).symm
  subst e
  refine ⟨F', .refl e2, .str [c'] ?_⟩
  unfold sOk at h ⊢
  rw [Bool.and_eq_true] at h
  have := List.all_eq_true.mp h.2 c' (List.mem_of_getElem? hc)
  simpa using this
theorem ints_get (lo : Int) (n i : Nat) : (Cz.intsD lo n)[i]? = if i < n then some (.int (lo + i)) else none := by
  unfold Cz.intsD
  rw [List.getElem?_map]
  by_cases h : i < n
  · rw [if_pos h, List.getElem?_range h]; rfl
  · rw [if_neg h, List.getElem?_eq_none (by rw [List.length_range]; omega)]; rfl
theorem ints_len (lo : Int) (n : Nat) : (Cz.intsD lo n).length = n := by simp [Cz.intsD]
theorem itok_ints (lo : Int) (n : Nat) : ItOk K w F (Itr lo n) (Cz.intsD lo n) := fun F' H' e1 e2 => by
  refine ⟨fun i d hd => ?_, by show n ≤ _; rw [ints_len]; exact Nat.le_refl _⟩
  rw [ints_get] at hd
  split at hd
  · rename_i lt
    cases hd
    refine ⟨lt, fun x H2 hy => ?_⟩
    obtain ⟨rfl, rfl⟩ := hy
    exact ⟨F', .refl e2, .int _⟩
  · cases hd
theorem enum_get : ∀ (k : Nat) (ds : List D) (i : Nat), (enumFrom k ds)[i]? = (ds[i]?).map fun d => .tup [.int ((k + i : Nat) : Int), d]
  | k, [], i => by simp [enumFrom]
  | k, d :: r, 0 => by simp [enumFrom]
  | k, d :: r, i + 1 => by
    unfold enumFrom
    rw [List.getElem?_cons_succ, List.getElem?_cons_succ, enum_get (k + 1) r i]
    congr 1
    funext z
    rw [show k + 1 + i = k + (i + 1) by omega]
theorem enum_len : ∀ (k : Nat) (ds : List D), (enumFrom k ds).length = ds.length
  | _, [] => rfl
  | k, d :: r => by unfold enumFrom; rw [List.length_cons, List.length_cons, enum_len]
theorem pair_ok {F' H' : Hp} {T : Addr} {i : Nat} {v : V} {d : D} (e2 : Ex F' H') (hT : H' T = none) (dv : DV K w F' v d) : ∃ F2, Grow F' H' F2 (upd H' T (.tup [.int (i : Nat), v])) ∧ DV K w F2 (.ref T) (.tup [.int (i : Nat), d]) := by
  have g := Grow.data (o := .tup [.int (i : Nat), v]) e2 hT
  exact ⟨_, g, .tup ⟨SqT.of upd_same, .inl rfl⟩ (.cons (.int _) (.cons (dv.mono g.f) .nil)) (by show 2 ≤ 100000; decide)⟩
theorem itok_enum {a : Addr} {vs : List V} {ds : List D} (h : SqL K F a vs) (q : DVs K w F vs ds) : ItOk K w F (Ite K a) (enumFrom 0 ds) := fun F' H' e1 e2 => by
  have h2 := (e1.trans e2).l h
  refine ⟨fun i d hd => ?_, ⟨vs, h2, by rw [q.length, enum_len]; exact Nat.le_refl _⟩⟩
  rw [enum_get] at hd
  obtain ⟨d0, hd0, rfl⟩ := Option.map_eq_some_iff.mp hd
  obtain ⟨v, hv, dv⟩ := q.get hd0
  refine ⟨⟨vs, v, h2, hv⟩, fun x H2 hy => ?_⟩
  obtain ⟨T, x', rfl, hT, rfl, hx⟩ := hy
  have e := hx vs h2
  rw [hv] at e
  cases e
  rw [Nat.zero_add]
  exact pair_ok e2 hT (dv.mono e1)
theorem itok_enumT {a : Addr} {vs : List V} {ds : List D} (h : SqT K F a vs) (q : DVs K w F vs ds) : ItOk K w F (Itet K a) (enumFrom 0 ds) := fun F' H' e1 e2 => by
  have h2 := (e1.trans e2).t h
  refine ⟨fun i d hd => ?_, ⟨vs, h2, by rw [q.length, enum_len]⟩⟩
  rw [enum_get] at hd
  obtain ⟨d0, hd0, rfl⟩ := Option.map_eq_some_iff.mp hd
  obtain ⟨v, hv, dv⟩ := q.get hd0
  refine ⟨⟨vs, v, h2, hv⟩, fun x H2 hy => ?_⟩
  obtain ⟨T, x', rfl, hT, rfl, hx⟩ := hy
  have e := hx vs h2
  rw [hv] at e
  cases e
  rw [Nat.zero_add]
  exact pair_ok e2 hT (dv.mono e1)
end
end Cs
end
section
set_option Elab.async false
set_option linter.all false
set_option maxRecDepth 100000
set_option maxHeartbeats 4000000
/-! SOUND 13: the sources of loops. -/
namespace Cs
open PySem L2 Cz PyProof.Rows
section
variable {X : Cx} {G : Fx} {B : Bas} {W : Wi}
/-- a value walked -/
theorem val_it {tg : Expr} {pins : List (Addr × Obj)} {σ : List (Option V)} {F1 H1 : Hp} {s1 : Shared} {R : L2.It → Hp → Prop} {y : V} {v : Value} {d : D} {ds : List D} {ρ' : List Sl} (I1 : Inv X pins σ H1 s1) (r1 : RelV y v) (rp : Rep X.K X.w B F1 H1 σ ρ') (dv : DV X.K X.w F1 y d) (hd : itemsOf d = some ds)
    (q : ∀ J, ds.length ≤ Lim → ItOk X.K X.w F1 J ds → R J H1) : wpAny (model X.prog X.w) X.A (pyIter v) (PIE X pins σ tg R) X.xe s1 := by
  cases dv with
  | tup sq dvs l =>
    cases hd
    cases r1
    obtain ⟨its, rv, p, hz⟩ := I1.tuple (rp.fh.t sq.1)
    refine wpAny_pyIter_tuple (show s1.heap.IsTuple _ its.toArray from p) ?_
    exact pi_one (tk := s1.toks) I1 _ (turn_tuple _ _) ⟨_, Heap.get?_push_size _ rfl, rfl, rfl⟩ (q _ l (itok_tup sq.1 dvs))
  | lst sq dvs l =>
    cases hd
    cases r1
    obtain ⟨its, rv, p, hz⟩ := I1.list (rp.fh.l sq)
    refine wpAny_pyIter_list p.isList ?_
    exact pi_one (tk := s1.toks) I1 _ (turn_list _ _) ⟨_, Heap.get?_push_size _ rfl, rfl, rfl⟩ (q _ l (itok_list sq dvs))
  | str s ok =>
    cases hd
    obtain ⟨t, rfl⟩ := r1
    have l : (s.map fun c => D.str [c]).length ≤ Lim := by
      rw [List.length_map]
      unfold sOk at ok
      rw [Bool.and_eq_true] at ok
      exact of_decide_eq_true ok.1
    have k := q _ l (itok_str ok)
    cases ha : (st s).cps.all (· < 128)
    · exact wpAny_pyIter_wide ha (pi_one (tk := s1.toks) I1 _ (turn_str _ (st s) t "str_iterator" (.inr rfl)) ⟨_, Heap.get?_push_size _ rfl, rfl, rfl⟩ k)
    · exact wpAny_pyIter_ascii ha (pi_one (tk := s1.toks) I1 _ (turn_str _ (st s) t "str_ascii_iterator" (.inl rfl)) ⟨_, Heap.get?_push_size _ rfl, rfl, rfl⟩ k)
  | non => cases hd
  | bl b => cases hd
  | int i => cases hd
  | dct a b => cases hd
/-- an expression's value let go -/
theorem tE_go {e : Cz.E} {σ : List (Option V)} {H : Hp} {F : Hp} {ρ ρ1 : List Sl} {v : Val} {Q : VK} (r : Rep X.K X.w B F H σ ρ) (h1 : evE G.M G.C e ρ = .ok v ρ1)
    (q : ∀ y F1 H1, Ex F F1 → Rep X.K X.w B F1 H1 σ ρ1 → Kp X.K X.w F1 σ (fz v) y → Q y H1) : tE G X.K X.w B W e σ H Q := by
  refine ⟨F, ρ, r, ?_⟩
  rw [h1]
  intro y F1 H1 e1 r1 ev
  obtain ⟨F2, e2, r2, k2⟩ := ev.fz r1
  exact q y F2 H1 (e1.trans e2) r2 k2
theorem sI_val {tg ie : Expr} {e : Cz.E} (he : PE X ie (tE G X.K X.w B W e)) : PI X tg ie (tI G X.K X.w B (.val e)) := by
  refine ⟨fun pins s σ H R I h => ?_⟩
  obtain ⟨F, ρ, ds, ρ', r, hev, q⟩ := h
  unfold evIt at hev
  cases h1 : evE G.M G.C e ρ with
  | ok v ρ1 =>
    rw [h1] at hev
    simp only at hev
    cases h2 : fz v with
    | p d =>
      rw [h2] at hev
      obtain ⟨ds', hds, e2⟩ := Option.map_eq_some_iff.mp hev
      cases e2
      refine thn (he.run pins s σ H (fun y H1 => ∃ F1, Ex F F1 ∧ Rep X.K X.w B F1 H1 σ ρ' ∧ DV X.K X.w F1 y d) I (tE_go r h1 fun y F1 H1 e1 r1 k => ⟨F1, e1, r1, by rw [h2] at k; exact k⟩)) fun v1 s1 ⟨y, H1, I1, r1, F1, e1, rep1, dv⟩ => ?_
      exact val_it I1 r1 rep1 dv hds fun J l ok => q J F1 H1 e1 rep1 l ok
    | f xs => rw [h2] at hev; cases hev
    | b i => rw [h2] at hev; cases hev
  | ex x ρ1 => rw [h1] at hev; cases hev
  | bad => rw [h1] at hev; cases hev
theorem sI_r1 {tg ea : Expr} {e : Cz.E} {p pos : Pos} (hg : Gl X "range") (hm : X.mg "range" = none) (hs : starEach [ea] X.env = [(false, eval ea X.env)]) (he : PE X ea (tE G X.K X.w B W e)) : PI X tg (.Call (.Name "range" p) [ea] [] pos) (tI G X.K X.w B (.r1 e)) := by
  refine (pi_range1 (ta := tEs G X.K X.w B W (.cons e .nil)) hg hm (sA_cons he sA_nil hs) hs).imp fun σ H R h => ?_
  obtain ⟨F, ρ, ds, ρ', r, hev, q⟩ := h
  unfold evIt at hev
  refine ⟨F, ρ, r, ?_⟩
  split at hev
  · rename_i n ρ1 h1
    split at hev
    · rename_i hn
      cases hev
      unfold evEs
      rw [h1]
      intro xs F1 H1 e1 r1 k1
      cases k1 with
      | cons k k1 =>
        cases k1
        have k : DV X.K X.w F1 _ (.int n) := k
        cases k
        refine ⟨n, rfl, by omega, by omega, q _ F1 H1 e1 r1 (by rw [ints_len]; show n.toNat ≤ 100000; omega) (itok_ints 0 n.toNat)⟩
    · cases hev
  · cases hev
theorem sI_r2 {tg ea eb : Expr} {a b : Cz.E} {p pos : Pos} (hg : Gl X "range") (hm : X.mg "range" = none) (hs : starEach [ea, eb] X.env = [(false, eval ea X.env), (false, eval eb X.env)]) (hs2 : starEach [eb] X.env = [(false, eval eb X.env)]) (ha : PE X ea (tE G X.K X.w B W a)) (hb : PE X eb (tE G X.K X.w B W b)) :
    PI X tg (.Call (.Name "range" p) [ea, eb] [] pos) (tI G X.K X.w B (.r2 a b)) := by
  refine (pi_range2 (ta := tEs G X.K X.w B W (.cons a (.cons b .nil))) hg hm (sA_cons ha (sA_cons hb sA_nil hs2) (by rw [hs, hs2])) hs hs2).imp fun σ H R h => ?_
  obtain ⟨F, ρ, ds, ρ', r, hev, q⟩ := h
  unfold evIt at hev
  refine ⟨F, ρ, r, ?_⟩
  split at hev
  · rename_i lo ρ1 h1
    split at hev
    · rename_i hi ρ2 h2
      split at hev
      · rename_i hn
        cases hev
        unfold evEs
        rw [h1]
        simp only
        unfold evEs
        rw [h2]
        simp only
        unfold evEs
        intro xs F1 H1 e1 r1 k1
        cases k1 with
        | cons k k1 =>
          cases k1 with
          | cons k' k1 =>
            cases k1
            have k : DV X.K X.w F1 _ (.int lo) := k
            have k' : DV X.K X.w F1 _ (.int hi) := k'
            cases k
            cases k'
            refine ⟨lo, hi, rfl, ⟨by omega, by omega, by omega, by omega⟩, q _ F1 H1 e1 r1 (by rw [ints_len]; show _ ≤ 100000; omega) (itok_ints _ _)⟩
      · cases hev
    · cases hev
  · cases hev
theorem sI_enum {ie : Expr} {elts : List Expr} {kk : Nat} {tpos p pos : Pos} {e : Cz.E} (hc : X.calm = true) (hg : Gl X "enumerate") (hm : X.mg "enumerate" = none) (hs : starEach [ie] X.env = [(false, eval ie X.env)]) (he : PE X ie (tE G X.K X.w B W e)) :
    PI X (.Tuple elts kk tpos) (.Call (.Name "enumerate" p) [ie] [] pos) (tI G X.K X.w B (.enum e)) := by
  refine ⟨fun pins s σ H R I h => ?_⟩
  obtain ⟨F, ρ, ds, ρ', r, hev, q⟩ := h
  unfold evIt at hev
  cases h1 : evE G.M G.C e ρ with
  | ex x ρ1 => rw [h1] at hev; cases hev
  | bad => rw [h1] at hev; cases hev
  | ok v ρ1 =>
    rw [h1] at hev
    simp only at hev
    have ha := sA_cons (G := G) (B := B) (W := W) he sA_nil hs
    have run := ha.run pos pins s σ H (fun ys H1 => ∃ y F1, ys = [y] ∧ Ex F F1 ∧ Rep X.K X.w B F1 H1 σ ρ1 ∧ Kp X.K X.w F1 σ (fz v) y) I (by
      refine ⟨F, ρ, r, ?_⟩
      unfold evEs
      rw [h1]
      simp only
      unfold evEs
      intro xs F1 H1 e1 r1 k1
      cases k1 with
      | cons k k1 =>
        cases k1
        exact ⟨_, F1, rfl, e1, r1, k⟩)
    refine Call_ (ld_blt I hg hm boot_enumerate (PyProof.Rows.callWith_type1 (thn run fun us s1 ⟨vs, H1, I1, r1, y, F1, ey, e1, rp, k⟩ => ?_) hs rfl))
    subst ey
    cases r1 with
    | cons r1 rr =>
      cases rr
      split at hev
      · rename_i ds0 h2
        cases hev
        rw [h2] at k
        have k : DV X.K X.w F1 _ (.tup ds0) := k
        cases k with
        | @tup ad vs _ sq dvs l =>
          cases r1
          obtain ⟨its, rv, p', hz⟩ := I1.tuple (rp.fh.t sq.1)
          have bg := begins_tuple ad its.toArray
          refine czEnumCall bg p' fun g en st kk => wpAny_pyIter_enum en ?_
          have I2 : Inv X pins σ H1 { s1 with heap := g } := I1.kept (t' := s1.toks) kk
          refine ⟨s1.heap.objs.size + 1, [s1.heap.objs.size + 1, s1.heap.objs.size], _, _, H1, rfl, I2, turn_enumT _ (s1.heap.objs.size + 1) s1.heap.objs.size, ⟨⟨.none, en⟩, ⟨_, st, rfl, rfl⟩, Nat.succ_ne_self _⟩, fun b hb => ?_, q _ F1 H1 e1 rp (by rw [enum_len]; exact l) (itok_enumT sq.1 dvs)⟩
          have hle : s1.heap.objs.size ≤ b := by
            rcases List.mem_cons.mp hb with z | z
            · rw [z]; exact Nat.le_add_right _ _
            · rw [List.mem_singleton.mp z]; exact Nat.le_refl _
          exact I1.fpOk hle (I1.hok.fresh hle)
      · rename_i ds0 h2
        cases hev
        rw [h2] at k
        have k : DV X.K X.w F1 _ (.lst ds0) := k
        cases k with
        | @lst ad vs _ sq dvs l =>
          cases r1
          obtain ⟨its, rv, p', hz⟩ := I1.list (rp.fh.l sq)
          have bg := begins_list ad its.toArray
          refine czEnumCall bg p'.isList fun g en st kk => wpAny_pyIter_enum en ?_
          have I2 : Inv X pins σ H1 { s1 with heap := g } := I1.kept (t' := s1.toks) kk
          refine ⟨s1.heap.objs.size + 1, [s1.heap.objs.size + 1, s1.heap.objs.size], _, _, H1, rfl, I2, turn_enum _ (s1.heap.objs.size + 1) s1.heap.objs.size, ⟨⟨.none, en⟩, ⟨_, st, rfl, rfl⟩, Nat.succ_ne_self _⟩, fun b hb => ?_, q _ F1 H1 e1 rp (by rw [enum_len]; exact l) (itok_enum sq dvs)⟩
          have hle : s1.heap.objs.size ≤ b := by
            rcases List.mem_cons.mp hb with z | z
            · rw [z]; exact Nat.le_add_right _ _
            · rw [List.mem_singleton.mp z]; exact Nat.le_refl _
          exact I1.fpOk hle (I1.hok.fresh hle)
      · cases hev
end
end Cs
end
section
set_option Elab.async false
set_option linter.all false
set_option maxRecDepth 100000
set_option maxHeartbeats 4000000
/-! SOUND 14: comprehensions. -/
namespace Cs
open PySem L2 Cz PyProof.Rows
section
variable {K : PySem.W.Frag} {w : World} {B : Bas} {F H F' H' : Hp} {σ σ' : List (Option V)} {ρ ρ' : List Sl}
/-- slot by slot: as it was, or data, or nothing that counts -/
theorem Rep.per (r : Rep K w B F H σ ρ) (hl : σ'.length = ρ'.length)
    (h : ∀ j : Nat, (ρ'[j]? = ρ[j]? ∧ σ'[j]? = σ[j]?) ∨ ((∀ q ∈ B.L, q.1 ≠ j) ∧ (∀ l xs, ρ'[j]? ≠ some (Sl.own l xs)) ∧ ∀ x, ρ'[j]? = some (Sl.d x) → ∃ v, σ'[j]? = some (some v) ∧ DV K w F v x)) : Rep K w B F H σ' ρ' where
  fe := r.fe
  fh := r.fh
  len := hl
  dat := fun j x e => by
    rcases h j with ⟨a, b⟩ | ⟨_, _, b⟩
    · rw [b]; exact r.dat j x (by rw [← a]; exact e)
    · exact b x e
  own := fun j l xs e => by
    rcases h j with ⟨a, b⟩ | ⟨_, a, _⟩
    · rw [b]; exact r.own j l xs (by rw [← a]; exact e)
    · exact absurd e (a l xs)
  apart := fun i j l l' xs ys p ei ej si sj => by
    rcases h i with ⟨a, b⟩ | ⟨_, a, _⟩
    · rcases h j with ⟨a', b'⟩ | ⟨_, a', _⟩
      · exact r.apart i j l l' xs ys p (by rw [← a]; exact ei) (by rw [← a']; exact ej) (by rw [← b]; exact si) (by rw [← b']; exact sj)
      · exact absurd ej (a' _ _)
    · exact absurd ei (a _ _)
  lent := fun q hq => by
    rcases h q.1 with ⟨a, b⟩ | ⟨n, _, _⟩
    · rw [a, b]; exact r.lent q hq
    · exact absurd rfl (n q hq)
  frame := r.frame
  mask := r.mask
end
theorem wipeC (t : List Nat) : ∀ (ρ : List Sl), (Cz.wipe ρ t).length = ρ.length ∧ ∀ j : Nat, (Cz.wipe ρ t)[j]? = if j ∈ t ∧ j < ρ.length then some .no else ρ[j]? := by
  induction t with
  | nil => intro ρ; exact ⟨rfl, fun j => by simp [Cz.wipe]⟩
  | cons i t ih =>
    intro ρ
    obtain ⟨a, b⟩ := ih (ρ.set i .no)
    refine ⟨by show (Cz.wipe (ρ.set i .no) t).length = _; rw [a, List.length_set], fun j => ?_⟩
    show (Cz.wipe (ρ.set i .no) t)[j]? = _
    rw [b j, List.length_set]
    by_cases hj : j ∈ t ∧ j < ρ.length
    · rw [if_pos hj, if_pos ⟨List.mem_cons_of_mem _ hj.1, hj.2⟩]
    · rw [if_neg hj]
      by_cases e : i = j
      · subst e
        by_cases hl : i < ρ.length
        · rw [if_pos ⟨List.mem_cons_self, hl⟩, List.getElem?_set_self hl]
        · rw [if_neg (fun z => hl z.2), List.getElem?_eq_none (by rw [List.length_set]; omega), List.getElem?_eq_none (by omega)]
      · rw [List.getElem?_set_ne e, if_neg]
        intro z
        rcases List.mem_cons.mp z.1 with y | y
        · exact e y.symm
        · exact hj ⟨y, z.2⟩
theorem wipeV (t : List Nat) : ∀ (σ : List (Option V)), (L2.wipe σ t).length = σ.length ∧ ∀ j : Nat, (L2.wipe σ t)[j]? = if j ∈ t ∧ j < σ.length then some none else σ[j]? := by
  induction t with
  | nil => intro ρ; exact ⟨rfl, fun j => by simp [L2.wipe]⟩
  | cons i t ih =>
    intro σ
    obtain ⟨a, b⟩ := ih σ
    refine ⟨by show ((L2.wipe σ t).set i none).length = _; rw [List.length_set, a], fun j => ?_⟩
    show ((L2.wipe σ t).set i none)[j]? = _
    by_cases e : i = j
    · subst e
      by_cases hl : i < σ.length
      · rw [if_pos ⟨List.mem_cons_self, hl⟩, List.getElem?_set_self (by rw [a]; exact hl)]
      · rw [if_neg (fun z => hl z.2), List.getElem?_eq_none (by rw [List.length_set, a]; omega), List.getElem?_eq_none (by omega)]
    · rw [List.getElem?_set_ne e, b j]
      by_cases hj : j ∈ t ∧ j < σ.length
      · rw [if_pos hj, if_pos ⟨List.mem_cons_of_mem _ hj.1, hj.2⟩]
      · rw [if_neg hj, if_neg]
        intro z
        rcases List.mem_cons.mp z.1 with y | y
        · exact e y.symm
        · exact hj ⟨y, z.2⟩
/-- as it was at t -/
abbrev resto (t : List Nat) (ρ1 ρ : List Sl) : List Sl := t.foldl (fun ρ i => ρ.set i ((ρ1[i]?).getD .no)) ρ
theorem restoC (ρ1 : List Sl) (t : List Nat) : ∀ (ρ : List Sl), (resto t ρ1 ρ).length = ρ.length ∧ ∀ j : Nat, (resto t ρ1 ρ)[j]? = if j ∈ t ∧ j < ρ.length then some ((ρ1[j]?).getD .no) else ρ[j]? := by
  induction t with
  | nil => intro ρ; exact ⟨rfl, fun j => by simp [resto]⟩
  | cons i t ih =>
    intro ρ
    obtain ⟨a, b⟩ := ih (ρ.set i ((ρ1[i]?).getD .no))
    refine ⟨by show (resto t ρ1 (ρ.set i _)).length = _; rw [a, List.length_set], fun j => ?_⟩
    show (resto t ρ1 (ρ.set i _))[j]? = _
    rw [b j, List.length_set]
    by_cases hj : j ∈ t ∧ j < ρ.length
    · rw [if_pos hj, if_pos ⟨List.mem_cons_of_mem _ hj.1, hj.2⟩]
    · rw [if_neg hj]
      by_cases e : i = j
      · subst e
        by_cases hl : i < ρ.length
        · rw [if_pos ⟨List.mem_cons_self, hl⟩, List.getElem?_set_self hl]
        · rw [if_neg (fun z => hl z.2), List.getElem?_eq_none (by rw [List.length_set]; omega), List.getElem?_eq_none (by omega)]
      · rw [List.getElem?_set_ne e, if_neg]
        intro z
        rcases List.mem_cons.mp z.1 with y | y
        · exact e y.symm
        · exact hj ⟨y, z.2⟩
section
variable {K : PySem.W.Frag} {w : World} {B : Bas} {F H F' H' : Hp} {σ σ' : List (Option V)} {ρ ρ' : List Sl} {t : List Nat}
theorem plain_lent (r : Rep K w B F H σ ρ) (hp : plainAt ρ t = true) : ∀ q ∈ B.L, q.1 ∉ t := fun q hq hm => by
  obtain ⟨⟨xs, hx⟩, _⟩ := r.lent q hq
  have := List.all_eq_true.mp hp q.1 hm
  rw [hx] at this
  cases this
theorem Rep.wiped (r : Rep K w B F H σ ρ) (hn : ∀ q ∈ B.L, q.1 ∉ t) : Rep K w B F H (L2.wipe σ t) (Cz.wipe ρ t) := by
  obtain ⟨a1, b1⟩ := wipeC t ρ
  obtain ⟨a2, b2⟩ := wipeV t σ
  refine r.per (by rw [a1, a2]; exact r.len) fun j => ?_
  rw [b1 j, b2 j, r.len]
  by_cases h : j ∈ t ∧ j < ρ.length
  · rw [if_pos h, if_pos h]
    exact .inr ⟨fun q hq e => hn q hq (e ▸ h.1), fun _ _ => (by simp), fun _ z => (by simp at z)⟩
  · rw [if_neg h, if_neg h]
    exact .inl ⟨rfl, rfl⟩
/-- back out of a block -/
theorem Rep.resto {F1 H1 : Hp} {ρ1 ρ2 : List Sl} (r1 : Rep K w B F1 H1 σ ρ1) (hp : plainAt ρ1 t = true) (e : Ex F1 F') (r : Rep K w B F' H' (L2.wipe σ t) (Cz.wipe ρ2 t)) : Rep K w B F' H' σ (resto t ρ1 ρ2) := by
  obtain ⟨a1, b1⟩ := wipeC t ρ2
  obtain ⟨a2, b2⟩ := wipeV t σ
  obtain ⟨a3, b3⟩ := restoC ρ1 t ρ2
  have l := r.len
  rw [a1, a2] at l
  refine r.per (by rw [a3]; exact l) fun j => ?_
  rw [b1 j, b2 j, b3 j, l]
  by_cases h : j ∈ t ∧ j < ρ2.length
  · rw [if_pos h, if_pos h, if_pos h]
    refine .inr ⟨fun q hq z => plain_lent r1 hp q hq (z ▸ h.1), fun l xs z => ?_, fun x z => ?_⟩
    · have := List.all_eq_true.mp hp j h.1
      cases h5 : ρ1[j]? with
      | none => rw [h5] at this; cases this
      | some y =>
        rw [h5] at z this
        have z' : y = Sl.own l xs := by simpa using z
        rw [z'] at this
        cases this
    · cases h5 : ρ1[j]? with
      | none => rw [h5] at z; simp at z
      | some y =>
        rw [h5] at z
        have z' : y = Sl.d x := by simpa using z
        rw [z'] at h5
        obtain ⟨v, h6, h7⟩ := r1.dat j x h5
        exact ⟨v, h6, h7.mono e⟩
  · rw [if_neg h, if_neg h, if_neg h]
    exact .inl ⟨rfl, rfl⟩
/-- the entry with one more list, at D -/
def Bx (B : Bas) (D : Addr) (vs : List V) : Bas := ⟨B.F0, upd B.H0 D (.lst vs), B.L⟩
/-- D is nobody's -/
structure Ny (B : Bas) (D : Addr) : Prop where
  h : B.H0 D = none
  f : B.F0 D = none
  l : ∀ q ∈ B.L, q.2 ≠ D
theorem Rep.ny {D : Addr} (r : Rep K w B F H σ ρ) (h : H D = none) : Ny B D where
  h := r.fresh h
  f := (r.fe.trans r.fh).back h
  l := fun q hq e => by
    obtain ⟨⟨xs, hx⟩, hs⟩ := r.lent q hq
    obtain ⟨p, vs, a, _, c, _⟩ := r.own _ _ _ hx
    rw [hs] at a
    cases a
    rw [e, h] at c
    cases c
theorem Rep.inn {D : Addr} {vs : List V} (r : Rep K w B F H σ ρ) (hH : H D = some (.lst vs)) (hF : F D = none) (hn : ∀ (i : Nat) (l : Bool) (ys : List Cz.D), ρ[i]? = some (Sl.own l ys) → σ[i]? ≠ some (some (V.ref D))) : Rep K w (Bx B D vs) F H σ ρ where
  fe := r.fe
  fh := r.fh
  len := r.len
  dat := r.dat
  own := fun i l xs h => by
    obtain ⟨p, us, a, b, c, d, e, f1, f2⟩ := r.own i l xs h
    have ne : p ≠ D := fun z => hn i l xs h (by rw [a, z])
    exact ⟨p, us, a, b, c, d, e, fun z => by show upd B.H0 D _ p = none; rw [upd_ne ne]; exact f1 z, f2⟩
  apart := r.apart
  lent := r.lent
  frame := fun a o h1 h2 => by
    have h1 : upd B.H0 D (.lst vs) a = some o := h1
    by_cases z : a = D
    · subst z; rw [upd_same] at h1; cases h1; exact hH
    · rw [upd_ne z] at h1; exact r.frame a o h1 h2
  mask := fun a h1 h2 => by
    have h1 : upd B.H0 D (.lst vs) a ≠ none := h1
    by_cases z : a = D
    · subst z; exact hF
    · rw [upd_ne z] at h1; exact r.mask a h1 h2
theorem Rep.noD {D : Addr} {vs : List V} (r : Rep K w (Bx B D vs) F H σ ρ) (n : Ny B D) : ∀ (i : Nat) (l : Bool) (ys : List Cz.D), ρ[i]? = some (Sl.own l ys) → σ[i]? ≠ some (some (V.ref D)) := fun i l ys h s => by
  obtain ⟨p, us, a, b, c, d, e, f1, f2⟩ := r.own i l ys h
  rw [s] at a
  cases a
  cases l with
  | true => exact n.l _ (f2 rfl) rfl
  | false =>
    have z : upd B.H0 D (.lst vs) D = none := f1 rfl
    rw [upd_same] at z
    cases z
theorem Rep.atD {D : Addr} {vs : List V} (r : Rep K w (Bx B D vs) F H σ ρ) (n : Ny B D) : H D = some (.lst vs) ∧ F D = none :=
  ⟨r.frame D _ (by show upd B.H0 D _ D = _; rw [upd_same]) n.l, r.mask D (by show upd B.H0 D _ D ≠ none; rw [upd_same]; simp) n.f⟩
theorem Rep.outD {D : Addr} {vs : List V} (r : Rep K w (Bx B D vs) F H σ ρ) (n : Ny B D) : Rep K w B F H σ ρ where
  fe := r.fe
  fh := r.fh
  len := r.len
  dat := r.dat
  own := fun i l xs h => by
    obtain ⟨p, us, a, b, c, d, e, f1, f2⟩ := r.own i l xs h
    have ne : p ≠ D := fun z => r.noD n i l xs h (by rw [a, z])
    exact ⟨p, us, a, b, c, d, e, fun z => by have y : upd B.H0 D (.lst vs) p = none := f1 z; rw [upd_ne ne] at y; exact y, f2⟩
  apart := r.apart
  lent := r.lent
  frame := fun a o h1 h2 => by
    have ne : a ≠ D := fun z => by rw [z, n.h] at h1; cases h1
    exact r.frame a o (by show upd B.H0 D _ a = _; rw [upd_ne ne]; exact h1) h2
  mask := fun a h1 h2 => by
    have ne : a ≠ D := fun z => by rw [z] at h1; exact h1 n.h
    exact r.mask a (by show upd B.H0 D _ a ≠ none; rw [upd_ne ne]; exact h1) h2
theorem Rep.app {D : Addr} {vs us : List V} (r : Rep K w (Bx B D vs) F H σ ρ) (n : Ny B D) : Rep K w (Bx B D us) F (upd H D (.lst us)) σ ρ where
  fe := r.fe
  fh := r.fh.mut (r.atD n).2
  len := r.len
  dat := r.dat
  own := fun i l xs h => by
    obtain ⟨p, ws, a, b, c, d, e, f1, f2⟩ := r.own i l xs h
    have ne : p ≠ D := fun z => r.noD n i l xs h (by rw [a, z])
    exact ⟨p, ws, a, b, by rw [upd_ne ne]; exact c, d, e, fun z => by have y : upd B.H0 D (.lst vs) p = none := f1 z; rw [upd_ne ne] at y; show upd B.H0 D _ p = none; rw [upd_ne ne]; exact y, f2⟩
  apart := r.apart
  lent := r.lent
  frame := fun a o h1 h2 => by
    have h1 : upd B.H0 D (.lst us) a = some o := h1
    by_cases z : a = D
    · subst z; rw [upd_same] at h1 ⊢; exact h1
    · rw [upd_ne z] at h1 ⊢
      exact r.frame a o (by show upd B.H0 D _ a = _; rw [upd_ne z]; exact h1) h2
  mask := fun a h1 h2 => by
    by_cases z : a = D
    · subst z; exact (r.atD n).2
    · have h1 : upd B.H0 D (.lst us) a ≠ none := h1
      rw [upd_ne z] at h1
      exact r.mask a (by show upd B.H0 D _ a ≠ none; rw [upd_ne z]; exact h1) h2
end
section
variable {X : Cx} {G : Fx} {B : Bas} {W : Wi}
theorem _root_.L2.PE.any {X : Cx} {e : Expr} {α : Type} {t : α → TE} (h : ∀ a, PE X e (t a)) : PE X e (fun σ H Q => ∃ a, t a σ H Q) := ⟨fun pins s σ H Q I ⟨a, q⟩ => (h a).run pins s σ H Q I q⟩
theorem _root_.L2.PG.any {X : Cx} {e : Expr} {α : Type} {t : α → TG} (h : ∀ a, PG X e (t a)) : PG X e (fun v σ H Q => ∃ a, t a v σ H Q) := ⟨fun pins s σ H v u Q I r ⟨a, q⟩ => (h a).run pins s σ H v u Q I r q⟩
theorem _root_.L2.PTs.any {X : Cx} {e : List Expr} {α : Type} {t : α → TT} (h : ∀ a, PTs X e (t a)) : PTs X e (fun σ H Q => ∃ a, t a σ H Q) := ⟨fun pins s σ H Q I ⟨a, q⟩ => (h a).run pins s σ H Q I q⟩
theorem _root_.L2.PI.any {X : Cx} {tg e : Expr} {α : Type} {t : α → TI} (h : ∀ a, PI X tg e (t a)) : PI X tg e (fun σ H Q => ∃ a, t a σ H Q) := ⟨fun pins s σ H Q I ⟨a, q⟩ => (h a).run pins s σ H Q I q⟩
/-- the tests of a clause -/
def tTs (G : Fx) (K : PySem.W.Frag) (w : World) (B : Bas) (cs : Es) : TT := fun σ H Q => ∃ F ρ, Rep K w B F H σ ρ ∧ (match evAnd G.M G.C cs ρ with
  | .ok v ρ' => ∃ k, (res ρ' (fz v)).bind truth = some k ∧ ∀ F' H', Ex F F' → Rep K w B F' H' σ ρ' → Q k H'
  | .ex _ _ => False
  | .bad => False)
abbrev W0 : Wi := fun _ _ => False
theorem _root_.L2.PTs.imp {X : Cx} {e : List Expr} {t t' : TT} (h : PTs X e t) (i : ∀ σ H Q, t' σ H Q → t σ H Q) : PTs X e t' := ⟨fun pins s σ H Q I q => h.run pins s σ H Q I (i σ H Q q)⟩
theorem sTs_nil : PTs X [] (tTs G X.K X.w B .nil) := by
  refine pts_nil.imp fun σ H Q h => ?_
  obtain ⟨F, ρ, r, h⟩ := h
  unfold evAnd at h
  obtain ⟨k, hk, q⟩ := h
  cases hk
  exact q F H (.refl F) r
theorem sTs_one {c : Cz.E} {ec : Expr} (hc : PT X ec (tT G X.K X.w B W0 c)) : PTs X [ec] (tTs G X.K X.w B (.cons c .nil)) := by
  refine (pts_one hc).imp fun σ H Q h => ?_
  obtain ⟨F, ρ, r, h⟩ := h
  refine ⟨F, ρ, r, ?_⟩
  unfold evAnd at h
  cases h1 : evE G.M G.C c ρ with
  | ok v ρ1 => rw [h1] at h; exact h
  | ex x ρ1 => rw [h1] at h; exact h.elim
  | bad => rw [h1] at h; exact h.elim
/-- a turn of a comprehension -/
abbrev lcT (G : Fx) (t : List Nat) (cs : Es) (e : Cz.E) : Cz.Env → D → Option (Option D × Cz.Env) := fun ρ d => match bindT (Cz.wipe ρ t) t d with
  | some ρ2 => match evAnd G.M G.C cs ρ2 with
    | .ok v ρ3 => match (res ρ3 (fz v)).bind truth with
      | some true => match evE G.M G.C e ρ3 with
        | .ok w ρ4 => match fz w with
          | .p x => some (some x, ρ4)
          | _ => none
        | _ => none
      | some false => some (none, ρ3)
      | none => none
    | _ => none
  | none => none
theorem evE_lc (t : List Nat) (it : Cz.It) (cs : Es) (e : Cz.E) (ρ : List Sl) : evE G.M G.C (.lc t it cs e) ρ = (match evIt G.M G.C it ρ with
  | some (ds, ρ1) => if plainAt ρ1 t then
      match lcTurns (lcT G t cs e) ρ1 ds with
      | some (xs, ρ2) => .ok (.f xs) (resto t ρ1 ρ2)
      | none => .bad
    else .bad
  | none => .bad) := by
  rw [evE] <;> rfl
theorem wipe_same {σ σ2 : List (Option V)} {t : List Nat} (hl : σ2.length = (L2.wipe σ t).length) (hk : ∀ j, j ∉ t → σ2[j]? = (L2.wipe σ t)[j]?) : L2.wipe σ2 t = L2.wipe σ t := by
  obtain ⟨a1, b1⟩ := wipeV t σ2
  obtain ⟨a2, b2⟩ := wipeV t σ
  refine List.ext_getElem? fun j => ?_
  rw [b1 j, b2 j, hl, a2]
  by_cases h : j ∈ t ∧ j < σ.length
  · rw [if_pos h, if_pos h]
  · rw [if_neg h, if_neg h]
    by_cases hj : j ∈ t
    · have : ¬ j < σ.length := fun z => h ⟨hj, z⟩
      rw [List.getElem?_eq_none (show σ2.length ≤ j by rw [hl, a2]; omega), List.getElem?_eq_none (show σ.length ≤ j by omega)]
    · rw [hk j hj, b2 j, if_neg h]
theorem drop_cons {α : Type} {l : List α} {i : Nat} (h : i < l.length) : ∃ d, l[i]? = some d ∧ l.drop i = d :: l.drop (i + 1) := ⟨l[i], List.getElem?_eq_getElem h, List.drop_eq_getElem_cons h⟩
/-- the state at a comprehension's turn -/
def LcW (X : Cx) (B : Bas) (F1 : Hp) (D : Addr) (σ : List (Option V)) (t : List Nat) (ds : List Cz.D) (i : Nat) (H : Hp) (P : List Sl → List Cz.D → Prop) : Prop :=
  i ≤ ds.length ∧ ∃ Fc ρc vs acc, Ex F1 Fc ∧ Rep X.K X.w (Bx B D vs) Fc H (L2.wipe σ t) (Cz.wipe ρc t) ∧ DVs X.K X.w Fc vs acc ∧ P ρc acc
theorem sLc {t : List Nat} {it : Cz.It} {cs : Es} {e : Cz.E} {σ : List (Option V)} {H : Hp} {Q : VK} (h : tE G X.K X.w B W (.lc t it cs e) σ H Q) :
    tLc (tI G X.K X.w B it) (fun v σ H Q => ∃ B, tGt X.K X.w B t v σ H Q) (fun σ H Q => ∃ B, tTs G X.K X.w B cs σ H Q) (fun σ H Q => ∃ B, tE G X.K X.w B W0 e σ H Q) t σ H Q := by
  obtain ⟨F, ρ, r, h⟩ := h
  rw [evE_lc] at h
  cases h1 : evIt G.M G.C it ρ with
  | none => rw [h1] at h; exact h.elim
  | some q1 =>
    obtain ⟨ds, ρ1⟩ := q1
    rw [h1] at h
    simp only at h
    by_cases hp : plainAt ρ1 t = true
    · rw [if_pos hp] at h
      cases h2 : lcTurns (lcT G t cs e) ρ1 ds with
      | none => rw [h2] at h; exact h.elim
      | some q2 =>
        obtain ⟨xs, ρ2⟩ := q2
        rw [h2] at h
        simp only at h
        refine ⟨F, ρ, ds, ρ1, r, h1, fun J F1 H1 e1 r1 len ok D hD => ?_⟩
        have ny := r1.ny hD
        have hL := plain_lent r1 hp
        refine ⟨fun i m Hc => m = ds.length - i ∧ LcW X B F1 D σ t ds i Hc fun ρc acc => acc.length ≤ i ∧ ∃ rest, lcTurns (lcT G t cs e) ρc (ds.drop i) = some (rest, ρ2) ∧ acc ++ rest = xs, ⟨_, rfl, Nat.zero_le _, F1, ρ1, [], [], .refl F1, ?_, .nil, Nat.le_refl _, xs, by rw [List.drop_zero]; exact h2, rfl⟩, fun i m Hc hw => ?_⟩
        · have g := Grow.own (o := .lst []) r1.fh hD
          refine ((r1.grow g).inn (D := D) upd_same (r1.fh.back hD) fun i l ys hi => r1.noOwn hD i l ys hi).wiped hL
        · obtain ⟨hm, hi, Fc, ρc, vs, acc, ec, rc, dvs, la, rest, hr, hx⟩ := hw
          obtain ⟨a1, a2⟩ := ok Fc Hc ec rc.fh
          obtain ⟨hD1, hD2⟩ := rc.atD ny
          by_cases lt : i < ds.length
          · refine .inr ?_
            obtain ⟨d, hd, hdr⟩ := drop_cons lt
            obtain ⟨b1, b2⟩ := a1 i d hd
            refine ⟨b1, fun H' => LcW X B F1 D σ t ds (i + 1) H' fun ρc acc => acc.length ≤ i + 1 ∧ ∃ rest, lcTurns (lcT G t cs e) ρc (ds.drop (i + 1)) = some (rest, ρ2) ∧ acc ++ rest = xs, fun H' hw => ⟨_, by omega, rfl, hw⟩, fun x H' hy => ?_⟩
            obtain ⟨F2, g, dv⟩ := b2 x H' hy
            have r2 := rc.grow g
            rw [hdr] at hr
            unfold lcTurns at hr
            cases h3 : bindT (Cz.wipe ρc t) t d with
            | none => simp only [lcT, h3] at hr; cases hr
            | some ρa =>
              simp only [lcT, h3] at hr
              refine ⟨Bx B D vs, F2, _, d, ρa, r2, dv, h3, fun σ2 r3 sl sk => ⟨wipe_same sl sk, Bx B D vs, F2, ρa, r3, ?_⟩⟩
              cases h4 : evAnd G.M G.C cs ρa with
              | ex _ _ => rw [h4] at hr; simp at hr
              | bad => rw [h4] at hr; simp at hr
              | ok v ρb =>
                rw [h4] at hr
                simp only at hr ⊢
                cases h5 : (res ρb (fz v)).bind truth with
                | none => rw [h5] at hr; simp at hr
                | some k =>
                  rw [h5] at hr
                  refine ⟨k, rfl, fun F3 H3 e3 r4 => ?_⟩
                  cases k with
                  | false =>
                    rw [if_neg Bool.false_ne_true]
                    simp only at hr
                    have r5 := r4.wiped (t := t) hL
                    rw [wipe_same sl sk] at r5
                    exact ⟨lt, F3, ρb, vs, acc, ec.trans (g.f.trans e3), r5, dvs.mono (g.f.trans e3), Nat.le_succ_of_le la, rest, hr, hx⟩
                  | true =>
                    rw [if_pos rfl]
                    simp only at hr
                    refine ⟨Bx B D vs, F3, ρb, r4, ?_⟩
                    cases h6 : evE G.M G.C e ρb with
                    | ex _ _ => rw [h6] at hr; simp at hr
                    | bad => rw [h6] at hr; simp at hr
                    | ok u ρ4 =>
                      rw [h6] at hr
                      simp only at hr ⊢
                      intro y F4 H4 e4 r6 ev
                      obtain ⟨F5, e5, r7, k7⟩ := ev.fz r6
                      cases h7 : fz u with
                      | f _ => rw [h7] at hr; simp at hr
                      | b _ => rw [h7] at hr; simp at hr
                      | p z =>
                        rw [h7] at hr k7
                        simp only at hr
                        obtain ⟨q3, h8, h9⟩ := Option.map_eq_some_iff.mp hr
                        obtain ⟨rest', ρ5⟩ := q3
                        cases h9
                        have eAll := g.f.trans (e3.trans (e4.trans e5))
                        have r8 := r7.wiped (t := t) hL
                        rw [wipe_same sl sk] at r8
                        refine ⟨vs, (r7.atD ny).1, lim_lt (by rw [dvs.length]; omega), lt, F5, ρ4, vs ++ [y], acc ++ [z], ec.trans eAll, r8.app ny, (dvs.mono eAll).snoc k7, by rw [List.length_append]; show _ + 1 ≤ i + 1; omega, rest', h8, ?_⟩
                        rw [List.append_assoc]
                        exact hx
          · refine .inl ?_
            have ei : i = ds.length := by omega
            subst ei
            refine ⟨a2, ?_⟩
            rw [List.drop_length] at hr
            unfold lcTurns at hr
            cases hr
            rw [List.append_nil] at hx
            subst hx
            have r9 := r1.resto hp ec (rc.outD ny)
            refine h _ Fc Hc (e1.trans ec) r9 ⟨D, vs, rfl, hD2, hD1, dvs, by omega, ny.h, fun j l ys hj hs => ?_⟩
            obtain ⟨_, c3⟩ := restoC ρ1 t ρ2
            rw [c3 j] at hj
            by_cases hjt : j ∈ t ∧ j < ρ2.length
            · rw [if_pos hjt] at hj
              have := List.all_eq_true.mp hp j hjt.1
              cases h5 : ρ1[j]? with
              | none => rw [h5] at this; cases this
              | some y =>
                rw [h5] at hj this
                have z' : y = Sl.own l ys := by simpa using hj
                rw [z'] at this
                cases this
            · rw [if_neg hjt] at hj
              have hne : j ∉ t := fun z => by
                have : ¬ j < ρ2.length := fun y => hjt ⟨z, y⟩
                rw [List.getElem?_eq_none (by omega)] at hj
                cases hj
              refine rc.noD ny j l ys ?_ ?_
              · rw [(wipeC t ρ2).2 j, if_neg hjt]; exact hj
              · rw [(wipeV t σ).2 j, if_neg (fun z => hne z.1)]; exact hs
    · rw [if_neg hp] at h; exact h.elim
end
end Cs
end
section
set_option Elab.async false
set_option linter.all false
set_option maxRecDepth 100000
set_option maxHeartbeats 4000000
/-! SOUND 15: comprehensions, further. -/
namespace Cs
open PySem L2 Cz PyProof.Rows
section
variable {X : Cx} {G : Fx} {B : Bas} {W : Wi}
/-- what must hold within a block -/
abbrev InBlk (X : Cx) (scope : Scope) (P : Cx → Prop) : Prop := ∀ (s : Shared) (H : Hp) (C : Addr) (cl : List (Str × Addr)) (fp : List Addr), P (X.blk s H scope (compEnvC scope cl C X.env) fp)
theorem sE_lc {t : List Nat} {it : Cz.It} {cs : Es} {e : Cz.E} {elt tg iter : Expr} {ifs : List Expr} {scope : Scope} {own : List (Str × Nat)} {pos : Pos} (hc : X.calm = true) (hN : X.N.Nodup) (ho : own.map (·.2) = t)
    (hi : PI X tg iter (tI G X.K X.w B it)) (ok : BlkOk X.N X.env.scope scope own) (hg : ∀ B, InBlk X scope fun Y => PG Y tg (tGt X.K X.w B t)) (ht : ∀ B, InBlk X scope fun Y => PTs Y ifs (tTs G X.K X.w B cs)) (he : ∀ B, InBlk X scope fun Y => PE Y elt (tE G X.K X.w B W0 e))
    (hs : ∀ x, foldedSetIterable iter X.env x = pure x) : PE X (.ListComp elt [⟨tg, iter, ifs, 0⟩] scope pos) (tE G X.K X.w B W (.lc t it cs e)) := by
  subst ho
  exact (pe_lc (g := fun v σ H Q => ∃ B, tGt X.K X.w B (own.map (·.2)) v σ H Q) (tt := fun σ H Q => ∃ B, tTs G X.K X.w B cs σ H Q) (te := fun σ H Q => ∃ B, tE G X.K X.w B W0 e σ H Q) hc hN hi ok
    (fun s H C cl fp => PG.any fun B => hg B s H C cl fp) (fun s H C cl fp => PTs.any fun B => ht B s H C cl fp) (fun s H C cl fp => PE.any fun B => he B s H C cl fp) hs).imp fun σ H Q h => sLc h
/-- the inner turn, the outer turn of two clauses -/
abbrev lcI (G : Fx) (t2 : List Nat) (e : Cz.E) : Cz.Env → D → Option (Option D × Cz.Env) := fun ρ d => match bindT (Cz.wipe ρ t2) t2 d with
  | some ρ2 => match evE G.M G.C e ρ2 with
    | .ok w ρ4 => match fz w with
      | .p x => some (some x, ρ4)
      | _ => none
    | _ => none
  | none => none
abbrev lcO (G : Fx) (t : List Nat) (t2 : List Nat) (it2 : Cz.It) (e : Cz.E) : Cz.Env → D → Option (List D × Cz.Env) := fun ρ d => match bindT (Cz.wipe ρ (t ++ t2)) t d with
  | some ρ2 => match evIt G.M G.C it2 ρ2 with
    | some (es, ρ3) => lcTurns (lcI G t2 e) ρ3 es
    | none => none
  | none => none
theorem evE_lc2 (t : List Nat) (it : Cz.It) (t2 : List Nat) (it2 : Cz.It) (e : Cz.E) (ρ : List Sl) : evE G.M G.C (.lc2 t it t2 it2 e) ρ = (match evIt G.M G.C it ρ with
  | some (ds, ρ1) => if plainAt ρ1 (t ++ t2) then
      match lcTurns2 (lcO G t t2 it2 e) ρ1 ds with
      | some (xs, ρ2) => if 100000 < xs.length then .bad else .ok (.f xs) (resto (t ++ t2) ρ1 ρ2)
      | none => .bad
    else .bad
  | none => .bad) := by
  rw [evE] <;> rfl
theorem lcTurns_len {turn : Cz.Env → D → Option (Option D × Cz.Env)} : ∀ {ds : List D} {ρ ρ' : List Sl} {xs : List D}, lcTurns turn ρ ds = some (xs, ρ') → xs.length ≤ ds.length
  | [], ρ, ρ', xs, h => by unfold lcTurns at h; cases h; exact Nat.le_refl _
  | d :: ds, ρ, ρ', xs, h => by
    unfold lcTurns at h
    split at h
    · exact Nat.le_succ_of_le (lcTurns_len h)
    · obtain ⟨q, h1, h2⟩ := Option.map_eq_some_iff.mp h
      obtain ⟨a, b⟩ := q
      cases h2
      exact Nat.succ_le_succ (lcTurns_len h1)
    · cases h
theorem wipe_app {σ σ2 : List (Option V)} {t t2 : List Nat} (hl : σ2.length = (L2.wipe σ (t ++ t2)).length) (hk : ∀ j, j ∉ t → σ2[j]? = (L2.wipe σ (t ++ t2))[j]?) : L2.wipe σ2 (t ++ t2) = L2.wipe σ (t ++ t2) :=
  wipe_same hl fun j hj => hk j fun z => hj (List.mem_append_left _ z)
/-- wiped within, then all -/
theorem wipe_more {σ σ2 : List (Option V)} {t t2 : List Nat} (h : L2.wipe σ2 (t ++ t2) = L2.wipe σ (t ++ t2)) : L2.wipe (L2.wipe σ2 t2) (t ++ t2) = L2.wipe σ (t ++ t2) := by
  rw [← h]
  obtain ⟨a1, b1⟩ := wipeV (t ++ t2) (L2.wipe σ2 t2)
  obtain ⟨a2, b2⟩ := wipeV (t ++ t2) σ2
  obtain ⟨a3, b3⟩ := wipeV t2 σ2
  refine List.ext_getElem? fun j => ?_
  rw [b1 j, b2 j, a3, b3 j]
  by_cases h : j ∈ t ++ t2 ∧ j < σ2.length
  · rw [if_pos h, if_pos h]
  · rw [if_neg h, if_neg h, if_neg]
    exact fun z => h ⟨List.mem_append_right _ z.1, z.2⟩
theorem sLc2 {t t2 : List Nat} {it it2 : Cz.It} {e : Cz.E} {σ : List (Option V)} {H : Hp} {Q : VK} (h : tE G X.K X.w B W (.lc2 t it t2 it2 e) σ H Q) :
    tLc2 (tI G X.K X.w B it) (fun v σ H Q => ∃ B, tGt X.K X.w B t v σ H Q) tYes (fun σ H R => ∃ B, tI G X.K X.w B it2 σ H R) (fun v σ H Q => ∃ B, tGt X.K X.w B t2 v σ H Q) tYes (fun σ H Q => ∃ B, tE G X.K X.w B W0 e σ H Q) (t ++ t2) t2 σ H Q := by
  obtain ⟨F, ρ, r, h⟩ := h
  rw [evE_lc2] at h
  cases h1 : evIt G.M G.C it ρ with
  | none => rw [h1] at h; exact h.elim
  | some q1 =>
    obtain ⟨ds, ρ1⟩ := q1
    rw [h1] at h
    simp only at h
    by_cases hp : plainAt ρ1 (t ++ t2) = true
    · rw [if_pos hp] at h
      cases h2 : lcTurns2 (lcO G t t2 it2 e) ρ1 ds with
      | none => rw [h2] at h; exact h.elim
      | some q2 =>
        obtain ⟨xs, ρ2⟩ := q2
        rw [h2] at h
        simp only at h
        by_cases big : 100000 < xs.length
        · rw [if_pos big] at h; exact h.elim
        · rw [if_neg big] at h
          refine ⟨F, ρ, ds, ρ1, r, h1, fun J F1 H1 e1 r1 len ok D hD => ?_⟩
          have ny := r1.ny hD
          have hL := plain_lent r1 hp
          have hL2 : ∀ q ∈ B.L, q.1 ∉ t2 := fun q hq z => hL q hq (List.mem_append_right _ z)
          refine ⟨fun i m Hc => m = ds.length - i ∧ LcW X B F1 D σ (t ++ t2) ds i Hc fun ρc acc => ∃ rest, lcTurns2 (lcO G t t2 it2 e) ρc (ds.drop i) = some (rest, ρ2) ∧ acc ++ rest = xs, ⟨_, rfl, Nat.zero_le _, F1, ρ1, [], [], .refl F1, ?_, .nil, xs, by rw [List.drop_zero]; exact h2, rfl⟩, fun i m Hc hw => ?_⟩
          · have g := Grow.own (o := .lst []) r1.fh hD
            refine ((r1.grow g).inn (D := D) upd_same (r1.fh.back hD) fun i l ys hi => r1.noOwn hD i l ys hi).wiped hL
          · obtain ⟨hm, hi, Fc, ρc, vs, acc, ec, rc, dvs, rest, hr, hx⟩ := hw
            obtain ⟨a1, a2⟩ := ok Fc Hc ec rc.fh
            obtain ⟨hD1, hD2⟩ := rc.atD ny
            by_cases lt : i < ds.length
            · refine .inr ?_
              obtain ⟨d, hd, hdr⟩ := drop_cons lt
              obtain ⟨b1, b2⟩ := a1 i d hd
              refine ⟨b1, fun H' => LcW X B F1 D σ (t ++ t2) ds (i + 1) H' fun ρc acc => ∃ rest, lcTurns2 (lcO G t t2 it2 e) ρc (ds.drop (i + 1)) = some (rest, ρ2) ∧ acc ++ rest = xs, fun H' hw => ⟨_, by omega, rfl, hw⟩, fun x H' hy => ?_⟩
              obtain ⟨F2, g, dv⟩ := b2 x H' hy
              have r2 := rc.grow g
              rw [hdr] at hr
              unfold lcTurns2 at hr
              cases h3 : bindT (Cz.wipe ρc (t ++ t2)) t d with
              | none => simp only [lcO, h3] at hr; cases hr
              | some ρa =>
                cases h4 : evIt G.M G.C it2 ρa with
                | none => simp only [lcO, h3, h4] at hr; cases hr
                | some q4 =>
                  obtain ⟨es, ρb⟩ := q4
                  cases h5 : lcTurns (lcI G t2 e) ρb es with
                  | none => simp only [lcO, h3, h4, h5] at hr; cases hr
                  | some q5 =>
                    obtain ⟨ys, ρd⟩ := q5
                    simp only [lcO, h3, h4, h5] at hr
                    obtain ⟨q6, h6, h7⟩ := Option.map_eq_some_iff.mp hr
                    obtain ⟨rest', ρ5⟩ := q6
                    cases h7
                    refine ⟨Bx B D vs, F2, _, d, ρa, r2, dv, h3, fun σ2 r3 sl sk => ⟨wipe_app sl sk, ?_⟩⟩
                    have same := wipe_app sl sk
                    dsimp only [tYes]
                    rw [if_pos rfl]
                    refine ⟨Bx B D vs, F2, ρa, es, ρb, r3, h4, fun J1 F3 H3 e3 r4 len1 ok1 => ?_⟩
                    -- the inner loop: slots σ2 with t2 wiped
                    refine ⟨fun j k Hj => k = es.length - j ∧ LcW X B F3 D σ2 t2 es j Hj fun ρc acc' => ∃ rest1, lcTurns (lcI G t2 e) ρc (es.drop j) = some (rest1, ρd) ∧ acc' ++ rest1 = acc ++ ys, ⟨_, rfl, Nat.zero_le _, F3, ρb, vs, acc, .refl F3, r4.wiped hL2, dvs.mono (g.f.trans e3), ys, by rw [List.drop_zero]; exact h5, rfl⟩, fun j k Hj hw1 => ?_⟩
                    obtain ⟨hk, hj, Fj, ρj, us, acc', ej, rj, dus, rest1, hr1, hx1⟩ := hw1
                    obtain ⟨c1, c2⟩ := ok1 Fj Hj ej rj.fh
                    by_cases lt1 : j < es.length
                    · refine .inr ?_
                      obtain ⟨d1, hd1, hdr1⟩ := drop_cons lt1
                      obtain ⟨f1, f2⟩ := c1 j d1 hd1
                      refine ⟨f1, fun H' => LcW X B F3 D σ2 t2 es (j + 1) H' fun ρc acc' => ∃ rest1, lcTurns (lcI G t2 e) ρc (es.drop (j + 1)) = some (rest1, ρd) ∧ acc' ++ rest1 = acc ++ ys, fun H' hw => ⟨_, by omega, rfl, hw⟩, fun x1 H4 hy1 => ?_⟩
                      obtain ⟨F4, g4, dv4⟩ := f2 x1 H4 hy1
                      have r5 := rj.grow g4
                      rw [hdr1] at hr1
                      unfold lcTurns at hr1
                      cases h8 : bindT (Cz.wipe ρj t2) t2 d1 with
                      | none => simp only [lcI, h8] at hr1; cases hr1
                      | some ρe =>
                        simp only [lcI, h8] at hr1
                        refine ⟨Bx B D us, F4, _, d1, ρe, r5, dv4, h8, fun σ3 r6 sl3 sk3 => ⟨wipe_same sl3 sk3, ?_⟩⟩
                        dsimp only [tYes]
                        rw [if_pos rfl]
                        refine ⟨Bx B D us, F4, ρe, r6, ?_⟩
                        cases h9 : evE G.M G.C e ρe with
                        | ex _ _ => rw [h9] at hr1; simp at hr1
                        | bad => rw [h9] at hr1; simp at hr1
                        | ok u ρ6 =>
                          rw [h9] at hr1
                          simp only at hr1 ⊢
                          intro y F5 H5 e5 r7 ev
                          obtain ⟨F6, e6, r8, k8⟩ := ev.fz r7
                          cases h10 : fz u with
                          | f _ => rw [h10] at hr1; simp at hr1
                          | b _ => rw [h10] at hr1; simp at hr1
                          | p z =>
                            rw [h10] at hr1 k8
                            simp only at hr1
                            obtain ⟨q11, h11, h12⟩ := Option.map_eq_some_iff.mp hr1
                            obtain ⟨rest2, ρ7⟩ := q11
                            cases h12
                            have eAll := g4.f.trans (e5.trans e6)
                            have r9 := r8.wiped (t := t2) hL2
                            rw [wipe_same sl3 sk3] at r9
                            have la : acc'.length < xs.length := by
                              have : (acc' ++ z :: rest2).length = (acc ++ ys).length := by rw [hx1]
                              have h13 : (acc ++ (ys ++ rest')).length = xs.length := by rw [hx]
                              rw [List.length_append, List.length_cons] at this
                              rw [← List.append_assoc, List.length_append] at h13
                              omega
                            refine ⟨us, (r8.atD ny).1, lim_lt (by rw [dus.length]; show _ ≤ 100000; omega), lt1, F6, ρ6, us ++ [y], acc' ++ [z], ej.trans eAll, r9.app ny, (dus.mono eAll).snoc k8, rest2, h11, ?_⟩
                            rw [List.append_assoc]
                            exact hx1
                    · refine .inl ?_
                      have ej' : j = es.length := by omega
                      subst ej'
                      refine ⟨c2, ?_⟩
                      rw [List.drop_length] at hr1
                      unfold lcTurns at hr1
                      cases hr1
                      rw [List.append_nil] at hx1
                      subst hx1
                      have r10 := rj.wiped (t := t ++ t2) hL
                      have e10 : L2.wipe (L2.wipe σ2 t2) (t ++ t2) = L2.wipe σ (t ++ t2) := wipe_more same
                      have e11 : Cz.wipe (Cz.wipe ρd t2) (t ++ t2) = Cz.wipe ρd (t ++ t2) := by
                        obtain ⟨x1, y1⟩ := wipeC (t ++ t2) (Cz.wipe ρd t2)
                        obtain ⟨x2, y2⟩ := wipeC (t ++ t2) ρd
                        obtain ⟨x3, y3⟩ := wipeC t2 ρd
                        refine List.ext_getElem? fun j => ?_
                        rw [y1 j, y2 j, x3, y3 j]
                        by_cases h : j ∈ t ++ t2 ∧ j < ρd.length
                        · rw [if_pos h, if_pos h]
                        · rw [if_neg h, if_neg h, if_neg]
                          exact fun z => h ⟨List.mem_append_right _ z.1, z.2⟩
                      rw [e10, e11] at r10
                      refine ⟨lt, Fj, ρd, us, _, ec.trans (g.f.trans (e3.trans ej)), r10, dus, rest', h6, ?_⟩
                      rw [List.append_assoc]
                      exact hx
            · refine .inl ?_
              have ei : i = ds.length := by omega
              subst ei
              refine ⟨a2, ?_⟩
              rw [List.drop_length] at hr
              unfold lcTurns2 at hr
              cases hr
              rw [List.append_nil] at hx
              subst hx
              have r9 := r1.resto hp ec (rc.outD ny)
              refine h _ Fc Hc (e1.trans ec) r9 ⟨D, vs, rfl, hD2, hD1, dvs, by show _ ≤ 100000; omega, ny.h, fun j l ys hj hs => ?_⟩
              obtain ⟨_, c3⟩ := restoC ρ1 (t ++ t2) ρ2
              rw [c3 j] at hj
              by_cases hjt : j ∈ (t ++ t2) ∧ j < ρ2.length
              · rw [if_pos hjt] at hj
                have := List.all_eq_true.mp hp j hjt.1
                cases h5 : ρ1[j]? with
                | none => rw [h5] at this; cases this
                | some y =>
                  rw [h5] at hj this
                  have z' : y = Sl.own l ys := by simpa using hj
                  rw [z'] at this
                  cases this
              · rw [if_neg hjt] at hj
                have hne : j ∉ (t ++ t2) := fun z => by
                  have : ¬ j < ρ2.length := fun y => hjt ⟨z, y⟩
                  rw [List.getElem?_eq_none (by omega)] at hj
                  cases hj
                refine rc.noD ny j l ys ?_ ?_
                · rw [(wipeC (t ++ t2) ρ2).2 j, if_neg hjt]; exact hj
                · rw [(wipeV (t ++ t2) σ).2 j, if_neg (fun z => hne z.1)]; exact hs
    · rw [if_neg hp] at h; exact h.elim
theorem sE_lc2 {t t2 : List Nat} {it it2 : Cz.It} {e : Cz.E} {elt tg iter tg1 iter1 : Expr} {scope : Scope} {own : List (Str × Nat)} {pos : Pos} (hc : X.calm = true) (hN : X.N.Nodup) (ho : own.map (·.2) = t ++ t2)
    (hi : PI X tg iter (tI G X.K X.w B it)) (ok : BlkOk X.N X.env.scope scope own) (hg : ∀ B, InBlk X scope fun Y => PG Y tg (tGt X.K X.w B t)) (hi1 : ∀ B, InBlk X scope fun Y => PI Y tg1 iter1 (tI G X.K X.w B it2)) (hg1 : ∀ B, InBlk X scope fun Y => PG Y tg1 (tGt X.K X.w B t2))
    (he : ∀ B, InBlk X scope fun Y => PE Y elt (tE G X.K X.w B W0 e)) (hs : ∀ x, foldedSetIterable iter X.env x = pure x) (hs1 : ∀ env x, foldedSetIterable iter1 env x = pure x) :
    PE X (.ListComp elt [⟨tg, iter, [], 0⟩, ⟨tg1, iter1, [], 0⟩] scope pos) (tE G X.K X.w B W (.lc2 t it t2 it2 e)) := by
  have z := (pe_lc2 (vs1 := t2) (g := fun v σ H Q => ∃ B, tGt X.K X.w B t v σ H Q) (tt := tYes) (tt1 := tYes) (wi1 := fun σ H R => ∃ B, tI G X.K X.w B it2 σ H R) (g1 := fun v σ H Q => ∃ B, tGt X.K X.w B t2 v σ H Q) (te := fun σ H Q => ∃ B, tE G X.K X.w B W0 e σ H Q) (pos := pos) hc hN hi ok
    (fun i hi => by rw [ho]; exact List.mem_append_right _ hi)
    (fun s H C cl fp => PG.any fun B => hg B s H C cl fp) (fun s H C cl fp => pts_nil) (fun s H C cl fp => PI.any fun B => hi1 B s H C cl fp) (fun s H C cl fp => PG.any fun B => hg1 B s H C cl fp) (fun s H C cl fp => pts_nil) (fun s H C cl fp => PE.any fun B => he B s H C cl fp) hs hs1)
  rw [ho] at z
  exact z.imp fun σ H Q h => sLc2 h
end
end Cs
end
section
set_option Elab.async false
set_option linter.all false
set_option maxRecDepth 100000
set_option maxHeartbeats 4000000
/-! SOUND 16: statements. -/
namespace Cs
open PySem L2 Cz PyProof.Rows
section
variable (K : PySem.W.Frag) (w : World) (B : Bas) (W : Wi)
/-- where a statement may end -/
def RsOk (F : Hp) (D : Ends) : Rs → Prop
  | .nx ρ' => ∀ F' H' σ', Ex F F' → Rep K w B F' H' σ' ρ' → D.nx σ' H'
  | .ct ρ' => ∀ F' H' σ', Ex F F' → Rep K w B F' H' σ' ρ' → D.ct σ' H'
  | .bk ρ' => ∀ F' H' σ', Ex F F' → Rep K w B F' H' σ' ρ' → D.bk σ' H'
  | .rt v ρ' => ∀ F' H' σ' u, Ex F F' → Rep K w B F' H' σ' ρ' → EvP K w B F' H' σ' ρ' v u → D.rt u H'
  | .ex x ρ' => W x ρ'
  | .bad => False
def tR (ev : List Sl → Rs) : TS := fun D σ H => ∃ F ρ, Rep K w B F H σ ρ ∧ RsOk K w B W F D (ev ρ)
end
section
variable {X : Cx} {G : Fx} {B : Bas} {W : Wi}
theorem RsOk.mono {K : PySem.W.Frag} {w : World} {F F1 : Hp} {D : Ends} {r : Rs} (e : Ex F F1) (h : RsOk K w B W F D r) : RsOk K w B W F1 D r := by
  cases r with
  | nx ρ' => exact fun F' H' σ' e1 => h F' H' σ' (e.trans e1)
  | ct ρ' => exact fun F' H' σ' e1 => h F' H' σ' (e.trans e1)
  | bk ρ' => exact fun F' H' σ' e1 => h F' H' σ' (e.trans e1)
  | rt v ρ' => exact fun F' H' σ' u e1 => h F' H' σ' u (e.trans e1)
  | ex x ρ' => exact h
  | bad => exact h
/-- one reading serves another -/
theorem tR_imp {K : PySem.W.Frag} {w : World} {t : TS} {ev : List Sl → Rs} (i : ∀ D σ H F ρ, Rep K w B F H σ ρ → RsOk K w B W F D (ev ρ) → t D σ H) : ∀ D σ H, tR K w B W ev D σ H → t D σ H := fun D σ H ⟨F, ρ, r, h⟩ => i D σ H F ρ r h
/-- a value, then what is done with it -/
theorem eThen {e : Cz.E} {σ : List (Option V)} {H : Hp} {F : Hp} {ρ : List Sl} {D : Ends} {Q : VK} {k : Val → List Sl → Rs} (r : Rep X.K X.w B F H σ ρ)
    (h : RsOk X.K X.w B W F D (match evE G.M G.C e ρ with
      | .ok v ρ1 => k v ρ1
      | .ex x ρ1 => .ex x ρ1
      | .bad => .bad))
    (q : ∀ v ρ1, evE G.M G.C e ρ = .ok v ρ1 → ∀ y F1 H1, Ex F F1 → Rep X.K X.w B F1 H1 σ ρ1 → EvP X.K X.w B F1 H1 σ ρ1 v y → RsOk X.K X.w B W F1 D (k v ρ1) → Q y H1) : tE G X.K X.w B W e σ H Q := by
  refine ⟨F, ρ, r, ?_⟩
  cases h1 : evE G.M G.C e ρ with
  | ok v ρ1 =>
    rw [h1] at h
    intro y F1 H1 e1 r1 ev
    exact q v ρ1 h1 y F1 H1 e1 r1 ev (h.mono e1)
  | ex x ρ1 => rw [h1] at h; exact h
  | bad => rw [h1] at h; exact h
theorem sS_nil : PSs X [] (tR X.K X.w B W (evSs G.M G.C .nil)) := by
  refine pss_nil.imp (tR_imp fun D σ H F ρ r h => ?_)
  unfold evSs at h
  exact h F H σ (.refl F) r
theorem sS_cons {s : S} {ss : Ss} {st : Stmt} {sts : List Stmt} (h1 : PS X st (tR X.K X.w B W (evS G.M G.C s))) (h2 : PSs X sts (tR X.K X.w B W (evSs G.M G.C ss))) : PSs X (st :: sts) (tR X.K X.w B W (evSs G.M G.C (.cons s ss))) := by
  refine (pss_cons h1 h2).imp (tR_imp fun D σ H F ρ r h => ?_)
  unfold evSs at h
  refine ⟨F, ρ, r, ?_⟩
  cases h3 : evS G.M G.C s ρ with
  | nx ρ1 => rw [h3] at h; exact fun F' H' σ' e r' => ⟨F', ρ1, r', h.mono e⟩
  | ct ρ' => rw [h3] at h; exact h
  | bk ρ' => rw [h3] at h; exact h
  | rt v ρ' => rw [h3] at h; exact h
  | ex x ρ' => rw [h3] at h; exact h
  | bad => rw [h3] at h; exact h
theorem sS_pass {pos : Pos} : PS X (.Pass pos) (tR X.K X.w B W (evS G.M G.C .pass)) := by
  refine ps_pass.imp (tR_imp fun D σ H F ρ r h => ?_)
  unfold evS at h
  exact h F H σ (.refl F) r
theorem sS_brk {pos : Pos} : PS X (.Break pos) (tR X.K X.w B W (evS G.M G.C .brk)) := by
  refine ps_break.imp (tR_imp fun D σ H F ρ r h => ?_)
  unfold evS at h
  exact h F H σ (.refl F) r
theorem sS_cnt {pos : Pos} : PS X (.Continue pos) (tR X.K X.w B W (evS G.M G.C .cnt)) := by
  refine ps_continue.imp (tR_imp fun D σ H F ρ r h => ?_)
  unfold evS at h
  exact h F H σ (.refl F) r
theorem sS_retN {pos : Pos} : PS X (.Return none pos) (tR X.K X.w B W (evS G.M G.C .retN)) := by
  refine ps_retN.imp (tR_imp fun D σ H F ρ r h => ?_)
  unfold evS at h
  exact h F H σ .non (.refl F) r .non
theorem sS_if {t : Cz.E} {a b : Ss} {et : Expr} {sa sb : List Stmt} {pos : Pos} (ht : PT X et (tT G X.K X.w B W t)) (ha : PSs X sa (tR X.K X.w B W (evSs G.M G.C a))) (hb : PSs X sb (tR X.K X.w B W (evSs G.M G.C b))) : PS X (.If et sa sb pos) (tR X.K X.w B W (evS G.M G.C (.ife t a b))) := by
  refine (ps_if ht ha hb).imp (tR_imp fun D σ H F ρ r h => ?_)
  unfold evS at h
  refine ⟨F, ρ, r, ?_⟩
  cases h1 : evE G.M G.C t ρ with
  | ok v ρ1 =>
    rw [h1] at h
    simp only at h ⊢
    cases h2 : (res ρ1 (fz v)).bind truth with
    | none => rw [h2] at h; exact h.elim
    | some k =>
      rw [h2] at h
      refine ⟨k, rfl, fun F' H' e r' => ?_⟩
      cases k with
      | true => rw [if_pos rfl]; exact ⟨F', ρ1, r', RsOk.mono e h⟩
      | false => rw [if_neg Bool.false_ne_true]; exact ⟨F', ρ1, r', RsOk.mono e h⟩
  | ex x ρ1 => rw [h1] at h; exact h
  | bad => rw [h1] at h; exact h
theorem sS_ex {e : Cz.E} {ea : Expr} {pos : Pos} (he : PE X ea (tE G X.K X.w B W e)) (hs : swapsWith ea none pos.line X.env = pure false) : PS X (.Expr ea pos) (tR X.K X.w B W (evS G.M G.C (.ex e))) := by
  refine (ps_expr he hs).imp (tR_imp fun D σ H F ρ r h => ?_)
  unfold evS at h
  exact eThen (k := fun v ρ1 => .nx ρ1) r h fun v ρ1 _ y F1 H1 e1 r1 ev h1 => h1 F1 H1 σ (.refl F1) r1
/-- the store of a value -/
theorem stored {i : Nat} {v : Val} {y : V} {F H : Hp} {σ : List (Option V)} {ρ ρ2 : List Sl} (r : Rep X.K X.w B F H σ ρ) (ev : EvP X.K X.w B F H σ ρ v y) (h : put ρ i v = some ρ2) : Rep X.K X.w B F H (σ.set i (some y)) ρ2 := by
  cases v with
  | p d =>
    obtain ⟨f, e⟩ := put_d h
    subst e
    exact r.store (z := .d d) f ⟨y, rfl, ev⟩
  | f xs =>
    obtain ⟨f, e⟩ := put_f h
    subst e
    obtain ⟨p, vs, rfl, a, b, c, l, d, n⟩ := ev
    exact r.store (z := .own false xs) f ⟨rfl, p, vs, rfl, a, b, c, l, d, fun j l ys _ hj => n j l ys hj⟩
  | b j =>
    unfold put at h
    split at h
    · cases h
    · cases h
theorem sS_asgG {i : Nat} {e : Cz.E} {st : Stmt} (h : PS X st (tAsg (tE G X.K X.w B W e) (gName i))) : PS X st (tR X.K X.w B W (evS G.M G.C (.asg i e))) := by
  refine h.imp (tR_imp fun D σ H F ρ r h => ?_)
  unfold evS at h
  refine eThen (k := fun v ρ1 => match put ρ1 i v with | some ρ2 => .nx ρ2 | none => .bad) r h fun v ρ1 _ y F1 H1 e1 r1 ev h1 => ?_
  cases h2 : put ρ1 i v with
  | none => rw [h2] at h1; exact h1.elim
  | some ρ2 =>
    rw [h2] at h1
    exact h1 F1 H1 _ (.refl F1) (stored r1 ev h2)
theorem sS_asg {i : Nat} {e : Cz.E} {x : Str} {ea : Expr} {pos pos' : Pos} (hN : X.N.Nodup) (hi : X.N[i]? = some x) (hx : X.env.scope.names.lookup x = some .local) (he : PE X ea (tE G X.K X.w B W e)) (hs : swapsWith ea (some (.Name x pos')) pos.line X.env = pure false) :
    PS X (.Assign [.Name x pos'] ea pos) (tR X.K X.w B W (evS G.M G.C (.asg i e))) := sS_asgG (ps_set hN hi (.inl hx) he hs (.inr hx))
theorem sS_asgT {t : List Nat} {e : Cz.E} {tg ea : Expr} {pos : Pos} (he : PE X ea (tE G X.K X.w B W e)) (hg : PG X tg (tGt X.K X.w B t)) (hs : swapsWithSole [tg] ea pos.line X.env = pure false) (hw : swappedStores [tg] ea X.env = pure none) (h1 : (assignEach [tg] X.env).map (·.2) = [assign tg X.env]) :
    PS X (.Assign [tg] ea pos) (tR X.K X.w B W (evS G.M G.C (.asgT t e))) := by
  refine (ps_asg he hg hs hw h1).imp (tR_imp fun D σ H F ρ r h => ?_)
  unfold evS at h
  refine eThen (k := fun v ρ1 => match fz v with
      | .p d => match bindT ρ1 t d with
        | some ρ2 => .nx ρ2
        | none => .bad
      | _ => .bad) r h fun v ρ1 _ y F1 H1 e1 r1 ev h1 => ?_
  obtain ⟨F2, e2, r2, k2⟩ := ev.fz r1
  cases h2 : fz v with
  | f _ => rw [h2] at h1; exact h1.elim
  | b _ => rw [h2] at h1; exact h1.elim
  | p d =>
    rw [h2] at h1 k2
    simp only at h1
    cases h3 : bindT ρ1 t d with
    | none => rw [h3] at h1; exact h1.elim
    | some ρ2 =>
      rw [h3] at h1
      exact ⟨F2, ρ1, d, ρ2, r2, k2, h3, fun σ' r' _ _ => h1 F2 H1 σ' e2 r'⟩
/-- a list that a slot owns changes -/
theorem Rep.lset {K : PySem.W.Frag} {w : World} {F H : Hp} {σ : List (Option V)} {ρ : List Sl} {i : Nat} {l : Bool} {xs ys : List D} {p : Addr} {us : List V} (r : Rep K w B F H σ ρ) (hi : ρ[i]? = some (Sl.own l xs)) (hs : σ[i]? = some (some (V.ref p))) (dv : DVs K w F us ys) (hl : ys.length ≤ Lim) :
    Rep K w B F (upd H p (.lst us)) σ (ρ.set i (.own l ys)) := by
  obtain ⟨p', vs, a, b, c, d, e, f1, f2⟩ := r.own i l xs hi
  rw [hs] at a
  cases a
  have hlt : i < ρ.length := (List.getElem?_eq_some_iff.mp hi).1
  exact {
    fe := r.fe
    fh := r.fh.mut b
    len := by rw [List.length_set]; exact r.len
    dat := fun j x hj => by
      rw [pset1] at hj
      split at hj
      · cases hj.2
      · exact r.dat j x hj
    own := fun j l' zs hj => by
      rw [pset1] at hj
      split at hj
      · rename_i ij
        subst ij
        cases hj.2
        exact ⟨p, us, hs, b, upd_same, dv, hl, f1, f2⟩
      · rename_i ij
        obtain ⟨q, ws, a', b', c', d', e', g1, g2⟩ := r.own j l' zs hj
        have ne : q ≠ p := fun z => ij (r.apart i j _ _ _ _ p hi hj hs (by rw [a', z]))
        exact ⟨q, ws, a', b', by rw [upd_ne ne]; exact c', d', e', g1, g2⟩
    apart := fun j k l' l'' zs ws q hj hk sj sk => by
      rw [pset1] at hj hk
      by_cases ij : i = j
      · by_cases ik : i = k
        · rw [← ij, ← ik]
        · rw [if_neg ik] at hk
          rw [← ij] at sj
          rw [← ij]
          exact r.apart i k l l'' xs ws q hi hk sj sk
      · rw [if_neg ij] at hj
        by_cases ik : i = k
        · rw [← ik] at sk
          rw [← ik]
          exact r.apart j i l' l zs xs q hj hi sj sk
        · rw [if_neg ik] at hk
          exact r.apart j k l' l'' zs ws q hj hk sj sk
    lent := fun q hq => by
      obtain ⟨⟨zs, hz⟩, s⟩ := r.lent q hq
      refine ⟨?_, s⟩
      by_cases iq : i = q.1
      · rw [← iq, hi] at hz
        cases hz
        exact ⟨ys, by rw [pset1, if_pos iq]; exact ⟨hlt, rfl⟩⟩
      · exact ⟨zs, by rw [pset1, if_neg iq]; exact hz⟩
    frame := fun q o h1 h2 => by
      have ne : q ≠ p := fun z => by
        subst z
        cases l with
        | true => exact h2 _ (f2 rfl) rfl
        | false => rw [f1 rfl] at h1; cases h1
      rw [upd_ne ne]
      exact r.frame q o h1 h2
    mask := r.mask }
theorem sS_app {i : Nat} {e : Cz.E} {x : Str} {ea : Expr} {px pa pc pos : Pos} (hi : X.N[i]? = some x) (hv : Vis X.env.scope x) (hd : (x == ("__debug__" : Str)) = false) (hcd : (x == ("__classdict__" : Str)) = false) (he : PE X ea (tE G X.K X.w B W e)) (hst : starEach [ea] X.env = [(false, eval ea X.env)]) (hline : (pa.endLine == pc.line) = true) :
    PS X (.Expr (.Call (.Attribute (.Name x px) "append" pa) [ea] [] pc) pos) (tR X.K X.w B W (evS G.M G.C (.app i e))) := by
  refine (ps_expr (pe_bm PySem.F.plainAttrs_list PySem.F.slot_list_append PySem.F.type_list_append mt_append (pe_var hi hv hd hcd) (sA_cons he sA_nil hst) rfl (by rw [hst]; rfl) hline hst rfl) rfl).imp (tR_imp fun D σ H F ρ r h => ?_)
  unfold evS at h
  cases h0 : ρ[i]? with
  | none => rw [h0] at h; exact h.elim
  | some z =>
    rw [h0] at h
    cases z with
    | no => exact h.elim
    | d _ => exact h.elim
    | exn _ => exact h.elim
    | own l0 xs0 =>
      simp only at h
      obtain ⟨p, vs, hs, hF, hH, dv, ll, _⟩ := r.own i _ _ h0
      refine ⟨_, hs, .inl ⟨rfl, vs, SqL.of hH⟩, F, ρ, r, ?_⟩
      unfold evEs
      cases h1 : evE G.M G.C e ρ with
      | bad => rw [h1] at h; exact h.elim
      | ex x ρ1 => rw [h1] at h; exact h
      | ok v ρ1 =>
        rw [h1] at h
        simp only at h ⊢
        unfold evEs
        simp only
        intro xs F1 H1 e1 r1 k1
        cases k1 with
        | cons k k1 =>
          cases k1
          cases h2 : fz v with
          | f _ => rw [h2] at h; exact h.elim
          | b _ => rw [h2] at h; exact h.elim
          | p d =>
            rw [h2] at h k
            simp only at h
            cases h3 : ρ1[i]? with
            | none => rw [h3] at h; exact h.elim
            | some z =>
              rw [h3] at h
              cases z with
              | no => exact h.elim
              | d _ => exact h.elim
              | exn _ => exact h.elim
              | own l1 ys =>
                simp only at h
                by_cases lt : ys.length < 100000
                · rw [if_pos lt] at h
                  obtain ⟨p', us, hs', hF', hH', dv', ll', _⟩ := r1.own i _ _ h3
                  rw [hs] at hs'
                  cases hs'
                  refine ⟨p, us, _, rfl, rfl, hH', by rw [dv'.length]; exact lim_lt (Nat.le_of_lt lt), ?_⟩
                  exact h F1 _ σ e1 (r1.lset h3 hs (dv'.snoc k) (by rw [List.length_append]; exact lt))
                · rw [if_neg lt] at h; exact h.elim
theorem sS_asgIx {i : Nat} {e k : Cz.E} {x : Str} {ea ek : Expr} {px pa pos : Pos} (hi : X.N[i]? = some x) (hv : Vis X.env.scope x) (hd : (x == ("__debug__" : Str)) = false) (hcd : (x == ("__classdict__" : Str)) = false) (he : PE X ea (tE G X.K X.w B W e)) (hk : PE X ek (tE G X.K X.w B W k))
    (hs : swapsWithSole [.Subscript (.Name x px) ek pa] ea pos.line X.env = pure false)
    (ha : ∀ v, assign (.Subscript (.Name x px) ek pa) X.env v = (do
      let ov ← holding [v] (eval (.Name x px) X.env)
      let iv ← holding [v, ov] (eval ek X.env)
      standAt pa
      holding [v, ov, iv] (setItem ov iv v)
      release [v, ov, iv] [])) :
    PS X (.Assign [.Subscript (.Name x px) ek pa] ea pos) (tR X.K X.w B W (evS G.M G.C (.asgIx i k e))) := by
  refine (ps_asg he (pg_sub (pe_var hi hv hd hcd) hk set_list ha) hs rfl rfl).imp (tR_imp fun D σ H F ρ r h => ?_)
  unfold evS at h
  refine ⟨F, ρ, r, ?_⟩
  cases h1 : evE G.M G.C e ρ with
  | bad => rw [h1] at h; exact h.elim
  | ex x ρ1 => rw [h1] at h; exact h
  | ok v ρ1 =>
    rw [h1] at h
    simp only at h ⊢
    intro y F1 H1 e1 r1 ev
    obtain ⟨F2, e2, r2, k2⟩ := ev.fz r1
    cases h2 : fz v with
    | f _ => rw [h2] at h; exact h.elim
    | b _ => rw [h2] at h; exact h.elim
    | p d =>
      rw [h2] at h k2
      simp only at h
      cases h0 : ρ1[i]? with
      | none => rw [h0] at h; exact h.elim
      | some z =>
        rw [h0] at h
        cases z with
        | no => exact h.elim
        | d _ => exact h.elim
        | exn _ => exact h.elim
        | own l0 xs0 =>
          simp only at h
          obtain ⟨p, vs, hs1, hF, hH, dv, ll, _⟩ := r2.own i _ _ h0
          refine ⟨_, hs1, F2, ρ1, r2, ?_⟩
          cases h3 : evE G.M G.C k ρ1 with
          | bad => rw [h3] at h; exact h.elim
          | ex x ρ2 => rw [h3] at h; exact h
          | ok u ρ2 =>
            rw [h3] at h
            simp only
            intro z F3 H3 e3 r3 ev3
            cases u with
            | f _ => exact h.elim
            | b _ => exact h.elim
            | p dk =>
              cases dk with
              | int j =>
                simp only at h
                cases h4 : ρ2[i]? with
                | none => rw [h4] at h; exact h.elim
                | some z2 =>
                  rw [h4] at h
                  cases z2 with
                  | no => exact h.elim
                  | d _ => exact h.elim
                  | exn _ => exact h.elim
                  | own l1 ys =>
                    simp only at h
                    cases h5 : pix ys.length j with
                    | none => rw [h5] at h; exact h.elim
                    | some n =>
                      rw [h5] at h
                      obtain ⟨p', us, hs', hF', hH', dv', ll', _⟩ := r3.own i _ _ h4
                      rw [hs1] at hs'
                      cases hs'
                      have ej : z = V.int j := by
                        have q : DV X.K X.w F3 z (.int j) := ev3
                        cases q
                        rfl
                      subst ej
                      have dd : DV X.K X.w F3 y d := DV.mono e3 k2
                      refine ⟨p, us, j, n, rfl, rfl, hH', by rw [dv'.length]; exact h5, ?_⟩
                      exact h F3 _ σ (e1.trans (e2.trans e3)) (r3.lset h4 hs1 (dv'.set dd n) (by rw [List.length_set]; exact ll'))
              | _ => exact h.elim
theorem sS_ret {e : Cz.E} {ea : Expr} {pos : Pos} (hv : ∀ i, e ≠ .var i) (he : PE X ea (tE G X.K X.w B W e)) : PS X (.Return (some ea) pos) (tR X.K X.w B W (evS G.M G.C (.ret e))) := by
  refine (ps_ret he).imp (tR_imp fun D σ H F ρ r h => ?_)
  have h : RsOk X.K X.w B W F D (match evE G.M G.C e ρ with
      | .ok (.b _) _ => .bad
      | .ok v ρ1 => .rt v ρ1
      | .ex x ρ1 => .ex x ρ1
      | .bad => .bad) := by
    cases e with
    | var i => exact absurd rfl (hv i)
    | _ => unfold evS at h; exact h
  refine ⟨F, ρ, r, ?_⟩
  cases h1 : evE G.M G.C e ρ with
  | bad => rw [h1] at h; exact h.elim
  | ex x ρ1 => rw [h1] at h; exact h
  | ok v ρ1 =>
    rw [h1] at h
    cases v with
    | b _ => exact h.elim
    | p d => exact fun y F1 H1 e1 r1 ev => h F1 H1 σ y e1 r1 ev
    | f xs => exact fun y F1 H1 e1 r1 ev => h F1 H1 σ y e1 r1 ev
theorem sS_retV {i : Nat} {x : Str} {px pos : Pos} (hi : X.N[i]? = some x) (hv : Vis X.env.scope x) (hd : (x == ("__debug__" : Str)) = false) (hcd : (x == ("__classdict__" : Str)) = false) : PS X (.Return (some (.Name x px)) pos) (tR X.K X.w B W (evS G.M G.C (.ret (.var i)))) := by
  refine (ps_ret (pe_var hi hv hd hcd)).imp (tR_imp fun D σ H F ρ r h => ?_)
  unfold evS at h
  have h : RsOk X.K X.w B W F D (match ρ[i]? with
      | some (.d x) => .rt (.p x) ρ
      | some (.own false xs) => .rt (.f xs) (ρ.set i .no)
      | _ => .bad) := h
  cases h0 : ρ[i]? with
  | none => rw [h0] at h; exact h.elim
  | some z =>
    rw [h0] at h
    cases z with
    | no => exact h.elim
    | exn _ => exact h.elim
    | d y =>
      obtain ⟨v, hs, dv⟩ := r.dat i y h0
      exact ⟨v, hs, h F H σ v (.refl F) r dv⟩
    | own l xs =>
      cases l with
      | true => exact h.elim
      | false =>
        obtain ⟨p, vs, hs, hF, hH, dv, ll, hb, _⟩ := r.own i _ _ h0
        refine ⟨_, hs, h F H σ _ (.refl F) ?_ ⟨p, vs, rfl, hF, hH, dv, ll, hb rfl, fun j l ys hj sj => ?_⟩⟩
        · refine r.per (by rw [List.length_set]; exact r.len) fun j => ?_
          by_cases ij : i = j
          · subst ij
            refine .inr ⟨fun q hq z => ?_, fun l ys hy => ?_, fun y hy => ?_⟩
            · obtain ⟨⟨ys, hy⟩, _⟩ := r.lent q hq
              rw [z, h0] at hy
              cases hy
            · rw [pset1, if_pos rfl] at hy
              cases hy.2
            · rw [pset1, if_pos rfl] at hy
              cases hy.2
          · exact .inl ⟨List.getElem?_set_ne ij, rfl⟩
        · rw [pset1] at hj
          split at hj
          · cases hj.2
          · rename_i ij
            exact ij (r.apart i j _ _ _ _ p h0 hj hs sj)
end
end Cs
end
section
set_option Elab.async false
set_option linter.all false
set_option maxRecDepth 100000
set_option maxHeartbeats 4000000
/-! SOUND 17: loops; raise. -/
namespace Cs
open PySem L2 Cz PyProof.Rows
section
variable {X : Cx} {G : Fx} {B : Bas} {W : Wi}
/-- a turn of a for -/
abbrev foT (G : Fx) (t : List Nat) (body : Ss) : List Sl → D → Rs := fun ρ d => match bindT ρ t d with
  | some ρ2 => evSs G.M G.C body ρ2
  | none => .bad
theorem evS_for (t : List Nat) (it : Cz.It) (body : Ss) (ρ : List Sl) : evS G.M G.C (.for_ t it body) ρ = (match evIt G.M G.C it ρ with
  | some (ds, ρ1) => forTurns (foT G t body) ρ1 ds
  | none => .bad) := by
  rw [evS] <;> rfl
theorem sS_for {t : List Nat} {it : Cz.It} {body : Ss} {tg iter : Expr} {sts : List Stmt} {pos : Pos} (hp : PassesOwn (model X.prog X.w) X.A X.env X.xe) (hc : X.calm = true) (hi : PI X tg iter (tI G X.K X.w B it)) (hg : PG X tg (tGt X.K X.w B t)) (hb : PSs X sts (tR X.K X.w B W (evSs G.M G.C body)))
    (hs : ∀ x, foldedSetIterable iter X.env x = pure x) : PS X (.For tg iter sts [] pos) (tR X.K X.w B W (evS G.M G.C (.for_ t it body))) := by
  refine (ps_for hp hc hi hg hb hs).imp (tR_imp fun D σ H F ρ r h => ?_)
  rw [evS_for] at h
  cases h1 : evIt G.M G.C it ρ with
  | none => rw [h1] at h; exact h.elim
  | some q1 =>
    obtain ⟨ds, ρ1⟩ := q1
    rw [h1] at h
    simp only at h
    refine ⟨F, ρ, ds, ρ1, r, h1, fun J F1 H1 e1 r1 len ok => ?_⟩
    refine ⟨fun i m σ H => m = ds.length - i ∧ i ≤ ds.length ∧ ∃ Fc ρc, Ex F1 Fc ∧ Rep X.K X.w B Fc H σ ρc ∧ RsOk X.K X.w B W Fc D (forTurns (foT G t body) ρc (ds.drop i)), ⟨_, rfl, Nat.zero_le _, F1, ρ1, .refl F1, r1, h.mono e1⟩, fun i m σ2 H2 hw => ?_⟩
    obtain ⟨hm, hi, Fc, ρc, ec, rc, hr⟩ := hw
    obtain ⟨a1, a2⟩ := ok Fc H2 ec rc.fh
    by_cases lt : i < ds.length
    · refine .inr ?_
      obtain ⟨d, hd, hdr⟩ := drop_cons lt
      obtain ⟨b1, b2⟩ := a1 i d hd
      refine ⟨b1, fun σ' H' => i + 1 ≤ ds.length ∧ ∃ Fc ρc, Ex F1 Fc ∧ Rep X.K X.w B Fc H' σ' ρc ∧ RsOk X.K X.w B W Fc D (forTurns (foT G t body) ρc (ds.drop (i + 1))), fun σ' H' hw => ⟨_, by omega, rfl, hw⟩, fun x H' hy => ?_⟩
      obtain ⟨F2, g, dv⟩ := b2 x H' hy
      rw [hdr] at hr
      unfold forTurns at hr
      cases h3 : bindT ρc t d with
      | none => simp only [foT, h3] at hr; exact hr.elim
      | some ρa =>
        simp only [foT, h3] at hr
        refine ⟨F2, ρc, d, ρa, rc.grow g, dv, h3, fun σ3 r3 _ _ => ⟨F2, ρa, r3, ?_⟩⟩
        cases h4 : evSs G.M G.C body ρa with
        | nx ρb => rw [h4] at hr; exact fun F' H' σ' e r' => ⟨lt, F', ρb, ec.trans (g.f.trans e), r', RsOk.mono (g.f.trans e) hr⟩
        | ct ρb => rw [h4] at hr; exact fun F' H' σ' e r' => ⟨lt, F', ρb, ec.trans (g.f.trans e), r', RsOk.mono (g.f.trans e) hr⟩
        | bk ρb => rw [h4] at hr; exact fun F' H' σ' e r' => hr F' H' σ' (g.f.trans e) r'
        | rt v ρb => rw [h4] at hr; exact fun F' H' σ' u e r' => hr F' H' σ' u (g.f.trans e) r'
        | ex x ρb => rw [h4] at hr; exact hr
        | bad => rw [h4] at hr; exact hr.elim
    · refine .inl ?_
      have ei : i = ds.length := by omega
      subst ei
      rw [List.drop_length] at hr
      unfold forTurns at hr
      exact ⟨a2, hr Fc H2 σ2 (.refl Fc) rc⟩
theorem sS_while {c : Cz.E} {body : Ss} {ec : Expr} {sts : List Stmt} {pos : Pos} (hp : PassesOwn (model X.prog X.w) X.A X.env X.xe) (hc : PT X ec (tT G X.K X.w B W c)) (hb : PSs X sts (tR X.K X.w B W (evSs G.M G.C body))) :
    PS X (.While ec sts [] pos) (tR X.K X.w B W (evS G.M G.C (.while_ c body))) := by
  refine (ps_while hp hc hb).imp (tR_imp fun D σ H F ρ r h => ?_)
  rw [evS] at h
  refine ⟨fun m σ H => ∃ Fc ρc, Ex F Fc ∧ Rep X.K X.w B Fc H σ ρc ∧ RsOk X.K X.w B W Fc D (whTurns (evE G.M G.C c) (evSs G.M G.C body) m ρc), ⟨whFuel, F, ρ, .refl F, r, h⟩, fun m σ2 H2 hw => ?_⟩
  obtain ⟨Fc, ρc, ec, rc, hr⟩ := hw
  cases m with
  | zero => exact hr.elim
  | succ m =>
    unfold whTurns at hr
    refine ⟨Fc, ρc, rc, ?_⟩
    cases h1 : evE G.M G.C c ρc with
    | bad => rw [h1] at hr; exact hr.elim
    | ex x ρ1 => rw [h1] at hr; exact hr
    | ok v ρ1 =>
      rw [h1] at hr
      simp only at hr ⊢
      cases h2 : (res ρ1 (fz v)).bind truth with
      | none => rw [h2] at hr; exact hr.elim
      | some k =>
        rw [h2] at hr
        refine ⟨k, rfl, fun F2 H3 e2 r2 => ?_⟩
        cases k with
        | false =>
          rw [if_neg Bool.false_ne_true]
          exact hr F2 H3 σ2 e2 r2
        | true =>
          rw [if_pos rfl]
          simp only at hr
          refine ⟨fun σ' H' => ∃ Fc ρc, Ex F Fc ∧ Rep X.K X.w B Fc H' σ' ρc ∧ RsOk X.K X.w B W Fc D (whTurns (evE G.M G.C c) (evSs G.M G.C body) m ρc), fun σ' H' hw => ⟨m, Nat.lt_succ_self m, hw⟩, F2, ρ1, r2, ?_⟩
          cases h4 : evSs G.M G.C body ρ1 with
          | nx ρb => rw [h4] at hr; exact fun F' H' σ' e r' => ⟨F', ρb, ec.trans (e2.trans e), r', RsOk.mono (e2.trans e) hr⟩
          | ct ρb => rw [h4] at hr; exact fun F' H' σ' e r' => ⟨F', ρb, ec.trans (e2.trans e), r', RsOk.mono (e2.trans e) hr⟩
          | bk ρb => rw [h4] at hr; exact fun F' H' σ' e r' => hr F' H' σ' (e2.trans e) r'
          | rt v ρb => rw [h4] at hr; exact fun F' H' σ' u e r' => hr F' H' σ' u (e2.trans e) r'
          | ex x ρb => rw [h4] at hr; exact hr
          | bad => rw [h4] at hr; exact hr.elim
/-- an exception of class number c is made of e's value -/
def tMk (G : Fx) (K : PySem.W.Frag) (w : World) (B : Bas) (W : Wi) (c : Nat) (e : Cz.E) : L2.St → Hp → XK → Prop := fun σ H Q => ∃ F ρ, Rep K w B F H σ ρ ∧ (match evE G.M G.C e ρ with
  | .ok v ρ1 => ∃ d, fz v = .p d ∧ okArg (G.M.tk c) d = true ∧ ∀ F' H' cls dd, Ex F F' → Rep K w B F' H' σ ρ1 → XRep G.xa G.xf K w F' H' ⟨c, d⟩ cls dd → Q cls dd H'
  | .ex x ρ1 => W x ρ1
  | .bad => False)
theorem sS_raise {c : Nat} {e : Cz.E} {ex : Expr} {pos : Pos} (hc : X.calm = true) (tk : Takes X (WD G X.K X.w B W)) (he : PMk X ex (tMk G X.K X.w B W c e)) : PS X (.Raise (some ex) none pos) (tR X.K X.w B W (evS G.M G.C (.raise c e))) := by
  refine (ps_raise hc tk he).imp (tR_imp fun D σ H F ρ r h => ?_)
  rw [evS] at h
  refine ⟨F, ρ, r, ?_⟩
  cases h1 : evE G.M G.C e ρ with
  | bad => rw [h1] at h; exact h.elim
  | ex x ρ1 => rw [h1] at h; exact h
  | ok v ρ1 =>
    rw [h1] at h
    simp only at h ⊢
    cases h2 : fz v with
    | f _ => rw [h2] at h; exact h.elim
    | b _ => rw [h2] at h; exact h.elim
    | p d =>
      rw [h2] at h
      simp only at h
      by_cases k : okArg (G.M.tk c) d = true
      · rw [if_pos k] at h
        exact ⟨d, rfl, k, fun F' H' cls dd e r' xr => ⟨F', ⟨c, d⟩, ρ1, r', xr, h⟩⟩
      · rw [if_neg k] at h; exact h.elim
end
end Cs
end
section
set_option Elab.async false
set_option linter.all false
set_option maxRecDepth 100000
set_option maxHeartbeats 4000000
/-! SOUND 18: try with several clauses, named or not. -/
namespace Cs
open PySem PySem.Spec L2 Cz PyProof.Rows
/-- a clause: the class, the slot of its name, what its suite is told -/
structure Cl where
  c : Value
  o : Option Nat
  ts : Addr → Value → Option Addr → TS
def clIn (o : Option Nat) (a : Addr) (σ : List (Option V)) : List (Option V) := match o with
  | none => σ
  | some i => σ.set i (some (.ref a))
def clOut (o : Option Nat) (σ : List (Option V)) : List (Option V) := match o with
  | none => σ
  | some i => σ.set i none
def clEnds (o : Option Nat) (D : Ends) : Ends := ⟨fun σ H => D.nx (clOut o σ) H, D.rt, fun σ H => D.bk (clOut o σ) H, fun σ H => D.ct (clOut o σ) H⟩
def clWish (K : PySem.W.Frag) (Wo : WX) (D : Ends) : List Cl → WX
  | [] => Wo
  | q :: r => fun cls d σ H => ∃ b, PySem.W.exmOne K cls q.c = some b ∧ (b = true → ∀ a, H a = none → q.ts a cls d (clEnds q.o D) (clIn q.o a σ) H) ∧ (b = false → clWish K Wo D r cls d σ H)
inductive Cls (X : Cx) : List ExceptHandler → List Cl → Prop
  | nil : Cls X [] []
  | plain {x : Str} {q : Cl} {st : Stmt} {sts : List Stmt} {p1 p2 : Pos} {hh : List ExceptHandler} {r : List Cl} (nc : Names X x q.c) (no : q.o = none)
      (su : ∀ (a : Addr) (eo : Obj) (cls : Value) (d : Option Addr) (pn : List (Addr × Obj)), Zc cls d eo → (∃ vs, eo.data = .fields vs) → PSs (X.suite a ((a, eo) :: pn)) (st :: sts) (q.ts a cls d)) (rest : Cls X hh r) :
      Cls X (.ExceptHandler (some (.Name x p1)) none (st :: sts) p2 :: hh) (q :: r)
  | named {x n : Str} {i : Nat} {q : Cl} {st : Stmt} {sts : List Stmt} {p1 p2 : Pos} {hh : List ExceptHandler} {r : List Cl} (nc : Names X x q.c) (no : q.o = some i) (ni : X.N[i]? = some n) (nl : X.env.kindOf n = some .local)
      (su : ∀ (a : Addr) (eo : Obj) (cls : Value) (d : Option Addr) (pn : List (Addr × Obj)), Zc cls d eo → (∃ vs, eo.data = .fields vs) → PSs (X.suite a ((a, eo) :: pn)) (st :: sts) (q.ts a cls d)) (rest : Cls X hh r) :
      Cls X (.ExceptHandler (some (.Name x p1)) (some n) (st :: sts) p2 :: hh) (q :: r)
section
variable {X : Cx} {body : List Stmt} {c0 : ExceptHandler} {cs : List ExceptHandler} {l : List Cl} {pos : Pos} {tb : WX → TS} {Wo : WX}
theorem ps_clauses (hN : X.N.Nodup) (stk : X.stack = X.env :: X.outer) (frm : X.env.frame = some X.env.locals) (tk : Takes X Wo)
    (bod : ∀ (W1 : WX) (pn : List (Addr × Obj)) (xe : Value → Shared → Prop), Takes (X.tr pn xe) W1 → PassesOwn (model X.prog X.w) X.A X.env xe → PSs (X.tr pn xe) body (tb W1))
    (cl : Cls X (c0 :: cs) l) : PS X (.Try body (c0 :: cs) [] [] pos) (fun D σ H => tb (clWish X.K Wo D l) D σ H) := by
  refine ⟨fun pins z σ H D I h => ?_⟩
  have good := I.ok
  have afr : X.A.frames = some (X.env :: X.outer) := by rw [good.frames, stk]
  refine wpAny_Try_except ?_
  refine wpAny_mono ((bod (clWish X.K Wo D l) (X.pn ++ pins) (fun y z1 => wpAny (model X.prog X.w) X.A (noteFrame y X.env) (fun _ z2 => wpAny (model X.prog X.w) X.A (setFlight y none) (fun _ z3 =>
    wpAny (model X.prog X.w) X.A (handleBy y X.env (c0 :: cs)) (SP X pins D) X.xe z3) X.xe z2) X.xe z1) (fun u z' flies => ?_) PassesOwn.looking).run [] z σ H D (I.toTry _) h) (fun f z1 went => ?_) (fun _ _ y => y)
  · -- something flies
    obtain ⟨a, gr, zI, pins1, σ1, H1, cls, d, rfl, J1, nb, up, sky, na, os, ag, ww⟩ := flies
    have J : Inv X pins σ1 H1 zI := J1.ofTry good
    have sky1 : Sky gr (X.env :: X.outer) a (Zc cls d) X.env.locals z'.heap := by rw [← stk]; exact sky
    show wpAny (model X.prog X.w) X.A (noteFrame (Value.ref a) X.env) _ _ _
    refine Sky.land Zc.steady afr frm sky1 fun g3 fl3 up3 => ?_
    have J3 : Inv X pins σ1 H1 { z' with heap := g3 } := J.landed nb fl3.1 (up.trans up3) os ag
    obtain ⟨eo, fs3, at3, zc3, dt3⟩ := fl3.there
    have outside : ∀ {g : Heap} {o : Obj} {fs : Array Value}, g.FunFrames gr (X.env :: X.outer) → g.get? a = some o → o.data = .fields fs → a ∉ frs (X.env :: X.outer) := fun {g o fs} ff at1 dt hm => by
      obtain ⟨_, o1, at2, not1⟩ := ff.mem hm
      rw [at1] at at2
      cases at2
      exact not1 _ dt
    have nfr := outside fl3.2.2.1 at3 dt3
    have nloc : a ≠ X.env.locals := fun y => nfr (List.mem_filterMap.mpr ⟨X.env, List.mem_cons_self, by rw [frm, y]⟩)
    have nfs : a ∉ X.fs := fun hm => by
      obtain ⟨en, hen, y⟩ := List.mem_filterMap.mp hm
      exact nfr (List.mem_filterMap.mpr ⟨en, List.mem_cons_of_mem _ hen, y⟩)
    have inSuite := J3.suite at3 dt3 na nloc nfs
    -- the class of a clause is looked up, the exception's is matched against it
    have asks : ∀ {x : Str} {c : Value} {p1 : Pos}, Names X x c → ∀ {Q : Value → Shared → Prop} {E : Value → Shared → Prop}, Q c { z' with heap := g3 } → wpAny (model X.prog X.w) (X.A.mark (some (.ref a))) (eval (.Name x p1) X.env) Q E { z' with heap := g3 } := fun {x c p1} nc {Q E} q => by
      obtain ⟨gl, db, mm | ⟨mm, bv, nn⟩⟩ := nc
      · exact ld_glob (X := X.suite a ((a, eo) :: (X.pn ++ pins))) inSuite gl mm q db
      · exact ld_blt (X := X.suite a ((a, eo) :: (X.pn ++ pins))) inSuite gl mm bv q nn db
    have isOf : PySem.W.Looks (model X.prog X.w) g3 (typeOf (.ref a)) cls := fun A Q E s k q => wpAny_typeOf_ref (k _ _ at3) (by rw [zc3.1]; exact q)
    have walk : ∀ {hh : List ExceptHandler} {r : List Cl}, Cls X hh r → clWish X.K Wo D r cls d σ1 H1 →
        wpAny (model X.prog X.w) X.A (handleBy (Value.ref a) X.env hh) (SP X pins D) X.xe { z' with heap := g3 } := by
      intro hh r hk
      induction hk with
      | nil =>
        intro w1
        refine wpAny_handleBy_nil ?_
        obtain ⟨k1, k2, k3, oo, fs, T, oT, tt, at4, zc4, dt4, f1, fr4⟩ := id fl3
        unfold PySem.passOn
        refine wpAny_bind (wpAny_field at4 dt4 f1 ?_)
        rw [if_neg (show ¬ ((Value.ref T == .none) = true) from by simp)]
        have leave : wpAny (model X.prog X.w) X.A (setFlight (Value.ref a) X.env.frame) (fun _ z4 => wpAny (model X.prog X.w) X.A (throw (Value.ref a) : Sem Flow) (SP X pins D) X.xe z4) X.xe { z' with heap := g3 } := by
          rw [frm]
          refine HandSPX.setFlight_upZ fl3 fun g4 at5 up4 => wpAny_throw (tk _ _ ?_)
          exact ⟨a, gr, zI, pins, σ1, H1, cls, d, rfl, J, nb, (up.trans up3).trans up4, .inr (.inr (by rw [stk]; exact at5)), na, os, ag, w1⟩
        first
          | exact wpAny_bind (wpAny_pure (wpAny_bind leave))
          | exact wpAny_bind leave
      | @plain x q st sts p1 p2 hh2 r2 nc no su rest ih =>
        intro w1
        obtain ⟨b, hb1, yes, nay⟩ := w1
        refine wpAny_handleBy_cons (codeAny_handlers_test ?_) (by intro q; cases q)
        refine asks nc ((PySem.W.exm_one (M := model X.prog X.w) J3.kIn isOf hb1).here ?_)
        cases b with
        | false =>
          show wpAny _ X.A (handleBy (Value.ref a) X.env hh2) _ _ _
          exact ih (nay rfl)
        | true =>
          refine codeAny_handlers_suite ?_
          refine HandSPX.lands_againZ fl3 fun g4 fl4 up4 => ?_
          have J4 : Inv X pins σ1 H1 { z' with heap := g4 } := J.landed nb fl4.1 ((up.trans up3).trans up4) os ag
          obtain ⟨eo4, fs4, at4, zc4, dt4⟩ := fl4.there
          have y := yes rfl a na
          rw [no] at y
          refine wpAny_mono ((su a eo4 cls d (X.pn ++ pins) zc4 ⟨_, dt4⟩).run [] _ _ H1 _ (J4.suite at4 dt4 na nloc nfs) y) (fun f z6 went => ?_) (fun _ _ y => False.elim y)
          cases f with
          | next => obtain ⟨σ6, H6, S6, q6⟩ := went; exact ⟨_, _, S6.unsuite good, q6⟩
          | brk => obtain ⟨σ6, H6, S6, q6⟩ := went; exact ⟨_, _, S6.unsuite good, q6⟩
          | cont => obtain ⟨σ6, H6, S6, q6⟩ := went; exact ⟨_, _, S6.unsuite good, q6⟩
          | ret u => obtain ⟨v6, σ6, H6, S6, r6, q6⟩ := went; exact ⟨_, _, _, S6.unsuite good, r6, q6⟩
      | @named x n i q st sts p1 p2 hh2 r2 nc no ni nl su rest ih =>
        intro w1
        obtain ⟨b, hb1, yes, nay⟩ := w1
        refine wpAny_handleBy_cons (codeAny_handlers_test ?_) (by intro q; cases q)
        refine asks nc ((PySem.W.exm_one (M := model X.prog X.w) J3.kIn isOf hb1).here ?_)
        cases b with
        | false =>
          show wpAny _ X.A (handleBy (Value.ref a) X.env hh2) _ _ _
          exact ih (nay rfl)
        | true =>
          refine codeAny_handlers_suite_as ?_
          refine HandSPX.lands_againZ fl3 fun g4 fl4 up4 => ?_
          have J4 : Inv X pins σ1 H1 { z' with heap := g4 } := J.landed nb fl4.1 ((up.trans up3).trans up4) os ag
          obtain ⟨eo4, fs4, at4, zc4, dt4⟩ := fl4.there
          have y := yes rfl a na
          rw [no] at y
          refine store_ok (X := X.suite a ((a, eo4) :: (X.pn ++ pins))) (v := .ref a) (J4.suite at4 dt4 na nloc nfs) hN ni (.inl nl) rfl (fun z5 S5 => ?_) (.inr nl)
          refine wpAny_mono ((su a eo4 cls d (X.pn ++ pins) zc4 ⟨_, dt4⟩).run [] z5 _ H1 _ S5 y) (fun f z6 went => ?_) (fun _ _ y => False.elim y)
          have over : ∀ {σ6 : List (Option V)} {H6 : Hp} {Q : Shared → Prop}, Inv (X.suite a ((a, eo4) :: (X.pn ++ pins))) [] σ6 H6 z6 → (∀ z7, Inv X pins (σ6.set i none) H6 z7 → Q z7) →
              wpAny (model X.prog X.w) X.A (do bindName X.env n .none; unbindBehindTheSuite X.env n p2) (fun _ z7 => Q z7) X.xe z6 := fun {σ6 H6 Q} S6 hq => gone_ok (S6.unsuite good) hN ni nl hq
          cases f with
          | next => obtain ⟨σ6, H6, S6, q6⟩ := went; exact over S6 fun z7 J7 => ⟨_, _, J7, q6⟩
          | brk => obtain ⟨σ6, H6, S6, q6⟩ := went; exact over S6 fun z7 J7 => ⟨_, _, J7, q6⟩
          | cont => obtain ⟨σ6, H6, S6, q6⟩ := went; exact over S6 fun z7 J7 => ⟨_, _, J7, q6⟩
          | ret u => obtain ⟨v6, σ6, H6, S6, r6, q6⟩ := went; exact over S6 fun z7 J7 => ⟨_, _, _, J7, r6, q6⟩
    exact walk cl ww
  · cases f with
    | next => obtain ⟨σ1, H1, J1, q⟩ := went; exact wpAny_execs_nil ⟨σ1, H1, J1.ofTry good, q⟩
    | brk => obtain ⟨σ1, H1, J1, q⟩ := went; exact ⟨σ1, H1, J1.ofTry good, q⟩
    | cont => obtain ⟨σ1, H1, J1, q⟩ := went; exact ⟨σ1, H1, J1.ofTry good, q⟩
    | ret u => obtain ⟨v, σ1, H1, J1, r, q⟩ := went; exact ⟨v, σ1, H1, J1.ofTry good, r, q⟩
end
end Cs
end
section
set_option Elab.async false
set_option linter.all false
set_option maxRecDepth 100000
set_option maxHeartbeats 4000000
/-! SOUND 19: what a suite says of the error it holds; try. -/
namespace Cs
open PySem L2 Cz PyProof.Rows
/-- what must be known of the errors' classes -/
structure XFacts (G : Fx) (K : PySem.W.Frag) : Prop where
  cls : ∀ c C, G.xa c = some C → XfC K C ∧ (PySem.W.clsIn K C).isSome = true ∧ PySem.W.findIn K (.ref C) "__class__" = some (some (.builtin "object.__class__")) ∧ PySem.W.mroIn K C (.type "object") = some true ∧ PySem.W.findIn K (.ref C) (G.xf c) = some none
  sub : ∀ c C c' C', G.xa c = some C → G.xa c' = some C' → PySem.W.exmOne K (.ref C) (.ref C') = some (G.M.sub c c') ∧ PySem.W.kitOne K (.ref C) (.ref C') = some (G.M.sub c c')
  gt : PySem.W.specialIn K (.builtin "object.__class__") "__get__" = some (some (.builtin "getset_descriptor.__get__"))
  tk : PySem.W.takesIn K (.builtin "object.__class__") = some true
  ve : ∀ c C, G.xa c = some C → PySem.W.kitOne K (.ref C) (.type "ValueError") = some (G.M.sub c 97)
/-- isinstance(e, c), e the error that the suite holds, with its own dict -/
def rIsD (K : PySem.W.Frag) (D a : Addr) (d : Option Addr) : List V → Hp → VK → Prop := fun xs H Q => ∃ (c : V) (cv : Value) (b : Bool), xs = [.ref a, c] ∧ (∀ u, RelV c u → u = cv) ∧ (∃ dd fs, d = some dd ∧ H dd = some (.xd fs)) ∧ PySem.W.kitOne K (.ref D) cv = some b ∧ Q (.bl b) H
theorem call_isD {X : Cx} {G : Fx} {a D : Addr} {eo : Obj} {d : Option Addr} {pn : List (Addr × Obj)} {c : Nat} (XF : XFacts G X.K) (hc : G.xa c = some D) (hz : Zc (.ref D) d eo) (hf : ∃ vs, eo.data = .fields vs) : CallR (X.suite a ((a, eo) :: pn)) (.builtin "isinstance") (rIsD X.K D a d) := by
  intro pins z σ H xs us Q I rv h
  obtain ⟨x, cv, b, rfl, hcv, ⟨dd, fs, rfl, hdd⟩, hk, q⟩ := h
  obtain ⟨T, k0, k7, k10, _⟩ := XF.cls c D hc
  cases rv with
  | cons rx rr =>
    cases rr with
    | cons rt rr =>
      cases rr
      cases rx
      have ec := hcv _ rt
      subst ec
      obtain ⟨at1, _⟩ := I.pin (a, eo) (List.mem_append.mpr (.inl List.mem_cons_self))
      obtain ⟨vs, dt⟩ := hf
      have hx : ObjOk X.prog X.w H z.heap dd (.xd fs) := I.hok dd _ hdd
      obtain ⟨mA, hns, hr⟩ := hx
      obtain ⟨od, ho, hl⟩ := lookIn_ns hns
      have J : PySem.W.InstAt z.heap a eo D (some od) := ⟨at1, hz.1, by unfold PySem.W.notCls; rw [dt] <;> rfl, by rw [hz.2]; exact ho⟩
      exact PySem.W.kia_one (PySem.W.kitx_exc k0 T.ga T.gg T.exC k7 XF.gt XF.tk k10) I.kIn J hk (fun y => nomatch y) fun tk => ⟨.bl b, H, I.kept (t' := tk) fun _ _ y => y, rfl, q⟩

/-! ### expressions of a suite -/
mutual
def xev (M : Mo) (o : Option Nat) : Cz.E → Exn → Option D
  | .c d, _ => some d
  | .exf j f, x => if o = some j ∧ M.fld x.cls = f then some x.arg else none
  | .exis j c, x => if o = some j then some (.bl (M.sub x.cls c)) else none
  | .tup es, x => (xevs M o es x).map .tup
  | .ife (.exis j c) a b, x => if o = some j then (if M.sub x.cls c then xev M o a x else xev M o b x) else none
  | _, _ => none
def xevs (M : Mo) (o : Option Nat) : Es → Exn → Option (List D)
  | .nil, _ => some []
  | .cons e es, x => match xev M o e x, xevs M o es x with
    | some d, some ds => some (d :: ds)
    | _, _ => none
end
mutual
/-- the grammar -/
def okX (o : Option Nat) : Cz.E → Bool
  | .c _ => true
  | .exf j _ => o == some j
  | .exis j _ => o == some j
  | .tup es => okXs o es
  | .ife (.exis j _) a b => o == some j && okX o a && okX o b
  | _ => false
def okXs (o : Option Nat) : Es → Bool
  | .nil => true
  | .cons e es => okX o e && okXs o es
end
theorem ress_p (ρ : List Sl) : ∀ ds : List D, ress ρ (ds.map Val.p) = some ds
  | [] => rfl
  | d :: ds => by
    show ress ρ (Val.p d :: ds.map Val.p) = _
    unfold ress
    rw [ress_p ρ ds]
    rfl
theorem noB_p : ∀ ds : List D, noB (ds.map Val.p) = true
  | [] => rfl
  | d :: ds => by
    show noB (Val.p d :: ds.map Val.p) = _
    unfold noB
    rw [List.all_cons]
    exact noB_p ds
mutual
theorem xev_ok {M : Mo} {C : Nat → List Cz.Arg → Rc} {o : Option Nat} {x : Exn} {ρ : List Sl} (hs : ∀ i, o = some i → ρ[i]? = some (.exn x)) : ∀ (e : Cz.E), okX o e = true → evE M C e ρ = (match xev M o e x with | some d => .ok (.p d) ρ | none => .bad)
  | .c d, _ => by unfold evE xev; rfl
  | .exf j f, h => by
    have ej : o = some j := by unfold okX at h; exact eq_of_beq h
    unfold evE xev
    rw [hs j ej]
    by_cases hf : M.fld x.cls = f
    · rw [if_pos ⟨ej, hf⟩]; simp only; rw [if_pos hf]
    · rw [if_neg (fun z => hf z.2)]; simp only; rw [if_neg hf]
  | .exis j c, h => by
    have ej : o = some j := by unfold okX at h; exact eq_of_beq h
    unfold evE xev
    rw [hs j ej, if_pos ej]
  | .tup es, h => by
    unfold okX at h
    unfold evE xev
    rw [xevs_ok hs es h]
    cases xevs M o es x with
    | none => rfl
    | some ds =>
      simp only [Option.map_some]
      rw [ress_p, noB_p]
      rfl
  | .ife (.exis j c) a b, h => by
    unfold okX at h
    rw [Bool.and_eq_true, Bool.and_eq_true] at h
    have ej : o = some j := eq_of_beq h.1.1
    have e1 : evE M C (.exis j c) ρ = .ok (.p (.bl (M.sub x.cls c))) ρ := by
      unfold evE
      rw [hs j ej]
    rw [evE, e1, xev, if_pos ej]
    simp only [fz, res, Option.bind_some, truth]
    cases M.sub x.cls c with
    | true => rw [if_pos rfl]; exact xev_ok hs a h.1.2
    | false => rw [if_neg Bool.false_ne_true]; exact xev_ok hs b h.2
theorem xevs_ok {M : Mo} {C : Nat → List Cz.Arg → Rc} {o : Option Nat} {x : Exn} {ρ : List Sl} (hs : ∀ i, o = some i → ρ[i]? = some (.exn x)) : ∀ (es : Es), okXs o es = true → evEs M C es ρ = (match xevs M o es x with | some ds => .ok (ds.map Val.p) ρ | none => .bad)
  | .nil, _ => by unfold evEs xevs; rfl
  | .cons e es, h => by
    unfold okXs at h
    rw [Bool.and_eq_true] at h
    unfold evEs xevs
    rw [xev_ok hs e h.1]
    cases xev M o e x with
    | none => rfl
    | some d =>
      simp only
      rw [xevs_ok hs es h.2]
      cases xevs M o es x with
      | none => rfl
      | some ds => rfl
end
section
variable (G : Fx) (K : PySem.W.Frag) (w : World) (o : Option Nat) (a : Addr) (cls : Value) (d : Option Addr)
/-- what stands when a suite's expression is come to -/
def SuAt (F H : Hp) (σ : List (Option V)) (ρ : List Sl) (x : Exn) : Prop := (∃ B, Rep K w B F H σ ρ) ∧ XRep G.xa G.xf K w F H x cls d ∧ ∀ i, o = some i → ρ[i]? = some (.exn x) ∧ σ[i]? = some (some (V.ref a))
def tX (e : Cz.E) : TE := fun σ H Q => ∃ F ρ x dv, SuAt G K w o a cls d F H σ ρ x ∧ xev G.M o e x = some dv ∧ ∀ y F' H', Grow F H F' H' → DV K w F' y dv → Q y H'
def tXs (es : Es) : TA := fun σ H Q => ∃ F ρ x dvs, SuAt G K w o a cls d F H σ ρ x ∧ xevs G.M o es x = some dvs ∧ ∀ ys F' H', Grow F H F' H' → DVs K w F' ys dvs → Q ys H'
end
theorem XRep.grow {xa : Nat → Option Addr} {xf : Nat → Str} {K : PySem.W.Frag} {w : World} {F H F' H' : Hp} {x : Exn} {cls : Value} {d : Option Addr} (g : Grow F H F' H') (h : XRep xa xf K w F H x cls d) : XRep xa xf K w F' H' x cls d := by
  obtain ⟨C, dd, v, a, b, c, e, f⟩ := h
  exact ⟨C, dd, v, a, b, c, g.h _ _ e, f.mono g.f⟩
theorem SuAt.grow {G : Fx} {K : PySem.W.Frag} {w : World} {o : Option Nat} {a : Addr} {cls : Value} {d : Option Addr} {F H F' H' : Hp} {σ : List (Option V)} {ρ : List Sl} {x : Exn} (h : SuAt G K w o a cls d F H σ ρ x) (g : Grow F H F' H') : SuAt G K w o a cls d F' H' σ ρ x := by
  obtain ⟨⟨B, r⟩, b, c⟩ := h
  exact ⟨⟨B, r.grow g⟩, b.grow g, c⟩
theorem SuAt.ex {G : Fx} {K : PySem.W.Frag} {w : World} {o : Option Nat} {a : Addr} {cls : Value} {d : Option Addr} {F H : Hp} {σ : List (Option V)} {ρ : List Sl} {x : Exn} (h : SuAt G K w o a cls d F H σ ρ x) : Ex F H := by
  obtain ⟨⟨B, r⟩, _, _⟩ := h
  exact r.fh
section
variable {X : Cx} {G : Fx} {o : Option Nat} {a : Addr} {eo : Obj} {cls : Value} {d : Option Addr} {pn : List (Addr × Obj)}
theorem xE_c {Y : Cx} {dv : D} {v : V} {e : Expr} (h : PE Y e (tC v)) (hd : ∀ H, DV Y.K Y.w H v dv) : PE Y e (tX G Y.K Y.w o a cls d (.c dv)) := by
  refine h.imp fun σ H Q h => ?_
  obtain ⟨F, ρ, x, dv', su, hx, q⟩ := h
  unfold xev at hx
  cases hx
  exact q v F H (.refl su.ex) (hd F)
theorem xE_exf (XF : XFacts G X.K) (hz : Zc cls d eo) (hf : ∃ vs, eo.data = .fields vs) {j f : Nat} {n nm : Str} {px pos : Pos} (hN : X.N[j]? = some n) (hv : Vis X.env.scope n) (hd : (n == ("__debug__" : Str)) = false) (hcd : (n == ("__classdict__" : Str)) = false)
    (hnm : ∀ c C, G.xa c = some C → G.M.fld c = f → G.xf c = nm) : PE (X.suite a ((a, eo) :: pn)) (.Attribute (.Name n px) nm pos) (tX G X.K X.w o a cls d (.exf j f)) := by
  refine ⟨fun pins z σ H Q I h => ?_⟩
  obtain ⟨F, ρ, x, dv', su, hx, q⟩ := h
  unfold xev at hx
  split at hx
  · rename_i hjf
    obtain ⟨ej, hjf⟩ := hjf
    cases hx
    obtain ⟨_, ⟨C, dd, v, xa, ec, ed, hdd, dv⟩, sl⟩ := id su
    obtain ⟨s1, s2⟩ := sl j ej
    obtain ⟨T, _, _, _, hno⟩ := XF.cls _ _ xa
    have en := hnm _ _ xa hjf
    subst en
    exact (pe_xf (te := fun σ H Q => ∃ v, σ[j]? = some (some v) ∧ Q v H) T hno hz hf (pe_var (X := X.suite a ((a, eo) :: pn)) hN hv hd hcd) rfl).run pins z σ H Q I ⟨_, s2, rfl, ec, dd, _, v, ed, hdd, by simp, q v F H (.refl su.ex) dv⟩
  · cases hx
theorem xE_exis (XF : XFacts G X.K) (hz : Zc cls d eo) (hf : ∃ vs, eo.data = .fields vs) {j c : Nat} {n cn : Str} {C : Addr} {px pc p pos : Pos} (hN : X.N[j]? = some n) (hv : Vis X.env.scope n) (hd : (n == ("__debug__" : Str)) = false) (hcd : (n == ("__classdict__" : Str)) = false)
    (hC : G.xa c = some C) (hcl : PE (X.suite a ((a, eo) :: pn)) (.Name cn pc) (tC (.ref C))) (hg : Gl X "isinstance") (hm : X.mg "isinstance" = none) : PE (X.suite a ((a, eo) :: pn)) (.Call (.Name "isinstance" p) [.Name n px, .Name cn pc] [] pos) (tX G X.K X.w o a cls d (.exis j c)) := by
  refine ⟨fun pins z σ H Q I h => ?_⟩
  obtain ⟨F, ρ, x, dv', su, hx, q⟩ := h
  unfold xev at hx
  split at hx
  · rename_i ej
    cases hx
    obtain ⟨_, ⟨C1, dd, v, xa, ec, ed, hdd, dv⟩, sl⟩ := id su
    obtain ⟨s1, s2⟩ := sl j ej
    subst ec
    have ha := pa_cons (pe_var (X := X.suite a ((a, eo) :: pn)) (pos := px) hN hv hd hcd) (pa_cons hcl pa_nil)
    obtain ⟨sb1, sb2⟩ := XF.sub _ _ _ _ xa hC
    exact (pe_callB (call_isD (X := X) (pn := pn) XF xa hz hf) hg hm rfl ha).run pins z σ H Q I ⟨_, s2, V.ref C, _, _, rfl, fun u r => (show u = Value.ref C from r), ⟨dd, _, ed, hdd⟩, sb2, q _ F H (.refl su.ex) (.bl _)⟩
  · cases hx
/-- isinstance(e, ValueError) -/
theorem xE_exisV (XF : XFacts G X.K) (hz : Zc cls d eo) (hf : ∃ vs, eo.data = .fields vs) {j c : Nat} {n cn : Str} {px pc p pos : Pos} (hN : X.N[j]? = some n) (hv : Vis X.env.scope n) (hd : (n == ("__debug__" : Str)) = false) (hcd : (n == ("__classdict__" : Str)) = false)
    (hC : c = 97) (hcl : PE (X.suite a ((a, eo) :: pn)) (.Name cn pc) (tC (.ty "ValueError"))) (hg : Gl X "isinstance") (hm : X.mg "isinstance" = none) : PE (X.suite a ((a, eo) :: pn)) (.Call (.Name "isinstance" p) [.Name n px, .Name cn pc] [] pos) (tX G X.K X.w o a cls d (.exis j c)) := by
  refine ⟨fun pins z σ H Q I h => ?_⟩
  obtain ⟨F, ρ, x, dv', su, hx, q⟩ := h
  unfold xev at hx
  split at hx
  · rename_i ej
    cases hx
    obtain ⟨_, ⟨C1, dd, v, xa, ec, ed, hdd, dv⟩, sl⟩ := id su
    obtain ⟨s1, s2⟩ := sl j ej
    subst ec
    have ha := pa_cons (pe_var (X := X.suite a ((a, eo) :: pn)) (pos := px) hN hv hd hcd) (pa_cons hcl pa_nil)
    subst hC
    have sb2 := XF.ve _ _ xa
    exact (pe_callB (call_isD (X := X) (pn := pn) XF xa hz hf) hg hm rfl ha).run pins z σ H Q I ⟨_, s2, V.ty "ValueError", _, _, rfl, fun u r => (show u = Value.type "ValueError" from r), ⟨dd, _, ed, hdd⟩, sb2, q _ F H (.refl su.ex) (.bl _)⟩
  · cases hx
theorem xE_ife {e1 e2 t : Cz.E} {j c : Nat} {et ea eb : Expr} {pos : Pos} {Y : Cx} (ht : t = .exis j c) (hp : ∀ whole, isTrue et Y.env whole = (do let v ← whole; standAt et.pos; holding [v] (truthy v))) (h1 : PE Y et (tX G Y.K Y.w o a cls d t)) (h2 : PE Y ea (tX G Y.K Y.w o a cls d e1)) (h3 : PE Y eb (tX G Y.K Y.w o a cls d e2)) :
    PE Y (.IfExp et ea eb pos) (tX G Y.K Y.w o a cls d (.ife t e1 e2)) := by
  subst ht
  refine (pe_ifExp (pt_truth h1 hp) h2 h3).imp fun σ H Q h => ?_
  obtain ⟨F, ρ, x, dv, su, hx, q⟩ := h
  unfold xev at hx
  split at hx
  · rename_i ej
    refine ⟨F, ρ, x, .bl (G.M.sub x.cls c), su, by unfold xev; rw [if_pos ej], fun y F' H' g dvy => ?_⟩
    cases dvy
    refine ⟨G.M.sub x.cls c, rfl, ?_⟩
    cases hs : G.M.sub x.cls c with
    | true =>
      rw [hs] at hx
      rw [if_pos rfl]
      exact ⟨F', ρ, x, dv, su.grow g, hx, fun y F2 H2 g2 => q y F2 H2 (g.trans g2)⟩
    | false =>
      rw [hs] at hx
      rw [if_neg Bool.false_ne_true]
      exact ⟨F', ρ, x, dv, su.grow g, hx, fun y F2 H2 g2 => q y F2 H2 (g.trans g2)⟩
  · cases hx
theorem xA_nil {Y : Cx} : PA Y [] (tXs G Y.K Y.w o a cls d .nil) := by
  refine pa_nil.imp fun σ H Q h => ?_
  obtain ⟨F, ρ, x, dvs, su, hx, q⟩ := h
  unfold xevs at hx
  cases hx
  exact q [] F H (.refl su.ex) .nil
theorem xA_cons {Y : Cx} {e : Cz.E} {es : Es} {ea : Expr} {eas : List Expr} (he : PE Y ea (tX G Y.K Y.w o a cls d e)) (hs : PA Y eas (tXs G Y.K Y.w o a cls d es)) (hst : starEach (ea :: eas) Y.env = (false, eval ea Y.env) :: starEach eas Y.env) : PA Y (ea :: eas) (tXs G Y.K Y.w o a cls d (.cons e es)) := by
  refine (pa_cons he hs hst).imp fun σ H Q h => ?_
  obtain ⟨F, ρ, x, dvs, su, hx, q⟩ := h
  unfold xevs at hx
  cases h1 : xev G.M o e x with
  | none => rw [h1] at hx; cases hx
  | some d1 =>
    cases h2 : xevs G.M o es x with
    | none => rw [h1, h2] at hx; cases hx
    | some ds =>
      rw [h1, h2] at hx
      cases hx
      exact ⟨F, ρ, x, d1, su, h1, fun y F' H' g dv => ⟨F', ρ, x, ds, su.grow g, h2, fun ys F2 H2 g2 dvs => q (y :: ys) F2 H2 (g.trans g2) (.cons (dv.mono g2.f) dvs)⟩⟩
theorem xevs_len {M : Mo} {x : Exn} : ∀ {es : Es} {ds : List D}, xevs M o es x = some ds → ds.length = esLen es
  | .nil, ds, h => by unfold xevs at h; cases h; rfl
  | .cons e es, ds, h => by
    unfold xevs at h
    split at h
    · rename_i d ds h1 h2
      cases h
      show ds.length + 1 = esLen es + 1
      rw [xevs_len h2]
    · cases h
theorem xE_tup {Y : Cx} {es : Es} {eas : List Expr} {k : Nat} {pos : Pos} (hl : esLen es ≤ Lim) (hs : PA Y eas (tXs G Y.K Y.w o a cls d es)) : PE Y (.Tuple eas k pos) (tX G Y.K Y.w o a cls d (.tup es)) := by
  refine (pe_tupN hs).imp fun σ H Q h => ?_
  obtain ⟨F, ρ, x, dv, su, hx, q⟩ := h
  unfold xev at hx
  obtain ⟨ds, h1, h2⟩ := Option.map_eq_some_iff.mp hx
  subst h2
  refine ⟨F, ρ, x, ds, su, h1, fun ys F' H' g dvs => ?_⟩
  have l : ds.length ≤ Lim := by rw [xevs_len h1]; exact hl
  refine ⟨lim_size (by rw [dvs.length]; exact l), fun p o hp hd => ?_⟩
  have g2 := Grow.data (o := .frz o (.tup ys)) g.fh hp
  exact q _ _ _ (g.trans g2) (.tup (SqN.new hd) (dvs.mono g2.f) l)
/-- a suite -/
def tSu (G : Fx) (K : PySem.W.Frag) (w : World) (o : Option Nat) (ss : Ss) (a : Addr) (cls : Value) (d : Option Addr) : TS := fun D σ H => ∃ B F ρ x, Rep K w B F H σ ρ ∧ XRep G.xa G.xf K w F H x cls d ∧ (∀ i, o = some i → ρ[i]? = some (.exn x) ∧ σ[i]? = some (some (V.ref a))) ∧ RsOk K w B W0 F D (evSs G.M G.C ss ρ)
theorem evS_ret {M : Mo} {C : Nat → List Cz.Arg → Rc} {e : Cz.E} {ρ : List Sl} (ne : ∀ i, e ≠ .var i) : evS M C (.ret e) ρ = (match evE M C e ρ with
      | .ok (.b _) _ => Rs.bad
      | .ok v ρ1 => .rt v ρ1
      | .ex x ρ1 => .ex x ρ1
      | .bad => .bad) := by
  cases e with
  | var i => exact absurd rfl (ne i)
  | _ => unfold evS; rfl
theorem su_ret {Y : Cx} {e : Cz.E} {ea : Expr} {pos : Pos} (hk : okX o e = true) (he : PE Y ea (tX G Y.K Y.w o a cls d e)) : PSs Y [.Return (some ea) pos] (tSu G Y.K Y.w o (.cons (.ret e) .nil) a cls d) := by
  refine (pss_one (ps_ret he)).imp fun D σ H h => ?_
  obtain ⟨B, F, ρ, x, r, xr, sl, h⟩ := h
  have ne : ∀ i, e ≠ .var i := fun i z => by subst z; unfold okX at hk; cases hk
  have h : RsOk Y.K Y.w B W0 F D (match evE G.M G.C e ρ with
      | .ok (.b _) _ => .bad
      | .ok v ρ1 => .rt v ρ1
      | .ex x ρ1 => .ex x ρ1
      | .bad => .bad) := by
    unfold evSs at h
    rw [evS_ret ne] at h
    cases h5 : evE G.M G.C e ρ with
    | ok v ρ1 => cases v <;> (rw [h5] at h; exact h)
    | ex x ρ1 => rw [h5] at h; exact h
    | bad => rw [h5] at h; exact h
  rw [xev_ok (fun i hi => (sl i hi).1) e hk] at h
  cases h1 : xev G.M o e x with
  | none => rw [h1] at h; exact h.elim
  | some dv =>
    rw [h1] at h
    exact ⟨F, ρ, x, dv, ⟨⟨B, r⟩, xr, sl⟩, h1, fun y F' H' g dvy => h F' H' σ y g.f (r.grow g) dvy⟩
end
end Cs
end
section
set_option Elab.async false
set_option linter.all false
set_option maxRecDepth 100000
set_option maxHeartbeats 4000000
/-! SOUND 20: try. -/
namespace Cs
open PySem L2 Cz PyProof.Rows
section
variable {K : PySem.W.Frag} {w : World} {B : Bas} {F H F' H' : Hp} {σ σ' : List (Option V)} {ρ ρ' : List Sl}
/-- the entry, with what is data by now -/
def Bf (B : Bas) (F : Hp) : Bas := ⟨F, B.H0, B.L⟩
theorem Rep.rebase (r : Rep K w B F H σ ρ) : Rep K w (Bf B F) F H σ ρ := ⟨.refl F, r.fh, r.len, r.dat, r.own, r.apart, r.lent, r.frame, fun _ _ h => h⟩
theorem Rep.unbase (r0 : Rep K w B F H σ ρ) (r : Rep K w (Bf B F) F' H' σ' ρ') : Rep K w B F' H' σ' ρ' :=
  ⟨r0.fe.trans r.fe, r.fh, r.len, r.dat, r.own, r.apart, r.lent, r.frame, fun a h1 h2 => r.mask a h1 (r0.mask a h1 h2)⟩
end
/-- the clauses as the walk wants them -/
inductive ClOf (G : Fx) (K : PySem.W.Frag) (w : World) : Hs → List Cl → Prop
  | nil : ClOf G K w .nil []
  | cons {c : Nat} {C : Addr} {o : Option Nat} {ss : Ss} {hs : Hs} {l : List Cl} : G.xa c = some C → ClOf G K w hs l → ClOf G K w (.cons c o ss hs) (⟨.ref C, o, tSu G K w o ss⟩ :: l)
section
variable {X : Cx} {G : Fx} {B : Bas} {W : Wi}
theorem clauses_ok (XF : XFacts G X.K) {F : Hp} {D : Ends} {hs : Hs} {l : List Cl} (cl : ClOf G X.K X.w hs l) : ∀ {F1 H1 : Hp} {σ1 : List (Option V)} {ρ1 : List Sl} {x : Exn} {cls : Value} {d : Option Addr}, Ex F F1 → Rep X.K X.w B F1 H1 σ1 ρ1 → XRep G.xa G.xf X.K X.w F1 H1 x cls d → RsOk X.K X.w B W F D (evHs G.M G.C hs x ρ1) →
    clWish X.K (WD G X.K X.w B W) D l cls d σ1 H1 := by
  induction cl with
  | nil =>
    intro F1 H1 σ1 ρ1 x cls d e r xr h
    unfold evHs at h
    exact ⟨F1, x, ρ1, r, xr, h⟩
  | @cons c C o ss hs l hC rest ih =>
    intro F1 H1 σ1 ρ1 x cls d e r xr h
    obtain ⟨C1, dd, v, xa, ec, ed, hdd, dv⟩ := id xr
    obtain ⟨sb1, sb2⟩ := XF.sub _ _ _ _ xa hC
    subst ec
    refine ⟨G.M.sub x.cls c, sb1, fun yes a na => ?_, fun nay => ?_⟩
    · unfold evHs at h
      rw [if_pos yes] at h
      cases o with
      | none =>
        simp only at h
        refine ⟨B, F1, ρ1, x, r, xr, fun i z => (by cases z), ?_⟩
        cases h1 : evSs G.M G.C ss ρ1 with
        | nx ρ2 => rw [h1] at h; exact fun F' H' σ' e' r' => h F' H' σ' (e.trans e') r'
        | rt v ρ2 => rw [h1] at h; exact fun F' H' σ' u e' r' => h F' H' σ' u (e.trans e') r'
        | ct ρ2 => rw [h1] at h; exact h.elim
        | bk ρ2 => rw [h1] at h; exact h.elim
        | ex y ρ2 => rw [h1] at h; exact h.elim
        | bad => rw [h1] at h; exact h.elim
      | some i =>
        simp only at h
        by_cases fr : free ρ1 i = true
        · rw [if_pos fr] at h
          have hlt : i < ρ1.length := by
            unfold free at fr
            split at fr
            · cases fr
            · rename_i y; exact (List.getElem?_eq_some_iff.mp y).1
            · cases fr
          refine ⟨B, F1, ρ1.set i (.exn x), x, r.store (z := .exn x) fr trivial, xr, fun j z => ?_, ?_⟩
          · cases z
            exact ⟨List.getElem?_set_self hlt, List.getElem?_set_self (by rw [r.len]; exact hlt)⟩
          · cases h1 : evSs G.M G.C ss (ρ1.set i (.exn x)) with
            | nx ρ2 =>
              rw [h1] at h
              simp only at h
              by_cases fr2 : free ρ2 i = true
              · rw [if_pos fr2] at h
                exact fun F' H' σ' e' r' => h F' H' _ (e.trans e') (r'.store (z := .no) (y := none) fr2 trivial)
              · rw [if_neg fr2] at h; exact h.elim
            | rt v ρ2 => rw [h1] at h; exact fun F' H' σ' u e' r' => h F' H' σ' u (e.trans e') r'
            | ct ρ2 => rw [h1] at h; exact h.elim
            | bk ρ2 => rw [h1] at h; exact h.elim
            | ex y ρ2 => rw [h1] at h; exact h.elim
            | bad => rw [h1] at h; exact h.elim
        · rw [if_neg fr] at h; exact h.elim
    · unfold evHs at h
      rw [if_neg (by rw [nay]; exact Bool.false_ne_true)] at h
      exact ih e r xr h
theorem sS_try (XF : XFacts G X.K) (hN : X.N.Nodup) (stk : X.stack = X.env :: X.outer) (frm : X.env.frame = some X.env.locals) (tk : Takes X (WD G X.K X.w B W)) {body : Ss} {hs : Hs} {sts : List Stmt} {c0 : ExceptHandler} {cs : List ExceptHandler} {l : List Cl} {pos : Pos}
    (hb : ∀ (B : Bas) (W : Wi) (pn : List (Addr × Obj)) (xe : Value → Shared → Prop), Takes (X.tr pn xe) (WD G X.K X.w B W) → PassesOwn (model X.prog X.w) X.A X.env xe → PSs (X.tr pn xe) sts (tR X.K X.w B W (evSs G.M G.C body)))
    (cl : ClOf G X.K X.w hs l) (hh : Cls X (c0 :: cs) l) : PS X (.Try sts (c0 :: cs) [] [] pos) (tR X.K X.w B W (evS G.M G.C (.try_ body hs))) := by
  refine (ps_clauses (tb := fun W1 D σ H => ∃ B W, (∀ cls d σ' H', WD G X.K X.w B W cls d σ' H' → W1 cls d σ' H') ∧ tR X.K X.w B W (evSs G.M G.C body) D σ H) hN stk frm tk (fun W1 pn xe tk1 po => ⟨fun pins s σ H D I ⟨B, W, i, q⟩ => ?_⟩) hh).imp (tR_imp fun D σ H F ρ r h => ?_)
  · exact (hb B W pn xe (fun u s' ⟨a, b1, sI, pins, σ, H, cls, d, e, I, nb, up, sky, na, os, ag, w⟩ => tk1 u s' ⟨a, b1, sI, pins, σ, H, cls, d, e, I, nb, up, sky, na, os, ag, i _ _ _ _ w⟩) po).run pins s σ H D I q
  · rw [evS] at h
    refine ⟨Bf B F, fun x ρ1 => RsOk X.K X.w B W F D (evHs G.M G.C hs x ρ1), fun cls d σ' H' ⟨F1, x, ρ1, r1, xr, hw⟩ => clauses_ok XF cl r1.fe (r.unbase r1) xr hw, F, ρ, r.rebase, ?_⟩
    cases h1 : evSs G.M G.C body ρ with
    | nx ρ2 => rw [h1] at h; exact fun F' H' σ' e' r' => h F' H' σ' e' (r.unbase r')
    | ct ρ2 => rw [h1] at h; exact fun F' H' σ' e' r' => h F' H' σ' e' (r.unbase r')
    | bk ρ2 => rw [h1] at h; exact fun F' H' σ' e' r' => h F' H' σ' e' (r.unbase r')
    | rt v ρ2 =>
      rw [h1] at h
      intro F' H' σ' u e' r' ev
      refine h F' H' σ' u e' (r.unbase r') ?_
      cases v with
      | p _ => exact ev
      | f _ => exact ev
      | b _ => exact ev
    | ex x ρ2 => rw [h1] at h; exact h
    | bad => rw [h1] at h; exact h
end
end Cs
end
section
set_option Elab.async false
set_option linter.all false
set_option maxRecDepth 100000
set_option maxHeartbeats 4000000
/-! SOUND 21: constants, built-in functions, dict displays. -/
namespace Cs
open PySem L2 Cz PyProof.Rows
/-- a written constant -/
def cstV : Const → Option (V × D)
  | .none => some (.non, .non)
  | .bool b => some (.bl b, .bl b)
  | .int i => some (.int i, .int i)
  | .str x => if sOk x.cps.toList then some (.str x, .str x.cps.toList) else none
  | _ => none
theorem st_back (x : Str) : st x.cps.toList = x := by cases x; simp [st]
theorem cst_dv {K : PySem.W.Frag} {w : World} {k : Const} {v : V} {d : D} (h : cstV k = some (v, d)) (H : Hp) : DV K w H v d := by
  cases k with
  | none => cases h; exact .non
  | bool b => cases h; exact .bl b
  | int i => cases h; exact .int i
  | str x =>
    have h : (if sOk x.cps.toList = true then some (V.str x, D.str x.cps.toList) else none) = some (v, d) := h
    split at h
    · rename_i ok
      cases h
      have := DV.str (K := K) (w := w) (H := H) x.cps.toList ok
      rw [st_back] at this
      exact this
    · cases h
  | float _ => cases h
  | complex _ _ => cases h
  | bytes _ => cases h
  | ellipsis => cases h
theorem cst_pe {X : Cx} {k : Const} {v : V} {d : D} {j : Nat} {pos : Pos} (h : cstV k = some (v, d)) : PE X (.Constant k j pos) (tC v) := by
  cases k with
  | none => cases h; exact pe_non
  | bool b => cases h; exact pe_bl
  | int i => cases h; exact pe_int
  | str x =>
    have h : (if sOk x.cps.toList = true then some (V.str x, D.str x.cps.toList) else none) = some (v, d) := h
    split at h
    · cases h; exact pe_str
    · cases h
  | float _ => cases h
  | complex _ _ => cases h
  | bytes _ => cases h
  | ellipsis => cases h
section
variable {X : Cx} {G : Fx} {B : Bas} {W : Wi}
/-- b(e, ..), b a built-in function or type -/
theorem sE_bi (hc : X.calm = true) {b : Bi} {e : Cz.E} {es : Es} {x : Str} {ea : Expr} {eas : List Expr} {p pos : Pos} (hg : Gl X x) (hm : X.mg x = none) (hv : bootBuiltins x = some (biOf b)) (hn : x ≠ "__name__") (hdb : (x == ("__debug__" : Str)) = false)
    (he : starEach (ea :: eas) X.env = (false, eval ea X.env) :: starEach eas X.env) (hpl : (backTo pos (starEach eas X.env)).any (·.1) = false) (ha : PA X (ea :: eas) (tEs G X.K X.w B W (.cons e es))) :
    PE X (.Call (.Name x p) (ea :: eas) [] pos) (tE G X.K X.w B W (.bi b (.cons e es))) := by
  have cr := call_bi (X := X) hc b
  cases b with
  | int => exact (pe_callTy cr hg hm hv ha hn hdb he hpl).imp fun σ H Q h => sBi h
  | tuple => exact (pe_callTy cr hg hm hv ha hn hdb he hpl).imp fun σ H Q h => sBi h
  | list => exact (pe_callTy cr hg hm hv ha hn hdb he hpl).imp fun σ H Q h => sBi h
  | set_ => exact (pe_callTy cr hg hm hv ha hn hdb he hpl).imp fun σ H Q h => sBi h
  | len => exact (pe_callB cr hg hm hv ha hn hdb he hpl).imp fun σ H Q h => sBi h
  | abs => exact (pe_callB cr hg hm hv ha hn hdb he hpl).imp fun σ H Q h => sBi h
  | all => exact (pe_callB cr hg hm hv ha hn hdb he hpl).imp fun σ H Q h => sBi h
  | any => exact (pe_callB cr hg hm hv ha hn hdb he hpl).imp fun σ H Q h => sBi h
  | max2 => exact (pe_callB cr hg hm hv ha hn hdb he hpl).imp fun σ H Q h => sBi h
  | min2 => exact (pe_callB cr hg hm hv ha hn hdb he hpl).imp fun σ H Q h => sBi h
  | sorted => exact (pe_callB cr hg hm hv ha hn hdb he hpl).imp fun σ H Q h => sBi h
  | sum => exact (pe_callB cr hg hm hv ha hn hdb he hpl).imp fun σ H Q h => sBi h
/-- isinstance(a, T) -/
theorem sE_is1 {a : Cz.E} {t : Cz.Ty} {ea et : Expr} {p pos : Pos} (hg : Gl X "isinstance") (hm : X.mg "isinstance" = none) (he : starEach [ea, et] X.env = (false, eval ea X.env) :: starEach [et] X.env) (he2 : starEach [et] X.env = [(false, eval et X.env)])
    (ha : PE X ea (tE G X.K X.w B W a)) (ht : PE X et (tC (.ty (tyOf t)))) : PE X (.Call (.Name "isinstance" p) [ea, et] [] pos) (tE G X.K X.w B W (.isi a [t])) := by
  refine (pe_callB (call_is1 t) hg hm rfl (pa_cons ha (pa_cons ht pa_nil (by rw [he2]; rfl)) he) (by decide) (by decide) he (by rw [he2]; rfl)).imp fun σ H Q h => ?_
  obtain ⟨F, ρ, r, h⟩ := sIs h
  refine ⟨F, ρ, r, ?_⟩
  cases h1 : evE G.M G.C a ρ with
  | ok v ρ1 =>
    rw [h1] at h
    intro x F1 H1 e1 r1 ev
    obtain ⟨F2, d, e2, op, q⟩ := h x F1 H1 e1 r1 ev
    exact ⟨F2, x, d, e2, rfl, op, by have := q F2 H1 (.refl e2); rwa [List.any_cons, List.any_nil, Bool.or_false] at this⟩
  | ex x ρ1 => rw [h1] at h; exact h
  | bad => rw [h1] at h; exact h
/-- names of built-in types in a row -/
inductive TyNs (X : Cx) : List Expr → List Cz.Ty → Prop
  | nil : TyNs X [] []
  | cons {e : Expr} {es : List Expr} {t : Cz.Ty} {ts : List Cz.Ty} : PE X e (tC (.ty (tyOf t))) → starEach (e :: es) X.env = (false, eval e X.env) :: starEach es X.env → TyNs X es ts → TyNs X (e :: es) (t :: ts)
theorem TyNs.pa : ∀ {es : List Expr} {ts : List Cz.Ty}, TyNs X es ts → PA X es (fun σ H Q => Q (ts.map fun t => V.ty (tyOf t)) H)
  | _, _, .nil => pa_nil.imp fun σ H Q h => h
  | _, _, .cons a b c => (pa_cons a (TyNs.pa c) b).imp fun σ H Q h => h
theorem TyNs.len : ∀ {es : List Expr} {ts : List Cz.Ty}, TyNs X es ts → es.length = ts.length
  | _, _, .nil => rfl
  | _, _, .cons _ _ c => by rw [List.length_cons, List.length_cons, TyNs.len c]
theorem sE_isT {a : Cz.E} {ts : List Cz.Ty} {ea : Expr} {ets : List Expr} {k : Nat} {p tp pos : Pos} (hl : ts.length ≤ 10) (hg : Gl X "isinstance") (hm : X.mg "isinstance" = none) (he : starEach [ea, .Tuple ets k tp] X.env = (false, eval ea X.env) :: starEach [.Tuple ets k tp] X.env)
    (ha : PE X ea (tE G X.K X.w B W a)) (ht : TyNs X ets ts) : PE X (.Call (.Name "isinstance" p) [ea, .Tuple ets k tp] [] pos) (tE G X.K X.w B W (.isi a ts)) := by
  refine (pe_callB (call_isT ts) hg hm rfl (pa_cons ha (pa_cons (pe_tup ht.pa) pa_nil rfl) he) (by decide) (by decide) he rfl).imp fun σ H Q h => ?_
  obtain ⟨F, ρ, r, h⟩ := sIs h
  refine ⟨F, ρ, r, ?_⟩
  cases h1 : evE G.M G.C a ρ with
  | ok v ρ1 =>
    rw [h1] at h
    intro x F1 H1 e1 r1 ev
    obtain ⟨F2, d, e2, op, q⟩ := h x F1 H1 e1 r1 ev
    refine ⟨by rw [List.length_map, sizeLine_eq]; omega, fun T hT => ?_⟩
    have g := Grow.data (o := .tup (ts.map fun t => V.ty (tyOf t))) e2 hT
    exact ⟨_, x, d, T, g.fh, rfl, op.grow g, upd_same, q _ _ g⟩
  | ex x ρ1 => rw [h1] at h; exact h
  | bad => rw [h1] at h; exact h
/-- text.count(text) -/
theorem sE_cnt {a e : Cz.E} {oe ea : Expr} {apos cpos : Pos} (ho : PE X oe (tE G X.K X.w B W a)) (he : PE X ea (tE G X.K X.w B W e)) (hbase : attributeBase oe "count" X.env (eval oe X.env) = eval oe X.env) (hst : starEach [ea] X.env = [(false, eval ea X.env)]) (hline : (apos.endLine == cpos.line) = true) :
    PE X (.Call (.Attribute oe "count" apos) [ea] [] cpos) (tE G X.K X.w B W (.me .count a (.cons e .nil))) :=
  (pe_bm PySem.F.plainAttrs_str PySem.F.slot_str_count PySem.F.type_str_count mt_cnt ho (sA_cons he sA_nil hst) hbase (by rw [hst]; rfl) hline hst rfl).imp fun σ H Q h => sMe ty_cnt h
/-- row.index(x), a tuple's -/
theorem sE_idxT {a e : Cz.E} {oe ea : Expr} {apos cpos : Pos} (ho : PE X oe (tE G X.K X.w B W a)) (he : PE X ea (tE G X.K X.w B W e)) (hbase : attributeBase oe "index" X.env (eval oe X.env) = eval oe X.env) (hst : starEach [ea] X.env = [(false, eval ea X.env)]) (hline : (apos.endLine == cpos.line) = true) :
    PE X (.Call (.Attribute oe "index" apos) [ea] [] cpos) (tE G X.K X.w B W (.me .index a (.cons e .nil))) :=
  (pe_bmT PySem.F.slot_tuple_index PySem.F.type_tuple_index mt_idxT ho (sA_cons he sA_nil hst) hbase (by rw [hst]; rfl) hline hst rfl).imp fun σ H Q h => sMeT ty_idx h
/-- a list's -/
theorem sE_idxL {a e : Cz.E} {oe ea : Expr} {apos cpos : Pos} (ho : PE X oe (tE G X.K X.w B W a)) (he : PE X ea (tE G X.K X.w B W e)) (hbase : attributeBase oe "index" X.env (eval oe X.env) = eval oe X.env) (hst : starEach [ea] X.env = [(false, eval ea X.env)]) (hline : (apos.endLine == cpos.line) = true) :
    PE X (.Call (.Attribute oe "index" apos) [ea] [] cpos) (tE G X.K X.w B W (.me .indexL a (.cons e .nil))) :=
  (pe_bm PySem.F.plainAttrs_list PySem.F.slot_list_index PySem.F.type_list_index mt_idxL ho (sA_cons he sA_nil hst) hbase (by rw [hst]; rfl) hline hst rfl).imp fun σ H Q h => sMe ty_idxL h
/-- number.bit_length() -/
theorem sE_bit {a : Cz.E} {oe : Expr} {apos cpos : Pos} (ho : PE X oe (tE G X.K X.w B W a)) (hbase : attributeBase oe "bit_length" X.env (eval oe X.env) = eval oe X.env) (hline : (apos.endLine == cpos.line) = true) :
    PE X (.Call (.Attribute oe "bit_length" apos) [] [] cpos) (tE G X.K X.w B W (.me .bitlen a .nil)) :=
  (pe_bits ho hbase hline).imp fun σ H Q h => sBit h
theorem tE_mono {e : Cz.E} {σ : List (Option V)} {H : Hp} {Q Q' : VK} (h : tE G X.K X.w B W e σ H Q) (i : ∀ x H1, Q x H1 → Q' x H1) : tE G X.K X.w B W e σ H Q' := by
  obtain ⟨F, ρ, r, h⟩ := h
  refine ⟨F, ρ, r, ?_⟩
  cases h1 : evE G.M G.C e ρ with
  | ok v ρ1 =>
    rw [h1] at h
    intro x F1 H1 e1 r1 ev
    exact i _ _ (h x F1 H1 e1 r1 ev)
  | ex x ρ1 => rw [h1] at h; exact h
  | bad => rw [h1] at h; exact h
/-- sorted(set(texts)) -/
theorem sE_sset (hc : X.calm = true) {a : Cz.E} {ea : Expr} {p p2 pos pos2 : Pos} (hg : Gl X "sorted") (hm : X.mg "sorted" = none) (hg2 : Gl X "set") (hm2 : X.mg "set" = none) (ha : PE X ea (tE G X.K X.w B W a)) (hst : starEach [ea] X.env = [(false, eval ea X.env)]) :
    PE X (.Call (.Name "sorted" p) [.Call (.Name "set" p2) [ea] [] pos2] [] pos) (tE G X.K X.w B W (.sset a)) := by
  refine (pe_callB (cr_sortTx hc) hg hm rfl (pa_cons (pe_callTy (cr_setTx hc) hg2 hm2 rfl (pa_cons ha pa_nil hst) (by decide) (by decide) hst rfl) pa_nil rfl) (by decide) (by decide) rfl rfl).imp fun σ H Q h => ?_
  refine tE_mono (sSset h) fun x H1 h1 => ?_
  obtain ⟨F, ks, e, ⟨q, rfl, sq⟩, ok, lt, fin⟩ := h1
  refine ⟨q, ks.map st, rfl, by rw [List.map_map]; exact sq, by rw [List.length_map]; omega, fun p1 hp1 => ?_⟩
  refine ⟨p1, ks.map st, _, rfl, upd_same, by rw [List.length_map]; exact lt, fun ys p2 nd mem srt ly hp2 => ?_⟩
  have g1 := Grow.data (o := TSetO X.prog X.w p1 (ks.map st) (ks.map st).length) e hp1
  have g2 := Grow.own (o := .lst (ys.map V.str)) g1.fh hp2
  refine fin _ _ _ (g1.trans g2) ⟨p2, rfl, g1.h.back hp2, g1.fh.back hp2, ?_⟩
  rw [upd_same, sorted_one nd mem srt, List.map_map]
  rfl
/-- i not in r -/
theorem op_out_rng : OpR X (compareOp .NotIn) (fun x y H Q => ∃ i a lo hi, x = V.int i ∧ y = V.ref a ∧ H a = some (.rng lo hi) ∧ Q (.bl (!decide (lo ≤ i ∧ i < hi))) H) := by
  intro pins s σ H x y v u Q I rx ry h
  obtain ⟨i, a, lo, hi, rfl, rfl, ga, q⟩ := h
  obtain ⟨k, rfl⟩ := rx
  have eu : u = Value.ref a := ry
  subst eu
  obtain ⟨t1, t2, t3, go⟩ := I.hok a _ ga
  show wpAny _ _ (do return Value.bool (!(← contains (Value.ref a) (Value.int i k)))) _ _ s
  refine wpAny_bind (wpAny_contains_slot (T := "range") ⟨_, go, rfl⟩ PySem.F.slot_range_contains (call_meets PySem.F.slot_range_contains ⟨_, go, rfl⟩ PySem.F.entry_range_contains (PySem.F.args_range_contains_2 _ _) (q_contains a lo hi i t1 t2 t3 k)
    ⟨go, wpAny_truthy_bool (wpAny_pure ⟨.bl _, H, I, rfl, ?_⟩)⟩))
  rw [place1]
  exact q
theorem inr_fin {neg : Bool} {a b c : Cz.E} {σ : List (Option V)} {H : Hp} {Q : VK} (op : V → V → Hp → VK → Prop) (hop : ∀ i q lo hi H' , H' q = some (.rng lo hi) → Q (.bl (if neg then !decide (lo ≤ i ∧ i < hi) else decide (lo ≤ i ∧ i < hi))) H' → op (.int i) (.ref q) H' Q) (h : tE G X.K X.w B W (.inr neg a b c) σ H Q) :
    tE G X.K X.w B W a σ H fun x H1 => tCB (fun vs H Q => ∃ i j, vs = [V.int i, V.int j] ∧ ∀ p, H p = none → Q (.ref p) (upd H p (.rng i j))) (tCons (tE G X.K X.w B W b) (tCons (tE G X.K X.w B W c) tNil)) σ H1 fun y H2 => op x y H2 Q := by
  refine tE_mono (sInr h) fun x H1 h1 => ?_
  refine tE_mono h1 fun y H2 h2 => ?_
  refine tE_mono h2 fun z H3 h3 => ?_
  obtain ⟨F, i, lo, hi, e, rfl, rfl, rfl, q⟩ := h3
  refine ⟨lo, hi, rfl, fun q1 hq1 => hop i q1 lo hi _ upd_same ?_⟩
  exact q _ _ (Grow.data (o := .rng lo hi) e hq1)
/-- a in range(b, c) -/
theorem sE_inr {neg : Bool} {a b c : Cz.E} {ea eb ec : Expr} {p pos pos2 : Pos} (hg : Gl X "range") (hm : X.mg "range" = none) (ha : PE X ea (tE G X.K X.w B W a)) (hb : PE X eb (tE G X.K X.w B W b)) (hc : PE X ec (tE G X.K X.w B W c))
    (hst : starEach [eb, ec] X.env = (false, eval eb X.env) :: starEach [ec] X.env) (hst2 : starEach [ec] X.env = [(false, eval ec X.env)]) (hbm : behindInMarks (if neg then .NotIn else .In) (.Call (.Name "range" p) [eb, ec] [] pos2) = false) :
    PE X (.Compare ea [if neg then .NotIn else .In] [.Call (.Name "range" p) [eb, ec] [] pos2] pos) (tE G X.K X.w B W (.inr neg a b c)) := by
  have hr := pe_callTy (pos := pos2) (p := p) (cr_range2 (X := X)) hg hm rfl (pa_cons hb (pa_cons hc pa_nil hst2) hst) (by decide) (by decide) hst (by rw [hst2]; rfl)
  cases neg with
  | true => exact (pe_cmpR op_out_rng ha hr hbm).imp fun σ H Q h => inr_fin (neg := true) (fun x y H Q => ∃ i a lo hi, x = V.int i ∧ y = V.ref a ∧ H a = some (.rng lo hi) ∧ Q (.bl (!decide (lo ≤ i ∧ i < hi))) H) (fun i q lo hi H' g w => ⟨i, q, lo, hi, rfl, rfl, g, w⟩) h
  | false => exact (pe_cmpR op_in_rng ha hr hbm).imp fun σ H Q h => inr_fin (neg := false) (fun x y H Q => ∃ i a lo hi, x = V.int i ∧ y = V.ref a ∧ H a = some (.rng lo hi) ∧ Q (.bl (decide (lo ≤ i ∧ i < hi))) H) (fun i q lo hi H' g w => ⟨i, q, lo, hi, rfl, rfl, g, w⟩) h
theorem inr_bl {neg : Bool} {a b c : Cz.E} {M : Mo} {C : Nat → List Cz.Arg → Rc} {ρ ρ' : List Sl} {v : Val} (h : evE M C (.inr neg a b c) ρ = .ok v ρ') : ∃ k, v = .p (.bl k) := by
  unfold evE at h
  split at h
  · split at h
    · split at h
      · split at h
        · cases h; exact ⟨_, rfl⟩
        · cases h
      · rename_i ne
        exact absurd h (ne _ _)
    · rename_i ne
      exact absurd h (ne _ _)
  · rename_i ne
    exact absurd h (ne _ _)
theorem tE_ofT {e : Cz.E} (hv : ∀ ρ v ρ', evE G.M G.C e ρ = .ok v ρ' → ∃ k, v = .p (.bl k)) {σ : List (Option V)} {H : Hp} {Q : Bool → Hp → Prop} (h : tT G X.K X.w B W e σ H Q) : tE G X.K X.w B W e σ H fun x H' => ∃ k, x = V.bl k ∧ Q k H' := by
  obtain ⟨F, ρ, r, h⟩ := h
  refine ⟨F, ρ, r, ?_⟩
  cases h1 : evE G.M G.C e ρ with
  | ok v ρ1 =>
    rw [h1] at h
    obtain ⟨b, rfl⟩ := hv _ _ _ h1
    obtain ⟨k, hk, q⟩ := h
    have ek : b = k := Option.some.inj hk
    subst ek
    intro x F1 H1 e1 r1 ev
    have ev : DV X.K X.w F1 x (.bl b) := ev
    cases ev
    exact ⟨b, rfl, q F1 H1 e1 r1⟩
  | ex x ρ1 => rw [h1] at h; exact h
  | bad => rw [h1] at h; exact h
theorem sT_inr {neg : Bool} {a b c : Cz.E} {ea eb ec : Expr} {p pos pos2 : Pos} (hg : Gl X "range") (hm : X.mg "range" = none) (ha : PE X ea (tE G X.K X.w B W a)) (hb : PE X eb (tE G X.K X.w B W b)) (hc : PE X ec (tE G X.K X.w B W c))
    (hst : starEach [eb, ec] X.env = (false, eval eb X.env) :: starEach [ec] X.env) (hst2 : starEach [ec] X.env = [(false, eval ec X.env)]) (hbm : behindInMarks (if neg then .NotIn else .In) (.Call (.Name "range" p) [eb, ec] [] pos2) = false) :
    PT X (.Compare ea [if neg then .NotIn else .In] [.Call (.Name "range" p) [eb, ec] [] pos2] pos) (tT G X.K X.w B W (.inr neg a b c)) := by
  have hr := pe_callTy (pos := pos2) (p := p) (cr_range2 (X := X)) hg hm rfl (pa_cons hb (pa_cons hc pa_nil hst2) hst) (by decide) (by decide) hst (by rw [hst2]; rfl)
  cases neg with
  | true => exact (pt_cmpR op_out_rng ha hr hbm).imp fun σ H Q h => inr_fin (neg := true) (fun x y H Q => ∃ i a lo hi, x = V.int i ∧ y = V.ref a ∧ H a = some (.rng lo hi) ∧ Q (.bl (!decide (lo ≤ i ∧ i < hi))) H) (fun i q lo hi H' g w => ⟨i, q, lo, hi, rfl, rfl, g, w⟩) (tE_ofT (fun _ _ _ h => inr_bl h) h)
  | false => exact (pt_cmpR op_in_rng ha hr hbm).imp fun σ H Q h => inr_fin (neg := false) (fun x y H Q => ∃ i a lo hi, x = V.int i ∧ y = V.ref a ∧ H a = some (.rng lo hi) ∧ Q (.bl (decide (lo ≤ i ∧ i < hi))) H) (fun i q lo hi H' g w => ⟨i, q, lo, hi, rfl, rfl, g, w⟩) (tE_ofT (fun _ _ _ h => inr_bl h) h)
/-! ### dict displays of constants -/
inductive DcE (X : Cx) : List (List Nat) → List D → List (Option Expr) → List Expr → List V → Prop
  | nil : DcE X [] [] [] [] []
  | cons {k : List Nat} {ks : List (List Nat)} {d : D} {ds : List D} {ek ev : Expr} {eks : List (Option Expr)} {evs : List Expr} {v : V} {vs : List V} : PE X ek (tC (.str (st k))) → PE X ev (tC v) → (∀ H, DV X.K X.w H v d) → DcE X ks ds eks evs vs → DcE X (k :: ks) (d :: ds) (some ek :: eks) (ev :: evs) (v :: vs)
def dcTrs : List (List Nat) → List V → List (TE × TE)
  | k :: ks, v :: vs => (tC (.str (st k)), tC v) :: dcTrs ks vs
  | _, _ => []
theorem DcE.pps {pos : Pos} : ∀ {ks : List (List Nat)} {ds : List D} {eks : List (Option Expr)} {evs : List Expr} {vs : List V}, DcE X ks ds eks evs vs → PPs X pos eks evs (dcTrs ks vs)
  | _, _, _, _, _, .nil => pps_nil
  | _, _, _, _, _, .cons a b _ r => pps_cons a b (DcE.pps r)
theorem DcE.info : ∀ {ks : List (List Nat)} {ds : List D} {eks : List (Option Expr)} {evs : List Expr} {vs : List V}, DcE X ks ds eks evs vs → eks.all (·.isSome) = true ∧ eks.length = evs.length ∧ eks.length = ks.length ∧ ks.length = vs.length ∧ ∀ H, DVs X.K X.w H vs ds
  | _, _, _, _, _, .nil => ⟨rfl, rfl, rfl, rfl, fun _ => .nil⟩
  | _, _, _, _, _, .cons a b c r => by
    obtain ⟨h1, h2, h3, h4, h5⟩ := DcE.info r
    exact ⟨by rw [List.all_cons, h1]; rfl, by rw [List.length_cons, List.length_cons, h2], by rw [List.length_cons, List.length_cons, h3], by rw [List.length_cons, List.length_cons, h4], fun H => .cons (c H) (h5 H)⟩
abbrev dcKv (ks : List (List Nat)) (vs : List V) : List (Key × V) := (ks.map fun k => (Sum.inr (st k) : Key)).zip vs
theorem dc_pairs {σ : List (Option V)} {H : Hp} : ∀ {ks : List (List Nat)} {vs : List V} {Q : List (V × V) → Hp → Prop}, ks.length = vs.length → Q ((dcKv ks vs).map fun kv => (kV kv.1, kv.2)) H → tPairs (dcTrs ks vs) σ H Q
  | [], [], Q, _, h => h
  | k :: ks, v :: vs, Q, hl, h => dc_pairs (ks := ks) (vs := vs) (by simpa using hl) h
  | [], _ :: _, _, hl, _ => by simp at hl
  | _ :: _, [], _, hl, _ => by simp at hl
theorem merge_new : ∀ {more acc : List (Key × V)}, (∀ k ∈ more.map (·.1), k ∉ acc.map (·.1)) → (more.map (·.1)).Nodup → mergeK acc more = acc ++ more
  | [], acc, _, _ => by show acc = _; rw [List.append_nil]
  | p :: r, acc, h, n => by
    rw [List.map_cons, List.nodup_cons] at n
    have e : putK acc p.1 p.2 = acc ++ [p] := by
      unfold putK
      rw [if_neg]
      intro z
      rw [List.any_eq_true] at z
      obtain ⟨q, hq, e⟩ := z
      exact h p.1 (by simp) (List.mem_map.mpr ⟨q, hq, of_decide_eq_true e⟩)
    show mergeK (putK acc p.1 p.2) r = _
    rw [e, merge_new (fun k hk => ?_) n.2, List.append_assoc]
    · rfl
    · rw [List.map_append, List.mem_append]
      rintro (z | z)
      · exact h k (by rw [List.map_cons]; exact List.mem_cons_of_mem _ hk) z
      · have : k = p.1 := by simpa using z
        subst this
        exact n.1 hk
theorem st_inj {a b : List Nat} (h : st a = st b) : a = b := by
  have := congrArg (fun x : Str => x.cps.toList) h
  simpa using this
theorem sE_dcc {ks : List (List Nat)} {ds : List D} {eks : List (Option Expr)} {evs : List Expr} {vs : List V} {pos : Pos} (h : DcE X ks ds eks evs vs) (hn : ks.Nodup) (h0 : ks ≠ []) (h15 : ks.length ≤ 15) : PE X (.Dict eks evs pos) (tE G X.K X.w B W (.dcc ks ds)) := by
  obtain ⟨i1, i2, i3, i4, i5⟩ := h.info
  refine (pe_disp h.pps i1 i2 (fun z => h0 (by rw [z] at i3; exact List.length_eq_zero_iff.mp i3.symm)) (by rw [i3]; exact h15)).imp fun σ H Q hh => ?_
  obtain ⟨F, ρ, r, hh⟩ := hh
  unfold evE at hh
  intro p hp
  have e1 : ((dcKv ks vs).map (·.1)) = ks.map fun k => (Sum.inr (st k) : Key) := by
    show ((ks.map fun k => (Sum.inr (st k) : Key)).zip vs).map Prod.fst = _
    rw [List.map_fst_zip]
    rw [List.length_map]; omega
  have g0 := Grow.own (o := .dK []) r.fh hp
  refine dc_pairs i4 ⟨upd_same, dcKv ks vs, rfl, by show ((ks.map _).zip vs).length ≤ 15; rw [List.length_zip, List.length_map]; omega, ?_⟩
  have nd : ((dcKv ks vs).map (·.1)).Nodup := by
    rw [e1]
    exact List.Pairwise.map _ (fun a b ne z => ne (st_inj (Sum.inr.inj z))) hn
  rw [merge_new (fun _ _ z => by simp at z) nd, List.nil_append]
  -- the new dict is data
  have ea : upd (upd H p (.dK [])) p (.dK (dcKv ks vs)) = upd H p (.dK (dcKv ks vs)) := by
    funext a
    by_cases z : a = p
    · subst z; rw [upd_same, upd_same]
    · rw [upd_ne z, upd_ne z, upd_ne z]
  rw [ea]
  have g := Grow.data (o := .dK (dcKv ks vs)) r.fh hp
  exact hh _ _ _ g.f (r.grow g) (.dct (.inl ⟨i4, upd_same⟩) (i5 _))
end
end Cs
end
section
set_option Elab.async false
set_option linter.all false
set_option maxRecDepth 100000
set_option maxHeartbeats 8000000
/-! SOUND 22: the checker of expressions. -/
namespace Cs
open PySem L2 Cz PyProof.Rows
/-- what the module's names stand for -/
structure Tab where
  defs : List (Str × Nat × Nat)
  cons : List (Str × Nat)
  cls : List (Str × Nat)
  fld : List (Str × Nat)
  mks : List (Str × Nat)
/-- where one stands -/
structure Cn where
  T : Tab
  N : List Str
  sc : Scope
  raw : Scope
def visB (sc : Scope) (x : Str) : Bool := match sc.names.lookup x with
  | some .local => true | some .cell => true | some .free => true | _ => false
def locB (c : Cn) (x : Str) : Bool := match c.sc.names.lookup x with
  | some .local => true | some .cell => decide (c.raw.names.lookup x = some .cell) | _ => false
def nmB (c : Cn) (i : Nat) (x : Str) : Bool := decide (c.N[i]? = some x) && visB c.sc x && !(x == ("__debug__" : Str)) && !(x == ("__classdict__" : Str))
def glB (sc : Scope) (x : Str) : Bool := decide (sc.names.lookup x = some .globalImplicit) && !(x == ("__debug__" : Str))
def nsB : Expr → Bool
  | .Starred _ _ => false
  | _ => true
def notSet : Expr → Bool
  | .Set _ _ _ => false
  | _ => true
/-- the target of a store or a loop -/
def nmsB (c : Cn) : List Nat → List Expr → Bool
  | [], [] => true
  | i :: t, a :: es => (match a with | .Name x _ => decide (c.N[i]? = some x) && locB c x | _ => false) && nmsB c t es
  | _, _ => false
def tgB (c : Cn) (t : List Nat) (a : Expr) : Bool := match a with
  | .Name x _ => nmsB c t [.Name x ⟨0, 0, 0, 0⟩]
  | .Tuple es _ _ => decide (2 ≤ t.length) && nmsB c t es
  | _ => false
def biNm : Bi → Str
  | .len => "len" | .int => "int" | .abs => "abs" | .tuple => "tuple" | .list => "list" | .all => "all" | .any => "any" | .max2 => "max" | .min2 => "min" | .sorted => "sorted" | .sum => "sum" | .set_ => "set"
def tyNm (t : Cz.Ty) : Str := Str.ofString (tyOf t)
/-- a constant as data -/
def cB (d : D) (k : Const) : Bool := match d, k with
  | .non, .none => true
  | .bl a, .bool b => a == b
  | .int a, .int b => decide (a = b)
  | .str s, .str x => decide (x.cps.toList = s) && sOk s
  | _, _ => false
def tysB (c : Cn) : List Cz.Ty → List Expr → Bool
  | [], [] => true
  | t :: ts, a :: es => (match a with | .Name x _ => decide (x = tyNm t) && glB c.sc x | _ => false) && tysB c ts es
  | _, _ => false
def isB (c : Cn) (ts : List Cz.Ty) (a : Expr) : Bool := match a with
  | .Name x p => tysB c ts [.Name x p]
  | .Tuple es _ _ => decide (ts.length ≤ 10) && tysB c ts es
  | _ => false
def dcB : List (List Nat) → List D → List (Option Expr) → List Expr → Bool
  | [], [], [], [] => true
  | k :: ks, d :: ds, ek :: eks, ev :: evs => (match ek with | some (.Constant (.str x) _ _) => decide (x = st k) | _ => false) && (match ev with | .Constant q _ _ => cB d q | _ => false) && dcB ks ds eks evs
  | _, _, _, _ => false
/-- the receiver of a method is no bare call -/
def recvB : Expr → Bool
  | .Call _ as _ _ => !as.isEmpty
  | _ => true
def ownOf (N : List Str) (t : List Nat) : List (Str × Nat) := t.filterMap fun i => (N[i]?).map fun x => (x, i)
def inC (c : Cn) (scope : Scope) : Cn := ⟨c.T, c.N, relS scope c.sc, scope⟩
def slcB : Expr → Bool
  | .Slice _ _ _ _ => false
  | _ => true
mutual
def okE (c : Cn) : Cz.E → Expr → Bool
  | .var i, a => match a with | .Name x _ => nmB c i x | _ => false
  | .bor i, a => match a with | .Name x _ => nmB c i x | _ => false
  | .c d, a => match a with | .Constant k _ _ => cB d k | _ => false
  | .g n, a => match a with | .Name x _ => glB c.sc x && decide ((x, n) ∈ c.T.cons) | _ => false
  | .bin o e1 e2, a => match a with | .BinOp a1 op a2 _ => decide (op = opOf o) && okE c e1 a1 && okE c e2 a2 | _ => false
  | .neg e1, a => match a with | .UnaryOp .USub a1 _ => okE c e1 a1 | _ => false
  | .cmp o e1 e2, a => match a with | .Compare a1 [op] [a2] _ => decide (op = copOf o) && !behindInMarks (copOf o) a2 && okE c e1 a1 && okE c e2 a2 | _ => false
  | .chain o o' e1 e2 e3, a => match a with | .Compare a1 [op, op'] [a2, a3] _ => decide (op = copOf o) && decide (op' = copOf o') && !lastMarks [copOf o, copOf o'] [a2, a3] && okE c e1 a1 && okE c e2 a2 && okE c e3 a3 | _ => false
  | .and es, a => match a with | .BoolOp .And as _ => !as.isEmpty && okEs c es as | _ => false
  | .or es, a => match a with | .BoolOp .Or as _ => !as.isEmpty && okEs c es as | _ => false
  | .not e1, a => match a with | .UnaryOp .Not a1 _ => okE c e1 a1 | _ => false
  | .ife e1 e2 e3, a => match a with | .IfExp a1 a2 a3 _ => okE c e1 a1 && okE c e2 a2 && okE c e3 a3 | _ => false
  | .tup es, a => match a with | .Tuple as _ _ => decide (esLen es ≤ Lim) && okEs c es as | _ => false
  | .lst es, a => match a with | .List as _ => decide (esLen es ≤ Lim) && okEs c es as | _ => false
  | .dcc ks ds, a => match a with | .Dict eks evs _ => dcB ks ds eks evs && decide ks.Nodup && !ks.isEmpty && decide (ks.length ≤ 15) | _ => false
  | .ix e1 e2, a => match a with | .Subscript a1 a2 _ => slcB a2 && okE c e1 a1 && okE c e2 a2 | _ => false
  | .slF e1 e2, a => match a with | .Subscript a1 (.Slice (some a2) none none _) _ => okE c e1 a1 && okE c e2 a2 | _ => false
  | .slT e1 e2, a => match a with | .Subscript a1 (.Slice none (some a2) none _) _ => okE c e1 a1 && okE c e2 a2 | _ => false
  | .slFT _ _ _, _ => false
  | .call f es, a => match a with | .Call (.Name x _) as [] _ => glB c.sc x && decide ((x, f, esLen es) ∈ c.T.defs) && !as.isEmpty && okEs c es as | _ => false
  | .bi b es, a => match a with | .Call (.Name x _) as [] _ => glB c.sc x && decide (x = biNm b) && !as.isEmpty && okEs c es as | _ => false
  | .isi e1 ts, a => match a with | .Call (.Name x _) [a1, a2] [] _ => glB c.sc x && decide (x = ("isinstance" : Str)) && nsB a1 && okE c e1 a1 && isB c ts a2 | _ => false
  | .me m e1 es, a => match m, es, a with
    | .count, .cons e2 .nil, .Call (.Attribute a1 nm p1) [a2] [] p2 => decide (nm = ("count" : Str)) && recvB a1 && nsB a2 && (p1.endLine == p2.line) && okE c e1 a1 && okE c e2 a2
    | .index, .cons e2 .nil, .Call (.Attribute a1 nm p1) [a2] [] p2 => decide (nm = ("index" : Str)) && recvB a1 && nsB a2 && (p1.endLine == p2.line) && okE c e1 a1 && okE c e2 a2
    | .indexL, .cons e2 .nil, .Call (.Attribute a1 nm p1) [a2] [] p2 => decide (nm = ("index" : Str)) && recvB a1 && nsB a2 && (p1.endLine == p2.line) && okE c e1 a1 && okE c e2 a2
    | .bitlen, .nil, .Call (.Attribute a1 nm p1) [] [] p2 => decide (nm = ("bit_length" : Str)) && recvB a1 && (p1.endLine == p2.line) && okE c e1 a1
    | _, _, _ => false
  | .lc t it cs e, a => match a with
    | .ListComp elt [⟨tg, iter, ifs, asy⟩] scope _ => decide (asy = 0) && notSet iter && okI c it tg iter && blkC c.N c.sc scope (ownOf c.N t) && decide ((ownOf c.N t).map (·.2) = t) && tgB (inC c scope) t tg && okTs (inC c scope) cs ifs && okE (inC c scope) e elt
    | _ => false
  | .lc2 t it t2 it2 e, a => match a with
    | .ListComp elt [⟨tg, iter, [], asy⟩, ⟨tg2, iter2, [], asy2⟩] scope _ => decide (asy = 0) && decide (asy2 = 0) && notSet iter && notSet iter2 && okI c it tg iter && blkC c.N c.sc scope (ownOf c.N (t ++ t2)) && decide ((ownOf c.N (t ++ t2)).map (·.2) = t ++ t2) && tgB (inC c scope) t tg && okI (inC c scope) it2 tg2 iter2 && tgB (inC c scope) t2 tg2 && okE (inC c scope) e elt
    | _ => false
  | .sset e1, a => match a with | .Call (.Name x _) [.Call (.Name y _) [a1] [] _] [] _ => decide (x = ("sorted" : Str)) && glB c.sc x && decide (y = ("set" : Str)) && glB c.sc y && nsB a1 && okE c e1 a1 | _ => false
  | .inr neg e1 e2 e3, a => match a with | .Compare a1 [op] [.Call (.Name x p) [a2, a3] [] p2] _ => decide (op = if neg then .NotIn else .In) && decide (x = ("range" : Str)) && glB c.sc x && nsB a2 && nsB a3 && !behindInMarks (if neg then .NotIn else .In) (.Call (.Name "range" p) [a2, a3] [] p2) && okE c e1 a1 && okE c e2 a2 && okE c e3 a3 | _ => false
  | .exf _ _, _ => false
  | .exis _ _, _ => false
def okEs (c : Cn) : Es → List Expr → Bool
  | .nil, as => as.isEmpty
  | .cons e es, as => match as with
    | a :: as => nsB a && okE c e a && okEs c es as
    | [] => false
def okTs (c : Cn) : Es → List Expr → Bool
  | .nil, as => as.isEmpty
  | .cons e es, as => match es, as with
    | .nil, [a] => okE c e a
    | _, _ => false
def okI (c : Cn) : Cz.It → Expr → Expr → Bool
  | .val e, _, a => okE c e a
  | .r1 e, _, a => match a with | .Call (.Name x _) [a1] [] _ => glB c.sc x && decide (x = ("range" : Str)) && nsB a1 && okE c e a1 | _ => false
  | .r2 e1 e2, _, a => match a with | .Call (.Name x _) [a1, a2] [] _ => glB c.sc x && decide (x = ("range" : Str)) && nsB a1 && nsB a2 && okE c e1 a1 && okE c e2 a2 | _ => false
  | .r3 _ _ _, _, _ => false
  | .enum e, tg, a => match tg, a with | .Tuple _ _ _, .Call (.Name x _) [a1] [] _ => glB c.sc x && decide (x = ("enumerate" : Str)) && nsB a1 && okE c e a1 | _, _ => false
end
end Cs
end
section
set_option Elab.async false
set_option linter.all false
set_option maxRecDepth 100000
set_option maxHeartbeats 8000000
/-! SOUND 23: the checker of expressions is right. -/
namespace Cs
open PySem L2 Cz PyProof.Rows
/-- what the module gives -/
structure GoodM (T : Tab) (G : Fx) (k : Nat) (P : Program) (w : World) (K : PySem.W.Frag) (mg : Str → Option Value) (base : Heap) : Prop where
  con : ∀ x n, (x, n) ∈ T.cons → ∃ (v : V) (u : Value) (d : D), G.M.g n = some d ∧ mg x = some u ∧ RelV v u ∧ ∀ H, DV K w H v d
  bi : ∀ b, mg (biNm b) = none
  ty : ∀ t, mg (tyNm t) = none
  isi : mg "isinstance" = none
  vE : mg "ValueError" = none
  rng : mg "range" = none
  enu : mg "enumerate" = none
  cal : ∀ x f n, (x, f, n) ∈ T.defs → ∃ (addr : Addr) (fd : FuncData) (ps : List Str), ps.length = n ∧ FnOk P w K mg base (L2.CX P w) k addr fd ps (spC G K w f ps.length) ∧ mg x = some (.ref addr) ∧ PySem.W.keepIn K (.ref addr) = true ∧ Binds K fd ps []
  cls : ∀ x n, (x, n) ∈ T.cls → ∃ C, G.xa n = some C ∧ mg x = some (.ref C)
  fld : ∀ x n, (x, n) ∈ T.fld → ∀ c C, G.xa c = some C → G.M.fld c = n → G.xf c = x
  xf : XFacts G K
  made : ∀ x n, (x, n) ∈ T.mks → ∀ (Y : Cx), Y.prog = P → Y.w = w → Y.K = K → Y.mg = mg → Y.base = base → Y.calm = true → Room k Y.A → Gl Y x → (x == ("__debug__" : Str)) = false → ∀ (B : Bas) (W : Wi) (e : Cz.E) (ea : Expr) (p pos : Pos), starEach [ea] Y.env = [(false, eval ea Y.env)] →
    PE Y ea (tE G Y.K Y.w B W e) → PMk Y (.Call (.Name x p) [ea] [] pos) (tMk G Y.K Y.w B W n e)
structure Good (c : Cn) (G : Fx) (k : Nat) (X : Cx) : Prop where
  N : X.N = c.N
  nd : X.N.Nodup
  sc : X.env.scope = c.sc
  fn : ∀ x, c.raw.names.lookup x = some .cell → X.fn x = true
  calm : X.calm = true
  room : Room k X.A
  mo : GoodM c.T G k X.prog X.w X.K X.mg X.base
theorem star_cons {ea : Expr} {eas : List Expr} {env : PySem.Env} (h : nsB ea = true) : starEach (ea :: eas) env = (false, eval ea env) :: starEach eas env := by
  cases ea <;> first | rfl | cases h
theorem back_plain {pos : Pos} {env : PySem.Env} : ∀ {eas : List Expr}, (∀ a ∈ eas, nsB a = true) → (backTo pos (starEach eas env)).any (·.1) = false
  | [], _ => rfl
  | a :: eas, h => by
    rw [star_cons (h a List.mem_cons_self)]
    show (false || (backTo pos (starEach eas env)).any (·.1)) = false
    rw [back_plain fun b hb => h b (List.mem_cons_of_mem _ hb)]
    rfl
theorem folded {e : Expr} (h : notSet e = true) (env : PySem.Env) (x : Value) : foldedSetIterable e env x = pure x := by
  cases e <;> first | rfl | cases h
theorem recv_ok {e : Expr} (h : recvB e = true) (nm : Str) (env : PySem.Env) : attributeBase e nm env (eval e env) = eval e env := by
  cases e with
  | Call f as ks p =>
    cases as with
    | nil => cases h
    | cons a r => cases f <;> rfl
  | _ => rfl
theorem slc_ok {e : Expr} (h : slcB e = true) : PlainIx e := fun o i => by
  cases e <;> first | rfl | cases h
theorem bi_boot (b : Bi) : bootBuiltins (biNm b) = some (biOf b) := by cases b <;> rfl
theorem ty_boot (t : Cz.Ty) : bootBuiltins (tyNm t) = some (.type (tyOf t)) := by cases t <;> rfl
theorem bi_nm (b : Bi) : biNm b ≠ "__name__" := by cases b <;> decide +kernel
theorem ty_nm (t : Cz.Ty) : tyNm t ≠ "__name__" := by cases t <;> decide +kernel
section
variable {c : Cn} {G : Fx} {k : Nat} {X : Cx}
theorem Good.units (g : Good c G k X) : X.A.units + 150 < cLine := by have := g.room.un; omega
theorem nm_ok (g : Good c G k X) {i : Nat} {x : Str} (h : nmB c i x = true) : X.N[i]? = some x ∧ Vis X.env.scope x ∧ (x == ("__debug__" : Str)) = false ∧ (x == ("__classdict__" : Str)) = false := by
  unfold nmB at h
  simp only [Bool.and_eq_true, decide_eq_true_eq, Bool.not_eq_true'] at h
  obtain ⟨⟨⟨h1, h2⟩, h3⟩, h4⟩ := h
  refine ⟨by rw [g.N]; exact h1, ?_, h3, h4⟩
  rw [g.sc]
  unfold visB at h2
  unfold Vis
  split at h2
  · exact .inl (by assumption)
  · exact .inr (.inl (by assumption))
  · exact .inr (.inr (by assumption))
  · cases h2
theorem gl_ok (g : Good c G k X) {x : Str} (h : glB c.sc x = true) : Gl X x ∧ (x == ("__debug__" : Str)) = false := by
  unfold glB at h
  simp only [Bool.and_eq_true, decide_eq_true_eq, Bool.not_eq_true'] at h
  refine ⟨?_, h.2⟩
  show X.env.scope.names.lookup x = _
  rw [g.sc]
  exact h.1
theorem loc_ok (g : Good c G k X) {x : Str} (h : locB c x = true) : Loc X.env.scope x ∧ (X.fn x = true ∨ X.env.scope.names.lookup x = some .local) := by
  unfold locB at h
  rw [g.sc]
  split at h
  · rename_i e; exact ⟨.inl e, .inr e⟩
  · rename_i e; exact ⟨.inr e, .inl (g.fn x (of_decide_eq_true h))⟩
  · cases h
theorem nms_ok (g : Good c G k X) : ∀ {t : List Nat} {es : List Expr}, nmsB c t es = true → Nms X es t
  | [], [], _ => .nil
  | i :: t, a :: es, h => by
    unfold nmsB at h
    rw [Bool.and_eq_true] at h
    obtain ⟨h1, h2⟩ := h
    split at h1
    · rw [Bool.and_eq_true] at h1
      obtain ⟨l1, l2⟩ := loc_ok g h1.2
      exact .cons (by rw [g.N]; exact of_decide_eq_true h1.1) l1 l2 (nms_ok g h2)
    · cases h1
  | [], _ :: _, h => by cases h
  | _ :: _, [], h => by cases h
theorem tg_ok (g : Good c G k X) {t : List Nat} {a : Expr} (h : tgB c t a = true) (B : Bas) : PG X a (tGt X.K X.w B t) := by
  unfold tgB at h
  split at h
  · rename_i x p
    have n := nms_ok g h
    cases n with
    | cons n1 n2 n3 r =>
      cases r
      exact sG_one g.nd n1 n2 n3
  · rw [Bool.and_eq_true] at h
    exact sG_tup g.nd g.calm (nms_ok g h.2) (of_decide_eq_true h.1)
  · cases h
theorem tys_ok (g : Good c G k X) : ∀ {ts : List Cz.Ty} {es : List Expr}, tysB c ts es = true → TyNs X es ts
  | [], [], _ => .nil
  | t :: ts, a :: es, h => by
    unfold tysB at h
    rw [Bool.and_eq_true] at h
    obtain ⟨h1, h2⟩ := h
    split at h1
    · rename_i x p
      rw [Bool.and_eq_true] at h1
      obtain ⟨l1, l2⟩ := gl_ok g h1.2
      have ex := of_decide_eq_true h1.1
      subst ex
      exact .cons (pe_bltn l1 (g.mo.ty t) (ty_boot t) rfl (ty_nm t) l2) rfl (tys_ok g h2)
    · cases h1
  | [], _ :: _, h => by cases h
  | _ :: _, [], h => by cases h
theorem c_ok {d : D} {q : Const} (h : cB d q = true) : ∃ v, cstV q = some (v, d) := by
  unfold cB at h
  split at h
  · exact ⟨_, rfl⟩
  · have := eq_of_beq h; subst this; exact ⟨_, rfl⟩
  · have := of_decide_eq_true h; subst this; exact ⟨_, rfl⟩
  · rename_i s x
    rw [Bool.and_eq_true] at h
    have := of_decide_eq_true h.1
    subst this
    refine ⟨.str x, ?_⟩
    show (if sOk x.cps.toList = true then some (V.str x, D.str x.cps.toList) else none) = _
    rw [if_pos h.2]
  · cases h
theorem dc_ok : ∀ {ks : List (List Nat)} {ds : List D} {eks : List (Option Expr)} {evs : List Expr}, dcB ks ds eks evs = true → ∃ vs, DcE X ks ds eks evs vs
  | [], [], [], [], _ => ⟨[], .nil⟩
  | key :: ks, d :: ds, ek :: eks, ev :: evs, h => by
    unfold dcB at h
    rw [Bool.and_eq_true, Bool.and_eq_true] at h
    obtain ⟨⟨h1, h2⟩, h3⟩ := h
    obtain ⟨vs, r⟩ := dc_ok h3
    split at h1
    · split at h2
      · obtain ⟨v, hv⟩ := c_ok h2
        have := of_decide_eq_true h1
        subst this
        exact ⟨v :: vs, .cons pe_str (cst_pe hv) (fun H => cst_dv hv H) r⟩
      · cases h2
    · cases h1
  | [], _ :: _, _, _, h => by cases h
  | [], [], _ :: _, _, h => by cases h
  | [], [], [], _ :: _, h => by cases h
  | _ :: _, [], _, _, h => by cases h
  | _ :: _, _ :: _, [], _, h => by cases h
  | _ :: _, _ :: _, _ :: _, [], h => by cases h
theorem takesF {Y : Cx} {B : Bas} : Takes Y (WD G Y.K Y.w B W0) := fun u s' ⟨a, b1, sI, pins, σ, H, cls, d, e, I, nb, up, sky, na, os, ag, ⟨_, _, _, _, _, f⟩⟩ => f.elim
theorem Good.blk (g : Good c G k X) (scope : Scope) : InBlk X scope fun Y => Good (inC c scope) G k Y := fun s H C cl fp => {
  N := g.N
  nd := g.nd
  sc := by
    show relS scope X.env.scope = relS scope c.sc
    rw [g.sc]
  fn := fun x h => by
    show (scope.names.lookup x == some .cell) = true
    rw [show scope.names.lookup x = some .cell from h]
    rfl
  calm := g.calm
  room := g.room
  mo := g.mo }
end
/-- an expression's rules -/
structure Snd (G : Fx) (X : Cx) (e : Cz.E) (a : Expr) : Prop where
  pe : ∀ B W, Takes X (WD G X.K X.w B W) → PE X a (tE G X.K X.w B W e)
  pt : ∀ B W, Takes X (WD G X.K X.w B W) → PT X a (tT G X.K X.w B W e)
theorem Snd.any {G : Fx} {X : Cx} {e : Cz.E} {a : Expr} (h : ∀ B W, Takes X (WD G X.K X.w B W) → PE X a (tE G X.K X.w B W e)) (he : ∀ whole, isTrue a X.env whole = (do let v ← whole; standAt a.pos; holding [v] (truthy v))) : Snd G X e a := ⟨h, fun B W tk => sT_any (h B W tk) he⟩
/-- a row of them -/
structure SndA (G : Fx) (X : Cx) (es : Es) (as : List Expr) : Prop where
  pa : ∀ B W, Takes X (WD G X.K X.w B W) → PA X as (tEs G X.K X.w B W es)
  star : ∀ a ∈ as, nsB a = true
  and : ∀ B W pos, Takes X (WD G X.K X.w B W) → as ≠ [] → PE X (.BoolOp .And as pos) (tE G X.K X.w B W (.and es)) ∧ PW X (.BoolOp .And as pos) (tT G X.K X.w B W (.and es))
  or : ∀ B W pos, Takes X (WD G X.K X.w B W) → as ≠ [] → PE X (.BoolOp .Or as pos) (tE G X.K X.w B W (.or es)) ∧ PW X (.BoolOp .Or as pos) (tT G X.K X.w B W (.or es))
theorem ne_of_isE {α : Type} {l : List α} (h : (!l.isEmpty) = true) : l ≠ [] := fun e => by subst e; cases h
theorem esLen_of {c : Cn} : ∀ {es : Es} {as : List Expr}, okEs c es as = true → esLen es = as.length
  | .nil, as, h => by
    unfold okEs at h
    have := List.isEmpty_iff.mp h
    subst this; rfl
  | .cons e es, as, h => by
    unfold okEs at h
    split at h
    · rw [Bool.and_eq_true] at h
      rw [List.length_cons, ← esLen_of h.2]; rfl
    · cases h
mutual
theorem sndE {G : Fx} {k : Nat} : ∀ (e : Cz.E) {c : Cn} {X : Cx} {a : Expr}, Good c G k X → okE c e a = true → Snd G X e a
  | .var i, c, X, a, g, h => by
    unfold okE at h
    split at h
    · obtain ⟨h1, h2, h3, h4⟩ := nm_ok g h
      exact .any (fun B W _ => sE_var h1 h2 h3 h4) fun _ => rfl
    · cases h
  | .bor i, c, X, a, g, h => by
    unfold okE at h
    split at h
    · obtain ⟨h1, h2, h3, h4⟩ := nm_ok g h
      exact .any (fun B W _ => sE_bor h1 h2 h3 h4) fun _ => rfl
    · cases h
  | .c d, c, X, a, g, h => by
    unfold okE at h
    split at h
    · obtain ⟨v, hv⟩ := c_ok h
      exact .any (fun B W _ => sE_c (cst_pe hv) fun H => cst_dv hv H) fun _ => rfl
    · cases h
  | .g n, c, X, a, g, h => by
    unfold okE at h
    split at h
    · rw [Bool.and_eq_true] at h
      obtain ⟨h1, h2⟩ := gl_ok g h.1
      obtain ⟨v, u, d, q1, q2, q3, q4⟩ := g.mo.con _ _ (of_decide_eq_true h.2)
      exact .any (fun B W _ => sE_g q1 (pe_glob h1 q2 q3 h2) q4) fun _ => rfl
    · cases h
  | .bin o e1 e2, c, X, a, g, h => by
    unfold okE at h
    split at h
    · simp only [Bool.and_eq_true, decide_eq_true_eq] at h
      obtain ⟨⟨h0, h1⟩, h2⟩ := h
      subst h0
      have s1 := sndE e1 g h1
      have s2 := sndE e2 g h2
      exact .any (fun B W tk => sE_bin (s1.pe B W tk) (s2.pe B W tk)) fun _ => rfl
    · cases h
  | .neg e1, c, X, a, g, h => by
    unfold okE at h
    split at h
    · have s1 := sndE e1 g h
      exact .any (fun B W tk => sE_neg (s1.pe B W tk)) fun _ => rfl
    · cases h
  | .cmp o e1 e2, c, X, a, g, h => by
    unfold okE at h
    split at h
    · simp only [Bool.and_eq_true, decide_eq_true_eq, Bool.not_eq_true'] at h
      obtain ⟨⟨⟨h0, hm⟩, h1⟩, h2⟩ := h
      subst h0
      have s1 := sndE e1 g h1
      have s2 := sndE e2 g h2
      exact ⟨fun B W tk => sE_cmp g.units hm (s1.pe B W tk) (s2.pe B W tk), fun B W tk => sT_cmp g.units hm (s1.pe B W tk) (s2.pe B W tk)⟩
    · cases h
  | .chain o o' e1 e2 e3, c, X, a, g, h => by
    unfold okE at h
    split at h
    · simp only [Bool.and_eq_true, decide_eq_true_eq, Bool.not_eq_true'] at h
      obtain ⟨⟨⟨⟨⟨h0, h0'⟩, hm⟩, h1⟩, h2⟩, h3⟩ := h
      subst h0 h0'
      have s1 := sndE e1 g h1
      have s2 := sndE e2 g h2
      have s3 := sndE e3 g h3
      exact ⟨fun B W tk => sE_chain g.units hm (s1.pe B W tk) (s2.pe B W tk) (s3.pe B W tk), fun B W tk => sT_chain g.units hm (s1.pe B W tk) (s2.pe B W tk) (s3.pe B W tk)⟩
    · cases h
  | .and es, c, X, a, g, h => by
    unfold okE at h
    split at h
    · rw [Bool.and_eq_true] at h
      have s1 := sndA es g h.2
      exact ⟨fun B W tk => (s1.and B W _ tk (ne_of_isE h.1)).1, fun B W tk => (s1.and B W _ tk (ne_of_isE h.1)).2.pt⟩
    · cases h
  | .or es, c, X, a, g, h => by
    unfold okE at h
    split at h
    · rw [Bool.and_eq_true] at h
      have s1 := sndA es g h.2
      exact ⟨fun B W tk => (s1.or B W _ tk (ne_of_isE h.1)).1, fun B W tk => (s1.or B W _ tk (ne_of_isE h.1)).2.pt⟩
    · cases h
  | .not e1, c, X, a, g, h => by
    unfold okE at h
    split at h
    · have s1 := sndE e1 g h
      exact ⟨fun B W tk => sE_not (s1.pe B W tk), fun B W tk => sT_not (s1.pt B W tk)⟩
    · cases h
  | .ife e1 e2 e3, c, X, a, g, h => by
    unfold okE at h
    split at h
    · simp only [Bool.and_eq_true] at h
      obtain ⟨⟨h1, h2⟩, h3⟩ := h
      have s1 := sndE e1 g h1
      have s2 := sndE e2 g h2
      have s3 := sndE e3 g h3
      exact ⟨fun B W tk => sE_ife (s1.pt B W tk) (s2.pe B W tk) (s3.pe B W tk), fun B W tk => sT_ife (s1.pt B W tk) (s2.pt B W tk) (s3.pt B W tk)⟩
    · cases h
  | .tup es, c, X, a, g, h => by
    unfold okE at h
    split at h
    · rw [Bool.and_eq_true] at h
      have s1 := sndA es g h.2
      exact .any (fun B W tk => sE_tup (of_decide_eq_true h.1) (s1.pa B W tk)) fun _ => rfl
    · cases h
  | .lst es, c, X, a, g, h => by
    unfold okE at h
    split at h
    · rw [Bool.and_eq_true] at h
      have s1 := sndA es g h.2
      exact .any (fun B W tk => sE_lst (of_decide_eq_true h.1) (s1.pa B W tk)) fun _ => rfl
    · cases h
  | .dcc ks ds, c, X, a, g, h => by
    unfold okE at h
    split at h
    · simp only [Bool.and_eq_true, decide_eq_true_eq] at h
      obtain ⟨⟨⟨h1, h2⟩, h3⟩, h4⟩ := h
      obtain ⟨vs, r⟩ := dc_ok (X := X) h1
      exact .any (fun B W tk => sE_dcc r h2 (ne_of_isE h3) h4) fun _ => rfl
    · cases h
  | .ix e1 e2, c, X, a, g, h => by
    unfold okE at h
    split at h
    · simp only [Bool.and_eq_true] at h
      obtain ⟨⟨h0, h1⟩, h2⟩ := h
      have s1 := sndE e1 g h1
      have s2 := sndE e2 g h2
      exact .any (fun B W tk => sE_ix g.units (slc_ok h0) (s1.pe B W tk) (s2.pe B W tk)) fun _ => rfl
    · cases h
  | .slF e1 e2, c, X, a, g, h => by
    unfold okE at h
    split at h
    · rw [Bool.and_eq_true] at h
      have s1 := sndE e1 g h.1
      have s2 := sndE e2 g h.2
      exact .any (fun B W tk => sE_slF (s1.pe B W tk) (s2.pe B W tk)) fun _ => rfl
    · cases h
  | .slT e1 e2, c, X, a, g, h => by
    unfold okE at h
    split at h
    · rw [Bool.and_eq_true] at h
      have s1 := sndE e1 g h.1
      have s2 := sndE e2 g h.2
      exact .any (fun B W tk => sE_slT (s1.pe B W tk) (s2.pe B W tk)) fun _ => rfl
    · cases h
  | .slFT _ _ _, c, X, a, g, h => by unfold okE at h; cases h
  | .call f es, c, X, a, g, h => by
    unfold okE at h
    split at h
    · simp only [Bool.and_eq_true, decide_eq_true_eq] at h
      obtain ⟨⟨⟨h1, h2⟩, h3⟩, h4⟩ := h
      obtain ⟨g1, g2⟩ := gl_ok g h1
      have s1 := sndA es g h4
      have ln := esLen_of h4
      cases es with
      | nil =>
        rename_i as _
        have e0 : as = [] := List.length_eq_zero_iff.mp (by rw [← ln]; rfl)
        exact absurd e0 (ne_of_isE h3)
      | cons e es =>
        rename_i as _
        cases as with
        | nil => exact absurd rfl (ne_of_isE h3)
        | cons a1 as =>
          exact .any (fun B W tk => sE_call tk g.room (g.mo.cal _ _ _ h2) g1 g2 (star_cons (s1.star a1 List.mem_cons_self)) (back_plain fun b hb => s1.star b (List.mem_cons_of_mem _ hb)) (s1.pa B W tk)) fun _ => rfl
    · cases h
  | .bi b es, c, X, a, g, h => by
    unfold okE at h
    split at h
    · simp only [Bool.and_eq_true, decide_eq_true_eq] at h
      obtain ⟨⟨⟨h1, h2⟩, h3⟩, h4⟩ := h
      subst h2
      obtain ⟨g1, g2⟩ := gl_ok g h1
      have s1 := sndA es g h4
      have ln := esLen_of h4
      cases es with
      | nil =>
        rename_i as _
        have e0 : as = [] := List.length_eq_zero_iff.mp (by rw [← ln]; rfl)
        exact absurd e0 (ne_of_isE h3)
      | cons e es =>
        rename_i as _
        cases as with
        | nil => exact absurd rfl (ne_of_isE h3)
        | cons a1 as =>
          exact .any (fun B W tk => sE_bi g.calm g1 (g.mo.bi b) (bi_boot b) (bi_nm b) g2 (star_cons (s1.star a1 List.mem_cons_self)) (back_plain fun b hb => s1.star b (List.mem_cons_of_mem _ hb)) (s1.pa B W tk)) fun _ => rfl
    · cases h
  | .isi e1 ts, c, X, a, g, h => by
    unfold okE at h
    split at h
    · simp only [Bool.and_eq_true, decide_eq_true_eq] at h
      obtain ⟨⟨⟨⟨h1, h2⟩, h3⟩, h4⟩, h5⟩ := h
      subst h2
      obtain ⟨g1, g2⟩ := gl_ok g h1
      have s1 := sndE e1 g h4
      unfold isB at h5
      split at h5
      · have tn := tys_ok g h5
        cases tn with
        | cons t1 t2 r =>
          cases r
          exact .any (fun B W tk => sE_is1 g1 g.mo.isi (star_cons h3) rfl (s1.pe B W tk) t1) fun _ => rfl
      · rw [Bool.and_eq_true] at h5
        have tn := tys_ok g h5.2
        exact .any (fun B W tk => sE_isT (of_decide_eq_true h5.1) g1 g.mo.isi (star_cons h3) (s1.pe B W tk) tn) fun _ => rfl
      · cases h5
    · cases h
  | .me m e1 es, c, X, a, g, h => by
    unfold okE at h
    split at h
    · rename_i e2 _ _ _ _ _
      simp only [Bool.and_eq_true, decide_eq_true_eq] at h
      obtain ⟨⟨⟨⟨⟨h1, h2⟩, h3⟩, h4⟩, h5⟩, h6⟩ := h
      subst h1
      have s1 := sndE e1 g h5
      have s2 := sndE e2 g h6
      exact .any (fun B W tk => sE_cnt (s1.pe B W tk) (s2.pe B W tk) (recv_ok h2 _ _) (star_cons h3) h4) fun _ => rfl
    · rename_i e2 _ _ _ _ _
      simp only [Bool.and_eq_true, decide_eq_true_eq] at h
      obtain ⟨⟨⟨⟨⟨h1, h2⟩, h3⟩, h4⟩, h5⟩, h6⟩ := h
      subst h1
      have s1 := sndE e1 g h5
      have s2 := sndE e2 g h6
      exact .any (fun B W tk => sE_idxT (s1.pe B W tk) (s2.pe B W tk) (recv_ok h2 _ _) (star_cons h3) h4) fun _ => rfl
    · rename_i e2 _ _ _ _ _
      simp only [Bool.and_eq_true, decide_eq_true_eq] at h
      obtain ⟨⟨⟨⟨⟨h1, h2⟩, h3⟩, h4⟩, h5⟩, h6⟩ := h
      subst h1
      have s1 := sndE e1 g h5
      have s2 := sndE e2 g h6
      exact .any (fun B W tk => sE_idxL (s1.pe B W tk) (s2.pe B W tk) (recv_ok h2 _ _) (star_cons h3) h4) fun _ => rfl
    · simp only [Bool.and_eq_true, decide_eq_true_eq] at h
      obtain ⟨⟨⟨h1, h2⟩, h4⟩, h5⟩ := h
      subst h1
      have s1 := sndE e1 g h5
      exact .any (fun B W tk => sE_bit (s1.pe B W tk) (recv_ok h2 _ _) h4) fun _ => rfl
    · cases h
  | .lc t it cs e, c, X, a, g, h => by
    unfold okE at h
    split at h
    · rename_i scope _
      simp only [Bool.and_eq_true, decide_eq_true_eq] at h
      obtain ⟨⟨⟨⟨⟨⟨⟨h0, h1⟩, h2⟩, h3⟩, h4⟩, h5⟩, h6⟩, h7⟩ := h
      subst h0
      refine .any (fun B W tk => sE_lc g.calm g.nd h4 (sndI it g h2 B W tk) ?_ (fun B s H C cl fp => tg_ok (g.blk scope s H C cl fp) h5 B) (fun B s H C cl fp => sndT cs (g.blk scope s H C cl fp) h6 B) (fun B s H C cl fp => (sndE e (g.blk scope s H C cl fp) h7).pe B W0 takesF) (folded h1 X.env)) fun _ => rfl
      have b := blkOk_by h3
      rw [← g.N, ← g.sc] at b
      rw [g.N] at b ⊢
      exact b
    · cases h
  | .lc2 t it t2 it2 e, c, X, a, g, h => by
    unfold okE at h
    split at h
    · rename_i scope _
      simp only [Bool.and_eq_true, decide_eq_true_eq] at h
      obtain ⟨⟨⟨⟨⟨⟨⟨⟨⟨⟨h0, h0'⟩, h1⟩, h1'⟩, h2⟩, h3⟩, h4⟩, h5⟩, h6⟩, h6'⟩, h7⟩ := h
      subst h0 h0'
      refine .any (fun B W tk => sE_lc2 g.calm g.nd h4 (sndI it g h2 B W tk) ?_ (fun B s H C cl fp => tg_ok (g.blk scope s H C cl fp) h5 B) (fun B s H C cl fp => sndI it2 (g.blk scope s H C cl fp) h6 B W0 takesF) (fun B s H C cl fp => tg_ok (g.blk scope s H C cl fp) h6' B) (fun B s H C cl fp => (sndE e (g.blk scope s H C cl fp) h7).pe B W0 takesF) (folded h1 X.env) (folded h1')) fun _ => rfl
      have b := blkOk_by h3
      rw [← g.N, ← g.sc] at b
      rw [g.N] at b ⊢
      exact b
    · cases h
  | .sset e1, c, X, a, g, h => by
    unfold okE at h
    split at h
    · simp only [Bool.and_eq_true, decide_eq_true_eq] at h
      obtain ⟨⟨⟨⟨⟨h1, h2⟩, h3⟩, h4⟩, h5⟩, h6⟩ := h
      subst h1 h3
      obtain ⟨g1, _⟩ := gl_ok g h2
      obtain ⟨g2, _⟩ := gl_ok g h4
      have s1 := sndE e1 g h6
      exact .any (fun B W tk => sE_sset g.calm g1 (g.mo.bi .sorted) g2 (g.mo.bi .set_) (s1.pe B W tk) (star_cons h5)) fun _ => rfl
    · cases h
  | .inr neg e1 e2 e3, c, X, a, g, h => by
    unfold okE at h
    split at h
    · simp only [Bool.and_eq_true, decide_eq_true_eq, Bool.not_eq_true'] at h
      obtain ⟨⟨⟨⟨⟨⟨⟨⟨h1, h2⟩, h3⟩, h4⟩, h5⟩, h6⟩, h7⟩, h8⟩, h9⟩ := h
      subst h1 h2
      obtain ⟨g1, _⟩ := gl_ok g h3
      have s1 := sndE e1 g h7
      have s2 := sndE e2 g h8
      have s3 := sndE e3 g h9
      exact ⟨fun B W tk => sE_inr g1 g.mo.rng (s1.pe B W tk) (s2.pe B W tk) (s3.pe B W tk) (star_cons h4) (star_cons h5) h6, fun B W tk => sT_inr g1 g.mo.rng (s1.pe B W tk) (s2.pe B W tk) (s3.pe B W tk) (star_cons h4) (star_cons h5) h6⟩
    · cases h
  | .exf _ _, c, X, a, g, h => by unfold okE at h; cases h
  | .exis _ _, c, X, a, g, h => by unfold okE at h; cases h
theorem sndA {G : Fx} {k : Nat} : ∀ (es : Es) {c : Cn} {X : Cx} {as : List Expr}, Good c G k X → okEs c es as = true → SndA G X es as
  | .nil, c, X, as, g, h => by
    unfold okEs at h
    have := List.isEmpty_iff.mp h
    subst this
    exact ⟨fun B W _ => sA_nil, fun _ hb => absurd hb (by simp), fun _ _ _ _ n => absurd rfl n, fun _ _ _ _ n => absurd rfl n⟩
  | .cons e es, c, X, as, g, h => by
    unfold okEs at h
    split at h
    · rename_i a as
      simp only [Bool.and_eq_true] at h
      obtain ⟨⟨h0, h1⟩, h2⟩ := h
      have s1 := sndE e g h1
      have s2 := sndA es g h2
      have ln := esLen_of h2
      refine ⟨fun B W tk => sA_cons (s1.pe B W tk) (s2.pa B W tk) (star_cons h0), fun b hb => ?_, fun B W pos tk _ => ?_, fun B W pos tk _ => ?_⟩
      · rcases List.mem_cons.mp hb with z | z
        · rw [z]; exact h0
        · exact s2.star b z
      · cases es with
        | nil =>
          have e0 : as = [] := List.length_eq_zero_iff.mp (by rw [← ln]; rfl)
          subst e0
          exact ⟨sE_and1 (s1.pe B W tk), sW_and1 (s1.pt B W tk)⟩
        | cons e2 es2 =>
          cases as with
          | nil => cases ln
          | cons a2 as2 =>
            obtain ⟨q1, q2⟩ := s2.and B W pos tk (by simp)
            exact ⟨sE_and (s1.pe B W tk) q1, sW_and (s1.pt B W tk) q2⟩
      · cases es with
        | nil =>
          have e0 : as = [] := List.length_eq_zero_iff.mp (by rw [← ln]; rfl)
          subst e0
          exact ⟨sE_or1 (s1.pe B W tk), sW_or1 (s1.pt B W tk)⟩
        | cons e2 es2 =>
          cases as with
          | nil => cases ln
          | cons a2 as2 =>
            obtain ⟨q1, q2⟩ := s2.or B W pos tk (by simp)
            exact ⟨sE_or (s1.pe B W tk) q1, sW_or (s1.pt B W tk) q2⟩
    · cases h
theorem sndT {G : Fx} {k : Nat} : ∀ (es : Es) {c : Cn} {X : Cx} {as : List Expr}, Good c G k X → okTs c es as = true → ∀ B, PTs X as (tTs G X.K X.w B es)
  | .nil, c, X, as, g, h, B => by
    unfold okTs at h
    have := List.isEmpty_iff.mp h
    subst this
    exact sTs_nil
  | .cons e es, c, X, as, g, h, B => by
    unfold okTs at h
    split at h
    · exact sTs_one ((sndE e g h).pt B W0 takesF)
    · cases h
theorem sndI {G : Fx} {k : Nat} : ∀ (it : Cz.It) {c : Cn} {X : Cx} {tg a : Expr}, Good c G k X → okI c it tg a = true → ∀ B W, Takes X (WD G X.K X.w B W) → PI X tg a (tI G X.K X.w B it)
  | .val e, c, X, tg, a, g, h, B, W, tk => by
    unfold okI at h
    exact sI_val ((sndE e g h).pe B W tk)
  | .r1 e, c, X, tg, a, g, h, B, W, tk => by
    unfold okI at h
    split at h
    · simp only [Bool.and_eq_true, decide_eq_true_eq] at h
      obtain ⟨⟨⟨h1, h2⟩, h3⟩, h4⟩ := h
      subst h2
      exact sI_r1 (gl_ok g h1).1 g.mo.rng (star_cons h3) ((sndE e g h4).pe B W tk)
    · cases h
  | .r2 e1 e2, c, X, tg, a, g, h, B, W, tk => by
    unfold okI at h
    split at h
    · simp only [Bool.and_eq_true, decide_eq_true_eq] at h
      obtain ⟨⟨⟨⟨⟨h1, h2⟩, h3⟩, h3'⟩, h4⟩, h5⟩ := h
      subst h2
      exact sI_r2 (gl_ok g h1).1 g.mo.rng (by rw [star_cons h3, star_cons h3']; rfl) (star_cons h3') ((sndE e1 g h4).pe B W tk) ((sndE e2 g h5).pe B W tk)
    · cases h
  | .r3 _ _ _, c, X, tg, a, g, h, B, W, tk => by unfold okI at h; cases h
  | .enum e, c, X, tg, a, g, h, B, W, tk => by
    unfold okI at h
    split at h
    · simp only [Bool.and_eq_true, decide_eq_true_eq] at h
      obtain ⟨⟨⟨h1, h2⟩, h3⟩, h4⟩ := h
      subst h2
      exact sI_enum g.calm (gl_ok g h1).1 g.mo.enu (star_cons h3) ((sndE e g h4).pe B W tk)
    · cases h
end
end Cs
end
section
set_option Elab.async false
set_option linter.all false
set_option maxRecDepth 100000
set_option maxHeartbeats 8000000
/-! SOUND 24: the checker of statements. -/
namespace Cs
open PySem L2 Cz PyProof.Rows
def notComp : Expr → Bool
  | .ListComp _ _ _ _ => false
  | .SetComp _ _ _ _ => false
  | .DictComp _ _ _ _ _ => false
  | _ => true
def notTup : Expr → Bool
  | .Tuple _ _ _ => false
  | _ => true
/-- is the store of a comprehension's list made within -/
def swB (c : Cn) (x : Str) (px : Pos) (scope : Scope) (pc : Pos) : Bool := decide (c.sc.names.lookup x = some .local) && (px.line == pc.line) && !(scope.names.any fun (n, k) => n == x && (k == .local || k == .cell))
def stoB (c : Cn) : Expr → Bool
  | .ListComp _ _ _ _ => decide (c.sc.kind = .function)
  | .SetComp _ _ _ _ => false
  | .DictComp _ _ _ _ _ => false
  | _ => true
mutual
/-- a suite's expression -/
def okXE (c : Cn) : Cz.E → Expr → Bool
  | .c d, a => match a with | .Constant k _ _ => cB d k | _ => false
  | .exf j f, a => match a with | .Attribute (.Name n _) nm _ => nmB c j n && decide ((nm, f) ∈ c.T.fld) | _ => false
  | .exis j q, a => match a with | .Call (.Name x _) [.Name n _, .Name cn _] [] _ => decide (x = ("isinstance" : Str)) && glB c.sc x && nmB c j n && glB c.sc cn && (decide ((cn, q) ∈ c.T.cls) || (decide (cn = ("ValueError" : Str)) && decide (q = 97))) | _ => false
  | .tup es, a => match a with | .Tuple as _ _ => decide (esLen es ≤ Lim) && okXEs c es as | _ => false
  | .ife t e1 e2, a => match t, a with | .exis j q, .IfExp a0 a1 a2 _ => okXE c t a0 && okXE c e1 a1 && okXE c e2 a2 | _, _ => false
  | _, _ => false
def okXEs (c : Cn) : Es → List Expr → Bool
  | .nil, as => as.isEmpty
  | .cons e es, as => match as with
    | a :: as => nsB a && okXE c e a && okXEs c es as
    | [] => false
end
def hdB (c : Cn) (o : Option Nat) (nm : Option Str) : Bool := match o, nm with
  | none, none => true
  | some i, some y => decide (c.N[i]? = some y) && decide (c.sc.names.lookup y = some .local)
  | _, _ => false
def okHs (c : Cn) : Hs → List ExceptHandler → Bool
  | .nil, cs => cs.isEmpty
  | .cons n o ss hs, cs => match cs with
    | .ExceptHandler (some (.Name x _)) nm [.Return (some ea) _] _ :: cs => glB c.sc x && decide ((x, n) ∈ c.T.cls) && hdB c o nm && (match ss with | .cons (.ret e) .nil => okX o e && okXE c e ea | _ => false) && okHs c hs cs
    | _ => false
mutual
def okS (c : Cn) : Cz.S → Stmt → Bool
  | .asg i e, st => match st with
    | .Assign [.Name x px] a _ => decide (c.N[i]? = some x) && locB c x && okE c e a && stoB c a
    | _ => false
  | .asgT t e, st => match st with | .Assign [.Tuple es k p] a _ => tgB c t (.Tuple es k p) && okE c e a && notComp a && notTup a | _ => false
  | .asgIx i k e, st => match st with | .Assign [.Subscript (.Name x _) ak _] a _ => nmB c i x && slcB ak && okE c k ak && okE c e a && notComp a | _ => false
  | .app i e, st => match st with | .Expr (.Call (.Attribute (.Name x _) nm pa) [a] [] pc) _ => decide (nm = ("append" : Str)) && nmB c i x && nsB a && okE c e a && (pa.endLine == pc.line) | _ => false
  | .ex e, st => match st with | .Expr a _ => okE c e a && notComp a | _ => false
  | .ret e, st => match st with | .Return (some a) _ => okE c e a | _ => false
  | .retN, st => match st with | .Return none _ => true | _ => false
  | .ife t s1 s2, st => match st with | .If a b1 b2 _ => okE c t a && okSs c s1 b1 && okSs c s2 b2 | _ => false
  | .for_ t it body, st => match st with | .For tg iter sts [] _ => notSet iter && okI c it tg iter && tgB c t tg && okSs c body sts | _ => false
  | .while_ t body, st => match st with | .While a sts [] _ => okE c t a && okSs c body sts | _ => false
  | .raise n e, st => match st with | .Raise (some (.Call (.Name x _) [a] [] _)) none _ => glB c.sc x && decide ((x, n) ∈ c.T.mks) && nsB a && okE c e a | _ => false
  | .try_ body hs, st => match st with | .Try sts (c0 :: cs) [] [] _ => okSs c body sts && okHs c hs (c0 :: cs) | _ => false
  | .pass, st => match st with | .Pass _ => true | _ => false
  | .brk, st => match st with | .Break _ => true | _ => false
  | .cnt, st => match st with | .Continue _ => true | _ => false
def okSs (c : Cn) : Ss → List Stmt → Bool
  | .nil, sts => sts.isEmpty
  | .cons s ss, sts => match sts with
    | st :: sts => okS c s st && okSs c ss sts
    | [] => false
end
/-! ### it is right -/
section
variable {c : Cn} {G : Fx} {k : Nat} {X : Cx}
theorem sw_not {a : Expr} (h : notComp a = true) (t : Option Expr) (l : Nat) (env : PySem.Env) : swapsWith a t l env = pure false := by
  cases a <;> first | rfl | cases h
theorem ss_not {a tg : Expr} (h : notTup a = true) (env : PySem.Env) : swappedStores [tg] a env = pure none := by
  cases tg <;> cases a <;> first | rfl | cases h
theorem asg_sub {o i : Expr} {p : Pos} (h : slcB i = true) (env : PySem.Env) (v : Value) : assign (.Subscript o i p) env v = (do
      let ov ← holding [v] (eval o env)
      let iv ← holding [v, ov] (eval i env)
      standAt p
      holding [v, ov, iv] (setItem ov iv v)
      release [v, ov, iv] []) := by
  cases i <;> first | rfl | cases h
mutual
theorem sndX {a : Addr} {eo : Obj} {cls : Value} {d : Option Addr} {pn : List (Addr × Obj)} {o : Option Nat} (g : Good c G k X) (hz : Zc cls d eo) (hf : ∃ vs, eo.data = .fields vs) : ∀ (e : Cz.E) {ea : Expr}, okXE c e ea = true → PE (X.suite a ((a, eo) :: pn)) ea (tX G X.K X.w o a cls d e)
  | .c dd, ea, h => by
    unfold okXE at h
    split at h
    · obtain ⟨v, hv⟩ := c_ok h
      exact xE_c (Y := X.suite a ((a, eo) :: pn)) (cst_pe hv) fun H => cst_dv hv H
    · cases h
  | .exf j f, ea, h => by
    unfold okXE at h
    split at h
    · rw [Bool.and_eq_true] at h
      obtain ⟨h1, h2, h3, h4⟩ := nm_ok g h.1
      exact xE_exf g.mo.xf hz hf h1 h2 h3 h4 fun q C hq hf => g.mo.fld _ _ (of_decide_eq_true h.2) q C hq hf
    · cases h
  | .exis j q, ea, h => by
    unfold okXE at h
    split at h
    · simp only [Bool.and_eq_true, decide_eq_true_eq] at h
      obtain ⟨⟨⟨⟨h0, h1⟩, h2⟩, h3⟩, h4⟩ := h
      subst h0
      obtain ⟨n1, n2, n3, n4⟩ := nm_ok g h2
      obtain ⟨g1, g2⟩ := gl_ok g h3
      rw [Bool.or_eq_true] at h4
      rcases h4 with h4 | h4
      · obtain ⟨C, hC, hm⟩ := g.mo.cls _ _ (of_decide_eq_true h4)
        exact xE_exis g.mo.xf hz hf n1 n2 n3 n4 hC (pe_glob (X := X.suite a ((a, eo) :: pn)) g1 hm rfl g2) (gl_ok g h1).1 g.mo.isi
      · rw [Bool.and_eq_true, decide_eq_true_eq, decide_eq_true_eq] at h4
        obtain ⟨e1, e2⟩ := h4
        subst e1 e2
        exact xE_exisV g.mo.xf hz hf n1 n2 n3 n4 rfl (pe_bltn (X := X.suite a ((a, eo) :: pn)) g1 g.mo.vE rfl rfl (by decide +kernel) g2) (gl_ok g h1).1 g.mo.isi
    · cases h
  | .tup es, ea, h => by
    unfold okXE at h
    split at h
    · rw [Bool.and_eq_true] at h
      exact xE_tup (of_decide_eq_true h.1) (sndXs g hz hf es h.2).1
    · cases h
  | .ife t e1 e2, ea, h => by
    unfold okXE at h
    split at h
    · rename_i j q a0 a1 a2 p
      simp only [Bool.and_eq_true] at h
      obtain ⟨⟨h0, h1⟩, h2⟩ := h
      have q0 := sndX (o := o) (pn := pn) (a := a) g hz hf (.exis j q) h0
      have q1 := sndX (o := o) (pn := pn) (a := a) g hz hf e1 h1
      have q2 := sndX (o := o) (pn := pn) (a := a) g hz hf e2 h2
      refine xE_ife (Y := X.suite a ((a, eo) :: pn)) rfl ?_ q0 q1 q2
      unfold okXE at h0
      split at h0
      · exact fun _ => rfl
      · cases h0
    · cases h
  | .var _, ea, h => by unfold okXE at h; cases h
  | .bor _, ea, h => by unfold okXE at h; cases h
  | .g _, ea, h => by unfold okXE at h; cases h
  | .bin _ _ _, ea, h => by unfold okXE at h; cases h
  | .neg _, ea, h => by unfold okXE at h; cases h
  | .cmp _ _ _, ea, h => by unfold okXE at h; cases h
  | .chain _ _ _ _ _, ea, h => by unfold okXE at h; cases h
  | .and _, ea, h => by unfold okXE at h; cases h
  | .or _, ea, h => by unfold okXE at h; cases h
  | .not _, ea, h => by unfold okXE at h; cases h
  | .lst _, ea, h => by unfold okXE at h; cases h
  | .dcc _ _, ea, h => by unfold okXE at h; cases h
  | .ix _ _, ea, h => by unfold okXE at h; cases h
  | .slF _ _, ea, h => by unfold okXE at h; cases h
  | .slT _ _, ea, h => by unfold okXE at h; cases h
  | .slFT _ _ _, ea, h => by unfold okXE at h; cases h
  | .call _ _, ea, h => by unfold okXE at h; cases h
  | .bi _ _, ea, h => by unfold okXE at h; cases h
  | .isi _ _, ea, h => by unfold okXE at h; cases h
  | .me _ _ _, ea, h => by unfold okXE at h; cases h
  | .sset _, ea, h => by unfold okXE at h; cases h
  | .inr _ _ _ _, ea, h => by unfold okXE at h; cases h
  | .lc _ _ _ _, ea, h => by unfold okXE at h; cases h
  | .lc2 _ _ _ _ _, ea, h => by unfold okXE at h; cases h
theorem sndXs {a : Addr} {eo : Obj} {cls : Value} {d : Option Addr} {pn : List (Addr × Obj)} {o : Option Nat} (g : Good c G k X) (hz : Zc cls d eo) (hf : ∃ vs, eo.data = .fields vs) : ∀ (es : Es) {eas : List Expr}, okXEs c es eas = true → PA (X.suite a ((a, eo) :: pn)) eas (tXs G X.K X.w o a cls d es) ∧ True
  | .nil, eas, h => by
    unfold okXEs at h
    have := List.isEmpty_iff.mp h
    subst this
    exact ⟨xA_nil, trivial⟩
  | .cons e es, eas, h => by
    unfold okXEs at h
    split at h
    · simp only [Bool.and_eq_true] at h
      obtain ⟨⟨h0, h1⟩, h2⟩ := h
      exact ⟨xA_cons (Y := X.suite a ((a, eo) :: pn)) (sndX g hz hf e h1) (sndXs g hz hf es h2).1 (star_cons h0), trivial⟩
    · cases h
end
theorem sndH (g : Good c G k X) : ∀ (hs : Hs) {cs : List ExceptHandler}, okHs c hs cs = true → ∃ l, ClOf G X.K X.w hs l ∧ Cls X cs l
  | .nil, cs, h => by
    unfold okHs at h
    have := List.isEmpty_iff.mp h
    subst this
    exact ⟨[], .nil, .nil⟩
  | .cons n o ss hs, cs, h => by
    unfold okHs at h
    split at h
    · rename_i x _ nm ea rp _ cs
      simp only [Bool.and_eq_true, decide_eq_true_eq] at h
      obtain ⟨⟨⟨⟨h1, h2⟩, h3⟩, h4⟩, h5⟩ := h
      obtain ⟨l, l1, l2⟩ := sndH g hs h5
      obtain ⟨C, hC, hm⟩ := g.mo.cls _ _ h2
      obtain ⟨g1, g2⟩ := gl_ok g h1
      have nc : Names X x (.ref C) := ⟨g1, g2, .inl hm⟩
      split at h4
      · rename_i e
        rw [Bool.and_eq_true] at h4
        have su : ∀ (a : Addr) (eo : Obj) (cls : Value) (d : Option Addr) (pn : List (Addr × Obj)), Zc cls d eo → (∃ vs, eo.data = .fields vs) → PSs (X.suite a ((a, eo) :: pn)) [.Return (some ea) rp] (tSu G X.K X.w o (.cons (.ret e) .nil) a cls d) := fun a eo cls d pn hz hf => su_ret (Y := X.suite a ((a, eo) :: pn)) h4.1 (sndX g hz hf e h4.2)
        refine ⟨_, .cons hC l1, ?_⟩
        unfold hdB at h3
        split at h3
        · exact .plain nc rfl su l2
        · rw [Bool.and_eq_true] at h3
          exact .named nc rfl (by rw [g.N]; exact of_decide_eq_true h3.1) (by show X.env.scope.names.lookup _ = _; rw [g.sc]; exact of_decide_eq_true h3.2) su l2
        · cases h3
      · cases h4
    · cases h
/-- x = a -/
theorem snd_asg {i : Nat} {e : Cz.E} {x : Str} {px pos : Pos} {a : Expr} {B : Bas} {W : Wi} (g : Good c G k X) (tk : Takes X (WD G X.K X.w B W)) (hi : c.N[i]? = some x) (hl : locB c x = true) (h : okE c e a = true)
    (hk : stoB c a = true) : PS X (.Assign [.Name x px] a pos) (tAsg (tE G X.K X.w B W e) (gName i)) := by
  have hi : X.N[i]? = some x := by rw [g.N]; exact hi
  obtain ⟨l1, l2⟩ := loc_ok g hl
  have s1 := sndE e g h
  by_cases nc : notComp a = true
  · exact ps_set g.nd hi l1 (s1.pe B W tk) (sw_not nc _ _ _) l2
  · cases a with
    | ListComp elt gens scope pc =>
      have kf : X.env.scope.kind = .function := by rw [g.sc]; exact of_decide_eq_true hk
      by_cases sw : swB c x px scope pc = true
      · unfold swB at sw
        simp only [Bool.and_eq_true, decide_eq_true_eq, Bool.not_eq_true'] at sw
        obtain ⟨⟨w1, w2⟩, w3⟩ := sw
        rw [← g.sc] at w1
        have hsw : swapsWith (.ListComp elt gens scope pc) (some (.Name x px)) pos.line X.env = pure true := sw_true kf w1 w2 w3
        cases e with
        | lc t it cs e =>
          match gens, h with
          | [], h => unfold okE at h; cases h
          | [⟨tg, iter, ifs, asy⟩], h =>
            unfold okE at h
            simp only [Bool.and_eq_true, decide_eq_true_eq] at h
            obtain ⟨⟨⟨⟨⟨⟨⟨h0, h1⟩, h2⟩, h3⟩, h4⟩, h5⟩, h6⟩, h7⟩ := h
            subst h0
            have b := blkOk_by h3
            rw [← g.N, ← g.sc] at b
            rw [← h4]
            rw [g.N] at b
            have z := ps_setLc (X := X) (py := px) (spos := pos) (i := i) (y := x) (g := fun v σ H Q => ∃ B, tGt X.K X.w B ((ownOf c.N t).map (·.2)) v σ H Q) (tt := fun σ H Q => ∃ B, tTs G X.K X.w B cs σ H Q) (te := fun σ H Q => ∃ B, tE G X.K X.w B W0 e σ H Q) g.calm g.nd hi w1 hsw (sndI it g h2 B W tk) (by rw [g.N]; exact b)
              (fun s H C cl fp => PG.any fun B => by rw [h4]; exact tg_ok (g.blk scope s H C cl fp) h5 B) (fun s H C cl fp => PTs.any fun B => sndT cs (g.blk scope s H C cl fp) h6 B) (fun s H C cl fp => PE.any fun B => (sndE e (g.blk scope s H C cl fp) h7).pe B W0 takesF) (folded h1 X.env)
            exact z.imp fun D σ H h => sLc h
          | ⟨_, _, _, _⟩ :: _ :: _, h => unfold okE at h; cases h
        | lc2 t it t2 it2 e =>
          match gens, h with
          | [], h => unfold okE at h; cases h
          | [⟨_, _, [], _⟩], h => unfold okE at h; cases h
          | [⟨_, _, _ :: _, _⟩], h => unfold okE at h; cases h
          | [⟨tg, iter, [], asy⟩, ⟨tg2, iter2, [], asy2⟩], h =>
            unfold okE at h
            simp only [Bool.and_eq_true, decide_eq_true_eq] at h
            obtain ⟨⟨⟨⟨⟨⟨⟨⟨⟨⟨h0, h0'⟩, h1⟩, h1'⟩, h2⟩, h3⟩, h4⟩, h5⟩, h6⟩, h6'⟩, h7⟩ := h
            subst h0 h0'
            have b := blkOk_by h3
            rw [← g.N, ← g.sc] at b
            rw [g.N] at b
            have z := ps_setLc2 (X := X) (py := px) (spos := pos) (i := i) (y := x) (own := ownOf c.N (t ++ t2)) (vs1 := t2) (g := fun v σ H Q => ∃ B, tGt X.K X.w B t v σ H Q) (tt := tYes) (tt1 := tYes) (wi1 := fun σ H R => ∃ B, tI G X.K X.w B it2 σ H R) (g1 := fun v σ H Q => ∃ B, tGt X.K X.w B t2 v σ H Q) (te := fun σ H Q => ∃ B, tE G X.K X.w B W0 e σ H Q) g.calm g.nd hi w1 hsw (sndI it g h2 B W tk) (by rw [g.N]; exact b)
              (fun i hi => by rw [h4]; exact List.mem_append_right _ hi)
              (fun s H C cl fp => PG.any fun B => tg_ok (g.blk scope s H C cl fp) h5 B) (fun s H C cl fp => pts_nil) (fun s H C cl fp => PI.any fun B => sndI it2 (g.blk scope s H C cl fp) h6 B W0 takesF) (fun s H C cl fp => PG.any fun B => tg_ok (g.blk scope s H C cl fp) h6' B) (fun s H C cl fp => pts_nil)
              (fun s H C cl fp => PE.any fun B => (sndE e (g.blk scope s H C cl fp) h7).pe B W0 takesF) (folded h1 X.env) (folded h1')
            rw [h4] at z
            exact z.imp fun D σ H h => sLc2 h
          | [⟨_, _, _ :: _, _⟩, _], h => unfold okE at h; cases h
          | [⟨_, _, [], _⟩, ⟨_, _, _ :: _, _⟩], h => unfold okE at h; cases h
          | ⟨_, _, _ :: _, _⟩ :: _ :: _ :: _, h => unfold okE at h; cases h
          | ⟨_, _, [], _⟩ :: ⟨_, _, _ :: _, _⟩ :: _ :: _, h => unfold okE at h; cases h
          | ⟨_, _, [], _⟩ :: ⟨_, _, [], _⟩ :: _ :: _, h => unfold okE at h; cases h
        | me m e1 es => unfold okE at h; split at h <;> first | cases h | contradiction
        | _ => unfold okE at h; cases h
      · refine ps_set g.nd hi l1 (s1.pe B W tk) ?_ l2
        have e1 : swapsWith (.ListComp elt gens scope pc) (some (.Name x px)) pos.line X.env = pure (X.env.blockKind == .function && X.env.kindOf x == some .local && px.line == pc.line && !(scope.names.any fun (n, k) => n == x && (k == .local || k == .cell))) := rfl
        rw [e1]
        congr 1
        unfold swB at sw
        rw [← g.sc] at sw
        have e2 : (X.env.kindOf x == some .local) = decide (X.env.scope.names.lookup x = some .local) := by
          show (X.env.scope.names.lookup x == some NameKind.local) = _
          rw [Bool.eq_iff_iff]
          simp
        rw [e2]
        cases q1 : decide (X.env.scope.names.lookup x = some .local) <;> cases q2 : (px.line == pc.line) <;> cases q3 : (scope.names.any fun (n, k) => n == x && (k == .local || k == .cell)) <;> rw [q1, q2, q3] at sw <;> simp at sw ⊢
    | SetComp _ _ _ _ => cases hk
    | DictComp _ _ _ _ _ => cases hk
    | _ => exact absurd rfl nc
end
end Cs
end
section
set_option Elab.async false
set_option linter.all false
set_option maxRecDepth 100000
set_option maxHeartbeats 8000000
/-! SOUND 25: the checker of statements is right. -/
namespace Cs
open PySem L2 Cz PyProof.Rows
section
variable {G : Fx} {k : Nat}
/-- where a body stands -/
structure Bod (c : Cn) (G : Fx) (k : Nat) (X : Cx) : Prop where
  g : Good c G k X
  stk : X.stack = X.env :: X.outer
  frm : X.env.frame = some X.env.locals
  po : PassesOwn (model X.prog X.w) X.A X.env X.xe
theorem Bod.tr {c : Cn} {X : Cx} (b : Bod c G k X) {pn : List (Addr × Obj)} {xe : Value → Shared → Prop} (po : PassesOwn (model X.prog X.w) X.A X.env xe) : Bod c G k (X.tr pn xe) := ⟨⟨b.g.N, b.g.nd, b.g.sc, b.g.fn, b.g.calm, b.g.room, b.g.mo⟩, b.stk, b.frm, po⟩
mutual
theorem sndS : ∀ (s : Cz.S) {c : Cn} {X : Cx} {st : Stmt}, Bod c G k X → okS c s st = true → ∀ {B : Bas} {W : Wi}, Takes X (WD G X.K X.w B W) → PS X st (tR X.K X.w B W (evS G.M G.C s))
  | .asg i e, c, X, st, b, h, B, W, tk => by
    unfold okS at h
    split at h
    · simp only [Bool.and_eq_true, decide_eq_true_eq] at h
      obtain ⟨⟨⟨h1, h2⟩, h3⟩, h4⟩ := h
      exact sS_asgG (snd_asg b.g tk h1 h2 h3 h4)
    · cases h
  | .asgT t e, c, X, st, b, h, B, W, tk => by
    unfold okS at h
    split at h
    · simp only [Bool.and_eq_true] at h
      obtain ⟨⟨⟨h1, h2⟩, h3⟩, h4⟩ := h
      exact sS_asgT ((sndE e b.g h2).pe B W tk) (tg_ok b.g h1 B) (by rw [swapsWithSole]; exact sw_not h3 _ _ _) (ss_not h4 _) rfl
    · cases h
  | .asgIx i q e, c, X, st, b, h, B, W, tk => by
    unfold okS at h
    split at h
    · simp only [Bool.and_eq_true] at h
      obtain ⟨⟨⟨⟨h1, h2⟩, h3⟩, h4⟩, h5⟩ := h
      obtain ⟨n1, n2, n3, n4⟩ := nm_ok b.g h1
      exact sS_asgIx n1 n2 n3 n4 ((sndE e b.g h4).pe B W tk) ((sndE q b.g h3).pe B W tk) (by rw [swapsWithSole]; exact sw_not h5 _ _ _) fun v => asg_sub h2 _ v
    · cases h
  | .app i e, c, X, st, b, h, B, W, tk => by
    unfold okS at h
    split at h
    · simp only [Bool.and_eq_true, decide_eq_true_eq] at h
      obtain ⟨⟨⟨⟨h1, h2⟩, h3⟩, h4⟩, h5⟩ := h
      subst h1
      obtain ⟨n1, n2, n3, n4⟩ := nm_ok b.g h2
      exact sS_app n1 n2 n3 n4 ((sndE e b.g h4).pe B W tk) (star_cons h3) h5
    · cases h
  | .ex e, c, X, st, b, h, B, W, tk => by
    unfold okS at h
    split at h
    · rw [Bool.and_eq_true] at h
      exact sS_ex ((sndE e b.g h.1).pe B W tk) (sw_not h.2 _ _ _)
    · cases h
  | .ret e, c, X, st, b, h, B, W, tk => by
    unfold okS at h
    split at h
    · rename_i a p
      have s1 := sndE e b.g h
      cases e with
      | var i =>
        unfold okE at h
        split at h
        · obtain ⟨n1, n2, n3, n4⟩ := nm_ok b.g h
          exact sS_retV n1 n2 n3 n4
        · cases h
      | _ => exact sS_ret (fun i z => by cases z) (s1.pe B W tk)
    · cases h
  | .retN, c, X, st, b, h, B, W, tk => by
    unfold okS at h
    split at h
    · exact sS_retN
    · cases h
  | .ife t s1 s2, c, X, st, b, h, B, W, tk => by
    unfold okS at h
    split at h
    · simp only [Bool.and_eq_true] at h
      obtain ⟨⟨h1, h2⟩, h3⟩ := h
      exact sS_if ((sndE t b.g h1).pt B W tk) (sndSs s1 b h2 tk) (sndSs s2 b h3 tk)
    · cases h
  | .for_ t it body, c, X, st, b, h, B, W, tk => by
    unfold okS at h
    split at h
    · simp only [Bool.and_eq_true] at h
      obtain ⟨⟨⟨h1, h2⟩, h3⟩, h4⟩ := h
      exact sS_for b.po b.g.calm (sndI it b.g h2 B W tk) (tg_ok b.g h3 B) (sndSs body b h4 tk) (folded h1 _)
    · cases h
  | .while_ t body, c, X, st, b, h, B, W, tk => by
    unfold okS at h
    split at h
    · rw [Bool.and_eq_true] at h
      exact sS_while b.po ((sndE t b.g h.1).pt B W tk) (sndSs body b h.2 tk)
    · cases h
  | .raise n e, c, X, st, b, h, B, W, tk => by
    unfold okS at h
    split at h
    · simp only [Bool.and_eq_true, decide_eq_true_eq] at h
      obtain ⟨⟨⟨h1, h2⟩, h3⟩, h4⟩ := h
      obtain ⟨g1, g2⟩ := gl_ok b.g h1
      exact sS_raise b.g.calm tk (b.g.mo.made _ _ h2 X rfl rfl rfl rfl rfl b.g.calm b.g.room g1 g2 B W e _ _ _ (star_cons h3) ((sndE e b.g h4).pe B W tk))
    · cases h
  | .try_ body hs, c, X, st, b, h, B, W, tk => by
    unfold okS at h
    split at h
    · rw [Bool.and_eq_true] at h
      obtain ⟨l, l1, l2⟩ := sndH b.g hs h.2
      exact sS_try b.g.mo.xf b.g.nd b.stk b.frm tk (fun B W pn xe tk1 po => sndSs body (b.tr po) h.1 tk1) l1 l2
    · cases h
  | .pass, c, X, st, b, h, B, W, tk => by
    unfold okS at h
    split at h
    · exact sS_pass
    · cases h
  | .brk, c, X, st, b, h, B, W, tk => by
    unfold okS at h
    split at h
    · exact sS_brk
    · cases h
  | .cnt, c, X, st, b, h, B, W, tk => by
    unfold okS at h
    split at h
    · exact sS_cnt
    · cases h
theorem sndSs : ∀ (ss : Ss) {c : Cn} {X : Cx} {sts : List Stmt}, Bod c G k X → okSs c ss sts = true → ∀ {B : Bas} {W : Wi}, Takes X (WD G X.K X.w B W) → PSs X sts (tR X.K X.w B W (evSs G.M G.C ss))
  | .nil, c, X, sts, b, h, B, W, tk => by
    unfold okSs at h
    have := List.isEmpty_iff.mp h
    subst this
    exact sS_nil
  | .cons s ss, c, X, sts, b, h, B, W, tk => by
    unfold okSs at h
    split at h
    · rw [Bool.and_eq_true] at h
      exact sS_cons (sndS s b h.1 tk) (sndSs ss b h.2 tk)
    · cases h
end
end
end Cs
end
section
set_option Elab.async false
set_option linter.all false
set_option maxRecDepth 100000
set_option maxHeartbeats 8000000
/-! SOUND 26: a def. -/
namespace Cs
open PySem L2 Cz PyProof.Rows
/-- the lent lists by their slots -/
def lix : Nat → List V → List Cz.Arg → List (Nat × Addr)
  | i, v :: vs, .o _ :: as => (match v with | .ref p => [(i, p)] | _ => []) ++ lix (i + 1) vs as
  | i, _ :: vs, .a _ :: as => lix (i + 1) vs as
  | _, _, _ => []
theorem lix_snd : ∀ (i : Nat) (vs : List V) (as : List Cz.Arg), (lix i vs as).map (·.2) = lentsOf vs as
  | i, v :: vs, .o _ :: as => by
    unfold lix lentsOf
    rw [List.map_append, lix_snd (i + 1) vs as]
    cases v <;> rfl
  | i, _ :: vs, .a _ :: as => by unfold lix lentsOf; exact lix_snd (i + 1) vs as
  | _, [], _ => by unfold lix lentsOf; rfl
  | _, _ :: _, [] => by unfold lix lentsOf; rfl
abbrev slArg : Cz.Arg → Sl := fun a => match a with | .a d => Sl.d d | .o xs => Sl.own true xs
theorem startEnv_eq (as : List Cz.Arg) (n : Nat) : startEnv as n = as.map slArg ++ List.replicate (n - as.length) Sl.no := rfl
section
variable {K : PySem.W.Frag} {w : World} {F H F' H' : Hp}
theorem Argvs.len : ∀ {vs : List V} {as : List Cz.Arg}, Argvs K w F H vs as → vs.length = as.length
  | _, _, .nil => rfl
  | _, _, .a _ r => by rw [List.length_cons, List.length_cons, Argvs.len r]
  | _, _, .o _ _ _ _ r => by rw [List.length_cons, List.length_cons, Argvs.len r]
theorem Argvs.dat : ∀ {vs : List V} {as : List Cz.Arg} {i : Nat} {x : D}, Argvs K w F H vs as → as[i]? = some (.a x) → ∃ v, vs[i]? = some v ∧ DV K w F v x
  | _, _, _, _, .nil, h => by simp at h
  | _, _, 0, x, .a dv _, h => by
    simp at h; subst h; exact ⟨_, rfl, dv⟩
  | _, _, i + 1, x, .a _ r, h => by
    obtain ⟨v, a, b⟩ := Argvs.dat (i := i) r (by simpa using h)
    exact ⟨v, by simpa using a, b⟩
  | _, _, 0, x, .o _ _ _ _ _, h => by simp at h
  | _, _, i + 1, x, .o _ _ _ _ r, h => by
    obtain ⟨v, a, b⟩ := Argvs.dat (i := i) r (by simpa using h)
    exact ⟨v, by simpa using a, b⟩
theorem Argvs.own : ∀ {vs : List V} {as : List Cz.Arg} {i : Nat} {xs : List D} (j : Nat), Argvs K w F H vs as → as[i]? = some (.o xs) → ∃ p us, vs[i]? = some (V.ref p) ∧ F p = none ∧ H p = some (.lst us) ∧ DVs K w F us xs ∧ xs.length ≤ Lim ∧ (j + i, p) ∈ lix j vs as
  | _, _, _, _, _, .nil, h => by simp at h
  | _, _, 0, xs, j, .a dv _, h => by simp at h
  | _, _, i + 1, xs, j, .a _ r, h => by
    obtain ⟨p, us, a, b, c, d, e, f⟩ := Argvs.own (i := i) (j + 1) r (by simpa using h)
    refine ⟨p, us, by simpa using a, b, c, d, e, ?_⟩
    unfold lix
    rw [show j + (i + 1) = j + 1 + i by omega]; exact f
  | _, _, 0, xs, j, .o b c d e r, h => by
    simp at h; subst h
    refine ⟨_, _, rfl, b, c, d, e, ?_⟩
    unfold lix
    simp
  | _, _, i + 1, xs, j, .o _ _ _ _ r, h => by
    obtain ⟨p, us, a, b, c, d, e, f⟩ := Argvs.own (i := i) (j + 1) r (by simpa using h)
    refine ⟨p, us, by simpa using a, b, c, d, e, ?_⟩
    unfold lix
    rw [show j + (i + 1) = j + 1 + i by omega]
    exact List.mem_append_right _ f
theorem Argvs.lix : ∀ {vs : List V} {as : List Cz.Arg} (j : Nat) {q : Nat × Addr}, Argvs K w F H vs as → q ∈ Cs.lix j vs as → ∃ i xs, q.1 = j + i ∧ as[i]? = some (.o xs) ∧ vs[i]? = some (V.ref q.2)
  | _, _, _, _, .nil, h => by unfold Cs.lix at h; cases h
  | _, _, j, q, .a _ r, h => by
    unfold Cs.lix at h
    obtain ⟨i, xs, a, b, c⟩ := Argvs.lix (j + 1) r h
    exact ⟨i + 1, xs, by omega, by simpa using b, by simpa using c⟩
  | _, _, j, q, .o (p := p) _ _ _ _ r, h => by
    unfold Cs.lix at h
    rcases List.mem_append.mp h with h | h
    · have e : q = (j, p) := by simpa using h
      subst e
      exact ⟨0, _, rfl, rfl, rfl⟩
    · obtain ⟨i, xs, a, b, c⟩ := Argvs.lix (j + 1) r h
      exact ⟨i + 1, xs, by omega, by simpa using b, by simpa using c⟩
theorem nodup_ix {l : List (Nat × Addr)} (n : (l.map (·.2)).Nodup) {a b : Nat × Addr} (ha : a ∈ l) (hb : b ∈ l) (e : a.2 = b.2) : a = b := by
  induction l with
  | nil => cases ha
  | cons x r ih =>
    rw [List.map_cons, List.nodup_cons] at n
    rcases List.mem_cons.mp ha with ha | ha
    · rcases List.mem_cons.mp hb with hb | hb
      · rw [ha, hb]
      · exact absurd (List.mem_map.mpr ⟨b, hb, by rw [← e, ha]⟩) n.1
    · rcases List.mem_cons.mp hb with hb | hb
      · exact absurd (List.mem_map.mpr ⟨a, ha, by rw [e, hb]⟩) n.1
      · exact ih n.2 ha hb
/-- the entry -/
theorem start_rep {N : List Str} {vs : List V} {as : List Cz.Arg} (ex : Ex F H) (av : Argvs K w F H vs as) (nd : (lentsOf vs as).Nodup) (hn : vs.length ≤ N.length) : Rep K w ⟨F, H, Cs.lix 0 vs as⟩ F H (L2.start N vs) (startEnv as N.length) := by
  have hl := av.len
  have sv : ∀ (i : Nat) (y : Option V), i < vs.length → ((L2.start N vs)[i]? = some y ↔ (vs[i]?).map some = some y) := fun i y h => by
    unfold L2.start
    rw [List.getElem?_append_left (by rw [List.length_map]; exact h), List.getElem?_map]
  have sa : ∀ (i : Nat), i < as.length → (startEnv as N.length)[i]? = (as[i]?).map slArg := fun i h => by
    rw [startEnv_eq, List.getElem?_append_left (by rw [List.length_map]; exact h), List.getElem?_map]
  have so : ∀ (i : Nat) (z : Sl), ¬ i < as.length → (startEnv as N.length)[i]? = some z → z = .no := fun i z h e => by
    rw [startEnv_eq, List.getElem?_append_right (by rw [List.length_map]; omega), List.getElem?_replicate] at e
    split at e
    · exact (Option.some.inj e).symm
    · cases e
  have own : ∀ (i : Nat) (l : Bool) (xs : List D), (startEnv as N.length)[i]? = some (Sl.own l xs) → l = true ∧ i < as.length ∧ as[i]? = some (.o xs) := fun i l xs e => by
    by_cases h : i < as.length
    · rw [sa i h] at e
      obtain ⟨a, ha, e2⟩ := Option.map_eq_some_iff.mp e
      cases a with
      | a d => cases e2
      | o ys => cases e2; exact ⟨rfl, h, ha⟩
    · have := so i _ h e
      cases this
  exact {
    fe := .refl F
    fh := ex
    len := by
      rw [startEnv_eq]
      unfold L2.start
      rw [List.length_append, List.length_append, List.length_map, List.length_map, List.length_replicate, List.length_replicate, hl]
    dat := fun i x e => by
      by_cases h : i < as.length
      · rw [sa i h] at e
        obtain ⟨a, ha, e2⟩ := Option.map_eq_some_iff.mp e
        cases a with
        | o ys => cases e2
        | a d =>
          cases e2
          obtain ⟨v, hv, dv⟩ := av.dat ha
          exact ⟨v, (sv i _ (by rw [hl]; exact h)).mpr (by rw [hv]; rfl), dv⟩
      · have := so i _ h e
        cases this
    own := fun i l xs e => by
      obtain ⟨e1, h, ha⟩ := own i l xs e
      obtain ⟨p, us, a, b, c, d, e2, f⟩ := av.own 0 ha
      rw [Nat.zero_add] at f
      exact ⟨p, us, (sv i _ (by rw [hl]; exact h)).mpr (by rw [a]; rfl), b, c, d, e2, fun z => (by rw [e1] at z; cases z), fun _ => f⟩
    apart := fun i j l l' xs ys p ei ej si sj => by
      obtain ⟨_, hi, hai⟩ := own i l xs ei
      obtain ⟨_, hj, haj⟩ := own j l' ys ej
      obtain ⟨p1, _, a1, _, _, _, _, f1⟩ := av.own 0 hai
      obtain ⟨p2, _, a2, _, _, _, _, f2⟩ := av.own 0 haj
      rw [sv i _ (by rw [hl]; exact hi), a1] at si
      rw [sv j _ (by rw [hl]; exact hj), a2] at sj
      have q1 : p1 = p := by simpa using si
      have q2 : p2 = p := by simpa using sj
      have := nodup_ix (by rw [lix_snd]; exact nd) f1 f2 (by show p1 = p2; rw [q1, q2])
      have := congrArg Prod.fst this
      simpa using this
    lent := fun q hq => by
      obtain ⟨i, xs, a, b, c⟩ := av.lix 0 hq
      rw [Nat.zero_add] at a
      have hi : i < as.length := (List.getElem?_eq_some_iff.mp b).1
      rw [a]
      exact ⟨⟨xs, by rw [sa i hi, b]; rfl⟩, (sv i _ (by rw [hl]; exact hi)).mpr (by rw [c]; rfl)⟩
    frame := fun a o h _ => h
    mask := fun a _ h => h }
/-- the lists that come back -/
theorem outs_ok {B : Bas} {σ : List (Option V)} {ρ : List Sl} (r : Rep K w B F' H' σ ρ) : ∀ {vs : List V} {as : List Cz.Arg} {os : List (List D)} (j : Nat), Argvs K w F H vs as → (∀ q ∈ Cs.lix j vs as, σ[q.1]? = some (some (V.ref q.2))) → outsOf as (ρ.drop j) = some os → Outs K w F' H' vs as os
  | _, _, os, j, .nil, _, h => by unfold outsOf at h; cases h; exact .nil
  | _, _, os, j, .a dv rest, hq, h => by
    cases hd : ρ.drop j with
    | nil => rw [hd] at h; unfold outsOf at h; cases h
    | cons z q =>
      rw [hd] at h
      unfold outsOf at h
      have e : q = ρ.drop (j + 1) := by
        have := congrArg List.tail hd
        rw [List.tail_drop] at this
        exact this.symm
      rw [e] at h
      exact .a (outs_ok r (j + 1) rest (fun p hp => hq p (by unfold Cs.lix; exact hp)) h)
  | _, _, os, j, .o (p := p) f1 h1 d1 l1 rest, hq, h => by
    cases hd : ρ.drop j with
    | nil => rw [hd] at h; unfold outsOf at h; cases h
    | cons z q =>
      rw [hd] at h
      have hz : ρ[j]? = some z := by
        have := congrArg (·[0]?) hd
        simpa using this
      have e : q = ρ.drop (j + 1) := by
        have := congrArg List.tail hd
        rw [List.tail_drop] at this
        exact this.symm
      cases z with
      | own l ys =>
        cases l with
        | false => unfold outsOf at h; cases h
        | true =>
          unfold outsOf at h
          obtain ⟨os', h2, h3⟩ := Option.map_eq_some_iff.mp h
          subst h3
          rw [e] at h2
          have sp := hq (j, p) (by unfold Cs.lix; simp)
          obtain ⟨p', us, s1, f2, h4, d2, l2, _⟩ := r.own j _ _ hz
          rw [sp] at s1
          cases s1
          exact .o f2 h4 d2 l2 (outs_ok r (j + 1) rest (fun p hp => hq p (by unfold Cs.lix; exact List.mem_append_right _ hp)) h2)
      | no => unfold outsOf at h; cases h
      | d _ => unfold outsOf at h; cases h
      | exn _ => unfold outsOf at h; cases h
end
/-- a def's scope, looked at -/
def scB (N P : List Str) (q : Scope) : Bool :=
  decide (q.kind = .function) && (!q.isCoroutine && (!q.isGenerator && (decide N.Nodup && (decide (N.take P.length = P) && (P.all (fun y => decide (q.names.lookup y = some .local) || decide (q.names.lookup y = some .cell)) && q.names.all (fun y => decide (y.2 ≠ .free)))))))
theorem scope_ok {N P : List Str} {q : Scope} (h : scB N P q = true) : FnScope N P q := by
  unfold scB at h
  simp only [Bool.and_eq_true, Bool.not_eq_true', decide_eq_true_eq, List.all_eq_true, Bool.or_eq_true] at h
  obtain ⟨a, b, c, d, e, f, g⟩ := h
  exact ⟨a, b, c, d, e, f, g⟩
/-- the meaning of calls, one level up -/
theorem def_ok {T : Tab} {G : Fx} {k : Nat} {P : Program} {w : World} {K : PySem.W.Frag} {mg : Str → Option Value} {base : Heap} {C' : Nat → List Cz.Arg → Rc} {x qual : Str} {st : Stmt} {addr : Addr} {fd : FuncData} {N ps : List Str} {f : Nat} {Fd : Cz.Fn}
    (gm : GoodM T G k P w K mg base) (fn : Fun K x qual st addr fd) (hs : scB N ps (defScope st) = true) (hp : ps.length = Fd.np) (hn : N.length = Fd.ns) (hle : ps.length ≤ N.length) (hok : okSs ⟨T, N, defScope st, defScope st⟩ Fd.body (defBody st) = true)
    (hC : ∀ as, C' f as = runFn G.M G.C Fd as) : FnOk P w K mg base (L2.CX P w) (k + 1) addr fd ps (spC ⟨G.M, C', G.xa, G.xf⟩ K w f ps.length) := by
  refine Fun.okX fn (scope_ok hs) (fun vs H Q E ⟨F, as, h, _⟩ => h) fun cdv A outer s H vs Q E hr hsp => ?_
  obtain ⟨F, as, hl, ex, av, nd, hm⟩ := hsp
  generalize hX : cxOf (L2.CX P w) P w K mg base N qual (defScope st) addr cdv A outer s H E = X
  have eP : X.prog = P := by rw [← hX]; rfl
  have ew : X.w = w := by rw [← hX]; rfl
  have eK : X.K = K := by rw [← hX]; rfl
  have em : X.mg = mg := by rw [← hX]; rfl
  have eb : X.base = base := by rw [← hX]; rfl
  have stk : X.stack = X.env :: X.outer := by rw [← hX]; rfl
  have frm : X.env.frame = some X.env.locals := by rw [← hX]; rfl
  have hexx : X.ex = [] := by rw [← hX]; rfl
  let B : Bas := ⟨F, H, lix 0 vs as⟩
  have good : Good ⟨T, N, defScope st, defScope st⟩ G k X := {
    N := by rw [← hX]; rfl
    nd := by rw [← hX]; exact (scope_ok hs).nd
    sc := by rw [← hX]; rfl
    fn := fun x _ => by rw [← hX]; rfl
    calm := by rw [← hX]; rfl
    room := by rw [← hX]; exact hr
    mo := by rw [eP, ew, eK, em, eb]; exact gm }
  have po : PassesOwn (model X.prog X.w) X.A X.env X.xe := by
    rw [← hX]
    exact passes_of rfl
  let W : Wi := fun x ρ' => ∀ cls d σ' F' H', Rep K w B F' H' σ' ρ' → XRep G.xa G.xf K w F' H' x cls d → E cls d H'
  have tk : Takes X (WD G X.K X.w B W) := by
    have t0 : Takes X (fun cls d _ H => E cls d H) := by
      rw [← hX]
      exact takes_of rfl rfl rfl rfl
    refine t0.imp fun cls d σ' H' ⟨F', x, ρ', r, xr, hw⟩ => ?_
    rw [eK, ew] at r xr
    exact hw cls d σ' F' H' r xr
  refine ⟨_, sndSs Fd.body ⟨good, stk, frm, po⟩ hok tk, F, startEnv as Fd.ns, ?_, ?_⟩
  · rw [eK, ew, ← hn]
    exact start_rep ex av nd (by rw [hl]; exact hle)
  · rw [eK, ew]
    have hm : (match C' f as with
      | .ok v outs => ∀ u F' H', Aft F H (lentsOf vs as) F' H' → Outs K w F' H' vs as outs → Rv K w H F' H' u v → Q u H'
      | .ex x outs => ∀ cls d F' H', Aft F H (lentsOf vs as) F' H' → Outs K w F' H' vs as outs → XRep G.xa G.xf K w F' H' x cls d → E cls d H'
      | .bad => False) := hm
    rw [hC as] at hm
    unfold runFn at hm
    have la : as.length = Fd.np := by rw [← av.len, hl, hp]
    rw [if_pos la] at hm
    have aft : ∀ {F' H' : Hp} {σ' : List (Option V)} {ρ' : List Sl}, Rep K w B F' H' σ' ρ' → Aft F H (lentsOf vs as) F' H' := fun {F' H' σ' ρ'} r => ⟨r.fe, r.fh, fun a o h1 h2 => r.frame a o h1 fun q hq e => h2 (by rw [← lix_snd 0]; exact List.mem_map.mpr ⟨q, hq, e⟩), r.mask⟩
    have outs : ∀ {F' H' : Hp} {σ' : List (Option V)} {ρ' : List Sl} {os : List (List D)}, Rep K w B F' H' σ' ρ' → outsOf as ρ' = some os → Outs K w F' H' vs as os := fun {F' H' σ' ρ' os} r ho => outs_ok r 0 av (fun q hq => (r.lent q hq).2) (by rw [List.drop_zero]; exact ho)
    cases h1 : evSs G.M G.C Fd.body (startEnv as Fd.ns) with
    | nx ρ' =>
      rw [h1] at hm
      simp only at hm
      cases h2 : outsOf as ρ' with
      | none => rw [h2] at hm; exact hm.elim
      | some os =>
        rw [h2] at hm
        exact fun F' H' σ' _ r => hm .non F' H' (aft r) (outs r h2) .non
    | rt v ρ' =>
      rw [h1] at hm
      simp only at hm
      cases h2 : outsOf as ρ' with
      | none => rw [h2] at hm; cases v <;> exact hm.elim
      | some os =>
        rw [h2] at hm
        cases v with
        | p d => exact fun F' H' σ' u _ r ev => hm u F' H' (aft r) (outs r h2) ev
        | f xs => exact fun F' H' σ' u _ r ev => hm u F' H' (aft r) (outs r h2) (by
            obtain ⟨p, us, rfl, a, b, c, l, d, _⟩ := ev
            exact ⟨p, us, rfl, d, a, b, c, l⟩)
        | b i => exact hm.elim
    | ex x ρ' =>
      rw [h1] at hm
      simp only at hm
      cases h2 : outsOf as ρ' with
      | none => rw [h2] at hm; exact hm.elim
      | some os =>
        rw [h2] at hm
        exact fun cls d σ' F' H' r xr => hm cls d F' H' (aft r) (outs r h2) xr
    | ct ρ' => rw [h1] at hm; exact hm.elim
    | bk ρ' => rw [h1] at hm; exact hm.elim
    | bad => rw [h1] at hm; exact hm.elim
/-- at no level there is no promise -/
theorem def_zero {G : Fx} {k : Nat} {P : Program} {w : World} {K : PySem.W.Frag} {mg : Str → Option Value} {base : Heap} {addr : Addr} {fd : FuncData} {ps : List Str} {f : Nat} (h : ∀ as, G.C f as = .bad) : FnOk P w K mg base (L2.CX P w) k addr fd ps (spC G K w f ps.length) :=
  ⟨fun vs H Q E ⟨F, as, h, _⟩ => h, fun A outer s H args us vs Q E _ _ _ _ ⟨F, as, _, _, _, _, hm⟩ => by rw [h as] at hm; exact hm.elim⟩
end Cs
end
section
set_option Elab.async false
set_option linter.all false
set_option maxRecDepth 100000
set_option maxHeartbeats 8000000
/-! SOUND 28: an error class whose __init__ says super().__init__(text) and keeps its argument. -/
namespace PySem.W
open Lean Elab Tactic Meta PySem PySem.Calls PyProof.Rows PyProof.V PySem.Spec
/-- the bound __init__ called: the error's args are laid anew -/
theorem czBound {prog : Program} {w : World} {A : Around} {E : Value → Shared → Prop} {s : Shared} {Q : Value → Shared → Prop} {u e t0 C N : Addr} {nm q : Str} {bs bm : List Value} {hdct : Bool} {sn : List Str} {sub : List Value} {ab : Bool} {col : Option Bool} {dd : Option Addr} {k0 k1 k2 k3 k5 : Option Value} {rest : List Value}
    (hC : s.heap.get? C = some (excClassObj nm q C N bs bm hdct sn sub ab col dd k0 k1 k2 k3 k5 "ValueError.__new__")) (he : s.heap.get? e = some (excObj C t0 none .none)) (hu : s.heap.get? u = some (kxs_mw "ValueError.__init__" e)) (hz : rest.length ≤ sizeLine)
    (fin : ∀ h' t1, (∀ b o, b ≠ e → s.heap.get? b = some o → h'.get? b = some o) → h'.get? e = some (excObj C t1 none .none) → Q .none { s with heap := h' }) : wpAny (model prog w) A (call (.ref u) rest) Q E s := by
  obtain ⟨hp, gg, dw, tk, os⟩ := s
  refine wpAny_call (codeAny_of_tree ?_)
  show wpAny _ A.in1 (callAny (Value.ref u) ⟨rest, []⟩) _ _ _
  simp only [callAny]
  refine wpAny_bind (wpAny_load hu ?_)
  have isM : (Value.type "method-wrapper" == Value.type "method" || Value.type "method-wrapper" == Value.type "builtin_function_or_method" || Value.type "method-wrapper" == Value.type "method-wrapper") = true := by decide
  simp only [kxs_mw, isM, if_true]
  refine KFB.if_so (by decide) ?_
  refine wpAny_bind (check_bound_init PySem.F.excBase_ValueError.toExcCallFacts hC he rfl ?_)
  refine wpAny_bind (wpAny_pure (wpAny_pure ?_))
  refine ⟨plainId_quiet PySem.F.excBase_ValueError.init.plain _, codeAny_builtin PySem.F.excBase_ValueError.initEntry ?_⟩
  exact exc_init_tree (cls := .ref C) (t0 := t0) (dv := none) (c2 := .none) (c3 := .none) (b4 := .bool false) he hz fun h' k x _ => fin h' _ k x
end PySem.W
namespace Cs
open PySem L2 Cz PyProof.Rows
/-- what the text of an error may tell -/
def TxOk (kd : Nat) (v : V) : Prop := match kd with
  | 0 => True
  | 1 => ∃ i : Int, v = .int i ∧ i.natAbs.log2 < 1920
  | 2 => ∃ y : Str, v = .str y ∧ y.length ≤ Lim
  | _ => False
/-- a text that tells slot 1 -/
def tTx (kd : Nat) : TE := fun σ H Q => ∃ v, σ[1]? = some (some v) ∧ TxOk kd v ∧ ∀ x : Str, Q (.str x) H
/-- the def -/
abbrev iBody (te : Expr) (self pn fld : Str) (q0 q1 q2 q3 q4 q5 q6 q7 q8 : Pos) : List Stmt :=
  [.Expr (.Call (.Attribute (.Call (.Name "super" q0) [] [] q1) "__init__" q2) [te] [] q3) q4, .Assign [.Attribute (.Name self q5) fld q6] (.Name pn q7) q8]
abbrev iNF (qual : Str) (params : Arguments) (body : List Stmt) (scope : Scope) (cc cda : Addr) : NdefX.NF := ⟨"__init__", qual, params, body, scope, [("__class__", cc)], cda⟩
/-- what must be known of a class that has it -/
structure InCls (K : PySem.W.Frag) (D : Addr) (fld : Str) (C : Addr) : Prop where
  oex : OexC K C
  mro : PySem.W.mroIn K C (.ref D) = some true
  sup : PySem.W.ks_superIn K C D "__init__" = some (some (.builtin "ValueError.__init__"))
  ve : PySem.W.subIn K (.ref C) (.type "ValueError") = some true
  fld : PySem.W.findIn K (.ref C) fld = some none
/-- its promise -/
def spI (K : PySem.W.Frag) (D : Addr) (kd : Nat) (fld : Str) : Sp := fun vs H Q E => ∃ (e : Addr) (v : V) (C : Addr), vs = [.ref e, v] ∧ H e = some (exo e C none) ∧ InCls K D fld C ∧ TxOk kd v ∧ ∀ dx, H dx = none → dx ≠ e → Q .non (upd (upd H dx (exd dx [(fld, v)])) e (exo e C (some dx)))
section
variable {CX : CXT} {P : Program} {w : World} {K : PySem.W.Frag} {mg : Str → Option Value} {base : Heap}
theorem init_ok {k kd : Nat} {fI cc cda D : Addr} {qual self pn fld : Str} {params : Arguments} {te : Expr} {scope : Scope} {q0 q1 q2 q3 q4 q5 q6 q7 q8 : Pos} {doc pm ctv oc : Value} {od : Option Addr} {osl : Array (Option Value)}
    (lk : K.lookup fI = some ⟨oc, od, .func ((iNF qual params (iBody te self pn fld q0 q1 q2 q3 q4 q5 q6 q7 q8) scope cc cda).fd doc pm ctv), osl⟩)
    (hcd : PySem.W.codeIn K (.ref cda) qual = true)
    (hcell : ∃ cl cld csl, K.lookup cc = some ⟨cl, cld, .cell (some (.ref D)), csl⟩)
    (hD : (PySem.W.clsIn K D).isSome = true)
    (hcode : ∃ ccl cdd vs ccs file tf, K.lookup cda = some ⟨ccl, cdd, .fields vs, ccs⟩ ∧ vs[2]? = some (.str file tf) ∧ ((P.main.file : Str) == file) = true)
    (hsup : mg "super" = none) (hst : PySem.W.nsIn K cStatics "thirdparty.any" = some none) (htop : (P.main.scope.names.lookup ("super" : Str)).isSome = false)
    (hS : NdefX.nscB [self, pn, "__class__"] [self, pn] ["__class__"] scope = true) (hks : scope.names.lookup ("super" : Str) = some .globalImplicit)
    (hp : ∃ ar : PySem.Arg, (params.posonlyargs ++ params.args).head? = some ar ∧ ar.arg = self)
    (hte : ∀ X : Cx, X.N = [self, pn, "__class__"] → X.env.scope = scope → PE X te (tTx kd)) (hns : nsB te = true) (hline : (q2.endLine == q3.line) = true)
    (hd1 : (self == ("__debug__" : Str)) = false) (hd2 : (self == ("__classdict__" : Str)) = false) (hd3 : (pn == ("__debug__" : Str)) = false) (hd4 : (pn == ("__classdict__" : Str)) = false) :
    FnOk P w K mg base CX (k + 1) fI ((iNF qual params (iBody te self pn fld q0 q1 q2 q3 q4 q5 q6 q7 q8) scope cc cda).fd doc pm ctv) [self, pn] (spI K D kd fld) := by
  have S := NdefX.nscope_by hS
  refine ⟨fun vs H Q E ⟨e, v, C, h, _⟩ => by rw [h]; rfl, fun A outer s H args us vs Q E hr e0 hb rv hsp => ?_⟩
  obtain ⟨e, v, C, rfl, he, hC, htx, q⟩ := hsp
  have KX : K.In s.heap := e0.mod.kin.keeps fun b o y => (e0.bs b o y).1
  have lim : s.heap.NoLimit := e0.mod.nolimit.keeps fun b o y => (e0.bs b o y).1
  have ls : scope.names.lookup self = some .local := S.par self (by simp)
  have lp : scope.names.lookup pn = some .local := S.par pn (by simp)
  have lc : scope.names.lookup ("__class__" : Str) = some .free := S.frk _ (by simp)
  have vs2 := rv
  cases rv with
  | @cons _ ue _ ur re rv =>
  cases rv with
  | @cons _ uv _ ur2 ru rv =>
  cases rv
  obtain rfl : ue = Value.ref e := re
  obtain ⟨cl, cld, csl, hcc⟩ := hcell
  obtain ⟨ccl, cdd, fvs, ccs, file, tf, hco, hfv, hfile⟩ := hcode
  obtain ⟨ar, har, har2⟩ := hp
  obtain ⟨cdD, hcdD⟩ := Option.isSome_iff_exists.mp hD
  refine PySem.ks_codeAny_call_defAt (fd := (iNF qual params (iBody te self pn fld q0 q1 q2 q3 q4 q5 q6 q7 q8) scope cc cda).fd doc pm ctv) (body := iBody te self pn fld q0 q1 q2 q3 q4 q5 q6 q7 q8) (binds := [self, pn].zip [Value.ref e, uv]) hr.depth (KX _ _ lk) rfl lim (PySem.W.codeRec_of KX hcd) rfl hb S.nocell (fun y hy => ?_) (fun h1 hn1 hk1 => ?_) S.co S.gen S.kind
  · exact S.par y.1 (List.of_mem_zip hy).1
  -- the body's context
  have cells : NdefX.CellsAt [(("__class__" : Str), cc)] ["__class__"] [none] s.heap H := {
    len := rfl
    all := fun y c hy => by
      have ec : c = cc := by
        simp only [List.lookup] at hy
        split at hy
        · exact (Option.some.inj hy).symm
        · cases hy
      subst ec
      exact ⟨(e0.bs _ _ (e0.mod.kin _ _ hcc)).2, some (.ref D), ⟨_, KX _ _ hcc, rfl⟩⟩
    inj := fun x y c hx hy => by
      simp only [List.lookup] at hx hy
      split at hx
      · split at hy
        · rename_i a _ b
          rw [eq_of_beq a, eq_of_beq b]
        · cases hy
      · cases hx
    has := fun i y hi => by
      cases i with
      | zero =>
        simp at hi
        subst hi
        exact ⟨cc, by simp, fun v hv => by simp at hv⟩
      | succ i => simp at hi }
  have I0 := NdefX.inv_startN (CX := CX) (P := P) (w := w) (F := iNF qual params (iBody te self pn fld q0 q1 q2 q3 q4 q5 q6 q7 q8) scope cc cda) (f := fI) (E := E) (tk := s.toks + ([self, pn].zip [Value.ref e, uv]).length) S hr.hd e0 rfl vs2 cells hn1 hk1
  generalize hX : NdefX.ncx CX P w K mg base [self, pn, "__class__"] (iNF qual params (iBody te self pn fld q0 q1 q2 q3 q4 q5 q6 q7 q8) scope cc cda) fI A outer s H E = X at I0
  have eP : X.prog = P := by rw [← hX]; rfl
  have ew : X.w = w := by rw [← hX]; rfl
  have eK : X.K = K := by rw [← hX]; rfl
  have em : X.mg = mg := by rw [← hX]; rfl
  have eN : X.N = [self, pn, "__class__"] := by rw [← hX]; rfl
  have eS : X.env.scope = scope := by rw [← hX]; rfl
  have eL : X.env.locals = s.heap.objs.size := by rw [← hX]; rfl
  have eEnv : X.env = PySem.W.envX qual scope s.heap.objs.size fI (.ref cda) [("__class__", cc)] := by rw [← hX]; rfl
  have eA : X.A = A.deeper X.env := by rw [← hX]; rfl
  have exx : X.xe = fun y s' => wpAny (model P w) (A.deeper X.env) (leaving X.env y) (fun _ s'' => CX outer H s E y s'') (fun e' s'' => CX outer H s E e' s'') s' := by rw [← hX]; rfl
  have eO : X.outer = outer := by rw [← hX]; rfl
  have eH : X.H_0 = H := by rw [← hX]; rfl
  have es0 : X.s_0 = s := by rw [← hX]; rfl
  have eex : X.ex = [] := by rw [← hX]; rfl
  show _root_.PySem.wpAt (model P w) (A.deeper (PySem.W.envX qual scope s.heap.objs.size fI (.ref cda) [("__class__", cc)])) (.func _ (PySem.W.envX qual scope s.heap.objs.size fI (.ref cda) [("__class__", cc)])) (execs _ (PySem.W.envX qual scope s.heap.objs.size fI (.ref cda) [("__class__", cc)])) _
    (fun y s' => wpAny (model P w) (A.deeper (PySem.W.envX qual scope s.heap.objs.size fI (.ref cda) [("__class__", cc)])) (leaving (PySem.W.envX qual scope s.heap.objs.size fI (.ref cda) [("__class__", cc)]) y) (fun _ s'' => CX outer H s E y s'') (fun e' s'' => CX outer H s E e' s'') s') _
  rw [← eEnv]
  -- what stands at every later state
  have kin : ∀ {H' : Hp} {σ' : List (Option V)} {pins : List (Addr × Obj)} {z : Shared}, Inv X pins σ' H' z → K.In z.heap := fun {H' σ' pins z} J => by have := J.kIn; rw [eK] at this; exact this
  have kindX : X.env.scope.kind = .function := by rw [eS]; exact S.kind
  have hkS : X.env.kindOf "super" = some .globalImplicit := by show X.env.scope.names.lookup _ = _; rw [eS]; exact hks
  have hkC : X.env.kindOf "__class__" = some .free := by show X.env.scope.names.lookup _ = _; rw [eS]; exact lc
  have hkA : X.env.kindOf ar.arg = some .local := by show X.env.scope.names.lookup _ = _; rw [eS, har2]; exact ls
  have nsp : self ≠ pn := by
    have := S.nd
    simp at this
    exact this.1.1
  obtain ⟨t1, he1⟩ := exo_at I0.hok he
  obtain ⟨oD, hD1, hD2⟩ : ∃ oD, h1.get? D = some oD ∧ oD.data = .cls cdD := by
    unfold PySem.W.clsIn at hcdD
    split at hcdD
    · rename_i ho
      cases hcdD
      exact ⟨_, kin I0 _ _ ho, rfl⟩
    · cases hcdD
  obtain ⟨mb, mb1, mb2⟩ := I0.mod.blt
  have form : methodCallForm 1 (backTo q3 (starEach [te] X.env)) [] = true := by rw [star_cons hns]; rfl
  have shape : eval (.Call (.Attribute (.Call (.Name "super" q0) [] [] q1) "__init__" q2) [te] [] q3) X.env = (do
      let ov ← attributeBase (.Call (.Name "super" q0) [] [] q1) "__init__" X.env (eval (.Call (.Name "super" q0) [] [] q1) X.env)
      standAt q2.atName
      let (f, first) ← holding [ov] (getMethod ov "__init__" (do return (← importBound (.Call (.Name "super" q0) [] [] q1) X.env).getD true))
      callWith q3 f first (backTo q3 (starEach [te] X.env)) []) := by
    have e1 : eval (.Call (.Attribute (.Call (.Name "super" q0) [] [] q1) "__init__" q2) [te] [] q3) X.env = (do
      let ov ← attributeBase (.Call (.Name "super" q0) [] [] q1) "__init__" X.env (eval (.Call (.Name "super" q0) [] [] q1) X.env)
      standAt q2.atName
      methodCall (.Call (.Name "super" q0) [] [] q1) "__init__" q2 q3 X.env ov 1 (backTo q3 (starEach [te] X.env)) []) := rfl
    rw [e1]
    unfold methodCall calleeOf methodCallPos
    rw [form]
    simp only [if_true, Bool.not_true, Bool.false_or, hline, pure_bind]
  refine PySem.ks_wpAt_execs_cons (PySem.ks_wpAt_Expr_any (PySem.ks_wpAt_MethodCall (PySem.ks_wpAt_super_base (f := fI) (cc := cda) hkS hkC (by decide) (by rw [eEnv]) (kin I0 _ _ lk) rfl har (by rw [eEnv]) (kin I0 _ _ hco) rfl hfv hfile htop ?_) shape) I0.quiet rfl)
  refine PySem.W.ks_loadName_global kindX hkS (PySem.Calls.loadGlobal_builtin (by rw [I0.ok.glob]; exact I0.mod.glob.keeps I0.bk) (by rw [em]; exact hsup) (by rw [I0.ok.blt]; exact mb1.keeps I0.bk) (mb2 _ (by decide +kernel)) ⟨rfl, ?_⟩)
  refine wpAny_loadName_free kindX hkC (by rw [eEnv]; simp) ⟨_, kin I0 _ _ hcc, rfl⟩ ?_
  refine wpAny_loadName_local (v := Value.ref e) kindX hkA (by rw [eL]; exact hn1) (by rw [har2]; exact NdefX.zip_look (i := 0) (by simp [nsp]) rfl rfl) ?_
  refine PySem.ks_wpAny_isType_cls hD1 hD2 ⟨rfl, ?_⟩
  refine PySem.ks_wpAny_call_super hD1 hD2 he1 rfl (fun c z => (by cases z)) (PySem.W.looks_mroIn (kin I0) hC.mro) (fun h2 so2 k2 => ?_)
  -- the super object stands
  have I2 : Inv X [] (NdefX.startF [self, pn, "__class__"] [V.ref e, v] [none]) H { s with heap := h2, toks := s.toks + ([self, pn].zip [Value.ref e, uv]).length } := I0.kept k2
  have inst2 : PySem.W.InstAt h2 e { cls := .ref C, dict := none, data := .fields #[.ref t1, .none, .none, .none, .bool false, .none] } C none := ⟨k2 _ _ he1, rfl, rfl, trivial⟩
  obtain ⟨cdC, hcdC, halong⟩ : ∃ cdC, PySem.W.clsIn K C = some cdC ∧ PySem.W.alongIn K "__init__" ((cdC.mro.dropWhile (· != .ref D)).drop 1) = some (some (.builtin "ValueError.__init__")) := by
    have z := hC.sup
    unfold PySem.W.ks_superIn at z
    cases y : PySem.W.clsIn K C with
    | none => rw [y] at z; cases z
    | some cdC => rw [y] at z; exact ⟨cdC, rfl, z⟩
  refine PySem.W.kxs_getMethod PySem.W.kxs_ValueError so2 (PySem.W.looks_opaque (kin I2) hst) (l₀ := cdC.mro) (fun A Q E s k q => wpAny_bind ((PySem.W.looks_clsIn (kin I2) hcdC) A _ E s k (wpAny_pure q))) rfl (kin I2) halong
    (inst2.type.andThen (PySem.W.looks_subIn (kin I2) hC.ve)) (PySem.W.ks_ne (kin I2) inst2 hcdC) (by decide) ?_
  have hu3 : (h2.push (PySem.W.kxs_mw "ValueError.__init__" e)).get? h2.objs.size = some (PySem.W.kxs_mw "ValueError.__init__" e) := Heap.get?_push_size _ rfl
  have I3 : Inv X [] (NdefX.startF [self, pn, "__class__"] [V.ref e, v] [none]) H ⟨h2.push (PySem.W.kxs_mw "ValueError.__init__" e), s.gens, s.drawn, s.toks + ([self, pn].zip [Value.ref e, uv]).length + 1, s.os⟩ := I2.kept fun b o z => Heap.get?_push_of_some _ z
  have I3p := I3.pinned (fp := [h2.objs.size]) (fun b hb => by
      have eb : b = h2.objs.size := by simpa using hb
      subst eb
      have f := I2.fpOk (H' := H) (Nat.le_refl _) (I2.hok.fresh (Nat.le_refl _))
      exact f) (fun b hb => by
      have eb : b = h2.objs.size := by simpa using hb
      subst eb
      exact ⟨_, hu3, fun v z => by cases z⟩)
  have pa := pa_cons (hte X eN eS) pa_nil (star_cons hns)
  have run := pa.run q3 _ _ _ H (fun ws H' => H' = H ∧ ∃ x, ws = [V.str x]) I3p ⟨v, rfl, htx, fun x => ⟨rfl, x, rfl⟩⟩
  rw [eP, ew, eA, exx] at run
  have pl : (backTo q3 (starEach [te] X.env)).any (·.1) = false := back_plain fun b hb => by
    have eb : b = te := by simpa using hb
    rw [eb]; exact hns
  rw [star_cons hns] at run pl ⊢
  refine PySem.W.kxs_callWith (i := "ValueError.__init__") (x := e) pl (PySem.Calls.evalArgs_plain (thn run fun us4 s4 ⟨ws, H4, I4, r4, eH4, x, ews⟩ => ?_))
  subst eH4 ews
  have hu4 : s4.heap.get? h2.objs.size = some (PySem.W.kxs_mw "ValueError.__init__" e) := (I4.pin (h2.objs.size, PySem.W.kxs_mw "ValueError.__init__" e) (List.mem_append_right _ (List.mem_append_right _ (mem_pinsAt (by simp) hu3)))).1
  have I4' := I4.pins_of (pins' := []) fun p hp => absurd hp (by simp)
  obtain ⟨t4, he4⟩ := exo_at I4'.hok he
  obtain ⟨nm, qn, N', bs, bm, sn, sub, ab, col, dd, k0, k1, kk2, k3, k5, hCl, hbm⟩ := hC.oex.cls
  refine ⟨hu4, PySem.W.czBound (kin I4' _ _ hCl) he4 hu4 (by
      show us4.length ≤ sizeLine
      rw [show us4.length = 1 from (r4.length).symm, sizeLine_eq]; omega) fun h5 t5 ke5 he5 => ?_⟩
  have I5 : Inv X [] (NdefX.startF [self, pn, "__class__"] [V.ref e, v] [none]) H4 { s4 with heap := h5 } := by
    have J := I4'.write (t' := s4.toks) (x := e) (e := e) (o := exo e C none) (by rw [he]; exact True.intro) (.inl rfl) ke5 ⟨_, he5⟩ (exo_ok he5)
    have eu : upd H4 e (exo e C none) = H4 := by
      funext b
      by_cases hb : b = e
      · rw [hb, upd_same, he]
      · rw [upd_ne hb]
    rw [eu] at J
    exact J
  -- self.fld = pn
  show _root_.PySem.wpAt (model P w) (A.deeper X.env) _ (execs [.Assign [.Attribute (.Name self q5) fld q6] (.Name pn q7) q8] X.env) _ _ _
  refine wpAt_of_wpAny ?_
  have vS : Vis X.env.scope self := .inl (by rw [eS]; exact ls)
  have vP : Vis X.env.scope pn := .inl (by rw [eS]; exact lp)
  have ps := pss_one (ps_ost (X := X) (f := fld) (p' := q6) (pos := q8) (pe_var (X := X) (i := 0) (pos := q5) (by rw [eN]; rfl) vS hd1 hd2) (pe_var (X := X) (i := 1) (pos := q7) (by rw [eN]; rfl) vP hd3 hd4) rfl)
  have fin := ps.run [] _ _ H4 { nx := fun _ H' => Q .non H', rt := Q } I5 ⟨v, rfl, V.ref e, rfl, e, C, rfl, by rw [eK]; exact hC.oex, by rw [eK]; exact hC.fld, .inl ⟨he, fun dx hn hne => q dx hn hne⟩⟩
  rw [eP, ew, eA, exx] at fin
  refine thn fin fun fl s' hs => ?_
  have done : ∀ {σ' : List (Option V)} {H' : Hp} {v : V} {u : Value}, Inv X [] σ' H' s' → RelV v u → Q v H' → CE outer P w H4 s Q u s' := fun {σ' H' v u} J rv qv => by
    refine ⟨v, H', ?_, J.bare, ?_, ?_, rv, qv⟩
    · have := J.os; rw [es0] at this; exact this
    · have := J.base; rw [es0, eH, eex, show X.fs = frs outer by rw [← eO]] at this; exact this
    · have := J.hok; rw [eP, ew] at this; exact this
  cases fl with
  | ret u => obtain ⟨v', σ', H', J, rv', qv⟩ := hs; exact done J rv' qv
  | next => obtain ⟨σ', H', J, qv⟩ := hs; exact done (v := V.non) (u := Value.none) J rfl qv
  | brk => obtain ⟨_, _, _, qv⟩ := hs; exact False.elim qv
  | cont => obtain ⟨_, _, _, qv⟩ := hs; exact False.elim qv
end
end Cs
end
section
set_option Elab.async false
set_option linter.all false
set_option maxRecDepth 100000
set_option maxHeartbeats 8000000
/-! SOUND 29: errors are made. -/
namespace Cs
open PySem L2 Cz PyProof.Rows
/-! ### the text -/
def prB (pn : Str) : Expr → Bool
  | .Constant (.str x) _ _ => decide (x.length ≤ 1000)
  | .FormattedValue (.Name y _) c none _ => decide (y = pn) && decide (c = -1)
  | _ => false
def txB (pn : Str) (kd : Nat) : Expr → Bool
  | .Constant (.str _) _ _ => decide (kd = 0)
  | .JoinedStr (a :: b :: r) _ => (decide (kd = 1) || decide (kd = 2)) && decide (r.length ≤ 8) && (a :: b :: r).all (prB pn)
  | _ => false
/-- a part of the text -/
def tPr (kd : Nat) : TE := fun σ H Q => ∃ v, σ[1]? = some (some v) ∧ TxOk kd v ∧ ∀ y : Str, y.length ≤ Lim → Q (.str y) H
section
variable {X : Cx} {self pn : Str} {kd : Nat}
theorem pr_ok (hN : X.N = [self, pn, "__class__"]) (hv : Vis X.env.scope pn) (hd3 : (pn == ("__debug__" : Str)) = false) (hd4 : (pn == ("__classdict__" : Str)) = false) (hk : kd = 1 ∨ kd = 2) {e : Expr} (h : prB pn e = true) : PE X e (tPr kd) := by
  unfold prB at h
  split at h
  · rename_i x _ _
    refine pe_str.imp fun σ H Q q => ?_
    obtain ⟨v, _, _, q⟩ := q
    exact q x (by have := of_decide_eq_true h; show x.length ≤ 100000; omega)
  · rename_i y _ c _
    rw [Bool.and_eq_true] at h
    have e1 := of_decide_eq_true h.1
    have e2 := of_decide_eq_true h.2
    subst e1 e2
    refine (pe_fmt (pe_var (i := 1) (by rw [hN]; rfl) hv hd3 hd4)).imp fun σ H Q q => ?_
    obtain ⟨v, hs, tx, q⟩ := q
    refine ⟨v, hs, ?_⟩
    rcases hk with hk | hk
    · subst hk
      obtain ⟨i, rfl, hi⟩ := tx
      exact .inr ⟨i, rfl, hi, q _ (by have := int_text_len_1921 hi; show _ ≤ 100000; omega)⟩
    · subst hk
      obtain ⟨y, rfl, hy⟩ := tx
      exact .inl ⟨y, rfl, lim_size hy, q _ hy⟩
  · cases h
theorem prs_ok (hN : X.N = [self, pn, "__class__"]) (hv : Vis X.env.scope pn) (hd3 : (pn == ("__debug__" : Str)) = false) (hd4 : (pn == ("__classdict__" : Str)) = false) (hk : kd = 1 ∨ kd = 2) : ∀ {es : List Expr}, es.all (prB pn) = true → PJ X es (es.map fun _ => tPr kd)
  | [], _ => .nil
  | e :: es, h => by
    rw [List.all_cons, Bool.and_eq_true] at h
    exact .cons (pr_ok hN hv hd3 hd4 hk h.1) (prs_ok hN hv hd3 hd4 hk h.2)
theorem js_ok {σ : List (Option V)} {H : Hp} {v : V} (hs : σ[1]? = some (some v)) (tx : TxOk kd v) : ∀ {es : List Expr} {acc : Str} {Q : Str → Hp → Prop}, acc.length + es.length * 100000 ≤ 16777216 → (∀ x, Q x H) → tJs (es.map fun _ => tPr kd) acc σ H Q
  | [], acc, Q, _, q => q acc
  | e :: es, acc, Q, hl, q => by
    rw [List.length_cons, Nat.succ_mul] at hl
    refine ⟨v, hs, tx, fun y hy => ⟨y, rfl, ?_, ?_⟩⟩
    · rw [Str.length_append, sizeLine_eq]
      have : y.length ≤ 100000 := hy
      omega
    · refine js_ok hs tx ?_ q
      rw [Str.length_append]
      have : y.length ≤ 100000 := hy
      omega
theorem tx_ok (hN : X.N = [self, pn, "__class__"]) (hv : Vis X.env.scope pn) (hd3 : (pn == ("__debug__" : Str)) = false) (hd4 : (pn == ("__classdict__" : Str)) = false) {te : Expr} (h : txB pn kd te = true) : PE X te (tTx kd) := by
  unfold txB at h
  split at h
  · refine pe_str.imp fun σ H Q q => ?_
    obtain ⟨v, _, _, q⟩ := q
    exact q _
  · simp only [Bool.and_eq_true, Bool.or_eq_true, decide_eq_true_eq] at h
    obtain ⟨⟨hk, hl⟩, ha⟩ := h
    refine (pe_joined (prs_ok hN hv hd3 hd4 hk ha)).imp fun σ H Q q => ?_
    obtain ⟨v, hs, tx, q⟩ := q
    refine js_ok hs tx ?_ q
    rw [show Str.empty.length = 0 from rfl, List.length_cons, List.length_cons]
    omega
  · cases h
end
/-! ### it is made -/
/-- an error class that is made so -/
structure InitOf (G : Fx) (P : Program) (w : World) (K : PySem.W.Frag) (mg : Str → Option Value) (base : Heap) (n : Nat) (C : Addr) : Prop where
  ex : ∃ (fI D : Addr) (fd : FuncData) (self pn : Str), (∀ k, FnOk P w K mg base (L2.CX P w) (k + 1) fI fd [self, pn] (spI K D (G.M.tk n) (G.xf n))) ∧ PySem.W.findIn K (.ref C) "__init__" = some (some (.ref fI)) ∧ PySem.W.typeIn K (.ref fI) = some (.type "function") ∧ Binds K fd [self, pn] [] ∧ InCls K D (G.xf n) C
theorem tx_of {K : PySem.W.Frag} {w : World} {F : Hp} {kd : Nat} {v : V} {d : D} (h : okArg kd d = true) (dv : DV K w F v d) : TxOk kd v := by
  unfold okArg at h
  split at h
  · exact trivial
  · cases dv
    rename_i i
    refine ⟨i, rfl, ?_⟩
    have h1 : i.natAbs < 2 ^ 64 := of_decide_eq_true h
    have h2 : i.natAbs < 2 ^ 1920 := Nat.lt_of_lt_of_le h1 (Nat.pow_le_pow_right (by decide) (by decide))
    by_cases h0 : i.natAbs = 0
    · rw [h0]; decide
    · exact (Nat.log2_lt h0).mpr h2
  · rename_i s
    cases dv with
    | str _ ok =>
      refine ⟨st s, rfl, ?_⟩
      unfold sOk at ok
      rw [Bool.and_eq_true] at ok
      have := of_decide_eq_true ok.1
      show s.toArray.size ≤ 100000
      rw [List.size_toArray]
      exact this
  · cases h
theorem made_ok {G : Fx} {Y : Cx} {k n : Nat} {C : Addr} {x : Str} {B : Bas} {W : Wi} {e : Cz.E} {ea : Expr} {p pos : Pos} (io : InitOf G Y.prog Y.w Y.K Y.mg Y.base n C) (hx : G.xa n = some C) (hr : Room (k + 2) Y.A) (hg : Gl Y x) (hm : Y.mg x = some (.ref C)) (hd : (x == ("__debug__" : Str)) = false)
    (hs : starEach [ea] Y.env = [(false, eval ea Y.env)]) (he : PE Y ea (tE G Y.K Y.w B W e)) : PMk Y (.Call (.Name x p) [ea] [] pos) (tMk G Y.K Y.w B W n e) := by
  obtain ⟨fI, D, fd, self, pn, F1, iC, tI, hb, ic⟩ := io.ex
  have pm := pmk_oex (CX := L2.CX Y.prog Y.w) (dvs := []) (ds := []) (x := x) (p := p) (pos := pos) ic.oex iC tI (F1 k) hr hb .nil passL hg hm (sA_cons he sA_nil hs) hd hs rfl
  intro pins s σ H Q I h
  refine pm pins s σ H Q I ?_
  obtain ⟨F, ρ, r, h⟩ := h
  refine ⟨F, ρ, r, ?_⟩
  unfold evEs
  cases h1 : evE G.M G.C e ρ with
  | bad => rw [h1] at h; exact h
  | ex y ρ1 => rw [h1] at h; exact h
  | ok v ρ1 =>
    rw [h1] at h
    simp only at h ⊢
    unfold evEs
    simp only
    obtain ⟨d, h2, hok, q⟩ := h
    intro xs F1' H1 e1 r1 ks
    cases ks with
    | cons kk ks =>
      cases ks
      rename_i xv
      rw [h2] at kk
      have dv : DV Y.K Y.w F1' xv d := kk
      refine ⟨by show 1 ≤ 1000; decide, fun a ha => ⟨a, xv, C, rfl, upd_same, ic, tx_of hok dv, fun dx hdx hne => ⟨rfl, dx, _, upd_same, by rw [upd_ne hne, upd_same], by rw [upd_ne hne] at hdx; exact hdx, ?_⟩⟩⟩
      have hdx1 : H1 dx = none := by rw [upd_ne hne] at hdx; exact hdx
      have eh : upd (del (upd (upd (upd H1 a (exo a C none)) dx (exd dx [(G.xf n, xv)])) a (exo a C (some dx))) a) dx (.xd [(G.xf n, xv)]) = upd H1 dx (.xd [(G.xf n, xv)]) := by
        funext b
        by_cases b1 : b = dx
        · rw [b1, upd_same, upd_same]
        · rw [upd_ne b1, upd_ne b1]
          by_cases b2 : b = a
          · rw [b2, del_same, ha]
          · rw [del_ne b2, upd_ne b2, upd_ne b1, upd_ne b2]
      rw [eh]
      have g := Grow.own (o := .xd [(G.xf n, xv)]) r1.fh hdx1
      exact q _ _ _ _ (e1.trans g.f) (r1.grow g) ⟨C, dx, xv, hx, rfl, rfl, upd_same, dv.mono g.f⟩
end Cs
end
section
set_option Elab.async false
set_option linter.all false
set_option maxRecDepth 100000
set_option maxHeartbeats 8000000
/-! SOUND 30: a whole module. -/
namespace Cs
open PySem L2 Cz PyProof.Rows
/-- a def of the module and its core form -/
structure DefF (T : Tab) (prog : Nat → Option Cz.Fn) (K : PySem.W.Frag) (mg : Str → Option Value) (x : Str) (f np : Nat) : Prop where
  ex : ∃ (st : Stmt) (addr : Addr) (fd : FuncData) (N ps : List Str) (Fd : Cz.Fn), Fun K x x st addr fd ∧ mg x = some (.ref addr) ∧ Binds K fd ps [] ∧ scB N ps (defScope st) = true ∧ ps.length = np ∧ np = Fd.np ∧ N.length = Fd.ns ∧ ps.length ≤ N.length ∧
    okSs ⟨T, N, defScope st, defScope st⟩ Fd.body (defBody st) = true ∧ prog f = some Fd
/-- all that does not hang on how deep one calls -/
structure ModF (T : Tab) (M : Mo) (prog : Nat → Option Cz.Fn) (xa : Nat → Option Addr) (xf : Nat → Str) (P : Program) (w : World) (K : PySem.W.Frag) (mg : Str → Option Value) (base : Heap) : Prop where
  con : ∀ x n, (x, n) ∈ T.cons → ∃ (v : V) (u : Value) (d : D), M.g n = some d ∧ mg x = some u ∧ RelV v u ∧ ∀ H, DV K w H v d
  bi : ∀ b, mg (biNm b) = none
  ty : ∀ t, mg (tyNm t) = none
  isi : mg "isinstance" = none
  vE : mg "ValueError" = none
  rng : mg "range" = none
  enu : mg "enumerate" = none
  defs : ∀ x f np, (x, f, np) ∈ T.defs → DefF T prog K mg x f np
  cls : ∀ x n, (x, n) ∈ T.cls → ∃ C, xa n = some C ∧ mg x = some (.ref C)
  fld : ∀ x n, (x, n) ∈ T.fld → ∀ c C, xa c = some C → M.fld c = n → xf c = x
  exf : XFacts ⟨M, fun _ _ => .bad, xa, xf⟩ K
  ini : ∀ x n, (x, n) ∈ T.mks → ∃ C, xa n = some C ∧ mg x = some (.ref C) ∧ InitOf ⟨M, fun _ _ => .bad, xa, xf⟩ P w K mg base n C
abbrev Gn (M : Mo) (prog : Nat → Option Cz.Fn) (xa : Nat → Option Addr) (xf : Nat → Str) (n : Nat) : Fx := ⟨M, Cz.call M prog n, xa, xf⟩
theorem mod_ok {T : Tab} {M : Mo} {prog : Nat → Option Cz.Fn} {xa : Nat → Option Addr} {xf : Nat → Str} {P : Program} {w : World} {K : PySem.W.Frag} {mg : Str → Option Value} {base : Heap} (m : ModF T M prog xa xf P w K mg base) :
    ∀ n, GoodM T (Gn M prog xa xf n) (n + 2) P w K mg base := by
  have rest : ∀ n, (∀ x f np, (x, f, np) ∈ T.defs → ∃ (addr : Addr) (fd : FuncData) (ps : List Str), ps.length = np ∧ FnOk P w K mg base (L2.CX P w) (n + 2) addr fd ps (spC (Gn M prog xa xf n) K w f ps.length) ∧ mg x = some (.ref addr) ∧ PySem.W.keepIn K (.ref addr) = true ∧ Binds K fd ps []) →
      GoodM T (Gn M prog xa xf n) (n + 2) P w K mg base := fun n cal => {
    con := m.con
    bi := m.bi
    ty := m.ty
    isi := m.isi
    vE := m.vE
    rng := m.rng
    enu := m.enu
    cal := cal
    cls := m.cls
    fld := m.fld
    xf := ⟨m.exf.cls, m.exf.sub, m.exf.gt, m.exf.tk, m.exf.ve⟩
    made := fun x q hm Y eP ew eK em eb hc hr hg hd B W e ea p pos hs he => by
      obtain ⟨C, hC, hmC, io⟩ := m.ini x q hm
      subst eP ew eK em eb
      exact made_ok ⟨io.ex⟩ hC hr hg hmC hd hs he }
  intro n
  induction n with
  | zero =>
    refine rest 0 fun x f np hx => ?_
    obtain ⟨st, addr, fd, N, ps, Fd, fn, hm, hb, hs, hp, hq, hn, hle, hok, hpr⟩ := (m.defs x f np hx).ex
    exact ⟨addr, fd, ps, hp, def_zero fun as => by show Cz.call M prog 0 f as = _; unfold Cz.call; rfl, hm, fn.kp, hb⟩
  | succ n ih =>
    refine rest (n + 1) fun x f np hx => ?_
    obtain ⟨st, addr, fd, N, ps, Fd, fn, hm, hb, hs, hp, hq, hn, hle, hok, hpr⟩ := (m.defs x f np hx).ex
    exact ⟨addr, fd, ps, hp, def_ok (C' := Cz.call M prog (n + 1)) ih fn hs (hp.trans hq) hn hle hok fun as => (by unfold Cz.call; rw [hpr]), hm, fn.kp, hb⟩
/-- the law itself -/
theorem law_ok {T : Tab} {M : Mo} {prog : Nat → Option Cz.Fn} {xa : Nat → Option Addr} {xf : Nat → Str} {P : Program} {w : World} {K : PySem.W.Frag} {mg : Str → Option Value} {base : Heap} (m : ModF T M prog xa xf P w K mg base) {x : Str} {f : Nat} (hx : (x, f, 1) ∈ T.defs) (n : Nat) :
    ∃ (addr : Addr) (fd : FuncData) (p : Str), FnOk P w K mg base (L2.CX P w) (n + 2) addr fd [p] (spC (Gn M prog xa xf n) K w f 1) ∧ mg x = some (.ref addr) ∧ Binds K fd [p] [] := by
  obtain ⟨addr, fd, ps, hl, F, hm, _, hb⟩ := (mod_ok m n).cal x f 1 hx
  match ps, hl, F, hb with
  | [p], _, F, hb => exact ⟨addr, fd, p, F, hm, hb⟩
/-- what the law's evaluator says is what the law does -/
theorem law_sp {G : Fx} {K : PySem.W.Frag} {w : World} {f : Nat} {H : Hp} {a : Addr} {ns : List Int} (hl : ns.length ≤ Lim) (hS : SqL K H a (ns.map V.int)) (h : G.C f [.a (.lst (ns.map D.int))] = .ok (.p (.bl true)) []) : spC G K w f 1 [.ref a] H (fun v _ => v = .bl true) fun _ _ _ => False := by
  have dv : ∀ ns : List Int, DVs K w H (ns.map V.int) (ns.map D.int) := fun ns => by
    induction ns with
    | nil => exact .nil
    | cons i r ih => exact .cons (.int i) ih
  refine ⟨H, [.a (.lst (ns.map D.int))], rfl, .refl H, .a (.lst hS (dv ns) (by rw [List.length_map]; exact hl)) .nil, by unfold lentsOf; unfold lentsOf; exact List.nodup_nil, ?_⟩
  rw [h]
  intro u F' H' _ _ rv
  have rv : DV K w F' u (.bl true) := rv
  cases rv
  rfl
end Cs
end
section
set_option Elab.async false
set_option linter.all false
set_option maxRecDepth 100000
set_option maxHeartbeats 8000000
/-! SOUND 31: what the top has left, looked at. -/
namespace Cs
open PySem L2 Cz PyProof.Rows
/-- where a name of the module points -/
def gAt (K : PySem.W.Frag) (x : Str) : Addr := match PySem.W.nsIn K mainGlobals x with
  | some (some (.ref a)) => a
  | _ => 0
abbrev FnR : Type := Option (Str × Str × Arguments × FuncBody × Scope × Addr × Addr)
def fnR (K : PySem.W.Frag) (a : Addr) : FnR := match K.lookup a with
  | some ⟨_, _, .func fd, _⟩ => some (fd.name, fd.qualname, fd.params, fd.body, fd.scope, fd.globals, fd.builtins)
  | _ => none
def stR (x : Str) (st : Stmt) : FnR := some (x, x, defArgs st, .stmts (defBody st), defScope st, mainGlobals, builtinsNs)
def glbB (K : PySem.W.Frag) (x : Str) : Bool := decide (PySem.W.nsIn K mainGlobals x = some (some (.ref (gAt K x))))
def defB (K : PySem.W.Frag) (x : Str) : Bool := glbB K x && (PySem.W.keepIn K (.ref (gAt K x)) && (match K.lookup (gAt K x) with
  | some ⟨_, _, .func fd, _⟩ => PySem.W.codeIn K fd.code x && (decide (fd.closure = []) && decide (fd.defaults = .none))
  | _ => false))
theorem defB_ok {K : PySem.W.Frag} {x : Str} {st : Stmt} (e : fnR K (gAt K x) = stR x st) (h : defB K x = true) : ∃ fd, Fun K x x st (gAt K x) fd := by
  unfold defB at h
  rw [Bool.and_eq_true, Bool.and_eq_true] at h
  obtain ⟨h1, h2, h3⟩ := h
  unfold fnR stR at e
  cases q : K.lookup (gAt K x) with
  | none => rw [q] at h3; cases h3
  | some o =>
    obtain ⟨oc, od, dt, osl⟩ := o
    rw [q] at h3 e
    cases dt with
    | func fd =>
      obtain ⟨n1, n2, n3, n4, n5, n6, n7, n8, n9, n10, n11, n12, n13, n14, n15⟩ := fd
      simp only [Option.some.injEq, Prod.mk.injEq] at e
      obtain ⟨e1, e2, e3, e4, e5, e6, e7⟩ := e
      simp only [Bool.and_eq_true, decide_eq_true_eq] at h3
      obtain ⟨k1, k2, k3⟩ := h3
      subst e1 e2 e3 e4 e5 e6 e7 k2 k3
      exact ⟨_, ⟨oc, od, n9, n10, n11, n12, n13, n14, osl, rfl, q, k1⟩, h2⟩
    | _ => cases h3
/-! ### constants -/
def conB (K : PySem.W.Frag) : Nat → Value → D → Bool
  | n, u, d => match u, d with
    | .none, .non => true
    | .bool a, .bl b => decide (a = b)
    | .int i _, .int j => decide (i = j)
    | .str x _, .str s => decide (x.cps.toList = s) && sOk s
    | .ref a, .tup ds => (match n with
      | 0 => false
      | n + 1 => (match K.lookup a with
        | some ⟨.type c, dd, .seq its _, _⟩ => decide (c = "tuple") && (dd.isNone && (decide (its.size ≤ Lim) && (decide (its.toList.length = ds.length) && (its.toList.zip ds).all fun p => conB K n p.1 p.2)))
        | _ => false))
    | _, _ => false
theorem con_list {K : PySem.W.Frag} {w : World} {P : Value → D → Prop} (hP : ∀ u d, P u d → ∃ v, RelV v u ∧ ∀ H, DV K w H v d) : ∀ {us : List Value} {ds : List D}, us.length = ds.length → (∀ p ∈ us.zip ds, P p.1 p.2) → ∃ vs, Vals vs us ∧ ∀ H, DVs K w H vs ds
  | [], [], _, _ => ⟨[], .nil, fun _ => .nil⟩
  | u :: us, d :: ds, hl, h => by
    obtain ⟨v, r, dv⟩ := hP u d (h (u, d) (by simp))
    obtain ⟨vs, rs, dvs⟩ := con_list hP (us := us) (ds := ds) (by simpa using hl) fun p hp => h p (by rw [List.zip_cons_cons]; exact List.mem_cons_of_mem _ hp)
    exact ⟨v :: vs, .cons r rs, fun H => .cons (dv H) (dvs H)⟩
  | [], _ :: _, hl, _ => by simp at hl
  | _ :: _, [], hl, _ => by simp at hl
theorem conB_ok {K : PySem.W.Frag} {w : World} : ∀ (n : Nat) (u : Value) (d : D), conB K n u d = true → ∃ v, RelV v u ∧ ∀ H, DV K w H v d := by
  intro n
  induction n with
  | zero =>
    intro u d h
    unfold conB at h
    split at h
    · exact ⟨.non, rfl, fun _ => .non⟩
    · have := of_decide_eq_true h; subst this; exact ⟨.bl _, rfl, fun _ => .bl _⟩
    · have := of_decide_eq_true h; subst this; exact ⟨.int _, ⟨_, rfl⟩, fun _ => .int _⟩
    · rename_i x t s
      rw [Bool.and_eq_true] at h
      have := of_decide_eq_true h.1
      subst this
      exact ⟨.str x, ⟨_, rfl⟩, fun H => by have := DV.str (K := K) (w := w) (H := H) x.cps.toList h.2; rw [st_back] at this; exact this⟩
    · cases h
    · cases h
  | succ n ih =>
    intro u d h
    unfold conB at h
    split at h
    · exact ⟨.non, rfl, fun _ => .non⟩
    · have := of_decide_eq_true h; subst this; exact ⟨.bl _, rfl, fun _ => .bl _⟩
    · have := of_decide_eq_true h; subst this; exact ⟨.int _, ⟨_, rfl⟩, fun _ => .int _⟩
    · rename_i x t s
      rw [Bool.and_eq_true] at h
      have := of_decide_eq_true h.1
      subst this
      exact ⟨.str x, ⟨_, rfl⟩, fun H => by have := DV.str (K := K) (w := w) (H := H) x.cps.toList h.2; rw [st_back] at this; exact this⟩
    · rename_i a ds
      dsimp only at h
      split at h
      · rename_i c dd its m sl q
        simp only [Bool.and_eq_true, decide_eq_true_eq, List.all_eq_true] at h
        obtain ⟨h1, hd, h2, h3, h4⟩ := h
        have hd : dd = none := Option.isNone_iff_eq_none.mp hd
        obtain ⟨vs, rs, dvs⟩ := con_list (K := K) (w := w) (P := fun u d => conB K n u d = true) (fun u d hh => ih u d hh) h3 fun p hp => h4 p hp
        refine ⟨.ref a, rfl, fun H => .tup ⟨.inr ⟨_, its, m, q, congrArg Value.type h1, rfl, lim_size h2, rs⟩, .inr (.inr ⟨_, q, congrArg Value.type h1, hd⟩)⟩ (dvs H) ?_⟩
        have hl := rs.length
        rw [← (dvs H).length, hl]
        show its.toList.length ≤ Lim
        rw [Array.length_toList]; exact h2
      · cases h
    · cases h
end Cs
end
section
set_option Elab.async false
set_option linter.all false
set_option maxRecDepth 100000
set_option maxHeartbeats 8000000
/-! SOUND 32: dicts of the module; error classes, looked at. -/
namespace Cs
open PySem L2 Cz PyProof.Rows
def keysB : List DictEntry → List (List Nat) → Bool
  | [], [] => true
  | e :: r, k :: ks => (match e.key with | .str x _ => decide (x.cps.toList = k) | _ => false) && keysB r ks
  | _, _ => false
theorem find_keys : ∀ {L : List DictEntry} {ks : List (List Nat)} (z : Str), keysB L ks = true → (match L.find? (·.key.isStr z) with | some e => some (some e.val) | none => if L.any (·.refKey) then none else some none) = some ((ks.idxOf? z.cps.toList).bind ((L.map (·.val))[·]?))
  | [], [], z, _ => by simp
  | e :: r, k :: ks, z, h => by
    unfold keysB at h
    rw [Bool.and_eq_true] at h
    obtain ⟨h1, h2⟩ := h
    split at h1
    · rename_i x t ek
      have hk := of_decide_eq_true h1
      have ih := find_keys z h2
      rw [List.find?_cons, List.idxOf?_cons, List.any_cons]
      have er : e.refKey = false := by unfold DictEntry.refKey; rw [ek]
      have eq1 : e.key.isStr z = decide (x = z) := by
        rw [ek]
        show (x == z) = _
        by_cases y : x = z
        · rw [y]; simp
        · rw [decide_eq_false y, beq_eq_false_iff_ne]; exact y
      rw [eq1, er, Bool.false_or]
      by_cases hx : x = z
      · subst hx
        rw [hk]
        simp
      · have hne : (k == z.cps.toList) = false := by
          rw [beq_eq_false_iff_ne]
          intro y
          apply hx
          rw [← st_back x, ← st_back z, hk, y]
        rw [hne]
        simp only [decide_eq_false hx]
        rw [ih]
        simp only [Bool.false_eq_true, if_false]
        cases ks.idxOf? z.cps.toList <;> simp
    · cases h1
  | [], _ :: _, z, h => by cases h
  | _ :: _, [], z, h => by cases h
def dctB (K : PySem.W.Frag) (u : Value) (ks : List (List Nat)) (ds : List D) : Bool := match u with
  | .ref a => !(a == sysModules) && (match K.lookup a with
    | some ⟨.type c, none, .dict es _, sl⟩ => decide (c = "dict") && (decide (sl.size = 0) && (keysB es.toList ks && (decide (es.toList.length = ds.length) && (decide (ks.length = ds.length) && ((es.toList.map (·.val)).zip ds).all fun p => conB K 3 p.1 p.2))))
    | _ => false)
  | _ => false
theorem dctB_ok {K : PySem.W.Frag} {w : World} {u : Value} {ks : List (List Nat)} {ds : List D} (h : dctB K u ks ds = true) (lit : ∀ a es n, u = .ref a → K.lookup a = some ⟨.type "dict", none, .dict es n, #[]⟩ → PySem.W.KeysLit w.params es.toList) :
    ∃ v, RelV v u ∧ ∀ H, DV K w H v (.dct ks ds) := by
  unfold dctB at h
  split at h
  · rename_i a
    rw [Bool.and_eq_true] at h
    obtain ⟨h0, h⟩ := h
    split at h
    · rename_i c es n sl q
      simp only [Bool.and_eq_true, decide_eq_true_eq, List.all_eq_true] at h
      obtain ⟨h1, h2, h3, h4, h5, h6⟩ := h
      have hsl : sl = #[] := Array.eq_empty_of_size_eq_zero h2
      subst h1 hsl
      have low : (a == sysModules) = false := by simpa using h0
      obtain ⟨vs, rs, dvs⟩ := con_list (K := K) (w := w) (P := fun u d => conB K 3 u d = true) (fun u d hh => conB_ok 3 u d hh) (us := es.toList.map (·.val)) (ds := ds) (by rw [List.length_map]; exact h4) h6
      refine ⟨.ref a, rfl, fun H => .dct (.inr ⟨es, n, es.toList.map (·.val), ⟨q, lit a es n rfl q, low⟩, rs, by rw [List.length_map, h4]; exact h5, fun z => ?_⟩) (dvs H)⟩
      unfold PySem.W.nsIn
      rw [q]
      exact find_keys z h3
    · cases h
  · cases h
/-! ### error classes -/
def oexB (K : PySem.W.Frag) (C : Addr) : Bool := (match K.lookup C with
  | some ⟨.type t, _, .cls cd, sl⟩ => decide (t = "type") && (cd.hasDict && (!cd.hasDel && (match cd.mro, sl.toList with
    | .ref C' :: bm, [_, _, _, _, some (.builtin n), _] => decide (C' = C) && (decide (n = "ValueError.__new__") && PySem.HandSPX.refsVE bm)
    | _, _ => false)))
  | _ => false) && (decide (PySem.W.findIn K (.ref C) "__setattr__" = some (some (.builtin "object.__setattr__"))) && (decide (PySem.W.subIn K (.ref C) (.type "BaseException") = some true) && (decide (PySem.W.typeIn K (.ref C) = some (.type "type")) && PySem.W.keepIn K (.ref C))))
theorem oexB_ok {K : PySem.W.Frag} {C : Addr} (h : oexB K C = true) : OexC K C := by
  unfold oexB at h
  simp only [Bool.and_eq_true, decide_eq_true_eq] at h
  obtain ⟨h1, h2, h3, h4, h5⟩ := h
  refine ⟨?_, h2, h3, h4, h5⟩
  split at h1
  · rename_i t dd cd sl q
    simp only [Bool.and_eq_true, decide_eq_true_eq, Bool.not_eq_true'] at h1
    obtain ⟨t1, hd, hl, h1⟩ := h1
    subst t1
    split at h1
    · rename_i C' bm k0 k1 k2 k3 n k5 hm hs
      simp only [Bool.and_eq_true, decide_eq_true_eq] at h1
      obtain ⟨e1, e2, e3⟩ := h1
      subst e1 e2
      obtain ⟨nm, bs, mro, ns, qn, hdd, sn, sub, ab, col, del⟩ := cd
      dsimp only at hm hd hl
      subst hm hd hl
      have e4 : sl = #[k0, k1, k2, k3, some (.builtin "ValueError.__new__"), k5] := by
        obtain ⟨l⟩ := sl
        simp only at hs
        rw [hs]
      subst e4
      exact ⟨nm, qn, ns, bs, bm, sn, sub, ab, col, dd, k0, k1, k2, k3, k5, q, e3⟩
    · cases h1
  · cases h1
def inclB (K : PySem.W.Frag) (D : Addr) (fld : Str) (C : Addr) : Bool := oexB K C && (decide (PySem.W.mroIn K C (.ref D) = some true) && (decide (PySem.W.ks_superIn K C D "__init__" = some (some (.builtin "ValueError.__init__"))) && (decide (PySem.W.subIn K (.ref C) (.type "ValueError") = some true) && decide (PySem.W.findIn K (.ref C) fld = some none))))
theorem inclB_ok {K : PySem.W.Frag} {D C : Addr} {fld : Str} (h : inclB K D fld C = true) : InCls K D fld C := by
  unfold inclB at h
  simp only [Bool.and_eq_true, decide_eq_true_eq] at h
  obtain ⟨h1, h2, h3, h4, h5⟩ := h
  exact ⟨oexB_ok h1, h2, h3, h4, h5⟩
def xclB (K : PySem.W.Frag) (fld : Str) (C : Addr) : Bool := xfB K C && ((PySem.W.clsIn K C).isSome && (decide (PySem.W.findIn K (.ref C) "__class__" = some (some (.builtin "object.__class__"))) && (decide (PySem.W.mroIn K C (.type "object") = some true) && decide (PySem.W.findIn K (.ref C) fld = some none))))
theorem xclB_ok {K : PySem.W.Frag} {C : Addr} {fld : Str} (h : xclB K fld C = true) : XfC K C ∧ (PySem.W.clsIn K C).isSome = true ∧ PySem.W.findIn K (.ref C) "__class__" = some (some (.builtin "object.__class__")) ∧ PySem.W.mroIn K C (.type "object") = some true ∧ PySem.W.findIn K (.ref C) fld = some none := by
  unfold xclB at h
  simp only [Bool.and_eq_true, decide_eq_true_eq] at h
  obtain ⟨h1, h2, h3, h4, h5⟩ := h
  exact ⟨xfB_ok h1, h2, h3, h4, h5⟩
end Cs
end
section
set_option Elab.async false
set_option linter.all false
set_option maxRecDepth 100000
set_option maxHeartbeats 8000000
/-! SOUND 33: an __init__ with super(), looked at. -/
namespace Cs
open PySem L2 Cz PyProof.Rows
def iAt (K : PySem.W.Frag) (D : Addr) : Addr := match PySem.W.findIn K (.ref D) "__init__" with
  | some (some (.ref f)) => f
  | _ => 0
def initB (K : PySem.W.Frag) (file0 : Str) (D : Addr) (qual : Str) : Bool := (PySem.W.clsIn K D).isSome && (decide (PySem.W.typeIn K (.ref (iAt K D)) = some (.type "function")) && (match K.lookup (iAt K D) with
  | some ⟨_, _, .func fd, _⟩ => decide (fd.defaults = .none) && (decide (fd.kwdefaults = .none) && (decide (fd.annotations = none) && ((match fd.code with
      | .ref cda => PySem.W.codeIn K (.ref cda) qual && (match K.lookup cda with
        | some ⟨_, _, .fields vs, _⟩ => (match (vs[2]? : Option Value) with
          | some (Value.str file _) => file0 == file
          | _ => false)
        | _ => false)
      | _ => false) && (match fd.closure with
      | [(nm, cc)] => decide (nm = ("__class__" : Str)) && (match K.lookup cc with
        | some ⟨_, _, .cell (some (.ref D')), _⟩ => decide (D' = D)
        | _ => false)
      | _ => false))))
  | _ => false))
theorem initOf_ok {G : Fx} {P : Program} {w : World} {K : PySem.W.Frag} {mg : Str → Option Value} {base : Heap} {n : Nat} {C D : Addr} {qual self pn : Str} {params : Arguments} {te : Expr} {scope : Scope} {q0 q1 q2 q3 q4 q5 q6 q7 q8 : Pos}
    (hf : fnR K (iAt K D) = (some (("__init__" : Str), qual, params, FuncBody.stmts (iBody te self pn (G.xf n) q0 q1 q2 q3 q4 q5 q6 q7 q8), scope, mainGlobals, builtinsNs) : FnR)) (hb : initB K P.main.file D qual = true)
    (hsup : mg "super" = none) (hst : PySem.W.nsIn K cStatics "thirdparty.any" = some none) (htop : (P.main.scope.names.lookup ("super" : Str)).isSome = false)
    (hS : NdefX.nscB [self, pn, "__class__"] [self, pn] ["__class__"] scope = true) (hks : scope.names.lookup ("super" : Str) = some .globalImplicit)
    (hp : ∃ ar : PySem.Arg, (params.posonlyargs ++ params.args).head? = some ar ∧ ar.arg = self) (htx : txB pn (G.M.tk n) te = true) (hns : nsB te = true) (hline : (q2.endLine == q3.line) = true)
    (hd1 : (self == ("__debug__" : Str)) = false) (hd2 : (self == ("__classdict__" : Str)) = false) (hd3 : (pn == ("__debug__" : Str)) = false) (hd4 : (pn == ("__classdict__" : Str)) = false)
    (hbind : ∀ (cc cda : Addr) (doc pm ctv : Value) (us : List Value), us.length = 2 → bindArgs ((iNF qual params (iBody te self pn (G.xf n) q0 q1 q2 q3 q4 q5 q6 q7 q8) scope cc cda).fd doc pm ctv) ⟨us, []⟩ = pure ([self, pn].zip us))
    (ic : inclB K D (G.xf n) C = true) (iC : PySem.W.findIn K (.ref C) "__init__" = some (some (.ref (iAt K D)))) : InitOf G P w K mg base n C := by
  unfold initB at hb
  simp only [Bool.and_eq_true, decide_eq_true_eq] at hb
  obtain ⟨b1, b2, b3⟩ := hb
  unfold fnR at hf
  cases q : K.lookup (iAt K D) with
  | none => rw [q] at b3; cases b3
  | some o =>
    obtain ⟨oc, od, dt, osl⟩ := o
    rw [q] at b3 hf
    cases dt with
    | func fd =>
      obtain ⟨n1, n2, n3, n4, n5, n6, n7, n8, n9, n10, n11, n12, n13, n14, n15⟩ := fd
      simp only [Option.some.injEq, Prod.mk.injEq] at hf
      obtain ⟨e1, e2, e3, e4, e5, e6, e7⟩ := hf
      simp only [Bool.and_eq_true, decide_eq_true_eq] at b3
      obtain ⟨k1, k2, k3, k4, k5⟩ := b3
      subst e1 e2 e3 e4 e5 e6 e7 k1 k2 k3
      split at k4
      · rename_i cda
        simp only [Bool.and_eq_true] at k4
        obtain ⟨cd1, k4⟩ := k4
        split at k4
        · rename_i ccl cdd fvs ccs qc
          split at k4
          · rename_i file tf hv
            split at k5
            · rename_i nm cc
              simp only [Bool.and_eq_true, decide_eq_true_eq] at k5
              obtain ⟨z1, k5⟩ := k5
              subst z1
              split at k5
              · rename_i cl cld D' csl qcc
                have z2 := of_decide_eq_true k5
                subst z2
                refine ⟨iAt K D', D', (iNF n2 n3 (iBody te self pn (G.xf n) q0 q1 q2 q3 q4 q5 q6 q7 q8) n5 cc cda).fd n10 n11 n14, self, pn, fun k => ?_, iC, b2, .all fun us hl => hbind cc cda n10 n11 n14 us hl, inclB_ok ic⟩
                exact init_ok q cd1 ⟨cl, cld, csl, qcc⟩ b1 ⟨ccl, cdd, fvs, ccs, file, tf, qc, hv, k4⟩ hsup hst htop hS hks hp (fun X hN hS2 => tx_ok hN (by rw [hS2]; exact .inl ((NdefX.nscope_by hS).par pn (by simp))) hd3 hd4 htx) hns hline hd1 hd2 hd3 hd4
              · cases k5
            · cases k5
          · cases k4
        · cases k4
      · cases k4
    | _ => cases b3
end Cs
end
section
set_option Elab.async false
set_option linter.all false
set_option maxRecDepth 100000
set_option maxHeartbeats 8000000
/-! SOUND 34: from the looks to the module's facts, and the walk. -/
namespace Cs
open PySem L2 Cz PyProof.Rows
def freeNames : List Str := ["len", "int", "abs", "tuple", "list", "all", "any", "max", "min", "sorted", "sum", "set", "bool", "str", "isinstance", "range", "enumerate", "super", "ValueError"]
def conC (M : Mo) (K : PySem.W.Frag) (p : Str × Nat) : Bool := match PySem.W.nsIn K mainGlobals p.1, M.g p.2 with
  | some (some u), some (.dct ks ds) => dctB K u ks ds
  | some (some u), some d => conB K 4 u d
  | _, _ => false
def clsC (K : PySem.W.Frag) (p : Str × Str) : Bool := glbB K p.1 && xclB K p.2 (gAt K p.1)
def veC (M : Mo) (xn : List (Str × Str)) (K : PySem.W.Frag) : Bool := (List.range xn.length).all fun i => (match xn[i]? with
  | some p => decide (PySem.W.kitOne K (.ref (gAt K p.1)) (.type "ValueError") = some (M.sub i 97))
  | none => false)
def subC (M : Mo) (xn : List (Str × Str)) (K : PySem.W.Frag) : Bool := (List.range xn.length).all fun i => (List.range xn.length).all fun j => (match xn[i]?, xn[j]? with
  | some p, some q => decide (PySem.W.exmOne K (.ref (gAt K p.1)) (.ref (gAt K q.1)) = some (M.sub i j)) && decide (PySem.W.kitOne K (.ref (gAt K p.1)) (.ref (gAt K q.1)) = some (M.sub i j))
  | _, _ => false)
def chkM (T : Tab) (M : Mo) (xn : List (Str × Str)) (K : PySem.W.Frag) : Bool :=
  (T.defs.all fun p => defB K p.1) && ((T.cons.all fun p => conC M K p) && ((freeNames.all fun x => decide (PySem.W.nsIn K mainGlobals x = some none)) && ((xn.all fun p => clsC K p) && ((subC M xn K && veC M xn K) && (decide (PySem.W.specialIn K (.builtin "object.__class__") "__get__" = some (some (.builtin "getset_descriptor.__get__"))) &&
    (decide (PySem.W.takesIn K (.builtin "object.__class__") = some true) && decide (PySem.W.nsIn K cStatics "thirdparty.any" = some none)))))))
def xaOf (xn : List (Str × Str)) (K : PySem.W.Frag) (n : Nat) : Option Addr := (xn[n]?).map fun p => gAt K p.1
def xfOf (xn : List (Str × Str)) (n : Nat) : Str := ((xn[n]?).map (·.2)).getD "x"
/-- a def's core form, looked at -/
structure DefL (T : Tab) (prog : Nat → Option Cz.Fn) (K : PySem.W.Frag) (x : Str) (f np : Nat) : Prop where
  ex : ∃ (st : Stmt) (N ps : List Str) (Fd : Cz.Fn), fnR K (gAt K x) = stR x st ∧ scB N ps (defScope st) = true ∧ ps.length = np ∧ np = Fd.np ∧ N.length = Fd.ns ∧ ps.length ≤ N.length ∧ okSs ⟨T, N, defScope st, defScope st⟩ Fd.body (defBody st) = true ∧ prog f = some Fd ∧
    ∀ (kV doc pm : Value) (an : Option Addr) (cdv ct : Value) (us : List Value), us.length = ps.length → bindArgs (PySem.W.fnOf x x (defArgs st) (defBody st) (defScope st) .none kV doc pm an cdv ct) ⟨us, []⟩ = pure (ps.zip us)
theorem modF_of {T : Tab} {M : Mo} {prog : Nat → Option Cz.Fn} {xn : List (Str × Str)} {P : Program} {w : World} {K : PySem.W.Frag} {h : Heap} {mg : Str → Option Value} {base : Heap} (KX : K.In h) (Gn : h.Ns mainGlobals mg) (chk : chkM T M xn K = true)
    (hd : ∀ p ∈ T.defs, DefL T prog K p.1 p.2.1 p.2.2) (hl : ∀ p ∈ T.cons, ∀ ks ds, M.g p.2 = some (.dct ks ds) → ∃ a es m, PySem.W.nsIn K mainGlobals p.1 = some (some (.ref a)) ∧ K.lookup a = some ⟨.type "dict", none, .dict es m, #[]⟩ ∧ PySem.W.KeysLit w.params es.toList)
    (hc : ∀ p ∈ T.cls, (xn[p.2]?).map (·.1) = some p.1) (hm : ∀ p ∈ T.mks, (xn[p.2]?).map (·.1) = some p.1) (hf : ∀ p ∈ T.fld, ∀ c < xn.length, M.fld c = p.2 → xfOf xn c = p.1)
    (hi : mg "super" = none → PySem.W.nsIn K cStatics "thirdparty.any" = some none → ∀ p ∈ T.mks, InitOf ⟨M, fun _ _ => .bad, xaOf xn K, xfOf xn⟩ P w K mg base p.2 (gAt K p.1)) : ModF T M prog (xaOf xn K) (xfOf xn) P w K mg base := by
  unfold chkM at chk
  simp only [Bool.and_eq_true, decide_eq_true_eq, List.all_eq_true] at chk
  obtain ⟨c1, c2, c3, c4, ⟨c5, c5v⟩, c6, c7, c8⟩ := chk
  have free : ∀ x ∈ freeNames, mg x = none := fun x hx => PySem.W.mg_none_of KX Gn (c3 x hx)
  have glb : ∀ x, glbB K x = true → mg x = some (.ref (gAt K x)) := fun x hx => PySem.W.mg_of KX Gn (of_decide_eq_true hx)
  have clsAt : ∀ n x, (xn[n]?).map (·.1) = some x → xaOf xn K n = some (gAt K x) ∧ mg x = some (.ref (gAt K x)) := fun n x e => by
    obtain ⟨p, e1, e2⟩ := Option.map_eq_some_iff.mp e
    subst e2
    have := c4 p (List.mem_of_getElem? e1)
    unfold clsC at this
    rw [Bool.and_eq_true] at this
    exact ⟨by unfold xaOf; rw [e1]; rfl, glb _ this.1⟩
  exact {
    con := fun x n hx => by
      have z := c2 (x, n) hx
      unfold conC at z
      dsimp only at z
      cases e1 : PySem.W.nsIn K mainGlobals x with
      | none => rw [e1] at z; cases z
      | some o =>
        cases o with
        | none => rw [e1] at z; cases z
        | some u =>
          cases e2 : M.g n with
          | none => rw [e1, e2] at z; cases z
          | some d =>
            rw [e1, e2] at z
            have hmg := PySem.W.mg_of KX Gn e1
            cases d with
            | dct ks ds =>
              obtain ⟨a, es, m, l1, l2, l3⟩ := hl (x, n) hx ks ds e2
              obtain ⟨v, r, dv⟩ := dctB_ok (w := w) z fun a' es' m' e3 e4 => by
                rw [e1] at l1
                cases l1
                cases e3
                rw [l2] at e4
                cases e4
                exact l3
              exact ⟨v, u, _, rfl, hmg, r, dv⟩
            | _ =>
              obtain ⟨v, r, dv⟩ := conB_ok (w := w) 4 u _ z
              exact ⟨v, u, _, rfl, hmg, r, dv⟩
    bi := fun b => free _ (by cases b <;> decide +kernel)
    ty := fun t => free _ (by cases t <;> decide +kernel)
    isi := free _ (by decide +kernel)
    vE := free _ (by decide +kernel)
    rng := free _ (by decide +kernel)
    enu := free _ (by decide +kernel)
    defs := fun x f np hx => by
      obtain ⟨st, N, ps, Fd, e1, e2, e3, e4, e5, e6, e7, e8, e9⟩ := (hd _ hx).ex
      have b := c1 _ hx
      obtain ⟨fd, F⟩ := defB_ok e1 b
      have g : glbB K x = true := by
        unfold defB at b
        rw [Bool.and_eq_true] at b
        exact b.1
      exact ⟨st, gAt K x, fd, N, ps, Fd, F, glb _ g, F.binds e9, e2, e3, e4, e5, e6, e7, e8⟩
    cls := fun x n hx => ⟨_, clsAt n x (hc _ hx)⟩
    fld := fun x n hx c C hC e => by
      unfold xaOf at hC
      obtain ⟨p, e1, _⟩ := Option.map_eq_some_iff.mp hC
      exact hf _ hx c (List.getElem?_eq_some_iff.mp e1).1 e
    exf := {
      cls := fun c C hC => by
        have hC : xaOf xn K c = some C := hC
        unfold xaOf at hC
        obtain ⟨p, e1, e2⟩ := Option.map_eq_some_iff.mp hC
        subst e2
        have := c4 p (List.mem_of_getElem? e1)
        unfold clsC at this
        rw [Bool.and_eq_true] at this
        have z := xclB_ok this.2
        have e : xfOf xn c = p.2 := by unfold xfOf; rw [e1]; rfl
        show _ ∧ _ ∧ _ ∧ _ ∧ PySem.W.findIn K _ (xfOf xn c) = some none
        rw [e]
        exact z
      sub := fun c C c' C' hC hC' => by
        have hC : xaOf xn K c = some C := hC
        have hC' : xaOf xn K c' = some C' := hC'
        unfold xaOf at hC hC'
        obtain ⟨p, e1, e2⟩ := Option.map_eq_some_iff.mp hC
        obtain ⟨p', e1', e2'⟩ := Option.map_eq_some_iff.mp hC'
        subst e2 e2'
        unfold subC at c5
        rw [List.all_eq_true] at c5
        have z := c5 c (List.mem_range.mpr (List.getElem?_eq_some_iff.mp e1).1)
        rw [List.all_eq_true] at z
        have z := z c' (List.mem_range.mpr (List.getElem?_eq_some_iff.mp e1').1)
        rw [e1, e1'] at z
        simp only [Bool.and_eq_true, decide_eq_true_eq] at z
        exact z
      gt := c6
      tk := c7
      ve := fun c C hC => by
        have hC : xaOf xn K c = some C := hC
        unfold xaOf at hC
        obtain ⟨p, e1, e2⟩ := Option.map_eq_some_iff.mp hC
        subst e2
        unfold veC at c5v
        rw [List.all_eq_true] at c5v
        have z := c5v c (List.mem_range.mpr (List.getElem?_eq_some_iff.mp e1).1)
        rw [e1] at z
        exact of_decide_eq_true z }
    ini := fun x n hx => by
      obtain ⟨a, b⟩ := clsAt n x (hm _ hx)
      exact ⟨_, a, b, hi (free _ (by decide +kernel)) c8 _ hx⟩ }
/-- a def's core form, its parameters told -/
structure DefP (T : Tab) (prog : Nat → Option Cz.Fn) (K : PySem.W.Frag) (x : Str) (f : Nat) (ps : List Str) : Prop where
  ex : ∃ (st : Stmt) (N : List Str) (Fd : Cz.Fn), fnR K (gAt K x) = stR x st ∧ scB N ps (defScope st) = true ∧ ps.length = Fd.np ∧ N.length = Fd.ns ∧ ps.length ≤ N.length ∧ okSs ⟨T, N, defScope st, defScope st⟩ Fd.body (defBody st) = true ∧ prog f = some Fd ∧
    ∀ (kV doc pm : Value) (an : Option Addr) (cdv ct : Value) (us : List Value), us.length = ps.length → bindArgs (PySem.W.fnOf x x (defArgs st) (defBody st) (defScope st) .none kV doc pm an cdv ct) ⟨us, []⟩ = pure (ps.zip us)
theorem DefP.l {T : Tab} {prog : Nat → Option Cz.Fn} {K : PySem.W.Frag} {x : Str} {f np : Nat} {ps : List Str} (h : DefP T prog K x f ps) (hp : ps.length = np) : DefL T prog K x f np := by
  obtain ⟨st, N, Fd, e1, e2, e4, e5, e6, e7, e8, e9⟩ := h.ex
  exact ⟨st, N, ps, Fd, e1, e2, hp, by rw [← hp]; exact e4, e5, e6, e7, e8, e9⟩
theorem bits_log {z : Int} (h : Builtin.Int.intBits z ≤ 1048576) : z.natAbs.log2 < 2000000 := by
  unfold Builtin.Int.intBits at h
  by_cases hz : z = 0
  · subst hz; decide
  · have e : (z == 0) = false := by simpa using hz
    rw [e] at h
    simp only [Bool.false_eq_true, if_false] at h
    omega
/-- the walk: what the evaluator says for every script is the law -/
theorem walk_by {l : PySem.W.OpenLaw} {q : Program} {loose : List Str} {XP : (Str → Option Value) → Heap → Prop} {YP : World → Heap → Prop} {d : DefRec} {K : Params → PySem.W.Frag} {T : Tab} {M : Mo} {prog : Nat → Option Cz.Fn} {xn : List (Str × Str)} {m fuel f : Nat} {x pn : Str}
    (hn : l.most = some m) (hn2 : m ≤ 1000) (hdf : d.params.defaults = []) (hr : Room (fuel + 3) callerA) (hY : ∀ (w : World) (h : Heap), YP w h → (K w.params).In h) (hdn : d.name = x) (hx : ∃ p ∈ T.defs, p.1 = x)
    (chk : ∀ w : World, chkM T M xn (K w.params) = true) (hlaw : ∀ w : World, DefP T prog (K w.params) x f [pn])
    (F : ∀ (w : World) (mg : Str → Option Value) (h : Heap), (K w.params).In h → h.Ns mainGlobals mg → ∀ base : Heap, ModF T M prog (xaOf xn (K w.params)) (xfOf xn) l.prog w (K w.params) mg base)
    (law : ∀ ns : List Int, ns.length ≤ m → (∀ z ∈ ns, z.natAbs.log2 < 2000000) → Cz.call M prog (fuel + 1) f [.a (.lst (ns.map D.int))] = .ok (.p (.bl true)) []) :
    PySem.W.WalkO q loose XP YP l.row.toRowW d [] (fun f vs => PySem.call f vs) := by
  refine L2.walk_ofB (n := m) (k := fuel + 3) (x := pn) (CX := fun w => L2.CX l.prog w) (sp := fun w => spC (Gn M prog (xaOf xn (K w.params)) (xfOf xn) (fuel + 1)) (K w.params) w f 1) hn (by rw [sizeLine_eq]; omega) hdf hr hY
    (fun w mg fa h KX G hmg => ?_) (fun w H a ns hl hbits _ hS => law_sp (Nat.le_trans hl (by show m ≤ 100000; omega)) hS (law ns hl fun z hz => bits_log (hbits z hz))) fun w H s e s' z => ?_
  · obtain ⟨st, N, Fd, e1, e2, e4, e5, e6, e7, e8, e9⟩ := (hlaw w).ex
    have ck := chk w
    unfold chkM at ck
    simp only [Bool.and_eq_true, decide_eq_true_eq, List.all_eq_true] at ck
    obtain ⟨p, hp1, hp2⟩ := hx
    have b := ck.1 p hp1
    rw [hp2] at b
    obtain ⟨fd, Fn⟩ := defB_ok e1 b
    have g : glbB (K w.params) x = true := by
      unfold defB at b
      rw [Bool.and_eq_true] at b
      exact b.1
    have ga : mg x = some (.ref (gAt (K w.params) x)) := PySem.W.mg_of KX G (of_decide_eq_true g)
    rw [hdn, ga] at hmg
    cases hmg
    refine ⟨fd, fun s u => ?_, fun base _ _ => ?_⟩
    · obtain ⟨oc, od, kV, doc, pm, an, cdv, ct, osl, rfl, lk, hcd⟩ := Fn.ex
      exact .of_eq (e9 kV doc pm an cdv ct [u] rfl)
    · exact def_ok (C' := Cz.call M prog (fuel + 1)) (mod_ok (F w mg h KX G base) fuel) Fn e2 e4 e5 e6 e7 fun as => (by unfold Cz.call; rw [e8])
  · obtain ⟨_, _, _, _, _, _, _, _, _, _, _, _, y⟩ := z
    exact y
end Cs
end
section
set_option Elab.async false
set_option linter.all false
set_option maxRecDepth 100000
set_option maxHeartbeats 8000000
/-! SOUND 35: small helps for a law's head. -/
namespace Cs
open PySem L2 Cz PyProof.Rows
theorem fm_nil {α : Type} {P : α → Prop} : ∀ x ∈ ([] : List α), P x := fun _ h => absurd h (by simp)
theorem fm_cons {α : Type} {P : α → Prop} {a : α} {l : List α} (h : P a) (r : ∀ x ∈ l, P x) : ∀ x ∈ a :: l, P x := fun x hx => by
  rcases List.mem_cons.mp hx with e | e
  · rw [e]; exact h
  · exact r x e
/-- a class's body's k-th row -/
def inCls (st : Stmt) (k : Nat) : Stmt := match st with
  | .ClassDef _ _ _ body _ _ _ _ _ _ _ => body.getD k (.Pass ⟨0, 0, 0, 0⟩)
  | _ => .Pass ⟨0, 0, 0, 0⟩
def iR (qual : Str) (st : Stmt) : FnR := some ("__init__", qual, defArgs st, .stmts (defBody st), defScope st, mainGlobals, builtinsNs)
/-- an __init__ as it is written -/
structure InitL (kd : Nat) (fld : Str) (st : Stmt) : Prop where
  ex : ∃ (te : Expr) (self pn : Str) (q0 q1 q2 q3 q4 q5 q6 q7 q8 : Pos), defBody st = iBody te self pn fld q0 q1 q2 q3 q4 q5 q6 q7 q8 ∧ NdefX.nscB [self, pn, "__class__"] [self, pn] ["__class__"] (defScope st) = true ∧ (defScope st).names.lookup ("super" : Str) = some .globalImplicit ∧
    (∃ ar : PySem.Arg, ((defArgs st).posonlyargs ++ (defArgs st).args).head? = some ar ∧ ar.arg = self) ∧ txB pn kd te = true ∧ nsB te = true ∧ (q2.endLine == q3.line) = true ∧ (self == ("__debug__" : Str)) = false ∧ (self == ("__classdict__" : Str)) = false ∧ (pn == ("__debug__" : Str)) = false ∧ (pn == ("__classdict__" : Str)) = false ∧
    ∀ (qual : Str) (cc cda : Addr) (doc pm ctv : Value) (us : List Value), us.length = 2 → bindArgs ((iNF qual (defArgs st) (iBody te self pn fld q0 q1 q2 q3 q4 q5 q6 q7 q8) (defScope st) cc cda).fd doc pm ctv) ⟨us, []⟩ = pure ([self, pn].zip us)
theorem initOf_by {G : Fx} {P : Program} {w : World} {K : PySem.W.Frag} {mg : Str → Option Value} {base : Heap} {n : Nat} {C D : Addr} {qual : Str} {st : Stmt} (h : InitL (G.M.tk n) (G.xf n) st) (hf : fnR K (iAt K D) = iR qual st) (hb : initB K P.main.file D qual = true)
    (hsup : mg "super" = none) (hst : PySem.W.nsIn K cStatics "thirdparty.any" = some none) (htop : (P.main.scope.names.lookup ("super" : Str)).isSome = false) (ic : inclB K D (G.xf n) C = true) (iC : PySem.W.findIn K (.ref C) "__init__" = some (some (.ref (iAt K D)))) : InitOf G P w K mg base n C := by
  obtain ⟨te, self, pn, q0, q1, q2, q3, q4, q5, q6, q7, q8, e, a1, a2, a3, a4, a5, a6, a7, a8, a9, a10, a11⟩ := h.ex
  unfold iR at hf
  rw [e] at hf
  exact initOf_ok hf hb hsup hst htop a1 a2 a3 a4 a5 a6 a7 a8 a9 a10 (fun cc cda doc pm ctv us hl => a11 qual cc cda doc pm ctv us hl) ic iC
theorem lit_of {K : PySem.W.Frag} {w : World} {x : Str} {a : Addr} {es : Array DictEntry} {m : Nat} (h1 : PySem.W.nsIn K mainGlobals x = some (some (.ref a))) (h2 : K.lookup a = some ⟨.type "dict", none, .dict es m, #[]⟩) (h3 : PySem.W.KeysLit w.params es.toList) : ∃ a es m, PySem.W.nsIn K mainGlobals x = some (some (.ref a)) ∧ K.lookup a = some ⟨.type "dict", none, .dict es m, #[]⟩ ∧ PySem.W.KeysLit w.params es.toList := ⟨a, es, m, h1, h2, h3⟩
/-- the same, the class by its name -/
theorem initOf_at {G : Fx} {P : Program} {w : World} {K : PySem.W.Frag} {mg : Str → Option Value} {base : Heap} {n : Nat} {C : Addr} (x qual : Str) {st : Stmt} (hsup : mg "super" = none) (hst : PySem.W.nsIn K cStatics "thirdparty.any" = some none) (h : InitL (G.M.tk n) (G.xf n) st) (hf : fnR K (iAt K (gAt K x)) = iR qual st) (hb : initB K P.main.file (gAt K x) qual = true)
    (htop : (P.main.scope.names.lookup ("super" : Str)).isSome = false) (ic : inclB K (gAt K x) (G.xf n) C = true) (iC : PySem.W.findIn K (.ref C) "__init__" = some (some (.ref (iAt K (gAt K x))))) : InitOf G P w K mg base n C :=
  initOf_by (D := gAt K x) h hf hb hsup hst htop ic iC
end Cs
end
section
namespace K01
open Cz
/-- is_integer(thing, low, high); slots thing low high -/
def n_is_integer : Nat := 0
def b_is_integer : Ss := .cons (.ret (.and (.cons (.isi (.bor 0) [.int]) (.cons (.not (.isi (.bor 0) [.bool])) (.cons (.chain .le .le (.bor 1) (.bor 0) (.bor 2)) .nil))))) .nil
def F_is_integer : Fn := ⟨3, 3, b_is_integer⟩
/-- is_listed(thing); slots thing -/
def n_is_listed : Nat := 1
def b_is_listed : Ss := .cons (.ret (.isi (.bor 0) [.tuple, .list])) .nil
def F_is_listed : Fn := ⟨1, 1, b_is_listed⟩
/-- is_letters(thing); slots thing letter -/
def n_is_letters : Nat := 2
def b_is_letters_0a : Ss := .cons (.ret (.c (.bl false))) .nil
def b_is_letters_1 : Ss := .cons (.ret (.bi .all (.cons (.lc [1] (.val (.var 0)) .nil (.chain .le .le (.c (.str [97])) (.bor 1) (.c (.str [122])))) .nil))) .nil
def b_is_letters : Ss := .cons (.ife (.or (.cons (.not (.isi (.bor 0) [.str])) (.cons (.not (.chain .le .le (.c (.int 1)) (.bi .len (.cons (.bor 0) .nil)) (.g 2))) .nil))) b_is_letters_0a .nil) b_is_letters_1
def F_is_letters : Fn := ⟨1, 2, b_is_letters⟩
/-- is_name(thing); slots thing -/
def n_is_name : Nat := 3
def b_is_name : Ss := .cons (.ret (.and (.cons (.call 2 (.cons (.var 0) .nil)) (.cons (.cmp .nin (.bor 0) (.g 0)) .nil)))) .nil
def F_is_name : Fn := ⟨1, 1, b_is_name⟩
/-- is_names(thing); slots thing number item -/
def n_is_names : Nat := 4
def b_is_names_0a : Ss := .cons (.ret (.c (.bl false))) .nil
def b_is_names_1 : Ss := .cons (.ret (.bi .all (.cons (.lc [1, 2] (.enum (.var 0)) .nil (.and (.cons (.call 3 (.cons (.var 2) .nil)) (.cons (.cmp .nin (.bor 2) (.slT (.bor 0) (.bor 1))) .nil)))) .nil))) .nil
def b_is_names : Ss := .cons (.ife (.or (.cons (.not (.call 1 (.cons (.var 0) .nil))) (.cons (.cmp .gt (.bi .len (.cons (.bor 0) .nil)) (.g 1)) .nil))) b_is_names_0a .nil) b_is_names_1
def F_is_names : Fn := ⟨1, 3, b_is_names⟩
/-- checked_facts(thing); slots thing -/
def n_checked_facts : Nat := 5
def b_checked_facts_0a : Ss := .cons (.raise 4 (.var 0)) .nil
def b_checked_facts_1 : Ss := .cons (.ret (.bi .tuple (.cons (.bor 0) .nil))) .nil
def b_checked_facts : Ss := .cons (.ife (.not (.call 4 (.cons (.var 0) .nil))) b_checked_facts_0a .nil) b_checked_facts_1
def F_checked_facts : Fn := ⟨1, 1, b_checked_facts⟩
/-- is_ascending(thing, low, high); slots thing low high number item -/
def n_is_ascending : Nat := 6
def b_is_ascending_0a : Ss := .cons (.ret (.c (.bl false))) .nil
def b_is_ascending_1 : Ss := .cons (.ret (.bi .all (.cons (.lc [3] (.r1 (.bin .sub (.bi .len (.cons (.bor 0) .nil)) (.c (.int 1)))) .nil (.cmp .lt (.ix (.bor 0) (.bor 3)) (.ix (.bor 0) (.bin .add (.bor 3) (.c (.int 1)))))) .nil))) .nil
def b_is_ascending : Ss := .cons (.ife (.or (.cons (.not (.call 1 (.cons (.var 0) .nil))) (.cons (.not (.bi .all (.cons (.lc [4] (.val (.var 0)) .nil (.call 0 (.cons (.var 4) (.cons (.var 1) (.cons (.var 2) .nil))))) .nil))) .nil))) b_is_ascending_0a .nil) b_is_ascending_1
def F_is_ascending : Fn := ⟨3, 5, b_is_ascending⟩
/-- mask_of(numbers); slots numbers told number -/
def n_mask_of : Nat := 7
def b_mask_of_1a : Ss := .cons (.asg 1 (.bin .or (.bor 1) (.bin .shl (.c (.int 1)) (.bor 2)))) .nil
def b_mask_of_2 : Ss := .cons (.ret (.var 1)) .nil
def b_mask_of_1 : Ss := .cons (.for_ [2] (.val (.var 0)) b_mask_of_1a) b_mask_of_2
def b_mask_of : Ss := .cons (.asg 1 (.c (.int 0))) b_mask_of_1
def F_mask_of : Fn := ⟨1, 3, b_mask_of⟩
/-- bits_of(mask); slots mask told rest low -/
def n_bits_of : Nat := 8
def b_bits_of_2a_2 : Ss := .cons (.asg 2 (.bin .xor (.bor 2) (.bor 3))) .nil
def b_bits_of_2a_1 : Ss := .cons (.app 1 (.bin .sub (.me .bitlen (.bor 3) .nil) (.c (.int 1)))) b_bits_of_2a_2
def b_bits_of_2a : Ss := .cons (.asg 3 (.bin .and (.bor 2) (.neg (.bor 2)))) b_bits_of_2a_1
def b_bits_of_3 : Ss := .cons (.ret (.var 1)) .nil
def b_bits_of_2 : Ss := .cons (.while_ (.bor 2) b_bits_of_2a) b_bits_of_3
def b_bits_of_1 : Ss := .cons (.asg 2 (.var 0)) b_bits_of_2
def b_bits_of : Ss := .cons (.asg 1 (.lst .nil)) b_bits_of_1
def F_bits_of : Fn := ⟨1, 4, b_bits_of⟩
/-- told_saying(thing, depth, room); slots thing depth room kind told left arm found -/
def n_told_saying : Nat := 9
def b_told_saying_0a : Ss := .cons (.ret (.c .non)) .nil
def b_told_saying_2a : Ss := .cons (.ret (.c .non)) .nil
def b_told_saying_3a : Ss := .cons (.ret (.tup (.cons (.tup (.cons (.var 3) (.cons (.ix (.bor 0) (.c (.int 1))) .nil))) (.cons (.ife (.call 3 (.cons (.ix (.bor 0) (.c (.int 1))) .nil)) (.bin .sub (.bor 2) (.c (.int 1))) (.c .non)) .nil)))) .nil
def b_told_saying_6a_1a : Ss := .cons (.ret (.c .non)) .nil
def b_told_saying_6a_3 : Ss := .cons (.asg 5 (.ix (.bor 7) (.c (.int 1)))) .nil
def b_told_saying_6a_2 : Ss := .cons (.app 4 (.ix (.bor 7) (.c (.int 0)))) b_told_saying_6a_3
def b_told_saying_6a_1 : Ss := .cons (.ife (.or (.cons (.cmp .isN (.bor 7) (.c .non)) (.cons (.cmp .isN (.ix (.bor 7) (.c (.int 1))) (.c .non)) .nil))) b_told_saying_6a_1a .nil) b_told_saying_6a_2
def b_told_saying_6a : Ss := .cons (.asg 7 (.call 9 (.cons (.var 6) (.cons (.bin .add (.bor 1) (.c (.int 1))) (.cons (.var 5) .nil))))) b_told_saying_6a_1
def b_told_saying_7 : Ss := .cons (.ret (.tup (.cons (.bi .tuple (.cons (.bor 4) .nil)) (.cons (.var 5) .nil)))) .nil
def b_told_saying_6 : Ss := .cons (.for_ [6] (.val (.slF (.bor 0) (.c (.int 1)))) b_told_saying_6a) b_told_saying_7
def b_told_saying_5 : Ss := .cons (.asg 5 (.bin .sub (.bor 2) (.c (.int 1)))) b_told_saying_6
def b_told_saying_4 : Ss := .cons (.asg 4 (.lst (.cons (.var 3) .nil))) b_told_saying_5
def b_told_saying_3 : Ss := .cons (.ife (.cmp .eq (.bor 3) (.c (.str [102, 97, 99, 116]))) b_told_saying_3a .nil) b_told_saying_4
def b_told_saying_2 : Ss := .cons (.ife (.or (.cons (.not (.isi (.bor 3) [.str])) (.cons (.cmp .nin (.bor 3) (.g 6)) (.cons (.cmp .ne (.bi .len (.cons (.bor 0) .nil)) (.bin .add (.ix (.g 6) (.bor 3)) (.c (.int 1)))) .nil)))) b_told_saying_2a .nil) b_told_saying_3
def b_told_saying_1 : Ss := .cons (.asg 3 (.ix (.bor 0) (.c (.int 0)))) b_told_saying_2
def b_told_saying : Ss := .cons (.ife (.or (.cons (.cmp .gt (.bor 1) (.g 4)) (.cons (.cmp .eq (.bor 2) (.c (.int 0))) (.cons (.not (.call 1 (.cons (.var 0) .nil))) (.cons (.cmp .eq (.bi .len (.cons (.bor 0) .nil)) (.c (.int 0))) .nil))))) b_told_saying_0a .nil) b_told_saying_1
def F_told_saying : Fn := ⟨3, 8, b_told_saying⟩
/-- saying_or_none(thing); slots thing found -/
def n_saying_or_none : Nat := 10
def b_saying_or_none_1a : Ss := .cons (.ret (.c .non)) .nil
def b_saying_or_none_2 : Ss := .cons (.ret (.ix (.bor 1) (.c (.int 0)))) .nil
def b_saying_or_none_1 : Ss := .cons (.ife (.or (.cons (.cmp .isN (.bor 1) (.c .non)) (.cons (.cmp .isN (.ix (.bor 1) (.c (.int 1))) (.c .non)) .nil))) b_saying_or_none_1a .nil) b_saying_or_none_2
def b_saying_or_none : Ss := .cons (.asg 1 (.call 9 (.cons (.var 0) (.cons (.c (.int 0)) (.cons (.g 3) .nil))))) b_saying_or_none_1
def F_saying_or_none : Fn := ⟨1, 2, b_saying_or_none⟩
/-- checked_saying(thing); slots thing told -/
def n_checked_saying : Nat := 11
def b_checked_saying_1a : Ss := .cons (.raise 3 (.var 0)) .nil
def b_checked_saying_2 : Ss := .cons (.ret (.var 1)) .nil
def b_checked_saying_1 : Ss := .cons (.ife (.cmp .isN (.bor 1) (.c .non)) b_checked_saying_1a .nil) b_checked_saying_2
def b_checked_saying : Ss := .cons (.asg 1 (.call 10 (.cons (.var 0) .nil))) b_checked_saying_1
def F_checked_saying : Fn := ⟨1, 2, b_checked_saying⟩
/-- facts_met(saying); slots saying arm name -/
def n_facts_met : Nat := 12
def b_facts_met_0a : Ss := .cons (.ret (.lst (.cons (.ix (.bor 0) (.c (.int 1))) .nil))) .nil
def b_facts_met_1 : Ss := .cons (.ret (.lc2 [1] (.val (.slF (.bor 0) (.c (.int 1)))) [2] (.val (.call 12 (.cons (.var 1) .nil))) (.var 2))) .nil
def b_facts_met : Ss := .cons (.ife (.cmp .eq (.ix (.bor 0) (.c (.int 0))) (.c (.str [102, 97, 99, 116]))) b_facts_met_0a .nil) b_facts_met_1
def F_facts_met : Fn := ⟨1, 3, b_facts_met⟩
/-- facts_of(saying); slots saying -/
def n_facts_of : Nat := 13
def b_facts_of : Ss := .cons (.ret (.bi .tuple (.cons (.sset (.call 12 (.cons (.call 11 (.cons (.var 0) .nil)) .nil))) .nil))) .nil
def F_facts_of : Fn := ⟨1, 1, b_facts_of⟩
/-- check_known(facts, saying); slots facts saying name -/
def n_check_known : Nat := 14
def b_check_known_0a_0a : Ss := .cons (.raise 7 (.var 2)) .nil
def b_check_known_0a : Ss := .cons (.ife (.cmp .nin (.bor 2) (.bor 0)) b_check_known_0a_0a .nil) .nil
def b_check_known : Ss := .cons (.for_ [2] (.val (.call 12 (.cons (.var 1) .nil))) b_check_known_0a) .nil
def F_check_known : Fn := ⟨2, 3, b_check_known⟩
/-- fact_mask(many, number); slots many number view -/
def n_fact_mask : Nat := 15
def b_fact_mask : Ss := .cons (.ret (.call 7 (.cons (.lc [2] (.r1 (.bin .shl (.c (.int 1)) (.bor 0))) (.cons (.bin .and (.bin .shr (.bor 2) (.bor 1)) (.c (.int 1))) .nil) (.var 2)) .nil))) .nil
def F_fact_mask : Fn := ⟨2, 3, b_fact_mask⟩
/-- view_mask(facts, saying); slots facts saying kind every -/
def n_view_mask : Nat := 16
def b_view_mask_2a : Ss := .cons (.ret (.var 3)) .nil
def b_view_mask_3a : Ss := .cons (.ret (.c (.int 0))) .nil
def b_view_mask_4a : Ss := .cons (.ret (.call 15 (.cons (.bi .len (.cons (.bor 0) .nil)) (.cons (.me .index (.bor 0) (.cons (.ix (.bor 1) (.c (.int 1))) .nil)) .nil)))) .nil
def b_view_mask_5a : Ss := .cons (.ret (.bin .xor (.bor 3) (.call 16 (.cons (.var 0) (.cons (.ix (.bor 1) (.c (.int 1))) .nil))))) .nil
def b_view_mask_6a : Ss := .cons (.ret (.bin .and (.call 16 (.cons (.var 0) (.cons (.ix (.bor 1) (.c (.int 1))) .nil))) (.call 16 (.cons (.var 0) (.cons (.ix (.bor 1) (.c (.int 2))) .nil))))) .nil
def b_view_mask_7 : Ss := .cons (.ret (.bin .or (.call 16 (.cons (.var 0) (.cons (.ix (.bor 1) (.c (.int 1))) .nil))) (.call 16 (.cons (.var 0) (.cons (.ix (.bor 1) (.c (.int 2))) .nil))))) .nil
def b_view_mask_6 : Ss := .cons (.ife (.cmp .eq (.bor 2) (.c (.str [97, 110, 100]))) b_view_mask_6a .nil) b_view_mask_7
def b_view_mask_5 : Ss := .cons (.ife (.cmp .eq (.bor 2) (.c (.str [110, 111, 116]))) b_view_mask_5a .nil) b_view_mask_6
def b_view_mask_4 : Ss := .cons (.ife (.cmp .eq (.bor 2) (.c (.str [102, 97, 99, 116]))) b_view_mask_4a .nil) b_view_mask_5
def b_view_mask_3 : Ss := .cons (.ife (.cmp .eq (.bor 2) (.c (.str [110, 111]))) b_view_mask_3a .nil) b_view_mask_4
def b_view_mask_2 : Ss := .cons (.ife (.cmp .eq (.bor 2) (.c (.str [121, 101, 115]))) b_view_mask_2a .nil) b_view_mask_3
def b_view_mask_1 : Ss := .cons (.asg 3 (.bin .sub (.bin .shl (.c (.int 1)) (.bin .shl (.c (.int 1)) (.bi .len (.cons (.bor 0) .nil)))) (.c (.int 1)))) b_view_mask_2
def b_view_mask : Ss := .cons (.asg 2 (.ix (.bor 1) (.c (.int 0)))) b_view_mask_1
def F_view_mask : Fn := ⟨2, 4, b_view_mask⟩
/-- mask_over(facts, saying); slots facts saying -/
def n_mask_over : Nat := 17
def b_mask_over_1 : Ss := .cons (.ret (.call 16 (.cons (.var 0) (.cons (.var 1) .nil)))) .nil
def b_mask_over : Ss := .cons (.ex (.call 14 (.cons (.var 0) (.cons (.var 1) .nil)))) b_mask_over_1
def F_mask_over : Fn := ⟨2, 2, b_mask_over⟩
/-- check_view(facts, view); slots facts view -/
def n_check_view : Nat := 18
def b_check_view_0a : Ss := .cons (.raise 5 (.var 1)) .nil
def b_check_view : Ss := .cons (.ife (.not (.call 0 (.cons (.var 1) (.cons (.c (.int 0)) (.cons (.bin .sub (.bin .shl (.c (.int 1)) (.bi .len (.cons (.bor 0) .nil))) (.c (.int 1))) .nil))))) b_check_view_0a .nil) .nil
def F_check_view : Fn := ⟨2, 2, b_check_view⟩
/-- holds_in(facts, saying, view); slots facts saying view names mask -/
def n_holds_in : Nat := 19
def b_holds_in_3 : Ss := .cons (.ret (.cmp .eq (.bin .and (.bin .shr (.bor 4) (.bor 2)) (.c (.int 1))) (.c (.int 1)))) .nil
def b_holds_in_2 : Ss := .cons (.ex (.call 18 (.cons (.var 3) (.cons (.var 2) .nil)))) b_holds_in_3
def b_holds_in_1 : Ss := .cons (.asg 4 (.call 17 (.cons (.var 3) (.cons (.call 11 (.cons (.var 1) .nil)) .nil)))) b_holds_in_2
def b_holds_in : Ss := .cons (.asg 3 (.call 5 (.cons (.var 0) .nil))) b_holds_in_1
def F_holds_in : Fn := ⟨3, 5, b_holds_in⟩
/-- views_of(facts, saying); slots facts saying names -/
def n_views_of : Nat := 20
def b_views_of_1 : Ss := .cons (.ret (.bi .tuple (.cons (.call 8 (.cons (.call 17 (.cons (.var 2) (.cons (.call 11 (.cons (.var 1) .nil)) .nil))) .nil)) .nil))) .nil
def b_views_of : Ss := .cons (.asg 2 (.call 5 (.cons (.var 0) .nil))) b_views_of_1
def F_views_of : Fn := ⟨2, 3, b_views_of⟩
/-- either_of(name, low, high); slots name low high back -/
def n_either_of : Nat := 21
def b_either_of_1a : Ss := .cons (.ret (.ife (.cmp .eq (.bor 1) (.tup (.cons (.c (.str [110, 111])) .nil))) (.var 0) (.tup (.cons (.c (.str [111, 114])) (.cons (.var 0) (.cons (.var 1) .nil)))))) .nil
def b_either_of_2a : Ss := .cons (.ret (.ife (.cmp .eq (.bor 2) (.tup (.cons (.c (.str [110, 111])) .nil))) (.var 3) (.tup (.cons (.c (.str [111, 114])) (.cons (.var 3) (.cons (.var 2) .nil)))))) .nil
def b_either_of_3a : Ss := .cons (.ret (.tup (.cons (.c (.str [97, 110, 100])) (.cons (.var 3) (.cons (.var 1) .nil))))) .nil
def b_either_of_4a : Ss := .cons (.ret (.tup (.cons (.c (.str [97, 110, 100])) (.cons (.var 0) (.cons (.var 2) .nil))))) .nil
def b_either_of_5 : Ss := .cons (.ret (.tup (.cons (.c (.str [111, 114])) (.cons (.tup (.cons (.c (.str [97, 110, 100])) (.cons (.var 0) (.cons (.var 2) .nil)))) (.cons (.tup (.cons (.c (.str [97, 110, 100])) (.cons (.var 3) (.cons (.var 1) .nil)))) .nil))))) .nil
def b_either_of_4 : Ss := .cons (.ife (.cmp .eq (.bor 1) (.tup (.cons (.c (.str [110, 111])) .nil))) b_either_of_4a .nil) b_either_of_5
def b_either_of_3 : Ss := .cons (.ife (.cmp .eq (.bor 2) (.tup (.cons (.c (.str [110, 111])) .nil))) b_either_of_3a .nil) b_either_of_4
def b_either_of_2 : Ss := .cons (.ife (.cmp .eq (.bor 1) (.tup (.cons (.c (.str [121, 101, 115])) .nil))) b_either_of_2a .nil) b_either_of_3
def b_either_of_1 : Ss := .cons (.ife (.cmp .eq (.bor 2) (.tup (.cons (.c (.str [121, 101, 115])) .nil))) b_either_of_1a .nil) b_either_of_2
def b_either_of : Ss := .cons (.asg 3 (.tup (.cons (.c (.str [110, 111, 116])) (.cons (.var 0) .nil)))) b_either_of_1
def F_either_of : Fn := ⟨3, 4, b_either_of⟩
/-- saying_for(facts, mask); slots facts mask every half low high -/
def n_saying_for : Nat := 22
def b_saying_for_1a : Ss := .cons (.ret (.tup (.cons (.c (.str [110, 111])) .nil))) .nil
def b_saying_for_2a : Ss := .cons (.ret (.tup (.cons (.c (.str [121, 101, 115])) .nil))) .nil
def b_saying_for_6a : Ss := .cons (.ret (.var 4)) .nil
def b_saying_for_7 : Ss := .cons (.ret (.call 21 (.cons (.tup (.cons (.c (.str [102, 97, 99, 116])) (.cons (.ix (.bor 0) (.neg (.c (.int 1)))) .nil))) (.cons (.var 4) (.cons (.var 5) .nil))))) .nil
def b_saying_for_6 : Ss := .cons (.ife (.cmp .eq (.bor 4) (.bor 5)) b_saying_for_6a .nil) b_saying_for_7
def b_saying_for_5 : Ss := .cons (.asg 5 (.call 22 (.cons (.slT (.bor 0) (.neg (.c (.int 1)))) (.cons (.bin .shr (.bor 1) (.bor 3)) .nil)))) b_saying_for_6
def b_saying_for_4 : Ss := .cons (.asg 4 (.call 22 (.cons (.slT (.bor 0) (.neg (.c (.int 1)))) (.cons (.bin .and (.bor 1) (.bin .sub (.bin .shl (.c (.int 1)) (.bor 3)) (.c (.int 1)))) .nil)))) b_saying_for_5
def b_saying_for_3 : Ss := .cons (.asg 3 (.bin .shl (.c (.int 1)) (.bin .sub (.bi .len (.cons (.bor 0) .nil)) (.c (.int 1))))) b_saying_for_4
def b_saying_for_2 : Ss := .cons (.ife (.cmp .eq (.bor 1) (.bor 2)) b_saying_for_2a .nil) b_saying_for_3
def b_saying_for_1 : Ss := .cons (.ife (.cmp .eq (.bor 1) (.c (.int 0))) b_saying_for_1a .nil) b_saying_for_2
def b_saying_for : Ss := .cons (.asg 2 (.bin .sub (.bin .shl (.c (.int 1)) (.bin .shl (.c (.int 1)) (.bi .len (.cons (.bor 0) .nil)))) (.c (.int 1)))) b_saying_for_1
def F_saying_for : Fn := ⟨2, 6, b_saying_for⟩
/-- saying_of(facts, views); slots facts views names -/
def n_saying_of : Nat := 23
def b_saying_of_1a : Ss := .cons (.raise 6 (.c (.str [102, 97, 99, 116]))) .nil
def b_saying_of_2a : Ss := .cons (.raise 5 (.var 1)) .nil
def b_saying_of_3 : Ss := .cons (.ret (.call 22 (.cons (.var 2) (.cons (.call 7 (.cons (.var 1) .nil)) .nil)))) .nil
def b_saying_of_2 : Ss := .cons (.ife (.not (.call 6 (.cons (.var 1) (.cons (.c (.int 0)) (.cons (.bin .sub (.bin .shl (.c (.int 1)) (.bi .len (.cons (.bor 2) .nil))) (.c (.int 1))) .nil))))) b_saying_of_2a .nil) b_saying_of_3
def b_saying_of_1 : Ss := .cons (.ife (.cmp .gt (.bi .len (.cons (.bor 2) .nil)) (.g 5)) b_saying_of_1a .nil) b_saying_of_2
def b_saying_of : Ss := .cons (.asg 2 (.call 5 (.cons (.var 0) .nil))) b_saying_of_1
def F_saying_of : Fn := ⟨2, 3, b_saying_of⟩
/-- _law_source(script, place); slots script place cell seed one number -/
def n__law_source : Nat := 24
def b__law_source_2a : Ss := .cons (.asg 3 (.bin .mod (.bi .int (.cons (.bin .add (.bin .mul (.bor 3) (.c (.int 31))) (.bin .mod (.bi .int (.cons (.bor 4) .nil)) (.c (.int 2147483629)))) .nil)) (.c (.int 2147483629)))) .nil
def b__law_source_5 : Ss := .cons (.ret (.lst (.cons (.ife (.cmp .ge (.bor 5) (.bin .pow (.c (.int 10)) (.c (.int 18)))) (.bin .sub (.bor 5) (.bin .shl (.bin .shr (.bor 5) (.c (.int 3000))) (.c (.int 3000)))) (.c (.int 0))) (.cons (.var 3) (.cons (.c (.int 0)) .nil))))) .nil
def b__law_source_4 : Ss := .cons (.asg 5 (.bi .abs (.cons (.bor 2) .nil))) b__law_source_5
def b__law_source_3 : Ss := .cons (.asg 3 (.bin .mod (.bi .int (.cons (.bin .add (.bin .mul (.bor 3) (.c (.int 31))) (.bin .mod (.bi .int (.cons (.bor 2) .nil)) (.c (.int 2147483587)))) .nil)) (.c (.int 2147483629)))) b__law_source_4
def b__law_source_2 : Ss := .cons (.for_ [4] (.val (.slT (.bor 0) (.c (.int 3)))) b__law_source_2a) b__law_source_3
def b__law_source_1 : Ss := .cons (.asg 3 (.bin .add (.bin .mul (.c (.int 1009)) (.bor 1)) (.c (.int 17)))) b__law_source_2
def b__law_source : Ss := .cons (.asg 2 (.ife (.cmp .lt (.bor 1) (.bi .len (.cons (.bor 0) .nil))) (.ix (.bor 0) (.bor 1)) (.bin .add (.bin .mul (.c (.int 5)) (.bor 1)) (.c (.int 3))))) b__law_source_1
def F__law_source : Fn := ⟨2, 6, b__law_source⟩
/-- _law_pick(source, many); slots source many mixed digit -/
def n__law_pick : Nat := 25
def b__law_pick_0a_2 : Ss := .cons (.ret (.var 3)) .nil
def b__law_pick_0a_1 : Ss := .cons (.asgIx 0 (.c (.int 0)) (.bin .fdiv (.ix (.bor 0) (.c (.int 0))) (.bor 1))) b__law_pick_0a_2
def b__law_pick_0a : Ss := .cons (.asg 3 (.bin .mod (.bi .int (.cons (.ix (.bor 0) (.c (.int 0))) .nil)) (.bor 1))) b__law_pick_0a_1
def b__law_pick_5 : Ss := .cons (.ret (.bin .mod (.bi .int (.cons (.bin .fdiv (.bin .mod (.bi .int (.cons (.bin .add (.bin .mul (.bor 2) (.bor 2)) (.bor 2)) .nil)) (.c (.int 2147483587))) (.c (.int 3))) .nil)) (.bor 1))) .nil
def b__law_pick_4 : Ss := .cons (.asg 2 (.bin .mod (.bi .int (.cons (.bin .add (.bin .mul (.bor 2) (.c (.int 16807))) (.c (.int 11))) .nil)) (.c (.int 2147483647)))) b__law_pick_5
def b__law_pick_3 : Ss := .cons (.asg 2 (.bin .mod (.bi .int (.cons (.bin .add (.bin .add (.bin .mul (.bor 2) (.bor 2)) (.bin .mul (.c (.int 69621)) (.ix (.bor 0) (.c (.int 2))))) (.ix (.bor 0) (.c (.int 1)))) .nil)) (.c (.int 2147483629)))) b__law_pick_4
def b__law_pick_2 : Ss := .cons (.asg 2 (.bin .mod (.bi .int (.cons (.bin .mul (.bin .add (.ix (.bor 0) (.c (.int 1))) (.bin .mul (.c (.int 7919)) (.ix (.bor 0) (.c (.int 2))))) (.c (.int 48271))) .nil)) (.c (.int 2147483647)))) b__law_pick_3
def b__law_pick_1 : Ss := .cons (.asgIx 0 (.c (.int 2)) (.bin .add (.ix (.bor 0) (.c (.int 2))) (.c (.int 1)))) b__law_pick_2
def b__law_pick : Ss := .cons (.ife (.cmp .gt (.ix (.bor 0) (.c (.int 0))) (.c (.int 0))) b__law_pick_0a .nil) b__law_pick_1
def F__law_pick : Fn := ⟨2, 4, b__law_pick⟩
/-- _law_say(source, facts, depth); slots source facts depth kind one -/
def n__law_say : Nat := 26
def b__law_say_1a : Ss := .cons (.ret (.ife (.call 25 (.cons (.bor 0) (.cons (.c (.int 2)) .nil))) (.tup (.cons (.c (.str [121, 101, 115])) .nil)) (.tup (.cons (.c (.str [110, 111])) .nil)))) .nil
def b__law_say_2a : Ss := .cons (.ret (.tup (.cons (.c (.str [102, 97, 99, 116])) (.cons (.ix (.bor 1) (.call 25 (.cons (.bor 0) (.cons (.bi .len (.cons (.bor 1) .nil)) .nil)))) .nil)))) .nil
def b__law_say_4 : Ss := .cons (.ret (.ife (.cmp .eq (.bor 3) (.c (.int 4))) (.tup (.cons (.c (.str [110, 111, 116])) (.cons (.var 4) .nil))) (.tup (.cons (.ife (.cmp .eq (.bor 3) (.c (.int 5))) (.c (.str [97, 110, 100])) (.c (.str [111, 114]))) (.cons (.var 4) (.cons (.call 26 (.cons (.bor 0) (.cons (.var 1) (.cons (.bin .sub (.bor 2) (.c (.int 1))) .nil)))) .nil)))))) .nil
def b__law_say_3 : Ss := .cons (.asg 4 (.call 26 (.cons (.bor 0) (.cons (.var 1) (.cons (.bin .sub (.bor 2) (.c (.int 1))) .nil))))) b__law_say_4
def b__law_say_2 : Ss := .cons (.ife (.cmp .lt (.bor 3) (.c (.int 4))) b__law_say_2a .nil) b__law_say_3
def b__law_say_1 : Ss := .cons (.ife (.or (.cons (.cmp .eq (.bi .len (.cons (.bor 1) .nil)) (.c (.int 0))) (.cons (.and (.cons (.cmp .eq (.bor 3) (.c (.int 3))) (.cons (.cmp .eq (.call 25 (.cons (.bor 0) (.cons (.c (.int 4)) .nil))) (.c (.int 2))) .nil))) .nil))) b__law_say_1a .nil) b__law_say_2
def b__law_say : Ss := .cons (.asg 3 (.call 25 (.cons (.bor 0) (.cons (.ife (.cmp .gt (.bor 2) (.c (.int 0))) (.c (.int 7)) (.c (.int 4))) .nil)))) b__law_say_1
def F__law_say : Fn := ⟨3, 5, b__law_say⟩
/-- _law_mask(facts, said); slots facts said every one k view -/
def n__law_mask : Nat := 27
def b__law_mask_1a : Ss := .cons (.ret (.ife (.cmp .eq (.ix (.bor 1) (.c (.int 0))) (.c (.str [121, 101, 115]))) (.var 2) (.c (.int 0)))) .nil
def b__law_mask_2a_1 : Ss := .cons (.ret (.bi .sum (.cons (.lc [5] (.r1 (.bin .shl (.c (.int 1)) (.bi .len (.cons (.bor 0) .nil)))) (.cons (.bin .and (.bin .shr (.bor 5) (.bor 4)) (.c (.int 1))) .nil) (.bin .shl (.c (.int 1)) (.bor 5))) .nil))) .nil
def b__law_mask_2a : Ss := .cons (.asg 4 (.me .indexL (.bi .list (.cons (.bor 0) .nil)) (.cons (.ix (.bor 1) (.c (.int 1))) .nil))) b__law_mask_2a_1
def b__law_mask_4a : Ss := .cons (.ret (.bin .xor (.bor 2) (.bor 3))) .nil
def b__law_mask_5 : Ss := .cons (.ret (.ife (.cmp .eq (.ix (.bor 1) (.c (.int 0))) (.c (.str [97, 110, 100]))) (.bin .and (.bor 3) (.call 27 (.cons (.var 0) (.cons (.ix (.bor 1) (.c (.int 2))) .nil)))) (.bin .or (.bor 3) (.call 27 (.cons (.var 0) (.cons (.ix (.bor 1) (.c (.int 2))) .nil)))))) .nil
def b__law_mask_4 : Ss := .cons (.ife (.cmp .eq (.ix (.bor 1) (.c (.int 0))) (.c (.str [110, 111, 116]))) b__law_mask_4a .nil) b__law_mask_5
def b__law_mask_3 : Ss := .cons (.asg 3 (.call 27 (.cons (.var 0) (.cons (.ix (.bor 1) (.c (.int 1))) .nil)))) b__law_mask_4
def b__law_mask_2 : Ss := .cons (.ife (.cmp .eq (.ix (.bor 1) (.c (.int 0))) (.c (.str [102, 97, 99, 116]))) b__law_mask_2a .nil) b__law_mask_3
def b__law_mask_1 : Ss := .cons (.ife (.cmp .in_ (.ix (.bor 1) (.c (.int 0))) (.tup (.cons (.c (.str [121, 101, 115])) (.cons (.c (.str [110, 111])) .nil)))) b__law_mask_1a .nil) b__law_mask_2
def b__law_mask : Ss := .cons (.asg 2 (.bin .sub (.bin .shl (.c (.int 1)) (.bin .shl (.c (.int 1)) (.bi .len (.cons (.bor 0) .nil)))) (.c (.int 1)))) b__law_mask_1
def F__law_mask : Fn := ⟨2, 6, b__law_mask⟩
/-- _law_true(facts, said, view); slots facts said view -/
def n__law_true : Nat := 28
def b__law_true : Ss := .cons (.ret (.cmp .eq (.bin .and (.bin .shr (.call 27 (.cons (.var 0) (.cons (.var 1) .nil))) (.bor 2)) (.c (.int 1))) (.c (.int 1)))) .nil
def F__law_true : Fn := ⟨3, 3, b__law_true⟩
/-- _law_bits(mask); slots mask k -/
def n__law_bits : Nat := 29
def b__law_bits : Ss := .cons (.ret (.lc [1] (.r1 (.me .bitlen (.bor 0) .nil)) (.cons (.bin .and (.bin .shr (.bor 0) (.bor 1)) (.c (.int 1))) .nil) (.var 1))) .nil
def F__law_bits : Fn := ⟨1, 2, b__law_bits⟩
/-- _law_met(said); slots said told arm -/
def n__law_met : Nat := 30
def b__law_met_0a : Ss := .cons (.ret (.lst (.cons (.ix (.bor 0) (.c (.int 1))) .nil))) .nil
def b__law_met_2a : Ss := .cons (.asg 1 (.bin .add (.bor 1) (.call 30 (.cons (.var 2) .nil)))) .nil
def b__law_met_3 : Ss := .cons (.ret (.var 1)) .nil
def b__law_met_2 : Ss := .cons (.for_ [2] (.val (.slF (.bor 0) (.c (.int 1)))) b__law_met_2a) b__law_met_3
def b__law_met_1 : Ss := .cons (.asg 1 (.lst .nil)) b__law_met_2
def b__law_met : Ss := .cons (.ife (.cmp .eq (.ix (.bor 0) (.c (.int 0))) (.c (.str [102, 97, 99, 116]))) b__law_met_0a .nil) b__law_met_1
def F__law_met : Fn := ⟨1, 3, b__law_met⟩
/-- _law_lists(thing); slots thing one -/
def n__law_lists : Nat := 31
def b__law_lists : Ss := .cons (.ret (.ife (.isi (.bor 0) [.tuple]) (.lc [1] (.val (.var 0)) .nil (.call 31 (.cons (.var 1) .nil))) (.var 0))) .nil
def F__law_lists : Fn := ⟨1, 2, b__law_lists⟩
/-- _law_size(thing, facts, depth); slots thing facts depth told arm many -/
def n__law_size : Nat := 32
def b__law_size_0a : Ss := .cons (.ret (.c (.int 0))) .nil
def b__law_size_1a : Ss := .cons (.ret (.ife (.cmp .eq (.bi .len (.cons (.bor 0) .nil)) (.c (.int 1))) (.c (.int 1)) (.c (.int 0)))) .nil
def b__law_size_2a : Ss := .cons (.ret (.ife (.and (.cons (.cmp .eq (.bi .len (.cons (.bor 0) .nil)) (.c (.int 2))) (.cons (.isi (.ix (.bor 0) (.c (.int 1))) [.str]) (.cons (.cmp .in_ (.ix (.bor 0) (.c (.int 1))) (.bor 1)) .nil)))) (.c (.int 1)) (.c (.int 0)))) .nil
def b__law_size_3a : Ss := .cons (.ret (.c (.int 0))) .nil
def b__law_size_5a_1a : Ss := .cons (.ret (.c (.int 0))) .nil
def b__law_size_5a_2 : Ss := .cons (.asg 3 (.bin .add (.bor 3) (.bor 5))) .nil
def b__law_size_5a_1 : Ss := .cons (.ife (.or (.cons (.cmp .eq (.bor 5) (.c (.int 0))) (.cons (.cmp .gt (.bor 3) (.c (.int 60))) .nil))) b__law_size_5a_1a .nil) b__law_size_5a_2
def b__law_size_5a : Ss := .cons (.asg 5 (.call 32 (.cons (.var 4) (.cons (.var 1) (.cons (.bin .add (.bor 2) (.c (.int 1))) .nil))))) b__law_size_5a_1
def b__law_size_6 : Ss := .cons (.ret (.var 3)) .nil
def b__law_size_5 : Ss := .cons (.for_ [4] (.val (.slF (.bor 0) (.c (.int 1)))) b__law_size_5a) b__law_size_6
def b__law_size_4 : Ss := .cons (.asg 3 (.c (.int 1))) b__law_size_5
def b__law_size_3 : Ss := .cons (.ife (.or (.cons (.cmp .nin (.ix (.bor 0) (.c (.int 0))) (.tup (.cons (.c (.str [110, 111, 116])) (.cons (.c (.str [97, 110, 100])) (.cons (.c (.str [111, 114])) .nil))))) (.cons (.cmp .ne (.bi .len (.cons (.bor 0) .nil)) (.ife (.cmp .eq (.ix (.bor 0) (.c (.int 0))) (.c (.str [110, 111, 116]))) (.c (.int 2)) (.c (.int 3)))) .nil))) b__law_size_3a .nil) b__law_size_4
def b__law_size_2 : Ss := .cons (.ife (.cmp .eq (.ix (.bor 0) (.c (.int 0))) (.c (.str [102, 97, 99, 116]))) b__law_size_2a .nil) b__law_size_3
def b__law_size_1 : Ss := .cons (.ife (.cmp .in_ (.ix (.bor 0) (.c (.int 0))) (.tup (.cons (.c (.str [121, 101, 115])) (.cons (.c (.str [110, 111])) .nil)))) b__law_size_1a .nil) b__law_size_2
def b__law_size : Ss := .cons (.ife (.or (.cons (.cmp .gt (.bor 2) (.c (.int 20))) (.cons (.not (.isi (.bor 0) [.tuple])) (.cons (.cmp .eq (.bi .len (.cons (.bor 0) .nil)) (.c (.int 0))) (.cons (.not (.isi (.ix (.bor 0) (.c (.int 0))) [.str])) .nil))))) b__law_size_0a .nil) b__law_size_1
def F__law_size : Fn := ⟨3, 6, b__law_size⟩
/-- _law_wide(many); slots many half -/
def n__law_wide : Nat := 33
def b__law_wide_0a : Ss := .cons (.ret (.tup (.cons (.c (.str [102, 97, 99, 116])) (.cons (.c (.str [112])) .nil)))) .nil
def b__law_wide_2 : Ss := .cons (.ret (.tup (.cons (.c (.str [97, 110, 100])) (.cons (.call 33 (.cons (.var 1) .nil)) (.cons (.call 33 (.cons (.bin .sub (.bin .sub (.bor 0) (.c (.int 1))) (.bor 1)) .nil)) .nil))))) .nil
def b__law_wide_1 : Ss := .cons (.asg 1 (.bin .add (.bin .mul (.bin .fdiv (.bin .sub (.bor 0) (.c (.int 1))) (.c (.int 4))) (.c (.int 2))) (.c (.int 1)))) b__law_wide_2
def b__law_wide : Ss := .cons (.ife (.cmp .lt (.bor 0) (.c (.int 3))) b__law_wide_0a .nil) b__law_wide_1
def F__law_wide : Fn := ⟨1, 2, b__law_wide⟩
/-- _law_high(many); slots many told k -/
def n__law_high : Nat := 34
def b__law_high_1a : Ss := .cons (.asg 1 (.tup (.cons (.c (.str [110, 111, 116])) (.cons (.var 1) .nil)))) .nil
def b__law_high_2 : Ss := .cons (.ret (.var 1)) .nil
def b__law_high_1 : Ss := .cons (.for_ [2] (.r1 (.bor 0)) b__law_high_1a) b__law_high_2
def b__law_high : Ss := .cons (.asg 1 (.tup (.cons (.c (.str [121, 101, 115])) .nil))) b__law_high_1
def F__law_high : Fn := ⟨1, 3, b__law_high⟩
/-- _law_bad_say(source, said); slots source said menu -/
def n__law_bad_say : Nat := 35
def b__law_bad_say_2 : Ss := .cons (.ret (.ix (.bor 2) (.call 25 (.cons (.bor 0) (.cons (.bi .len (.cons (.bor 2) .nil)) .nil))))) .nil
def b__law_bad_say_1 : Ss := .cons (.asg 2 (.bin .add (.bor 2) (.lst (.cons (.tup (.cons (.c (.str [121, 101, 115])) (.cons (.var 1) .nil))) (.cons (.tup (.cons (.c (.str [110, 111, 116])) (.cons (.var 1) (.cons (.var 1) .nil)))) (.cons (.call 34 (.cons (.c (.int 21)) .nil)) (.cons (.call 33 (.cons (.c (.int 61)) .nil)) (.cons (.tup (.cons (.c (.str [102, 97, 99, 116])) (.cons (.c (.str [110, 105, 110, 101, 110, 97, 109, 101, 115])) .nil))) .nil)))))))) b__law_bad_say_2
def b__law_bad_say : Ss := .cons (.asg 2 (.lst (.cons (.tup (.cons (.c (.str [102, 97, 99, 116])) (.cons (.c (.str [87, 101, 116])) .nil))) (.cons (.tup (.cons (.c (.str [110, 111, 116])) .nil)) (.cons (.tup (.cons (.c (.str [97, 110, 100])) (.cons (.var 1) .nil))) (.cons (.tup (.cons (.c (.str [102, 97, 99, 116])) (.cons (.c (.str [112, 97, 115, 115])) .nil))) (.cons (.c (.str [121, 101, 115])) (.cons (.tup (.cons (.var 1) .nil)) (.cons (.tup (.cons (.c (.str [111, 114])) (.cons (.var 1) (.cons (.c .non) .nil)))) (.cons (.tup .nil) .nil)))))))))) b__law_bad_say_1
def F__law_bad_say : Fn := ⟨2, 3, b__law_bad_say⟩
/-- _law_refused(facts, said, view); slots facts said view error -/
def n__law_refused : Nat := 36
def b__law_refused_0a : Ss := .cons (.ret (.tup (.cons (.c (.str [118, 105, 101, 119])) (.cons (.exf 3 0) (.cons (.exis 3 1) (.cons (.exis 3 3) .nil)))))) .nil
def b__law_refused_0b : Ss := .cons (.ret (.tup (.cons (.c (.str [117, 110, 107, 110, 111, 119, 110])) (.cons (.exf 3 3) (.cons (.exis 3 97) (.cons (.exis 3 1) .nil)))))) .nil
def b__law_refused_0c : Ss := .cons (.ret (.tup (.cons (.c (.str [115, 97, 121, 105, 110, 103])) (.cons (.exf 3 0) (.cons (.exis 3 1) (.cons (.exis 3 5) .nil)))))) .nil
def b__law_refused_0d : Ss := .cons (.ret (.tup (.cons (.c (.str [102, 97, 99, 116, 115])) (.cons (.exf 3 0) (.cons (.exis 3 1) (.cons (.exis 3 2) .nil)))))) .nil
def b__law_refused_0e : Ss := .cons (.ex (.call 19 (.cons (.var 0) (.cons (.var 1) (.cons (.var 2) .nil))))) .nil
def b__law_refused_1 : Ss := .cons (.ret (.c .non)) .nil
def b__law_refused : Ss := .cons (.try_ b__law_refused_0e (.cons 4 (some 3) b__law_refused_0d (.cons 3 (some 3) b__law_refused_0c (.cons 7 (some 3) b__law_refused_0b (.cons 5 (some 3) b__law_refused_0a .nil))))) b__law_refused_1
def F__law_refused : Fn := ⟨3, 4, b__law_refused⟩
/-- _law_lots(facts, numbers); slots facts numbers error told view -/
def n__law_lots : Nat := 37
def b__law_lots_0a : Ss := .cons (.ret (.tup (.cons (.c (.str [118, 105, 101, 119])) (.cons (.exf 2 0) .nil)))) .nil
def b__law_lots_0b : Ss := .cons (.ret (.tup (.cons (.c (.str [109, 97, 110, 121])) (.cons (.exf 2 2) .nil)))) .nil
def b__law_lots_0c : Ss := .cons (.asg 3 (.call 23 (.cons (.var 0) (.cons (.var 1) .nil)))) .nil
def b__law_lots_1a : Ss := .cons (.ret (.c (.bl false))) .nil
def b__law_lots_2 : Ss := .cons (.ret (.cmp .eq (.lc [4] (.r1 (.bin .shl (.c (.int 1)) (.bi .len (.cons (.bor 0) .nil)))) (.cons (.call 28 (.cons (.var 0) (.cons (.var 3) (.cons (.var 4) .nil)))) .nil) (.var 4)) (.bi .list (.cons (.bor 1) .nil)))) .nil
def b__law_lots_1 : Ss := .cons (.ife (.inr true (.call 32 (.cons (.var 3) (.cons (.var 0) (.cons (.c (.int 0)) .nil)))) (.c (.int 1)) (.c (.int 61))) b__law_lots_1a .nil) b__law_lots_2
def b__law_lots : Ss := .cons (.try_ b__law_lots_0c (.cons 6 (some 2) b__law_lots_0b (.cons 5 (some 2) b__law_lots_0a .nil))) b__law_lots_1
def F__law_lots : Fn := ⟨2, 5, b__law_lots⟩
/-- law(script); slots script source facts said due view other number lot told bad odd k -/
def n_law : Nat := 38
def b_law_2a : Ss := .cons (.asg 2 (.bi .tuple (.cons (.lc [12] (.r1 (.bi .len (.cons (.bor 2) .nil))) .nil (.ix (.bor 2) (.bin .sub (.bin .sub (.bi .len (.cons (.bor 2) .nil)) (.c (.int 1))) (.bor 12)))) .nil))) .nil
def b_law_4a : Ss := .cons (.asg 3 (.ix (.lst (.cons (.call 33 (.cons (.c (.int 59)) .nil)) (.cons (.tup (.cons (.c (.str [110, 111, 116])) (.cons (.call 33 (.cons (.c (.int 59)) .nil)) .nil))) (.cons (.call 34 (.cons (.c (.int 20)) .nil)) .nil)))) (.call 25 (.cons (.bor 1) (.cons (.c (.int 3)) .nil))))) .nil
def b_law_6a : Ss := .cons (.ret (.c (.bl false))) .nil
def b_law_7a : Ss := .cons (.ret (.c (.bl false))) .nil
def b_law_8a_0a : Ss := .cons (.ret (.c (.bl false))) .nil
def b_law_8a : Ss := .cons (.ife (.cmp .ne (.call 19 (.cons (.var 2) (.cons (.var 3) (.cons (.var 5) .nil)))) (.cmp .in_ (.bor 5) (.bor 4))) b_law_8a_0a .nil) .nil
def b_law_13a : Ss := .cons (.ret (.c (.bl false))) .nil
def b_law_14a : Ss := .cons (.ret (.c (.bl false))) .nil
def b_law_15a : Ss := .cons (.ret (.c (.bl false))) .nil
def b_law_19a : Ss := .cons (.ret (.c (.bl false))) .nil
def b_law_20a : Ss := .cons (.ret (.c (.bl false))) .nil
def b_law_21a : Ss := .cons (.ret (.c (.bl false))) .nil
def b_law_22 : Ss := .cons (.ret (.cmp .eq (.call 36 (.cons (.var 2) (.cons (.var 3) (.cons (.var 5) .nil)))) (.tup (.cons (.c (.str [118, 105, 101, 119])) (.cons (.var 5) (.cons (.c (.bl true)) (.cons (.c (.bl false)) .nil))))))) .nil
def b_law_21 : Ss := .cons (.ife (.cmp .ne (.call 36 (.cons (.var 2) (.cons (.tup (.cons (.c (.str [111, 114])) (.cons (.tup (.cons (.c (.str [121, 101, 115])) .nil)) (.cons (.tup (.cons (.c (.str [102, 97, 99, 116])) (.cons (.c (.str [122, 122])) .nil))) .nil)))) (.cons (.var 5) .nil)))) (.tup (.cons (.c (.str [117, 110, 107, 110, 111, 119, 110])) (.cons (.c (.str [122, 122])) (.cons (.c (.bl true)) (.cons (.c (.bl false)) .nil)))))) b_law_21a .nil) b_law_22
def b_law_20 : Ss := .cons (.ife (.cmp .ne (.call 36 (.cons (.var 2) (.cons (.var 10) (.cons (.var 5) .nil)))) (.tup (.cons (.c (.str [115, 97, 121, 105, 110, 103])) (.cons (.var 10) (.cons (.c (.bl true)) (.cons (.c (.bl false)) .nil)))))) b_law_20a .nil) b_law_21
def b_law_19 : Ss := .cons (.ife (.cmp .ne (.call 36 (.cons (.var 11) (.cons (.var 10) (.cons (.var 5) .nil)))) (.tup (.cons (.c (.str [102, 97, 99, 116, 115])) (.cons (.var 11) (.cons (.c (.bl true)) (.cons (.c (.bl false)) .nil)))))) b_law_19a .nil) b_law_20
def b_law_18 : Ss := .cons (.asg 11 (.ix (.lst (.cons (.tup (.cons (.c (.str [112])) (.cons (.c (.str [112])) .nil))) (.cons (.c (.str [112])) (.cons (.tup (.cons (.c (.str [112])) (.cons (.c (.str [111, 114])) .nil))) (.cons (.tup (.cons (.c (.str [112])) (.cons (.c (.str [119, 101, 116])) (.cons (.c (.str [113])) (.cons (.c (.str [100, 117, 115, 107])) (.cons (.c (.str [97])) (.cons (.c (.str [98])) .nil))))))) (.cons (.c .non) .nil)))))) (.call 25 (.cons (.bor 6) (.cons (.c (.int 5)) .nil))))) b_law_19
def b_law_17 : Ss := .cons (.asg 5 (.ix (.lst (.cons (.neg (.c (.int 1))) (.cons (.bin .shl (.c (.int 1)) (.bi .len (.cons (.bor 2) .nil))) (.cons (.c (.bl true)) (.cons (.c .non) .nil))))) (.call 25 (.cons (.bor 6) (.cons (.c (.int 4)) .nil))))) b_law_18
def b_law_16 : Ss := .cons (.asg 10 (.call 35 (.cons (.bor 6) (.cons (.var 3) .nil)))) b_law_17
def b_law_15 : Ss := .cons (.ife (.and (.cons (.inr false (.bi .len (.cons (.bor 2) .nil)) (.c (.int 1)) (.c (.int 5))) (.cons (.cmp .ne (.call 37 (.cons (.var 2) (.cons (.tup (.cons (.c (.int 1)) (.cons (.c (.int 0)) .nil))) .nil))) (.tup (.cons (.c (.str [118, 105, 101, 119])) (.cons (.tup (.cons (.c (.int 1)) (.cons (.c (.int 0)) .nil))) .nil)))) .nil))) b_law_15a .nil) b_law_16
def b_law_14 : Ss := .cons (.ife (.and (.cons (.cmp .lt (.bi .len (.cons (.bor 2) .nil)) (.c (.int 5))) (.cons (.cmp .ne (.call 37 (.cons (.var 2) (.cons (.lst (.cons (.bin .shl (.c (.int 1)) (.bi .len (.cons (.bor 2) .nil))) .nil)) .nil))) (.tup (.cons (.c (.str [118, 105, 101, 119])) (.cons (.lst (.cons (.bin .shl (.c (.int 1)) (.bi .len (.cons (.bor 2) .nil))) .nil)) .nil)))) .nil))) b_law_14a .nil) b_law_15
def b_law_13 : Ss := .cons (.ife (.or (.cons (.and (.cons (.cmp .nisN (.bor 9) (.c (.bl true))) (.cons (.cmp .ne (.bor 9) (.tup (.cons (.c (.str [109, 97, 110, 121])) (.cons (.c (.str [102, 97, 99, 116])) .nil)))) .nil))) (.cons (.cmp .ne (.cmp .isN (.bor 9) (.c (.bl true))) (.cmp .lt (.bi .len (.cons (.bor 2) .nil)) (.c (.int 5)))) .nil))) b_law_13a .nil) b_law_14
def b_law_12 : Ss := .cons (.asg 9 (.call 37 (.cons (.var 2) (.cons (.bi .tuple (.cons (.bor 8) .nil)) .nil)))) b_law_13
def b_law_11 : Ss := .cons (.asg 8 (.call 29 (.cons (.var 7) .nil))) b_law_12
def b_law_10 : Ss := .cons (.asg 7 (.call 25 (.cons (.bor 6) (.cons (.bin .shl (.c (.int 1)) (.bin .shl (.c (.int 1)) (.bi .len (.cons (.bor 2) .nil)))) .nil)))) b_law_11
def b_law_9 : Ss := .cons (.asg 6 (.call 24 (.cons (.var 0) (.cons (.c (.int 1)) .nil)))) b_law_10
def b_law_8 : Ss := .cons (.for_ [5] (.r1 (.bin .shl (.c (.int 1)) (.bi .len (.cons (.bor 2) .nil)))) b_law_8a) b_law_9
def b_law_7 : Ss := .cons (.ife (.or (.cons (.cmp .ne (.call 13 (.cons (.var 3) .nil)) (.bi .tuple (.cons (.sset (.call 30 (.cons (.var 3) .nil))) .nil))) (.cons (.cmp .ne (.call 11 (.cons (.call 31 (.cons (.var 3) .nil)) .nil)) (.bor 3)) .nil))) b_law_7a .nil) b_law_8
def b_law_6 : Ss := .cons (.ife (.or (.cons (.cmp .ne (.call 20 (.cons (.var 2) (.cons (.var 3) .nil))) (.bi .tuple (.cons (.bor 4) .nil))) (.cons (.cmp .ne (.call 20 (.cons (.bi .list (.cons (.bor 2) .nil)) (.cons (.call 31 (.cons (.var 3) .nil)) .nil))) (.bi .tuple (.cons (.bor 4) .nil))) .nil))) b_law_6a .nil) b_law_7
def b_law_5 : Ss := .cons (.asg 4 (.lc [5] (.r1 (.bin .shl (.c (.int 1)) (.bi .len (.cons (.bor 2) .nil)))) (.cons (.call 28 (.cons (.var 2) (.cons (.var 3) (.cons (.var 5) .nil)))) .nil) (.var 5))) b_law_6
def b_law_4 : Ss := .cons (.ife (.and (.cons (.cmp .in_ (.c (.str [112])) (.bor 2)) (.cons (.cmp .eq (.call 25 (.cons (.bor 1) (.cons (.c (.int 9)) .nil))) (.c (.int 4))) .nil))) b_law_4a .nil) b_law_5
def b_law_3 : Ss := .cons (.asg 3 (.call 26 (.cons (.bor 1) (.cons (.var 2) (.cons (.call 25 (.cons (.bor 1) (.cons (.c (.int 5)) .nil))) .nil))))) b_law_4
def b_law_2 : Ss := .cons (.ife (.cmp .eq (.call 25 (.cons (.bor 1) (.cons (.c (.int 2)) .nil))) (.c (.int 1))) b_law_2a .nil) b_law_3
def b_law_1 : Ss := .cons (.asg 2 (.slT (.tup (.cons (.c (.str [112])) (.cons (.c (.str [119, 101, 116])) (.cons (.c (.str [113])) (.cons (.c (.str [100, 117, 115, 107])) (.cons (.c (.str [97])) .nil)))))) (.call 25 (.cons (.bor 1) (.cons (.c (.int 6)) .nil))))) b_law_2
def b_law : Ss := .cons (.asg 1 (.call 24 (.cons (.var 0) (.cons (.c (.int 0)) .nil)))) b_law_1
def F_law : Fn := ⟨1, 13, b_law⟩
def prog : Nat → Option Fn
  | 0 => some F_is_integer
  | 1 => some F_is_listed
  | 2 => some F_is_letters
  | 3 => some F_is_name
  | 4 => some F_is_names
  | 5 => some F_checked_facts
  | 6 => some F_is_ascending
  | 7 => some F_mask_of
  | 8 => some F_bits_of
  | 9 => some F_told_saying
  | 10 => some F_saying_or_none
  | 11 => some F_checked_saying
  | 12 => some F_facts_met
  | 13 => some F_facts_of
  | 14 => some F_check_known
  | 15 => some F_fact_mask
  | 16 => some F_view_mask
  | 17 => some F_mask_over
  | 18 => some F_check_view
  | 19 => some F_holds_in
  | 20 => some F_views_of
  | 21 => some F_either_of
  | 22 => some F_saying_for
  | 23 => some F_saying_of
  | 24 => some F__law_source
  | 25 => some F__law_pick
  | 26 => some F__law_say
  | 27 => some F__law_mask
  | 28 => some F__law_true
  | 29 => some F__law_bits
  | 30 => some F__law_met
  | 31 => some F__law_lists
  | 32 => some F__law_size
  | 33 => some F__law_wide
  | 34 => some F__law_high
  | 35 => some F__law_bad_say
  | 36 => some F__law_refused
  | 37 => some F__law_lots
  | 38 => some F_law
  | _ => none
def glob : Nat → Option D
  | 0 => some (.tup [(.str [112, 97, 115, 115]), (.str [108, 111, 115, 101]), (.str [119, 105, 110]), (.str [110, 101, 101, 100]), (.str [103, 114, 97, 110, 116]), (.str [105, 102]), (.str [116, 104, 101, 110]), (.str [101, 108, 115, 101]), (.str [119, 104, 105, 108, 101]), (.str [100, 111]), (.str [109, 111, 114, 101]), (.str [101, 97, 99, 104]), (.str [101, 110, 100]), (.str [110, 111, 116]), (.str [97, 110, 100]), (.str [111, 114]), (.str [121, 101, 115]), (.str [110, 111]), (.str [98, 114, 105, 110, 103, 115]), (.str [107, 101, 101, 112, 115]), (.str [111, 118, 101, 114]), (.str [98, 121]), (.str [115, 111]), (.str [116, 111]), (.str [102, 97, 99, 116, 115]), (.str [100, 101, 101, 100]), (.str [115, 116, 97, 116, 101]), (.str [110, 101, 118, 101, 114]), (.str [99, 97, 110]), (.str [99, 97, 110, 110, 111, 116]), (.str [111, 110, 108, 121]), (.str [110, 111, 110, 101])]) -- WORDS
  | 1 => some (.int 5) -- MOST_FACTS
  | 2 => some (.int 8) -- LONGEST_NAME
  | 3 => some (.int 60) -- MOST_TUPLES
  | 4 => some (.int 20) -- DEEPEST
  | 5 => some (.int 4) -- MOST_SAID
  | 6 => some (.dct [[121, 101, 115], [110, 111], [102, 97, 99, 116], [110, 111, 116], [97, 110, 100], [111, 114]] [(.int 0), (.int 0), (.int 1), (.int 1), (.int 2), (.int 2)]) -- ARMS
  | _ => none
def mo : Mo := ⟨glob, fun a b => [(0, 0), (1, 1), (1, 0), (2, 2), (2, 0), (3, 3), (3, 1), (3, 0), (4, 4), (4, 1), (4, 0), (5, 5), (5, 1), (5, 0), (6, 6), (6, 0), (7, 7), (7, 0), (0, 97), (1, 97), (2, 97), (3, 97), (4, 97), (5, 97), (6, 97), (7, 97)].contains (a, b), fun a => [99, 0, 1, 0, 0, 0, 2, 3].getD a 98, fun a => [9, 0, 1, 0, 0, 0, 2, 2].getD a 9⟩
end K01
end
section
set_option linter.all false
namespace Cz
variable {M : Mo} {C : Nat → List Arg → Rc}
theorem ss_nx {s : S} {ss : Ss} {ρ ρ1 : Env} (h : evS M C s ρ = .nx ρ1) : evSs M C (.cons s ss) ρ = evSs M C ss ρ1 := by
  rw [evSs, h]
theorem ss_rt {s : S} {ss : Ss} {ρ ρ1 : Env} {v : Val} (h : evS M C s ρ = .rt v ρ1) : evSs M C (.cons s ss) ρ = .rt v ρ1 := by
  rw [evSs, h]
theorem ss_ex {s : S} {ss : Ss} {ρ ρ1 : Env} {x : Exn} (h : evS M C s ρ = .ex x ρ1) : evSs M C (.cons s ss) ρ = .ex x ρ1 := by
  rw [evSs, h]
/-- a turn of a for -/
def turn (M : Mo) (C : Nat → List Arg → Rc) (t : List Nat) (body : Ss) (ρ : Env) (d : D) : Rs :=
  match bindT ρ t d with
  | some ρ2 => evSs M C body ρ2
  | none => .bad
theorem for_ev {t : List Nat} {it : It} {body : Ss} {ρ ρ1 : Env} {ds : List D} (h : evIt M C it ρ = some (ds, ρ1)) : evS M C (.for_ t it body) ρ = forTurns (turn M C t body) ρ1 ds := by
  rw [evS, h]
  rfl
theorem ft_nil {turn : Env → D → Rs} {ρ : Env} : forTurns turn ρ [] = .nx ρ := rfl
theorem ft_nx {turn : Env → D → Rs} {ρ ρ1 : Env} {d : D} {r : List D} (h : turn ρ d = .nx ρ1) : forTurns turn ρ (d :: r) = forTurns turn ρ1 r := by
  rw [forTurns, h]
theorem ft_ct {turn : Env → D → Rs} {ρ ρ1 : Env} {d : D} {r : List D} (h : turn ρ d = .ct ρ1) : forTurns turn ρ (d :: r) = forTurns turn ρ1 r := by
  rw [forTurns, h]
theorem ft_ex {turn : Env → D → Rs} {ρ ρ1 : Env} {x : Exn} {d : D} {r : List D} (h : turn ρ d = .ex x ρ1) : forTurns turn ρ (d :: r) = .ex x ρ1 := by
  rw [forTurns, h]
/-- all turns go on -/
def Goes (turn : Env → D → Rs) : Env → List D → Env → Prop
  | ρ, [], ρ1 => ρ = ρ1
  | ρ, d :: r, ρ1 => ∃ ρ2, (turn ρ d = .nx ρ2 ∨ turn ρ d = .ct ρ2) ∧ Goes turn ρ2 r ρ1
theorem Goes.app {turn : Env → D → Rs} : ∀ {a b : List D} {ρ ρ1 ρ2 : Env}, Goes turn ρ a ρ1 → Goes turn ρ1 b ρ2 → Goes turn ρ (a ++ b) ρ2
  | [], _, _, _, _, h, g => by
    cases h
    exact g
  | _ :: _, _, _, _, _, ⟨ρ3, e, h⟩, g => ⟨ρ3, e, Goes.app h g⟩
theorem Goes.ft {turn : Env → D → Rs} : ∀ {a : List D} {ρ ρ1 : Env}, Goes turn ρ a ρ1 → forTurns turn ρ a = .nx ρ1
  | [], _, _, h => by
    cases h
    rfl
  | d :: r, ρ, ρ1, ⟨ρ2, e, h⟩ => by
    rcases e with e | e
    · rw [ft_nx e]
      exact Goes.ft h
    · rw [ft_ct e]
      exact Goes.ft h
/-- a def's run -/
theorem run_rt {F : Fn} {as : List Arg} {ρ : Env} {v : Val} {os : List (List D)} (hl : as.length = F.np) (h : evSs M C F.body (startEnv as F.ns) = .rt v ρ) (hv : ∀ i, v ≠ .b i) (ho : outsOf as ρ = some os) : runFn M C F as = .ok v os := by
  unfold runFn
  rw [if_pos hl, h]
  cases v with
  | p d => simp only [ho]
  | f xs => simp only [ho]
  | b i => exact absurd rfl (hv i)
theorem run_ex {F : Fn} {as : List Arg} {ρ : Env} {x : Exn} {os : List (List D)} (hl : as.length = F.np) (h : evSs M C F.body (startEnv as F.ns) = .ex x ρ) (ho : outsOf as ρ = some os) : runFn M C F as = .ex x os := by
  unfold runFn
  rw [if_pos hl, h]
  simp only [ho]
theorem run0 {F : Fn} {as : List Arg} {ρ0 ρ : Env} {v : Val} {os : List (List D)} (h : evSs M C F.body ρ0 = .rt v ρ) (hl : as.length = F.np) (hs : startEnv as F.ns = ρ0) (hv : ∀ i, v ≠ .b i) (ho : outsOf as ρ = some os) : runFn M C F as = .ok v os :=
  run_rt hl (by rw [hs]; exact h) hv ho
theorem run0x {F : Fn} {as : List Arg} {ρ0 ρ : Env} {x : Exn} {os : List (List D)} (h : evSs M C F.body ρ0 = .ex x ρ) (hl : as.length = F.np) (hs : startEnv as F.ns = ρ0) (ho : outsOf as ρ = some os) : runFn M C F as = .ex x os :=
  run_ex hl (by rw [hs]; exact h) ho
/-! ### rules -/
theorem ret_ev {e : E} {ρ ρ1 : Env} {v : Val} (h : evE M C e ρ = .ok v ρ1) (hv : ∀ i, v ≠ .b i) (he : ∀ i, e ≠ .var i) : evS M C (.ret e) ρ = .rt v ρ1 := by
  cases e <;> (first | exact absurd rfl (he _) | (unfold evS; simp only []; rw [h]; cases v <;> first | rfl | exact absurd rfl (hv _)))
theorem asg_ev {e : E} {i : Nat} {ρ ρ1 ρ2 : Env} {v : Val} (h : evE M C e ρ = .ok v ρ1) (hp : put ρ1 i v = some ρ2) : evS M C (.asg i e) ρ = .nx ρ2 := by
  rw [evS, h]
  simp only [hp]
theorem asg_ex {e : E} {i : Nat} {ρ ρ1 : Env} {x : Exn} (h : evE M C e ρ = .ex x ρ1) : evS M C (.asg i e) ρ = .ex x ρ1 := by
  rw [evS, h]
theorem bin_ev {o : Bop} {a b : E} {ρ ρ1 ρ2 : Env} {v w r : Val} {x y : D} (ha : evE M C a ρ = .ok v ρ1) (hb : evE M C b ρ1 = .ok w ρ2) (hx : res ρ2 (fz v) = some x) (hy : res ρ2 (fz w) = some y) (h : binD o x y = some r) : evE M C (.bin o a b) ρ = .ok r ρ2 := by
  rw [evE, ha]
  simp only [hb, hx, hy, h]
theorem call_ev {f : Nat} {es : Es} {ρ ρ1 ρ2 : Env} {vs : List Val} {as : List Arg} {v : Val} {outs : List (List D)} (h1 : evEs M C es ρ = .ok vs ρ1) (h2 : args ρ1 vs = some as) (h3 : lentOnce vs = true) (h4 : C f as = .ok v outs) (h5 : back ρ1 vs outs = some ρ2) : evE M C (.call f es) ρ = .ok v ρ2 := by
  rw [evE, h1]
  simp only [h2, h3, h4, h5, if_true]
theorem call_ex {f : Nat} {es : Es} {ρ ρ1 ρ2 : Env} {vs : List Val} {as : List Arg} {x : Exn} {outs : List (List D)} (h1 : evEs M C es ρ = .ok vs ρ1) (h2 : args ρ1 vs = some as) (h3 : lentOnce vs = true) (h4 : C f as = .ex x outs) (h5 : back ρ1 vs outs = some ρ2) : evE M C (.call f es) ρ = .ex x ρ2 := by
  rw [evE, h1]
  simp only [h2, h3, h4, h5, if_true]
theorem es_cons {e : E} {es : Es} {ρ ρ1 ρ2 : Env} {v : Val} {vs : List Val} (h1 : evE M C e ρ = .ok v ρ1) (h2 : evEs M C es ρ1 = .ok vs ρ2) : evEs M C (.cons e es) ρ = .ok (fz v :: vs) ρ2 := by
  rw [evEs, h1]
  simp only [h2]
theorem if_ev {t : E} {a b : Ss} {ρ ρ1 : Env} {v : Val} {k : Bool} (h : evE M C t ρ = .ok v ρ1) (hk : (res ρ1 (fz v)).bind truth = some k) : evS M C (.ife t a b) ρ = if k then evSs M C a ρ1 else evSs M C b ρ1 := by
  rw [evS, h]
  simp only [hk]
  cases k <;> rfl
/-- a turn of a comprehension -/
def lcf (M : Mo) (C : Nat → List Arg → Rc) (t : List Nat) (cs : Es) (e : E) (ρ : Env) (d : D) : Option (Option D × Env) :=
  match bindT (wipe ρ t) t d with
  | some ρ2 => match evAnd M C cs ρ2 with
    | .ok v ρ3 => match (res ρ3 (fz v)).bind truth with
      | some true => match evE M C e ρ3 with
        | .ok w ρ4 => match fz w with
          | .p x => some (some x, ρ4)
          | _ => none
        | _ => none
      | some false => some (none, ρ3)
      | none => none
    | _ => none
  | none => none
theorem lc_ev {t : List Nat} {it : It} {cs : Es} {e : E} {ρ ρ1 ρ2 : Env} {ds xs : List D} (h1 : evIt M C it ρ = some (ds, ρ1)) (h2 : plainAt ρ1 t = true) (h3 : lcTurns (lcf M C t cs e) ρ1 ds = some (xs, ρ2)) : evE M C (.lc t it cs e) ρ = .ok (.f xs) (t.foldl (fun ρ i => ρ.set i ((ρ1[i]?).getD .no)) ρ2) := by
  rw [evE, h1]
  simp only [h2, if_true]
  refine Eq.trans (b := match lcTurns (lcf M C t cs e) ρ1 ds with
    | some (xs, ρ2) => Re.ok (.f xs) (t.foldl (fun ρ i => ρ.set i ((ρ1[i]?).getD .no)) ρ2)
    | none => .bad) rfl ?_
  rw [h3]
def lci (M : Mo) (C : Nat → List Arg → Rc) (t2 : List Nat) (e : E) (ρ : Env) (d : D) : Option (Option D × Env) :=
  match bindT (wipe ρ t2) t2 d with
  | some ρ2 => match evE M C e ρ2 with
    | .ok w ρ4 => match fz w with
      | .p x => some (some x, ρ4)
      | _ => none
    | _ => none
  | none => none
def lco (M : Mo) (C : Nat → List Arg → Rc) (t t2 : List Nat) (it2 : It) (e : E) (ρ : Env) (d : D) : Option (List D × Env) :=
  match bindT (wipe ρ (t ++ t2)) t d with
  | some ρ2 => match evIt M C it2 ρ2 with
    | some (es, ρ3) => lcTurns (lci M C t2 e) ρ3 es
    | none => none
  | none => none
theorem lc2_ev {t t2 : List Nat} {it it2 : It} {e : E} {ρ ρ1 ρ2 : Env} {ds xs : List D} (h1 : evIt M C it ρ = some (ds, ρ1)) (h2 : plainAt ρ1 (t ++ t2) = true) (h3 : lcTurns2 (lco M C t t2 it2 e) ρ1 ds = some (xs, ρ2)) (h4 : xs.length ≤ 100000) : evE M C (.lc2 t it t2 it2 e) ρ = .ok (.f xs) ((t ++ t2).foldl (fun ρ i => ρ.set i ((ρ1[i]?).getD .no)) ρ2) := by
  rw [evE, h1]
  simp only [h2, if_true]
  refine Eq.trans (b := match lcTurns2 (lco M C t t2 it2 e) ρ1 ds with
    | some (xs, ρ2) => if 100000 < xs.length then .bad else Re.ok (.f xs) ((t ++ t2).foldl (fun ρ i => ρ.set i ((ρ1[i]?).getD .no)) ρ2)
    | none => .bad) rfl ?_
  rw [h3]
  simp only
  rw [if_neg (by omega)]
theorem lco_ev {t t2 : List Nat} {it2 : It} {e : E} {ρ ρ2 ρ3 ρ4 : Env} {d : D} {es xs : List D} (h1 : bindT (wipe ρ (t ++ t2)) t d = some ρ2) (h2 : evIt M C it2 ρ2 = some (es, ρ3)) (h3 : lcTurns (lci M C t2 e) ρ3 es = some (xs, ρ4)) : lco M C t t2 it2 e ρ d = some (xs, ρ4) := by
  unfold lco
  rw [h1]
  simp only [h2, h3]
theorem l2_nil {turn : Env → D → Option (List D × Env)} {ρ : Env} : lcTurns2 turn ρ [] = some ([], ρ) := rfl
theorem l2_cons {turn : Env → D → Option (List D × Env)} {ρ ρ1 ρ2 : Env} {d : D} {r xs ys : List D} (h : turn ρ d = some (xs, ρ1)) (h2 : lcTurns2 turn ρ1 r = some (ys, ρ2)) : lcTurns2 turn ρ (d :: r) = some (xs ++ ys, ρ2) := by
  rw [lcTurns2, h]
  simp only [h2, Option.map_some]
theorem lc_map {f : Env → D → Option (Option D × Env)} (P : Env → Prop) (g : D → D) : ∀ (ds : List D) (ρ : Env), P ρ → (∀ d ∈ ds, ∀ ρ, P ρ → ∃ ρ', f ρ d = some (some (g d), ρ') ∧ P ρ') → ∃ ρ', lcTurns f ρ ds = some (ds.map g, ρ') ∧ P ρ'
  | [], ρ, h, _ => ⟨ρ, rfl, h⟩
  | d :: r, ρ, h, st => by
    obtain ⟨ρ1, e1, h1⟩ := st d (List.mem_cons_self) ρ h
    obtain ⟨ρ2, e2, h2⟩ := lc_map P g r ρ1 h1 fun d' m => st d' (List.mem_cons_of_mem _ m)
    refine ⟨ρ2, ?_, h2⟩
    rw [lcTurns, e1]
    simp only [e2, Option.map_some, List.map_cons]
theorem it_call {e : E} {ρ ρ1 : Env} {v : Val} {d : D} {ds : List D} (h : evE M C e ρ = .ok v ρ1) (hf : fz v = .p d) (hd : itemsOf d = some ds) : evIt M C (.val e) ρ = some (ds, ρ1) := by
  rw [evIt, h]
  simp only [hf, hd, Option.map_some]
/-- may be stored to -/
def fr : Sl → Bool
  | .own true _ => false
  | _ => true
theorem free_fr {ρ : Env} {i : Nat} {s : Sl} (h : ρ[i]? = some s) (f : fr s = true) : free ρ i = true := by
  unfold free
  rw [h]
  cases s with
  | own l xs => cases l <;> first | rfl | cases f
  | _ => rfl
theorem put_p {ρ : Env} {i : Nat} {s : Sl} {d : D} (h : ρ[i]? = some s) (f : fr s = true) : put ρ i (.p d) = some (ρ.set i (.d d)) := by
  unfold put
  rw [if_pos (free_fr h f)]
theorem put_f {ρ : Env} {i : Nat} {s : Sl} {xs : List D} (h : ρ[i]? = some s) (f : fr s = true) : put ρ i (.f xs) = some (ρ.set i (.own false xs)) := by
  unfold put
  rw [if_pos (free_fr h f)]
theorem bind1 {ρ : Env} {i : Nat} {s : Sl} {d : D} (h : ρ[i]? = some s) (f : fr s = true) : bindT ρ [i] d = some (ρ.set i (.d d)) := by
  unfold bindT
  exact put_p h f
theorem bind2 {ρ : Env} {i j : Nat} {s r : Sl} {c d : D} (h : ρ[i]? = some s) (f : fr s = true) (h2 : (ρ.set i (.d c))[j]? = some r) (f2 : fr r = true) : bindT ρ [i, j] (.tup [c, d]) = some ((ρ.set i (.d c)).set j (.d d)) := by
  unfold bindT
  simp only [putAll, put_p h f, Option.bind_some, put_p h2 f2]
theorem turn_ev {t : List Nat} {body : Ss} {ρ ρ2 : Env} {d : D} {r : Rs} (h : bindT ρ t d = some ρ2) (g : evSs M C body ρ2 = r) : turn M C t body ρ d = r := by
  unfold turn
  rw [h]
  exact g
/-- at the first place -/
theorem item0 (a : D) (r : List D) : item (.tup (a :: r)) (.int 0) = some a ∧ item (.lst (a :: r)) (.int 0) = some a := by
  have : pix (r.length + 1) 0 = some 0 := by
    unfold pix
    rw [if_pos (by decide), if_pos (by omega)]
    rfl
  constructor <;> simp [item, this]
theorem pix_nat {n i : Nat} (h : i < n) : pix n (i : Int) = some i := by
  unfold pix
  rw [if_pos (by omega), if_pos (by omega), Int.toNat_natCast]
theorem ix_ev {a b : E} {ρ ρ1 ρ2 : Env} {v w : Val} {x y r : D} (ha : evE M C a ρ = .ok v ρ1) (hb : evE M C b ρ1 = .ok w ρ2) (hx : res ρ2 (fz v) = some x) (hy : res ρ2 (fz w) = some y) (h : item x y = some r) : evE M C (.ix a b) ρ = .ok (.p r) ρ2 := by
  rw [evE, ha]
  simp only [hb, hx, hy, h]
theorem slF_ev {a b : E} {ρ ρ1 ρ2 : Env} {v w r : Val} {x : D} {i : Int} (ha : evE M C a ρ = .ok v ρ1) (hb : evE M C b ρ1 = .ok w ρ2) (hx : res ρ2 (fz v) = some x) (hy : res ρ2 (fz w) = some (.int i)) (h : slice x (some i) none = some r) : evE M C (.slF a b) ρ = .ok r ρ2 := by
  rw [evE, ha]
  simp only [hb, hx, hy, h]
theorem cut_from (a : D) (b c : List D) : cut (a :: (b ++ c)) (some ((a :: b).length : Int)) none = c := by
  have h : six (a :: (b ++ c)).length 0 (some ((a :: b).length : Int)) = (a :: b).length := by
    have : ¬ (((a :: b).length : Int) < 0) := by omega
    unfold six
    simp only []
    rw [if_neg this, Int.toNat_natCast]
    simp only [List.length_cons, List.length_append]
    omega
  unfold cut
  rw [h, show a :: (b ++ c) = (a :: b) ++ c from rfl, List.drop_left]
  simp only [six, List.length_append]
  rw [show (a :: b).length + c.length - (a :: b).length = c.length by omega, List.take_length]
theorem cut1 (a : D) (c : List D) : cut (a :: c) (some 1) none = c := cut_from a [] c
theorem cat_ev {o : Bop} {a b : E} {ρ ρ1 ρ2 : Env} {v w : Val} {x y : List D} (ha : evE M C a ρ = .ok v ρ1) (hb : evE M C b ρ1 = .ok w ρ2) (hx : res ρ2 (fz v) = some (.lst x)) (hy : res ρ2 (fz w) = some (.lst y)) (ho : o = .add) (h : x.length + y.length ≤ 100000) : evE M C (.bin o a b) ρ = .ok (.f (x ++ y)) ρ2 := by
  subst ho
  refine bin_ev ha hb hx hy ?_
  unfold binD
  simp only
  rw [if_pos h]
end Cz
end
section
set_option linter.all false
set_option maxRecDepth 100000
set_option maxHeartbeats 4000000
/-! of A2 -/
section
namespace Cz
/-- a for whose turns all go on, told by an invariant -/
theorem for_go {turn : Env → D → Rs} (I : Nat → Env → Prop) : ∀ (ds : List D) (k : Nat) (ρ : Env), I k ρ → (∀ i d ρ, ds[i]? = some d → I (k + i) ρ → ∃ ρ', (turn ρ d = .nx ρ' ∨ turn ρ d = .ct ρ') ∧ I (k + i + 1) ρ') → ∃ ρ', forTurns turn ρ ds = .nx ρ' ∧ I (k + ds.length) ρ'
  | [], k, ρ, h, _ => ⟨ρ, by unfold forTurns; rfl, h⟩
  | d :: ds, k, ρ, h, st => by
    obtain ⟨ρ1, e, h1⟩ := st 0 d ρ rfl h
    obtain ⟨ρ2, e2, h2⟩ := for_go I ds (k + 1) ρ1 h1 fun i d' ρ' hi hI => by
      have := st (i + 1) d' ρ' (by simpa using hi) (by rw [show k + (i + 1) = k + 1 + i by omega]; exact hI)
      rw [show k + (i + 1) + 1 = k + 1 + i + 1 by omega] at this
      exact this
    refine ⟨ρ2, ?_, by rw [List.length_cons, show k + (ds.length + 1) = k + 1 + ds.length by omega]; exact h2⟩
    unfold forTurns
    rcases e with e | e <;> (rw [e]; exact e2)
end Cz
end
/-! of B5 -/
section
namespace Cz
variable {M : Mo} {C : Nat → List Arg → Rc}
theorem ifE_ev {t a b : E} {ρ ρ1 : Env} {v : Val} {k : Bool} (h : evE M C t ρ = .ok v ρ1) (hk : (res ρ1 (fz v)).bind truth = some k) : evE M C (.ife t a b) ρ = if k then evE M C a ρ1 else evE M C b ρ1 := by
  rw [evE, h]
  simp only [hk]
  cases k <;> rfl
theorem and2_ev {a b : E} {ρ ρ1 : Env} {x y : Bool} (ha : evE M C a ρ = .ok (.p (.bl x)) ρ1) (hb : evE M C b ρ1 = .ok (.p (.bl y)) ρ1) : evE M C (.and (.cons a (.cons b .nil))) ρ = .ok (.p (.bl (x && y))) ρ1 := by
  rw [evE, evAnd, ha]
  simp only [fz, res, Option.bind_some, truth]
  cases x
  · rfl
  · simp only [evAnd, hb, Bool.true_and]
theorem len_ev {a : E} {ρ ρ1 : Env} {v : Val} {d : D} {r : Val} (ha : evE M C a ρ = .ok v ρ1) (hx : res ρ1 (fz v) = some d) (h : biD .len [d] = some r) : evE M C (.bi .len (.cons a .nil)) ρ = .ok r ρ1 := by
  rw [evE, evEs, ha]
  simp only [evEs, ress, hx, h]
theorem asgIx_ev {i : Nat} {k e : E} {ρ ρ1 ρ2 : Env} {v : Val} {d : D} {j : Int} {l0 l : Bool} {ys xs : List D} {n : Nat} (h : evE M C e ρ = .ok v ρ1) (hv : fz v = .p d) (h1 : ρ1[i]? = some (.own l0 ys)) (hk : evE M C k ρ1 = .ok (.p (.int j)) ρ2) (h2 : ρ2[i]? = some (.own l xs)) (hj : pix xs.length j = some n) : evS M C (.asgIx i k e) ρ = .nx (ρ2.set i (.own l (xs.set n d))) := by
  rw [evS, h]
  simp only [hv, h1, hk, h2, hj]
theorem enumFrom_app : ∀ (a b : List D) (k : Nat), enumFrom k (a ++ b) = enumFrom k a ++ enumFrom (k + a.length) b
  | [], b, k => rfl
  | x :: a, b, k => by
    simp only [List.cons_append, enumFrom, enumFrom_app a b (k + 1), List.length_cons]
    rw [show k + 1 + a.length = k + (a.length + 1) by omega]
end Cz
end
/-! of B6 -/
section
namespace Cz
theorem set_get {l : List D} {i j : Nat} {v : D} (h : i < l.length) : (l.set i v)[j]? = if j = i then some v else l[j]? := by
  rw [List.getElem?_set]
  by_cases e : i = j
  · subst e
    simp [h]
  · rw [if_neg e, if_neg (fun q => e q.symm)]
end Cz
end
/-! of B8 -/
section
namespace Cz
theorem depsLe_mem : ∀ {xs : List D} {n : Nat}, depsLe n xs = true → ∀ x ∈ xs, depLe n x = true
  | y :: r, n, h, x, m => by
    unfold depsLe at h
    rw [Bool.and_eq_true] at h
    rcases List.mem_cons.mp m with e | m
    · rw [e]; exact h.1
    · exact depsLe_mem h.2 x m
theorem depsLe_of : ∀ {xs : List D} {n : Nat}, (∀ x ∈ xs, depLe n x = true) → depsLe n xs = true
  | [], n, _ => by unfold depsLe; rfl
  | y :: r, n, h => by
    unfold depsLe
    rw [Bool.and_eq_true]
    exact ⟨h y List.mem_cons_self, depsLe_of fun x m => h x (List.mem_cons_of_mem _ m)⟩
mutual
theorem depLe_mono : ∀ {d : D} {n m : Nat}, n ≤ m → depLe n d = true → depLe m d = true
  | .tup xs, n, m, hm, h => by
    cases n with
    | zero => unfold depLe at h; cases h
    | succ n =>
      obtain ⟨m, rfl⟩ : ∃ q, m = q + 1 := ⟨m - 1, by omega⟩
      unfold depLe at h ⊢
      exact depsLe_mono (by omega) h
  | .lst xs, n, m, hm, h => by
    cases n with
    | zero => unfold depLe at h; cases h
    | succ n =>
      obtain ⟨m, rfl⟩ : ∃ q, m = q + 1 := ⟨m - 1, by omega⟩
      unfold depLe at h ⊢
      exact depsLe_mono (by omega) h
  | .dct _ _, n, m, hm, h => by unfold depLe at h; cases h
  | .non, n, m, hm, h => by unfold depLe; rfl
  | .bl _, n, m, hm, h => by unfold depLe; rfl
  | .int _, n, m, hm, h => by unfold depLe; rfl
  | .str _, n, m, hm, h => by unfold depLe; rfl
theorem depsLe_mono : ∀ {xs : List D} {n m : Nat}, n ≤ m → depsLe n xs = true → depsLe m xs = true
  | [], n, m, hm, h => by unfold depsLe; rfl
  | x :: r, n, m, hm, h => by
    unfold depsLe at h ⊢
    rw [Bool.and_eq_true] at h ⊢
    exact ⟨depLe_mono hm h.1, depsLe_mono hm h.2⟩
end
mutual
theorem beq_self : ∀ {d : D} {n : Nat}, depLe n d = true → D.beq d d = true
  | .tup xs, n, h => by
    cases n with
    | zero => unfold depLe at h; cases h
    | succ n =>
      unfold depLe at h
      unfold D.beq
      exact beqs_self h
  | .lst xs, n, h => by
    cases n with
    | zero => unfold depLe at h; cases h
    | succ n =>
      unfold depLe at h
      unfold D.beq
      exact beqs_self h
  | .dct _ _, n, h => by unfold depLe at h; cases h
  | .non, n, h => by unfold D.beq; rfl
  | .bl _, n, h => by unfold D.beq; exact beq_self_eq_true _
  | .int _, n, h => by unfold D.beq; exact beq_self_eq_true _
  | .str _, n, h => by unfold D.beq; exact beq_self_eq_true _
theorem beqs_self : ∀ {xs : List D} {n : Nat}, depsLe n xs = true → D.beqs xs xs = true
  | [], n, h => by unfold D.beqs; rfl
  | x :: r, n, h => by
    unfold depsLe at h
    rw [Bool.and_eq_true] at h
    unfold D.beqs
    rw [Bool.and_eq_true]
    exact ⟨beq_self h.1, beqs_self h.2⟩
end
theorem ne_self {d : D} (h : depLe 100 d = true) : cmpD .ne d d = some false := by
  unfold cmpD
  simp only [h, beq_self h, Bool.and_self, if_true, Bool.not_true]
end Cz
end
/-! of B9 -/
section
namespace Cz
variable {M : Mo} {C : Nat → List Arg → Rc}
theorem app_ev {i : Nat} {e : E} {ρ ρ1 : Env} {v : Val} {d : D} {l0 l : Bool} {ys xs : List D} (h : evE M C e ρ = .ok v ρ1) (hv : fz v = .p d) (h0 : ρ[i]? = some (.own l0 ys)) (h1 : ρ1[i]? = some (.own l xs)) (hl : xs.length < 100000) : evS M C (.app i e) ρ = .nx (ρ1.set i (.own l (xs ++ [d]))) := by
  rw [evS, h0]
  simp only [h, hv, h1, hl, if_true]
theorem cut_to (b c : List D) : cut (b ++ c) none (some (((b ++ c).length : Int) - (c.length : Int))) = b := by
  have h : six (b ++ c).length (b ++ c).length (some (((b ++ c).length : Int) - (c.length : Int))) = b.length := by
    have h2 : ((b ++ c).length : Int) - (c.length : Int) = (b.length : Int) := by rw [List.length_append]; omega
    rw [h2]
    have : ¬ ((b.length : Int) < 0) := by omega
    unfold six
    simp only []
    rw [if_neg this, Int.toNat_natCast]
    simp only [List.length_append]
    omega
  unfold cut
  rw [h]
  simp [six]
theorem slT_ev {a b : E} {ρ ρ1 ρ2 : Env} {v w r : Val} {x : D} {i : Int} (ha : evE M C a ρ = .ok v ρ1) (hb : evE M C b ρ1 = .ok w ρ2) (hx : res ρ2 (fz v) = some x) (hy : res ρ2 (fz w) = some (.int i)) (h : slice x none (some i) = some r) : evE M C (.slT a b) ρ = .ok r ρ2 := by
  rw [evE, ha]
  simp only [hb, hx, hy, h]
end Cz
end
/-! of B10 -/
section
namespace Cz
variable {M : Mo} {C : Nat → List Arg → Rc}
theorem try_nx {body : Ss} {hs : Hs} {ρ ρ1 : Env} (h : evSs M C body ρ = .nx ρ1) : evS M C (.try_ body hs) ρ = .nx ρ1 := by
  rw [evS, h]
theorem try_ex {body : Ss} {hs : Hs} {ρ ρ1 : Env} {x : Exn} {r : Rs} (h : evSs M C body ρ = .ex x ρ1) (g : evHs M C hs x ρ1 = r) : evS M C (.try_ body hs) ρ = r := by
  rw [evS, h]
  exact g
theorem st_ev {e : E} {ρ ρ1 : Env} {v : Val} (h : evE M C e ρ = .ok v ρ1) : evS M C (.ex e) ρ = .nx ρ1 := by
  rw [evS, h]
theorem st_ex {e : E} {ρ ρ1 : Env} {x : Exn} (h : evE M C e ρ = .ex x ρ1) : evS M C (.ex e) ρ = .ex x ρ1 := by
  rw [evS, h]
theorem and_t {a b : E} {ρ ρ1 : Env} {r : Re} (ha : evE M C a ρ = .ok (.p (.bl true)) ρ1) (hb : evE M C b ρ1 = r) (hr : ∀ v ρ2, r = .ok v ρ2 → True) : evE M C (.and (.cons a (.cons b .nil))) ρ = r := by
  rw [evE, evAnd, ha]
  simp only [fz, res, Option.bind_some, truth, evAnd, hb]
  cases r <;> rfl
theorem and_f {a b : E} {ρ ρ1 : Env} (ha : evE M C a ρ = .ok (.p (.bl false)) ρ1) : evE M C (.and (.cons a (.cons b .nil))) ρ = .ok (.p (.bl false)) ρ1 := by
  rw [evE, evAnd, ha]
  rfl
theorem or_t {a b : E} {ρ ρ1 : Env} (ha : evE M C a ρ = .ok (.p (.bl true)) ρ1) : evE M C (.or (.cons a (.cons b .nil))) ρ = .ok (.p (.bl true)) ρ1 := by
  rw [evE, evOr, ha]
  rfl
theorem or_f {a b : E} {ρ ρ1 : Env} {r : Re} (ha : evE M C a ρ = .ok (.p (.bl false)) ρ1) (hb : evE M C b ρ1 = r) : evE M C (.or (.cons a (.cons b .nil))) ρ = r := by
  rw [evE, evOr, ha]
  simp only [fz, res, Option.bind_some, truth, evOr, hb]
  cases r <;> rfl
theorem cmp_ev {o : Cop} {a b : E} {ρ ρ1 ρ2 : Env} {v w : Val} {x y : D} {r : Bool} (ha : evE M C a ρ = .ok v ρ1) (hb : evE M C b ρ1 = .ok w ρ2) (hx : res ρ2 (fz v) = some x) (hy : res ρ2 (fz w) = some y) (h : cmpD o x y = some r) : evE M C (.cmp o a b) ρ = .ok (.p (.bl r)) ρ2 := by
  rw [evE, ha]
  simp only [hb, hx, hy, h]
theorem item_in {xs : List D} {i : Int} (h0 : 0 ≤ i) (h1 : i < xs.length) : ∃ x, item (.lst xs) (.int i) = some x ∧ item (.tup xs) (.int i) = some x ∧ x ∈ xs := by
  obtain ⟨n, rfl⟩ : ∃ n : Nat, i = n := ⟨i.toNat, by omega⟩
  have hn : n < xs.length := by omega
  refine ⟨xs[n], ?_, ?_, List.getElem_mem hn⟩ <;> simp only [item, pix_nat hn, Option.bind_some, List.getElem?_eq_getElem hn]
end Cz
end
/-! of B11 -/
section
namespace Cz
variable {M : Mo} {C : Nat → List Arg → Rc}
theorem tup_ev {es : Es} {ρ ρ1 : Env} {vs : List Val} {ds : List D} (h : evEs M C es ρ = .ok vs ρ1) (hd : ress ρ1 vs = some ds) (hb : noB vs = true) : evE M C (.tup es) ρ = .ok (.p (.tup ds)) ρ1 := by
  rw [evE, h]
  simp only [hd, hb, if_true]
theorem if_t {t : E} {a b : Ss} {ρ ρ1 : Env} {r : Rs} (h : evE M C t ρ = .ok (.p (.bl true)) ρ1) (g : evSs M C a ρ1 = r) : evS M C (.ife t a b) ρ = r := by
  have := if_ev (a := a) (b := b) h (k := true) rfl
  rw [this, if_pos rfl, g]
theorem if_f {t : E} {a b : Ss} {ρ ρ1 : Env} {r : Rs} (h : evE M C t ρ = .ok (.p (.bl false)) ρ1) (g : evSs M C b ρ1 = r) : evS M C (.ife t a b) ρ = r := by
  have := if_ev (a := a) (b := b) h (k := false) rfl
  rw [this, if_neg (by decide), g]
theorem ifE_t {t a b : E} {ρ ρ1 : Env} {r : Re} (h : evE M C t ρ = .ok (.p (.bl true)) ρ1) (g : evE M C a ρ1 = r) : evE M C (.ife t a b) ρ = r := by
  have := ifE_ev (a := a) (b := b) h (k := true) rfl
  rw [this, if_pos rfl, g]
theorem ifE_f {t a b : E} {ρ ρ1 : Env} {r : Re} (h : evE M C t ρ = .ok (.p (.bl false)) ρ1) (g : evE M C b ρ1 = r) : evE M C (.ife t a b) ρ = r := by
  have := ifE_ev (a := a) (b := b) h (k := false) rfl
  rw [this, if_neg (by decide), g]
theorem bor_lt {i : Nat} {k q : Int} {ρ : Env} {b : Bool} (h : ρ[i]? = some (.d (.int k))) (hd : decide (k < q) = b) : evE M C (.cmp .lt (.bor i) (.c (.int q))) ρ = .ok (.p (.bl b)) ρ := by
  have hb : evE M C (.bor i) ρ = .ok (.p (.int k)) ρ := by rw [evE, h]
  exact cmp_ev hb rfl rfl rfl (by rw [← hd]; rfl)
theorem bor_eq {i : Nat} {k q : Int} {ρ : Env} {b : Bool} (h : ρ[i]? = some (.d (.int k))) (hd : D.beq (.int k) (.int q) = b) : evE M C (.cmp .eq (.bor i) (.c (.int q))) ρ = .ok (.p (.bl b)) ρ := by
  have hb : evE M C (.bor i) ρ = .ok (.p (.int k)) ρ := by rw [evE, h]
  exact cmp_ev hb rfl rfl rfl (by rw [← hd]; rfl)
theorem cut_mem {α : Type} {xs : List α} {lo hi : Option Int} {x : α} (h : x ∈ cut xs lo hi) : x ∈ xs := List.mem_of_mem_drop (List.mem_of_mem_take h)
theorem cut_len {α : Type} {xs : List α} {lo hi : Option Int} : (cut xs lo hi).length ≤ xs.length := by
  unfold cut
  rw [List.length_take, List.length_drop]
  omega
theorem beq_f {i j : Int} (h : i ≠ j) : D.beq (.int i) (.int j) = false := by
  unfold D.beq
  exact beq_eq_false_iff_ne.mpr h
theorem beq_t (i : Int) : D.beq (.int i) (.int i) = true := by
  unfold D.beq
  exact beq_self_eq_true _
end Cz
end
/-! of B12 -/
section
namespace Cz
variable {M : Mo} {C : Nat → List Arg → Rc}
theorem bor_d {i : Nat} {x : D} {ρ : Env} (h : ρ[i]? = some (.d x)) : evE M C (.bor i) ρ = .ok (.p x) ρ := by rw [evE, h]
theorem var_d {i : Nat} {x : D} {ρ : Env} (h : ρ[i]? = some (.d x)) : evE M C (.var i) ρ = .ok (.p x) ρ := by rw [evE, h]
/-- one of two constants by a test that does nothing -/
theorem ife_c {t : E} {ρ ρ1 : Env} {x y : D} {k : Bool} (h : evE M C t ρ = .ok (.p (.bl k)) ρ1) : ∃ z, evE M C (.ife t (.c x) (.c y)) ρ = .ok (.p z) ρ1 ∧ (z = x ∨ z = y) := by
  cases k with
  | true => exact ⟨x, ifE_t h rfl, .inl rfl⟩
  | false => exact ⟨y, ifE_f h rfl, .inr rfl⟩
end Cz
end
/-! of B14 -/
section
namespace Cz
theorem lc_filter {f : Env → D → Option (Option D × Env)} (P : Env → Prop) (Q : D → Prop) : ∀ (ds : List D) (ρ : Env), P ρ → (∀ d ∈ ds, ∀ ρ, P ρ → ∃ o ρ', f ρ d = some (o, ρ') ∧ P ρ' ∧ ∀ x, o = some x → Q x) → ∃ xs ρ', lcTurns f ρ ds = some (xs, ρ') ∧ P ρ' ∧ (∀ x ∈ xs, Q x) ∧ xs.length ≤ ds.length
  | [], ρ, h, _ => ⟨[], ρ, rfl, h, (fun _ m => nomatch m), Nat.le_refl _⟩
  | d :: r, ρ, h, st => by
    obtain ⟨o, ρ1, e1, h1, q1⟩ := st d (List.mem_cons_self) ρ h
    obtain ⟨xs, ρ2, e2, h2, q2, l2⟩ := lc_filter P Q r ρ1 h1 fun d' m => st d' (List.mem_cons_of_mem _ m)
    cases o with
    | none =>
      refine ⟨xs, ρ2, ?_, h2, q2, by simp; omega⟩
      rw [lcTurns, e1]
      exact e2
    | some x =>
      refine ⟨x :: xs, ρ2, ?_, h2, ?_, by simp; omega⟩
      · rw [lcTurns, e1]
        simp only [e2, Option.map_some]
      · intro y m
        rcases List.mem_cons.mp m with rfl | m
        · exact q1 _ rfl
        · exact q2 y m
theorem mem_ints {lo : Int} {n : Nat} {d : D} (h : d ∈ intsD lo n) : ∃ k, k < n ∧ d = .int (lo + (k : Int)) := by
  unfold intsD at h
  obtain ⟨k, hk, rfl⟩ := List.mem_map.mp h
  exact ⟨k, List.mem_range.mp hk, rfl⟩
end Cz
end
/-! of B15 -/
section
namespace Cz
variable {M : Mo} {C : Nat → List Arg → Rc}
theorem tuple_ev {a : E} {ρ ρ1 : Env} {v : Val} {xs : List D} (h : evE M C a ρ = .ok v ρ1) (hx : res ρ1 (fz v) = some (.lst xs)) : evE M C (.bi .tuple (.cons a .nil)) ρ = .ok (.p (.tup xs)) ρ1 := by
  rw [evE, evEs, h]
  simp only [evEs, ress, hx, biD]
theorem isN_ev {a : E} {ρ ρ1 : Env} (h : evE M C a ρ = .ok (.p .non) ρ1) : evE M C (.cmp .isN a (.c .non)) ρ = .ok (.p (.bl true)) ρ1 :=
  cmp_ev h rfl rfl rfl rfl
end Cz
end
end
section
set_option linter.all false
set_option maxRecDepth 100000
set_option maxHeartbeats 4000000
namespace K01
open Cz
/-- a source of draws -/
structure Sr where
  a : Int
  b : Int
  c : Int
def Sr.l (s : Sr) : List D := [.int s.a, .int s.b, .int s.c]
def mix (b c : Int) : Int :=
  let x := ((b + 7919 * c) * 48271) % 2147483647
  let y := (x * x + 69621 * c + b) % 2147483629
  let z := (y * 16807 + 11) % 2147483647
  ((z * z + z) % 2147483587) / 3
/-- a draw among m -/
def pk (s : Sr) (m : Int) : Int := if 0 < s.a then s.a % m else mix s.b (s.c + 1) % m
def nx (s : Sr) (m : Int) : Sr := if 0 < s.a then ⟨s.a / m, s.b, s.c⟩ else ⟨s.a, s.b, s.c + 1⟩
theorem call_s (n f : Nat) (as : List Arg) (F : Fn) (h : prog f = some F) : call mo prog (n + 1) f as = runFn mo (call mo prog n) F as := by
  unfold call
  rw [h]
theorem pick (n : Nat) (s : Sr) (m : Int) (hm : 0 < m) (hm2 : m < 18446744073709551616) : call mo prog (n + 1) n__law_pick [.o s.l, .a (.int m)] = .ok (.p (.int (pk s m))) [(nx s m).l] := by
  obtain ⟨a, b, c⟩ := s
  rw [call_s _ _ _ F__law_pick rfl]
  by_cases ha : 0 < a
  · simp [runFn, F__law_pick, b__law_pick_0a_2, b__law_pick_0a_1, b__law_pick_0a, b__law_pick_5, b__law_pick_4, b__law_pick_3, b__law_pick_2, b__law_pick_1, b__law_pick, evSs, evS, evE, evEs, startEnv, res, ress, fz, cmpD, item, pix, truth, ha, hm, hm2, Sr.l, binD, biD, put, free, outsOf, pk, nx]
  · have b1 : ∀ x : Int, (x % 2147483647).natAbs < 18446744073709551616 := fun x => by have := Int.emod_nonneg x (show (2147483647 : Int) ≠ 0 by decide); have := Int.emod_lt_of_pos x (show (0 : Int) < 2147483647 by decide); omega
    have b2 : ∀ x : Int, (x % 2147483629).natAbs < 18446744073709551616 := fun x => by have := Int.emod_nonneg x (show (2147483629 : Int) ≠ 0 by decide); have := Int.emod_lt_of_pos x (show (0 : Int) < 2147483629 by decide); omega
    simp [runFn, F__law_pick, b__law_pick_0a_2, b__law_pick_0a_1, b__law_pick_0a, b__law_pick_5, b__law_pick_4, b__law_pick_3, b__law_pick_2, b__law_pick_1, b__law_pick, evSs, evS, evE, evEs, startEnv, res, ress, fz, cmpD, item, pix, truth, ha, hm, hm2, Sr.l, binD, biD, put, free, outsOf, big, b1, b2, pk, nx, mix]
theorem pk_lt (s : Sr) (m : Int) (hm : 0 < m) : 0 ≤ pk s m ∧ pk s m < m := by
  unfold pk
  split
  · exact ⟨Int.emod_nonneg _ (by omega), Int.emod_lt_of_pos _ hm⟩
  · exact ⟨Int.emod_nonneg _ (by omega), Int.emod_lt_of_pos _ hm⟩
def sd (x y : Int) : Int := (x * 31 + y % 2147483629) % 2147483629
def lk (as : List Arg) : Prop := True
theorem source (n : Nat) (ns : List Int) (p : Int) (hp : 0 ≤ p) (hp2 : p ≤ 1) (hb : ∀ z ∈ ns, z.natAbs.log2 < 2000000) : ∃ s : Sr, call mo prog (n + 1) n__law_source [.a (.lst (ns.map D.int)), .a (.int p)] = .ok (.f s.l) [] := by
  rw [call_s _ _ _ F__law_source rfl]
  -- the cell
  obtain ⟨cell, hc, ec⟩ : ∃ cell : Int, cell.natAbs.log2 < 2000000 ∧ evE mo (call mo prog n) (.ife (.cmp .lt (.bor 1) (.bi .len (.cons (.bor 0) .nil))) (.ix (.bor 0) (.bor 1)) (.bin .add (.bin .mul (.c (.int 5)) (.bor 1)) (.c (.int 3)))) [.d (.lst (ns.map D.int)), .d (.int p), .no, .no, .no, .no] = .ok (.p (.int cell)) [.d (.lst (ns.map D.int)), .d (.int p), .no, .no, .no, .no] := by
    by_cases h : p < (ns.length : Int)
    · have hl : p.toNat < ns.length := by omega
      refine ⟨ns[p.toNat], hb _ (List.getElem_mem hl), ?_⟩
      simp [evE, evEs, res, ress, fz, cmpD, biD, item, pix, truth, h, hp, hl]
    · refine ⟨5 * p + 3, ?_, ?_⟩
      · have : p = 0 ∨ p = 1 := by omega
        rcases this with e | e <;> subst e <;> decide
      · simp [evE, evEs, res, ress, fz, cmpD, biD, item, pix, truth, h, binD, big]
  have h1 : evS mo (call mo prog n) (.asg 2 (.ife (.cmp .lt (.bor 1) (.bi .len (.cons (.bor 0) .nil))) (.ix (.bor 0) (.bor 1)) (.bin .add (.bin .mul (.c (.int 5)) (.bor 1)) (.c (.int 3))))) [.d (.lst (ns.map D.int)), .d (.int p), .no, .no, .no, .no] = .nx [.d (.lst (ns.map D.int)), .d (.int p), .d (.int cell), .no, .no, .no] := by
    rw [evS, ec]
    rfl
  have h2 : evS mo (call mo prog n) (.asg 3 (.bin .add (.bin .mul (.c (.int 1009)) (.bor 1)) (.c (.int 17)))) [.d (.lst (ns.map D.int)), .d (.int p), .d (.int cell), .no, .no, .no] = .nx [.d (.lst (ns.map D.int)), .d (.int p), .d (.int cell), .d (.int (1009 * p + 17)), .no, .no] := by
    simp [evS, evE, res, fz, binD, big, put, free]
  obtain ⟨ρ3, h3, seed, one, e3⟩ : ∃ ρ3, evS mo (call mo prog n) (.for_ [4] (.val (.slT (.bor 0) (.c (.int 3)))) b__law_source_2a) [.d (.lst (ns.map D.int)), .d (.int p), .d (.int cell), .d (.int (1009 * p + 17)), .no, .no] = .nx ρ3 ∧
      ∃ (seed : Int) (one : Sl), ρ3 = [.d (.lst (ns.map D.int)), .d (.int p), .d (.int cell), .d (.int seed), one, .no] := by
    have it : evIt mo (call mo prog n) (.val (.slT (.bor 0) (.c (.int 3)))) [.d (.lst (ns.map D.int)), .d (.int p), .d (.int cell), .d (.int (1009 * p + 17)), .no, .no] = some ((ns.take 3).map D.int, [.d (.lst (ns.map D.int)), .d (.int p), .d (.int cell), .d (.int (1009 * p + 17)), .no, .no]) := by
      simp [evIt, evE, res, fz, slice, cut, six, itemsOf, List.map_take]
    have go := for_go (turn := fun ρ d => match bindT ρ [4] d with | some ρ2 => evSs mo (call mo prog n) b__law_source_2a ρ2 | none => .bad)
      (fun _ ρ => ∃ (seed : Int) (one : Sl), free [one] 0 = true ∧ ρ = [.d (.lst (ns.map D.int)), .d (.int p), .d (.int cell), .d (.int seed), one, .no]) ((ns.take 3).map D.int) 0 [.d (.lst (ns.map D.int)), .d (.int p), .d (.int cell), .d (.int (1009 * p + 17)), .no, .no] ⟨_, _, rfl, rfl⟩ (by
        rintro i d ρ hd ⟨seed, one, fo, rfl⟩
        rw [List.getElem?_map] at hd
        obtain ⟨x, _, rfl⟩ := Option.map_eq_some_iff.mp hd
        have fo2 : free [Sl.d (.lst (ns.map D.int)), Sl.d (.int p), Sl.d (.int cell), Sl.d (.int seed), one, Sl.no] 4 = true := fo
        have hb : bindT [Sl.d (.lst (ns.map D.int)), Sl.d (.int p), Sl.d (.int cell), Sl.d (.int seed), one, Sl.no] [4] (.int x) = some [Sl.d (.lst (ns.map D.int)), Sl.d (.int p), Sl.d (.int cell), Sl.d (.int seed), .d (.int x), Sl.no] := by
          simp [bindT, put, fo2]
        have hs : evSs mo (call mo prog n) b__law_source_2a [Sl.d (.lst (ns.map D.int)), Sl.d (.int p), Sl.d (.int cell), Sl.d (.int seed), .d (.int x), Sl.no] = .nx [Sl.d (.lst (ns.map D.int)), Sl.d (.int p), Sl.d (.int cell), Sl.d (.int (sd seed x)), .d (.int x), Sl.no] := by
          simp [b__law_source_2a, evSs, evS, evE, evEs, res, ress, fz, binD, biD, big, put, free, sd]
        refine ⟨_, .inl ?_, sd seed x, .d (.int x), rfl, rfl⟩
        simp only [hb, hs])
    obtain ⟨ρ3, g1, seed, one, _, g2⟩ := go
    refine ⟨ρ3, ?_, seed, one, g2⟩
    rw [evS, it]
    exact g1
  subst e3
  have bs : ∀ x : Int, (x % 2147483629).natAbs < 18446744073709551616 := fun x => by have := Int.emod_nonneg x (show (2147483629 : Int) ≠ 0 by decide); have := Int.emod_lt_of_pos x (show (0 : Int) < 2147483629 by decide); omega
  have h4 : evS mo (call mo prog n) (.asg 3 (.bin .mod (.bi .int (.cons (.bin .add (.bin .mul (.bor 3) (.c (.int 31))) (.bin .mod (.bi .int (.cons (.bor 2) .nil)) (.c (.int 2147483587)))) .nil)) (.c (.int 2147483629)))) [.d (.lst (ns.map D.int)), .d (.int p), .d (.int cell), .d (.int seed), one, .no] = .nx [.d (.lst (ns.map D.int)), .d (.int p), .d (.int cell), .d (.int ((seed * 31 + cell % 2147483587) % 2147483629)), one, .no] := by
    simp [evS, evE, evEs, res, ress, fz, binD, biD, big, put, free]
  have h5 : evS mo (call mo prog n) (.asg 5 (.bi .abs (.cons (.bor 2) .nil))) [.d (.lst (ns.map D.int)), .d (.int p), .d (.int cell), .d (.int ((seed * 31 + cell % 2147483587) % 2147483629)), one, .no] = .nx [.d (.lst (ns.map D.int)), .d (.int p), .d (.int cell), .d (.int ((seed * 31 + cell % 2147483587) % 2147483629)), one, .d (.int (cell.natAbs : Int))] := by
    simp [evS, evE, evEs, res, ress, fz, biD, put, free]
  have lg : ((cell.natAbs : Int) / 2 ^ 3000).natAbs.log2 < 2000000 := by
    have e : ((cell.natAbs : Int) / 2 ^ 3000).natAbs ≤ cell.natAbs := by
      have h1 : ((cell.natAbs : Int) / 2 ^ 3000) = ((cell.natAbs / 2 ^ 3000 : Nat) : Int) := by
        rw [Int.natCast_ediv, Int.natCast_pow]
        rfl
      rw [h1, Int.natAbs_natCast]
      exact Nat.div_le_self _ _
    by_cases z : ((cell.natAbs : Int) / 2 ^ 3000).natAbs = 0
    · rw [z]; decide
    · have z2 : cell.natAbs ≠ 0 := by omega
      have := Nat.log2_self_le z
      have h2 := Nat.le_trans this e
      exact Nat.lt_of_le_of_lt ((Nat.le_log2 z2).mpr h2) hc
  have h6 : ∃ num : Int, evS mo (call mo prog n) (.ret (.lst (.cons (.ife (.cmp .ge (.bor 5) (.bin .pow (.c (.int 10)) (.c (.int 18)))) (.bin .sub (.bor 5) (.bin .shl (.bin .shr (.bor 5) (.c (.int 3000))) (.c (.int 3000)))) (.c (.int 0))) (.cons (.var 3) (.cons (.c (.int 0)) .nil))))) [.d (.lst (ns.map D.int)), .d (.int p), .d (.int cell), .d (.int ((seed * 31 + cell % 2147483587) % 2147483629)), one, .d (.int (cell.natAbs : Int))] =
      .rt (.f [.int num, .int ((seed * 31 + cell % 2147483587) % 2147483629), .int 0]) [.d (.lst (ns.map D.int)), .d (.int p), .d (.int cell), .d (.int ((seed * 31 + cell % 2147483587) % 2147483629)), one, .d (.int (cell.natAbs : Int))] := by
    by_cases hbig : (1000000000000000000 : Int) ≤ (cell.natAbs : Int)
    · refine ⟨(cell.natAbs : Int) - (cell.natAbs : Int) / 2 ^ 3000 * 2 ^ 3000, ?_⟩
      simp [evS, evE, evEs, res, ress, fz, binD, cmpD, truth, big, hbig, lg, noB]
    · refine ⟨0, ?_⟩
      simp [evS, evE, evEs, res, ress, fz, binD, cmpD, truth, big, hbig, noB]
  obtain ⟨num, h6⟩ := h6
  refine ⟨⟨num, (seed * 31 + cell % 2147483587) % 2147483629, 0⟩, ?_⟩
  have run : evSs mo (call mo prog n) b__law_source [.d (.lst (ns.map D.int)), .d (.int p), .no, .no, .no, .no] = .rt (.f [.int num, .int ((seed * 31 + cell % 2147483587) % 2147483629), .int 0]) [.d (.lst (ns.map D.int)), .d (.int p), .d (.int cell), .d (.int ((seed * 31 + cell % 2147483587) % 2147483629)), one, .d (.int (cell.natAbs : Int))] := by
    unfold b__law_source b__law_source_1 b__law_source_2 b__law_source_3 b__law_source_4 b__law_source_5
    rw [ss_nx h1, ss_nx h2, ss_nx h3, ss_nx h4, ss_nx h5, ss_rt h6]
  have st : startEnv [.a (.lst (ns.map D.int)), .a (.int p)] 6 = [.d (.lst (ns.map D.int)), .d (.int p), .no, .no, .no, .no] := rfl
  simp [runFn, F__law_source, st, run, outsOf, Sr.l]
theorem pick_ev {n i : Nat} {ρ : Env} {l : Bool} {s : Sr} {e : E} {m : Int} (hi : ρ[i]? = some (.own l s.l)) (he : evE mo (call mo prog (n + 1)) e ρ = .ok (.p (.int m)) ρ) (hm : 0 < m) (hm2 : m < 18446744073709551616) : evE mo (call mo prog (n + 1)) (.call n__law_pick (.cons (.bor i) (.cons e .nil))) ρ = .ok (.p (.int (pk s m))) (ρ.set i (.own l (nx s m).l)) := by
  have h1 : evE mo (call mo prog (n + 1)) (.bor i) ρ = .ok (.b i) ρ := by
    rw [evE, hi]
  refine call_ev (es_cons h1 (es_cons he rfl)) (as := [.o s.l, .a (.int m)]) ?_ rfl (pick n s m hm hm2) ?_
  · simp [fz, args, hi]
  · simp [fz, back, hi]
/-- a test of a pick against a number -/
theorem pick_is {n i : Nat} {ρ : Env} {l : Bool} {s : Sr} {m q : Int} (hi : ρ[i]? = some (.own l s.l)) (hm : 0 < m) (hm2 : m < 18446744073709551616) : evE mo (call mo prog (n + 1)) (.cmp .eq (.call n__law_pick (.cons (.bor i) (.cons (.c (.int m)) .nil))) (.c (.int q))) ρ = .ok (.p (.bl (D.beq (.int (pk s m)) (.int q)))) (ρ.set i (.own l (nx s m).l)) :=
  cmp_ev (pick_ev (m := m) hi rfl hm hm2) rfl rfl rfl rfl
/-- one of the pick's -/
theorem pick_if {n i : Nat} {ρ : Env} {l : Bool} {s : Sr} {m : Int} {a b : E} {x y : D} (hi : ρ[i]? = some (.own l s.l)) (hm : 0 < m) (hm2 : m < 18446744073709551616) (ha : ∀ ρ, evE mo (call mo prog (n + 1)) a ρ = .ok (.p x) ρ) (hb : ∀ ρ, evE mo (call mo prog (n + 1)) b ρ = .ok (.p y) ρ) : ∃ z, evE mo (call mo prog (n + 1)) (.ife (.call n__law_pick (.cons (.bor i) (.cons (.c (.int m)) .nil))) a b) ρ = .ok (.p z) (ρ.set i (.own l (nx s m).l)) ∧ (z = x ∨ z = y) := by
  have h := ifE_ev (a := a) (b := b) (pick_ev (n := n) (e := .c (.int m)) (m := m) hi rfl hm hm2) (k := (pk s m != 0)) rfl
  cases hz : (pk s m != 0) with
  | true =>
    rw [hz, if_pos rfl, ha] at h
    exact ⟨x, h, .inl rfl⟩
  | false =>
    rw [hz, if_neg (by decide), hb] at h
    exact ⟨y, h, .inr rfl⟩
theorem len_ne {x : D} {F : List D} : D.beq (.int ((x :: F).length : Int)) (.int 0) = false := beq_f (by simp; omega)
/-- an item drawn -/
theorem pick_item {n i j : Nat} {ρ : Env} {l : Bool} {s : Sr} {F : List D} (hij : j ≠ i) (hF : F ≠ []) (hl : F.length ≤ 1000) (hi : ρ[i]? = some (.own l s.l)) (hj : ρ[j]? = some (.d (.tup F))) : ∃ x ∈ F, ∃ s' : Sr, evE mo (call mo prog (n + 1)) (.ix (.bor j) (.call n__law_pick (.cons (.bor i) (.cons (.bi .len (.cons (.bor j) .nil)) .nil)))) ρ = .ok (.p x) (ρ.set i (.own l s'.l)) := by
  have hp : 0 < (F.length : Int) := by
    cases F with
    | nil => exact absurd rfl hF
    | cons a r => rw [List.length_cons]; omega
  obtain ⟨p0, p1⟩ := pk_lt s F.length hp
  obtain ⟨x, _, hx, mx⟩ := item_in p0 p1
  refine ⟨x, mx, nx s F.length, ?_⟩
  have hb : ∀ ρ : Env, ρ[j]? = some (.d (.tup F)) → evE mo (call mo prog (n + 1)) (.bor j) ρ = .ok (.p (.tup F)) ρ := by
    intro ρ h
    rw [evE, h]
  exact ix_ev (v := .p (.tup F)) (w := .p (.int (pk s F.length))) (hb ρ hj) (pick_ev (m := F.length) hi (len_ev (hb ρ hj) rfl rfl) hp (by omega)) rfl rfl hx
end K01
end
section
set_option linter.all false
set_option maxRecDepth 100000
set_option maxHeartbeats 4000000
namespace K01
open Cz
/-! ### sayings -/
inductive Sy where
  | yes | no | fact (s : List Nat) | neg (a : Sy) | and (a b : Sy) | or (a b : Sy)
deriving DecidableEq
/-- a tuple or a list -/
def wr (m : Bool) (xs : List D) : D := if m then .tup xs else .lst xs
def enc (m : Bool) : Sy → D
  | .yes => wr m [.s "yes"]
  | .no => wr m [.s "no"]
  | .fact s => wr m [.s "fact", .str s]
  | .neg a => wr m [.s "not", enc m a]
  | .and a b => wr m [.s "and", enc m a, enc m b]
  | .or a b => wr m [.s "or", enc m a, enc m b]
/-- how many tuples -/
def sz : Sy → Nat
  | .neg a => 1 + sz a
  | .and a b => 1 + sz a + sz b
  | .or a b => 1 + sz a + sz b
  | _ => 1
def dp : Sy → Nat
  | .neg a => 1 + dp a
  | .and a b => 1 + max (dp a) (dp b)
  | .or a b => 1 + max (dp a) (dp b)
  | _ => 0
theorem sz_pos (s : Sy) : 0 < sz s := by cases s <;> simp [sz] <;> omega
/-- the facts, from left to right -/
def met : Sy → List (List Nat)
  | .fact s => [s]
  | .neg a => met a
  | .and a b => met a ++ met b
  | .or a b => met a ++ met b
  | _ => []
def nms : List (List Nat) := ["p", "wet", "q", "dusk", "a", "zz"].map tx
def isOk (r : Rc) : Bool := match r with
  | .ok (.p (.bl true)) [] => true
  | _ => false
theorem isOk_eq {r : Rc} (h : isOk r = true) : r = .ok (.p (.bl true)) [] := by
  unfold isOk at h
  split at h
  · rfl
  · cases h
theorem nms_ok (n : Nat) : (nms.all fun s => isOk (call mo prog (n + 3) n_is_name [.a (.str s)])) = true := by kernel_rfl
theorem nm_ok (n : Nat) {s : List Nat} (h : s ∈ nms) : call mo prog (n + 3) 3 [.a (.str s)] = .ok (.p (.bl true)) [] := isOk_eq (List.all_eq_true.mp (nms_ok n) s h)
def Nm (s : Sy) : Prop := ∀ x ∈ met s, x ∈ nms
/-- does it fit -/
def Fits (s : Sy) (d r : Int) : Prop := d + dp s ≤ 20 ∧ (sz s : Int) ≤ r
instance (s : Sy) (d r : Int) : Decidable (Fits s d r) := by unfold Fits; infer_instance
def toldD (s : Sy) (d r : Int) : D := if Fits s d r then .tup [enc true s, .int (r - sz s)] else .non
theorem listed (n : Nat) (m : Bool) (xs : List D) : call mo prog (n + 1) 1 [.a (wr m xs)] = .ok (.p (.bl true)) [] := by
  cases m <;> rfl
theorem wr_len (m : Bool) (xs : List D) : biD .len [wr m xs] = some (.p (.int xs.length)) := by cases m <;> rfl
section
variable {C : Nat → List Arg → Rc}
theorem ts_head {m : Bool} {a : D} {r : List D} {d q : Int} (hd : d ≤ 20) (hq : 0 < q) (hl : C 1 [.a (wr m (a :: r))] = .ok (.p (.bl true)) []) :
    evSs mo C b_told_saying [.d (wr m (a :: r)), .d (.int d), .d (.int q), .no, .no, .no, .no, .no] = evSs mo C b_told_saying_1 [.d (wr m (a :: r)), .d (.int d), .d (.int q), .no, .no, .no, .no, .no] := by
  have a1 : ¬ (20 < d) := by omega
  have a2 : (q == 0) = false := beq_eq_false_iff_ne.mpr (by omega)
  have a3 : (((r.length : Int) + 1) == 0) = false := beq_eq_false_iff_ne.mpr (by omega)
  have hb := wr_len m (a :: r)
  refine ss_nx ?_
  simp [evS, evE, evEs, evOr, evSs, res, ress, fz, cmpD, depLe, D.beq, truth, mo, glob, args, lentOnce, back, hb, hl, a1, a2, a3]
theorem ts_none {th : D} {d q : Int} (h : 20 < d ∨ q = 0) : evSs mo C b_told_saying [.d th, .d (.int d), .d (.int q), .no, .no, .no, .no, .no] = .rt (.p .non) [.d th, .d (.int d), .d (.int q), .no, .no, .no, .no, .no] := by
  refine ss_rt ?_
  by_cases h1 : 20 < d
  · simp [evS, evE, evOr, evSs, res, fz, cmpD, truth, mo, glob, h1, b_told_saying_0a]
  · have h2 : q = 0 := h.resolve_left h1
    subst h2
    simp [evS, evE, evOr, evSs, res, fz, cmpD, truth, mo, glob, h1, b_told_saying_0a, depLe, D.beq]
/-- a turn of the loop over the arms -/
theorem ts_turn {th x y : D} {d q l l2 : Int} {kd : D} {told : List D} {s6 s7 : Sl} (h6 : fr s6 = true) (h7 : fr s7 = true) (hl : told.length < 100000) (hc : C 9 [.a x, .a (.int (d + 1)), .a (.int l)] = .ok (.p (.tup [y, .int l2])) []) :
    turn mo C [6] b_told_saying_6a [.d th, .d (.int d), .d (.int q), .d kd, .own false told, .d (.int l), s6, s7] x = .nx [.d th, .d (.int d), .d (.int q), .d kd, .own false (told ++ [y]), .d (.int l2), .d x, .d (.tup [y, .int l2])] := by
  refine turn_ev (ρ2 := [.d th, .d (.int d), .d (.int q), .d kd, .own false told, .d (.int l), .d x, s7]) (bind1 rfl h6) ?_
  refine (ss_nx (ρ1 := [.d th, .d (.int d), .d (.int q), .d kd, .own false told, .d (.int l), .d x, .d (.tup [y, .int l2])]) (asg_ev (call_ev (vs := [.p x, .p (.int (d + 1)), .p (.int l)]) (as := [.a x, .a (.int (d + 1)), .a (.int l)]) rfl rfl rfl hc rfl) (put_p rfl h7))).trans ?_
  refine (ss_nx (ρ1 := [.d th, .d (.int d), .d (.int q), .d kd, .own false told, .d (.int l), .d x, .d (.tup [y, .int l2])]) rfl).trans ?_
  refine (ss_nx (ρ1 := [.d th, .d (.int d), .d (.int q), .d kd, .own false (told ++ [y]), .d (.int l), .d x, .d (.tup [y, .int l2])]) (app_ev (ρ1 := [.d th, .d (.int d), .d (.int q), .d kd, .own false told, .d (.int l), .d x, .d (.tup [y, .int l2])]) (v := .p y) rfl rfl rfl rfl hl)).trans ?_
  exact ss_nx rfl
theorem ft_rt {turn : Env → D → Rs} {ρ ρ1 : Env} {v : Val} {d : D} {r : List D} (h : turn ρ d = .rt v ρ1) : forTurns turn ρ (d :: r) = .rt v ρ1 := by
  rw [forTurns, h]
theorem ts_turn_none {th x : D} {d q l : Int} {kd : D} {told : List D} {s6 s7 : Sl} (h6 : fr s6 = true) (h7 : fr s7 = true) (hc : C 9 [.a x, .a (.int (d + 1)), .a (.int l)] = .ok (.p .non) []) :
    turn mo C [6] b_told_saying_6a [.d th, .d (.int d), .d (.int q), .d kd, .own false told, .d (.int l), s6, s7] x = .rt (.p .non) [.d th, .d (.int d), .d (.int q), .d kd, .own false told, .d (.int l), .d x, .d .non] := by
  refine turn_ev (ρ2 := [.d th, .d (.int d), .d (.int q), .d kd, .own false told, .d (.int l), .d x, s7]) (bind1 rfl h6) ?_
  refine (ss_nx (ρ1 := [.d th, .d (.int d), .d (.int q), .d kd, .own false told, .d (.int l), .d x, .d .non]) (asg_ev (call_ev (vs := [.p x, .p (.int (d + 1)), .p (.int l)]) (as := [.a x, .a (.int (d + 1)), .a (.int l)]) rfl rfl rfl hc rfl) (put_p rfl h7))).trans ?_
  exact ss_rt rfl
end
/-- from the loop on, one arm -/
theorem ts_one {C : Nat → List Arg → Rc} {m : Bool} {kd x y : D} {d q : Int} (hl : 0 < q) (hd : d ≤ 20) (hls : C 1 [.a (wr m [kd, x])] = .ok (.p (.bl true)) [])
    (h1 : evSs mo C b_told_saying_1 [.d (wr m [kd, x]), .d (.int d), .d (.int q), .no, .no, .no, .no, .no] = evSs mo C b_told_saying_6 [.d (wr m [kd, x]), .d (.int d), .d (.int q), .d kd, .own false [kd], .d (.int (q - 1)), .no, .no]) {s : Sy} (hc : C 9 [.a x, .a (.int (d + 1)), .a (.int (q - 1))] = .ok (.p (toldD s (d + 1) (q - 1))) []) :
    runFn mo C F_told_saying [.a (wr m [kd, x]), .a (.int d), .a (.int q)] = .ok (.p (if Fits s (d + 1) (q - 1) then .tup [.tup [kd, enc true s], .int (q - 1 - sz s)] else .non)) [] := by
  unfold toldD at hc
  have hit : evIt mo C (.val (.slF (.bor 0) (.c (.int 1)))) [.d (wr m [kd, x]), .d (.int d), .d (.int q), .d kd, .own false [kd], .d (.int (q - 1)), .no, .no] = some ([x], [.d (wr m [kd, x]), .d (.int d), .d (.int q), .d kd, .own false [kd], .d (.int (q - 1)), .no, .no]) := by
    cases m <;> rfl
  by_cases hf : Fits s (d + 1) (q - 1)
  · rw [if_pos hf] at hc ⊢
    refine run0 (ρ0 := [.d (wr m [kd, x]), .d (.int d), .d (.int q), .no, .no, .no, .no, .no]) (ρ := [.d (wr m [kd, x]), .d (.int d), .d (.int q), .d kd, .own false ([kd] ++ [enc true s]), .d (.int (q - 1 - sz s)), .d x, .d (.tup [enc true s, .int (q - 1 - sz s)])]) ?_ rfl rfl (by intro i h; cases h) rfl
    exact (ts_head hd hl hls).trans (h1.trans ((ss_nx ((for_ev hit).trans ((ft_nx (ts_turn rfl rfl (by simp) hc)).trans ft_nil))).trans (ss_rt rfl)))
  · rw [if_neg hf] at hc ⊢
    refine run0 (ρ0 := [.d (wr m [kd, x]), .d (.int d), .d (.int q), .no, .no, .no, .no, .no]) (ρ := [.d (wr m [kd, x]), .d (.int d), .d (.int q), .d kd, .own false [kd], .d (.int (q - 1)), .d x, .d .non]) ?_ rfl rfl (by intro i h; cases h) rfl
    exact (ts_head hd hl hls).trans (h1.trans (ss_rt ((for_ev hit).trans (ft_rt (ts_turn_none rfl rfl hc)))))
theorem ts_two {C : Nat → List Arg → Rc} {m : Bool} {kd x z : D} {d q : Int} (hl : 0 < q) (hd : d ≤ 20) (hls : C 1 [.a (wr m [kd, x, z])] = .ok (.p (.bl true)) [])
    (h1 : evSs mo C b_told_saying_1 [.d (wr m [kd, x, z]), .d (.int d), .d (.int q), .no, .no, .no, .no, .no] = evSs mo C b_told_saying_6 [.d (wr m [kd, x, z]), .d (.int d), .d (.int q), .d kd, .own false [kd], .d (.int (q - 1)), .no, .no]) {s t : Sy} (hc : C 9 [.a x, .a (.int (d + 1)), .a (.int (q - 1))] = .ok (.p (toldD s (d + 1) (q - 1))) [])
    (hc2 : Fits s (d + 1) (q - 1) → C 9 [.a z, .a (.int (d + 1)), .a (.int (q - 1 - sz s))] = .ok (.p (toldD t (d + 1) (q - 1 - sz s))) []) :
    runFn mo C F_told_saying [.a (wr m [kd, x, z]), .a (.int d), .a (.int q)] = .ok (.p (if Fits s (d + 1) (q - 1) ∧ Fits t (d + 1) (q - 1 - sz s) then .tup [.tup [kd, enc true s, enc true t], .int (q - 1 - sz s - sz t)] else .non)) [] := by
  unfold toldD at hc hc2
  have hit : evIt mo C (.val (.slF (.bor 0) (.c (.int 1)))) [.d (wr m [kd, x, z]), .d (.int d), .d (.int q), .d kd, .own false [kd], .d (.int (q - 1)), .no, .no] = some ([x, z], [.d (wr m [kd, x, z]), .d (.int d), .d (.int q), .d kd, .own false [kd], .d (.int (q - 1)), .no, .no]) := by
    cases m <;> rfl
  by_cases hf : Fits s (d + 1) (q - 1)
  · rw [if_pos hf] at hc
    have hc2 := hc2 hf
    by_cases hg : Fits t (d + 1) (q - 1 - sz s)
    · rw [if_pos hg] at hc2
      rw [if_pos ⟨hf, hg⟩]
      refine run0 (ρ0 := [.d (wr m [kd, x, z]), .d (.int d), .d (.int q), .no, .no, .no, .no, .no]) (ρ := [.d (wr m [kd, x, z]), .d (.int d), .d (.int q), .d kd, .own false ([kd] ++ [enc true s] ++ [enc true t]), .d (.int (q - 1 - sz s - sz t)), .d z, .d (.tup [enc true t, .int (q - 1 - sz s - sz t)])]) ?_ rfl rfl (by intro i h; cases h) rfl
      exact (ts_head hd hl hls).trans (h1.trans ((ss_nx ((for_ev hit).trans ((ft_nx (ts_turn rfl rfl (by simp) hc)).trans ((ft_nx (ts_turn rfl rfl (by simp) hc2)).trans ft_nil)))).trans (ss_rt rfl)))
    · rw [if_neg hg] at hc2
      rw [if_neg fun h => hg h.2]
      refine run0 (ρ0 := [.d (wr m [kd, x, z]), .d (.int d), .d (.int q), .no, .no, .no, .no, .no]) (ρ := [.d (wr m [kd, x, z]), .d (.int d), .d (.int q), .d kd, .own false ([kd] ++ [enc true s]), .d (.int (q - 1 - sz s)), .d z, .d .non]) ?_ rfl rfl (by intro i h; cases h) rfl
      exact (ts_head hd hl hls).trans (h1.trans (ss_rt ((for_ev hit).trans ((ft_nx (ts_turn rfl rfl (by simp) hc)).trans (ft_rt (ts_turn_none rfl rfl hc2))))))
  · rw [if_neg hf] at hc
    rw [if_neg fun h => hf h.1]
    refine run0 (ρ0 := [.d (wr m [kd, x, z]), .d (.int d), .d (.int q), .no, .no, .no, .no, .no]) (ρ := [.d (wr m [kd, x, z]), .d (.int d), .d (.int q), .d kd, .own false [kd], .d (.int (q - 1)), .d x, .d .non]) ?_ rfl rfl (by intro i h; cases h) rfl
    exact (ts_head hd hl hls).trans (h1.trans (ss_rt ((for_ev hit).trans (ft_rt (ts_turn_none rfl rfl hc)))))
theorem told_ok : ∀ (s : Sy), Nm s → ∀ (m : Bool) (d q : Int) (N : Nat), 0 ≤ q → dp s + 5 ≤ N → call mo prog N 9 [.a (enc m s), .a (.int d), .a (.int q)] = .ok (.p (toldD s d q)) []
  | s, hs, m, d, q, N, hq, hN => by
    obtain ⟨n, rfl⟩ : ∃ n, N = n + 1 := ⟨N - 1, by omega⟩
    have pz := sz_pos s
    by_cases h0 : 20 < d ∨ q = 0
    · have : ¬ Fits s d q := by unfold Fits; omega
      unfold toldD
      rw [if_neg this, call_s _ _ _ F_told_saying rfl]
      exact run0 (ρ0 := [.d (enc m s), .d (.int d), .d (.int q), .no, .no, .no, .no, .no]) (ts_none h0) rfl rfl (by intro i h; cases h) rfl
    · have hd : d ≤ 20 := by omega
      have hl : 0 < q := by omega
      match s, hs, hN, pz with
      | .yes, hs, hN, pz =>
        have hf : Fits .yes d q := by unfold Fits; simp [dp, sz]; omega
        unfold toldD
        rw [if_pos hf, call_s _ _ _ F_told_saying rfl]
        obtain ⟨k, rfl⟩ : ∃ k, n = k + 1 := ⟨n - 1, by omega⟩
        refine run0 (ρ0 := [.d (wr m [.s "yes"]), .d (.int d), .d (.int q), .no, .no, .no, .no, .no]) (ρ := [.d (wr m [.s "yes"]), .d (.int d), .d (.int q), .d (.s "yes"), .own false [.s "yes"], .d (.int (q - 1)), .no, .no]) ((ts_head hd hl (listed k m _)).trans ?_) rfl rfl (by intro i h; cases h) rfl
        cases m <;> rfl
      | .no, hs, hN, pz =>
        have hf : Fits .no d q := by unfold Fits; simp [dp, sz]; omega
        unfold toldD
        rw [if_pos hf, call_s _ _ _ F_told_saying rfl]
        obtain ⟨k, rfl⟩ : ∃ k, n = k + 1 := ⟨n - 1, by omega⟩
        refine run0 (ρ0 := [.d (wr m [.s "no"]), .d (.int d), .d (.int q), .no, .no, .no, .no, .no]) (ρ := [.d (wr m [.s "no"]), .d (.int d), .d (.int q), .d (.s "no"), .own false [.s "no"], .d (.int (q - 1)), .no, .no]) ((ts_head hd hl (listed k m _)).trans ?_) rfl rfl (by intro i h; cases h) rfl
        cases m <;> rfl
      | .fact x, hs, hN, pz =>
        have hf : Fits (.fact x) d q := by unfold Fits; simp [dp, sz]; omega
        unfold toldD
        rw [if_pos hf, call_s _ _ _ F_told_saying rfl]
        obtain ⟨k, rfl⟩ : ∃ k, n = k + 3 := ⟨n - 3, by simp [dp] at hN; omega⟩
        have hx := nm_ok k (hs x (by simp [met]))
        refine run0 (ρ0 := [.d (wr m [.s "fact", .str x]), .d (.int d), .d (.int q), .no, .no, .no, .no, .no]) (ρ := [.d (wr m [.s "fact", .str x]), .d (.int d), .d (.int q), .d (.s "fact"), .no, .no, .no, .no]) ((ts_head hd hl (listed (k + 2) m _)).trans ?_) rfl rfl (by intro i h; cases h) rfl
        have h1 : evSs mo (call mo prog (k + 3)) b_told_saying_1 [.d (wr m [.s "fact", .str x]), .d (.int d), .d (.int q), .no, .no, .no, .no, .no] = evSs mo (call mo prog (k + 3)) b_told_saying_3 [.d (wr m [.s "fact", .str x]), .d (.int d), .d (.int q), .d (.s "fact"), .no, .no, .no, .no] := by cases m <;> rfl
        refine h1.trans (ss_rt (if_t (ρ1 := [.d (wr m [.s "fact", .str x]), .d (.int d), .d (.int q), .d (.s "fact"), .no, .no, .no, .no]) rfl (ss_rt (ret_ev ?_ (by intro i h; cases h) (by intro i h; cases h)))))
        have hi : evE mo (call mo prog (k + 3)) (.ix (.bor 0) (.c (.int 1))) [.d (wr m [.s "fact", .str x]), .d (.int d), .d (.int q), .d (.s "fact"), .no, .no, .no, .no] = .ok (.p (.str x)) [.d (wr m [.s "fact", .str x]), .d (.int d), .d (.int q), .d (.s "fact"), .no, .no, .no, .no] := by cases m <;> rfl
        refine tup_ev (es_cons (v := .p (.tup [.s "fact", .str x])) (tup_ev (es_cons (v := .p (.s "fact")) rfl (es_cons hi rfl)) rfl rfl) (es_cons (v := .p (.int (q - 1))) (ifE_t (call_ev (es_cons hi rfl) (as := [.a (.str x)]) rfl rfl hx rfl) rfl) rfl)) rfl rfl
      | .neg a, hs, hN, pz =>
        simp [dp] at hN
        obtain ⟨k, rfl⟩ : ∃ k, n = k + 1 := ⟨n - 1, by omega⟩
        have iha := told_ok a hs m (d + 1) (q - 1) (k + 1) (by omega) (by omega)
        rw [call_s _ _ _ F_told_saying rfl]
        refine (ts_one (kd := .s "not") (y := enc m a) (s := a) hl hd (listed k m _) (by cases m <;> rfl) iha).trans ?_
        have e : Fits a (d + 1) (q - 1) ↔ Fits (.neg a) d q := by unfold Fits; simp [dp, sz]; omega
        unfold toldD
        by_cases hf : Fits a (d + 1) (q - 1)
        · rw [if_pos hf, if_pos (e.mp hf)]
          have : q - 1 - (sz a : Int) = q - (sz (.neg a) : Nat) := by simp [sz]; omega
          rw [this]
          rfl
        · rw [if_neg hf, if_neg fun h => hf (e.mpr h)]
      | .and a b, hs, hN, pz =>
        simp [dp] at hN
        obtain ⟨k, rfl⟩ : ∃ k, n = k + 1 := ⟨n - 1, by omega⟩
        have iha := told_ok a (fun x h => hs x (by simp [met, h])) m (d + 1) (q - 1) (k + 1) (by omega) (by omega)
        rw [call_s _ _ _ F_told_saying rfl]
        refine (ts_two (kd := .s "and") (s := a) (t := b) hl hd (listed k m _) (by cases m <;> rfl) iha (fun hf => told_ok b (fun x h => hs x (by simp [met, h])) m (d + 1) (q - 1 - sz a) (k + 1) (by unfold Fits at hf; omega) (by omega))).trans ?_
        have e : (Fits a (d + 1) (q - 1) ∧ Fits b (d + 1) (q - 1 - sz a)) ↔ Fits (.and a b) d q := by unfold Fits; simp [dp, sz]; omega
        unfold toldD
        by_cases hf : Fits a (d + 1) (q - 1) ∧ Fits b (d + 1) (q - 1 - sz a)
        · rw [if_pos hf, if_pos (e.mp hf)]
          have : q - 1 - (sz a : Int) - sz b = q - (sz (.and a b) : Nat) := by simp [sz]; omega
          rw [this]
          rfl
        · rw [if_neg hf, if_neg fun h => hf (e.mpr h)]
      | .or a b, hs, hN, pz =>
        simp [dp] at hN
        obtain ⟨k, rfl⟩ : ∃ k, n = k + 1 := ⟨n - 1, by omega⟩
        have iha := told_ok a (fun x h => hs x (by simp [met, h])) m (d + 1) (q - 1) (k + 1) (by omega) (by omega)
        rw [call_s _ _ _ F_told_saying rfl]
        refine (ts_two (kd := .s "or") (s := a) (t := b) hl hd (listed k m _) (by cases m <;> rfl) iha (fun hf => told_ok b (fun x h => hs x (by simp [met, h])) m (d + 1) (q - 1 - sz a) (k + 1) (by unfold Fits at hf; omega) (by omega))).trans ?_
        have e : (Fits a (d + 1) (q - 1) ∧ Fits b (d + 1) (q - 1 - sz a)) ↔ Fits (.or a b) d q := by unfold Fits; simp [dp, sz]; omega
        unfold toldD
        by_cases hf : Fits a (d + 1) (q - 1) ∧ Fits b (d + 1) (q - 1 - sz a)
        · rw [if_pos hf, if_pos (e.mp hf)]
          have : q - 1 - (sz a : Int) - sz b = q - (sz (.or a b) : Nat) := by simp [sz]; omega
          rw [this]
          rfl
        · rw [if_neg hf, if_neg fun h => hf (e.mpr h)]
end K01
end
section
set_option linter.all false
set_option maxRecDepth 100000
set_option maxHeartbeats 4000000
namespace K01
open Cz
/-! ### saying_or_none, checked_saying -/
theorem son_ok {n : Nat} {d e : D} {k : Int} (h : call mo prog n 9 [.a d, .a (.int 0), .a (.int 60)] = .ok (.p (.tup [e, .int k])) []) : call mo prog (n + 1) 10 [.a d] = .ok (.p e) [] := by
  rw [call_s _ _ _ F_saying_or_none rfl]
  refine run0 (ρ0 := [.d d, .no]) (ρ := [.d d, .d (.tup [e, .int k])]) ?_ rfl rfl (by intro i h; cases h) rfl
  refine (ss_nx (ρ1 := [.d d, .d (.tup [e, .int k])]) (asg_ev (call_ev (vs := [.p d, .p (.int 0), .p (.int 60)]) (as := [.a d, .a (.int 0), .a (.int 60)]) rfl rfl rfl h rfl) rfl)).trans ?_
  rfl
theorem son_no1 {n : Nat} {d : D} (h : call mo prog n 9 [.a d, .a (.int 0), .a (.int 60)] = .ok (.p .non) []) : call mo prog (n + 1) 10 [.a d] = .ok (.p .non) [] := by
  rw [call_s _ _ _ F_saying_or_none rfl]
  refine run0 (ρ0 := [.d d, .no]) (ρ := [.d d, .d .non]) ?_ rfl rfl (by intro i h; cases h) rfl
  refine (ss_nx (ρ1 := [.d d, .d .non]) (asg_ev (call_ev (vs := [.p d, .p (.int 0), .p (.int 60)]) (as := [.a d, .a (.int 0), .a (.int 60)]) rfl rfl rfl h rfl) rfl)).trans ?_
  rfl
theorem son_no2 {n : Nat} {d x : D} (h : call mo prog n 9 [.a d, .a (.int 0), .a (.int 60)] = .ok (.p (.tup [x, .non])) []) : call mo prog (n + 1) 10 [.a d] = .ok (.p .non) [] := by
  rw [call_s _ _ _ F_saying_or_none rfl]
  refine run0 (ρ0 := [.d d, .no]) (ρ := [.d d, .d (.tup [x, .non])]) ?_ rfl rfl (by intro i h; cases h) rfl
  refine (ss_nx (ρ1 := [.d d, .d (.tup [x, .non])]) (asg_ev (call_ev (vs := [.p d, .p (.int 0), .p (.int 60)]) (as := [.a d, .a (.int 0), .a (.int 60)]) rfl rfl rfl h rfl) rfl)).trans ?_
  rfl
theorem chk_ok {n : Nat} {d : D} {xs : List D} (h : call mo prog n 10 [.a d] = .ok (.p (.tup xs)) []) : call mo prog (n + 1) 11 [.a d] = .ok (.p (.tup xs)) [] := by
  rw [call_s _ _ _ F_checked_saying rfl]
  refine run0 (ρ0 := [.d d, .no]) (ρ := [.d d, .d (.tup xs)]) ?_ rfl rfl (by intro i h; cases h) rfl
  refine (ss_nx (ρ1 := [.d d, .d (.tup xs)]) (asg_ev (call_ev (vs := [.p d]) (as := [.a d]) rfl rfl rfl h rfl) rfl)).trans ?_
  rfl
theorem chk_no {n : Nat} {d : D} (h : call mo prog n 10 [.a d] = .ok (.p .non) []) : call mo prog (n + 1) 11 [.a d] = .ex ⟨3, d⟩ [] := by
  rw [call_s _ _ _ F_checked_saying rfl]
  refine run0x (ρ0 := [.d d, .no]) (ρ := [.d d, .d .non]) ?_ rfl rfl rfl
  refine (ss_nx (ρ1 := [.d d, .d .non]) (asg_ev (call_ev (vs := [.p d]) (as := [.a d]) rfl rfl rfl h rfl) rfl)).trans ?_
  rfl
theorem enc_tup (s : Sy) : ∃ xs, enc true s = .tup xs := by cases s <;> exact ⟨_, rfl⟩
/-- a right saying -/
structure Ok (s : Sy) : Prop where
  nm : Nm s
  dp : dp s ≤ 20
  sz : sz s ≤ 60
theorem checked_ok {s : Sy} (h : Ok s) (m : Bool) (N : Nat) (hN : dp s + 7 ≤ N) : call mo prog N 11 [.a (enc m s)] = .ok (.p (enc true s)) [] := by
  obtain ⟨n, rfl⟩ : ∃ n, N = n + 2 := ⟨N - 2, by omega⟩
  have h1 := told_ok s h.nm m 0 60 n (by omega) (by omega)
  have hf : Fits s 0 60 := by
    have := h.dp
    have := h.sz
    unfold Fits
    omega
  unfold toldD at h1
  rw [if_pos hf] at h1
  obtain ⟨xs, e⟩ := enc_tup s
  have h2 := son_ok h1
  rw [e] at h2 ⊢
  exact chk_ok h2
theorem checked_no {s : Sy} (h : Nm s) (hn : ¬ Fits s 0 60) (m : Bool) (N : Nat) (hN : dp s + 7 ≤ N) : call mo prog N 11 [.a (enc m s)] = .ex ⟨3, enc m s⟩ [] := by
  obtain ⟨n, rfl⟩ : ∃ n, N = n + 2 := ⟨N - 2, by omega⟩
  have h1 := told_ok s h m 0 60 n (by omega) (by omega)
  unfold toldD at h1
  rw [if_neg hn] at h1
  exact chk_no (son_no1 h1)
/-! ### facts_met -/
theorem met_in {C : Nat → List Arg → Rc} (a x : D) : ∀ (ds : List D) (s2 : Sl), ∃ s2', lcTurns (lci mo C [2] (.var 2)) [.d a, .d x, s2] ds = some (ds, [.d a, .d x, s2'])
  | [], s2 => ⟨s2, rfl⟩
  | d :: r, s2 => by
    obtain ⟨s, h⟩ := met_in (C := C) a x r (.d d)
    refine ⟨s, ?_⟩
    have h1 : lci mo C [2] (.var 2) [.d a, .d x, s2] d = some (some d, [.d a, .d x, .d d]) := rfl
    rw [lcTurns, h1]
    simp only [h, Option.map_some]
theorem met_turn {C : Nat → List Arg → Rc} {a x : D} {xs : List D} (s1 s2 : Sl) (hc : C 12 [.a x] = .ok (.f xs) []) : ∃ s2', lco mo C [1] [2] (.val (.call 12 (.cons (.var 1) .nil))) (.var 2) [.d a, s1, s2] x = some (xs, [.d a, .d x, s2']) := by
  obtain ⟨s2', h⟩ := met_in (C := C) a x xs .no
  refine ⟨s2', lco_ev (ρ2 := [.d a, .d x, .no]) (ρ3 := [.d a, .d x, .no]) rfl (it_call (v := .f xs) (d := .lst xs) ?_ rfl rfl) h⟩
  exact call_ev (vs := [.p x]) (as := [.a x]) rfl rfl rfl hc rfl
theorem met_fin {C : Nat → List Arg → Rc} {th : D} {xs ds : List D} {r1 r2 : Sl} (hit : evIt mo C (.val (.slF (.bor 0) (.c (.int 1)))) [.d th, .no, .no] = some (ds, [.d th, .no, .no])) (h : lcTurns2 (lco mo C [1] [2] (.val (.call 12 (.cons (.var 1) .nil))) (.var 2)) [.d th, .no, .no] ds = some (xs, [.d th, r1, r2])) (hl : xs.length ≤ 100000) (h1 : evSs mo C b_facts_met [.d th, .no, .no] = evSs mo C b_facts_met_1 [.d th, .no, .no]) : runFn mo C F_facts_met [.a th] = .ok (.f xs) [] := by
  refine run0 (ρ0 := [.d th, .no, .no]) (ρ := [.d th, .no, .no]) (h1.trans (ss_rt (ret_ev ?_ (by intro i h; cases h) (by intro i h; cases h)))) rfl rfl (by intro i h; cases h) rfl
  exact lc2_ev hit rfl h hl
theorem met1 {C : Nat → List Arg → Rc} {m : Bool} {kd x : D} {xs : List D} (hc : C 12 [.a x] = .ok (.f xs) []) (hl : xs.length ≤ 100000) (h1 : evSs mo C b_facts_met [.d (wr m [kd, x]), .no, .no] = evSs mo C b_facts_met_1 [.d (wr m [kd, x]), .no, .no]) : runFn mo C F_facts_met [.a (wr m [kd, x])] = .ok (.f xs) [] := by
  obtain ⟨s2', h⟩ := met_turn (a := wr m [kd, x]) .no .no hc
  refine met_fin (by cases m <;> rfl) (ds := [x]) (r1 := .d x) (r2 := s2') ?_ hl h1
  exact (l2_cons h l2_nil).trans (by rw [List.append_nil])
theorem met2 {C : Nat → List Arg → Rc} {m : Bool} {kd x y : D} {xs ys : List D} (hc : C 12 [.a x] = .ok (.f xs) []) (hc2 : C 12 [.a y] = .ok (.f ys) []) (hl : (xs ++ ys).length ≤ 100000) (h1 : evSs mo C b_facts_met [.d (wr m [kd, x, y]), .no, .no] = evSs mo C b_facts_met_1 [.d (wr m [kd, x, y]), .no, .no]) : runFn mo C F_facts_met [.a (wr m [kd, x, y])] = .ok (.f (xs ++ ys)) [] := by
  obtain ⟨s2, h⟩ := met_turn (a := wr m [kd, x, y]) .no .no hc
  obtain ⟨s3, h3⟩ := met_turn (a := wr m [kd, x, y]) (.d x) s2 hc2
  refine met_fin (by cases m <;> rfl) (ds := [x, y]) (r1 := .d y) (r2 := s3) ?_ hl h1
  exact (l2_cons h (l2_cons h3 l2_nil)).trans (by rw [List.append_nil])
theorem met_len : ∀ s : Sy, (met s).length ≤ sz s
  | .yes => by simp [met]
  | .no => by simp [met]
  | .fact s => by simp [met, sz]
  | .neg a => by have := met_len a; simp only [met, sz]; omega
  | .and a b => by have := met_len a; have := met_len b; simp only [met, sz, List.length_append]; omega
  | .or a b => by have := met_len a; have := met_len b; simp only [met, sz, List.length_append]; omega
/-- the facts as data -/
def mD (s : Sy) : List D := (met s).map .str
theorem mD_len {s : Sy} (h : sz s ≤ 60) : (mD s).length ≤ 60 := by
  have := met_len s
  simp only [mD, List.length_map]
  omega
theorem met_ok : ∀ (s : Sy), sz s ≤ 60 → ∀ (m : Bool) (N : Nat), dp s + 1 ≤ N → call mo prog N 12 [.a (enc m s)] = .ok (.f (mD s)) []
  | .yes, _, m, N, hN => by
    obtain ⟨n, rfl⟩ : ∃ n, N = n + 1 := ⟨N - 1, by omega⟩
    cases m <;> rfl
  | .no, _, m, N, hN => by
    obtain ⟨n, rfl⟩ : ∃ n, N = n + 1 := ⟨N - 1, by omega⟩
    cases m <;> rfl
  | .fact x, _, m, N, hN => by
    obtain ⟨n, rfl⟩ : ∃ n, N = n + 1 := ⟨N - 1, by omega⟩
    cases m <;> rfl
  | .neg a, h, m, N, hN => by
    obtain ⟨n, rfl⟩ : ∃ n, N = n + 1 := ⟨N - 1, by omega⟩
    simp only [sz] at h
    simp only [dp] at hN
    have ih := met_ok a (by omega) m n (by omega)
    have := mD_len (s := a) (by omega)
    rw [call_s _ _ _ F_facts_met rfl, show mD (.neg a) = mD a from rfl]
    exact met1 ih (by omega) (by cases m <;> rfl)
  | .and a b, h, m, N, hN => by
    obtain ⟨n, rfl⟩ : ∃ n, N = n + 1 := ⟨N - 1, by omega⟩
    simp only [sz] at h
    simp only [dp] at hN
    have ih := met_ok a (by omega) m n (by omega)
    have ih2 := met_ok b (by omega) m n (by omega)
    have := mD_len (s := a) (by omega)
    have := mD_len (s := b) (by omega)
    rw [call_s _ _ _ F_facts_met rfl, show mD (.and a b) = mD a ++ mD b by simp [mD, met]]
    exact met2 ih ih2 (by rw [List.length_append]; omega) (by cases m <;> rfl)
  | .or a b, h, m, N, hN => by
    obtain ⟨n, rfl⟩ : ∃ n, N = n + 1 := ⟨N - 1, by omega⟩
    simp only [sz] at h
    simp only [dp] at hN
    have ih := met_ok a (by omega) m n (by omega)
    have ih2 := met_ok b (by omega) m n (by omega)
    have := mD_len (s := a) (by omega)
    have := mD_len (s := b) (by omega)
    rw [call_s _ _ _ F_facts_met rfl, show mD (.or a b) = mD a ++ mD b by simp [mD, met]]
    exact met2 ih ih2 (by rw [List.length_append]; omega) (by cases m <;> rfl)
/-! ### _law_met -/
theorem lmet_turn {C : Nat → List Arg → Rc} {th x : D} {s2 : Sl} {xs ys : List D} (h2 : fr s2 = true) (hc : C 30 [.a x] = .ok (.f ys) []) (hl : xs.length + ys.length ≤ 100000) : turn mo C [2] b__law_met_2a [.d th, .own false xs, s2] x = .nx [.d th, .own false (xs ++ ys), .d x] := by
  refine turn_ev (ρ2 := [.d th, .own false xs, .d x]) (bind1 rfl h2) ?_
  refine (ss_nx (ρ1 := [.d th, .own false (xs ++ ys), .d x]) (asg_ev (v := .f (xs ++ ys)) (cat_ev (v := .b 1) (w := .f ys) rfl (call_ev (vs := [.p x]) (as := [.a x]) rfl rfl rfl hc rfl) rfl rfl rfl hl) rfl)).trans ?_
  rfl
theorem lmet1 {C : Nat → List Arg → Rc} {m : Bool} {kd x : D} {xs : List D} (hc : C 30 [.a x] = .ok (.f xs) []) (hl : xs.length ≤ 1000) (h1 : evSs mo C b__law_met [.d (wr m [kd, x]), .no, .no] = evSs mo C b__law_met_2 [.d (wr m [kd, x]), .own false [], .no]) : runFn mo C F__law_met [.a (wr m [kd, x])] = .ok (.f xs) [] := by
  refine run0 (ρ0 := [.d (wr m [kd, x]), .no, .no]) (ρ := [.d (wr m [kd, x]), .no, .d x]) (h1.trans ?_) rfl rfl (by intro i h; cases h) rfl
  refine (ss_nx ((for_ev (ds := [x]) (ρ1 := [.d (wr m [kd, x]), .own false [], .no]) (by cases m <;> rfl)).trans ((ft_nx (lmet_turn rfl hc (by simp; omega))).trans ft_nil))).trans ?_
  rfl
theorem lmet2 {C : Nat → List Arg → Rc} {m : Bool} {kd x y : D} {xs ys : List D} (hc : C 30 [.a x] = .ok (.f xs) []) (hc2 : C 30 [.a y] = .ok (.f ys) []) (hl : xs.length ≤ 1000) (hl2 : ys.length ≤ 1000) (h1 : evSs mo C b__law_met [.d (wr m [kd, x, y]), .no, .no] = evSs mo C b__law_met_2 [.d (wr m [kd, x, y]), .own false [], .no]) : runFn mo C F__law_met [.a (wr m [kd, x, y])] = .ok (.f (xs ++ ys)) [] := by
  refine run0 (ρ0 := [.d (wr m [kd, x, y]), .no, .no]) (ρ := [.d (wr m [kd, x, y]), .no, .d y]) (h1.trans ?_) rfl rfl (by intro i h; cases h) rfl
  refine (ss_nx ((for_ev (ds := [x, y]) (ρ1 := [.d (wr m [kd, x, y]), .own false [], .no]) (by cases m <;> rfl)).trans ((ft_nx (lmet_turn rfl hc (by simp; omega))).trans ((ft_nx (lmet_turn rfl hc2 (by simp; omega))).trans ft_nil)))).trans ?_
  rfl
theorem lmet_ok : ∀ (s : Sy), sz s ≤ 60 → ∀ (m : Bool) (N : Nat), dp s + 1 ≤ N → call mo prog N 30 [.a (enc m s)] = .ok (.f (mD s)) []
  | .yes, _, m, N, hN => by
    obtain ⟨n, rfl⟩ : ∃ n, N = n + 1 := ⟨N - 1, by omega⟩
    cases m <;> rfl
  | .no, _, m, N, hN => by
    obtain ⟨n, rfl⟩ : ∃ n, N = n + 1 := ⟨N - 1, by omega⟩
    cases m <;> rfl
  | .fact x, _, m, N, hN => by
    obtain ⟨n, rfl⟩ : ∃ n, N = n + 1 := ⟨N - 1, by omega⟩
    cases m <;> rfl
  | .neg a, h, m, N, hN => by
    obtain ⟨n, rfl⟩ : ∃ n, N = n + 1 := ⟨N - 1, by omega⟩
    simp only [sz] at h
    simp only [dp] at hN
    have ih := lmet_ok a (by omega) m n (by omega)
    have := mD_len (s := a) (by omega)
    rw [call_s _ _ _ F__law_met rfl, show mD (.neg a) = mD a from rfl]
    exact lmet1 ih (by omega) (by cases m <;> rfl)
  | .and a b, h, m, N, hN => by
    obtain ⟨n, rfl⟩ : ∃ n, N = n + 1 := ⟨N - 1, by omega⟩
    simp only [sz] at h
    simp only [dp] at hN
    have ih := lmet_ok a (by omega) m n (by omega)
    have ih2 := lmet_ok b (by omega) m n (by omega)
    have := mD_len (s := a) (by omega)
    have := mD_len (s := b) (by omega)
    rw [call_s _ _ _ F__law_met rfl, show mD (.and a b) = mD a ++ mD b by simp [mD, met]]
    exact lmet2 ih ih2 (by omega) (by omega) (by cases m <;> rfl)
  | .or a b, h, m, N, hN => by
    obtain ⟨n, rfl⟩ : ∃ n, N = n + 1 := ⟨N - 1, by omega⟩
    simp only [sz] at h
    simp only [dp] at hN
    have ih := lmet_ok a (by omega) m n (by omega)
    have ih2 := lmet_ok b (by omega) m n (by omega)
    have := mD_len (s := a) (by omega)
    have := mD_len (s := b) (by omega)
    rw [call_s _ _ _ F__law_met rfl, show mD (.or a b) = mD a ++ mD b by simp [mD, met]]
    exact lmet2 ih ih2 (by omega) (by omega) (by cases m <;> rfl)
end K01
end
section
set_option linter.all false
set_option maxRecDepth 100000
set_option maxHeartbeats 4000000
namespace Cz
variable {M : Mo} {C : Nat → List Arg → Rc}
theorem run_nx {F : Fn} {as : List Arg} {ρ0 ρ : Env} {os : List (List D)} (h : evSs M C F.body ρ0 = .nx ρ) (hl : as.length = F.np) (hs : startEnv as F.ns = ρ0) (ho : outsOf as ρ = some os) : runFn M C F as = .ok (.p .non) os := by
  unfold runFn
  rw [if_pos hl, hs, h]
  simp only [ho]
theorem allStr_map : ∀ ks : List (List Nat), allStr (ks.map .str) = some ks
  | [] => rfl
  | k :: r => by
    rw [List.map_cons, allStr, allStr_map r]
    rfl
theorem sset_ev {a : E} {ρ ρ1 : Env} {ks : List (List Nat)} (h : evE M C a ρ = .ok (.f (ks.map .str)) ρ1) (hl : ks.length < 64) : evE M C (.sset a) ρ = .ok (.f ((sortU ks).map .str)) ρ1 := by
  rw [evE, h]
  simp only [fz, res, allStr_map, if_pos hl]
theorem strs_dep {ks : List (List Nat)} {n : Nat} : depsLe n (ks.map .str) = true := by
  refine depsLe_of fun x m => ?_
  obtain ⟨k, _, rfl⟩ := List.mem_map.mp m
  unfold depLe
  rfl
theorem memD_str {x : List Nat} : ∀ {F : List (List Nat)}, memD (.str x) (F.map .str) = decide (x ∈ F)
  | [] => rfl
  | y :: r => by
    have ih := memD_str (x := x) (F := r)
    unfold memD at ih ⊢
    rw [List.map_cons, List.any_cons, ih]
    unfold D.beq
    by_cases h : y = x
    · subst h; simp
    · have h2 : ¬ x = y := fun e => h e.symm
      simp [h, h2]
theorem flats_str {ks : List (List Nat)} : (ks.map D.str).all flat = true := by
  rw [List.all_eq_true]
  intro x m
  obtain ⟨k, _, rfl⟩ := List.mem_map.mp m
  rfl
theorem nin_str {x : List Nat} {F : List (List Nat)} : cmpD .nin (.str x) (.tup (F.map .str)) = some (!decide (x ∈ F)) := by
  unfold cmpD
  simp only [flats_str, memD_str, flat, Bool.and_self, if_true]
theorem in_str {x : List Nat} {F : List (List Nat)} : cmpD .in_ (.str x) (.tup (F.map .str)) = some (decide (x ∈ F)) := by
  unfold cmpD
  simp only [flats_str, memD_str, flat, Bool.and_self, if_true]
end Cz
namespace K01
open Cz
/-! ### _law_lists -/
mutual
def lsD : D → D
  | .tup xs => .lst (lsDs xs)
  | d => d
def lsDs : List D → List D
  | [] => []
  | x :: r => lsD x :: lsDs r
end
theorem lsDs_map : ∀ xs : List D, lsDs xs = xs.map lsD
  | [] => by unfold lsDs; rfl
  | x :: r => by
    unfold lsDs
    rw [lsDs_map r]
    rfl
theorem lists_ok : ∀ (n : Nat) (d : D), depLe n d = true → ∀ N, n + 1 ≤ N → ∃ v, call mo prog N 31 [.a d] = .ok v [] ∧ fz v = .p (lsD d) := by
  intro n
  induction n with
  | zero =>
    intro d h N hN
    obtain ⟨N, rfl⟩ : ∃ q, N = q + 1 := ⟨N - 1, by omega⟩
    rw [call_s _ _ _ F__law_lists rfl]
    cases d with
    | tup xs => unfold depLe at h; cases h
    | lst xs => unfold depLe at h; cases h
    | dct _ _ => unfold depLe at h; cases h
    | _ => exact ⟨_, rfl, rfl⟩
  | succ n ih =>
    intro d h N hN
    obtain ⟨N, rfl⟩ : ∃ q, N = q + 1 := ⟨N - 1, by omega⟩
    rw [call_s _ _ _ F__law_lists rfl]
    cases d with
    | dct _ _ => unfold depLe at h; cases h
    | tup xs =>
      unfold depLe at h
      have hm := depsLe_mem h
      obtain ⟨ρ1, e1, s, rfl⟩ := lc_map (f := lcf mo (call mo prog N) [1] .nil (.call 31 (.cons (.var 1) .nil))) (fun ρ => ∃ s, ρ = [.d (.tup xs), s]) lsD xs [.d (.tup xs), .no] ⟨_, rfl⟩ (by
        rintro d hd ρ ⟨s, rfl⟩
        obtain ⟨v, hv, hf⟩ := ih d (hm d hd) N (by omega)
        refine ⟨[.d (.tup xs), .d d], ?_, _, rfl⟩
        have hc := call_ev (M := mo) (C := call mo prog N) (f := 31) (es := .cons (.var 1) .nil) (ρ := [.d (.tup xs), .d d]) (vs := [.p d]) (as := [.a d]) rfl rfl rfl hv rfl
        have hb : bindT (wipe [.d (.tup xs), s] [1]) [1] d = some [.d (.tup xs), .d d] := rfl
        unfold lcf
        rw [hb]
        simp only [evAnd, res, fz, Option.bind_some, truth, hc]
        unfold fz at hf
        rw [hf])
      refine ⟨.f (xs.map lsD), ?_, ?_⟩
      · refine run0 (ρ0 := [.d (.tup xs), .no]) (ρ := [.d (.tup xs), .no]) (ss_rt (ret_ev ?_ (by intro i h; cases h) (by intro i h; cases h))) rfl rfl (by intro i h; cases h) rfl
        refine (ifE_ev (v := .p (.bl true)) (k := true) rfl rfl).trans ?_
        rw [if_pos rfl]
        exact lc_ev (ds := xs) rfl rfl e1
      · show Val.p (.lst _) = .p (.lst (lsDs xs))
        rw [lsDs_map]
    | lst xs => exact ⟨_, rfl, rfl⟩
    | _ => exact ⟨_, rfl, rfl⟩
theorem enc_f : ∀ s : Sy, lsD (enc true s) = enc false s
  | .yes => rfl
  | .no => rfl
  | .fact x => rfl
  | .neg a => by simp [enc, wr, lsD, lsDs, enc_f a, D.s]
  | .and a b => by simp [enc, wr, lsD, lsDs, enc_f a, enc_f b, D.s]
  | .or a b => by simp [enc, wr, lsD, lsDs, enc_f a, enc_f b, D.s]
theorem enc_dep : ∀ s : Sy, depLe (dp s + 1) (enc true s) = true
  | .yes => rfl
  | .no => rfl
  | .fact x => rfl
  | .neg a => by
    show depsLe (1 + dp a) [.s "not", enc true a] = true
    refine depsLe_of fun x m => ?_
    have := depLe_mono (m := 1 + dp a) (by omega) (enc_dep a)
    simp only [List.mem_cons, List.not_mem_nil, or_false] at m
    rcases m with rfl | rfl
    · rfl
    · exact this
  | .and a b => by
    show depsLe (1 + max (dp a) (dp b)) [.s "and", enc true a, enc true b] = true
    refine depsLe_of fun x m => ?_
    have := depLe_mono (m := 1 + max (dp a) (dp b)) (by omega) (enc_dep a)
    have := depLe_mono (m := 1 + max (dp a) (dp b)) (by omega) (enc_dep b)
    simp only [List.mem_cons, List.not_mem_nil, or_false] at m
    rcases m with rfl | rfl | rfl
    · rfl
    · assumption
    · assumption
  | .or a b => by
    show depsLe (1 + max (dp a) (dp b)) [.s "or", enc true a, enc true b] = true
    refine depsLe_of fun x m => ?_
    have := depLe_mono (m := 1 + max (dp a) (dp b)) (by omega) (enc_dep a)
    have := depLe_mono (m := 1 + max (dp a) (dp b)) (by omega) (enc_dep b)
    simp only [List.mem_cons, List.not_mem_nil, or_false] at m
    rcases m with rfl | rfl | rfl
    · rfl
    · assumption
    · assumption
theorem enc_dep100 {s : Sy} (h : dp s ≤ 90) : depLe 100 (enc true s) = true := depLe_mono (by omega) (enc_dep s)
theorem enc_dep95 {s : Sy} (h : dp s ≤ 90) : depLe 95 (enc true s) = true := depLe_mono (by omega) (enc_dep s)
theorem llists_ok {s : Sy} (h : dp s ≤ 20) {N : Nat} (hN : dp s + 2 ≤ N) : ∃ v, call mo prog N 31 [.a (enc true s)] = .ok v [] ∧ fz v = .p (enc false s) := by
  obtain ⟨v, h1, h2⟩ := lists_ok (dp s + 1) (enc true s) (enc_dep s) N (by omega)
  exact ⟨v, h1, by rw [h2, enc_f]⟩
/-! ### facts_of, check_known -/
/-- the tuple of the facts -/
def foD (s : Sy) : D := .tup ((sortU (met s)).map .str)
theorem fo_dep (s : Sy) : depLe 100 (foD s) = true := by
  unfold foD depLe
  exact strs_dep
theorem fof_ok {s : Sy} (h : Ok s) {N : Nat} (hN : dp s + 8 ≤ N) : call mo prog N 13 [.a (enc true s)] = .ok (.p (foD s)) [] := by
  obtain ⟨n, rfl⟩ : ∃ n, N = n + 1 := ⟨N - 1, by omega⟩
  have h1 := checked_ok h true n (by omega)
  have h2 := met_ok s h.sz true n (by omega)
  have hl := met_len s
  have hz := h.sz
  rw [call_s _ _ _ F_facts_of rfl]
  refine run0 (ρ0 := [.d (enc true s)]) (ρ := [.d (enc true s)]) (ss_rt (ret_ev ?_ (by intro i h; cases h) (by intro i h; cases h))) rfl rfl (by intro i h; cases h) rfl
  refine tuple_ev (v := .f ((sortU (met s)).map .str)) (sset_ev ?_ (by omega)) rfl
  refine call_ev (vs := [.p (enc true s)]) (as := [.a (enc true s)]) (es_cons (v := .p (enc true s)) (call_ev (vs := [.p (enc true s)]) (as := [.a (enc true s)]) rfl rfl rfl h1 rfl) rfl) rfl rfl h2 rfl
theorem kn_turn {C : Nat → List Arg → Rc} {F : List (List Nat)} {e : D} {x : List Nat} {s2 : Sl} (h2 : fr s2 = true) (hx : x ∈ F) : turn mo C [2] b_check_known_0a [.d (.tup (F.map .str)), .d e, s2] (.str x) = .nx [.d (.tup (F.map .str)), .d e, .d (.str x)] := by
  refine turn_ev (ρ2 := [.d (.tup (F.map .str)), .d e, .d (.str x)]) (bind1 rfl h2) ?_
  refine (ss_nx (if_f (ρ1 := [.d (.tup (F.map .str)), .d e, .d (.str x)]) (cmp_ev (v := .p (.str x)) (w := .p (.tup (F.map .str))) rfl rfl rfl rfl (nin_str.trans (by simp [hx]))) rfl)).trans ?_
  rfl
theorem kn_turn_ex {C : Nat → List Arg → Rc} {F : List (List Nat)} {e : D} {x : List Nat} {s2 : Sl} (h2 : fr s2 = true) (hx : x ∉ F) : turn mo C [2] b_check_known_0a [.d (.tup (F.map .str)), .d e, s2] (.str x) = .ex ⟨7, .str x⟩ [.d (.tup (F.map .str)), .d e, .d (.str x)] := by
  refine turn_ev (ρ2 := [.d (.tup (F.map .str)), .d e, .d (.str x)]) (bind1 rfl h2) ?_
  refine ss_ex ?_
  refine if_t (ρ1 := [.d (.tup (F.map .str)), .d e, .d (.str x)]) (cmp_ev (v := .p (.str x)) (w := .p (.tup (F.map .str))) rfl rfl rfl rfl (nin_str.trans (by simp [hx]))) rfl
theorem kn_goes {C : Nat → List Arg → Rc} {F : List (List Nat)} {e : D} : ∀ (xs : List (List Nat)) (s2 : Sl), fr s2 = true → (∀ x ∈ xs, x ∈ F) → ∃ s2', forTurns (turn mo C [2] b_check_known_0a) [.d (.tup (F.map .str)), .d e, s2] (xs.map .str) = .nx [.d (.tup (F.map .str)), .d e, s2']
  | [], s2, _, _ => ⟨s2, rfl⟩
  | x :: r, s2, h, hx => by
    obtain ⟨s, h1⟩ := kn_goes (C := C) r (.d (.str x)) rfl fun y m => hx y (List.mem_cons_of_mem _ m)
    exact ⟨s, (ft_nx (kn_turn h (hx x List.mem_cons_self))).trans h1⟩
theorem kn_it {n : Nat} {F : List (List Nat)} {s : Sy} (hz : sz s ≤ 60) (hN : dp s + 1 ≤ n) : evIt mo (call mo prog n) (.val (.call 12 (.cons (.var 1) .nil))) [.d (.tup (F.map .str)), .d (enc true s), .no] = some ((met s).map .str, [.d (.tup (F.map .str)), .d (enc true s), .no]) :=
  it_call (v := .f (mD s)) (d := .lst (mD s)) (call_ev (vs := [.p (enc true s)]) (as := [.a (enc true s)]) rfl rfl rfl (met_ok s hz true n hN) rfl) rfl rfl
theorem known_ok {F : List (List Nat)} {s : Sy} (hz : sz s ≤ 60) (hF : ∀ x ∈ met s, x ∈ F) {N : Nat} (hN : dp s + 2 ≤ N) : call mo prog N 14 [.a (.tup (F.map .str)), .a (enc true s)] = .ok (.p .non) [] := by
  obtain ⟨n, rfl⟩ : ∃ n, N = n + 1 := ⟨N - 1, by omega⟩
  rw [call_s _ _ _ F_check_known rfl]
  obtain ⟨s2, h⟩ := kn_goes (C := call mo prog n) (e := enc true s) (met s) .no rfl hF
  refine run_nx (ρ0 := [.d (.tup (F.map .str)), .d (enc true s), .no]) ((ss_nx ((for_ev (kn_it hz (by omega))).trans h)).trans rfl) rfl rfl rfl
theorem known_no {F : List (List Nat)} {s : Sy} {x : List Nat} {r : List (List Nat)} (hz : sz s ≤ 60) (hm : met s = x :: r) (hF : x ∉ F) {N : Nat} (hN : dp s + 2 ≤ N) : call mo prog N 14 [.a (.tup (F.map .str)), .a (enc true s)] = .ex ⟨7, .str x⟩ [] := by
  obtain ⟨n, rfl⟩ : ∃ n, N = n + 1 := ⟨N - 1, by omega⟩
  rw [call_s _ _ _ F_check_known rfl]
  have hi := kn_it (F := F) hz (show dp s + 1 ≤ n by omega)
  rw [hm] at hi
  refine run0x (ρ0 := [.d (.tup (F.map .str)), .d (enc true s), .no]) (ss_ex ((for_ev hi).trans (ft_ex (kn_turn_ex rfl hF)))) rfl rfl rfl
end K01
end
section
set_option linter.all false
set_option maxRecDepth 100000
set_option maxHeartbeats 4000000
namespace K01
open Cz
/-- the rows of facts that the law draws -/
def Fs : List (List (List Nat)) := [[], [tx "p"], [tx "p", tx "wet"], [tx "p", tx "wet", tx "q"], [tx "p", tx "wet", tx "q", tx "dusk"], [tx "p", tx "wet", tx "q", tx "dusk", tx "a"],
  [tx "wet", tx "p"], [tx "q", tx "wet", tx "p"], [tx "dusk", tx "q", tx "wet", tx "p"], [tx "a", tx "dusk", tx "q", tx "wet", tx "p"]]
theorem fs_ind {P : List (List Nat) → Prop} (h0 : P []) (h1 : P [tx "p"]) (h2 : P [tx "p", tx "wet"]) (h3 : P [tx "p", tx "wet", tx "q"]) (h4 : P [tx "p", tx "wet", tx "q", tx "dusk"]) (h5 : P [tx "p", tx "wet", tx "q", tx "dusk", tx "a"]) (g2 : P [tx "wet", tx "p"]) (g3 : P [tx "q", tx "wet", tx "p"]) (g4 : P [tx "dusk", tx "q", tx "wet", tx "p"]) (g5 : P [tx "a", tx "dusk", tx "q", tx "wet", tx "p"]) : ∀ F ∈ Fs, P F := by
  intro F h
  simp only [Fs, List.mem_cons, List.not_mem_nil, or_false] at h
  rcases h with rfl | rfl | rfl | rfl | rfl | rfl | rfl | rfl | rfl | rfl <;> assumption
/-- facts as data -/
def fD (F : List (List Nat)) : D := .tup (F.map .str)
/-- all views -/
def ev (F : List (List Nat)) : Nat := 2 ^ 2 ^ F.length - 1
/-- the views in which a fact holds -/
def fm (n k : Nat) : Nat := ((List.range (2 ^ n)).filter fun v => v / 2 ^ k % 2 == 1).foldl (fun a v => a + 2 ^ v) 0
/-- the views of a saying -/
def msk (F : List (List Nat)) : Sy → Nat
  | .yes => ev F
  | .no => 0
  | .fact x => fm F.length (F.idxOf x)
  | .neg a => ev F ^^^ msk F a
  | .and a b => msk F a &&& msk F b
  | .or a b => msk F a ||| msk F b
def isI (r : Rc) (i : Nat) : Bool := match r with
  | .ok (.p (.int j)) [] => j == (i : Int)
  | _ => false
theorem isI_eq {r : Rc} {i : Nat} (h : isI r i = true) : r = .ok (.p (.int i)) [] := by
  unfold isI at h
  split at h
  · rw [eq_of_beq h]
  · cases h
theorem fm_vm (n : Nat) : (Fs.all fun F => F.all fun x => isI (call mo prog (n + 4) 16 [.a (fD F), .a (enc true (.fact x))]) (fm F.length (F.idxOf x))) = true := by kernel_rfl
theorem fm_lm (n : Nat) : (Fs.all fun F => F.all fun x => isI (call mo prog (n + 4) 27 [.a (fD F), .a (enc true (.fact x))]) (fm F.length (F.idxOf x))) = true := by kernel_rfl
theorem vm_fact {n : Nat} {F : List (List Nat)} {x : List Nat} (h : F ∈ Fs) (hx : x ∈ F) : call mo prog (n + 4) 16 [.a (fD F), .a (enc true (.fact x))] = .ok (.p (.int (msk F (.fact x) : Nat))) [] := isI_eq (List.all_eq_true.mp (List.all_eq_true.mp (fm_vm n) F h) x hx)
theorem lm_fact {n : Nat} {F : List (List Nat)} {x : List Nat} (h : F ∈ Fs) (hx : x ∈ F) : call mo prog (n + 4) 27 [.a (fD F), .a (enc true (.fact x))] = .ok (.p (.int (msk F (.fact x) : Nat))) [] := isI_eq (List.all_eq_true.mp (List.all_eq_true.mp (fm_lm n) F h) x hx)
theorem xor_n (a b : Nat) : binD .xor (.int a) (.int b) = some (.p (.int ((a ^^^ b : Nat) : Int))) := by
  unfold binD
  simp
theorem and_n (a b : Nat) : binD .and (.int a) (.int b) = some (.p (.int ((a &&& b : Nat) : Int))) := by
  unfold binD
  simp
theorem or_n (a b : Nat) : binD .or (.int a) (.int b) = some (.p (.int ((a ||| b : Nat) : Int))) := by
  unfold binD
  simp
theorem sh1 : ∀ F ∈ Fs, binD .shl (.int 1) (.int F.length) = some (.p (.int (2 ^ F.length : Nat))) := fs_ind rfl rfl rfl rfl rfl rfl rfl rfl rfl rfl
theorem sh2 : ∀ F ∈ Fs, binD .shl (.int 1) (.int (2 ^ F.length : Nat)) = some (.p (.int (2 ^ 2 ^ F.length : Nat))) := fs_ind rfl rfl rfl rfl rfl rfl rfl rfl rfl rfl
theorem sh3 : ∀ F ∈ Fs, binD .sub (.int (2 ^ 2 ^ F.length : Nat)) (.int 1) = some (.p (.int (ev F))) := fs_ind rfl rfl rfl rfl rfl rfl rfl rfl rfl rfl
section
variable {C : Nat → List Arg → Rc}
theorem every_ev {i : Nat} {ρ : Env} {F : List (List Nat)} (h : F ∈ Fs) (hi : ρ[i]? = some (.d (fD F))) : evE mo C (.bin .sub (.bin .shl (.c (.int 1)) (.bin .shl (.c (.int 1)) (.bi .len (.cons (.bor i) .nil)))) (.c (.int 1))) ρ = .ok (.p (.int (ev F))) ρ := by
  have h1 : evE mo C (.bi .len (.cons (.bor i) .nil)) ρ = .ok (.p (.int F.length)) ρ := by
    refine len_ev (bor_d hi) rfl ?_
    unfold fD biD
    simp
  refine bin_ev (bin_ev (v := .p (.int 1)) rfl (bin_ev (v := .p (.int 1)) rfl h1 rfl rfl (r := .p (.int (2 ^ F.length : Nat))) ?_) rfl rfl (r := .p (.int (2 ^ 2 ^ F.length : Nat))) ?_) (w := .p (.int 1)) rfl rfl rfl ?_
  · exact sh1 F h
  · exact sh2 F h
  · exact sh3 F h
theorem vm_head {F : List (List Nat)} {kd : D} {r : List D} (h : F ∈ Fs) : evSs mo C b_view_mask [.d (fD F), .d (.tup (kd :: r)), .no, .no] = evSs mo C b_view_mask_2 [.d (fD F), .d (.tup (kd :: r)), .d kd, .d (.int (ev F))] := by
  refine (ss_nx (ρ1 := [.d (fD F), .d (.tup (kd :: r)), .d kd, .no]) (asg_ev (ix_ev (v := .p (.tup (kd :: r))) (w := .p (.int 0)) rfl rfl rfl rfl (item0 kd r).1) rfl)).trans ?_
  exact ss_nx (asg_ev (every_ev (i := 0) h rfl) rfl)
end
theorem ix1 {C : Nat → List Arg → Rc} {ρ : Env} {j : Nat} {a x : D} {r : List D} (h : ρ[j]? = some (.d (.tup (a :: x :: r)))) : evE mo C (.ix (.bor j) (.c (.int 1))) ρ = .ok (.p x) ρ := by
  refine ix_ev (v := .p (.tup (a :: x :: r))) (w := .p (.int 1)) (bor_d h) rfl rfl rfl ?_
  have : pix (r.length + 1 + 1) 1 = some 1 := pix_nat (i := 1) (by omega)
  simp [item, this]
theorem ix2 {C : Nat → List Arg → Rc} {ρ : Env} {j : Nat} {a x y : D} {r : List D} (h : ρ[j]? = some (.d (.tup (a :: x :: y :: r)))) : evE mo C (.ix (.bor j) (.c (.int 2))) ρ = .ok (.p y) ρ := by
  refine ix_ev (v := .p (.tup (a :: x :: y :: r))) (w := .p (.int 2)) (bor_d h) rfl rfl rfl ?_
  have : pix (r.length + 1 + 1 + 1) 2 = some 2 := pix_nat (i := 2) (by omega)
  simp [item, this]
theorem vm_call {C : Nat → List Arg → Rc} {ρ : Env} {e : E} {F : List (List Nat)} {x : D} {f : Nat} {m : Nat} (h0 : ρ[0]? = some (.d (fD F))) (he : evE mo C e ρ = .ok (.p x) ρ) (hc : C f [.a (fD F), .a x] = .ok (.p (.int m)) []) : evE mo C (.call f (.cons (.var 0) (.cons e .nil))) ρ = .ok (.p (.int m)) ρ :=
  call_ev (vs := [.p (fD F), .p x]) (as := [.a (fD F), .a x]) (es_cons (var_d h0) (es_cons he rfl)) rfl rfl hc rfl
theorem vm_ok {F : List (List Nat)} (hF : F ∈ Fs) : ∀ (s : Sy), (∀ x ∈ met s, x ∈ F) → ∀ (N : Nat), dp s + 4 ≤ N → call mo prog N 16 [.a (fD F), .a (enc true s)] = .ok (.p (.int (msk F s))) []
  | .yes, hm, N, hN => by
    obtain ⟨n, rfl⟩ : ∃ n, N = n + 1 := ⟨N - 1, by omega⟩
    rw [call_s _ _ _ F_view_mask rfl]
    exact run0 (ρ0 := [.d (fD F), .d (enc true .yes), .no, .no]) (ρ := [.d (fD F), .d (enc true .yes), .d (.s "yes"), .d (.int (ev F))]) ((vm_head hF).trans rfl) rfl rfl (by intro i h; cases h) rfl
  | .no, hm, N, hN => by
    obtain ⟨n, rfl⟩ : ∃ n, N = n + 1 := ⟨N - 1, by omega⟩
    rw [call_s _ _ _ F_view_mask rfl]
    exact run0 (ρ0 := [.d (fD F), .d (enc true .no), .no, .no]) (ρ := [.d (fD F), .d (enc true .no), .d (.s "no"), .d (.int (ev F))]) ((vm_head hF).trans rfl) rfl rfl (by intro i h; cases h) rfl
  | .fact x, hm, N, hN => by
    obtain ⟨n, rfl⟩ : ∃ n, N = n + 4 := ⟨N - 4, by omega⟩
    exact vm_fact hF (hm x (by simp [met]))
  | .neg a, hm, N, hN => by
    obtain ⟨n, rfl⟩ : ∃ n, N = n + 1 := ⟨N - 1, by omega⟩
    simp only [dp] at hN
    have ih := vm_ok hF a hm n (by omega)
    rw [call_s _ _ _ F_view_mask rfl]
    refine run0 (ρ0 := [.d (fD F), .d (enc true (.neg a)), .no, .no]) (ρ := [.d (fD F), .d (enc true (.neg a)), .d (.s "not"), .d (.int (ev F))]) ((vm_head hF).trans ?_) rfl rfl (by intro i h; cases h) rfl
    have h1 : evSs mo (call mo prog n) b_view_mask_2 [.d (fD F), .d (enc true (.neg a)), .d (.s "not"), .d (.int (ev F))] = evSs mo (call mo prog n) b_view_mask_5 [.d (fD F), .d (enc true (.neg a)), .d (.s "not"), .d (.int (ev F))] := rfl
    refine h1.trans (ss_rt (if_t (ρ1 := [.d (fD F), .d (enc true (.neg a)), .d (.s "not"), .d (.int (ev F))]) rfl (ss_rt (ret_ev ?_ (by intro i h; cases h) (by intro i h; cases h)))))
    exact bin_ev (v := .p (.int (ev F))) rfl (vm_call rfl (ix1 rfl) ih) rfl rfl (xor_n _ _)
  | .and a b, hm, N, hN => by
    obtain ⟨n, rfl⟩ : ∃ n, N = n + 1 := ⟨N - 1, by omega⟩
    simp only [dp] at hN
    have ih := vm_ok hF a (fun x h => hm x (by simp [met, h])) n (by omega)
    have ih2 := vm_ok hF b (fun x h => hm x (by simp [met, h])) n (by omega)
    rw [call_s _ _ _ F_view_mask rfl]
    refine run0 (ρ0 := [.d (fD F), .d (enc true (.and a b)), .no, .no]) (ρ := [.d (fD F), .d (enc true (.and a b)), .d (.s "and"), .d (.int (ev F))]) ((vm_head hF).trans ?_) rfl rfl (by intro i h; cases h) rfl
    have h1 : evSs mo (call mo prog n) b_view_mask_2 [.d (fD F), .d (enc true (.and a b)), .d (.s "and"), .d (.int (ev F))] = evSs mo (call mo prog n) b_view_mask_6 [.d (fD F), .d (enc true (.and a b)), .d (.s "and"), .d (.int (ev F))] := rfl
    refine h1.trans (ss_rt (if_t (ρ1 := [.d (fD F), .d (enc true (.and a b)), .d (.s "and"), .d (.int (ev F))]) rfl (ss_rt (ret_ev ?_ (by intro i h; cases h) (by intro i h; cases h)))))
    exact bin_ev (vm_call rfl (ix1 rfl) ih) (vm_call rfl (ix2 rfl) ih2) rfl rfl (and_n _ _)
  | .or a b, hm, N, hN => by
    obtain ⟨n, rfl⟩ : ∃ n, N = n + 1 := ⟨N - 1, by omega⟩
    simp only [dp] at hN
    have ih := vm_ok hF a (fun x h => hm x (by simp [met, h])) n (by omega)
    have ih2 := vm_ok hF b (fun x h => hm x (by simp [met, h])) n (by omega)
    rw [call_s _ _ _ F_view_mask rfl]
    refine run0 (ρ0 := [.d (fD F), .d (enc true (.or a b)), .no, .no]) (ρ := [.d (fD F), .d (enc true (.or a b)), .d (.s "or"), .d (.int (ev F))]) ((vm_head hF).trans ?_) rfl rfl (by intro i h; cases h) rfl
    have h1 : evSs mo (call mo prog n) b_view_mask_2 [.d (fD F), .d (enc true (.or a b)), .d (.s "or"), .d (.int (ev F))] = evSs mo (call mo prog n) b_view_mask_7 [.d (fD F), .d (enc true (.or a b)), .d (.s "or"), .d (.int (ev F))] := rfl
    refine h1.trans (ss_rt (ret_ev ?_ (by intro i h; cases h) (by intro i h; cases h)))
    exact bin_ev (vm_call rfl (ix1 rfl) ih) (vm_call rfl (ix2 rfl) ih2) rfl rfl (or_n _ _)
/-! ### _law_mask -/
section
variable {C : Nat → List Arg → Rc}
theorem lm_head {F : List (List Nat)} {th : D} (h : F ∈ Fs) : evSs mo C b__law_mask [.d (fD F), .d th, .no, .no, .no, .no] = evSs mo C b__law_mask_1 [.d (fD F), .d th, .d (.int (ev F)), .no, .no, .no] :=
  ss_nx (asg_ev (every_ev (i := 0) h rfl) rfl)
end
theorem lm_ok {F : List (List Nat)} (hF : F ∈ Fs) : ∀ (s : Sy), (∀ x ∈ met s, x ∈ F) → ∀ (N : Nat), dp s + 4 ≤ N → call mo prog N 27 [.a (fD F), .a (enc true s)] = .ok (.p (.int (msk F s))) []
  | .yes, hm, N, hN => by
    obtain ⟨n, rfl⟩ : ∃ n, N = n + 1 := ⟨N - 1, by omega⟩
    rw [call_s _ _ _ F__law_mask rfl]
    exact run0 (ρ0 := [.d (fD F), .d (enc true .yes), .no, .no, .no, .no]) (ρ := [.d (fD F), .d (enc true .yes), .d (.int (ev F)), .no, .no, .no]) ((lm_head hF).trans rfl) rfl rfl (by intro i h; cases h) rfl
  | .no, hm, N, hN => by
    obtain ⟨n, rfl⟩ : ∃ n, N = n + 1 := ⟨N - 1, by omega⟩
    rw [call_s _ _ _ F__law_mask rfl]
    exact run0 (ρ0 := [.d (fD F), .d (enc true .no), .no, .no, .no, .no]) (ρ := [.d (fD F), .d (enc true .no), .d (.int (ev F)), .no, .no, .no]) ((lm_head hF).trans rfl) rfl rfl (by intro i h; cases h) rfl
  | .fact x, hm, N, hN => by
    obtain ⟨n, rfl⟩ : ∃ n, N = n + 4 := ⟨N - 4, by omega⟩
    exact lm_fact hF (hm x (by simp [met]))
  | .neg a, hm, N, hN => by
    obtain ⟨n, rfl⟩ : ∃ n, N = n + 1 := ⟨N - 1, by omega⟩
    simp only [dp] at hN
    have ih := lm_ok hF a hm n (by omega)
    rw [call_s _ _ _ F__law_mask rfl]
    refine run0 (ρ0 := [.d (fD F), .d (enc true (.neg a)), .no, .no, .no, .no]) (ρ := [.d (fD F), .d (enc true (.neg a)), .d (.int (ev F)), .d (.int (msk F a)), .no, .no]) ((lm_head hF).trans ?_) rfl rfl (by intro i h; cases h) rfl
    have h1 : evSs mo (call mo prog n) b__law_mask_1 [.d (fD F), .d (enc true (.neg a)), .d (.int (ev F)), .no, .no, .no] = evSs mo (call mo prog n) b__law_mask_3 [.d (fD F), .d (enc true (.neg a)), .d (.int (ev F)), .no, .no, .no] := rfl
    refine h1.trans ((ss_nx (ρ1 := [.d (fD F), .d (enc true (.neg a)), .d (.int (ev F)), .d (.int (msk F a)), .no, .no]) (asg_ev (vm_call rfl (ix1 rfl) ih) rfl)).trans ?_)
    refine ss_rt (if_t (ρ1 := [.d (fD F), .d (enc true (.neg a)), .d (.int (ev F)), .d (.int (msk F a)), .no, .no]) rfl (ss_rt (ret_ev ?_ (by intro i h; cases h) (by intro i h; cases h))))
    exact bin_ev (v := .p (.int (ev F))) (w := .p (.int (msk F a))) rfl rfl rfl rfl (xor_n _ _)
  | .and a b, hm, N, hN => by
    obtain ⟨n, rfl⟩ : ∃ n, N = n + 1 := ⟨N - 1, by omega⟩
    simp only [dp] at hN
    have ih := lm_ok hF a (fun x h => hm x (by simp [met, h])) n (by omega)
    have ih2 := lm_ok hF b (fun x h => hm x (by simp [met, h])) n (by omega)
    rw [call_s _ _ _ F__law_mask rfl]
    refine run0 (ρ0 := [.d (fD F), .d (enc true (.and a b)), .no, .no, .no, .no]) (ρ := [.d (fD F), .d (enc true (.and a b)), .d (.int (ev F)), .d (.int (msk F a)), .no, .no]) ((lm_head hF).trans ?_) rfl rfl (by intro i h; cases h) rfl
    have h1 : evSs mo (call mo prog n) b__law_mask_1 [.d (fD F), .d (enc true (.and a b)), .d (.int (ev F)), .no, .no, .no] = evSs mo (call mo prog n) b__law_mask_3 [.d (fD F), .d (enc true (.and a b)), .d (.int (ev F)), .no, .no, .no] := rfl
    refine h1.trans ((ss_nx (ρ1 := [.d (fD F), .d (enc true (.and a b)), .d (.int (ev F)), .d (.int (msk F a)), .no, .no]) (asg_ev (vm_call rfl (ix1 rfl) ih) rfl)).trans ?_)
    refine (ss_nx (ρ1 := [.d (fD F), .d (enc true (.and a b)), .d (.int (ev F)), .d (.int (msk F a)), .no, .no]) rfl).trans ?_
    refine ss_rt (ret_ev (ifE_t (ρ1 := [.d (fD F), .d (enc true (.and a b)), .d (.int (ev F)), .d (.int (msk F a)), .no, .no]) rfl ?_) (by intro i h; cases h) (by intro i h; cases h))
    exact bin_ev (v := .p (.int (msk F a))) rfl (vm_call rfl (ix2 rfl) ih2) rfl rfl (and_n _ _)
  | .or a b, hm, N, hN => by
    obtain ⟨n, rfl⟩ : ∃ n, N = n + 1 := ⟨N - 1, by omega⟩
    simp only [dp] at hN
    have ih := lm_ok hF a (fun x h => hm x (by simp [met, h])) n (by omega)
    have ih2 := lm_ok hF b (fun x h => hm x (by simp [met, h])) n (by omega)
    rw [call_s _ _ _ F__law_mask rfl]
    refine run0 (ρ0 := [.d (fD F), .d (enc true (.or a b)), .no, .no, .no, .no]) (ρ := [.d (fD F), .d (enc true (.or a b)), .d (.int (ev F)), .d (.int (msk F a)), .no, .no]) ((lm_head hF).trans ?_) rfl rfl (by intro i h; cases h) rfl
    have h1 : evSs mo (call mo prog n) b__law_mask_1 [.d (fD F), .d (enc true (.or a b)), .d (.int (ev F)), .no, .no, .no] = evSs mo (call mo prog n) b__law_mask_3 [.d (fD F), .d (enc true (.or a b)), .d (.int (ev F)), .no, .no, .no] := rfl
    refine h1.trans ((ss_nx (ρ1 := [.d (fD F), .d (enc true (.or a b)), .d (.int (ev F)), .d (.int (msk F a)), .no, .no]) (asg_ev (vm_call rfl (ix1 rfl) ih) rfl)).trans ?_)
    refine (ss_nx (ρ1 := [.d (fD F), .d (enc true (.or a b)), .d (.int (ev F)), .d (.int (msk F a)), .no, .no]) rfl).trans ?_
    refine ss_rt (ret_ev (ifE_f (ρ1 := [.d (fD F), .d (enc true (.or a b)), .d (.int (ev F)), .d (.int (msk F a)), .no, .no]) rfl ?_) (by intro i h; cases h) (by intro i h; cases h))
    exact bin_ev (v := .p (.int (msk F a))) rfl (vm_call rfl (ix2 rfl) ih2) rfl rfl (or_n _ _)
end K01
end
section
set_option linter.all false
set_option maxRecDepth 100000
set_option maxHeartbeats 4000000
namespace K01
open Cz
/-! ### bits -/
/-- the set bits below n -/
def vs (n m : Nat) : List Nat := (List.range n).filter fun k => m.testBit k
def nD (xs : List Nat) : List D := xs.map fun (k : Nat) => D.int (k : Int)
theorem vs_add {a m : Nat} (h : m < 2 ^ a) : ∀ c, vs (a + c) m = vs a m := by
  intro c
  unfold vs
  rw [List.range_add, List.filter_append]
  have : ((List.range c).map (a + ·)).filter (fun k => m.testBit k) = [] := by
    rw [List.filter_eq_nil_iff]
    intro x hx
    obtain ⟨k, _, rfl⟩ := List.mem_map.mp hx
    have := Nat.testBit_lt_two_pow (x := m) (i := a + k) (Nat.lt_of_lt_of_le h (Nat.pow_le_pow_right (by omega) (by omega)))
    simp [this]
  rw [this, List.append_nil]
theorem vs_eq {a b m : Nat} (h : m < 2 ^ a) (hb : a ≤ b) : vs b m = vs a m := by
  obtain ⟨c, rfl⟩ : ∃ c, b = a + c := ⟨b - a, by omega⟩
  exact vs_add h c
theorem vs_zero (n : Nat) : vs n 0 = [] := by
  unfold vs
  rw [List.filter_eq_nil_iff]
  intro x _
  simp
/-- the lowest set bit -/
theorem low : ∀ m : Nat, 0 < m → ∃ a b, m = 2 ^ a * (2 * b + 1) ∧ m &&& (m - 1) = 2 ^ a * (2 * b) := by
  intro m
  induction m using Nat.strongRecOn with
  | ind m ih =>
    intro hm
    by_cases ho : m % 2 = 1
    · refine ⟨0, m / 2, by omega, ?_⟩
      apply Nat.eq_of_testBit_eq
      intro j
      cases j with
      | zero =>
        rw [Nat.testBit_and]
        have h1 : (m - 1) % 2 = 0 := by omega
        simp [Nat.testBit_zero, h1]
      | succ j =>
        rw [Nat.testBit_and, Nat.testBit_succ, Nat.testBit_succ, Nat.testBit_succ]
        rw [show (m - 1) / 2 = m / 2 by omega, show 2 ^ 0 * (2 * (m / 2)) / 2 = m / 2 by omega, Bool.and_self]
    · obtain ⟨a, b, h1, h2⟩ := ih (m / 2) (by omega) (by omega)
      refine ⟨a + 1, b, ?_, ?_⟩
      · rw [Nat.pow_succ, Nat.mul_assoc, Nat.mul_left_comm, ← h1]
        omega
      · rw [Nat.pow_succ, Nat.mul_assoc, Nat.mul_left_comm, ← h2]
        apply Nat.eq_of_testBit_eq
        intro j
        cases j with
        | zero =>
          rw [Nat.testBit_and]
          have h1 : m % 2 = 0 := by omega
          simp [Nat.testBit_zero, h1]
        | succ j =>
          rw [Nat.testBit_and, Nat.testBit_succ, Nat.testBit_succ, Nat.testBit_succ]
          rw [show (m - 1) / 2 = m / 2 - 1 by omega, show 2 * (m / 2 &&& m / 2 - 1) / 2 = (m / 2 &&& m / 2 - 1) by omega, Nat.testBit_and]
theorem odd_bit (b : Nat) : (2 * b + 1).testBit 0 = true := by
  rw [Nat.testBit_zero]
  simp
theorem hi_bit (b k : Nat) : (2 * b + 1).testBit (k + 1) = (2 * b).testBit (k + 1) := by
  rw [Nat.testBit_succ, Nat.testBit_succ]
  congr 1
  omega
/-- its place is the first of the bits -/
theorem vs_low {a b n : Nat} (h : a < n) : vs n (2 ^ a * (2 * b + 1)) = a :: vs n (2 ^ a * (2 * b)) := by
  obtain ⟨c, rfl⟩ : ∃ c, n = a + (c + 1) := ⟨n - a - 1, by omega⟩
  unfold vs
  rw [List.range_add, List.range_succ_eq_map, List.map_cons, List.filter_append, List.filter_append, List.filter_cons, List.filter_cons]
  have h1 : ∀ q : Nat, (List.range a).filter (fun k => (2 ^ a * q).testBit k) = [] := by
    intro q
    rw [List.filter_eq_nil_iff]
    intro x hx
    have := List.mem_range.mp hx
    rw [Nat.testBit_two_pow_mul]
    simp
    omega
  have h2 : (2 ^ a * (2 * b + 1)).testBit (a + 0) = true := by
    rw [Nat.testBit_two_pow_mul, Nat.add_zero, Nat.sub_self, odd_bit]
    simp
  have h3 : (2 ^ a * (2 * b)).testBit (a + 0) = false := by
    rw [Nat.testBit_two_pow_mul, Nat.add_zero, Nat.sub_self]
    simp
  rw [h1, h1, h2, h3]
  simp only [List.nil_append, if_true, Bool.false_eq_true, if_false, Nat.add_zero]
  congr 1
  apply List.filter_congr
  intro x hx
  obtain ⟨k, hk, rfl⟩ := List.mem_map.mp hx
  obtain ⟨j, _, rfl⟩ := List.mem_map.mp hk
  rw [Nat.testBit_two_pow_mul, Nat.testBit_two_pow_mul, show a + j.succ - a = j + 1 by omega, hi_bit]
theorem xor_low (a b : Nat) : (2 ^ a * (2 * b + 1)) ^^^ 2 ^ a = 2 ^ a * (2 * b) := by
  apply Nat.eq_of_testBit_eq
  intro j
  rw [Nat.testBit_xor, Nat.testBit_two_pow_mul, Nat.testBit_two_pow_mul, Nat.testBit_two_pow]
  by_cases h : a ≤ j
  · obtain ⟨k, rfl⟩ : ∃ k, j = a + k := ⟨j - a, by omega⟩
    rw [show a + k - a = k by omega]
    cases k with
    | zero => rw [odd_bit]; simp
    | succ k =>
      rw [hi_bit]
      have : ¬ a = a + (k + 1) := by omega
      simp [this]
  · have : ¬ a = j := by omega
    simp [h, this]
/-- a turn of the loop of bits_of -/
theorem bo_turn {C : Nat → List Arg → Rc} {d0 : D} {told : List D} {s3 : Sl} (h3 : fr s3 = true) (hl : told.length < 100000) (a b : Nat) (hab : (2 ^ a * (2 * b + 1)) &&& (2 ^ a * (2 * b + 1) - 1) = 2 ^ a * (2 * b)) : evSs mo C b_bits_of_2a [.d d0, .own false told, .d (.int (2 ^ a * (2 * b + 1) : Nat)), s3] = .nx [.d d0, .own false (told ++ [.int a]), .d (.int (2 ^ a * (2 * b) : Nat)), .d (.int (2 ^ a : Nat))] := by
  have p : 0 < 2 ^ a * (2 * b + 1) := Nat.mul_pos (Nat.pow_pos (by omega)) (by omega)
  have e1 : binD .and (.int (2 ^ a * (2 * b + 1) : Nat)) (.int (-(2 ^ a * (2 * b + 1) : Nat))) = some (.p (.int (2 ^ a : Nat))) := by
    unfold binD
    simp only
    have e2 : (- -((2 ^ a * (2 * b + 1) : Nat) : Int) - 1).toNat = 2 ^ a * (2 * b + 1) - 1 := by omega
    rw [if_pos (by omega), if_neg (by omega), Int.toNat_natCast, e2, hab]
    have e3 : 2 ^ a * (2 * b + 1) = 2 ^ a * (2 * b) + 2 ^ a := by rw [Nat.mul_add, Nat.mul_one]
    congr 3
    omega
  refine (ss_nx (ρ1 := [.d d0, .own false told, .d (.int (2 ^ a * (2 * b + 1) : Nat)), .d (.int (2 ^ a : Nat))]) (asg_ev (bin_ev (v := .p (.int (2 ^ a * (2 * b + 1) : Nat))) (w := .p (.int (-(2 ^ a * (2 * b + 1) : Nat)))) rfl rfl rfl rfl e1) (put_p rfl h3))).trans ?_
  have e4 : bitsOf ((2 ^ a : Nat) : Int) = a + 1 := by
    unfold bitsOf
    have : ((((2 ^ a : Nat) : Int)) == 0) = false := by
      have := Nat.pow_pos (n := a) (show 0 < 2 by omega)
      exact beq_eq_false_iff_ne.mpr (by omega)
    rw [this, Int.natAbs_natCast, Nat.log2_two_pow]
    rfl
  have e5 : evE mo C (.bin .sub (.me .bitlen (.bor 3) .nil) (.c (.int 1))) [.d d0, .own false told, .d (.int (2 ^ a * (2 * b + 1) : Nat)), .d (.int (2 ^ a : Nat))] = .ok (.p (.int a)) [.d d0, .own false told, .d (.int (2 ^ a * (2 * b + 1) : Nat)), .d (.int (2 ^ a : Nat))] := by
    refine bin_ev (v := .p (.int (a + 1 : Nat))) (w := .p (.int 1)) ?_ rfl rfl rfl ?_
    · rw [← e4]
      rfl
    · unfold binD
      simp only
      congr 3
      omega
  refine (ss_nx (ρ1 := [.d d0, .own false (told ++ [.int a]), .d (.int (2 ^ a * (2 * b + 1) : Nat)), .d (.int (2 ^ a : Nat))]) (app_ev (v := .p (.int a)) e5 rfl rfl rfl hl)).trans ?_
  refine (ss_nx (asg_ev (ρ2 := [.d d0, .own false (told ++ [.int a]), .d (.int (2 ^ a * (2 * b) : Nat)), .d (.int (2 ^ a : Nat))]) (bin_ev (v := .p (.int (2 ^ a * (2 * b + 1) : Nat))) (w := .p (.int (2 ^ a : Nat))) rfl rfl rfl rfl (xor_n _ _)) ?_)).trans rfl
  rw [xor_low]
  rfl
theorem wh_f {test : Env → Re} {body : Env → Rs} {n : Nat} {ρ ρ1 : Env} {v : Val} (h : test ρ = .ok v ρ1) (hk : (res ρ1 (fz v)).bind truth = some false) : whTurns test body (n + 1) ρ = .nx ρ1 := by
  rw [whTurns, h]
  simp only [hk]
theorem wh_t {test : Env → Re} {body : Env → Rs} {n : Nat} {ρ ρ1 ρ2 : Env} {v : Val} (h : test ρ = .ok v ρ1) (hk : (res ρ1 (fz v)).bind truth = some true) (hb : body ρ1 = .nx ρ2) : whTurns test body (n + 1) ρ = whTurns test body n ρ2 := by
  rw [whTurns, h]
  simp only [hk, hb]
theorem bo_loop {C : Nat → List Arg → Rc} {d0 : D} : ∀ (n m : Nat) (told : List D) (s3 : Sl), fr s3 = true → m < 2 ^ 32 → told.length + (vs 32 m).length ≤ 50000 → (vs 32 m).length < n → ∃ s3', whTurns (evE mo C (.bor 2)) (evSs mo C b_bits_of_2a) n [.d d0, .own false told, .d (.int m), s3] = .nx [.d d0, .own false (told ++ nD (vs 32 m)), .d (.int (0 : Nat)), s3'] := by
  intro n
  induction n with
  | zero => intro m told s3 _ _ _ h; omega
  | succ n ih =>
    intro m told s3 h3 hm hl hn
    by_cases h0 : m = 0
    · subst h0
      refine ⟨s3, ?_⟩
      have ht : evE mo C (.bor 2) [.d d0, .own false told, .d (.int (0 : Nat)), s3] = .ok (.p (.int (0 : Nat))) [.d d0, .own false told, .d (.int (0 : Nat)), s3] := rfl
      rw [wh_f ht rfl, vs_zero]
      simp [nD]
    · obtain ⟨a, b, e, hab⟩ := low m (by omega)
      subst e
      have p : 0 < 2 ^ a * (2 * b + 1) := by omega
      have ha : a < 32 := by
        rcases Nat.lt_or_ge a 32 with h | h
        · exact h
        · have h1 : 2 ^ 32 ≤ 2 ^ a := Nat.pow_le_pow_right (by omega) h
          have h2 : 2 ^ a * 1 ≤ 2 ^ a * (2 * b + 1) := Nat.mul_le_mul_left _ (by omega)
          omega
      rw [vs_low ha] at hn hl ⊢
      have ht : evE mo C (.bor 2) [.d d0, .own false told, .d (.int (2 ^ a * (2 * b + 1) : Nat)), s3] = .ok (.p (.int (2 ^ a * (2 * b + 1) : Nat))) [.d d0, .own false told, .d (.int (2 ^ a * (2 * b + 1) : Nat)), s3] := rfl
      have h2 : 2 ^ a * (2 * b) ≤ 2 ^ a * (2 * b + 1) := Nat.mul_le_mul_left _ (by omega)
      obtain ⟨s3', h⟩ := ih (2 ^ a * (2 * b)) (told ++ [.int a]) (.d (.int (2 ^ a : Nat))) rfl (by omega) (by simp at hl ⊢; omega) (by simp at hn; omega)
      refine ⟨s3', (wh_t ht ?_ (bo_turn h3 (by simp at hl; omega) a b hab)).trans ?_⟩
      · show truth (.int _) = some true
        unfold truth
        have hz : ((2 ^ a * (2 * b + 1) : Nat) : Int) ≠ 0 := fun h => by have := Int.natCast_eq_zero.mp h; omega
        exact congrArg some (bne_iff_ne.mpr hz)
      · rw [h]
        simp [nD]
theorem bits_ok {n m : Nat} (hm : m < 2 ^ 32) : call mo prog (n + 1) 8 [.a (.int m)] = .ok (.f (nD (vs 32 m))) [] := by
  rw [call_s _ _ _ F_bits_of rfl]
  have hl : (vs 32 m).length ≤ 32 := by
    have := List.length_filter_le (fun k => m.testBit k) (List.range 32)
    rw [List.length_range] at this
    exact this
  obtain ⟨s3, h⟩ := bo_loop (C := call mo prog n) (d0 := .int m) whFuel m [] .no rfl hm (by simp; omega) (by unfold whFuel; omega)
  refine run0 (ρ0 := [.d (.int m), .no, .no, .no]) (ρ := [.d (.int m), .no, .d (.int (0 : Nat)), s3]) ?_ rfl rfl (by intro i h; cases h) rfl
  refine (ss_nx (ρ1 := [.d (.int m), .own false [], .no, .no]) rfl).trans ((ss_nx (ρ1 := [.d (.int m), .own false [], .d (.int m), .no]) rfl).trans ((ss_nx (ρ1 := [.d (.int m), .own false (nD (vs 32 m)), .d (.int (0 : Nat)), s3]) ?_).trans rfl))
  rw [evS]
  exact h
end K01
end
section
set_option linter.all false
set_option maxRecDepth 100000
set_option maxHeartbeats 4000000
namespace K01
open Cz
theorem cf_ok (n : Nat) : ∀ F ∈ Fs, call mo prog (n + 5) 5 [.a (fD F)] = .ok (.p (fD F)) [] := fs_ind (by kernel_rfl) (by kernel_rfl) (by kernel_rfl) (by kernel_rfl) (by kernel_rfl) (by kernel_rfl) (by kernel_rfl) (by kernel_rfl) (by kernel_rfl) (by kernel_rfl)
theorem cf_lst (n : Nat) : ∀ F ∈ Fs, call mo prog (n + 5) 5 [.a (.lst (F.map .str))] = .ok (.p (fD F)) [] := fs_ind (by kernel_rfl) (by kernel_rfl) (by kernel_rfl) (by kernel_rfl) (by kernel_rfl) (by kernel_rfl) (by kernel_rfl) (by kernel_rfl) (by kernel_rfl) (by kernel_rfl)
/-- a saying over the facts -/
structure Over (F : List (List Nat)) (s : Sy) : Prop extends Ok s where
  hF : F ∈ Fs
  on : ∀ x ∈ met s, x ∈ F
section
variable {F : List (List Nat)} {s : Sy}
theorem mo_ok (h : Over F s) {N : Nat} (hN : dp s + 5 ≤ N) : call mo prog N 17 [.a (fD F), .a (enc true s)] = .ok (.p (.int (msk F s))) [] := by
  obtain ⟨n, rfl⟩ : ∃ n, N = n + 1 := ⟨N - 1, by omega⟩
  have h1 := known_ok h.sz h.on (N := n) (by omega)
  have h2 := vm_ok h.hF s h.on n (by omega)
  rw [call_s _ _ _ F_mask_over rfl]
  refine run0 (ρ0 := [.d (fD F), .d (enc true s)]) (ρ := [.d (fD F), .d (enc true s)]) ?_ rfl rfl (by intro i h; cases h) rfl
  refine (ss_nx (ρ1 := [.d (fD F), .d (enc true s)]) (st_ev (call_ev (vs := [.p (fD F), .p (enc true s)]) (as := [.a (fD F), .a (enc true s)]) rfl rfl rfl h1 rfl))).trans ?_
  exact ss_rt (ret_ev (call_ev (vs := [.p (fD F), .p (enc true s)]) (as := [.a (fD F), .a (enc true s)]) rfl rfl rfl h2 rfl) (by intro i h; cases h) (by intro i h; cases h))
theorem mo_no (hz : sz s ≤ 60) {x : List Nat} {r : List (List Nat)} (hm : met s = x :: r) (hx : x ∉ F) {N : Nat} (hN : dp s + 5 ≤ N) : call mo prog N 17 [.a (fD F), .a (enc true s)] = .ex ⟨7, .str x⟩ [] := by
  obtain ⟨n, rfl⟩ : ∃ n, N = n + 1 := ⟨N - 1, by omega⟩
  have h1 := known_no hz hm hx (N := n) (by omega)
  rw [call_s _ _ _ F_mask_over rfl]
  refine run0x (ρ0 := [.d (fD F), .d (enc true s)]) (ρ := [.d (fD F), .d (enc true s)]) ?_ rfl rfl rfl
  exact ss_ex (st_ex (call_ex (vs := [.p (fD F), .p (enc true s)]) (as := [.a (fD F), .a (enc true s)]) rfl rfl rfl h1 rfl))
end
theorem ev_lt : ∀ F ∈ Fs, ev F < 2 ^ 2 ^ F.length := fs_ind (by decide) (by decide) (by decide) (by decide) (by decide) (by decide) (by decide) (by decide) (by decide) (by decide)
theorem fm_lt : (Fs.all fun F => F.all fun x => decide (fm F.length (F.idxOf x) < 2 ^ 2 ^ F.length)) = true := by kernel_rfl
theorem msk_lt {F : List (List Nat)} (hF : F ∈ Fs) : ∀ s : Sy, (∀ x ∈ met s, x ∈ F) → msk F s < 2 ^ 2 ^ F.length
  | .yes, _ => ev_lt F hF
  | .no, _ => Nat.pow_pos (by omega)
  | .fact x, h => of_decide_eq_true (List.all_eq_true.mp (List.all_eq_true.mp fm_lt F hF) x (h x (by simp [met])))
  | .neg a, h => Nat.xor_lt_two_pow (ev_lt F hF) (msk_lt hF a h)
  | .and a b, h => Nat.and_lt_two_pow _ (msk_lt hF b fun x m => h x (by simp [met, m]))
  | .or a b, h => Nat.or_lt_two_pow (msk_lt hF a fun x m => h x (by simp [met, m])) (msk_lt hF b fun x m => h x (by simp [met, m]))
theorem len5 : ∀ F ∈ Fs, F.length ≤ 5 := fs_ind (by decide) (by decide) (by decide) (by decide) (by decide) (by decide) (by decide) (by decide) (by decide) (by decide)
theorem le32 {F : List (List Nat)} (h : F ∈ Fs) : 2 ^ F.length ≤ 32 := by
  have := Nat.pow_le_pow_right (n := 2) (by omega) (len5 F h)
  exact this
theorem lt32 {F : List (List Nat)} (h : F ∈ Fs) {m : Nat} (hm : m < 2 ^ 2 ^ F.length) : m < 2 ^ 32 := Nat.lt_of_lt_of_le hm (Nat.pow_le_pow_right (by omega) (le32 h))
/-- the views of a mask -/
def vw (F : List (List Nat)) (m : Nat) : List Nat := vs (2 ^ F.length) m
section
variable {F : List (List Nat)} {s : Sy}
theorem vo_ok (h : Over F s) {fa : D} (m : Bool) (hf : ∀ n, call mo prog (n + 5) 5 [.a fa] = .ok (.p (fD F)) []) {N : Nat} (hN : dp s + 9 ≤ N) : call mo prog N 20 [.a fa, .a (enc m s)] = .ok (.p (.tup (nD (vw F (msk F s))))) [] := by
  obtain ⟨n, rfl⟩ : ∃ n, N = n + 6 := ⟨N - 6, by omega⟩
  have h1 := checked_ok h.toOk m (n + 5) (by omega)
  have h2 := mo_ok h (N := n + 5) (by omega)
  have hl := msk_lt h.hF s h.on
  have h3 := bits_ok (n := n + 4) (lt32 h.hF hl)
  rw [vs_eq hl (le32 h.hF)] at h3
  rw [call_s _ _ _ F_views_of rfl]
  refine run0 (ρ0 := [.d fa, .d (enc m s), .no]) (ρ := [.d fa, .d (enc m s), .d (fD F)]) ?_ rfl rfl (by intro i h; cases h) rfl
  refine (ss_nx (ρ1 := [.d fa, .d (enc m s), .d (fD F)]) (asg_ev (call_ev (vs := [.p fa]) (as := [.a fa]) rfl rfl rfl (hf n) rfl) rfl)).trans ?_
  refine ss_rt (ret_ev (tuple_ev (v := .f (nD (vw F (msk F s)))) ?_ rfl) (by intro i h; cases h) (by intro i h; cases h))
  refine call_ev (vs := [.p (.int (msk F s))]) (as := [.a (.int (msk F s))]) (es_cons (v := .p (.int (msk F s))) ?_ rfl) rfl rfl h3 rfl
  refine call_ev (vs := [.p (fD F), .p (enc true s)]) (as := [.a (fD F), .a (enc true s)]) (es_cons (v := .p (fD F)) rfl (es_cons (v := .p (enc true s)) ?_ rfl)) rfl rfl h2 rfl
  exact call_ev (vs := [.p (enc m s)]) (as := [.a (enc m s)]) rfl rfl rfl h1 rfl
theorem isint_ok {n : Nat} {x hi : Int} (h0 : 0 ≤ x) (h1 : x ≤ hi) : call mo prog (n + 1) 0 [.a (.int x), .a (.int 0), .a (.int hi)] = .ok (.p (.bl true)) [] := by
  rw [call_s _ _ _ F_is_integer rfl]
  refine run0 (ρ0 := [.d (.int x), .d (.int 0), .d (.int hi)]) (ρ := [.d (.int x), .d (.int 0), .d (.int hi)]) (ss_rt (ret_ev ?_ (by intro i h; cases h) (by intro i h; cases h))) rfl rfl (by intro i h; cases h) rfl
  simp [evE, evAnd, res, fz, isTy, truth, cmpD, h0, h1]
theorem hi_ev {C : Nat → List Arg → Rc} {i : Nat} {ρ : Env} (hF : F ∈ Fs) (hi : ρ[i]? = some (.d (fD F))) : evE mo C (.bin .shl (.c (.int 1)) (.bi .len (.cons (.bor i) .nil))) ρ = .ok (.p (.int (2 ^ F.length : Nat))) ρ := by
  have h1 : evE mo C (.bi .len (.cons (.bor i) .nil)) ρ = .ok (.p (.int F.length)) ρ := by
    refine len_ev (bor_d hi) rfl ?_
    unfold fD biD
    simp
  exact bin_ev (v := .p (.int 1)) rfl h1 rfl rfl (sh1 F hF)
theorem cv_ok (hF : F ∈ Fs) {v : Nat} (hv : v < 2 ^ F.length) {n : Nat} : call mo prog (n + 2) 18 [.a (fD F), .a (.int v)] = .ok (.p .non) [] := by
  rw [call_s _ _ _ F_check_view rfl]
  refine run_nx (ρ0 := [.d (fD F), .d (.int v)]) (ρ := [.d (fD F), .d (.int v)]) ((ss_nx (if_f (ρ1 := [.d (fD F), .d (.int v)]) ?_ rfl)).trans rfl) rfl rfl rfl
  have hc : evE mo (call mo prog (n + 1)) (.call 0 (.cons (.var 1) (.cons (.c (.int 0)) (.cons (.bin .sub (.bin .shl (.c (.int 1)) (.bi .len (.cons (.bor 0) .nil))) (.c (.int 1))) .nil)))) [.d (fD F), .d (.int v)] = .ok (.p (.bl true)) [.d (fD F), .d (.int v)] := by
    refine call_ev (vs := [.p (.int v), .p (.int 0), .p (.int ((2 ^ F.length : Nat) - 1))]) (as := [.a (.int v), .a (.int 0), .a (.int ((2 ^ F.length : Nat) - 1))]) (es_cons (v := .p (.int v)) rfl (es_cons (v := .p (.int 0)) rfl (es_cons (v := .p (.int ((2 ^ F.length : Nat) - 1))) (bin_ev (w := .p (.int 1)) (hi_ev hF rfl) rfl rfl rfl rfl) rfl))) rfl rfl (isint_ok (by omega) (by omega)) rfl
  rw [evE, hc]
  rfl
theorem shr_n (m k : Nat) : binD .shr (.int m) (.int k) = some (.p (.int ((m / 2 ^ k : Nat)))) := by
  unfold binD
  simp only
  rw [if_pos (by omega), Int.natCast_ediv, Int.natCast_pow, Int.toNat_natCast]
  rfl
theorem bit_ev {C : Nat → List Arg → Rc} {a b : E} {ρ : Env} {m k : Nat} (ha : evE mo C a ρ = .ok (.p (.int m)) ρ) (hb : evE mo C b ρ = .ok (.p (.int k)) ρ) : evE mo C (.bin .and (.bin .shr a b) (.c (.int 1))) ρ = .ok (.p (.int (m / 2 ^ k % 2 : Nat))) ρ := by
  refine bin_ev (w := .p (.int 1)) (bin_ev ha hb rfl rfl (shr_n m k)) rfl rfl rfl ?_
  have := and_n (m / 2 ^ k) 1
  rw [Nat.and_one_is_mod] at this
  exact this
theorem bit_is (m k : Nat) : D.beq (.int (m / 2 ^ k % 2 : Nat)) (.int 1) = m.testBit k := by
  unfold D.beq
  rw [Nat.testBit_eq_decide_div_mod_eq]
  by_cases h : m / 2 ^ k % 2 = 1
  · rw [h]; rfl
  · have h2 : ((m / 2 ^ k % 2 : Nat) : Int) ≠ 1 := by omega
    rw [beq_eq_false_iff_ne.mpr h2]
    simp [h]
theorem bit_truth (m k : Nat) : truth (.int (m / 2 ^ k % 2 : Nat)) = some (m.testBit k) := by
  unfold truth
  rw [Nat.testBit_eq_decide_div_mod_eq]
  have : m / 2 ^ k % 2 = 1 ∨ m / 2 ^ k % 2 = 0 := by omega
  rcases this with h | h <;> rw [h] <;> rfl
theorem bitis_ev {C : Nat → List Arg → Rc} {a b : E} {ρ : Env} {m k : Nat} (ha : evE mo C a ρ = .ok (.p (.int m)) ρ) (hb : evE mo C b ρ = .ok (.p (.int k)) ρ) : evE mo C (.cmp .eq (.bin .and (.bin .shr a b) (.c (.int 1))) (.c (.int 1))) ρ = .ok (.p (.bl (m.testBit k))) ρ := by
  refine cmp_ev (w := .p (.int 1)) (bit_ev ha hb) rfl rfl rfl ?_
  have : cmpD .eq (.int (m / 2 ^ k % 2 : Nat)) (.int 1) = some (D.beq (.int (m / 2 ^ k % 2 : Nat)) (.int 1)) := rfl
  rw [this, bit_is]
theorem hi_ok (h : Over F s) {v : Nat} (hv : v < 2 ^ F.length) {N : Nat} (hN : dp s + 9 ≤ N) : call mo prog N 19 [.a (fD F), .a (enc true s), .a (.int v)] = .ok (.p (.bl ((msk F s).testBit v))) [] := by
  obtain ⟨n, rfl⟩ : ∃ n, N = n + 6 := ⟨N - 6, by omega⟩
  have h1 := checked_ok h.toOk true (n + 5) (by omega)
  have h2 := mo_ok h (N := n + 5) (by omega)
  rw [call_s _ _ _ F_holds_in rfl]
  refine run0 (ρ0 := [.d (fD F), .d (enc true s), .d (.int v), .no, .no]) (ρ := [.d (fD F), .d (enc true s), .d (.int v), .d (fD F), .d (.int (msk F s))]) ?_ rfl rfl (by intro i h; cases h) rfl
  refine (ss_nx (ρ1 := [.d (fD F), .d (enc true s), .d (.int v), .d (fD F), .no]) (asg_ev (call_ev (vs := [.p (fD F)]) (as := [.a (fD F)]) rfl rfl rfl (cf_ok n F h.hF) rfl) rfl)).trans ?_
  refine (ss_nx (ρ1 := [.d (fD F), .d (enc true s), .d (.int v), .d (fD F), .d (.int (msk F s))]) (asg_ev (call_ev (vs := [.p (fD F), .p (enc true s)]) (as := [.a (fD F), .a (enc true s)]) (es_cons (v := .p (fD F)) rfl (es_cons (v := .p (enc true s)) (call_ev (vs := [.p (enc true s)]) (as := [.a (enc true s)]) rfl rfl rfl h1 rfl) rfl)) rfl rfl h2 rfl) rfl)).trans ?_
  refine (ss_nx (ρ1 := [.d (fD F), .d (enc true s), .d (.int v), .d (fD F), .d (.int (msk F s))]) (st_ev (call_ev (vs := [.p (fD F), .p (.int v)]) (as := [.a (fD F), .a (.int v)]) rfl rfl rfl (cv_ok h.hF hv) rfl))).trans ?_
  exact ss_rt (ret_ev (bitis_ev rfl rfl) (by intro i h; cases h) (by intro i h; cases h))
theorem lt_ok (h : Over F s) (v : Nat) {N : Nat} (hN : dp s + 5 ≤ N) : call mo prog N 28 [.a (fD F), .a (enc true s), .a (.int v)] = .ok (.p (.bl ((msk F s).testBit v))) [] := by
  obtain ⟨n, rfl⟩ : ∃ n, N = n + 1 := ⟨N - 1, by omega⟩
  have h1 := lm_ok h.hF s h.on n (by omega)
  rw [call_s _ _ _ F__law_true rfl]
  refine run0 (ρ0 := [.d (fD F), .d (enc true s), .d (.int v)]) (ρ := [.d (fD F), .d (enc true s), .d (.int v)]) ?_ rfl rfl (by intro i h; cases h) rfl
  refine ss_rt (ret_ev (bitis_ev ?_ rfl) (by intro i h; cases h) (by intro i h; cases h))
  exact call_ev (vs := [.p (fD F), .p (enc true s)]) (as := [.a (fD F), .a (enc true s)]) rfl rfl rfl h1 rfl
end
end K01
end
section
set_option linter.all false
set_option maxRecDepth 100000
set_option maxHeartbeats 4000000
namespace K01
open Cz
/-! ### comprehensions that pick -/
theorem lc_nat {f : Env → D → Option (Option D × Env)} (P : Env → Prop) (p : Nat → Bool) : ∀ (xs : List Nat) (ρ : Env), P ρ → (∀ k ∈ xs, ∀ ρ, P ρ → ∃ ρ', f ρ (.int (k : Int)) = some (if p k then some (.int (k : Int)) else none, ρ') ∧ P ρ') → ∃ ρ', lcTurns f ρ (nD xs) = some (nD (xs.filter p), ρ') ∧ P ρ'
  | [], ρ, h, _ => ⟨ρ, rfl, h⟩
  | d :: r, ρ, h, st => by
    obtain ⟨ρ1, e1, h1⟩ := st d (List.mem_cons_self) ρ h
    obtain ⟨ρ2, e2, h2⟩ := lc_nat P p r ρ1 h1 fun d' m => st d' (List.mem_cons_of_mem _ m)
    refine ⟨ρ2, ?_, h2⟩
    show lcTurns f ρ (.int (d : Int) :: nD r) = _
    rw [lcTurns, e1, List.filter_cons]
    cases p d
    · exact e2
    · simp only [if_true, e2, Option.map_some]
      rfl
theorem intsD_nD (n : Nat) : intsD 0 n = nD (List.range n) := by
  unfold intsD nD
  simp
theorem nD_len (xs : List Nat) : (nD xs).length = xs.length := by simp [nD]
theorem shl_n {k : Nat} (h : k ≤ 100000) : binD .shl (.int 1) (.int k) = some (.p (.int (2 ^ k : Nat))) := by
  unfold binD
  simp only
  rw [if_pos ⟨by omega, by omega, by decide⟩, Int.one_mul, Int.toNat_natCast, Int.natCast_pow]
  rfl
/-- the views where a test holds -/
theorem set_same {ρ : Env} {i : Nat} {s s2 : Sl} (hs : ρ[i]? = some s) : (ρ.set i s2).set i s = ρ := by
  apply List.ext_getElem?
  intro j
  rw [List.set_set, List.getElem?_set]
  by_cases e : i = j
  · subst e
    rw [if_pos rfl, hs, if_pos]
    rcases Nat.lt_or_ge i ρ.length with h | h
    · exact h
    · rw [List.getElem?_eq_none h] at hs; cases hs
  · rw [if_neg e]
theorem lcv_ev {C : Nat → List Arg → Rc} {ρ : Env} {i n : Nat} {it : It} {c : E} (p : Nat → Bool) (hit : evIt mo C it ρ = some (nD (List.range n), ρ)) (hp : plainAt ρ [i] = true) (hc : ∀ k, k < n → ∃ v : D, truth v = some (p k) ∧ evE mo C c (ρ.set i (.d (.int (k : Int)))) = .ok (.p v) (ρ.set i (.d (.int (k : Int))))) : evE mo C (.lc [i] it (.cons c .nil) (.var i)) ρ = .ok (.f (nD ((List.range n).filter p))) ρ := by
  obtain ⟨s0, hs⟩ : ∃ s, ρ[i]? = some s := by
    cases h : ρ[i]? with
    | some s => exact ⟨s, rfl⟩
    | none => simp [plainAt, h] at hp
  have hl : i < ρ.length := by
    rcases Nat.lt_or_ge i ρ.length with h | h
    · exact h
    · rw [List.getElem?_eq_none h] at hs; cases hs
  have hw : ∀ s : Sl, ∀ k : Nat, bindT (wipe (ρ.set i s) [i]) [i] (.int (k : Int)) = some (ρ.set i (.d (.int (k : Int)))) := by
    intro s k
    have h1 : wipe (ρ.set i s) [i] = ρ.set i .no := by simp [wipe]
    rw [h1]
    have := bind1 (ρ := ρ.set i .no) (i := i) (s := .no) (d := .int (k : Int)) (by simp [hl]) rfl
    rw [this]
    simp
  obtain ⟨ρ2, e2, s2, h2⟩ := lc_nat (f := lcf mo C [i] (.cons c .nil) (.var i)) (fun ρ' => ∃ s, ρ' = ρ.set i s) p (List.range n) ρ ⟨s0, by
    have := set_same (s2 := s0) hs
    rw [List.set_set] at this
    exact this.symm⟩ (by
    rintro k hk ρ' ⟨s, rfl⟩
    obtain ⟨v, hv, he⟩ := hc k (List.mem_range.mp hk)
    refine ⟨ρ.set i (.d (.int (k : Int))), ?_, _, rfl⟩
    have hx : evE mo C (.var i) (ρ.set i (.d (.int (k : Int)))) = .ok (.p (.int (k : Int))) (ρ.set i (.d (.int (k : Int)))) := var_d (by simp [hl])
    unfold lcf
    rw [hw s k]
    simp only [evAnd, he, fz, res, Option.bind_some, hv]
    cases p k with
    | true => simp only [hx, if_true]
    | false => simp)
  have := lc_ev (M := mo) (C := C) hit hp e2
  rw [this]
  congr 1
  subst h2
  show (ρ.set i s2).set i ((ρ[i]?).getD .no) = ρ
  rw [hs]
  exact set_same hs
theorem r1_hi {C : Nat → List Arg → Rc} {F : List (List Nat)} {i : Nat} {ρ : Env} (hF : F ∈ Fs) (hi : ρ[i]? = some (.d (fD F))) : evIt mo C (.r1 (.bin .shl (.c (.int 1)) (.bi .len (.cons (.bor i) .nil)))) ρ = some (nD (List.range (2 ^ F.length)), ρ) := by
  have h := le32 hF
  generalize hq : 2 ^ F.length = q at *
  have h2 := hi_ev (C := C) hF hi
  rw [hq] at h2
  rw [evIt, h2]
  simp only
  rw [if_pos ⟨by omega, by omega⟩, Int.toNat_natCast, intsD_nD]
/-- the views due -/
theorem due_ev {n : Nat} {F : List (List Nat)} {s : Sy} {i j k : Nat} {ρ : Env} (h : Over F s) (hn : dp s + 5 ≤ n) (hi : ρ[i]? = some (.d (fD F))) (hj : ρ[j]? = some (.d (enc true s))) (hp : plainAt ρ [k] = true) (ik : i ≠ k) (jk : j ≠ k) : evE mo (call mo prog n) (.lc [k] (.r1 (.bin .shl (.c (.int 1)) (.bi .len (.cons (.bor i) .nil)))) (.cons (.call 28 (.cons (.var i) (.cons (.var j) (.cons (.var k) .nil)))) .nil) (.var k)) ρ = .ok (.f (nD (vw F (msk F s)))) ρ := by
  have hl : k < ρ.length := by
    rcases Nat.lt_or_ge k ρ.length with h | h
    · exact h
    · simp [plainAt, List.getElem?_eq_none h] at hp
  refine lcv_ev (fun v => (msk F s).testBit v) (r1_hi h.hF hi) hp fun v hv => ⟨.bl ((msk F s).testBit v), rfl, ?_⟩
  have h1 : (ρ.set k (.d (.int (v : Int))))[i]? = some (.d (fD F)) := by rw [List.getElem?_set_ne (Ne.symm ik)]; exact hi
  have h2 : (ρ.set k (.d (.int (v : Int))))[j]? = some (.d (enc true s)) := by rw [List.getElem?_set_ne (Ne.symm jk)]; exact hj
  exact call_ev (vs := [.p (fD F), .p (enc true s), .p (.int (v : Int))]) (as := [.a (fD F), .a (enc true s), .a (.int (v : Int))]) (es_cons (var_d h1) (es_cons (var_d h2) (es_cons (var_d (by simp [hl])) rfl))) rfl rfl (lt_ok h v hn) rfl
/-! ### _law_bits -/
theorem bits_lt {m b : Nat} (h : m < 2 ^ b) : m.log2 < b ∨ m = 0 := by
  by_cases h0 : m = 0
  · exact .inr h0
  · exact .inl ((Nat.log2_lt h0).mpr h)
theorem lbits_ok {n m : Nat} (hm : m < 2 ^ 32) : call mo prog (n + 1) 29 [.a (.int m)] = .ok (.f (nD (vs 32 m))) [] := by
  rw [call_s _ _ _ F__law_bits rfl]
  have hb : ∃ b : Nat, bitsOf (m : Int) = b ∧ b ≤ 32 ∧ m < 2 ^ b := by
    unfold bitsOf
    by_cases h0 : m = 0
    · subst h0; exact ⟨0, rfl, by omega, by decide⟩
    · have : (((m : Nat) : Int) == 0) = false := beq_eq_false_iff_ne.mpr (by omega)
      rw [this, Int.natAbs_natCast]
      refine ⟨m.log2 + 1, rfl, ?_, Nat.lt_log2_self⟩
      have := (Nat.log2_lt h0).mpr hm
      omega
  obtain ⟨b, hb1, hb2, hb3⟩ := hb
  rw [vs_eq hb3 hb2]
  refine run0 (ρ0 := [.d (.int m), .no]) (ρ := [.d (.int m), .no]) (ss_rt (ret_ev ?_ (by intro i h; cases h) (by intro i h; cases h))) rfl rfl (by intro i h; cases h) rfl
  refine lcv_ev (fun k => m.testBit k) ?_ rfl fun k hk => ⟨.int (m / 2 ^ k % 2 : Nat), bit_truth m k, bit_ev rfl rfl⟩
  have he : evE mo (call mo prog n) (.me .bitlen (.bor 0) .nil) [.d (.int m), .no] = .ok (.p (.int b)) [.d (.int m), .no] := by
    rw [← hb1]
    rfl
  rw [evIt, he]
  simp only
  rw [if_pos ⟨by omega, by omega⟩, Int.toNat_natCast, intsD_nD]
/-! ### mask_of -/
def ofL (xs : List Nat) : Nat := xs.foldl (fun a v => a ||| 2 ^ v) 0
theorem mk_turns {C : Nat → List Arg → Rc} {d0 : D} : ∀ (xs : List Nat) (a : Nat) (s2 : Sl), fr s2 = true → (∀ x ∈ xs, x ≤ 1000) → ∃ s2', forTurns (turn mo C [2] b_mask_of_1a) [.d d0, .d (.int a), s2] (nD xs) = .nx [.d d0, .d (.int (xs.foldl (fun a v => a ||| 2 ^ v) a : Nat)), s2']
  | [], a, s2, _, _ => ⟨s2, rfl⟩
  | x :: r, a, s2, h, hx => by
    obtain ⟨s, h1⟩ := mk_turns (C := C) (d0 := d0) r (a ||| 2 ^ x) (.d (.int x)) rfl fun y m => hx y (List.mem_cons_of_mem _ m)
    refine ⟨s, (ft_nx (ρ1 := [.d d0, .d (.int (a ||| 2 ^ x : Nat)), .d (.int x)]) ?_).trans h1⟩
    refine turn_ev (ρ2 := [.d d0, .d (.int a), .d (.int x)]) (bind1 rfl h) ?_
    have hx := hx x List.mem_cons_self
    exact (ss_nx (asg_ev (bin_ev (v := .p (.int a)) rfl (bin_ev (v := .p (.int 1)) (w := .p (.int x)) rfl rfl rfl rfl (shl_n (by omega))) rfl rfl (or_n _ _)) rfl)).trans rfl
theorem mk_ok {n : Nat} {th : D} {xs : List Nat} (hth : itemsOf th = some (nD xs)) (hx : ∀ x ∈ xs, x ≤ 1000) : call mo prog (n + 1) 7 [.a th] = .ok (.p (.int (ofL xs))) [] := by
  rw [call_s _ _ _ F_mask_of rfl]
  obtain ⟨s2, h⟩ := mk_turns (C := call mo prog n) (d0 := th) xs 0 .no rfl hx
  refine run0 (ρ0 := [.d th, .no, .no]) (ρ := [.d th, .d (.int (ofL xs)), s2]) ?_ rfl rfl (by intro i h; cases h) rfl
  refine (ss_nx (ρ1 := [.d th, .d (.int (0 : Nat)), .no]) rfl).trans ((ss_nx ((for_ev (ds := nD xs) (ρ1 := [.d th, .d (.int (0 : Nat)), .no]) (it_call (v := .p th) rfl rfl hth)).trans h)).trans rfl)
theorem ofL_bit : ∀ (xs : List Nat) (a j : Nat), (xs.foldl (fun a v => a ||| 2 ^ v) a).testBit j = (a.testBit j || decide (j ∈ xs))
  | [], a, j => by simp
  | x :: r, a, j => by
    rw [List.foldl_cons, ofL_bit r, Nat.testBit_or, Nat.testBit_two_pow]
    by_cases h : x = j
    · subst h; simp
    · have : ¬ j = x := fun e => h e.symm
      simp [h, this]
theorem ofL_vs {n m : Nat} (h : m < 2 ^ n) : ofL (vs n m) = m := by
  apply Nat.eq_of_testBit_eq
  intro j
  unfold ofL
  rw [ofL_bit, Nat.zero_testBit, Bool.false_or]
  unfold vs
  by_cases hj : j < n
  · simp [hj]
  · have := Nat.testBit_lt_two_pow (x := m) (i := j) (Nat.lt_of_lt_of_le h (Nat.pow_le_pow_right (by omega) (by omega)))
    simp [hj, this]
/-! ### is_ascending -/
theorem allBl_t {α : Type} : ∀ ds : List α, allBl (ds.map fun _ => D.bl true) = some (ds.map fun _ => true)
  | [] => rfl
  | x :: r => by rw [List.map_cons, allBl, allBl_t r]; rfl
theorem all_t {α : Type} (ds : List α) : biD .all [.lst (ds.map fun _ => D.bl true)] = some (.p (.bl true)) := by
  unfold biD
  simp only
  rw [allBl_t]
  simp
theorem nD_get {xs : List Nat} {k : Nat} (h : k < xs.length) : item (.tup (nD xs)) (.int k) = some (.int (xs[k] : Nat)) := by
  have h2 : k < (nD xs).length := by rw [nD_len]; exact h
  unfold item
  simp only [pix_nat h2, Option.bind_some]
  simp [nD, h]
theorem asc_ok {n : Nat} {xs : List Nat} {hi : Int} (hx : ∀ x ∈ xs, (x : Int) ≤ hi) (hp : xs.Pairwise (· < ·)) (hl : xs.length ≤ 1000) : call mo prog (n + 2) 6 [.a (.tup (nD xs)), .a (.int 0), .a (.int hi)] = .ok (.p (.bl true)) [] := by
  rw [call_s _ _ _ F_is_ascending rfl]
  refine run0 (ρ0 := [.d (.tup (nD xs)), .d (.int 0), .d (.int hi), .no, .no]) (ρ := [.d (.tup (nD xs)), .d (.int 0), .d (.int hi), .no, .no]) ?_ rfl rfl (by intro i h; cases h) rfl
  have t1 : evE mo (call mo prog (n + 1)) (.bi .all (.cons (.lc [4] (.val (.var 0)) .nil (.call 0 (.cons (.var 4) (.cons (.var 1) (.cons (.var 2) .nil))))) .nil)) [.d (.tup (nD xs)), .d (.int 0), .d (.int hi), .no, .no] = .ok (.p (.bl true)) [.d (.tup (nD xs)), .d (.int 0), .d (.int hi), .no, .no] := by
    obtain ⟨ρ1, e1, s, rfl⟩ := lc_map (f := lcf mo (call mo prog (n + 1)) [4] .nil (.call 0 (.cons (.var 4) (.cons (.var 1) (.cons (.var 2) .nil))))) (fun ρ => ∃ s, ρ = [.d (.tup (nD xs)), .d (.int 0), .d (.int hi), .no, s]) (fun _ => .bl true) (nD xs) [.d (.tup (nD xs)), .d (.int 0), .d (.int hi), .no, .no] ⟨_, rfl⟩ (by
      rintro d hd ρ ⟨s, rfl⟩
      obtain ⟨x, mx, rfl⟩ := List.mem_map.mp hd
      refine ⟨[.d (.tup (nD xs)), .d (.int 0), .d (.int hi), .no, .d (.int (x : Int))], ?_, _, rfl⟩
      have hc := call_ev (M := mo) (C := call mo prog (n + 1)) (f := 0) (es := .cons (.var 4) (.cons (.var 1) (.cons (.var 2) .nil))) (ρ := [.d (.tup (nD xs)), .d (.int 0), .d (.int hi), .no, .d (.int (x : Int))]) (vs := [.p (.int (x : Int)), .p (.int 0), .p (.int hi)]) (as := [.a (.int (x : Int)), .a (.int 0), .a (.int hi)]) rfl rfl rfl (isint_ok (n := n) (by omega) (hx x mx)) rfl
      have hb : bindT (wipe [.d (.tup (nD xs)), .d (.int 0), .d (.int hi), .no, s] [4]) [4] (.int (x : Int)) = some [.d (.tup (nD xs)), .d (.int 0), .d (.int hi), .no, .d (.int (x : Int))] := rfl
      unfold lcf
      rw [hb]
      simp only [evAnd, res, fz, Option.bind_some, truth, hc])
    have hl := lc_ev (M := mo) (C := call mo prog (n + 1)) (it := .val (.var 0)) (ds := nD xs) (ρ := [.d (.tup (nD xs)), .d (.int 0), .d (.int hi), .no, .no]) rfl rfl e1
    rw [evE, evEs, hl]
    simp only [evEs, fz, ress, res, all_t]
    rfl
  refine (ss_nx (if_f (ρ1 := [.d (.tup (nD xs)), .d (.int 0), .d (.int hi), .no, .no]) (or_f (ρ1 := [.d (.tup (nD xs)), .d (.int 0), .d (.int hi), .no, .no]) rfl (by rw [evE, t1]; rfl)) rfl)).trans ?_
  refine ss_rt (ret_ev ?_ (by intro i h; cases h) (by intro i h; cases h))
  have hlen : evIt mo (call mo prog (n + 1)) (.r1 (.bin .sub (.bi .len (.cons (.bor 0) .nil)) (.c (.int 1)))) [.d (.tup (nD xs)), .d (.int 0), .d (.int hi), .no, .no] = some (intsD 0 (xs.length - 1), [.d (.tup (nD xs)), .d (.int 0), .d (.int hi), .no, .no]) := by
    have h1 : evE mo (call mo prog (n + 1)) (.bin .sub (.bi .len (.cons (.bor 0) .nil)) (.c (.int 1))) [.d (.tup (nD xs)), .d (.int 0), .d (.int hi), .no, .no] = .ok (.p (.int ((nD xs).length - 1))) [.d (.tup (nD xs)), .d (.int 0), .d (.int hi), .no, .no] := rfl
    rw [evIt, h1]
    simp only [nD_len]
    rw [if_pos ⟨by omega, by omega⟩]
    congr 3
    omega
  obtain ⟨ρ1, e1, s, rfl⟩ := lc_map (f := lcf mo (call mo prog (n + 1)) [3] .nil (.cmp .lt (.ix (.bor 0) (.bor 3)) (.ix (.bor 0) (.bin .add (.bor 3) (.c (.int 1)))))) (fun ρ => ∃ s, ρ = [.d (.tup (nD xs)), .d (.int 0), .d (.int hi), s, .no]) (fun _ => .bl true) (intsD 0 (xs.length - 1)) [.d (.tup (nD xs)), .d (.int 0), .d (.int hi), .no, .no] ⟨_, rfl⟩ (by
    rintro d hd ρ ⟨s, rfl⟩
    obtain ⟨k, hk, rfl⟩ := mem_ints hd
    rw [Int.zero_add]
    refine ⟨[.d (.tup (nD xs)), .d (.int 0), .d (.int hi), .d (.int (k : Int)), .no], ?_, _, rfl⟩
    have hlt : xs[k] < xs[k + 1] := (List.pairwise_iff_getElem.mp hp) k (k + 1) (by omega) (by omega) (by omega)
    have i1 : evE mo (call mo prog (n + 1)) (.ix (.bor 0) (.bor 3)) [.d (.tup (nD xs)), .d (.int 0), .d (.int hi), .d (.int (k : Int)), .no] = .ok (.p (.int (xs[k] : Nat))) [.d (.tup (nD xs)), .d (.int 0), .d (.int hi), .d (.int (k : Int)), .no] :=
      ix_ev (v := .p (.tup (nD xs))) (w := .p (.int (k : Int))) rfl rfl rfl rfl (nD_get (by omega))
    have i2 : evE mo (call mo prog (n + 1)) (.ix (.bor 0) (.bin .add (.bor 3) (.c (.int 1)))) [.d (.tup (nD xs)), .d (.int 0), .d (.int hi), .d (.int (k : Int)), .no] = .ok (.p (.int (xs[k + 1] : Nat))) [.d (.tup (nD xs)), .d (.int 0), .d (.int hi), .d (.int (k : Int)), .no] :=
      ix_ev (v := .p (.tup (nD xs))) (w := .p (.int ((k + 1 : Nat) : Int))) rfl rfl rfl rfl (nD_get (by omega))
    have hc := cmp_ev (o := .lt) (r := true) i1 i2 rfl rfl (by
      unfold cmpD
      simp only
      congr 1
      exact decide_eq_true (by omega))
    have hb : bindT (wipe [.d (.tup (nD xs)), .d (.int 0), .d (.int hi), s, .no] [3]) [3] (.int (k : Int)) = some [.d (.tup (nD xs)), .d (.int 0), .d (.int hi), .d (.int (k : Int)), .no] := rfl
    unfold lcf
    rw [hb]
    simp only [evAnd, res, fz, Option.bind_some, truth, hc])
  have hl := lc_ev (M := mo) (C := call mo prog (n + 1)) hlen rfl e1
  rw [evE, evEs, hl]
  simp only [evEs, fz, ress, res, all_t]
  rfl
theorem vs_asc (n m : Nat) : (vs n m).Pairwise (· < ·) := List.Pairwise.filter _ List.pairwise_lt_range
theorem vs_lt {n m x : Nat} (h : x ∈ vs n m) : x < n := List.mem_range.mp (List.mem_filter.mp h).1
theorem vs_len (n m : Nat) : (vs n m).length ≤ n := by
  have := List.length_filter_le (fun k => m.testBit k) (List.range n)
  rw [List.length_range] at this
  exact this
end K01
end
section
set_option linter.all false
set_option maxRecDepth 100000
set_option maxHeartbeats 4000000
namespace K01
open Cz
/-! ### the saying of a mask -/
def eith (x : List Nat) (low high : Sy) : Sy :=
  if high = .yes then (if low = .no then .fact x else .or (.fact x) low)
  else if low = .yes then (if high = .no then .neg (.fact x) else .or (.neg (.fact x)) high)
  else if high = .no then .and (.neg (.fact x)) low
  else if low = .no then .and (.fact x) high
  else .or (.and (.fact x) high) (.and (.neg (.fact x)) low)
/-- the facts behind one another, the last one first -/
def sfr : List (List Nat) → Nat → Sy
  | [], m => if m = 0 then .no else .yes
  | x :: r, m => if m = 0 then .no else if m = 2 ^ 2 ^ (r.length + 1) - 1 then .yes else
    if sfr r (m % 2 ^ 2 ^ r.length) = sfr r (m / 2 ^ 2 ^ r.length) then sfr r (m % 2 ^ 2 ^ r.length) else eith x (sfr r (m % 2 ^ 2 ^ r.length)) (sfr r (m / 2 ^ 2 ^ r.length))
theorem eith_met {x : List Nat} {low high : Sy} {Q : List Nat → Prop} (h1 : Q x) (h2 : ∀ y ∈ met low, Q y) (h3 : ∀ y ∈ met high, Q y) : ∀ y ∈ met (eith x low high), Q y := by
  intro y hy
  unfold eith at hy
  split at hy
  · split at hy
    · simp [met] at hy; exact hy ▸ h1
    · simp [met] at hy; rcases hy with rfl | hy <;> first | exact h1 | exact h2 y hy | exact h3 y hy
  · split at hy
    · split at hy
      · simp [met] at hy; exact hy ▸ h1
      · simp [met] at hy; rcases hy with rfl | hy <;> first | exact h1 | exact h2 y hy | exact h3 y hy
    · split at hy
      · simp [met] at hy; rcases hy with rfl | hy <;> first | exact h1 | exact h2 y hy | exact h3 y hy
      · split at hy
        · simp [met] at hy; rcases hy with rfl | hy <;> first | exact h1 | exact h2 y hy | exact h3 y hy
        · simp [met] at hy
          rcases hy with rfl | hy | rfl | hy <;> first | exact h1 | exact h2 y hy | exact h3 y hy
theorem sfr_met : ∀ (r : List (List Nat)) (m : Nat), ∀ y ∈ met (sfr r m), y ∈ r
  | [], m => by
    intro y hy
    unfold sfr at hy
    split at hy <;> simp [met] at hy
  | x :: r, m => by
    intro y hy
    unfold sfr at hy
    split at hy
    · simp [met] at hy
    · split at hy
      · simp [met] at hy
      · split at hy
        · exact List.mem_cons_of_mem _ (sfr_met r _ y hy)
        · exact eith_met (Q := fun y => y ∈ x :: r) List.mem_cons_self (fun y h => List.mem_cons_of_mem _ (sfr_met r _ y h)) (fun y h => List.mem_cons_of_mem _ (sfr_met r _ y h)) y hy
theorem eith_sz (x : List Nat) (low high : Sy) : sz (eith x low high) ≤ 6 + sz low + sz high ∧ dp (eith x low high) ≤ 3 + max (dp low) (dp high) := by
  unfold eith
  have := sz_pos low
  have := sz_pos high
  split
  · split <;> simp [sz, dp] <;> omega
  · split
    · split <;> simp [sz, dp] <;> omega
    · split
      · simp [sz, dp]; omega
      · split <;> simp [sz, dp] <;> omega
theorem sfr0 (m : Nat) : sz (sfr [] m) = 1 ∧ dp (sfr [] m) = 0 ∧ (sfr [] m = .yes ∨ sfr [] m = .no) := by
  unfold sfr
  split <;> simp [sz, dp]
theorem sfr1 (x : List Nat) (m : Nat) : sz (sfr [x] m) ≤ 2 ∧ dp (sfr [x] m) ≤ 1 := by
  have h1 := sfr0 (m % 2 ^ 2 ^ 0)
  have h2 := sfr0 (m / 2 ^ 2 ^ 0)
  rw [sfr]
  split
  · simp [sz, dp]
  · split
    · simp [sz, dp]
    · simp only [List.length_nil]
      split
      · omega
      · rename_i _ _ hne
        rcases h1.2.2 with e1 | e1 <;> rcases h2.2.2 with e2 | e2
        · exact absurd (e1.trans e2.symm) hne
        · rw [e1, e2]; simp [eith, sz, dp]
        · rw [e1, e2]; simp [eith, sz, dp]
        · exact absurd (e1.trans e2.symm) hne
def szS : Nat → Nat
  | 0 => 1
  | 1 => 2
  | n + 2 => 6 + 2 * szS (n + 1)
theorem sfr_sz : ∀ (r : List (List Nat)) (m : Nat), sz (sfr r m) ≤ szS r.length ∧ dp (sfr r m) ≤ 3 * r.length
  | [], m => by have := sfr0 m; simp only [List.length_nil, szS]; omega
  | [x], m => by have := sfr1 x m; simp only [List.length_cons, List.length_nil, szS]; omega
  | x :: y :: r, m => by
    have h1 := sfr_sz (y :: r) (m % 2 ^ 2 ^ (y :: r).length)
    have h2 := sfr_sz (y :: r) (m / 2 ^ 2 ^ (y :: r).length)
    have h3 := eith_sz x (sfr (y :: r) (m % 2 ^ 2 ^ (y :: r).length)) (sfr (y :: r) (m / 2 ^ 2 ^ (y :: r).length))
    have e : szS (x :: y :: r).length = 6 + 2 * szS (y :: r).length := rfl
    have e2 : (x :: y :: r).length = (y :: r).length + 1 := rfl
    rw [sfr]
    generalize hA : sfr (y :: r) (m % 2 ^ 2 ^ (y :: r).length) = A at *
    generalize hB : sfr (y :: r) (m / 2 ^ 2 ^ (y :: r).length) = B at *
    split
    · simp only [sz, dp]; omega
    · split
      · simp only [sz, dp]; omega
      · split <;> omega
/-! ### what it says -/
def sem (F : List (List Nat)) : Sy → Nat → Bool
  | .yes, _ => true
  | .no, _ => false
  | .fact x, v => v.testBit (F.idxOf x)
  | .neg a, v => !sem F a v
  | .and a b, v => sem F a v && sem F b v
  | .or a b, v => sem F a v || sem F b v
theorem fm_bits : (Fs.all fun F => F.all fun x => (List.range (2 ^ F.length)).all fun v => (fm F.length (F.idxOf x)).testBit v == v.testBit (F.idxOf x)) = true := by kernel_rfl
theorem ev_bit {F : List (List Nat)} {v : Nat} (hv : v < 2 ^ F.length) : (ev F).testBit v = true := by
  unfold ev
  rw [Nat.testBit_two_pow_sub_one]
  exact decide_eq_true hv
theorem msk_sem {F : List (List Nat)} (hF : F ∈ Fs) {v : Nat} (hv : v < 2 ^ F.length) : ∀ s : Sy, (∀ x ∈ met s, x ∈ F) → (msk F s).testBit v = sem F s v
  | .yes, _ => ev_bit hv
  | .no, _ => Nat.zero_testBit _
  | .fact x, h => eq_of_beq (List.all_eq_true.mp (List.all_eq_true.mp (List.all_eq_true.mp fm_bits F hF) x (h x (by simp [met]))) v (List.mem_range.mpr hv))
  | .neg a, h => by
    unfold msk sem
    rw [Nat.testBit_xor, ev_bit hv, msk_sem hF hv a h]
    cases sem F a v <;> rfl
  | .and a b, h => by
    unfold msk sem
    rw [Nat.testBit_and, msk_sem hF hv a fun x m => h x (by simp [met, m]), msk_sem hF hv b fun x m => h x (by simp [met, m])]
  | .or a b, h => by
    unfold msk sem
    rw [Nat.testBit_or, msk_sem hF hv a fun x m => h x (by simp [met, m]), msk_sem hF hv b fun x m => h x (by simp [met, m])]
theorem sem_ext {G : List (List Nat)} {x : List Nat} (v : Nat) : ∀ s : Sy, (∀ y ∈ met s, y ∈ G) → sem (G ++ [x]) s v = sem G s (v % 2 ^ G.length)
  | .yes, _ => rfl
  | .no, _ => rfl
  | .fact y, h => by
    have hy := h y (by simp [met])
    unfold sem
    rw [List.idxOf_append, if_pos hy, Nat.testBit_mod_two_pow]
    have := List.idxOf_lt_length_of_mem hy
    simp [this]
  | .neg a, h => by
    unfold sem
    rw [sem_ext v a h]
  | .and a b, h => by
    unfold sem
    rw [sem_ext v a fun x m => h x (by simp [met, m]), sem_ext v b fun x m => h x (by simp [met, m])]
  | .or a b, h => by
    unfold sem
    rw [sem_ext v a fun x m => h x (by simp [met, m]), sem_ext v b fun x m => h x (by simp [met, m])]
theorem sem_eith {F : List (List Nat)} {x : List Nat} {low high : Sy} {v : Nat} : sem F (eith x low high) v = if v.testBit (F.idxOf x) then sem F high v else sem F low v := by
  unfold eith
  generalize hb : v.testBit (F.idxOf x) = b
  split
  · rename_i e; subst e
    split
    · rename_i e; subst e; simp only [sem, hb]; cases b <;> rfl
    · simp only [sem, hb]; cases b <;> simp
  · split
    · rename_i e; subst e
      split
      · rename_i e; subst e; simp only [sem, hb]; cases b <;> rfl
      · simp only [sem, hb]; cases b <;> simp
    · split
      · rename_i e; subst e; simp only [sem, hb]; cases b <;> simp
      · split
        · rename_i e; subst e; simp only [sem, hb]; cases b <;> simp
        · simp only [sem, hb]; cases b <;> simp
theorem sem_sf : ∀ (r : List (List Nat)), r.Nodup → ∀ (m : Nat), m < 2 ^ 2 ^ r.length → ∀ v, v < 2 ^ r.length → sem r.reverse (sfr r m) v = m.testBit v
  | [], _, m, hm, v, hv => by
    have hv0 : v = 0 := by simpa using hv
    have hm2 : m < 2 := by simpa using hm
    subst hv0
    unfold sfr
    have : m = 0 ∨ m = 1 := by omega
    rcases this with e | e <;> subst e <;> rfl
  | x :: r, hn, m, hm, v, hv => by
    obtain ⟨hx, hr⟩ := List.nodup_cons.mp hn
    have p : 0 < 2 ^ r.length := Nat.pow_pos (by omega)
    have p2 : 0 < 2 ^ 2 ^ r.length := Nat.pow_pos (by omega)
    have hd : 2 ^ 2 ^ (r.length + 1) = 2 ^ 2 ^ r.length * 2 ^ 2 ^ r.length := by rw [← Nat.pow_add]; congr 1; rw [Nat.pow_succ]; omega
    have hl : (x :: r).length = r.length + 1 := rfl
    rw [hl] at hm hv
    have hv2 : v < 2 ^ r.length * 2 := by rw [← Nat.pow_succ]; exact hv
    have ml := Nat.mod_lt v p
    have hm2 : m / 2 ^ 2 ^ r.length < 2 ^ 2 ^ r.length := Nat.div_lt_of_lt_mul (by rw [← hd]; exact hm)
    have ih1 := sem_sf r hr (m % 2 ^ 2 ^ r.length) (Nat.mod_lt _ p2) (v % 2 ^ r.length) ml
    have ih2 := sem_sf r hr (m / 2 ^ 2 ^ r.length) hm2 (v % 2 ^ r.length) ml
    have lr : r.reverse.length = r.length := List.length_reverse
    have g1 := sem_ext (G := r.reverse) (x := x) v (sfr r (m % 2 ^ 2 ^ r.length)) fun y h => List.mem_reverse.mpr (sfr_met r _ y h)
    have g2 := sem_ext (G := r.reverse) (x := x) v (sfr r (m / 2 ^ 2 ^ r.length)) fun y h => List.mem_reverse.mpr (sfr_met r _ y h)
    rw [lr, ih1, Nat.testBit_mod_two_pow, decide_eq_true ml, Bool.true_and] at g1
    rw [lr, ih2, Nat.testBit_div_two_pow] at g2
    have hix : (r.reverse ++ [x]).idxOf x = r.length := by
      rw [List.idxOf_append, if_neg (by rw [List.mem_reverse]; exact hx), List.idxOf_cons_self, lr]
      omega
    have hb : v.testBit r.length = decide (v / 2 ^ r.length % 2 = 1) := Nat.testBit_eq_decide_div_mod_eq
    have hdm := Nat.div_add_mod v (2 ^ r.length)
    have hq : v / 2 ^ r.length < 2 := Nat.div_lt_of_lt_mul hv2
    have key : (if v.testBit r.length then m.testBit (v % 2 ^ r.length + 2 ^ r.length) else m.testBit (v % 2 ^ r.length)) = m.testBit v := by
      have : v / 2 ^ r.length = 0 ∨ v / 2 ^ r.length = 1 := by
        clear hdm g1 g2 ih1 ih2 hb
        generalize v / 2 ^ r.length = q at hq
        omega
      rcases this with e | e
      · rw [e] at hb hdm
        rw [hb]
        simp only [Nat.zero_mod, Nat.zero_ne_one, decide_false, Bool.false_eq_true, if_false]
        congr 1
        omega
      · rw [e] at hb hdm
        rw [hb]
        simp only [Nat.one_mod, decide_true, if_true]
        congr 1
        omega
    rw [List.reverse_cons, sfr]
    split
    · rename_i e; subst e; simp [sem]
    · split
      · rename_i _ e
        rw [e, Nat.testBit_two_pow_sub_one]
        exact (decide_eq_true hv).symm
      · split
        · rename_i e
          rw [← key, g1]
          rw [← e, g1] at g2
          rw [g2]
          simp
        · rw [sem_eith, hix, g1, g2, key]
end K01
end
section
set_option linter.all false
set_option maxRecDepth 100000
set_option maxHeartbeats 4000000
namespace K01
open Cz
/-! ### equal sayings -/
theorem beq2 {k l : List Nat} {a b : D} : D.beq (.tup [.str k, a]) (.tup [.str l, b]) = (k == l && D.beq a b) := by
  simp [D.beq, D.beqs]
theorem beq3 {k l : List Nat} {a b c d : D} : D.beq (.tup [.str k, a, c]) (.tup [.str l, b, d]) = (k == l && (D.beq a b && D.beq c d)) := by
  simp [D.beq, D.beqs]
theorem enc_beq : ∀ a b : Sy, D.beq (enc true a) (enc true b) = decide (a = b)
  | .yes, b => by cases b <;> rfl
  | .no, b => by cases b <;> rfl
  | .fact x, b => by
    cases b with
    | fact y =>
      show D.beq (.tup [.str (tx "fact"), .str x]) (.tup [.str (tx "fact"), .str y]) = _
      rw [beq2]
      by_cases h : x = y <;> simp [D.beq, h]
    | _ => exact (rfl : D.beq _ _ = false).trans (by simp)
  | .neg a, b => by
    cases b with
    | neg c =>
      show D.beq (.tup [.str (tx "not"), enc true a]) (.tup [.str (tx "not"), enc true c]) = _
      rw [beq2, enc_beq a c]
      simp
    | _ => exact (rfl : D.beq _ _ = false).trans (by simp)
  | .and a a2, b => by
    cases b with
    | and c c2 =>
      show D.beq (.tup [.str (tx "and"), enc true a, enc true a2]) (.tup [.str (tx "and"), enc true c, enc true c2]) = _
      rw [beq3, enc_beq a c, enc_beq a2 c2]
      simp
    | _ => exact (rfl : D.beq _ _ = false).trans (by simp)
  | .or a a2, b => by
    cases b with
    | or c c2 =>
      show D.beq (.tup [.str (tx "or"), enc true a, enc true a2]) (.tup [.str (tx "or"), enc true c, enc true c2]) = _
      rw [beq3, enc_beq a c, enc_beq a2 c2]
      simp
    | _ => exact (rfl : D.beq _ _ = false).trans (by simp)
theorem eq_sy {a b : Sy} (ha : dp a ≤ 90) (hb : dp b ≤ 90) : cmpD .eq (enc true a) (enc true b) = some (decide (a = b)) := by
  unfold cmpD
  simp only [enc_dep100 ha, enc_dep100 hb, Bool.and_self, if_true, enc_beq]
section
variable {C : Nat → List Arg → Rc}
theorem is_yes {ρ : Env} {j : Nat} {a : Sy} {b : Bool} (ha : dp a ≤ 90) (h : ρ[j]? = some (.d (enc true a))) (hb : decide (a = .yes) = b) : evE mo C (.cmp .eq (.bor j) (.tup (.cons (.c (.str [121, 101, 115])) .nil))) ρ = .ok (.p (.bl b)) ρ :=
  cmp_ev (w := .p (enc true .yes)) (bor_d h) rfl rfl rfl ((eq_sy ha (by decide)).trans (by rw [hb]))
theorem is_no {ρ : Env} {j : Nat} {a : Sy} {b : Bool} (ha : dp a ≤ 90) (h : ρ[j]? = some (.d (enc true a))) (hb : decide (a = .no) = b) : evE mo C (.cmp .eq (.bor j) (.tup (.cons (.c (.str [110, 111])) .nil))) ρ = .ok (.p (.bl b)) ρ :=
  cmp_ev (w := .p (enc true .no)) (bor_d h) rfl rfl rfl ((eq_sy ha (by decide)).trans (by rw [hb]))
end
theorem eith_ok {n : Nat} {x : List Nat} {low high : Sy} (hl : dp low ≤ 90) (hh : dp high ≤ 90) : call mo prog (n + 1) 21 [.a (enc true (.fact x)), .a (enc true low), .a (enc true high)] = .ok (.p (enc true (eith x low high))) [] := by
  rw [call_s _ _ _ F_either_of rfl]
  refine run0 (ρ0 := [.d (enc true (.fact x)), .d (enc true low), .d (enc true high), .no]) (ρ := [.d (enc true (.fact x)), .d (enc true low), .d (enc true high), .d (enc true (.neg (.fact x)))]) ?_ rfl rfl (by intro i h; cases h) rfl
  refine (ss_nx (ρ1 := [.d (enc true (.fact x)), .d (enc true low), .d (enc true high), .d (enc true (.neg (.fact x)))]) rfl).trans ?_
  unfold eith
  by_cases h1 : high = .yes
  · rw [if_pos h1]
    refine ss_rt (if_t (is_yes hh rfl (decide_eq_true h1)) (ss_rt ?_))
    by_cases h2 : low = .no
    · rw [if_pos h2]
      exact ret_ev (ifE_t (is_no hl rfl (decide_eq_true h2)) rfl) (by intro i h; cases h) (by intro i h; cases h)
    · rw [if_neg h2]
      exact ret_ev (ifE_f (is_no hl rfl (decide_eq_false h2)) rfl) (by intro i h; cases h) (by intro i h; cases h)
  rw [if_neg h1]
  refine (ss_nx (if_f (is_yes hh rfl (decide_eq_false h1)) rfl)).trans ?_
  by_cases h3 : low = .yes
  · rw [if_pos h3]
    refine ss_rt (if_t (is_yes hl rfl (decide_eq_true h3)) (ss_rt ?_))
    by_cases h2 : high = .no
    · rw [if_pos h2]
      exact ret_ev (ifE_t (is_no hh rfl (decide_eq_true h2)) rfl) (by intro i h; cases h) (by intro i h; cases h)
    · rw [if_neg h2]
      exact ret_ev (ifE_f (is_no hh rfl (decide_eq_false h2)) rfl) (by intro i h; cases h) (by intro i h; cases h)
  rw [if_neg h3]
  refine (ss_nx (if_f (is_yes hl rfl (decide_eq_false h3)) rfl)).trans ?_
  by_cases h4 : high = .no
  · rw [if_pos h4]
    exact ss_rt (if_t (is_no hh rfl (decide_eq_true h4)) rfl)
  rw [if_neg h4]
  refine (ss_nx (if_f (is_no hh rfl (decide_eq_false h4)) rfl)).trans ?_
  by_cases h5 : low = .no
  · rw [if_pos h5]
    exact ss_rt (if_t (is_no hl rfl (decide_eq_true h5)) rfl)
  rw [if_neg h5]
  exact (ss_nx (if_f (is_no hl rfl (decide_eq_false h5)) rfl)).trans rfl
/-! ### saying_for -/
theorem cut_last {a : List D} {b : D} : cut (a ++ [b]) none (some (-1)) = a := by
  have h : six (a ++ [b]).length (a ++ [b]).length (some (-1)) = a.length := by
    unfold six
    simp only
    rw [if_pos (by decide), List.length_append, List.length_cons, List.length_nil]
    omega
  unfold cut
  rw [h]
  simp [six]
theorem item_last {a : List D} {b : D} : item (.tup (a ++ [b])) (.int (-1)) = some b := by
  have h : pix (a ++ [b]).length (-1) = some a.length := by
    unfold pix
    rw [if_neg (by decide), List.length_append, List.length_cons, List.length_nil, if_pos (by omega)]
    congr 1
    omega
  unfold item
  simp only [h, Option.bind_some]
  simp
section
variable {C : Nat → List Arg → Rc}
theorem len_g {F : List (List Nat)} {ρ : Env} {i : Nat} (hi : ρ[i]? = some (.d (fD F))) : evE mo C (.bi .len (.cons (.bor i) .nil)) ρ = .ok (.p (.int F.length)) ρ := by
  refine len_ev (bor_d hi) rfl ?_
  unfold fD biD
  simp
theorem sub1 (q : Nat) (h : 0 < q) : binD .sub (.int (q : Int)) (.int 1) = some (.p (.int (q - 1 : Nat))) := by
  unfold binD
  simp only
  congr 3
  omega
theorem every_g {i : Nat} {ρ : Env} {F : List (List Nat)} (h : F.length ≤ 5) (hi : ρ[i]? = some (.d (fD F))) : evE mo C (.bin .sub (.bin .shl (.c (.int 1)) (.bin .shl (.c (.int 1)) (.bi .len (.cons (.bor i) .nil)))) (.c (.int 1))) ρ = .ok (.p (.int (ev F))) ρ := by
  have h32 : 2 ^ F.length ≤ 2 ^ 5 := Nat.pow_le_pow_right (by omega) h
  exact bin_ev (bin_ev (v := .p (.int 1)) rfl (bin_ev (v := .p (.int 1)) rfl (len_g hi) rfl rfl (shl_n (by omega))) rfl rfl (shl_n (by omega))) (w := .p (.int 1)) rfl rfl rfl (sub1 _ (Nat.pow_pos (by omega)))
theorem eq_nat {ρ : Env} {a b : E} {x y : Nat} {k : Bool} (ha : evE mo C a ρ = .ok (.p (.int x)) ρ) (hb : evE mo C b ρ = .ok (.p (.int y)) ρ) (h : decide (x = y) = k) : evE mo C (.cmp .eq a b) ρ = .ok (.p (.bl k)) ρ := by
  refine cmp_ev ha hb rfl rfl ?_
  have : cmpD .eq (.int x) (.int y) = some (D.beq (.int x) (.int y)) := rfl
  rw [this, ← h]
  congr 1
  unfold D.beq
  by_cases e : x = y
  · subst e; simp
  · have e2 : (x : Int) ≠ y := by omega
    rw [beq_eq_false_iff_ne.mpr e2, decide_eq_false e]
end
theorem sf_ok : ∀ (r : List (List Nat)) (m : Nat), r.length ≤ 5 → m < 2 ^ 2 ^ r.length → ∀ N, r.length + 2 ≤ N → call mo prog N 22 [.a (fD r.reverse), .a (.int m)] = .ok (.p (enc true (sfr r m))) []
  | [], m, hr, hm, N, hN => by
    obtain ⟨n, rfl⟩ : ∃ n, N = n + 1 := ⟨N - 1, by omega⟩
    rw [call_s _ _ _ F_saying_for rfl]
    have hm2 : m < 2 := by simpa using hm
    have : m = 0 ∨ m = 1 := by omega
    rcases this with e | e <;> subst e <;> rfl
  | x :: r, m, hr, hm, N, hN => by
    obtain ⟨n, rfl⟩ : ∃ n, N = n + 1 := ⟨N - 1, by omega⟩
    have hl : (x :: r).length = r.length + 1 := rfl
    rw [hl] at hr hm hN
    have p : 0 < 2 ^ r.length := Nat.pow_pos (by omega)
    have p2 : 0 < 2 ^ 2 ^ r.length := Nat.pow_pos (by omega)
    have q32 : 2 ^ r.length ≤ 2 ^ 5 := Nat.pow_le_pow_right (by omega) (by omega)
    have hd : 2 ^ 2 ^ (r.length + 1) = 2 ^ 2 ^ r.length * 2 ^ 2 ^ r.length := by rw [← Nat.pow_add]; congr 1; rw [Nat.pow_succ]; omega
    have hm2 : m / 2 ^ 2 ^ r.length < 2 ^ 2 ^ r.length := Nat.div_lt_of_lt_mul (by rw [← hd]; exact hm)
    have ih1 := sf_ok r (m % 2 ^ 2 ^ r.length) (by omega) (Nat.mod_lt _ p2) n (by omega)
    have ih2 := sf_ok r (m / 2 ^ 2 ^ r.length) (by omega) hm2 n (by omega)
    have z1 := (sfr_sz r (m % 2 ^ 2 ^ r.length)).2
    have z2 := (sfr_sz r (m / 2 ^ 2 ^ r.length)).2
    have fe : fD (x :: r).reverse = .tup (r.reverse.map .str ++ [.str x]) := by
      unfold fD
      rw [List.reverse_cons, List.map_append]
      rfl
    have le : (x :: r).reverse.length = r.length + 1 := by simp
    have ee : ev (x :: r).reverse = 2 ^ 2 ^ (r.length + 1) - 1 := by unfold ev; rw [le]
    rw [call_s _ _ _ F_saying_for rfl, sfr]
    generalize hF : fD (x :: r).reverse = FD at *
    generalize hLo : sfr r (m % 2 ^ 2 ^ r.length) = Lo at *
    generalize hHi : sfr r (m / 2 ^ 2 ^ r.length) = Hi at *
    obtain ⟨E, hE⟩ : ∃ E, E = ev (x :: r).reverse := ⟨_, rfl⟩
    have s1 : evSs mo (call mo prog n) b_saying_for [.d FD, .d (.int m), .no, .no, .no, .no] = evSs mo (call mo prog n) b_saying_for_1 [.d FD, .d (.int m), .d (.int E), .no, .no, .no] := by
      refine ss_nx (asg_ev (every_g (F := (x :: r).reverse) (by omega) (by rw [hF]; rfl)) ?_)
      rw [hE]
      rfl
    by_cases h0 : m = 0
    · rw [if_pos h0]
      refine run0 (ρ0 := [.d FD, .d (.int m), .no, .no, .no, .no]) (ρ := [.d FD, .d (.int m), .d (.int E), .no, .no, .no]) (s1.trans ?_) rfl rfl (by intro i h; cases h) rfl
      exact ss_rt (if_t (eq_nat (x := m) (y := 0) rfl rfl (decide_eq_true h0)) rfl)
    rw [if_neg h0]
    have s2 : evSs mo (call mo prog n) b_saying_for_1 [.d FD, .d (.int m), .d (.int E), .no, .no, .no] = evSs mo (call mo prog n) b_saying_for_2 [.d FD, .d (.int m), .d (.int E), .no, .no, .no] :=
      ss_nx (if_f (eq_nat (x := m) (y := 0) rfl rfl (decide_eq_false h0)) rfl)
    by_cases h1 : m = 2 ^ 2 ^ (r.length + 1) - 1
    · rw [if_pos h1]
      refine run0 (ρ0 := [.d FD, .d (.int m), .no, .no, .no, .no]) (ρ := [.d FD, .d (.int m), .d (.int E), .no, .no, .no]) (s1.trans (s2.trans ?_)) rfl rfl (by intro i h; cases h) rfl
      exact ss_rt (if_t (eq_nat (x := m) (y := E) rfl rfl (decide_eq_true (by rw [hE, ee]; exact h1))) rfl)
    rw [if_neg h1]
    have hlen : evE mo (call mo prog n) (.bin .shl (.c (.int 1)) (.bin .sub (.bi .len (.cons (.bor 0) .nil)) (.c (.int 1)))) [.d FD, .d (.int m), .d (.int E), .no, .no, .no] = .ok (.p (.int (2 ^ r.length : Nat))) [.d FD, .d (.int m), .d (.int E), .no, .no, .no] := by
      refine bin_ev (v := .p (.int 1)) rfl (bin_ev (w := .p (.int 1)) (len_g (F := (x :: r).reverse) (by rw [hF]; rfl)) rfl rfl rfl (r := .p (.int r.length)) ?_) rfl rfl (shl_n (by omega))
      rw [le]
      exact sub1 (r.length + 1) (by omega)
    have s3 : evSs mo (call mo prog n) b_saying_for_2 [.d FD, .d (.int m), .d (.int E), .no, .no, .no] = evSs mo (call mo prog n) b_saying_for_4 [.d FD, .d (.int m), .d (.int E), .d (.int (2 ^ r.length : Nat)), .no, .no] :=
      (ss_nx (if_f (eq_nat (x := m) (y := E) rfl rfl (decide_eq_false (by rw [hE, ee]; exact h1))) rfl)).trans (ss_nx (asg_ev hlen rfl))
    have sl : ∀ ρ : Env, ρ[0]? = some (.d FD) → evE mo (call mo prog n) (.slT (.bor 0) (.neg (.c (.int 1)))) ρ = .ok (.p (fD r.reverse)) ρ := by
      intro ρ h
      refine slT_ev (v := .p FD) (w := .p (.int (-1))) (bor_d h) rfl rfl rfl ?_
      rw [fe]
      unfold slice
      simp only [cut_last]
      rfl
    have s4 : evSs mo (call mo prog n) b_saying_for_4 [.d FD, .d (.int m), .d (.int E), .d (.int (2 ^ r.length : Nat)), .no, .no] = evSs mo (call mo prog n) b_saying_for_5 [.d FD, .d (.int m), .d (.int E), .d (.int (2 ^ r.length : Nat)), .d (enc true Lo), .no] := by
      refine ss_nx (asg_ev (ρ1 := [.d FD, .d (.int m), .d (.int E), .d (.int (2 ^ r.length : Nat)), .no, .no]) (call_ev (ρ1 := [.d FD, .d (.int m), .d (.int E), .d (.int (2 ^ r.length : Nat)), .no, .no]) (vs := [.p (fD r.reverse), .p (.int (m % 2 ^ 2 ^ r.length : Nat))]) (as := [.a (fD r.reverse), .a (.int (m % 2 ^ 2 ^ r.length : Nat))]) (es_cons (sl _ rfl) (es_cons (ρ1 := [.d FD, .d (.int m), .d (.int E), .d (.int (2 ^ r.length : Nat)), .no, .no]) (v := .p (.int (m % 2 ^ 2 ^ r.length : Nat))) ?_ rfl)) rfl rfl ih1 rfl) rfl)
      refine bin_ev (v := .p (.int m)) (w := .p (.int (2 ^ 2 ^ r.length - 1 : Nat))) rfl (bin_ev (w := .p (.int 1)) (bin_ev (v := .p (.int 1)) (w := .p (.int (2 ^ r.length : Nat))) rfl rfl rfl rfl (shl_n (by omega))) rfl rfl rfl (sub1 _ p2)) rfl rfl ?_
      have := and_n m (2 ^ 2 ^ r.length - 1)
      rw [Nat.and_two_pow_sub_one_eq_mod] at this
      exact this
    have s5 : evSs mo (call mo prog n) b_saying_for_5 [.d FD, .d (.int m), .d (.int E), .d (.int (2 ^ r.length : Nat)), .d (enc true Lo), .no] = evSs mo (call mo prog n) b_saying_for_6 [.d FD, .d (.int m), .d (.int E), .d (.int (2 ^ r.length : Nat)), .d (enc true Lo), .d (enc true Hi)] := by
      refine ss_nx (asg_ev (ρ1 := [.d FD, .d (.int m), .d (.int E), .d (.int (2 ^ r.length : Nat)), .d (enc true Lo), .no]) (call_ev (ρ1 := [.d FD, .d (.int m), .d (.int E), .d (.int (2 ^ r.length : Nat)), .d (enc true Lo), .no]) (vs := [.p (fD r.reverse), .p (.int (m / 2 ^ 2 ^ r.length : Nat))]) (as := [.a (fD r.reverse), .a (.int (m / 2 ^ 2 ^ r.length : Nat))]) (es_cons (sl _ rfl) (es_cons (ρ1 := [.d FD, .d (.int m), .d (.int E), .d (.int (2 ^ r.length : Nat)), .d (enc true Lo), .no]) (v := .p (.int (m / 2 ^ 2 ^ r.length : Nat))) ?_ rfl)) rfl rfl ih2 rfl) rfl)
      exact bin_ev (v := .p (.int m)) (w := .p (.int (2 ^ r.length : Nat))) rfl rfl rfl rfl (shr_n _ _)
    have s0 := s1.trans (s2.trans (s3.trans (s4.trans s5)))
    have hq := eq_sy (a := Lo) (b := Hi) (by omega) (by omega)
    refine run0 (ρ0 := [.d FD, .d (.int m), .no, .no, .no, .no]) (ρ := [.d FD, .d (.int m), .d (.int E), .d (.int (2 ^ r.length : Nat)), .d (enc true Lo), .d (enc true Hi)]) (s0.trans ?_) rfl rfl (by intro i h; cases h) rfl
    by_cases h2 : Lo = Hi
    · rw [if_pos h2]
      exact ss_rt (if_t (cmp_ev (v := .p (enc true Lo)) (w := .p (enc true Hi)) rfl rfl rfl rfl (hq.trans (by rw [decide_eq_true h2]))) rfl)
    · rw [if_neg h2]
      refine (ss_nx (if_f (cmp_ev (v := .p (enc true Lo)) (w := .p (enc true Hi)) rfl rfl rfl rfl (hq.trans (by rw [decide_eq_false h2]))) rfl)).trans ?_
      refine ss_rt (ret_ev ?_ (by intro i h; cases h) (by intro i h; cases h))
      obtain ⟨k, rfl⟩ : ∃ k, n = k + 1 := ⟨n - 1, by omega⟩
      refine call_ev (vs := [.p (enc true (.fact x)), .p (enc true Lo), .p (enc true Hi)]) (as := [.a (enc true (.fact x)), .a (enc true Lo), .a (enc true Hi)]) (es_cons (ρ1 := [.d FD, .d (.int m), .d (.int E), .d (.int (2 ^ r.length : Nat)), .d (enc true Lo), .d (enc true Hi)]) (v := .p (enc true (.fact x))) ?_ rfl) rfl rfl (eith_ok (by omega) (by omega)) rfl
      refine tup_ev (es_cons (v := .p (.s "fact")) rfl (es_cons (v := .p (.str x)) (ix_ev (v := .p FD) (w := .p (.int (-1))) rfl rfl rfl rfl ?_) rfl)) rfl rfl
      rw [fe]
      exact item_last
end K01
end
section
set_option linter.all false
set_option maxRecDepth 100000
set_option maxHeartbeats 4000000
namespace K01
open Cz
/-! ### _law_size -/
theorem andc {C : Nat → List Arg → Rc} {a b : E} {es : Es} {ρ ρ1 : Env} (h : evE mo C a ρ = .ok (.p (.bl true)) ρ1) : evAnd mo C (.cons a (.cons b es)) ρ = evAnd mo C (.cons b es) ρ1 := by
  rw [evAnd, h]
  rfl
theorem ls_head {C : Nat → List Arg → Rc} {k : List Nat} {r : List D} {f : D} {d : Int} (hd : d ≤ 20) : evSs mo C b__law_size [.d (.tup (.str k :: r)), .d f, .d (.int d), .no, .no, .no] = evSs mo C b__law_size_1 [.d (.tup (.str k :: r)), .d f, .d (.int d), .no, .no, .no] := by
  have a1 : ¬ (20 < d) := by omega
  have a3 : (((r.length : Int) + 1) == 0) = false := beq_eq_false_iff_ne.mpr (by omega)
  have i0 := (item0 (.str k) r).1
  refine ss_nx ?_
  simp [evS, evE, evEs, evOr, evSs, res, ress, fz, cmpD, depLe, D.beq, truth, biD, isTy, i0, a1, a3]
theorem ls_turn {C : Nat → List Arg → Rc} {th f x : D} {d : Int} {t q : Nat} {s4 s5 : Sl} (h4 : fr s4 = true) (h5 : fr s5 = true) (hq : 0 < q) (ht : t ≤ 60) (hc : C 32 [.a x, .a f, .a (.int (d + 1))] = .ok (.p (.int q)) []) : turn mo C [4] b__law_size_5a [.d th, .d f, .d (.int d), .d (.int t), s4, s5] x = .nx [.d th, .d f, .d (.int d), .d (.int (t + q : Nat)), .d x, .d (.int q)] := by
  refine turn_ev (ρ2 := [.d th, .d f, .d (.int d), .d (.int t), .d x, s5]) (bind1 rfl h4) ?_
  refine (ss_nx (ρ1 := [.d th, .d f, .d (.int d), .d (.int t), .d x, .d (.int q)]) (asg_ev (call_ev (vs := [.p x, .p f, .p (.int (d + 1))]) (as := [.a x, .a f, .a (.int (d + 1))]) rfl rfl rfl hc rfl) (put_p rfl h5))).trans ?_
  have a1 : (((q : Nat) : Int) == 0) = false := beq_eq_false_iff_ne.mpr (by omega)
  have a2 : ¬ (60 < (t : Int)) := by omega
  refine (ss_nx (ρ1 := [.d th, .d f, .d (.int d), .d (.int t), .d x, .d (.int q)]) ?_).trans ?_
  · simp [evS, evE, evEs, evOr, evSs, res, ress, fz, cmpD, depLe, D.beq, truth, a1, a2]
  · refine (ss_nx (ρ1 := [.d th, .d f, .d (.int d), .d (.int (t + q : Nat)), .d x, .d (.int q)]) (asg_ev (bin_ev (v := .p (.int t)) (w := .p (.int q)) rfl rfl rfl rfl (r := .p (.int (t + q : Nat))) rfl) rfl)).trans ?_
    rfl
theorem ls1 {C : Nat → List Arg → Rc} {k : List Nat} {f x : D} {d : Int} {q : Nat} (hd : d ≤ 20) (hq : 0 < q) (h1 : evSs mo C b__law_size_1 [.d (.tup [.str k, x]), .d f, .d (.int d), .no, .no, .no] = evSs mo C b__law_size_5 [.d (.tup [.str k, x]), .d f, .d (.int d), .d (.int (1 : Nat)), .no, .no]) (hc : C 32 [.a x, .a f, .a (.int (d + 1))] = .ok (.p (.int q)) []) : runFn mo C F__law_size [.a (.tup [.str k, x]), .a f, .a (.int d)] = .ok (.p (.int (1 + q : Nat))) [] := by
  refine run0 (ρ0 := [.d (.tup [.str k, x]), .d f, .d (.int d), .no, .no, .no]) (ρ := [.d (.tup [.str k, x]), .d f, .d (.int d), .d (.int (1 + q : Nat)), .d x, .d (.int q)]) ((ls_head hd).trans (h1.trans ?_)) rfl rfl (by intro i h; cases h) rfl
  exact (ss_nx ((for_ev (ds := [x]) (ρ1 := [.d (.tup [.str k, x]), .d f, .d (.int d), .d (.int (1 : Nat)), .no, .no]) rfl).trans ((ft_nx (ls_turn rfl rfl hq (by omega) hc)).trans ft_nil))).trans rfl
theorem ls2 {C : Nat → List Arg → Rc} {k : List Nat} {f x y : D} {d : Int} {q p : Nat} (hd : d ≤ 20) (hq : 0 < q) (hp : 0 < p) (h60 : 1 + q ≤ 60) (h1 : evSs mo C b__law_size_1 [.d (.tup [.str k, x, y]), .d f, .d (.int d), .no, .no, .no] = evSs mo C b__law_size_5 [.d (.tup [.str k, x, y]), .d f, .d (.int d), .d (.int (1 : Nat)), .no, .no]) (hc : C 32 [.a x, .a f, .a (.int (d + 1))] = .ok (.p (.int q)) []) (hc2 : C 32 [.a y, .a f, .a (.int (d + 1))] = .ok (.p (.int p)) []) : runFn mo C F__law_size [.a (.tup [.str k, x, y]), .a f, .a (.int d)] = .ok (.p (.int (1 + q + p : Nat))) [] := by
  refine run0 (ρ0 := [.d (.tup [.str k, x, y]), .d f, .d (.int d), .no, .no, .no]) (ρ := [.d (.tup [.str k, x, y]), .d f, .d (.int d), .d (.int (1 + q + p : Nat)), .d y, .d (.int p)]) ((ls_head hd).trans (h1.trans ?_)) rfl rfl (by intro i h; cases h) rfl
  exact (ss_nx ((for_ev (ds := [x, y]) (ρ1 := [.d (.tup [.str k, x, y]), .d f, .d (.int d), .d (.int (1 : Nat)), .no, .no]) rfl).trans ((ft_nx (ls_turn rfl rfl hq (by omega) hc)).trans ((ft_nx (ls_turn rfl rfl hp (by omega) hc2)).trans ft_nil)))).trans rfl
theorem ls_ok {F : List (List Nat)} : ∀ (s : Sy), (∀ x ∈ met s, x ∈ F) → sz s ≤ 60 → ∀ (d : Nat) (N : Nat), d + dp s ≤ 20 → dp s + 1 ≤ N → call mo prog N 32 [.a (enc true s), .a (fD F), .a (.int (d : Int))] = .ok (.p (.int (sz s))) []
  | .yes, hm, hz, d, N, hd, hN => by
    obtain ⟨n, rfl⟩ : ∃ n, N = n + 1 := ⟨N - 1, by omega⟩
    rw [call_s _ _ _ F__law_size rfl]
    refine run0 (ρ0 := [.d (enc true .yes), .d (fD F), .d (.int d), .no, .no, .no]) (ρ := [.d (enc true .yes), .d (fD F), .d (.int d), .no, .no, .no]) ((ls_head (by omega)).trans rfl) rfl rfl (by intro i h; cases h) rfl
  | .no, hm, hz, d, N, hd, hN => by
    obtain ⟨n, rfl⟩ : ∃ n, N = n + 1 := ⟨N - 1, by omega⟩
    rw [call_s _ _ _ F__law_size rfl]
    refine run0 (ρ0 := [.d (enc true .no), .d (fD F), .d (.int d), .no, .no, .no]) (ρ := [.d (enc true .no), .d (fD F), .d (.int d), .no, .no, .no]) ((ls_head (by omega)).trans rfl) rfl rfl (by intro i h; cases h) rfl
  | .fact x, hm, hz, d, N, hd, hN => by
    obtain ⟨n, rfl⟩ : ∃ n, N = n + 1 := ⟨N - 1, by omega⟩
    rw [call_s _ _ _ F__law_size rfl]
    have hx := hm x (by simp [met])
    refine run0 (ρ0 := [.d (enc true (.fact x)), .d (fD F), .d (.int d), .no, .no, .no]) (ρ := [.d (enc true (.fact x)), .d (fD F), .d (.int d), .no, .no, .no]) ((ls_head (by omega)).trans ?_) rfl rfl (by intro i h; cases h) rfl
    have h1 : evSs mo (call mo prog n) b__law_size_1 [.d (enc true (.fact x)), .d (fD F), .d (.int d), .no, .no, .no] = evSs mo (call mo prog n) b__law_size_2 [.d (enc true (.fact x)), .d (fD F), .d (.int d), .no, .no, .no] := rfl
    refine h1.trans (ss_rt (if_t (ρ1 := [.d (enc true (.fact x)), .d (fD F), .d (.int d), .no, .no, .no]) rfl (ss_rt (ret_ev (ifE_t (ρ1 := [.d (enc true (.fact x)), .d (fD F), .d (.int d), .no, .no, .no]) ?_ rfl) (by intro i h; cases h) (by intro i h; cases h)))))
    rw [evE, andc (ρ1 := [.d (enc true (.fact x)), .d (fD F), .d (.int d), .no, .no, .no]) rfl, andc (ρ1 := [.d (enc true (.fact x)), .d (fD F), .d (.int d), .no, .no, .no]) rfl]
    have hin : evE mo (call mo prog n) (.cmp .in_ (.ix (.bor 0) (.c (.int 1))) (.bor 1)) [.d (enc true (.fact x)), .d (fD F), .d (.int d), .no, .no, .no] = .ok (.p (.bl true)) [.d (enc true (.fact x)), .d (fD F), .d (.int d), .no, .no, .no] :=
      cmp_ev (v := .p (.str x)) (w := .p (fD F)) (ix1 rfl) rfl rfl rfl (in_str.trans (by rw [decide_eq_true hx]))
    rw [evAnd, hin]
  | .neg a, hm, hz, d, N, hd, hN => by
    obtain ⟨n, rfl⟩ : ∃ n, N = n + 1 := ⟨N - 1, by omega⟩
    simp only [sz] at hz
    simp only [dp] at hd hN
    have ih := ls_ok a hm (by omega) (d + 1) n (by omega) (by omega)
    rw [call_s _ _ _ F__law_size rfl]
    exact ls1 (by omega) (sz_pos a) rfl ih
  | .and a b, hm, hz, d, N, hd, hN => by
    obtain ⟨n, rfl⟩ : ∃ n, N = n + 1 := ⟨N - 1, by omega⟩
    simp only [sz] at hz
    simp only [dp] at hd hN
    have ih := ls_ok a (fun x h => hm x (by simp [met, h])) (by omega) (d + 1) n (by omega) (by omega)
    have ih2 := ls_ok b (fun x h => hm x (by simp [met, h])) (by omega) (d + 1) n (by omega) (by omega)
    rw [call_s _ _ _ F__law_size rfl]
    exact ls2 (by omega) (sz_pos a) (sz_pos b) (by omega) rfl ih ih2
  | .or a b, hm, hz, d, N, hd, hN => by
    obtain ⟨n, rfl⟩ : ∃ n, N = n + 1 := ⟨N - 1, by omega⟩
    simp only [sz] at hz
    simp only [dp] at hd hN
    have ih := ls_ok a (fun x h => hm x (by simp [met, h])) (by omega) (d + 1) n (by omega) (by omega)
    have ih2 := ls_ok b (fun x h => hm x (by simp [met, h])) (by omega) (d + 1) n (by omega) (by omega)
    rw [call_s _ _ _ F__law_size rfl]
    exact ls2 (by omega) (sz_pos a) (sz_pos b) (by omega) rfl ih ih2
/-! ### saying_of -/
section
variable {F : List (List Nat)}
theorem so_ok (hF : F ∈ Fs) (h4 : F.length ≤ 4) {m : Nat} (hm : m < 2 ^ 2 ^ F.length) {N : Nat} (hN : 12 ≤ N) : call mo prog N 23 [.a (fD F), .a (.tup (nD (vw F m)))] = .ok (.p (enc true (sfr F.reverse m))) [] := by
  obtain ⟨n, rfl⟩ : ∃ n, N = n + 6 := ⟨N - 6, by omega⟩
  have h32 := le32 hF
  have p := Nat.pow_pos (n := F.length) (show 0 < 2 by omega)
  have hlen : (vw F m).length ≤ 32 := Nat.le_trans (vs_len _ _) h32
  have hx : ∀ x ∈ vw F m, x < 2 ^ F.length := fun x h => vs_lt h
  have h1 := asc_ok (n := n + 3) (xs := vw F m) (hi := (2 ^ F.length - 1 : Nat)) (fun x h => by have := hx x h; omega) (vs_asc _ _) (by omega)
  have h2 := mk_ok (n := n + 4) (th := .tup (nD (vw F m))) (xs := vw F m) rfl (fun x h => by have := hx x h; omega)
  rw [show ofL (vw F m) = m from ofL_vs hm] at h2
  have h3 := sf_ok F.reverse m (by rw [List.length_reverse]; omega) (by rw [List.length_reverse]; exact hm) (n + 5) (by rw [List.length_reverse]; omega)
  rw [List.reverse_reverse] at h3
  rw [call_s _ _ _ F_saying_of rfl]
  refine run0 (ρ0 := [.d (fD F), .d (.tup (nD (vw F m))), .no]) (ρ := [.d (fD F), .d (.tup (nD (vw F m))), .d (fD F)]) ?_ rfl rfl (by intro i h; cases h) rfl
  refine (ss_nx (ρ1 := [.d (fD F), .d (.tup (nD (vw F m))), .d (fD F)]) (asg_ev (call_ev (vs := [.p (fD F)]) (as := [.a (fD F)]) rfl rfl rfl (cf_ok n F hF) rfl) rfl)).trans ?_
  refine (ss_nx (if_f (ρ1 := [.d (fD F), .d (.tup (nD (vw F m))), .d (fD F)]) (cmp_ev (v := .p (.int F.length)) (w := .p (.int 4)) (len_g rfl) rfl rfl rfl ?_) rfl)).trans ?_
  · unfold cmpD
    simp only
    congr 1
    exact decide_eq_false (by omega)
  refine (ss_nx (if_f (ρ1 := [.d (fD F), .d (.tup (nD (vw F m))), .d (fD F)]) ?_ rfl)).trans ?_
  · have hc : evE mo (call mo prog (n + 5)) (.call 6 (.cons (.var 1) (.cons (.c (.int 0)) (.cons (.bin .sub (.bin .shl (.c (.int 1)) (.bi .len (.cons (.bor 2) .nil))) (.c (.int 1))) .nil)))) [.d (fD F), .d (.tup (nD (vw F m))), .d (fD F)] = .ok (.p (.bl true)) [.d (fD F), .d (.tup (nD (vw F m))), .d (fD F)] := by
      refine call_ev (vs := [.p (.tup (nD (vw F m))), .p (.int 0), .p (.int (2 ^ F.length - 1 : Nat))]) (as := [.a (.tup (nD (vw F m))), .a (.int 0), .a (.int (2 ^ F.length - 1 : Nat))]) (es_cons (v := .p (.tup (nD (vw F m)))) rfl (es_cons (v := .p (.int 0)) rfl (es_cons (v := .p (.int (2 ^ F.length - 1 : Nat))) (bin_ev (w := .p (.int 1)) (hi_ev hF rfl) rfl rfl rfl (sub1 _ p)) rfl))) rfl rfl h1 rfl
    rw [evE, hc]
    rfl
  refine ss_rt (ret_ev ?_ (by intro i h; cases h) (by intro i h; cases h))
  refine call_ev (vs := [.p (fD F), .p (.int m)]) (as := [.a (fD F), .a (.int m)]) (es_cons (v := .p (fD F)) rfl (es_cons (v := .p (.int m)) ?_ rfl)) rfl rfl h3 rfl
  exact call_ev (vs := [.p (.tup (nD (vw F m)))]) (as := [.a (.tup (nD (vw F m)))]) rfl rfl rfl h2 rfl
theorem so_many (hF : F ∈ Fs) (h5 : F.length = 5) {th : D} {N : Nat} (hN : 12 ≤ N) : call mo prog N 23 [.a (fD F), .a th] = .ex ⟨6, .s "fact"⟩ [] := by
  obtain ⟨n, rfl⟩ : ∃ n, N = n + 6 := ⟨N - 6, by omega⟩
  rw [call_s _ _ _ F_saying_of rfl]
  refine run0x (ρ0 := [.d (fD F), .d th, .no]) (ρ := [.d (fD F), .d th, .d (fD F)]) ?_ rfl rfl rfl
  refine (ss_nx (ρ1 := [.d (fD F), .d th, .d (fD F)]) (asg_ev (call_ev (vs := [.p (fD F)]) (as := [.a (fD F)]) rfl rfl rfl (cf_ok n F hF) rfl) rfl)).trans ?_
  refine ss_ex (if_t (ρ1 := [.d (fD F), .d th, .d (fD F)]) (cmp_ev (v := .p (.int F.length)) (w := .p (.int 4)) (len_g rfl) rfl rfl rfl ?_) rfl)
  rw [h5]
  rfl
/-! ### _law_lots -/
theorem fs_nd : ∀ F ∈ Fs, F.reverse.Nodup := fs_ind (by decide) (by decide) (by decide) (by decide) (by decide) (by decide) (by decide) (by decide) (by decide) (by decide)
theorem fs_nm : (Fs.all fun F => F.all fun x => nms.contains x) = true := by decide
theorem fs_nms {x : List Nat} (hF : F ∈ Fs) (h : x ∈ F) : x ∈ nms := by
  have := List.all_eq_true.mp (List.all_eq_true.mp fs_nm F hF) x h
  exact List.contains_iff_mem.mp this
theorem sf_over (hF : F ∈ Fs) (h4 : F.length ≤ 4) (m : Nat) : Over F (sfr F.reverse m) := by
  have hm : ∀ y ∈ met (sfr F.reverse m), y ∈ F := fun y h => List.mem_reverse.mp (sfr_met _ _ y h)
  have hz := sfr_sz F.reverse m
  rw [List.length_reverse] at hz
  refine ⟨⟨fun x h => fs_nms hF (hm x h), by omega, ?_⟩, hF, hm⟩
  have : szS F.length ≤ 60 := by
    have : F.length = 0 ∨ F.length = 1 ∨ F.length = 2 ∨ F.length = 3 ∨ F.length = 4 := by omega
    rcases this with e | e | e | e | e <;> rw [e] <;> decide
  omega
theorem vw_eq (hF : F ∈ Fs) (h4 : F.length ≤ 4) {m : Nat} (hm : m < 2 ^ 2 ^ F.length) : vw F (msk F (sfr F.reverse m)) = vw F m := by
  unfold vw vs
  apply List.filter_congr
  intro v hv
  have hv := List.mem_range.mp hv
  have h := sf_over hF h4 m
  rw [msk_sem hF hv _ h.on]
  have := sem_sf F.reverse (fs_nd F hF) m (by rw [List.length_reverse]; exact hm) v (by rw [List.length_reverse]; exact hv)
  rw [List.reverse_reverse] at this
  exact this
theorem nD_dep (xs : List Nat) {n : Nat} : depsLe n (nD xs) = true := by
  refine depsLe_of fun x m => ?_
  obtain ⟨k, _, rfl⟩ := List.mem_map.mp m
  unfold depLe
  rfl
theorem nD_self (xs : List Nat) : cmpD .eq (.lst (nD xs)) (.lst (nD xs)) = some true := by
  have h : depLe 100 (.lst (nD xs)) = true := by
    unfold depLe
    exact nD_dep xs
  unfold cmpD
  simp only [h, beq_self h, Bool.and_self, if_true]
theorem lots_ok (hF : F ∈ Fs) (h4 : F.length ≤ 4) {m : Nat} (hm : m < 2 ^ 2 ^ F.length) {N : Nat} (hN : 40 ≤ N) : call mo prog N 37 [.a (fD F), .a (.tup (nD (vw F m)))] = .ok (.p (.bl true)) [] := by
  obtain ⟨n, rfl⟩ : ∃ n, N = n + 1 := ⟨N - 1, by omega⟩
  have ho := sf_over hF h4 m
  have h1 := so_ok hF h4 hm (N := n) (by omega)
  have hdp := ho.dp
  have h2 := ls_ok (F := F) (sfr F.reverse m) ho.on ho.sz 0 n (by omega) (by omega)
  have hz := ho.sz
  have hp := sz_pos (sfr F.reverse m)
  rw [call_s _ _ _ F__law_lots rfl]
  generalize hS : sfr F.reverse m = S at *
  refine run0 (ρ0 := [.d (fD F), .d (.tup (nD (vw F m))), .no, .no, .no]) (ρ := [.d (fD F), .d (.tup (nD (vw F m))), .no, .d (enc true S), .no]) ?_ rfl rfl (by intro i h; cases h) rfl
  refine (ss_nx (ρ1 := [.d (fD F), .d (.tup (nD (vw F m))), .no, .d (enc true S), .no]) (try_nx ((ss_nx (asg_ev (ρ2 := [.d (fD F), .d (.tup (nD (vw F m))), .no, .d (enc true S), .no]) (call_ev (vs := [.p (fD F), .p (.tup (nD (vw F m)))]) (as := [.a (fD F), .a (.tup (nD (vw F m)))]) rfl rfl rfl h1 rfl) rfl)).trans rfl))).trans ?_
  refine (ss_nx (ρ1 := [.d (fD F), .d (.tup (nD (vw F m))), .no, .d (enc true S), .no]) (if_f ?_ rfl)).trans ?_
  · have hc : evE mo (call mo prog n) (.call 32 (.cons (.var 3) (.cons (.var 0) (.cons (.c (.int 0)) .nil)))) [.d (fD F), .d (.tup (nD (vw F m))), .no, .d (enc true S), .no] = .ok (.p (.int (sz S))) [.d (fD F), .d (.tup (nD (vw F m))), .no, .d (enc true S), .no] :=
      call_ev (vs := [.p (enc true S), .p (fD F), .p (.int (0 : Nat))]) (as := [.a (enc true S), .a (fD F), .a (.int (0 : Nat))]) rfl rfl rfl h2 rfl
    have hk : decide ((1 : Int) ≤ sz S ∧ (sz S : Int) < 61) = true := decide_eq_true (by omega)
    rw [evE, hc]
    simp [evE, res, fz]
    omega
  refine ss_rt (ret_ev ?_ (by intro i h; cases h) (by intro i h; cases h))
  have hd := due_ev (n := n) (i := 0) (j := 3) (k := 4) (ρ := [.d (fD F), .d (.tup (nD (vw F m))), .no, .d (enc true S), .no]) ho (by omega) rfl rfl rfl (by decide) (by decide)
  have hv := vw_eq hF h4 hm
  rw [hS] at hv
  rw [hv] at hd
  exact cmp_ev hd (w := .f (nD (vw F m))) rfl rfl rfl (nD_self _)
theorem lots_many (hF : F ∈ Fs) (h5 : F.length = 5) {th : D} {N : Nat} (hN : 40 ≤ N) : call mo prog N 37 [.a (fD F), .a th] = .ok (.p (.tup [.s "many", .s "fact"])) [] := by
  obtain ⟨n, rfl⟩ : ∃ n, N = n + 1 := ⟨N - 1, by omega⟩
  have h1 := so_many hF h5 (th := th) (N := n) (by omega)
  rw [call_s _ _ _ F__law_lots rfl]
  refine run0 (ρ0 := [.d (fD F), .d th, .no, .no, .no]) (ρ := [.d (fD F), .d th, .exn ⟨6, .s "fact"⟩, .no, .no]) ?_ rfl rfl (by intro i h; cases h) rfl
  exact ss_rt (try_ex (ss_ex (asg_ex (ρ1 := [.d (fD F), .d th, .no, .no, .no]) (call_ex (vs := [.p (fD F), .p th]) (as := [.a (fD F), .a th]) rfl rfl rfl h1 rfl))) rfl)
theorem lots_bad1 (n : Nat) : ∀ F ∈ Fs, F.length < 5 → call mo prog (n + 8) 37 [.a (fD F), .a (.lst [.int (2 ^ F.length : Nat)])] = .ok (.p (.tup [.s "view", .lst [.int (2 ^ F.length : Nat)]])) [] :=
  fs_ind (fun _ => by kernel_rfl) (fun _ => by kernel_rfl) (fun _ => by kernel_rfl) (fun _ => by kernel_rfl) (fun _ => by kernel_rfl) (fun h => absurd h (by decide)) (fun _ => by kernel_rfl) (fun _ => by kernel_rfl) (fun _ => by kernel_rfl) (fun h => absurd h (by decide))
theorem lots_bad2 (n : Nat) : ∀ F ∈ Fs, 1 ≤ F.length → F.length < 5 → call mo prog (n + 8) 37 [.a (fD F), .a (.tup [.int 1, .int 0])] = .ok (.p (.tup [.s "view", .tup [.int 1, .int 0]])) [] :=
  fs_ind (fun h => absurd h (by decide)) (fun _ _ => by kernel_rfl) (fun _ _ => by kernel_rfl) (fun _ _ => by kernel_rfl) (fun _ _ => by kernel_rfl) (fun _ h => absurd h (by decide)) (fun _ _ => by kernel_rfl) (fun _ _ => by kernel_rfl) (fun _ _ => by kernel_rfl) (fun _ h => absurd h (by decide))
end
end K01
end
section
set_option linter.all false
set_option maxRecDepth 100000
set_option maxHeartbeats 4000000
namespace K01
open Cz
/-! ### _law_say -/
theorem say_ok {F : List (List Nat)} (hF : F ∈ Fs) : ∀ (d : Nat) (s : Sr) (N : Nat), d ≤ 4 → d + 3 ≤ N → ∃ (t : Sy) (s' : Sr), call mo prog N 26 [.o s.l, .a (fD F), .a (.int (d : Int))] = .ok (.p (enc true t)) [s'.l] ∧ (∀ x ∈ met t, x ∈ F) ∧ dp t ≤ d ∧ sz t + 1 ≤ 2 ^ (d + 1) := by
  intro d
  induction d with
  | zero =>
    intro s N hd hN
    obtain ⟨n, rfl⟩ : ∃ n, N = n + 2 := ⟨N - 2, by omega⟩
    rw [call_s _ _ _ F__law_say rfl]
    have h1 : evS mo (call mo prog (n + 1)) (.asg 3 (.call 25 (.cons (.bor 0) (.cons (.ife (.cmp .gt (.bor 2) (.c (.int 0))) (.c (.int 7)) (.c (.int 4))) .nil)))) [.own true s.l, .d (fD F), .d (.int (0 : Nat)), .no, .no] = .nx [.own true (nx s 4).l, .d (fD F), .d (.int (0 : Nat)), .d (.int (pk s 4)), .no] :=
      asg_ev (pick_ev (n := n) (i := 0) (l := true) (s := s) (m := 4) rfl rfl (by decide) (by decide)) rfl
    obtain ⟨k0, k1⟩ := pk_lt s 4 (by decide)
    generalize pk s 4 = k at *
    generalize nx s 4 = s1 at *
    have s0 : evSs mo (call mo prog (n + 1)) b__law_say [.own true s.l, .d (fD F), .d (.int (0 : Nat)), .no, .no] = evSs mo (call mo prog (n + 1)) b__law_say_1 [.own true s1.l, .d (fD F), .d (.int (0 : Nat)), .d (.int k), .no] := ss_nx h1
    -- is it yes or no
    have hc : ∃ b s2, evE mo (call mo prog (n + 1)) (.or (.cons (.cmp .eq (.bi .len (.cons (.bor 1) .nil)) (.c (.int 0))) (.cons (.and (.cons (.cmp .eq (.bor 3) (.c (.int 3))) (.cons (.cmp .eq (.call 25 (.cons (.bor 0) (.cons (.c (.int 4)) .nil))) (.c (.int 2))) .nil))) .nil))) [.own true s1.l, .d (fD F), .d (.int (0 : Nat)), .d (.int k), .no] = .ok (.p (.bl b)) [.own true (Sr.l s2), .d (fD F), .d (.int (0 : Nat)), .d (.int k), .no] ∧ (F = [] → b = true) := by
      have hlen := eq_nat (C := call mo prog (n + 1)) (ρ := [.own true s1.l, .d (fD F), .d (.int (0 : Nat)), .d (.int k), .no]) (a := .bi .len (.cons (.bor 1) .nil)) (b := .c (.int 0)) (x := F.length) (y := 0) (len_g rfl) rfl rfl
      by_cases h0 : F.length = 0
      · rw [decide_eq_true h0] at hlen
        exact ⟨true, s1, or_t hlen, fun _ => rfl⟩
      · rw [decide_eq_false h0] at hlen
        have hne : F = [] → False := fun e => h0 (by rw [e]; rfl)
        have hk := bor_eq (M := mo) (C := call mo prog (n + 1)) (i := 3) (k := k) (q := 3) (ρ := [.own true s1.l, .d (fD F), .d (.int (0 : Nat)), .d (.int k), .no]) rfl rfl
        cases hb : D.beq (.int k) (.int 3) with
        | false =>
          rw [hb] at hk
          exact ⟨false, s1, or_f hlen (and_f hk), fun e => absurd e hne⟩
        | true =>
          rw [hb] at hk
          exact ⟨_, nx s1 4, or_f hlen (and_t hk (pick_is (n := n) (i := 0) (l := true) (s := s1) (m := 4) (q := 2) rfl (by decide) (by decide)) fun _ _ _ => trivial), fun e => absurd e hne⟩
    obtain ⟨b, s2, hc, hb⟩ := hc
    cases b with
    | true =>
      obtain ⟨z, hz, hzz⟩ := pick_if (n := n) (i := 0) (ρ := [.own true s2.l, .d (fD F), .d (.int (0 : Nat)), .d (.int k), .no]) (l := true) (s := s2) (m := 2) (a := .tup (.cons (.c (.str [121, 101, 115])) .nil)) (b := .tup (.cons (.c (.str [110, 111])) .nil)) (x := enc true .yes) (y := enc true .no) rfl (by decide) (by decide) (fun _ => rfl) (fun _ => rfl)
      have : ∃ t : Sy, z = enc true t ∧ (t = .yes ∨ t = .no) := by
        rcases hzz with e | e
        · exact ⟨_, e, .inl rfl⟩
        · exact ⟨_, e, .inr rfl⟩
      obtain ⟨t, rfl, ht⟩ := this
      refine ⟨t, nx s2 2, ?_, ?_, ?_, ?_⟩
      · exact run0 (ρ0 := [.own true s.l, .d (fD F), .d (.int (0 : Nat)), .no, .no]) (s0.trans (ss_rt (if_t hc (ss_rt (ret_ev hz (by intro i h; cases h) (by intro i h; cases h)))))) rfl rfl (by intro i h; cases h) rfl
      · rcases ht with rfl | rfl <;> simp [met]
      · rcases ht with rfl | rfl <;> simp [dp]
      · rcases ht with rfl | rfl <;> simp [sz]
    | false =>
      have hne : F ≠ [] := fun e => by have := hb e; cases this
      obtain ⟨x, mx, s3, hx⟩ := pick_item (n := n) (i := 0) (j := 1) (l := true) (s := s2) (F := F.map .str) (ρ := [.own true s2.l, .d (fD F), .d (.int (0 : Nat)), .d (.int k), .no]) (by decide) (by simp [hne]) (by have := len5 F hF; simp; omega) rfl rfl
      obtain ⟨y, my, rfl⟩ := List.mem_map.mp mx
      refine ⟨.fact y, s3, ?_, ?_, by simp [dp], by simp [sz]⟩
      · refine run0 (ρ0 := [.own true s.l, .d (fD F), .d (.int (0 : Nat)), .no, .no]) (ρ := [.own true s3.l, .d (fD F), .d (.int (0 : Nat)), .d (.int k), .no]) (s0.trans ((ss_nx (if_f hc rfl)).trans (ss_rt (if_t (bor_lt (k := k) (q := 4) rfl (decide_eq_true k1)) (ss_rt (ret_ev ?_ (by intro i h; cases h) (by intro i h; cases h))))))) rfl rfl (by intro i h; cases h) rfl
        exact tup_ev (es_cons (v := .p (.s "fact")) rfl (es_cons hx rfl)) rfl rfl
      · intro z hz
        simp only [met, List.mem_singleton] at hz
        rw [hz]
        exact my
  | succ d ih =>
    intro s N hd hN
    obtain ⟨n, rfl⟩ : ∃ n, N = n + 2 := ⟨N - 2, by omega⟩
    rw [call_s _ _ _ F__law_say rfl]
    have hgt : evE mo (call mo prog (n + 1)) (.ife (.cmp .gt (.bor 2) (.c (.int 0))) (.c (.int 7)) (.c (.int 4))) [.own true s.l, .d (fD F), .d (.int (d + 1 : Nat)), .no, .no] = .ok (.p (.int 7)) [.own true s.l, .d (fD F), .d (.int (d + 1 : Nat)), .no, .no] := by
      refine ifE_t (ρ1 := [.own true s.l, .d (fD F), .d (.int (d + 1 : Nat)), .no, .no]) (cmp_ev (v := .p (.int (d + 1 : Nat))) (w := .p (.int 0)) rfl rfl rfl rfl ?_) rfl
      unfold cmpD
      simp only
      congr 1
      exact decide_eq_true (by omega)
    have h1 : evS mo (call mo prog (n + 1)) (.asg 3 (.call 25 (.cons (.bor 0) (.cons (.ife (.cmp .gt (.bor 2) (.c (.int 0))) (.c (.int 7)) (.c (.int 4))) .nil)))) [.own true s.l, .d (fD F), .d (.int (d + 1 : Nat)), .no, .no] = .nx [.own true (nx s 7).l, .d (fD F), .d (.int (d + 1 : Nat)), .d (.int (pk s 7)), .no] :=
      asg_ev (pick_ev (n := n) (i := 0) (l := true) (s := s) (m := 7) rfl hgt (by decide) (by decide)) rfl
    obtain ⟨k0, k1⟩ := pk_lt s 7 (by decide)
    generalize pk s 7 = k at *
    generalize nx s 7 = s1 at *
    have s0 : evSs mo (call mo prog (n + 1)) b__law_say [.own true s.l, .d (fD F), .d (.int (d + 1 : Nat)), .no, .no] = evSs mo (call mo prog (n + 1)) b__law_say_1 [.own true s1.l, .d (fD F), .d (.int (d + 1 : Nat)), .d (.int k), .no] := ss_nx h1
    have p2 : 2 ≤ 2 ^ (d + 1) := by rw [Nat.pow_succ]; have := Nat.pow_pos (n := d) (show 0 < 2 by omega); omega
    have p3 : 2 ^ (d + 1 + 1) = 2 ^ (d + 1) * 2 := Nat.pow_succ ..
    have hc : ∃ b s2, evE mo (call mo prog (n + 1)) (.or (.cons (.cmp .eq (.bi .len (.cons (.bor 1) .nil)) (.c (.int 0))) (.cons (.and (.cons (.cmp .eq (.bor 3) (.c (.int 3))) (.cons (.cmp .eq (.call 25 (.cons (.bor 0) (.cons (.c (.int 4)) .nil))) (.c (.int 2))) .nil))) .nil))) [.own true s1.l, .d (fD F), .d (.int (d + 1 : Nat)), .d (.int k), .no] = .ok (.p (.bl b)) [.own true (Sr.l s2), .d (fD F), .d (.int (d + 1 : Nat)), .d (.int k), .no] ∧ (F = [] → b = true) := by
      have hlen := eq_nat (C := call mo prog (n + 1)) (ρ := [.own true s1.l, .d (fD F), .d (.int (d + 1 : Nat)), .d (.int k), .no]) (a := .bi .len (.cons (.bor 1) .nil)) (b := .c (.int 0)) (x := F.length) (y := 0) (len_g rfl) rfl rfl
      by_cases h0 : F.length = 0
      · rw [decide_eq_true h0] at hlen
        exact ⟨true, s1, or_t hlen, fun _ => rfl⟩
      · rw [decide_eq_false h0] at hlen
        have hne : F = [] → False := fun e => h0 (by rw [e]; rfl)
        have hk := bor_eq (M := mo) (C := call mo prog (n + 1)) (i := 3) (k := k) (q := 3) (ρ := [.own true s1.l, .d (fD F), .d (.int (d + 1 : Nat)), .d (.int k), .no]) rfl rfl
        cases hb : D.beq (.int k) (.int 3) with
        | false =>
          rw [hb] at hk
          exact ⟨false, s1, or_f hlen (and_f hk), fun e => absurd e hne⟩
        | true =>
          rw [hb] at hk
          exact ⟨_, nx s1 4, or_f hlen (and_t hk (pick_is (n := n) (i := 0) (l := true) (s := s1) (m := 4) (q := 2) rfl (by decide) (by decide)) fun _ _ _ => trivial), fun e => absurd e hne⟩
    obtain ⟨b, s2, hc, hb⟩ := hc
    cases b with
    | true =>
      obtain ⟨z, hz, hzz⟩ := pick_if (n := n) (i := 0) (ρ := [.own true s2.l, .d (fD F), .d (.int (d + 1 : Nat)), .d (.int k), .no]) (l := true) (s := s2) (m := 2) (a := .tup (.cons (.c (.str [121, 101, 115])) .nil)) (b := .tup (.cons (.c (.str [110, 111])) .nil)) (x := enc true .yes) (y := enc true .no) rfl (by decide) (by decide) (fun _ => rfl) (fun _ => rfl)
      have : ∃ t : Sy, z = enc true t ∧ (t = .yes ∨ t = .no) := by
        rcases hzz with e | e
        · exact ⟨_, e, .inl rfl⟩
        · exact ⟨_, e, .inr rfl⟩
      obtain ⟨t, rfl, ht⟩ := this
      refine ⟨t, nx s2 2, ?_, ?_, ?_, ?_⟩
      · exact run0 (ρ0 := [.own true s.l, .d (fD F), .d (.int (d + 1 : Nat)), .no, .no]) (s0.trans (ss_rt (if_t hc (ss_rt (ret_ev hz (by intro i h; cases h) (by intro i h; cases h)))))) rfl rfl (by intro i h; cases h) rfl
      · rcases ht with rfl | rfl <;> simp [met]
      · rcases ht with rfl | rfl <;> simp [dp]
      · rcases ht with rfl | rfl <;> simp only [sz] <;> omega
    | false =>
      have hne : F ≠ [] := fun e => by have := hb e; cases this
      by_cases k4 : k < 4
      · obtain ⟨x, mx, s3, hx⟩ := pick_item (n := n) (i := 0) (j := 1) (l := true) (s := s2) (F := F.map .str) (ρ := [.own true s2.l, .d (fD F), .d (.int (d + 1 : Nat)), .d (.int k), .no]) (by decide) (by simp [hne]) (by have := len5 F hF; simp; omega) rfl rfl
        obtain ⟨y, my, rfl⟩ := List.mem_map.mp mx
        refine ⟨.fact y, s3, ?_, ?_, by simp [dp], by simp only [sz]; omega⟩
        · refine run0 (ρ0 := [.own true s.l, .d (fD F), .d (.int (d + 1 : Nat)), .no, .no]) (ρ := [.own true s3.l, .d (fD F), .d (.int (d + 1 : Nat)), .d (.int k), .no]) (s0.trans ((ss_nx (if_f hc rfl)).trans (ss_rt (if_t (bor_lt (k := k) (q := 4) rfl (decide_eq_true k4)) (ss_rt (ret_ev ?_ (by intro i h; cases h) (by intro i h; cases h))))))) rfl rfl (by intro i h; cases h) rfl
          exact tup_ev (es_cons (v := .p (.s "fact")) rfl (es_cons hx rfl)) rfl rfl
        · intro z hz
          simp only [met, List.mem_singleton] at hz
          rw [hz]
          exact my
      · -- an inner saying
        have hsub : binD .sub (.int (d + 1 : Nat)) (.int 1) = some (.p (.int (d : Int))) := sub1 (d + 1) (by omega)
        obtain ⟨a, s3, ha, ma, da, za⟩ := ih s2 (n + 1) (by omega) (by omega)
        have c1 : ∀ (s2 s3 : Sr) (s4 : Sl) (a : Sy), call mo prog (n + 1) 26 [.o s2.l, .a (fD F), .a (.int (d : Int))] = .ok (.p (enc true a)) [s3.l] → evE mo (call mo prog (n + 1)) (.call 26 (.cons (.bor 0) (.cons (.var 1) (.cons (.bin .sub (.bor 2) (.c (.int 1))) .nil)))) [.own true s2.l, .d (fD F), .d (.int (d + 1 : Nat)), .d (.int k), s4] = .ok (.p (enc true a)) [.own true s3.l, .d (fD F), .d (.int (d + 1 : Nat)), .d (.int k), s4] := by
          intro s2 s3 s4 a ha
          exact call_ev (vs := [.b 0, .p (fD F), .p (.int (d : Int))]) (as := [.o s2.l, .a (fD F), .a (.int (d : Int))]) (es_cons (v := .b 0) rfl (es_cons (v := .p (fD F)) rfl (es_cons (v := .p (.int (d : Int))) (bin_ev (v := .p (.int (d + 1 : Nat))) (w := .p (.int 1)) rfl rfl rfl rfl hsub) rfl))) rfl rfl ha rfl
        have t0 : evSs mo (call mo prog (n + 1)) b__law_say [.own true s.l, .d (fD F), .d (.int (d + 1 : Nat)), .no, .no] = evSs mo (call mo prog (n + 1)) b__law_say_4 [.own true s3.l, .d (fD F), .d (.int (d + 1 : Nat)), .d (.int k), .d (enc true a)] :=
          s0.trans ((ss_nx (if_f hc rfl)).trans ((ss_nx (if_f (bor_lt (k := k) (q := 4) rfl (decide_eq_false k4)) rfl)).trans (ss_nx (asg_ev (c1 s2 s3 .no a ha) rfl))))
        by_cases e4 : k = 4
        · subst e4
          refine ⟨.neg a, s3, ?_, ma, by simp only [dp]; omega, by simp only [sz]; omega⟩
          refine run0 (ρ0 := [.own true s.l, .d (fD F), .d (.int (d + 1 : Nat)), .no, .no]) (ρ := [.own true s3.l, .d (fD F), .d (.int (d + 1 : Nat)), .d (.int 4), .d (enc true a)]) (t0.trans (ss_rt (ret_ev (ifE_t (bor_eq (k := 4) (q := 4) rfl rfl) ?_) (by intro i h; cases h) (by intro i h; cases h)))) rfl rfl (by intro i h; cases h) rfl
          rfl
        · obtain ⟨c, s5, hc5, mc, dc, zc⟩ := ih s3 (n + 1) (by omega) (by omega)
          have c2 := c1 s3 s5 (.d (enc true a)) c hc5
          by_cases e5 : k = 5
          · subst e5
            refine ⟨.and a c, s5, ?_, ?_, by simp only [dp]; omega, by simp only [sz]; omega⟩
            · refine run0 (ρ0 := [.own true s.l, .d (fD F), .d (.int (d + 1 : Nat)), .no, .no]) (ρ := [.own true s5.l, .d (fD F), .d (.int (d + 1 : Nat)), .d (.int 5), .d (enc true a)]) (t0.trans (ss_rt (ret_ev (ifE_f (bor_eq (k := 5) (q := 4) rfl rfl) ?_) (by intro i h; cases h) (by intro i h; cases h)))) rfl rfl (by intro i h; cases h) rfl
              exact tup_ev (es_cons (v := .p (.s "and")) (ifE_t (bor_eq (k := 5) (q := 5) rfl rfl) rfl) (es_cons (v := .p (enc true a)) rfl (es_cons c2 rfl))) rfl rfl
            · intro x hx
              simp only [met, List.mem_append] at hx
              rcases hx with h | h
              · exact ma x h
              · exact mc x h
          · refine ⟨.or a c, s5, ?_, ?_, by simp only [dp]; omega, by simp only [sz]; omega⟩
            · refine run0 (ρ0 := [.own true s.l, .d (fD F), .d (.int (d + 1 : Nat)), .no, .no]) (ρ := [.own true s5.l, .d (fD F), .d (.int (d + 1 : Nat)), .d (.int k), .d (enc true a)]) (t0.trans (ss_rt (ret_ev (ifE_f (bor_eq (k := k) (q := 4) rfl (beq_f e4)) ?_) (by intro i h; cases h) (by intro i h; cases h)))) rfl rfl (by intro i h; cases h) rfl
              exact tup_ev (es_cons (v := .p (.s "or")) (ifE_f (bor_eq (k := k) (q := 5) rfl (beq_f e5)) rfl) (es_cons (v := .p (enc true a)) rfl (es_cons c2 rfl))) rfl rfl
            · intro x hx
              simp only [met, List.mem_append] at hx
              rcases hx with h | h
              · exact ma x h
              · exact mc x h
end K01
end
section
set_option linter.all false
set_option maxRecDepth 100000
set_option maxHeartbeats 4000000
namespace K01
open Cz
/-! ### sayings at the bounds -/
def wideS : Nat → Nat → Sy
  | 0, _ => .fact (tx "p")
  | f + 1, m => if m < 3 then .fact (tx "p") else .and (wideS f ((m - 1) / 4 * 2 + 1)) (wideS f (m - 1 - ((m - 1) / 4 * 2 + 1)))
def highS : Nat → Sy
  | 0 => .yes
  | n + 1 => .neg (highS n)
theorem wide59 (n : Nat) : call mo prog (n + 10) 33 [.a (.int 59)] = .ok (.p (enc true (wideS 10 59))) [] := by kernel_rfl
theorem wide61 (n : Nat) : call mo prog (n + 10) 33 [.a (.int 61)] = .ok (.p (enc true (wideS 10 61))) [] := by kernel_rfl
theorem high20 (n : Nat) : call mo prog (n + 1) 34 [.a (.int 20)] = .ok (.p (enc true (highS 20))) [] := by kernel_rfl
theorem high21 (n : Nat) : call mo prog (n + 1) 34 [.a (.int 21)] = .ok (.p (enc true (highS 21))) [] := by kernel_rfl
theorem wide_met : ∀ (f m : Nat), ∀ x ∈ met (wideS f m), x = tx "p"
  | 0, m => by intro x h; simpa [wideS, met] using h
  | f + 1, m => by
    intro x h
    unfold wideS at h
    split at h
    · simpa [met] using h
    · simp only [met, List.mem_append] at h
      rcases h with h | h
      · exact wide_met f _ x h
      · exact wide_met f _ x h
theorem high_met : ∀ n, met (highS n) = []
  | 0 => rfl
  | n + 1 => high_met n
theorem p_nms : tx "p" ∈ nms := by decide
theorem wide_nm (f m : Nat) : Nm (wideS f m) := fun x h => by rw [wide_met f m x h]; exact p_nms
theorem high_nm (n : Nat) : Nm (highS n) := fun x h => by rw [high_met n] at h; cases h
theorem w59 : sz (wideS 10 59) = 59 ∧ dp (wideS 10 59) ≤ 8 := by decide +kernel
theorem w61 : sz (wideS 10 61) = 61 ∧ dp (wideS 10 61) ≤ 8 := by decide +kernel
theorem h20 : sz (highS 20) = 21 ∧ dp (highS 20) = 20 := by decide +kernel
theorem h21 : sz (highS 21) = 22 ∧ dp (highS 21) = 21 := by decide +kernel
/-! ### things that are no sayings -/
def bads (t : Sy) : List D := [.tup [.s "fact", .s "Wet"], .tup [.s "not"], .tup [.s "and", enc true t], .tup [.s "fact", .s "pass"], .s "yes", .tup [enc true t], .tup [.s "or", enc true t, .non], .tup [],
  .tup [.s "yes", enc true t], .tup [.s "not", enc true t, enc true t], enc true (highS 21), enc true (wideS 10 61), .tup [.s "fact", .s "ninenames"]]
theorem told_nonC {C : Nat → List Arg → Rc} {q : Int} (hc : C 1 [.a .non] = .ok (.p (.bl false)) []) : runFn mo C F_told_saying [.a .non, .a (.int 1), .a (.int q)] = .ok (.p .non) [] := by
  by_cases h : q = 0
  · exact run0 (ρ0 := [.d .non, .d (.int 1), .d (.int q), .no, .no, .no, .no, .no]) (ts_none (.inr h)) rfl rfl (by intro i h; cases h) rfl
  · refine run0 (ρ0 := [.d .non, .d (.int 1), .d (.int q), .no, .no, .no, .no, .no]) (ρ := [.d .non, .d (.int 1), .d (.int q), .no, .no, .no, .no, .no]) ?_ rfl rfl (by intro i h; cases h) rfl
    have a2 : (q == 0) = false := beq_eq_false_iff_ne.mpr h
    refine ss_rt ?_
    simp [evS, evE, evEs, evOr, evSs, res, ress, fz, cmpD, depLe, D.beq, truth, mo, glob, args, lentOnce, back, hc, a2, b_told_saying_0a]
theorem told_non {n : Nat} {q : Int} : call mo prog (n + 2) 9 [.a .non, .a (.int 1), .a (.int q)] = .ok (.p .non) [] := by
  rw [call_s _ _ _ F_told_saying rfl]
  exact told_nonC rfl
theorem told_or {n : Nat} {t : Sy} (ht : Nm t) (hn : dp t + 8 ≤ n) : call mo prog (n + 1) 9 [.a (.tup [.s "or", enc true t, .non]), .a (.int 0), .a (.int 60)] = .ok (.p .non) [] := by
  obtain ⟨k, rfl⟩ : ∃ k, n = k + 2 := ⟨n - 2, by omega⟩
  have h1 := told_ok t ht true 1 59 (k + 2) (by omega) (by omega)
  unfold toldD at h1
  rw [call_s _ _ _ F_told_saying rfl]
  have hs : evSs mo (call mo prog (k + 2)) b_told_saying [.d (.tup [.s "or", enc true t, .non]), .d (.int 0), .d (.int 60), .no, .no, .no, .no, .no] = evSs mo (call mo prog (k + 2)) b_told_saying_6 [.d (.tup [.s "or", enc true t, .non]), .d (.int 0), .d (.int 60), .d (.s "or"), .own false [.s "or"], .d (.int 59), .no, .no] := rfl
  have hit : evIt mo (call mo prog (k + 2)) (.val (.slF (.bor 0) (.c (.int 1)))) [.d (.tup [.s "or", enc true t, .non]), .d (.int 0), .d (.int 60), .d (.s "or"), .own false [.s "or"], .d (.int 59), .no, .no] = some ([enc true t, .non], [.d (.tup [.s "or", enc true t, .non]), .d (.int 0), .d (.int 60), .d (.s "or"), .own false [.s "or"], .d (.int 59), .no, .no]) := rfl
  by_cases hf : Fits t 1 59
  · rw [if_pos hf] at h1
    refine run0 (ρ0 := [.d (.tup [.s "or", enc true t, .non]), .d (.int 0), .d (.int 60), .no, .no, .no, .no, .no]) (ρ := [.d (.tup [.s "or", enc true t, .non]), .d (.int 0), .d (.int 60), .d (.s "or"), .own false ([.s "or"] ++ [enc true t]), .d (.int (59 - sz t)), .d .non, .d .non]) ?_ rfl rfl (by intro i h; cases h) rfl
    exact hs.trans (ss_rt ((for_ev hit).trans ((ft_nx (ts_turn rfl rfl (by simp) h1)).trans (ft_rt (ts_turn_none rfl rfl told_non)))))
  · rw [if_neg hf] at h1
    refine run0 (ρ0 := [.d (.tup [.s "or", enc true t, .non]), .d (.int 0), .d (.int 60), .no, .no, .no, .no, .no]) (ρ := [.d (.tup [.s "or", enc true t, .non]), .d (.int 0), .d (.int 60), .d (.s "or"), .own false [.s "or"], .d (.int 59), .d (enc true t), .d .non]) ?_ rfl rfl (by intro i h; cases h) rfl
    exact hs.trans (ss_rt ((for_ev hit).trans (ft_rt (ts_turn_none rfl rfl h1))))
theorem bad_chk {t : Sy} (ht : Nm t) (hd : dp t ≤ 20) : ∀ b ∈ bads t, ∀ N, 40 ≤ N → call mo prog N 11 [.a b] = .ex ⟨3, b⟩ [] := by
  intro b hb N hN
  obtain ⟨n, rfl⟩ : ∃ n, N = n + 10 := ⟨N - 10, by omega⟩
  obtain ⟨xs, he⟩ := enc_tup t
  simp only [bads, List.mem_cons, List.not_mem_nil, or_false] at hb
  rcases hb with rfl | rfl | rfl | rfl | rfl | rfl | rfl | rfl | rfl | rfl | rfl | rfl | rfl
  · exact chk_no (son_no2 (x := .tup [.s "fact", .s "Wet"]) (by kernel_rfl))
  · exact chk_no (son_no1 (by kernel_rfl))
  · rw [he]
    exact chk_no (son_no1 rfl)
  · exact chk_no (son_no2 (x := .tup [.s "fact", .s "pass"]) (by kernel_rfl))
  · exact chk_no (son_no1 (by kernel_rfl))
  · rw [he]
    exact chk_no (son_no1 rfl)
  · exact chk_no (son_no1 (told_or ht (by omega)))
  · exact chk_no (son_no1 (by kernel_rfl))
  · rw [he]
    exact chk_no (son_no1 rfl)
  · rw [he]
    exact chk_no (son_no1 rfl)
  · exact checked_no (high_nm 21) (by unfold Fits; have := h21; omega) true (n + 10) (by have := h21; omega)
  · exact checked_no (wide_nm 10 61) (by unfold Fits; have := w61; omega) true (n + 10) (by have := w61; omega)
  · exact chk_no (son_no2 (x := .tup [.s "fact", .s "ninenames"]) (by kernel_rfl))
theorem bad_dep {t : Sy} (hd : dp t ≤ 20) : ∀ b ∈ bads t, depLe 97 b = true := by
  intro b hb
  have h95 := enc_dep95 (s := t) (by omega)
  have g : ∀ xs : List D, (∀ x ∈ xs, depLe 95 x = true) → depLe 97 (.tup xs) = true := by
    intro xs h
    unfold depLe
    exact depsLe_of fun x m => depLe_mono (by decide) (h x m)
  simp only [bads, List.mem_cons, List.not_mem_nil, or_false] at hb
  rcases hb with rfl | rfl | rfl | rfl | rfl | rfl | rfl | rfl | rfl | rfl | rfl | rfl | rfl
  · rfl
  · rfl
  · refine g _ fun x m => ?_
    simp only [List.mem_cons, List.not_mem_nil, or_false] at m
    rcases m with rfl | rfl
    all_goals first | exact h95 | rfl
  · rfl
  · rfl
  · refine g _ fun x m => ?_
    simp only [List.mem_cons, List.not_mem_nil, or_false] at m
    rcases m with rfl
    all_goals first | exact h95 | rfl
  · refine g _ fun x m => ?_
    simp only [List.mem_cons, List.not_mem_nil, or_false] at m
    rcases m with rfl | rfl | rfl
    all_goals first | exact h95 | rfl
  · rfl
  · refine g _ fun x m => ?_
    simp only [List.mem_cons, List.not_mem_nil, or_false] at m
    rcases m with rfl | rfl
    all_goals first | exact h95 | rfl
  · refine g _ fun x m => ?_
    simp only [List.mem_cons, List.not_mem_nil, or_false] at m
    rcases m with rfl | rfl | rfl
    all_goals first | exact h95 | rfl
  · exact depLe_mono (by have := h21; omega) (enc_dep _)
  · exact depLe_mono (by have := w61; omega) (enc_dep _)
  · rfl
end K01
end
section
set_option linter.all false
set_option maxRecDepth 100000
set_option maxHeartbeats 4000000
namespace Cz
variable {M : Mo} {C : Nat → List Arg → Rc}
theorem lst_ev {es : Es} {ρ ρ1 : Env} {vs : List Val} {ds : List D} (h : evEs M C es ρ = .ok vs ρ1) (hd : ress ρ1 vs = some ds) (hb : noB vs = true) : evE M C (.lst es) ρ = .ok (.f ds) ρ1 := by
  rw [evE, h]
  simp only [hd, hb, if_true]
theorem es_ex1 {e : E} {es : Es} {ρ ρ1 : Env} {x : Exn} (h : evE M C e ρ = .ex x ρ1) : evEs M C (.cons e es) ρ = .ex x ρ1 := by
  rw [evEs, h]
theorem es_ex2 {e : E} {es : Es} {ρ ρ1 ρ2 : Env} {v : Val} {x : Exn} (h : evE M C e ρ = .ok v ρ1) (h2 : evEs M C es ρ1 = .ex x ρ2) : evEs M C (.cons e es) ρ = .ex x ρ2 := by
  rw [evEs, h]
  simp only [h2]
theorem call_arg {f : Nat} {es : Es} {ρ ρ1 : Env} {x : Exn} (h : evEs M C es ρ = .ex x ρ1) : evE M C (.call f es) ρ = .ex x ρ1 := by
  rw [evE, h]
end Cz
namespace K01
open Cz
/-! ### _law_bad_say -/
/-- an item drawn of a list of the def's own -/
theorem pick_own {n i j : Nat} {ρ : Env} {l l2 : Bool} {s : Sr} {F : List D} (hij : j ≠ i) (hF : F ≠ []) (hl : F.length ≤ 1000) (hi : ρ[i]? = some (.own l s.l)) (hj : ρ[j]? = some (.own l2 F)) : ∃ x ∈ F, ∃ s' : Sr, evE mo (call mo prog (n + 1)) (.ix (.bor j) (.call n__law_pick (.cons (.bor i) (.cons (.bi .len (.cons (.bor j) .nil)) .nil)))) ρ = .ok (.p x) (ρ.set i (.own l s'.l)) := by
  have hp : 0 < (F.length : Int) := by
    cases F with
    | nil => exact absurd rfl hF
    | cons a r => rw [List.length_cons]; omega
  obtain ⟨p0, p1⟩ := pk_lt s F.length hp
  obtain ⟨x, hx, _, mx⟩ := item_in p0 p1
  refine ⟨x, mx, nx s F.length, ?_⟩
  have hb : evE mo (call mo prog (n + 1)) (.bor j) ρ = .ok (.b j) ρ := by
    rw [evE, hj]
  have hr : ∀ ρ : Env, ρ[j]? = some (.own l2 F) → res ρ (fz (.b j)) = some (.lst F) := by
    intro ρ h
    unfold fz res
    simp only [h]
  have hj2 : (ρ.set i (.own l (nx s F.length).l))[j]? = some (.own l2 F) := by
    rw [List.getElem?_set_ne (Ne.symm hij)]
    exact hj
  exact ix_ev (v := .b j) (w := .p (.int (pk s F.length))) hb (pick_ev (m := F.length) hi (len_ev hb (hr ρ hj) rfl) hp (by omega)) (hr _ hj2) rfl hx
theorem bs_ok {t : Sy} {s : Sr} {N : Nat} (hN : 40 ≤ N) : ∃ b ∈ bads t, ∃ s' : Sr, call mo prog N 35 [.o s.l, .a (enc true t)] = .ok (.p b) [s'.l] := by
  obtain ⟨n, rfl⟩ : ∃ n, N = n + 11 := ⟨N - 11, by omega⟩
  obtain ⟨b, mb, s', h⟩ := pick_own (n := n + 9) (i := 0) (j := 2) (l := true) (l2 := false) (s := s) (F := bads t) (ρ := [.own true s.l, .d (enc true t), .own false (bads t)]) (by decide) (by simp [bads]) (by simp [bads]) rfl rfl
  refine ⟨b, mb, s', ?_⟩
  rw [call_s _ _ _ F__law_bad_say rfl]
  refine run0 (ρ0 := [.own true s.l, .d (enc true t), .no]) (ρ := [.own true s'.l, .d (enc true t), .own false (bads t)]) ?_ rfl rfl (by intro i h; cases h) rfl
  refine (ss_nx (ρ1 := [.own true s.l, .d (enc true t), .own false ((bads t).take 8)]) rfl).trans ?_
  refine (ss_nx (ρ1 := [.own true s.l, .d (enc true t), .own false (bads t)]) (asg_ev (v := .f (bads t)) (cat_ev (x := (bads t).take 8) (y := (bads t).drop 8) (ρ1 := [.own true s.l, .d (enc true t), .own false ((bads t).take 8)]) (ρ2 := [.own true s.l, .d (enc true t), .own false ((bads t).take 8)]) (v := .b 2) (w := .f ((bads t).drop 8)) rfl ?_ rfl rfl rfl ?_) rfl)).trans ?_
  · refine lst_ev (vs := [.p (.tup [.s "yes", enc true t]), .p (.tup [.s "not", enc true t, enc true t]), .p (enc true (highS 21)), .p (enc true (wideS 10 61)), .p (.tup [.s "fact", .s "ninenames"])]) ?_ rfl rfl
    refine es_cons (v := .p (.tup [.s "yes", enc true t])) rfl (es_cons (v := .p (.tup [.s "not", enc true t, enc true t])) rfl (es_cons (ρ1 := [.own true s.l, .d (enc true t), .own false ((bads t).take 8)]) (v := .p (enc true (highS 21))) ?_ (es_cons (v := .p (enc true (wideS 10 61))) ?_ rfl)))
    · exact call_ev (vs := [.p (.int 21)]) (as := [.a (.int 21)]) rfl rfl rfl (high21 (n + 9)) rfl
    · exact call_ev (vs := [.p (.int 61)]) (as := [.a (.int 61)]) rfl rfl rfl (wide61 n) rfl
  · simp [bads]
  · exact ss_rt (ret_ev h (by intro i h; cases h) (by intro i h; cases h))
/-! ### _law_refused -/
section
variable {C : Nat → List Arg → Rc} {f s v d : D}
theorem rf4 (h : C 19 [.a f, .a s, .a v] = .ex ⟨4, d⟩ []) : runFn mo C F__law_refused [.a f, .a s, .a v] = .ok (.p (.tup [.s "facts", d, .bl true, .bl false])) [] := by
  refine run0 (ρ0 := [.d f, .d s, .d v, .no]) (ρ := [.d f, .d s, .d v, .exn ⟨4, d⟩]) (ss_rt (try_ex (x := ⟨4, d⟩) (ρ1 := [.d f, .d s, .d v, .no]) (ss_ex (st_ex (call_ex (vs := [.p f, .p s, .p v]) (as := [.a f, .a s, .a v]) rfl rfl rfl h rfl))) ?_)) rfl rfl (by intro i h; cases h) rfl
  rfl
theorem rf3 (h : C 19 [.a f, .a s, .a v] = .ex ⟨3, d⟩ []) : runFn mo C F__law_refused [.a f, .a s, .a v] = .ok (.p (.tup [.s "saying", d, .bl true, .bl false])) [] := by
  refine run0 (ρ0 := [.d f, .d s, .d v, .no]) (ρ := [.d f, .d s, .d v, .exn ⟨3, d⟩]) (ss_rt (try_ex (x := ⟨3, d⟩) (ρ1 := [.d f, .d s, .d v, .no]) (ss_ex (st_ex (call_ex (vs := [.p f, .p s, .p v]) (as := [.a f, .a s, .a v]) rfl rfl rfl h rfl))) ?_)) rfl rfl (by intro i h; cases h) rfl
  rfl
theorem rf7 (h : C 19 [.a f, .a s, .a v] = .ex ⟨7, d⟩ []) : runFn mo C F__law_refused [.a f, .a s, .a v] = .ok (.p (.tup [.s "unknown", d, .bl true, .bl false])) [] := by
  refine run0 (ρ0 := [.d f, .d s, .d v, .no]) (ρ := [.d f, .d s, .d v, .exn ⟨7, d⟩]) (ss_rt (try_ex (x := ⟨7, d⟩) (ρ1 := [.d f, .d s, .d v, .no]) (ss_ex (st_ex (call_ex (vs := [.p f, .p s, .p v]) (as := [.a f, .a s, .a v]) rfl rfl rfl h rfl))) ?_)) rfl rfl (by intro i h; cases h) rfl
  rfl
theorem rf5 (h : C 19 [.a f, .a s, .a v] = .ex ⟨5, d⟩ []) : runFn mo C F__law_refused [.a f, .a s, .a v] = .ok (.p (.tup [.s "view", d, .bl true, .bl false])) [] := by
  refine run0 (ρ0 := [.d f, .d s, .d v, .no]) (ρ := [.d f, .d s, .d v, .exn ⟨5, d⟩]) (ss_rt (try_ex (x := ⟨5, d⟩) (ρ1 := [.d f, .d s, .d v, .no]) (ss_ex (st_ex (call_ex (vs := [.p f, .p s, .p v]) (as := [.a f, .a s, .a v]) rfl rfl rfl h rfl))) ?_)) rfl rfl (by intro i h; cases h) rfl
  rfl
end
def odds : List D := [.tup [.s "p", .s "p"], .s "p", .tup [.s "p", .s "or"], .tup [.s "p", .s "wet", .s "q", .s "dusk", .s "a", .s "b"], .non]
theorem odd_cf (n : Nat) : ∀ o ∈ odds, call mo prog (n + 6) 5 [.a o] = .ex ⟨4, o⟩ [] := by
  intro o h
  simp only [odds, List.mem_cons, List.not_mem_nil, or_false] at h
  rcases h with rfl | rfl | rfl | rfl | rfl <;> kernel_rfl
theorem odd_dep : ∀ o ∈ odds, depLe 97 o = true := by
  intro o h
  simp only [odds, List.mem_cons, List.not_mem_nil, or_false] at h
  rcases h with rfl | rfl | rfl | rfl | rfl <;> rfl
def views (F : List (List Nat)) : List D := [.int (-1), .int (2 ^ F.length : Nat), .bl true, .non]
theorem cv_no1 (n : Nat) : ∀ F ∈ Fs, call mo prog (n + 3) 18 [.a (fD F), .a (.int (-1))] = .ex ⟨5, .int (-1)⟩ [] := fs_ind (by kernel_rfl) (by kernel_rfl) (by kernel_rfl) (by kernel_rfl) (by kernel_rfl) (by kernel_rfl) (by kernel_rfl) (by kernel_rfl) (by kernel_rfl) (by kernel_rfl)
theorem cv_no2 (n : Nat) : ∀ F ∈ Fs, call mo prog (n + 3) 18 [.a (fD F), .a (.int (2 ^ F.length : Nat))] = .ex ⟨5, .int (2 ^ F.length : Nat)⟩ [] := fs_ind (by kernel_rfl) (by kernel_rfl) (by kernel_rfl) (by kernel_rfl) (by kernel_rfl) (by kernel_rfl) (by kernel_rfl) (by kernel_rfl) (by kernel_rfl) (by kernel_rfl)
theorem cv_no3 (n : Nat) : ∀ F ∈ Fs, call mo prog (n + 3) 18 [.a (fD F), .a (.bl true)] = .ex ⟨5, .bl true⟩ [] := fs_ind (by kernel_rfl) (by kernel_rfl) (by kernel_rfl) (by kernel_rfl) (by kernel_rfl) (by kernel_rfl) (by kernel_rfl) (by kernel_rfl) (by kernel_rfl) (by kernel_rfl)
theorem cv_no4 (n : Nat) : ∀ F ∈ Fs, call mo prog (n + 3) 18 [.a (fD F), .a .non] = .ex ⟨5, .non⟩ [] := fs_ind (by kernel_rfl) (by kernel_rfl) (by kernel_rfl) (by kernel_rfl) (by kernel_rfl) (by kernel_rfl) (by kernel_rfl) (by kernel_rfl) (by kernel_rfl) (by kernel_rfl)
theorem cv_no (n : Nat) {F : List (List Nat)} (hF : F ∈ Fs) : ∀ v ∈ views F, call mo prog (n + 3) 18 [.a (fD F), .a v] = .ex ⟨5, v⟩ [] := by
  intro v h
  simp only [views, List.mem_cons, List.not_mem_nil, or_false] at h
  rcases h with rfl | rfl | rfl | rfl
  · exact cv_no1 n F hF
  · exact cv_no2 n F hF
  · exact cv_no3 n F hF
  · exact cv_no4 n F hF
theorem view_dep {F : List (List Nat)} : ∀ v ∈ views F, depLe 97 v = true := by
  intro v h
  simp only [views, List.mem_cons, List.not_mem_nil, or_false] at h
  rcases h with rfl | rfl | rfl | rfl <;> unfold depLe <;> rfl
section
variable {F : List (List Nat)} {s : Sy}
theorem hi_facts {n : Nat} {o b v : D} (ho : o ∈ odds) : call mo prog (n + 7) 19 [.a o, .a b, .a v] = .ex ⟨4, o⟩ [] := by
  rw [call_s _ _ _ F_holds_in rfl]
  refine run0x (ρ0 := [.d o, .d b, .d v, .no, .no]) (ρ := [.d o, .d b, .d v, .no, .no]) ?_ rfl rfl rfl
  exact ss_ex (asg_ex (call_ex (vs := [.p o]) (as := [.a o]) rfl rfl rfl (odd_cf n o ho) rfl))
theorem hi_cf {C : Nat → List Arg → Rc} {b v : D} (h : C 5 [.a (fD F)] = .ok (.p (fD F)) []) : evSs mo C b_holds_in [.d (fD F), .d b, .d v, .no, .no] = evSs mo C b_holds_in_1 [.d (fD F), .d b, .d v, .d (fD F), .no] :=
  ss_nx (asg_ev (call_ev (vs := [.p (fD F)]) (as := [.a (fD F)]) rfl rfl rfl h rfl) rfl)
theorem hi_bad (hF : F ∈ Fs) {b v : D} {N : Nat} (hN : 10 ≤ N) (h : call mo prog N 11 [.a b] = .ex ⟨3, b⟩ []) : call mo prog (N + 1) 19 [.a (fD F), .a b, .a v] = .ex ⟨3, b⟩ [] := by
  obtain ⟨n, rfl⟩ : ∃ n, N = n + 5 := ⟨N - 5, by omega⟩
  rw [call_s _ _ _ F_holds_in rfl]
  refine run0x (ρ0 := [.d (fD F), .d b, .d v, .no, .no]) (ρ := [.d (fD F), .d b, .d v, .d (fD F), .no]) ((hi_cf (cf_ok n F hF)).trans ?_) rfl rfl rfl
  refine ss_ex (asg_ex ?_)
  have hx : evE mo (call mo prog (n + 5)) (.call 11 (.cons (.var 1) .nil)) [.d (fD F), .d b, .d v, .d (fD F), .no] = .ex ⟨3, b⟩ [.d (fD F), .d b, .d v, .d (fD F), .no] :=
    call_ex (vs := [.p b]) (as := [.a b]) rfl rfl rfl h rfl
  exact call_arg (es_ex2 (v := .p (fD F)) rfl (es_ex1 hx))
theorem hi_unk (hF : F ∈ Fs) (ho : Ok s) {x : List Nat} {r : List (List Nat)} (hm : met s = x :: r) (hx : x ∉ F) {v : D} {N : Nat} (hN : dp s + 9 ≤ N) : call mo prog N 19 [.a (fD F), .a (enc true s), .a v] = .ex ⟨7, .str x⟩ [] := by
  obtain ⟨n, rfl⟩ : ∃ n, N = n + 6 := ⟨N - 6, by omega⟩
  have h1 := checked_ok ho true (n + 5) (by omega)
  have h2 := mo_no (F := F) ho.sz hm hx (N := n + 5) (by omega)
  rw [call_s _ _ _ F_holds_in rfl]
  refine run0x (ρ0 := [.d (fD F), .d (enc true s), .d v, .no, .no]) (ρ := [.d (fD F), .d (enc true s), .d v, .d (fD F), .no]) ((hi_cf (cf_ok n F hF)).trans ?_) rfl rfl rfl
  refine ss_ex (asg_ex ?_)
  exact call_ex (vs := [.p (fD F), .p (enc true s)]) (as := [.a (fD F), .a (enc true s)]) (es_cons (v := .p (fD F)) rfl (es_cons (v := .p (enc true s)) (call_ev (vs := [.p (enc true s)]) (as := [.a (enc true s)]) rfl rfl rfl h1 rfl) rfl)) rfl rfl h2 rfl
theorem hi_view (h : Over F s) {v : D} (hv : v ∈ views F) {N : Nat} (hN : dp s + 9 ≤ N) : call mo prog N 19 [.a (fD F), .a (enc true s), .a v] = .ex ⟨5, v⟩ [] := by
  obtain ⟨n, rfl⟩ : ∃ n, N = n + 6 := ⟨N - 6, by omega⟩
  have h1 := checked_ok h.toOk true (n + 5) (by omega)
  have h2 := mo_ok h (N := n + 5) (by omega)
  rw [call_s _ _ _ F_holds_in rfl]
  refine run0x (ρ0 := [.d (fD F), .d (enc true s), .d v, .no, .no]) (ρ := [.d (fD F), .d (enc true s), .d v, .d (fD F), .d (.int (msk F s))]) ((hi_cf (cf_ok n F h.hF)).trans ?_) rfl rfl rfl
  refine (ss_nx (ρ1 := [.d (fD F), .d (enc true s), .d v, .d (fD F), .d (.int (msk F s))]) (asg_ev (call_ev (vs := [.p (fD F), .p (enc true s)]) (as := [.a (fD F), .a (enc true s)]) (es_cons (v := .p (fD F)) rfl (es_cons (v := .p (enc true s)) (call_ev (vs := [.p (enc true s)]) (as := [.a (enc true s)]) rfl rfl rfl h1 rfl) rfl)) rfl rfl h2 rfl) rfl)).trans ?_
  exact ss_ex (st_ex (call_ex (vs := [.p (fD F), .p v]) (as := [.a (fD F), .a v]) rfl rfl rfl (cv_no (n + 2) h.hF v hv) rfl))
end
theorem ref_self {k : List Nat} {x : D} (h : depLe 97 x = true) {a b : Bool} : depLe 100 (.tup [.str k, x, .bl a, .bl b]) = true := by
  unfold depLe
  refine depsLe_of fun y m => ?_
  simp only [List.mem_cons, List.not_mem_nil, or_false] at m
  rcases m with rfl | rfl | rfl | rfl
  · unfold depLe; rfl
  · exact depLe_mono (by decide) h
  · unfold depLe; rfl
  · unfold depLe; rfl
end K01
end
section
set_option linter.all false
set_option maxRecDepth 100000
set_option maxHeartbeats 4000000
namespace K01
open Cz
/-- the slots of the law -/
abbrev G (sc : D) (a1 a2 a3 a4 a5 a6 a7 a8 a9 a10 a11 a12 : Sl) : Env := [.d sc, a1, a2, a3, a4, a5, a6, a7, a8, a9, a10, a11, a12]
def five : List (List Nat) := [tx "p", tx "wet", tx "q", tx "dusk", tx "a"]
theorem five_cut : ∀ k : Nat, k < 6 → cut (five.map D.str) none (some (k : Int)) = (five.take k).map D.str ∧ five.take k ∈ Fs ∧ (five.take k).reverse ∈ Fs := by
  intro k hk
  have : k = 0 ∨ k = 1 ∨ k = 2 ∨ k = 3 ∨ k = 4 ∨ k = 5 := by omega
  rcases this with rfl | rfl | rfl | rfl | rfl | rfl <;> exact ⟨rfl, by decide, by decide⟩
theorem rev_ok {C : Nat → List Arg → Rc} {sc : D} {l : List D} : ∀ k : Nat, k < 6 → evSs mo C b_law_2a (G sc (.own false l) (.d (fD (five.take k))) .no .no .no .no .no .no .no .no .no .no) = .nx (G sc (.own false l) (.d (fD (five.take k).reverse)) .no .no .no .no .no .no .no .no .no .no) := by
  intro k hk
  have : k = 0 ∨ k = 1 ∨ k = 2 ∨ k = 3 ∨ k = 4 ∨ k = 5 := by omega
  rcases this with rfl | rfl | rfl | rfl | rfl | rfl <;> kernel_rfl
theorem toN {m : Int} {s : Sr} (hm : 0 < m) : ∃ k : Nat, pk s m = k ∧ (k : Int) < m := by
  obtain ⟨h0, h1⟩ := pk_lt s m hm
  exact ⟨(pk s m).toNat, by omega, by omega⟩
/-- the facts drawn -/
theorem law_facts (ns : List Int) (hb : ∀ z ∈ ns, z.natAbs.log2 < 2000000) : ∃ F ∈ Fs, ∃ s : Sr, evSs mo (call mo prog 60) b_law (G (.lst (ns.map D.int)) .no .no .no .no .no .no .no .no .no .no .no .no) = evSs mo (call mo prog 60) b_law_3 (G (.lst (ns.map D.int)) (.own false s.l) (.d (fD F)) .no .no .no .no .no .no .no .no .no .no) := by
  obtain ⟨s, h0⟩ := source 59 ns 0 (by decide) (by decide) hb
  generalize D.lst (ns.map D.int) = sc at h0 ⊢
  obtain ⟨k, hk, hk6⟩ := toN (s := s) (m := 6) (by decide)
  obtain ⟨c1, c2, c3⟩ := five_cut k (by omega)
  have e1 : evSs mo (call mo prog 60) b_law (G sc .no .no .no .no .no .no .no .no .no .no .no .no) = evSs mo (call mo prog 60) b_law_1 (G sc (.own false s.l) .no .no .no .no .no .no .no .no .no .no .no) :=
    ss_nx (asg_ev (ρ1 := G sc .no .no .no .no .no .no .no .no .no .no .no .no) (call_ev (ρ1 := G sc .no .no .no .no .no .no .no .no .no .no .no .no) (vs := [.p sc, .p (.int 0)]) (as := [.a sc, .a (.int 0)]) rfl rfl rfl h0 rfl) rfl)
  have e2 : evSs mo (call mo prog 60) b_law_1 (G sc (.own false s.l) .no .no .no .no .no .no .no .no .no .no .no) = evSs mo (call mo prog 60) b_law_2 (G sc (.own false (nx s 6).l) (.d (fD (five.take k))) .no .no .no .no .no .no .no .no .no .no) := by
    refine ss_nx (asg_ev (ρ1 := G sc (.own false (nx s 6).l) .no .no .no .no .no .no .no .no .no .no .no) (slT_ev (v := .p (.tup (five.map D.str))) (ρ1 := G sc (.own false s.l) .no .no .no .no .no .no .no .no .no .no .no) (w := .p (.int k)) (r := .p (fD (five.take k))) rfl ?_ rfl rfl ?_) rfl)
    · rw [← hk]
      exact pick_ev (n := 59) (i := 1) (m := 6) (l := false) (s := s) rfl rfl (by decide) (by decide)
    · unfold slice
      simp only [c1]
      rfl
  have e3 := pick_is (n := 59) (i := 1) (l := false) (s := nx s 6) (m := 2) (q := 1) (ρ := G sc (.own false (nx s 6).l) (.d (fD (five.take k))) .no .no .no .no .no .no .no .no .no .no) rfl (by decide) (by decide)
  cases hb : D.beq (.int (pk (nx s 6) 2)) (.int 1) with
  | true =>
    rw [hb] at e3
    refine ⟨(five.take k).reverse, c3, nx (nx s 6) 2, e1.trans (e2.trans (ss_nx (if_t e3 ?_)))⟩
    exact rev_ok k (by omega)
  | false =>
    rw [hb] at e3
    exact ⟨five.take k, c2, nx (nx s 6) 2, e1.trans (e2.trans (ss_nx (if_f e3 rfl)))⟩
/-- the saying drawn -/
theorem law_said {F : List (List Nat)} (hF : F ∈ Fs) (sc : D) (s : Sr) : ∃ (t : Sy) (s' : Sr), Over F t ∧ evSs mo (call mo prog 60) b_law_3 (G sc (.own false s.l) (.d (fD F)) .no .no .no .no .no .no .no .no .no .no) = evSs mo (call mo prog 60) b_law_5 (G sc (.own false s'.l) (.d (fD F)) (.d (enc true t)) .no .no .no .no .no .no .no .no .no) := by
  obtain ⟨k, hk, hk5⟩ := toN (s := s) (m := 5) (by decide)
  obtain ⟨t, s1, ht, mt, dt, zt⟩ := say_ok hF k (nx s 5) 60 (by omega) (by omega)
  have z32 : 2 ^ (k + 1) ≤ 2 ^ 5 := Nat.pow_le_pow_right (by omega) (by omega)
  have ot : Over F t := ⟨⟨fun x h => fs_nms hF (mt x h), by omega, by omega⟩, hF, mt⟩
  have e1 : evSs mo (call mo prog 60) b_law_3 (G sc (.own false s.l) (.d (fD F)) .no .no .no .no .no .no .no .no .no .no) = evSs mo (call mo prog 60) b_law_4 (G sc (.own false s1.l) (.d (fD F)) (.d (enc true t)) .no .no .no .no .no .no .no .no .no) := by
    refine ss_nx (asg_ev (ρ1 := G sc (.own false s1.l) (.d (fD F)) .no .no .no .no .no .no .no .no .no .no) (call_ev (ρ1 := G sc (.own false (nx s 5).l) (.d (fD F)) .no .no .no .no .no .no .no .no .no .no) (vs := [.b 1, .p (fD F), .p (.int k)]) (as := [.o (nx s 5).l, .a (fD F), .a (.int k)]) (es_cons (v := .b 1) rfl (es_cons (v := .p (fD F)) rfl (es_cons (v := .p (.int k)) ?_ rfl))) rfl rfl ht rfl) rfl)
    rw [← hk]
    exact pick_ev (n := 59) (i := 1) (m := 5) (l := false) (s := s) rfl rfl (by decide) (by decide)
  -- now and then one at the bounds
  have hin : evE mo (call mo prog 60) (.cmp .in_ (.c (.str [112])) (.bor 2)) (G sc (.own false s1.l) (.d (fD F)) (.d (enc true t)) .no .no .no .no .no .no .no .no .no) = .ok (.p (.bl (decide (tx "p" ∈ F)))) (G sc (.own false s1.l) (.d (fD F)) (.d (enc true t)) .no .no .no .no .no .no .no .no .no) :=
    cmp_ev (v := .p (.str (tx "p"))) (w := .p (fD F)) rfl rfl rfl rfl in_str
  by_cases hp : tx "p" ∈ F
  · rw [decide_eq_true hp] at hin
    have e3 := pick_is (n := 59) (i := 1) (l := false) (s := s1) (m := 9) (q := 4) (ρ := G sc (.own false s1.l) (.d (fD F)) (.d (enc true t)) .no .no .no .no .no .no .no .no .no) rfl (by decide) (by decide)
    cases hb : D.beq (.int (pk s1 9)) (.int 4) with
    | true =>
      rw [hb] at e3
      obtain ⟨j, hj, hj3⟩ := toN (s := nx s1 9) (m := 3) (by decide)
      have hl : evE mo (call mo prog 60) (.lst (.cons (.call 33 (.cons (.c (.int 59)) .nil)) (.cons (.tup (.cons (.c (.str [110, 111, 116])) (.cons (.call 33 (.cons (.c (.int 59)) .nil)) .nil))) (.cons (.call 34 (.cons (.c (.int 20)) .nil)) .nil)))) (G sc (.own false (nx s1 9).l) (.d (fD F)) (.d (enc true t)) .no .no .no .no .no .no .no .no .no) = .ok (.f [enc true (wideS 10 59), enc true (.neg (wideS 10 59)), enc true (highS 20)]) (G sc (.own false (nx s1 9).l) (.d (fD F)) (.d (enc true t)) .no .no .no .no .no .no .no .no .no) := by
        have w := wide59 50
        have h := high20 59
        have c1 : evE mo (call mo prog 60) (.call 33 (.cons (.c (.int 59)) .nil)) (G sc (.own false (nx s1 9).l) (.d (fD F)) (.d (enc true t)) .no .no .no .no .no .no .no .no .no) = .ok (.p (enc true (wideS 10 59))) (G sc (.own false (nx s1 9).l) (.d (fD F)) (.d (enc true t)) .no .no .no .no .no .no .no .no .no) := call_ev (vs := [.p (.int 59)]) (as := [.a (.int 59)]) rfl rfl rfl w rfl
        have c2 : evE mo (call mo prog 60) (.call 34 (.cons (.c (.int 20)) .nil)) (G sc (.own false (nx s1 9).l) (.d (fD F)) (.d (enc true t)) .no .no .no .no .no .no .no .no .no) = .ok (.p (enc true (highS 20))) (G sc (.own false (nx s1 9).l) (.d (fD F)) (.d (enc true t)) .no .no .no .no .no .no .no .no .no) := call_ev (vs := [.p (.int 20)]) (as := [.a (.int 20)]) rfl rfl rfl h rfl
        refine lst_ev (vs := [.p (enc true (wideS 10 59)), .p (enc true (.neg (wideS 10 59))), .p (enc true (highS 20))]) (es_cons c1 (es_cons (v := .p (enc true (.neg (wideS 10 59)))) ?_ (es_cons c2 rfl))) rfl rfl
        exact tup_ev (es_cons (v := .p (.s "not")) rfl (es_cons c1 rfl)) rfl rfl
      have hpk := pick_ev (n := 59) (i := 1) (m := 3) (l := false) (s := nx s1 9) (e := .c (.int 3)) (ρ := G sc (.own false (nx s1 9).l) (.d (fD F)) (.d (enc true t)) .no .no .no .no .no .no .no .no .no) rfl rfl (by decide) (by decide)
      rw [hj] at hpk
      have fin : ∀ t' : Sy, Over F t' → item (.lst [enc true (wideS 10 59), enc true (.neg (wideS 10 59)), enc true (highS 20)]) (.int j) = some (enc true t') → ∃ (t : Sy) (s' : Sr), Over F t ∧ evSs mo (call mo prog 60) b_law_3 (G sc (.own false s.l) (.d (fD F)) .no .no .no .no .no .no .no .no .no .no) = evSs mo (call mo prog 60) b_law_5 (G sc (.own false s'.l) (.d (fD F)) (.d (enc true t)) .no .no .no .no .no .no .no .no .no) := by
        intro t' ho hi
        refine ⟨t', nx (nx s1 9) 3, ho, e1.trans (ss_nx (if_t (and_t hin e3 fun _ _ _ => trivial) ((ss_nx (ρ1 := G sc (.own false (nx (nx s1 9) 3).l) (.d (fD F)) (.d (enc true t')) .no .no .no .no .no .no .no .no .no) (asg_ev (ix_ev hl hpk rfl rfl hi) rfl)).trans rfl)))⟩
      have ow : ∀ x ∈ met (wideS 10 59), x ∈ F := fun x h => by rw [wide_met _ _ x h]; exact hp
      have : j = 0 ∨ j = 1 ∨ j = 2 := by omega
      rcases this with rfl | rfl | rfl
      · exact fin (wideS 10 59) ⟨⟨wide_nm _ _, by have := w59; omega, by have := w59; omega⟩, hF, ow⟩ rfl
      · exact fin (.neg (wideS 10 59)) ⟨⟨wide_nm 10 59, by have := w59; simp only [dp]; omega, by have := w59; simp only [sz]; omega⟩, hF, ow⟩ rfl
      · exact fin (highS 20) ⟨⟨high_nm _, by have := h20; omega, by have := h20; omega⟩, hF, fun x h => by rw [high_met 20] at h; cases h⟩ rfl
    | false =>
      rw [hb] at e3
      exact ⟨t, nx s1 9, ot, e1.trans (ss_nx (if_f (and_t hin e3 fun _ _ _ => trivial) rfl))⟩
  · rw [decide_eq_false hp] at hin
    exact ⟨t, s1, ot, e1.trans (ss_nx (if_f (and_f hin) rfl))⟩
theorem memD_int {x : Nat} : ∀ {xs : List Nat}, memD (.int x) (nD xs) = decide (x ∈ xs)
  | [] => rfl
  | y :: r => by
    have ih := memD_int (x := x) (xs := r)
    unfold memD at ih ⊢
    show (D.beq (.int y) (.int x) || (nD r).any fun y => D.beq y (.int x)) = _
    rw [ih]
    unfold D.beq
    by_cases h : y = x
    · subst h; simp
    · have h2 : ¬ x = y := fun e => h e.symm
      have h3 : ((y : Int) == (x : Int)) = false := beq_eq_false_iff_ne.mpr (by omega)
      simp [h3, h2]
theorem in_nD {x : Nat} {xs : List Nat} : cmpD .in_ (.int x) (.lst (nD xs)) = some (decide (x ∈ xs)) := by
  have h : (nD xs).all flat = true := by
    rw [List.all_eq_true]
    intro y m
    obtain ⟨k, _, rfl⟩ := List.mem_map.mp m
    rfl
  unfold cmpD
  simp only [h, memD_int, flat, Bool.and_self, if_true]
theorem tupnD_dep (xs : List Nat) : depLe 100 (.tup (nD xs)) = true := by
  unfold depLe
  exact nD_dep xs
/-- from the views due on to the second source -/
theorem law_views {F : List (List Nat)} {t : Sy} (h : Over F t) (sc : D) (a1 : Sl) : ∃ a5, fr a5 = true ∧ evSs mo (call mo prog 60) b_law_5 (G sc a1 (.d (fD F)) (.d (enc true t)) .no .no .no .no .no .no .no .no .no) = evSs mo (call mo prog 60) b_law_9 (G sc a1 (.d (fD F)) (.d (enc true t)) (.own false (nD (vw F (msk F t)))) a5 .no .no .no .no .no .no .no) := by
  have hdp := h.dp
  have e5 : evSs mo (call mo prog 60) b_law_5 (G sc a1 (.d (fD F)) (.d (enc true t)) .no .no .no .no .no .no .no .no .no) = evSs mo (call mo prog 60) b_law_6 (G sc a1 (.d (fD F)) (.d (enc true t)) (.own false (nD (vw F (msk F t)))) .no .no .no .no .no .no .no .no) :=
    ss_nx (asg_ev (due_ev (n := 60) (i := 2) (j := 3) (k := 5) h (by omega) rfl rfl rfl (by decide) (by decide)) rfl)
  have v1 := vo_ok h true (fun n => cf_ok n F h.hF) (N := 60) (by omega)
  have v2 := vo_ok h false (fun n => cf_lst n F h.hF) (N := 60) (by omega)
  obtain ⟨v, hv, hvz⟩ := llists_ok (s := t) (by omega) (N := 60) (by omega)
  have f1 := fof_ok h.toOk (N := 60) (by omega)
  have m1 := lmet_ok t h.sz true 60 (by omega)
  have c1 := checked_ok h.toOk false 60 (by omega)
  generalize hV : nD (vw F (msk F t)) = V at *
  have dV : depLe 100 (.tup V) = true := by rw [← hV]; exact tupnD_dep _
  generalize hρ : G sc a1 (.d (fD F)) (.d (enc true t)) (.own false V) .no .no .no .no .no .no .no .no = ρ at *
  have r2 : ρ[2]? = some (.d (fD F)) := by rw [← hρ]; rfl
  have r3 : ρ[3]? = some (.d (enc true t)) := by rw [← hρ]; rfl
  have r4 : ρ[4]? = some (.own false V) := by rw [← hρ]; rfl
  have b4 : evE mo (call mo prog 60) (.bor 4) ρ = .ok (.b 4) ρ := by rw [evE, r4]
  have s4 : res ρ (fz (.b 4)) = some (.lst V) := by
    unfold fz res
    simp only [r4]
  have tV := tuple_ev b4 s4
  have ll : evEs mo (call mo prog 60) (.cons (.call 31 (.cons (.var 3) .nil)) .nil) ρ = .ok [.p (enc false t)] ρ := by
    have hc : evE mo (call mo prog 60) (.call 31 (.cons (.var 3) .nil)) ρ = .ok v ρ := call_ev (vs := [.p (enc true t)]) (as := [.a (enc true t)]) (es_cons (var_d r3) rfl) rfl rfl hv rfl
    have := es_cons (es := .nil) (vs := []) hc rfl
    rw [hvz] at this
    exact this
  have q1 : evE mo (call mo prog 60) (.cmp .ne (.call 20 (.cons (.var 2) (.cons (.var 3) .nil))) (.bi .tuple (.cons (.bor 4) .nil))) ρ = .ok (.p (.bl false)) ρ :=
    cmp_ev (call_ev (vs := [.p (fD F), .p (enc true t)]) (as := [.a (fD F), .a (enc true t)]) (es_cons (var_d r2) (es_cons (var_d r3) rfl)) rfl rfl v1 rfl) tV rfl rfl (ne_self dV)
  have l2 : evE mo (call mo prog 60) (.bi .list (.cons (.bor 2) .nil)) ρ = .ok (.f (F.map .str)) ρ := by
    rw [evE, evEs, bor_d r2]
    rfl
  have q2 : evE mo (call mo prog 60) (.cmp .ne (.call 20 (.cons (.bi .list (.cons (.bor 2) .nil)) (.cons (.call 31 (.cons (.var 3) .nil)) .nil))) (.bi .tuple (.cons (.bor 4) .nil))) ρ = .ok (.p (.bl false)) ρ :=
    cmp_ev (call_ev (vs := [.p (.lst (F.map .str)), .p (enc false t)]) (as := [.a (.lst (F.map .str)), .a (enc false t)]) (es_cons l2 ll) rfl rfl v2 rfl) tV rfl rfl (ne_self dV)
  have e6 : evSs mo (call mo prog 60) b_law_6 ρ = evSs mo (call mo prog 60) b_law_7 ρ := ss_nx (if_f (or_f q1 q2) rfl)
  have hl := met_len t
  have hz := h.sz
  have q3 : evE mo (call mo prog 60) (.cmp .ne (.call 13 (.cons (.var 3) .nil)) (.bi .tuple (.cons (.sset (.call 30 (.cons (.var 3) .nil))) .nil))) ρ = .ok (.p (.bl false)) ρ := by
    refine cmp_ev (call_ev (vs := [.p (enc true t)]) (as := [.a (enc true t)]) (es_cons (var_d r3) rfl) rfl rfl f1 rfl) (tuple_ev (v := .f ((sortU (met t)).map .str)) (sset_ev ?_ (by omega)) rfl) rfl rfl (ne_self (fo_dep t))
    exact call_ev (vs := [.p (enc true t)]) (as := [.a (enc true t)]) (es_cons (var_d r3) rfl) rfl rfl m1 rfl
  have q4 : evE mo (call mo prog 60) (.cmp .ne (.call 11 (.cons (.call 31 (.cons (.var 3) .nil)) .nil)) (.bor 3)) ρ = .ok (.p (.bl false)) ρ :=
    cmp_ev (call_ev (vs := [.p (enc false t)]) (as := [.a (enc false t)]) ll rfl rfl c1 rfl) (bor_d r3) rfl rfl (ne_self (enc_dep100 (by omega)))
  have e7 : evSs mo (call mo prog 60) b_law_7 ρ = evSs mo (call mo prog 60) b_law_8 ρ := ss_nx (if_f (or_f q3 q4) rfl)
  -- the loop
  have go : ∀ (xs : List Nat), (∀ x ∈ xs, x < 2 ^ F.length) → ∀ s5, fr s5 = true → ∃ s5', fr s5' = true ∧ forTurns (turn mo (call mo prog 60) [5] b_law_8a) (G sc a1 (.d (fD F)) (.d (enc true t)) (.own false V) s5 .no .no .no .no .no .no .no) (nD xs) = .nx (G sc a1 (.d (fD F)) (.d (enc true t)) (.own false V) s5' .no .no .no .no .no .no .no) := by
    intro xs
    induction xs with
    | nil => intro _ s5 h5; exact ⟨s5, h5, rfl⟩
    | cons x r ih =>
      intro hx s5 h5
      obtain ⟨s5', hf, hr⟩ := ih (fun y m => hx y (List.mem_cons_of_mem _ m)) (.d (.int x)) rfl
      have hxx := hx x List.mem_cons_self
      refine ⟨s5', hf, (ft_nx (ρ1 := G sc a1 (.d (fD F)) (.d (enc true t)) (.own false V) (.d (.int x)) .no .no .no .no .no .no .no) ?_).trans hr⟩
      refine turn_ev (ρ2 := G sc a1 (.d (fD F)) (.d (enc true t)) (.own false V) (.d (.int x)) .no .no .no .no .no .no .no) (bind1 rfl h5) ?_
      have hh := hi_ok h hxx (N := 60) (by omega)
      have hm : decide (x ∈ vw F (msk F t)) = (msk F t).testBit x := by
        unfold vw vs
        simp [hxx]
      refine (ss_nx (if_f (ρ1 := G sc a1 (.d (fD F)) (.d (enc true t)) (.own false V) (.d (.int x)) .no .no .no .no .no .no .no) (cmp_ev (call_ev (vs := [.p (fD F), .p (enc true t), .p (.int x)]) (as := [.a (fD F), .a (enc true t), .a (.int x)]) rfl rfl rfl hh rfl) (w := .p (.bl ((msk F t).testBit x))) (cmp_ev (v := .p (.int x)) (w := .b 4) rfl rfl rfl rfl ?_) rfl rfl ?_) rfl)).trans rfl
      · rw [← hV, ← hm]
        exact in_nD
      · cases (msk F t).testBit x <;> rfl
  obtain ⟨a5, h5, hg⟩ := go (List.range (2 ^ F.length)) (fun x m => List.mem_range.mp m) .no rfl
  refine ⟨a5, h5, e5.trans (e6.trans (e7.trans ?_))⟩
  subst hρ
  exact ss_nx ((for_ev (r1_hi h.hF rfl)).trans hg)
end K01
end
section
set_option linter.all false
set_option maxRecDepth 100000
set_option maxHeartbeats 4000000
namespace Cz
variable {M : Mo} {C : Nat → List Arg → Rc}
theorem inr_ev {neg : Bool} {a b c : E} {ρ ρ1 ρ2 ρ3 : Env} {i lo hi : Int} {r : Bool} (ha : evE M C a ρ = .ok (.p (.int i)) ρ1) (hb : evE M C b ρ1 = .ok (.p (.int lo)) ρ2) (hc : evE M C c ρ2 = .ok (.p (.int hi)) ρ3) (h : (if neg then !decide (lo ≤ i ∧ i < hi) else decide (lo ≤ i ∧ i < hi)) = r) : evE M C (.inr neg a b c) ρ = .ok (.p (.bl r)) ρ3 := by
  rw [evE, ha]
  simp only [hb, hc, fz, res, h]
end Cz
namespace K01
open Cz
/-- the law's test of what saying_of tells -/
theorem law_lots (ns : List Int) (hb : ∀ z ∈ ns, z.natAbs.log2 < 2000000) {F : List (List Nat)} (hF : F ∈ Fs) (a1 a3 a4 a5 : Sl) : ∃ (s : Sr) (a7 a8 a9 : Sl), evSs mo (call mo prog 60) b_law_9 (G (.lst (ns.map D.int)) a1 (.d (fD F)) a3 a4 a5 .no .no .no .no .no .no .no) = evSs mo (call mo prog 60) b_law_16 (G (.lst (ns.map D.int)) a1 (.d (fD F)) a3 a4 a5 (.own false s.l) a7 a8 a9 .no .no .no) := by
  obtain ⟨s, h0⟩ := source 59 ns 1 (by decide) (by decide) hb
  generalize D.lst (ns.map D.int) = sc at h0 ⊢
  have l5 := len5 F hF
  have h32 := le32 hF
  have p32 : 2 ^ 2 ^ F.length ≤ 2 ^ 32 := Nat.pow_le_pow_right (by omega) h32
  have pp : 0 < 2 ^ 2 ^ F.length := Nat.pow_pos (by omega)
  obtain ⟨m, hm, hml⟩ := toN (s := s) (m := ((2 ^ 2 ^ F.length : Nat) : Int)) (by omega)
  have hml : m < 2 ^ 2 ^ F.length := by omega
  have hm32 : m < 2 ^ 32 := by omega
  have e9 : evSs mo (call mo prog 60) b_law_9 (G sc a1 (.d (fD F)) a3 a4 a5 .no .no .no .no .no .no .no) = evSs mo (call mo prog 60) b_law_10 (G sc a1 (.d (fD F)) a3 a4 a5 (.own false s.l) .no .no .no .no .no .no) :=
    ss_nx (asg_ev (ρ1 := G sc a1 (.d (fD F)) a3 a4 a5 .no .no .no .no .no .no .no) (call_ev (ρ1 := G sc a1 (.d (fD F)) a3 a4 a5 .no .no .no .no .no .no .no) (vs := [.p sc, .p (.int 1)]) (as := [.a sc, .a (.int 1)]) rfl rfl rfl h0 rfl) rfl)
  have e10 : evSs mo (call mo prog 60) b_law_10 (G sc a1 (.d (fD F)) a3 a4 a5 (.own false s.l) .no .no .no .no .no .no) = evSs mo (call mo prog 60) b_law_11 (G sc a1 (.d (fD F)) a3 a4 a5 (.own false (nx s ((2 ^ 2 ^ F.length : Nat) : Int)).l) (.d (.int m)) .no .no .no .no .no) := by
    refine ss_nx (asg_ev (v := .p (.int m)) (ρ1 := G sc a1 (.d (fD F)) a3 a4 a5 (.own false (nx s ((2 ^ 2 ^ F.length : Nat) : Int)).l) .no .no .no .no .no .no) ?_ rfl)
    rw [← hm]
    refine pick_ev (n := 59) (i := 6) (m := ((2 ^ 2 ^ F.length : Nat) : Int)) (l := false) (s := s) rfl ?_ (by omega) (by omega)
    exact bin_ev (v := .p (.int 1)) (w := .p (.int (2 ^ F.length : Nat))) rfl (hi_ev hF rfl) rfl rfl (sh2 F hF)
  generalize nx s ((2 ^ 2 ^ F.length : Nat) : Int) = s1 at e10
  have hbits := lbits_ok (n := 59) hm32
  rw [vs_eq hml h32] at hbits
  have e11 : evSs mo (call mo prog 60) b_law_11 (G sc a1 (.d (fD F)) a3 a4 a5 (.own false s1.l) (.d (.int m)) .no .no .no .no .no) = evSs mo (call mo prog 60) b_law_12 (G sc a1 (.d (fD F)) a3 a4 a5 (.own false s1.l) (.d (.int m)) (.own false (nD (vw F m))) .no .no .no .no) :=
    ss_nx (asg_ev (ρ1 := G sc a1 (.d (fD F)) a3 a4 a5 (.own false s1.l) (.d (.int m)) .no .no .no .no .no) (call_ev (ρ1 := G sc a1 (.d (fD F)) a3 a4 a5 (.own false s1.l) (.d (.int m)) .no .no .no .no .no) (vs := [.p (.int m)]) (as := [.a (.int m)]) rfl rfl rfl hbits rfl) rfl)
  have e12 : ∀ w : D, call mo prog 60 37 [.a (fD F), .a (.tup (nD (vw F m)))] = .ok (.p w) [] → evSs mo (call mo prog 60) b_law_12 (G sc a1 (.d (fD F)) a3 a4 a5 (.own false s1.l) (.d (.int m)) (.own false (nD (vw F m))) .no .no .no .no) = evSs mo (call mo prog 60) b_law_13 (G sc a1 (.d (fD F)) a3 a4 a5 (.own false s1.l) (.d (.int m)) (.own false (nD (vw F m))) (.d w) .no .no .no) := by
    intro w hw
    refine ss_nx (asg_ev (ρ1 := G sc a1 (.d (fD F)) a3 a4 a5 (.own false s1.l) (.d (.int m)) (.own false (nD (vw F m))) .no .no .no .no) (call_ev (ρ1 := G sc a1 (.d (fD F)) a3 a4 a5 (.own false s1.l) (.d (.int m)) (.own false (nD (vw F m))) .no .no .no .no) (vs := [.p (fD F), .p (.tup (nD (vw F m)))]) (as := [.a (fD F), .a (.tup (nD (vw F m)))]) (es_cons (v := .p (fD F)) rfl (es_cons (v := .p (.tup (nD (vw F m)))) (tuple_ev (v := .b 8) rfl rfl) rfl)) rfl rfl hw rfl) rfl)
  have s0 := fun w hw => e9.trans (e10.trans (e11.trans (e12 w hw)))
  have hlt : ∀ w : D, ∀ k : Bool, decide (F.length < 5) = k → evE mo (call mo prog 60) (.cmp .lt (.bi .len (.cons (.bor 2) .nil)) (.c (.int 5))) (G sc a1 (.d (fD F)) a3 a4 a5 (.own false s1.l) (.d (.int m)) (.own false (nD (vw F m))) (.d w) .no .no .no) = .ok (.p (.bl k)) (G sc a1 (.d (fD F)) a3 a4 a5 (.own false s1.l) (.d (.int m)) (.own false (nD (vw F m))) (.d w) .no .no .no) := by
    intro w k hk
    refine cmp_ev (v := .p (.int F.length)) (w := .p (.int 5)) (len_g rfl) rfl rfl rfl ?_
    unfold cmpD
    simp only
    congr 1
    rw [← hk]
    by_cases h : F.length < 5
    · rw [decide_eq_true h]; exact decide_eq_true (by omega)
    · rw [decide_eq_false h]; exact decide_eq_false (by omega)
  by_cases h4 : F.length ≤ 4
  · have hw := lots_ok hF h4 hml (N := 60) (by omega)
    refine ⟨s1, .d (.int m), .own false (nD (vw F m)), .d (.bl true), (s0 _ hw).trans ?_⟩
    have hl := hlt (.bl true) true (decide_eq_true (by omega))
    clear hlt
    generalize hρ : G sc a1 (.d (fD F)) a3 a4 a5 (.own false s1.l) (.d (.int m)) (.own false (nD (vw F m))) (.d (.bl true)) .no .no .no = ρ at *
    have r2 : ρ[2]? = some (.d (fD F)) := by rw [← hρ]; rfl
    have r9 : ρ[9]? = some (.d (.bl true)) := by rw [← hρ]; rfl
    have g1 : evE mo (call mo prog 60) (.cmp .nisN (.bor 9) (.c (.bl true))) ρ = .ok (.p (.bl false)) ρ := cmp_ev (bor_d r9) (w := .p (.bl true)) rfl rfl rfl rfl
    have g2 : evE mo (call mo prog 60) (.cmp .isN (.bor 9) (.c (.bl true))) ρ = .ok (.p (.bl true)) ρ := cmp_ev (bor_d r9) (w := .p (.bl true)) rfl rfl rfl rfl
    refine (ss_nx (if_f (or_f (and_f g1) (cmp_ev g2 hl rfl rfl rfl)) rfl)).trans ?_
    have b1 := lots_bad1 52 F hF (by omega)
    have g3 : evE mo (call mo prog 60) (.lst (.cons (.bin .shl (.c (.int 1)) (.bi .len (.cons (.bor 2) .nil))) .nil)) ρ = .ok (.f [.int (2 ^ F.length : Nat)]) ρ :=
      lst_ev (vs := [.p (.int (2 ^ F.length : Nat))]) (es_cons (v := .p (.int (2 ^ F.length : Nat))) (hi_ev hF r2) rfl) rfl rfl
    have d1 : depLe 100 (.tup [.s "view", .lst [.int (2 ^ F.length : Nat)]]) = true := by
      generalize ((2 ^ F.length : Nat) : Int) = q
      rfl
    have g4 : evE mo (call mo prog 60) (.cmp .ne (.call 37 (.cons (.var 2) (.cons (.lst (.cons (.bin .shl (.c (.int 1)) (.bi .len (.cons (.bor 2) .nil))) .nil)) .nil))) (.tup (.cons (.c (.str [118, 105, 101, 119])) (.cons (.lst (.cons (.bin .shl (.c (.int 1)) (.bi .len (.cons (.bor 2) .nil))) .nil)) .nil)))) ρ = .ok (.p (.bl false)) ρ :=
      cmp_ev (call_ev (vs := [.p (fD F), .p (.lst [.int (2 ^ F.length : Nat)])]) (as := [.a (fD F), .a (.lst [.int (2 ^ F.length : Nat)])]) (es_cons (var_d r2) (es_cons g3 rfl)) rfl rfl b1 rfl) (tup_ev (vs := [.p (.s "view"), .p (.lst [.int (2 ^ F.length : Nat)])]) (es_cons (v := .p (.s "view")) rfl (es_cons g3 rfl)) rfl rfl) rfl rfl (ne_self d1)
    refine (ss_nx (if_f (and_t hl g4 fun _ _ _ => trivial) rfl)).trans ?_
    have g5 : evE mo (call mo prog 60) (.inr false (.bi .len (.cons (.bor 2) .nil)) (.c (.int 1)) (.c (.int 5))) ρ = .ok (.p (.bl (decide (1 ≤ F.length)))) ρ := by
      refine inr_ev (len_g r2) rfl rfl ?_
      by_cases h : 1 ≤ F.length
      · rw [decide_eq_true h]; exact decide_eq_true (by omega)
      · rw [decide_eq_false h]; exact decide_eq_false (by omega)
    by_cases h1 : 1 ≤ F.length
    · rw [decide_eq_true h1] at g5
      have b2 := lots_bad2 52 F hF h1 (by omega)
      refine ss_nx (if_f (and_t g5 ?_ fun _ _ _ => trivial) rfl)
      exact cmp_ev (call_ev (vs := [.p (fD F), .p (.tup [.int 1, .int 0])]) (as := [.a (fD F), .a (.tup [.int 1, .int 0])]) (es_cons (var_d r2) rfl) rfl rfl b2 rfl) (w := .p (.tup [.s "view", .tup [.int 1, .int 0]])) rfl rfl rfl (ne_self rfl)
    · rw [decide_eq_false h1] at g5
      exact ss_nx (if_f (and_f g5) rfl)
  · have h5 : F.length = 5 := by omega
    have hw := lots_many hF h5 (th := .tup (nD (vw F m))) (N := 60) (by omega)
    refine ⟨s1, .d (.int m), .own false (nD (vw F m)), .d (.tup [.s "many", .s "fact"]), (s0 _ hw).trans ?_⟩
    have hl := hlt (.tup [.s "many", .s "fact"]) false (decide_eq_false (by omega))
    clear hlt
    generalize hρ : G sc a1 (.d (fD F)) a3 a4 a5 (.own false s1.l) (.d (.int m)) (.own false (nD (vw F m))) (.d (.tup [.s "many", .s "fact"])) .no .no .no = ρ at *
    have r2 : ρ[2]? = some (.d (fD F)) := by rw [← hρ]; rfl
    have r9 : ρ[9]? = some (.d (.tup [.s "many", .s "fact"])) := by rw [← hρ]; rfl
    have g1 : evE mo (call mo prog 60) (.cmp .nisN (.bor 9) (.c (.bl true))) ρ = .ok (.p (.bl true)) ρ := cmp_ev (bor_d r9) (w := .p (.bl true)) rfl rfl rfl rfl
    have g2 : evE mo (call mo prog 60) (.cmp .isN (.bor 9) (.c (.bl true))) ρ = .ok (.p (.bl false)) ρ := cmp_ev (bor_d r9) (w := .p (.bl true)) rfl rfl rfl rfl
    have g3 : evE mo (call mo prog 60) (.cmp .ne (.bor 9) (.tup (.cons (.c (.str [109, 97, 110, 121])) (.cons (.c (.str [102, 97, 99, 116])) .nil)))) ρ = .ok (.p (.bl false)) ρ :=
      cmp_ev (bor_d r9) (w := .p (.tup [.s "many", .s "fact"])) rfl rfl rfl (ne_self rfl)
    refine (ss_nx (if_f (or_f (and_t g1 g3 fun _ _ _ => trivial) (cmp_ev g2 hl rfl rfl rfl)) rfl)).trans ?_
    refine (ss_nx (if_f (and_f hl) rfl)).trans ?_
    refine ss_nx (if_f (and_f (inr_ev (r := false) (len_g r2) rfl rfl ?_)) rfl)
    exact decide_eq_false (by omega)
/-- the refusals -/
theorem law_refs {F : List (List Nat)} {t : Sy} (h : Over F t) (sc : D) (s : Sr) (a1 a4 a5 a7 a8 a9 : Sl) (h5 : fr a5 = true) : ∃ ρ', evSs mo (call mo prog 60) b_law_16 (G sc a1 (.d (fD F)) (.d (enc true t)) a4 a5 (.own false s.l) a7 a8 a9 .no .no .no) = .rt (.p (.bl true)) (.d sc :: ρ') := by
  have hdp := h.dp
  obtain ⟨b, mb, s1, hb⟩ := bs_ok (t := t) (s := s) (N := 60) (by omega)
  have e16 : evSs mo (call mo prog 60) b_law_16 (G sc a1 (.d (fD F)) (.d (enc true t)) a4 a5 (.own false s.l) a7 a8 a9 .no .no .no) = evSs mo (call mo prog 60) b_law_17 (G sc a1 (.d (fD F)) (.d (enc true t)) a4 a5 (.own false s1.l) a7 a8 a9 (.d b) .no .no) :=
    ss_nx (asg_ev (ρ1 := G sc a1 (.d (fD F)) (.d (enc true t)) a4 a5 (.own false s1.l) a7 a8 a9 .no .no .no) (call_ev (ρ1 := G sc a1 (.d (fD F)) (.d (enc true t)) a4 a5 (.own false s.l) a7 a8 a9 .no .no .no) (vs := [.b 6, .p (enc true t)]) (as := [.o s.l, .a (enc true t)]) rfl rfl rfl hb rfl) rfl)
  -- the view
  have lv : evE mo (call mo prog 60) (.lst (.cons (.neg (.c (.int 1))) (.cons (.bin .shl (.c (.int 1)) (.bi .len (.cons (.bor 2) .nil))) (.cons (.c (.bl true)) (.cons (.c .non) .nil))))) (G sc a1 (.d (fD F)) (.d (enc true t)) a4 a5 (.own false s1.l) a7 a8 a9 (.d b) .no .no) = .ok (.f (views F)) (G sc a1 (.d (fD F)) (.d (enc true t)) a4 a5 (.own false s1.l) a7 a8 a9 (.d b) .no .no) :=
    lst_ev (vs := [.p (.int (-1)), .p (.int (2 ^ F.length : Nat)), .p (.bl true), .p .non]) (es_cons (v := .p (.int (-1))) rfl (es_cons (v := .p (.int (2 ^ F.length : Nat))) (hi_ev h.hF rfl) rfl)) rfl rfl
  obtain ⟨p0, p1⟩ := pk_lt s1 4 (by decide)
  obtain ⟨v, hv, _, mv⟩ := item_in (xs := views F) (i := pk s1 4) p0 p1
  have e17 : evSs mo (call mo prog 60) b_law_17 (G sc a1 (.d (fD F)) (.d (enc true t)) a4 a5 (.own false s1.l) a7 a8 a9 (.d b) .no .no) = evSs mo (call mo prog 60) b_law_18 (G sc a1 (.d (fD F)) (.d (enc true t)) a4 (.d v) (.own false (nx s1 4).l) a7 a8 a9 (.d b) .no .no) :=
    ss_nx (asg_ev (ρ1 := G sc a1 (.d (fD F)) (.d (enc true t)) a4 a5 (.own false (nx s1 4).l) a7 a8 a9 (.d b) .no .no) (ix_ev lv (pick_ev (n := 59) (i := 6) (m := 4) (l := false) (s := s1) rfl rfl (by decide) (by decide)) rfl rfl hv) (put_p rfl h5))
  obtain ⟨q0, q1⟩ := pk_lt (nx s1 4) 5 (by decide)
  obtain ⟨o, ho, _, mo'⟩ := item_in (xs := odds) (i := pk (nx s1 4) 5) q0 q1
  have e18 : evSs mo (call mo prog 60) b_law_18 (G sc a1 (.d (fD F)) (.d (enc true t)) a4 (.d v) (.own false (nx s1 4).l) a7 a8 a9 (.d b) .no .no) = evSs mo (call mo prog 60) b_law_19 (G sc a1 (.d (fD F)) (.d (enc true t)) a4 (.d v) (.own false (nx (nx s1 4) 5).l) a7 a8 a9 (.d b) (.d o) .no) :=
    ss_nx (asg_ev (ρ1 := G sc a1 (.d (fD F)) (.d (enc true t)) a4 (.d v) (.own false (nx (nx s1 4) 5).l) a7 a8 a9 (.d b) .no .no) (ix_ev (v := .f odds) (ρ1 := G sc a1 (.d (fD F)) (.d (enc true t)) a4 (.d v) (.own false (nx s1 4).l) a7 a8 a9 (.d b) .no .no) rfl (pick_ev (n := 59) (i := 6) (m := 5) (l := false) (s := nx s1 4) rfl rfl (by decide) (by decide)) rfl rfl ho) rfl)
  have c1 : call mo prog 60 36 [.a o, .a b, .a v] = .ok (.p (.tup [.s "facts", o, .bl true, .bl false])) [] := (call_s 59 36 _ F__law_refused rfl).trans (rf4 (hi_facts (n := 52) mo'))
  have c2 : call mo prog 60 36 [.a (fD F), .a b, .a v] = .ok (.p (.tup [.s "saying", b, .bl true, .bl false])) [] := (call_s 59 36 _ F__law_refused rfl).trans (rf3 (hi_bad (N := 58) h.hF (by omega) (bad_chk h.nm h.dp b mb 58 (by omega))))
  have zz : tx "zz" ∉ F := by
    have : ∀ F ∈ Fs, tx "zz" ∉ F := fs_ind (by decide) (by decide) (by decide) (by decide) (by decide) (by decide) (by decide) (by decide) (by decide) (by decide)
    exact this F h.hF
  have okz : Ok (.or .yes (.fact (tx "zz"))) := ⟨by intro x hx; simp only [met, List.nil_append, List.mem_singleton] at hx; rw [hx]; decide, by decide, by decide⟩
  have c3 : call mo prog 60 36 [.a (fD F), .a (enc true (.or .yes (.fact (tx "zz")))), .a v] = .ok (.p (.tup [.s "unknown", .s "zz", .bl true, .bl false])) [] := (call_s 59 36 _ F__law_refused rfl).trans (rf7 (hi_unk (N := 59) h.hF okz (x := tx "zz") (r := []) rfl zz (by simp only [dp]; omega)))
  have c4 : call mo prog 60 36 [.a (fD F), .a (enc true t), .a v] = .ok (.p (.tup [.s "view", v, .bl true, .bl false])) [] := (call_s 59 36 _ F__law_refused rfl).trans (rf5 (hi_view (N := 59) h mv (by omega)))
  have d1 := odd_dep o mo'
  have d2 := bad_dep h.dp b mb
  have d4 := view_dep v mv
  generalize nx (nx s1 4) 5 = s3 at e18
  refine ⟨[a1, .d (fD F), .d (enc true t), a4, .d v, .own false s3.l, a7, a8, a9, .d b, .d o, .no], e16.trans (e17.trans (e18.trans ?_))⟩
  refine (ss_nx (ρ1 := G sc a1 (.d (fD F)) (.d (enc true t)) a4 (.d v) (.own false s3.l) a7 a8 a9 (.d b) (.d o) .no) (if_f (cmp_ev (call_ev (vs := [.p o, .p b, .p v]) (as := [.a o, .a b, .a v]) rfl rfl rfl c1 rfl) (w := .p (.tup [.s "facts", o, .bl true, .bl false])) rfl rfl rfl (ne_self (ref_self d1))) rfl)).trans ?_
  refine (ss_nx (ρ1 := G sc a1 (.d (fD F)) (.d (enc true t)) a4 (.d v) (.own false s3.l) a7 a8 a9 (.d b) (.d o) .no) (if_f (cmp_ev (call_ev (vs := [.p (fD F), .p b, .p v]) (as := [.a (fD F), .a b, .a v]) rfl rfl rfl c2 rfl) (w := .p (.tup [.s "saying", b, .bl true, .bl false])) rfl rfl rfl (ne_self (ref_self d2))) rfl)).trans ?_
  refine (ss_nx (ρ1 := G sc a1 (.d (fD F)) (.d (enc true t)) a4 (.d v) (.own false s3.l) a7 a8 a9 (.d b) (.d o) .no) (if_f (cmp_ev (call_ev (vs := [.p (fD F), .p (enc true (.or .yes (.fact (tx "zz")))), .p v]) (as := [.a (fD F), .a (enc true (.or .yes (.fact (tx "zz")))), .a v]) rfl rfl rfl c3 rfl) (w := .p (.tup [.s "unknown", .s "zz", .bl true, .bl false])) rfl rfl rfl (ne_self (ref_self rfl))) rfl)).trans ?_
  refine ss_rt (ret_ev (cmp_ev (call_ev (vs := [.p (fD F), .p (enc true t), .p v]) (as := [.a (fD F), .a (enc true t), .a v]) rfl rfl rfl c4 rfl) (w := .p (.tup [.s "view", v, .bl true, .bl false])) rfl rfl rfl ?_) (by intro i h; cases h) (by intro i h; cases h))
  have dv := ref_self (k := tx "view") (a := true) (b := false) d4
  unfold cmpD
  simp only [dv, beq_self dv, Bool.and_self, if_true]
theorem law_true (ns : List Int) (hl : ns.length ≤ 63) (hb : ∀ z ∈ ns, z.natAbs.log2 < 2000000) : call mo prog 61 n_law [.a (.lst (ns.map D.int))] = .ok (.p (.bl true)) [] := by
  obtain ⟨F, hF, s, h1⟩ := law_facts ns hb
  obtain ⟨t, s2, ho, h2⟩ := law_said hF (.lst (ns.map D.int)) s
  obtain ⟨a5, f5, h3⟩ := law_views ho (.lst (ns.map D.int)) (.own false s2.l)
  obtain ⟨s3, a7, a8, a9, h4⟩ := law_lots ns hb hF (.own false s2.l) (.d (enc true t)) (.own false (nD (vw F (msk F t)))) a5
  obtain ⟨ρ', h5⟩ := law_refs ho (.lst (ns.map D.int)) s3 (.own false s2.l) (.own false (nD (vw F (msk F t)))) a5 a7 a8 a9 f5
  rw [show n_law = 38 from rfl, call_s _ _ _ F_law rfl]
  exact run0 (ρ0 := G (.lst (ns.map D.int)) .no .no .no .no .no .no .no .no .no .no .no .no) (h1.trans (h2.trans (h3.trans (h4.trans h5)))) rfl rfl (by intro i h; cases h) rfl
end K01
end
section
namespace K01
open PySem L2 Cz Cs PyProof.Rows
def top (i : Nat) : Stmt := PySem.Challenge.pw_eachpicks_k01_whole_sayings_in_views.main.body.getD i (.Pass ⟨0, 0, 0, 0⟩)
def T : Tab := {
  defs := [(("is_integer" : Str), 0, 3), (("is_listed" : Str), 1, 1), (("is_letters" : Str), 2, 1), (("is_name" : Str), 3, 1), (("is_names" : Str), 4, 1), (("checked_facts" : Str), 5, 1), (("is_ascending" : Str), 6, 3), (("mask_of" : Str), 7, 1), (("bits_of" : Str), 8, 1), (("told_saying" : Str), 9, 3), (("saying_or_none" : Str), 10, 1), (("checked_saying" : Str), 11, 1), (("facts_met" : Str), 12, 1), (("facts_of" : Str), 13, 1), (("check_known" : Str), 14, 2), (("fact_mask" : Str), 15, 2), (("view_mask" : Str), 16, 2), (("mask_over" : Str), 17, 2), (("check_view" : Str), 18, 2), (("holds_in" : Str), 19, 3), (("views_of" : Str), 20, 2), (("either_of" : Str), 21, 3), (("saying_for" : Str), 22, 2), (("saying_of" : Str), 23, 2), (("_law_source" : Str), 24, 2), (("_law_pick" : Str), 25, 2), (("_law_say" : Str), 26, 3), (("_law_mask" : Str), 27, 2), (("_law_true" : Str), 28, 3), (("_law_bits" : Str), 29, 1), (("_law_met" : Str), 30, 1), (("_law_lists" : Str), 31, 1), (("_law_size" : Str), 32, 3), (("_law_wide" : Str), 33, 1), (("_law_high" : Str), 34, 1), (("_law_bad_say" : Str), 35, 2), (("_law_refused" : Str), 36, 3), (("_law_lots" : Str), 37, 2), (("law" : Str), 38, 1)]
  cons := [("WORDS", 0), ("MOST_FACTS", 1), ("LONGEST_NAME", 2), ("MOST_TUPLES", 3), ("DEEPEST", 4), ("MOST_SAID", 5), ("ARMS", 6)]
  cls := [("DealsError", 0), ("WrongThing", 1), ("WrongNumber", 2), ("BadSaying", 3), ("BadFacts", 4), ("BadView", 5), ("TooMany", 6), ("Unknown", 7)]
  mks := [("WrongThing", 1), ("WrongNumber", 2), ("BadSaying", 3), ("BadFacts", 4), ("BadView", 5), ("TooMany", 6), ("Unknown", 7)]
  fld := [("thing", 0), ("number", 1), ("word", 2), ("name", 3)] }
def N_is_integer : List Str := ["thing", "low", "high"]
theorem ok_is_integer : okSs ⟨T, N_is_integer, defScope (top 13), defScope (top 13)⟩ b_is_integer (defBody (top 13)) = true := by decide +kernel
theorem sc_is_integer : scB N_is_integer ["thing", "low", "high"] (defScope (top 13)) = true := by decide +kernel
def N_is_listed : List Str := ["thing"]
theorem ok_is_listed : okSs ⟨T, N_is_listed, defScope (top 14), defScope (top 14)⟩ b_is_listed (defBody (top 14)) = true := by decide +kernel
theorem sc_is_listed : scB N_is_listed ["thing"] (defScope (top 14)) = true := by decide +kernel
def N_is_letters : List Str := ["thing", "letter"]
theorem ok_is_letters : okSs ⟨T, N_is_letters, defScope (top 15), defScope (top 15)⟩ b_is_letters (defBody (top 15)) = true := by decide +kernel
theorem sc_is_letters : scB N_is_letters ["thing"] (defScope (top 15)) = true := by decide +kernel
def N_is_name : List Str := ["thing"]
theorem ok_is_name : okSs ⟨T, N_is_name, defScope (top 16), defScope (top 16)⟩ b_is_name (defBody (top 16)) = true := by decide +kernel
theorem sc_is_name : scB N_is_name ["thing"] (defScope (top 16)) = true := by decide +kernel
def N_is_names : List Str := ["thing", "number", "item"]
theorem ok_is_names : okSs ⟨T, N_is_names, defScope (top 17), defScope (top 17)⟩ b_is_names (defBody (top 17)) = true := by decide +kernel
theorem sc_is_names : scB N_is_names ["thing"] (defScope (top 17)) = true := by decide +kernel
def N_checked_facts : List Str := ["thing"]
theorem ok_checked_facts : okSs ⟨T, N_checked_facts, defScope (top 18), defScope (top 18)⟩ b_checked_facts (defBody (top 18)) = true := by decide +kernel
theorem sc_checked_facts : scB N_checked_facts ["thing"] (defScope (top 18)) = true := by decide +kernel
def N_is_ascending : List Str := ["thing", "low", "high", "number", "item"]
theorem ok_is_ascending : okSs ⟨T, N_is_ascending, defScope (top 19), defScope (top 19)⟩ b_is_ascending (defBody (top 19)) = true := by decide +kernel
theorem sc_is_ascending : scB N_is_ascending ["thing", "low", "high"] (defScope (top 19)) = true := by decide +kernel
def N_mask_of : List Str := ["numbers", "told", "number"]
theorem ok_mask_of : okSs ⟨T, N_mask_of, defScope (top 20), defScope (top 20)⟩ b_mask_of (defBody (top 20)) = true := by decide +kernel
theorem sc_mask_of : scB N_mask_of ["numbers"] (defScope (top 20)) = true := by decide +kernel
def N_bits_of : List Str := ["mask", "told", "rest", "low"]
theorem ok_bits_of : okSs ⟨T, N_bits_of, defScope (top 21), defScope (top 21)⟩ b_bits_of (defBody (top 21)) = true := by decide +kernel
theorem sc_bits_of : scB N_bits_of ["mask"] (defScope (top 21)) = true := by decide +kernel
def N_told_saying : List Str := ["thing", "depth", "room", "kind", "told", "left", "arm", "found"]
theorem ok_told_saying : okSs ⟨T, N_told_saying, defScope (top 27), defScope (top 27)⟩ b_told_saying (defBody (top 27)) = true := by decide +kernel
theorem sc_told_saying : scB N_told_saying ["thing", "depth", "room"] (defScope (top 27)) = true := by decide +kernel
def N_saying_or_none : List Str := ["thing", "found"]
theorem ok_saying_or_none : okSs ⟨T, N_saying_or_none, defScope (top 28), defScope (top 28)⟩ b_saying_or_none (defBody (top 28)) = true := by decide +kernel
theorem sc_saying_or_none : scB N_saying_or_none ["thing"] (defScope (top 28)) = true := by decide +kernel
def N_checked_saying : List Str := ["thing", "told"]
theorem ok_checked_saying : okSs ⟨T, N_checked_saying, defScope (top 29), defScope (top 29)⟩ b_checked_saying (defBody (top 29)) = true := by decide +kernel
theorem sc_checked_saying : scB N_checked_saying ["thing"] (defScope (top 29)) = true := by decide +kernel
def N_facts_met : List Str := ["saying", "arm", "name"]
theorem ok_facts_met : okSs ⟨T, N_facts_met, defScope (top 30), defScope (top 30)⟩ b_facts_met (defBody (top 30)) = true := by decide +kernel
theorem sc_facts_met : scB N_facts_met ["saying"] (defScope (top 30)) = true := by decide +kernel
def N_facts_of : List Str := ["saying"]
theorem ok_facts_of : okSs ⟨T, N_facts_of, defScope (top 31), defScope (top 31)⟩ b_facts_of (defBody (top 31)) = true := by decide +kernel
theorem sc_facts_of : scB N_facts_of ["saying"] (defScope (top 31)) = true := by decide +kernel
def N_check_known : List Str := ["facts", "saying", "name"]
theorem ok_check_known : okSs ⟨T, N_check_known, defScope (top 32), defScope (top 32)⟩ b_check_known (defBody (top 32)) = true := by decide +kernel
theorem sc_check_known : scB N_check_known ["facts", "saying"] (defScope (top 32)) = true := by decide +kernel
def N_fact_mask : List Str := ["many", "number", "view"]
theorem ok_fact_mask : okSs ⟨T, N_fact_mask, defScope (top 33), defScope (top 33)⟩ b_fact_mask (defBody (top 33)) = true := by decide +kernel
theorem sc_fact_mask : scB N_fact_mask ["many", "number"] (defScope (top 33)) = true := by decide +kernel
def N_view_mask : List Str := ["facts", "saying", "kind", "every"]
theorem ok_view_mask : okSs ⟨T, N_view_mask, defScope (top 34), defScope (top 34)⟩ b_view_mask (defBody (top 34)) = true := by decide +kernel
theorem sc_view_mask : scB N_view_mask ["facts", "saying"] (defScope (top 34)) = true := by decide +kernel
def N_mask_over : List Str := ["facts", "saying"]
theorem ok_mask_over : okSs ⟨T, N_mask_over, defScope (top 35), defScope (top 35)⟩ b_mask_over (defBody (top 35)) = true := by decide +kernel
theorem sc_mask_over : scB N_mask_over ["facts", "saying"] (defScope (top 35)) = true := by decide +kernel
def N_check_view : List Str := ["facts", "view"]
theorem ok_check_view : okSs ⟨T, N_check_view, defScope (top 36), defScope (top 36)⟩ b_check_view (defBody (top 36)) = true := by decide +kernel
theorem sc_check_view : scB N_check_view ["facts", "view"] (defScope (top 36)) = true := by decide +kernel
def N_holds_in : List Str := ["facts", "saying", "view", "names", "mask"]
theorem ok_holds_in : okSs ⟨T, N_holds_in, defScope (top 37), defScope (top 37)⟩ b_holds_in (defBody (top 37)) = true := by decide +kernel
theorem sc_holds_in : scB N_holds_in ["facts", "saying", "view"] (defScope (top 37)) = true := by decide +kernel
def N_views_of : List Str := ["facts", "saying", "names"]
theorem ok_views_of : okSs ⟨T, N_views_of, defScope (top 38), defScope (top 38)⟩ b_views_of (defBody (top 38)) = true := by decide +kernel
theorem sc_views_of : scB N_views_of ["facts", "saying"] (defScope (top 38)) = true := by decide +kernel
def N_either_of : List Str := ["name", "low", "high", "back"]
theorem ok_either_of : okSs ⟨T, N_either_of, defScope (top 39), defScope (top 39)⟩ b_either_of (defBody (top 39)) = true := by decide +kernel
theorem sc_either_of : scB N_either_of ["name", "low", "high"] (defScope (top 39)) = true := by decide +kernel
def N_saying_for : List Str := ["facts", "mask", "every", "half", "low", "high"]
theorem ok_saying_for : okSs ⟨T, N_saying_for, defScope (top 40), defScope (top 40)⟩ b_saying_for (defBody (top 40)) = true := by decide +kernel
theorem sc_saying_for : scB N_saying_for ["facts", "mask"] (defScope (top 40)) = true := by decide +kernel
def N_saying_of : List Str := ["facts", "views", "names"]
theorem ok_saying_of : okSs ⟨T, N_saying_of, defScope (top 41), defScope (top 41)⟩ b_saying_of (defBody (top 41)) = true := by decide +kernel
theorem sc_saying_of : scB N_saying_of ["facts", "views"] (defScope (top 41)) = true := by decide +kernel
def N__law_source : List Str := ["script", "place", "cell", "seed", "one", "number"]
theorem ok__law_source : okSs ⟨T, N__law_source, defScope (top 43), defScope (top 43)⟩ b__law_source (defBody (top 43)) = true := by decide +kernel
theorem sc__law_source : scB N__law_source ["script", "place"] (defScope (top 43)) = true := by decide +kernel
def N__law_pick : List Str := ["source", "many", "mixed", "digit"]
theorem ok__law_pick : okSs ⟨T, N__law_pick, defScope (top 44), defScope (top 44)⟩ b__law_pick (defBody (top 44)) = true := by decide +kernel
theorem sc__law_pick : scB N__law_pick ["source", "many"] (defScope (top 44)) = true := by decide +kernel
def N__law_say : List Str := ["source", "facts", "depth", "kind", "one"]
theorem ok__law_say : okSs ⟨T, N__law_say, defScope (top 45), defScope (top 45)⟩ b__law_say (defBody (top 45)) = true := by decide +kernel
theorem sc__law_say : scB N__law_say ["source", "facts", "depth"] (defScope (top 45)) = true := by decide +kernel
def N__law_mask : List Str := ["facts", "said", "every", "one", "k", "view"]
theorem ok__law_mask : okSs ⟨T, N__law_mask, defScope (top 46), defScope (top 46)⟩ b__law_mask (defBody (top 46)) = true := by decide +kernel
theorem sc__law_mask : scB N__law_mask ["facts", "said"] (defScope (top 46)) = true := by decide +kernel
def N__law_true : List Str := ["facts", "said", "view"]
theorem ok__law_true : okSs ⟨T, N__law_true, defScope (top 47), defScope (top 47)⟩ b__law_true (defBody (top 47)) = true := by decide +kernel
theorem sc__law_true : scB N__law_true ["facts", "said", "view"] (defScope (top 47)) = true := by decide +kernel
def N__law_bits : List Str := ["mask", "k"]
theorem ok__law_bits : okSs ⟨T, N__law_bits, defScope (top 48), defScope (top 48)⟩ b__law_bits (defBody (top 48)) = true := by decide +kernel
theorem sc__law_bits : scB N__law_bits ["mask"] (defScope (top 48)) = true := by decide +kernel
def N__law_met : List Str := ["said", "told", "arm"]
theorem ok__law_met : okSs ⟨T, N__law_met, defScope (top 49), defScope (top 49)⟩ b__law_met (defBody (top 49)) = true := by decide +kernel
theorem sc__law_met : scB N__law_met ["said"] (defScope (top 49)) = true := by decide +kernel
def N__law_lists : List Str := ["thing", "one"]
theorem ok__law_lists : okSs ⟨T, N__law_lists, defScope (top 50), defScope (top 50)⟩ b__law_lists (defBody (top 50)) = true := by decide +kernel
theorem sc__law_lists : scB N__law_lists ["thing"] (defScope (top 50)) = true := by decide +kernel
def N__law_size : List Str := ["thing", "facts", "depth", "told", "arm", "many"]
theorem ok__law_size : okSs ⟨T, N__law_size, defScope (top 51), defScope (top 51)⟩ b__law_size (defBody (top 51)) = true := by decide +kernel
theorem sc__law_size : scB N__law_size ["thing", "facts", "depth"] (defScope (top 51)) = true := by decide +kernel
def N__law_wide : List Str := ["many", "half"]
theorem ok__law_wide : okSs ⟨T, N__law_wide, defScope (top 52), defScope (top 52)⟩ b__law_wide (defBody (top 52)) = true := by decide +kernel
theorem sc__law_wide : scB N__law_wide ["many"] (defScope (top 52)) = true := by decide +kernel
def N__law_high : List Str := ["many", "told", "k"]
theorem ok__law_high : okSs ⟨T, N__law_high, defScope (top 53), defScope (top 53)⟩ b__law_high (defBody (top 53)) = true := by decide +kernel
theorem sc__law_high : scB N__law_high ["many"] (defScope (top 53)) = true := by decide +kernel
def N__law_bad_say : List Str := ["source", "said", "menu"]
theorem ok__law_bad_say : okSs ⟨T, N__law_bad_say, defScope (top 54), defScope (top 54)⟩ b__law_bad_say (defBody (top 54)) = true := by decide +kernel
theorem sc__law_bad_say : scB N__law_bad_say ["source", "said"] (defScope (top 54)) = true := by decide +kernel
def N__law_refused : List Str := ["facts", "said", "view", "error"]
theorem ok__law_refused : okSs ⟨T, N__law_refused, defScope (top 55), defScope (top 55)⟩ b__law_refused (defBody (top 55)) = true := by decide +kernel
theorem sc__law_refused : scB N__law_refused ["facts", "said", "view"] (defScope (top 55)) = true := by decide +kernel
def N__law_lots : List Str := ["facts", "numbers", "error", "told", "view"]
theorem ok__law_lots : okSs ⟨T, N__law_lots, defScope (top 56), defScope (top 56)⟩ b__law_lots (defBody (top 56)) = true := by decide +kernel
theorem sc__law_lots : scB N__law_lots ["facts", "numbers"] (defScope (top 56)) = true := by decide +kernel
def N_law : List Str := ["script", "source", "facts", "said", "due", "view", "other", "number", "lot", "told", "bad", "odd", "k"]
theorem ok_law : okSs ⟨T, N_law, defScope (top 57), defScope (top 57)⟩ b_law (defBody (top 57)) = true := by decide +kernel
theorem sc_law : scB N_law ["script"] (defScope (top 57)) = true := by decide +kernel
def xn : List (Str × Str) := [("DealsError", "thing"), ("WrongThing", "thing"), ("WrongNumber", "number"), ("BadSaying", "thing"), ("BadFacts", "thing"), ("BadView", "thing"), ("TooMany", "word"), ("Unknown", "name")]
def init_WrongThing : Stmt := inCls (top 2) 0
theorem il_WrongThing : InitL 0 "thing" init_WrongThing := ⟨⟨_, _, _, _, _, _, _, _, _, _, _, _, rfl, by decide +kernel, rfl, ⟨_, rfl, rfl⟩, by decide +kernel, rfl, rfl, by decide, by decide, by decide, by decide, fun _ _ _ _ _ _ us hl => match us, hl with | [_, _], _ => rfl⟩⟩
def init_WrongNumber : Stmt := inCls (top 3) 0
theorem il_WrongNumber : InitL 1 "number" init_WrongNumber := ⟨⟨_, _, _, _, _, _, _, _, _, _, _, _, rfl, by decide +kernel, rfl, ⟨_, rfl, rfl⟩, by decide +kernel, rfl, rfl, by decide, by decide, by decide, by decide, fun _ _ _ _ _ _ us hl => match us, hl with | [_, _], _ => rfl⟩⟩
def init_TooMany : Stmt := inCls (top 7) 0
theorem il_TooMany : InitL 2 "word" init_TooMany := ⟨⟨_, _, _, _, _, _, _, _, _, _, _, _, rfl, by decide +kernel, rfl, ⟨_, rfl, rfl⟩, by decide +kernel, rfl, rfl, by decide, by decide, by decide, by decide, fun _ _ _ _ _ _ us hl => match us, hl with | [_, _], _ => rfl⟩⟩
def init_Unknown : Stmt := inCls (top 8) 0
theorem il_Unknown : InitL 2 "name" init_Unknown := ⟨⟨_, _, _, _, _, _, _, _, _, _, _, _, rfl, by decide +kernel, rfl, ⟨_, rfl, rfl⟩, by decide +kernel, rfl, rfl, by decide, by decide, by decide, by decide, fun _ _ _ _ _ _ us hl => match us, hl with | [_, _], _ => rfl⟩⟩
section
variable {K : PySem.W.Frag}
theorem d_is_integer (h : fnR K (gAt K "is_integer") = stR "is_integer" (top 13)) : DefP T prog K "is_integer" 0 ["thing", "low", "high"] := ⟨top 13, N_is_integer, F_is_integer, h, sc_is_integer, rfl, rfl, by decide, ok_is_integer, rfl, fun _ _ _ _ _ _ us hl => match us, hl with | [_, _, _], _ => rfl⟩
theorem d_is_listed (h : fnR K (gAt K "is_listed") = stR "is_listed" (top 14)) : DefP T prog K "is_listed" 1 ["thing"] := ⟨top 14, N_is_listed, F_is_listed, h, sc_is_listed, rfl, rfl, by decide, ok_is_listed, rfl, fun _ _ _ _ _ _ us hl => match us, hl with | [_], _ => rfl⟩
theorem d_is_letters (h : fnR K (gAt K "is_letters") = stR "is_letters" (top 15)) : DefP T prog K "is_letters" 2 ["thing"] := ⟨top 15, N_is_letters, F_is_letters, h, sc_is_letters, rfl, rfl, by decide, ok_is_letters, rfl, fun _ _ _ _ _ _ us hl => match us, hl with | [_], _ => rfl⟩
theorem d_is_name (h : fnR K (gAt K "is_name") = stR "is_name" (top 16)) : DefP T prog K "is_name" 3 ["thing"] := ⟨top 16, N_is_name, F_is_name, h, sc_is_name, rfl, rfl, by decide, ok_is_name, rfl, fun _ _ _ _ _ _ us hl => match us, hl with | [_], _ => rfl⟩
theorem d_is_names (h : fnR K (gAt K "is_names") = stR "is_names" (top 17)) : DefP T prog K "is_names" 4 ["thing"] := ⟨top 17, N_is_names, F_is_names, h, sc_is_names, rfl, rfl, by decide, ok_is_names, rfl, fun _ _ _ _ _ _ us hl => match us, hl with | [_], _ => rfl⟩
theorem d_checked_facts (h : fnR K (gAt K "checked_facts") = stR "checked_facts" (top 18)) : DefP T prog K "checked_facts" 5 ["thing"] := ⟨top 18, N_checked_facts, F_checked_facts, h, sc_checked_facts, rfl, rfl, by decide, ok_checked_facts, rfl, fun _ _ _ _ _ _ us hl => match us, hl with | [_], _ => rfl⟩
theorem d_is_ascending (h : fnR K (gAt K "is_ascending") = stR "is_ascending" (top 19)) : DefP T prog K "is_ascending" 6 ["thing", "low", "high"] := ⟨top 19, N_is_ascending, F_is_ascending, h, sc_is_ascending, rfl, rfl, by decide, ok_is_ascending, rfl, fun _ _ _ _ _ _ us hl => match us, hl with | [_, _, _], _ => rfl⟩
theorem d_mask_of (h : fnR K (gAt K "mask_of") = stR "mask_of" (top 20)) : DefP T prog K "mask_of" 7 ["numbers"] := ⟨top 20, N_mask_of, F_mask_of, h, sc_mask_of, rfl, rfl, by decide, ok_mask_of, rfl, fun _ _ _ _ _ _ us hl => match us, hl with | [_], _ => rfl⟩
theorem d_bits_of (h : fnR K (gAt K "bits_of") = stR "bits_of" (top 21)) : DefP T prog K "bits_of" 8 ["mask"] := ⟨top 21, N_bits_of, F_bits_of, h, sc_bits_of, rfl, rfl, by decide, ok_bits_of, rfl, fun _ _ _ _ _ _ us hl => match us, hl with | [_], _ => rfl⟩
theorem d_told_saying (h : fnR K (gAt K "told_saying") = stR "told_saying" (top 27)) : DefP T prog K "told_saying" 9 ["thing", "depth", "room"] := ⟨top 27, N_told_saying, F_told_saying, h, sc_told_saying, rfl, rfl, by decide, ok_told_saying, rfl, fun _ _ _ _ _ _ us hl => match us, hl with | [_, _, _], _ => rfl⟩
theorem d_saying_or_none (h : fnR K (gAt K "saying_or_none") = stR "saying_or_none" (top 28)) : DefP T prog K "saying_or_none" 10 ["thing"] := ⟨top 28, N_saying_or_none, F_saying_or_none, h, sc_saying_or_none, rfl, rfl, by decide, ok_saying_or_none, rfl, fun _ _ _ _ _ _ us hl => match us, hl with | [_], _ => rfl⟩
theorem d_checked_saying (h : fnR K (gAt K "checked_saying") = stR "checked_saying" (top 29)) : DefP T prog K "checked_saying" 11 ["thing"] := ⟨top 29, N_checked_saying, F_checked_saying, h, sc_checked_saying, rfl, rfl, by decide, ok_checked_saying, rfl, fun _ _ _ _ _ _ us hl => match us, hl with | [_], _ => rfl⟩
theorem d_facts_met (h : fnR K (gAt K "facts_met") = stR "facts_met" (top 30)) : DefP T prog K "facts_met" 12 ["saying"] := ⟨top 30, N_facts_met, F_facts_met, h, sc_facts_met, rfl, rfl, by decide, ok_facts_met, rfl, fun _ _ _ _ _ _ us hl => match us, hl with | [_], _ => rfl⟩
theorem d_facts_of (h : fnR K (gAt K "facts_of") = stR "facts_of" (top 31)) : DefP T prog K "facts_of" 13 ["saying"] := ⟨top 31, N_facts_of, F_facts_of, h, sc_facts_of, rfl, rfl, by decide, ok_facts_of, rfl, fun _ _ _ _ _ _ us hl => match us, hl with | [_], _ => rfl⟩
theorem d_check_known (h : fnR K (gAt K "check_known") = stR "check_known" (top 32)) : DefP T prog K "check_known" 14 ["facts", "saying"] := ⟨top 32, N_check_known, F_check_known, h, sc_check_known, rfl, rfl, by decide, ok_check_known, rfl, fun _ _ _ _ _ _ us hl => match us, hl with | [_, _], _ => rfl⟩
theorem d_fact_mask (h : fnR K (gAt K "fact_mask") = stR "fact_mask" (top 33)) : DefP T prog K "fact_mask" 15 ["many", "number"] := ⟨top 33, N_fact_mask, F_fact_mask, h, sc_fact_mask, rfl, rfl, by decide, ok_fact_mask, rfl, fun _ _ _ _ _ _ us hl => match us, hl with | [_, _], _ => rfl⟩
theorem d_view_mask (h : fnR K (gAt K "view_mask") = stR "view_mask" (top 34)) : DefP T prog K "view_mask" 16 ["facts", "saying"] := ⟨top 34, N_view_mask, F_view_mask, h, sc_view_mask, rfl, rfl, by decide, ok_view_mask, rfl, fun _ _ _ _ _ _ us hl => match us, hl with | [_, _], _ => rfl⟩
theorem d_mask_over (h : fnR K (gAt K "mask_over") = stR "mask_over" (top 35)) : DefP T prog K "mask_over" 17 ["facts", "saying"] := ⟨top 35, N_mask_over, F_mask_over, h, sc_mask_over, rfl, rfl, by decide, ok_mask_over, rfl, fun _ _ _ _ _ _ us hl => match us, hl with | [_, _], _ => rfl⟩
theorem d_check_view (h : fnR K (gAt K "check_view") = stR "check_view" (top 36)) : DefP T prog K "check_view" 18 ["facts", "view"] := ⟨top 36, N_check_view, F_check_view, h, sc_check_view, rfl, rfl, by decide, ok_check_view, rfl, fun _ _ _ _ _ _ us hl => match us, hl with | [_, _], _ => rfl⟩
theorem d_holds_in (h : fnR K (gAt K "holds_in") = stR "holds_in" (top 37)) : DefP T prog K "holds_in" 19 ["facts", "saying", "view"] := ⟨top 37, N_holds_in, F_holds_in, h, sc_holds_in, rfl, rfl, by decide, ok_holds_in, rfl, fun _ _ _ _ _ _ us hl => match us, hl with | [_, _, _], _ => rfl⟩
theorem d_views_of (h : fnR K (gAt K "views_of") = stR "views_of" (top 38)) : DefP T prog K "views_of" 20 ["facts", "saying"] := ⟨top 38, N_views_of, F_views_of, h, sc_views_of, rfl, rfl, by decide, ok_views_of, rfl, fun _ _ _ _ _ _ us hl => match us, hl with | [_, _], _ => rfl⟩
theorem d_either_of (h : fnR K (gAt K "either_of") = stR "either_of" (top 39)) : DefP T prog K "either_of" 21 ["name", "low", "high"] := ⟨top 39, N_either_of, F_either_of, h, sc_either_of, rfl, rfl, by decide, ok_either_of, rfl, fun _ _ _ _ _ _ us hl => match us, hl with | [_, _, _], _ => rfl⟩
theorem d_saying_for (h : fnR K (gAt K "saying_for") = stR "saying_for" (top 40)) : DefP T prog K "saying_for" 22 ["facts", "mask"] := ⟨top 40, N_saying_for, F_saying_for, h, sc_saying_for, rfl, rfl, by decide, ok_saying_for, rfl, fun _ _ _ _ _ _ us hl => match us, hl with | [_, _], _ => rfl⟩
theorem d_saying_of (h : fnR K (gAt K "saying_of") = stR "saying_of" (top 41)) : DefP T prog K "saying_of" 23 ["facts", "views"] := ⟨top 41, N_saying_of, F_saying_of, h, sc_saying_of, rfl, rfl, by decide, ok_saying_of, rfl, fun _ _ _ _ _ _ us hl => match us, hl with | [_, _], _ => rfl⟩
theorem d__law_source (h : fnR K (gAt K "_law_source") = stR "_law_source" (top 43)) : DefP T prog K "_law_source" 24 ["script", "place"] := ⟨top 43, N__law_source, F__law_source, h, sc__law_source, rfl, rfl, by decide, ok__law_source, rfl, fun _ _ _ _ _ _ us hl => match us, hl with | [_, _], _ => rfl⟩
theorem d__law_pick (h : fnR K (gAt K "_law_pick") = stR "_law_pick" (top 44)) : DefP T prog K "_law_pick" 25 ["source", "many"] := ⟨top 44, N__law_pick, F__law_pick, h, sc__law_pick, rfl, rfl, by decide, ok__law_pick, rfl, fun _ _ _ _ _ _ us hl => match us, hl with | [_, _], _ => rfl⟩
theorem d__law_say (h : fnR K (gAt K "_law_say") = stR "_law_say" (top 45)) : DefP T prog K "_law_say" 26 ["source", "facts", "depth"] := ⟨top 45, N__law_say, F__law_say, h, sc__law_say, rfl, rfl, by decide, ok__law_say, rfl, fun _ _ _ _ _ _ us hl => match us, hl with | [_, _, _], _ => rfl⟩
theorem d__law_mask (h : fnR K (gAt K "_law_mask") = stR "_law_mask" (top 46)) : DefP T prog K "_law_mask" 27 ["facts", "said"] := ⟨top 46, N__law_mask, F__law_mask, h, sc__law_mask, rfl, rfl, by decide, ok__law_mask, rfl, fun _ _ _ _ _ _ us hl => match us, hl with | [_, _], _ => rfl⟩
theorem d__law_true (h : fnR K (gAt K "_law_true") = stR "_law_true" (top 47)) : DefP T prog K "_law_true" 28 ["facts", "said", "view"] := ⟨top 47, N__law_true, F__law_true, h, sc__law_true, rfl, rfl, by decide, ok__law_true, rfl, fun _ _ _ _ _ _ us hl => match us, hl with | [_, _, _], _ => rfl⟩
theorem d__law_bits (h : fnR K (gAt K "_law_bits") = stR "_law_bits" (top 48)) : DefP T prog K "_law_bits" 29 ["mask"] := ⟨top 48, N__law_bits, F__law_bits, h, sc__law_bits, rfl, rfl, by decide, ok__law_bits, rfl, fun _ _ _ _ _ _ us hl => match us, hl with | [_], _ => rfl⟩
theorem d__law_met (h : fnR K (gAt K "_law_met") = stR "_law_met" (top 49)) : DefP T prog K "_law_met" 30 ["said"] := ⟨top 49, N__law_met, F__law_met, h, sc__law_met, rfl, rfl, by decide, ok__law_met, rfl, fun _ _ _ _ _ _ us hl => match us, hl with | [_], _ => rfl⟩
theorem d__law_lists (h : fnR K (gAt K "_law_lists") = stR "_law_lists" (top 50)) : DefP T prog K "_law_lists" 31 ["thing"] := ⟨top 50, N__law_lists, F__law_lists, h, sc__law_lists, rfl, rfl, by decide, ok__law_lists, rfl, fun _ _ _ _ _ _ us hl => match us, hl with | [_], _ => rfl⟩
theorem d__law_size (h : fnR K (gAt K "_law_size") = stR "_law_size" (top 51)) : DefP T prog K "_law_size" 32 ["thing", "facts", "depth"] := ⟨top 51, N__law_size, F__law_size, h, sc__law_size, rfl, rfl, by decide, ok__law_size, rfl, fun _ _ _ _ _ _ us hl => match us, hl with | [_, _, _], _ => rfl⟩
theorem d__law_wide (h : fnR K (gAt K "_law_wide") = stR "_law_wide" (top 52)) : DefP T prog K "_law_wide" 33 ["many"] := ⟨top 52, N__law_wide, F__law_wide, h, sc__law_wide, rfl, rfl, by decide, ok__law_wide, rfl, fun _ _ _ _ _ _ us hl => match us, hl with | [_], _ => rfl⟩
theorem d__law_high (h : fnR K (gAt K "_law_high") = stR "_law_high" (top 53)) : DefP T prog K "_law_high" 34 ["many"] := ⟨top 53, N__law_high, F__law_high, h, sc__law_high, rfl, rfl, by decide, ok__law_high, rfl, fun _ _ _ _ _ _ us hl => match us, hl with | [_], _ => rfl⟩
theorem d__law_bad_say (h : fnR K (gAt K "_law_bad_say") = stR "_law_bad_say" (top 54)) : DefP T prog K "_law_bad_say" 35 ["source", "said"] := ⟨top 54, N__law_bad_say, F__law_bad_say, h, sc__law_bad_say, rfl, rfl, by decide, ok__law_bad_say, rfl, fun _ _ _ _ _ _ us hl => match us, hl with | [_, _], _ => rfl⟩
theorem d__law_refused (h : fnR K (gAt K "_law_refused") = stR "_law_refused" (top 55)) : DefP T prog K "_law_refused" 36 ["facts", "said", "view"] := ⟨top 55, N__law_refused, F__law_refused, h, sc__law_refused, rfl, rfl, by decide, ok__law_refused, rfl, fun _ _ _ _ _ _ us hl => match us, hl with | [_, _, _], _ => rfl⟩
theorem d__law_lots (h : fnR K (gAt K "_law_lots") = stR "_law_lots" (top 56)) : DefP T prog K "_law_lots" 37 ["facts", "numbers"] := ⟨top 56, N__law_lots, F__law_lots, h, sc__law_lots, rfl, rfl, by decide, ok__law_lots, rfl, fun _ _ _ _ _ _ us hl => match us, hl with | [_, _], _ => rfl⟩
theorem d_law (h : fnR K (gAt K "law") = stR "law" (top 57)) : DefP T prog K "law" 38 ["script"] := ⟨top 57, N_law, F_law, h, sc_law, rfl, rfl, by decide, ok_law, rfl, fun _ _ _ _ _ _ us hl => match us, hl with | [_], _ => rfl⟩
def fns : List (Str × Nat) := [(("is_integer" : Str), 13), (("is_listed" : Str), 14), (("is_letters" : Str), 15), (("is_name" : Str), 16), (("is_names" : Str), 17), (("checked_facts" : Str), 18), (("is_ascending" : Str), 19), (("mask_of" : Str), 20), (("bits_of" : Str), 21), (("told_saying" : Str), 27), (("saying_or_none" : Str), 28), (("checked_saying" : Str), 29), (("facts_met" : Str), 30), (("facts_of" : Str), 31), (("check_known" : Str), 32), (("fact_mask" : Str), 33), (("view_mask" : Str), 34), (("mask_over" : Str), 35), (("check_view" : Str), 36), (("holds_in" : Str), 37), (("views_of" : Str), 38), (("either_of" : Str), 39), (("saying_for" : Str), 40), (("saying_of" : Str), 41), (("_law_source" : Str), 43), (("_law_pick" : Str), 44), (("_law_say" : Str), 45), (("_law_mask" : Str), 46), (("_law_true" : Str), 47), (("_law_bits" : Str), 48), (("_law_met" : Str), 49), (("_law_lists" : Str), 50), (("_law_size" : Str), 51), (("_law_wide" : Str), 52), (("_law_high" : Str), 53), (("_law_bad_say" : Str), 54), (("_law_refused" : Str), 55), (("_law_lots" : Str), 56), (("law" : Str), 57)]
theorem defs_ok (h : (fns.map fun p => fnR K (gAt K p.1)) = fns.map fun p => stR p.1 (top p.2)) : ∀ p ∈ T.defs, DefL T prog K p.1 p.2.1 p.2.2 := by
  have at_ : ∀ (i : Nat) (x : Str) (j : Nat), fns[i]? = some (x, j) → fnR K (gAt K x) = stR x (top j) := fun i x j e => by
    have e2 := congrArg (fun l : List FnR => l[i]?) h
    simp only [List.getElem?_map, e, Option.map_some] at e2
    exact Option.some.inj e2
  exact (fm_cons ((d_is_integer (at_ 0 "is_integer" 13 rfl)).l rfl)
    (fm_cons ((d_is_listed (at_ 1 "is_listed" 14 rfl)).l rfl)
    (fm_cons ((d_is_letters (at_ 2 "is_letters" 15 rfl)).l rfl)
    (fm_cons ((d_is_name (at_ 3 "is_name" 16 rfl)).l rfl)
    (fm_cons ((d_is_names (at_ 4 "is_names" 17 rfl)).l rfl)
    (fm_cons ((d_checked_facts (at_ 5 "checked_facts" 18 rfl)).l rfl)
    (fm_cons ((d_is_ascending (at_ 6 "is_ascending" 19 rfl)).l rfl)
    (fm_cons ((d_mask_of (at_ 7 "mask_of" 20 rfl)).l rfl)
    (fm_cons ((d_bits_of (at_ 8 "bits_of" 21 rfl)).l rfl)
    (fm_cons ((d_told_saying (at_ 9 "told_saying" 27 rfl)).l rfl)
    (fm_cons ((d_saying_or_none (at_ 10 "saying_or_none" 28 rfl)).l rfl)
    (fm_cons ((d_checked_saying (at_ 11 "checked_saying" 29 rfl)).l rfl)
    (fm_cons ((d_facts_met (at_ 12 "facts_met" 30 rfl)).l rfl)
    (fm_cons ((d_facts_of (at_ 13 "facts_of" 31 rfl)).l rfl)
    (fm_cons ((d_check_known (at_ 14 "check_known" 32 rfl)).l rfl)
    (fm_cons ((d_fact_mask (at_ 15 "fact_mask" 33 rfl)).l rfl)
    (fm_cons ((d_view_mask (at_ 16 "view_mask" 34 rfl)).l rfl)
    (fm_cons ((d_mask_over (at_ 17 "mask_over" 35 rfl)).l rfl)
    (fm_cons ((d_check_view (at_ 18 "check_view" 36 rfl)).l rfl)
    (fm_cons ((d_holds_in (at_ 19 "holds_in" 37 rfl)).l rfl)
    (fm_cons ((d_views_of (at_ 20 "views_of" 38 rfl)).l rfl)
    (fm_cons ((d_either_of (at_ 21 "either_of" 39 rfl)).l rfl)
    (fm_cons ((d_saying_for (at_ 22 "saying_for" 40 rfl)).l rfl)
    (fm_cons ((d_saying_of (at_ 23 "saying_of" 41 rfl)).l rfl)
    (fm_cons ((d__law_source (at_ 24 "_law_source" 43 rfl)).l rfl)
    (fm_cons ((d__law_pick (at_ 25 "_law_pick" 44 rfl)).l rfl)
    (fm_cons ((d__law_say (at_ 26 "_law_say" 45 rfl)).l rfl)
    (fm_cons ((d__law_mask (at_ 27 "_law_mask" 46 rfl)).l rfl)
    (fm_cons ((d__law_true (at_ 28 "_law_true" 47 rfl)).l rfl)
    (fm_cons ((d__law_bits (at_ 29 "_law_bits" 48 rfl)).l rfl)
    (fm_cons ((d__law_met (at_ 30 "_law_met" 49 rfl)).l rfl)
    (fm_cons ((d__law_lists (at_ 31 "_law_lists" 50 rfl)).l rfl)
    (fm_cons ((d__law_size (at_ 32 "_law_size" 51 rfl)).l rfl)
    (fm_cons ((d__law_wide (at_ 33 "_law_wide" 52 rfl)).l rfl)
    (fm_cons ((d__law_high (at_ 34 "_law_high" 53 rfl)).l rfl)
    (fm_cons ((d__law_bad_say (at_ 35 "_law_bad_say" 54 rfl)).l rfl)
    (fm_cons ((d__law_refused (at_ 36 "_law_refused" 55 rfl)).l rfl)
    (fm_cons ((d__law_lots (at_ 37 "_law_lots" 56 rfl)).l rfl)
    (fm_cons ((d_law (at_ 38 "law" 57 rfl)).l rfl)
    fm_nil)))))))))))))))))))))))))))))))))))))))
theorem law_def (h : (fns.map fun p => fnR K (gAt K p.1)) = fns.map fun p => stR p.1 (top p.2)) : DefP T prog K "law" 38 ["script"] := by
  have e2 := congrArg (fun l : List FnR => l[38]?) h
  exact d_law (Option.some.inj e2)
end
theorem cls_in : ∀ p ∈ T.cls, (xn[p.2]?).map (·.1) = some p.1 := by decide +kernel
theorem mks_in : ∀ p ∈ T.mks, (xn[p.2]?).map (·.1) = some p.1 := by decide +kernel
theorem fld_in : ∀ p ∈ T.fld, ∀ c < xn.length, mo.fld c = p.2 → xfOf xn c = p.1 := by decide +kernel
end K01
open PySem PySem.W PyProof.Rows
set_option maxRecDepth 100000 in
set_option maxHeartbeats 0 in
theorem PySem.Challenge.cw_eachpicks_k01_whole_sayings_in_views_holds : PySem.Challenge.rw_eachpicks_k01_whole_sayings_in_views.Holds := by
  w_on; o_law; k_head; (case hw => w_witness2)
  k_fill
  refine Cs.walk_by (l := PySem.Challenge.rw_eachpicks_k01_whole_sayings_in_views) (T := K01.T) (M := K01.mo) (prog := K01.prog) (xn := K01.xn) (m := 63) (fuel := 60) (f := K01.n_law) (x := "law") (pn := "script") rfl (by decide) rfl ⟨rfl, by decide, by decide⟩ (fun w h Y => PySem.W.kIn_of Y) rfl ⟨(("law" : Str), K01.n_law, 1), by decide +kernel, rfl⟩ ?chk ?hlaw ?F K01.law_true
  case chk => intro w; kernel_rfl
  case hlaw => intro w; exact K01.law_def (by kernel_rfl)
  case F =>
    intro w mg h KX G base
    refine Cs.modF_of KX G ?chk (K01.defs_ok ?fns) ?lits K01.cls_in K01.mks_in K01.fld_in ?ini
    case chk => kernel_rfl
    case fns => kernel_rfl
    case lits =>
      refine (Cs.fm_cons (fun _ _ e => nomatch e)
        (Cs.fm_cons (fun _ _ e => nomatch e)
        (Cs.fm_cons (fun _ _ e => nomatch e)
        (Cs.fm_cons (fun _ _ e => nomatch e)
        (Cs.fm_cons (fun _ _ e => nomatch e)
        (Cs.fm_cons (fun _ _ e => nomatch e)
        (Cs.fm_cons (fun _ _ _ => ?lit_ARMS)
        Cs.fm_nil)))))))
      case lit_ARMS => refine' Cs.lit_of ?l1_ARMS ?l2_ARMS ?l3_ARMS; (case l1_ARMS => k_is); (case l2_ARMS => k_is); (case l3_ARMS => first | k_is | (repeat (first | exact trivial | refine ⟨⟨_, _, rfl, rfl⟩, ?_⟩)))
    case ini =>
      intro hsup hst
      exact (Cs.fm_cons (Cs.initOf_at "WrongThing" "WrongThing.__init__" hsup hst K01.il_WrongThing (by kernel_rfl) (by kernel_rfl) (by decide +kernel) (by kernel_rfl) (by kernel_rfl))
        (Cs.fm_cons (Cs.initOf_at "WrongNumber" "WrongNumber.__init__" hsup hst K01.il_WrongNumber (by kernel_rfl) (by kernel_rfl) (by decide +kernel) (by kernel_rfl) (by kernel_rfl))
        (Cs.fm_cons (Cs.initOf_at "WrongThing" "WrongThing.__init__" hsup hst K01.il_WrongThing (by kernel_rfl) (by kernel_rfl) (by decide +kernel) (by kernel_rfl) (by kernel_rfl))
        (Cs.fm_cons (Cs.initOf_at "WrongThing" "WrongThing.__init__" hsup hst K01.il_WrongThing (by kernel_rfl) (by kernel_rfl) (by decide +kernel) (by kernel_rfl) (by kernel_rfl))
        (Cs.fm_cons (Cs.initOf_at "WrongThing" "WrongThing.__init__" hsup hst K01.il_WrongThing (by kernel_rfl) (by kernel_rfl) (by decide +kernel) (by kernel_rfl) (by kernel_rfl))
        (Cs.fm_cons (Cs.initOf_at "TooMany" "TooMany.__init__" hsup hst K01.il_TooMany (by kernel_rfl) (by kernel_rfl) (by decide +kernel) (by kernel_rfl) (by kernel_rfl))
        (Cs.fm_cons (Cs.initOf_at "Unknown" "Unknown.__init__" hsup hst K01.il_Unknown (by kernel_rfl) (by kernel_rfl) (by decide +kernel) (by kernel_rfl) (by kernel_rfl))
        Cs.fm_nil)))))))
end
