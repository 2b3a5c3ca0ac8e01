import PyProof.Rows.All
import Wide.All
import OpenK.AllK
import Wide.FinOn
import HandS.ForExc
import HandS.Comp
import HandS.Iter
import HandS.Text
import HandS.Dict
import HandS.Flow
import HandS.More
import HandS.IsInst
import HandS.TupAny
import HandS.Conv
import HandS.CallSlots
import HandS.ExcInit
import HandS.TryMany
import HandS.WideBits
import KE.GoesEnum
import KE.GoesMore
import HandS.ExcField
import HandS.ExcIs
import KE.KExcIs
import HandS.WordsExc
import HandS.Nested
import HandS.FStr
import KE.KExcSuper
import PyProof.StrLaws
import HandS.Ends
import HandS.EndBits
import PyProof.TableCode
import PySem.Challenge.RW_eachpicks_k07_whole_trees
set_option Elab.async false
section
/-! CORE: a small language of slots and plain data, and its evaluator. Plain Lean; nothing of the model. -/
namespace Cz
/-- plain data -/
inductive D where
  | non | bl (b : Bool) | int (i : Int) | str (s : List Nat)
  | tup (xs : List D) | lst (xs : List D)
  /-- a dict with texts as keys -/
  | dct (ks : List (List Nat)) (vs : List D)
deriving Inhabited
/-- a text -/
def tx (s : String) : List Nat := s.toList.map Char.toNat
abbrev D.s (x : String) : D := .str (tx x)

mutual
def D.beq : D → D → Bool
  | .non, .non => true
  | .bl a, .bl b => a == b
  | .bl a, .int b => (if a then 1 else 0) == b
  | .int a, .bl b => a == (if b then 1 else 0)
  | .int a, .int b => a == b
  | .str a, .str b => a == b
  | .tup a, .tup b => D.beqs a b
  | .lst a, .lst b => D.beqs a b
  | _, _ => false
def D.beqs : List D → List D → Bool
  | [], [] => true
  | a :: r, b :: q => D.beq a b && D.beqs r q
  | _, _ => false
end

mutual
/-- no dict in it, nothing within more than n others -/
def depLe : Nat → D → Bool
  | n, .tup xs => match n with
    | 0 => false
    | n + 1 => depsLe n xs
  | n, .lst xs => match n with
    | 0 => false
    | n + 1 => depsLe n xs
  | _, .dct _ _ => false
  | _, .non => true
  | _, .bl _ => true
  | _, .int _ => true
  | _, .str _ => true
def depsLe : Nat → List D → Bool
  | _, [] => true
  | n, x :: r => depLe n x && depsLe n r
end
/-- a text of bounded length and signs -/
def sOk (s : List Nat) : Bool := decide (s.length ≤ 100000) && s.all (fun c => decide (c < 1114112))

/-- an exception: the number of its class, what it bears -/
structure Exn where
  cls : Nat
  arg : D
deriving Inhabited

/-- a slot: nothing, data, a list of the def's own (lent = true: the caller's) -/
inductive Sl where
  | no | d (x : D) | own (lent : Bool) (xs : List D) | exn (x : Exn)
deriving Inhabited
abbrev Env := List Sl
/-- a value: data, a list just made, the list that a slot owns -/
inductive Val where
  | p (d : D) | f (xs : List D) | b (i : Nat)
deriving Inhabited
inductive Re where
  | ok (v : Val) (ρ : Env) | ex (x : Exn) (ρ : Env) | bad
deriving Inhabited
inductive Ra where
  | ok (vs : List Val) (ρ : Env) | ex (x : Exn) (ρ : Env) | bad
deriving Inhabited
inductive Rs where
  | nx (ρ : Env) | rt (v : Val) (ρ : Env) | bk (ρ : Env) | ct (ρ : Env) | ex (x : Exn) (ρ : Env) | bad
deriving Inhabited
/-- an argument of a call: data, a lent list -/
inductive Arg where
  | a (d : D) | o (xs : List D)
deriving Inhabited
/-- a call's end: the value (Val.p or Val.f), the lent lists behind it in the arguments' order -/
inductive Rc where
  | ok (v : Val) (outs : List (List D)) | ex (x : Exn) (outs : List (List D)) | bad
deriving Inhabited

inductive Bop where | add | sub | mul | fdiv | mod | pow | shl | shr | and | or | xor
deriving DecidableEq
inductive Cop where | eq | ne | lt | le | gt | ge | in_ | nin | isN | nisN
deriving DecidableEq
inductive Bi where | len | int | abs | tuple | list | all | any | max2 | min2 | sorted | sum | set_
deriving DecidableEq
inductive Ty where | int | bool | str | tuple | list
deriving DecidableEq
inductive Me where | count | index | bitlen
deriving DecidableEq

mutual
inductive E where
  | var (i : Nat)
  | bor (i : Nat)
  | c (d : D)
  | g (k : Nat)
  | bin (o : Bop) (a b : E)
  | neg (a : E)
  | cmp (o : Cop) (a b : E)
  | chain (o o' : Cop) (a b c : E)
  | and (es : Es) | or (es : Es)
  | not (a : E)
  | ife (t a b : E)
  | tup (es : Es) | lst (es : Es)
  | dcc (ks : List (List Nat)) (vs : List D)
  | ix (a b : E)
  | slF (a lo : E) | slT (a hi : E) | slFT (a lo hi : E)
  | call (f : Nat) (es : Es)
  | bi (b : Bi) (es : Es)
  | isi (a : E) (ts : List Ty)
  | me (m : Me) (a : E) (es : Es)
  | lc (t : List Nat) (it : It) (cs : Es) (e : E)
  | lc2 (t : List Nat) (it : It) (t2 : List Nat) (it2 : It) (e : E)
  | exf (i : Nat) (f : Nat)
  | exis (i : Nat) (c : Nat)
inductive Es where
  | nil | cons (e : E) (es : Es)
inductive It where
  | val (e : E) | r1 (a : E) | r2 (a b : E) | r3 (a b c : E) | enum (e : E)
end
mutual
inductive S where
  | asg (i : Nat) (e : E)
  | asgT (is : List Nat) (e : E)
  | asgIx (i : Nat) (k e : E)
  | app (i : Nat) (e : E)
  | ex (e : E)
  | ret (e : E) | retN
  | ife (t : E) (a b : Ss)
  | for_ (t : List Nat) (it : It) (body : Ss)
  | while_ (t : E) (body : Ss)
  | raise (c : Nat) (e : E)
  | try_ (body : Ss) (hs : Hs)
  | pass | brk | cnt
inductive Ss where
  | nil | cons (s : S) (ss : Ss)
inductive Hs where
  | nil | cons (c : Nat) (i : Option Nat) (ss : Ss) (hs : Hs)
end

/-! ### operations on data -/
def truth : D → Option Bool
  | .non => some false
  | .bl b => some b
  | .int i => some (i != 0)
  | .str s => some (s.length != 0)
  | .tup xs => some (!xs.isEmpty)
  | .lst xs => some (!xs.isEmpty)
  | .dct .. => none
/-- Python's index into n places -/
def pix (n : Nat) (i : Int) : Option Nat := if 0 ≤ i then (if i < n then some i.toNat else none) else if -(n : Int) ≤ i then some (i + n).toNat else none
/-- a slice's bound as a place among n -/
def six (n d : Nat) : Option Int → Nat
  | none => d
  | some v => if v < 0 then (v + (n : Int)).toNat else min v.toNat n
def cut {α : Type} (xs : List α) (lo hi : Option Int) : List α := (xs.drop (six xs.length 0 lo)).take (six xs.length xs.length hi - six xs.length 0 lo)
def slice (d : D) (lo hi : Option Int) : Option Val :=
  match d with
  | .tup xs => some (.p (.tup (cut xs lo hi)))
  | .lst xs => some (.f (cut xs lo hi))
  | .str xs => some (.p (.str (cut xs lo hi)))
  | _ => none
def item (d : D) (i : D) : Option D :=
  match d, i with
  | .tup xs, .int i => (pix xs.length i).bind (xs[·]?)
  | .lst xs, .int i => (pix xs.length i).bind (xs[·]?)
  | .str xs, .int i => (pix xs.length i).bind fun k => (xs[k]?).map fun c => .str [c]
  | .dct ks vs, .str k => (ks.idxOf? k).bind (vs[·]?)
  | _, _ => none
def big : Nat := 2 ^ 64
def binD (o : Bop) (a b : D) : Option Val :=
  match o, a, b with
  | .add, .int i, .int j => some (.p (.int (i + j)))
  | .add, .str x, .str y => if x.length + y.length ≤ 100000 then some (.p (.str (x ++ y))) else none
  | .add, .tup x, .tup y => if x.length + y.length ≤ 100000 then some (.p (.tup (x ++ y))) else none
  | .add, .lst x, .lst y => if x.length + y.length ≤ 100000 then some (.f (x ++ y)) else none
  | .sub, .int i, .int j => some (.p (.int (i - j)))
  | .mul, .int i, .int j => if i.natAbs < big ∨ j.natAbs < big then some (.p (.int (i * j))) else none
  | .fdiv, .int i, .int j => if 0 < j ∧ j < 1073741824 then some (.p (.int (i / j))) else none
  | .mod, .int i, .int j => if 0 < j then some (.p (.int (i % j))) else none
  | .pow, .int i, .int j => if 0 ≤ j ∧ j ≤ 100000 ∧ i.natAbs < big then some (.p (.int (i ^ j.toNat))) else none
  | .shl, .int i, .int j => if 0 ≤ j ∧ j ≤ 100000 ∧ i.natAbs.log2 < 2000000 then some (.p (.int (i * 2 ^ j.toNat))) else none
  | .shr, .int i, .int j => if 0 ≤ j then some (.p (.int (i / 2 ^ j.toNat))) else none
  | .and, .int i, .int j => if 0 ≤ i ∧ 0 ≤ j then some (.p (.int ((i.toNat &&& j.toNat : Nat)))) else none
  | .or, .int i, .int j => if 0 ≤ i ∧ 0 ≤ j then some (.p (.int ((i.toNat ||| j.toNat : Nat)))) else none
  | .xor, .int i, .int j => if 0 ≤ i ∧ 0 ≤ j then some (.p (.int ((i.toNat ^^^ j.toNat : Nat)))) else none
  | _, _, _ => none
/-- flat things: what stands in a written row and is looked for with in -/
def flat : D → Bool
  | .non => true | .bl _ => true | .int _ => true | .str _ => true | _ => false
def memD (x : D) (ys : List D) : Bool := ys.any fun y => D.beq y x
def isNon : D → Bool
  | .non => true
  | _ => false
def cmpD (o : Cop) (a b : D) : Option Bool :=
  match o, a, b with
  | .eq, a, b => if depLe 100 a && depLe 100 b then some (D.beq a b) else none
  | .ne, a, b => if depLe 100 a && depLe 100 b then some (!D.beq a b) else none
  | .lt, .int i, .int j => some (decide (i < j))
  | .le, .int i, .int j => some (decide (i ≤ j))
  | .gt, .int i, .int j => some (decide (j < i))
  | .ge, .int i, .int j => some (decide (j ≤ i))
  | .lt, .str x, .str y => some (decide (x < y))
  | .le, .str x, .str y => some (!decide (y < x))
  | .in_, x, .tup ys => if flat x && ys.all flat then some (memD x ys) else none
  | .in_, x, .lst ys => if flat x && ys.all flat then some (memD x ys) else none
  | .nin, x, .tup ys => if flat x && ys.all flat then some (!memD x ys) else none
  | .nin, x, .lst ys => if flat x && ys.all flat then some (!memD x ys) else none
  | .in_, .str x, .dct ks _ => some (ks.contains x)
  | .nin, .str x, .dct ks _ => some (!ks.contains x)
  | .isN, a, .non => some (isNon a)
  | .nisN, a, .non => some (!isNon a)
  | _, _, _ => none
def isTy (d : D) (t : Ty) : Bool :=
  match d, t with
  | .bl _, .int => true | .bl _, .bool => true | .int _, .int => true
  | .str _, .str => true | .tup _, .tuple => true | .lst _, .list => true
  | _, _ => false
def allBl : List D → Option (List Bool)
  | [] => some []
  | .bl b :: r => (allBl r).map (b :: ·)
  | _ => none
def biD (b : Bi) (as : List D) : Option Val :=
  match b, as with
  | .len, [.str s] => some (.p (.int s.length))
  | .len, [.tup s] => some (.p (.int s.length))
  | .len, [.lst s] => some (.p (.int s.length))
  | .int, [.int i] => some (.p (.int i))
  | .abs, [.int i] => some (.p (.int (i.natAbs : Int)))
  | .tuple, [.tup xs] => some (.p (.tup xs))
  | .tuple, [.lst xs] => some (.p (.tup xs))
  | .list, [.tup xs] => some (.f xs)
  | .list, [.lst xs] => some (.f xs)
  | .all, [.lst xs] => (allBl xs).map fun bs => .p (.bl (bs.all id))
  | .any, [.lst xs] => (allBl xs).map fun bs => .p (.bl (bs.any id))
  | .max2, [.int i, .int j] => some (.p (.int (if j > i then j else i)))
  | .min2, [.int i, .int j] => some (.p (.int (if j < i then j else i)))
  | _, _ => none
/-- the texts in which signs are counted: those of p, n and s of at most three signs -/
def fewSigns : List (List Nat) := [[], [112], [110], [115], [112, 112], [115, 112], [115, 112, 112]]
/-- methods; how often p stands in such a text -/
def meD (m : Me) (a : D) (as : List D) : Option Val :=
  match m, a, as with
  | .count, .str s, [.str c] => if fewSigns.contains s && c == [112] then some (.p (.int (s.count 112))) else none
  | _, _, _ => none

/-- what a method is called on -/
def recvOk (m : Me) (d : D) : Bool :=
  match m, d with
  | .count, .str _ => true
  | .index, .tup _ => true
  | .bitlen, .int _ => true
  | _, _ => false

/-! ### environments -/
def res (ρ : Env) : Val → Option D
  | .p d => some d
  | .f xs => some (.lst xs)
  | .b i => match ρ[i]? with
    | some (.own _ xs) => some (.lst xs)
    | _ => none
def ress (ρ : Env) : List Val → Option (List D)
  | [] => some []
  | v :: r => match res ρ v, ress ρ r with
    | some d, some ds => some (d :: ds)
    | _, _ => none
/-- none of them is a list that a slot owns -/
def noB (vs : List Val) : Bool := vs.all fun v => match v with | .b _ => false | _ => true
/-- a list just made becomes data -/
def fz : Val → Val
  | .f xs => .p (.lst xs)
  | v => v
def args (ρ : Env) : List Val → Option (List Arg)
  | [] => some []
  | .p d :: r => (args ρ r).map (.a d :: ·)
  | .f xs :: r => (args ρ r).map (.a (.lst xs) :: ·)
  | .b i :: r => match ρ[i]? with
    | some (.own _ xs) => (args ρ r).map (.o xs :: ·)
    | _ => none
/-- the lent lists come back -/
def back (ρ : Env) : List Val → List (List D) → Option Env
  | [], [] => some ρ
  | .b i :: r, xs :: q => match ρ[i]? with
    | some (.own l _) => back (ρ.set i (.own l xs)) r q
    | _ => none
  | .b _ :: _, [] => none
  | .p _ :: r, q => back ρ r q
  | .f _ :: r, q => back ρ r q
  | [], _ :: _ => none
/-- no list is lent twice -/
def lentOnce : List Val → Bool
  | [] => true
  | .b i :: r => (r.all fun v => match v with | .b j => j != i | _ => true) && lentOnce r
  | _ :: r => lentOnce r
/-- a slot may be stored to: no lent list stands there -/
def free (ρ : Env) (i : Nat) : Bool :=
  match ρ[i]? with
  | some (.own true _) => false
  | some _ => true
  | none => false
def put (ρ : Env) (i : Nat) (v : Val) : Option Env :=
  if free ρ i then
    match v with
    | .p d => some (ρ.set i (.d d))
    | .f xs => some (ρ.set i (.own false xs))
    | .b _ => none
  else none
def putAll (ρ : Env) : List Nat → List D → Option Env
  | [], [] => some ρ
  | i :: r, d :: q => (put ρ i (.p d)).bind fun ρ' => putAll ρ' r q
  | _, _ => none
/-- a target: one name, or some names for a tuple's items -/
def bindT (ρ : Env) (t : List Nat) (d : D) : Option Env :=
  match t, d with
  | [i], d => put ρ i (.p d)
  | t, .tup ds => putAll ρ t ds
  | _, _ => none
def wipe (ρ : Env) (t : List Nat) : Env := t.foldl (fun ρ i => ρ.set i .no) ρ
/-- may the slots t be used by a comprehension: they are no lists of the def's own -/
def plainAt (ρ : Env) (t : List Nat) : Bool := t.all fun i => match ρ[i]? with | some (.own _ _) => false | some _ => true | none => false
def intsD (lo : Int) (n : Nat) : List D := (List.range n).map fun (k : Nat) => D.int (lo + (k : Int))
def enumFrom (k : Nat) : List D → List D
  | [] => []
  | d :: r => .tup [.int k, d] :: enumFrom (k + 1) r
def itemsOf : D → Option (List D)
  | .tup xs => some xs
  | .lst xs => some xs
  | .str s => some (s.map fun c => .str [c])
  | _ => none
/-- the module's constants -/
structure Mo where
  g : Nat → Option D
  /-- is a class of errors under another one -/
  sub : Nat → Nat → Bool
  /-- the name of what an error of the class bears, by its number -/
  fld : Nat → Nat
  /-- how an error of the class tells what it bears: 0 not at all, 1 as a number, 2 as a text -/
  tk : Nat → Nat
/-- what an error that tells so may bear -/
def okArg (k : Nat) (d : D) : Bool := match k, d with
  | 0, _ => true
  | 1, .int i => decide (i.natAbs < 2 ^ 64)
  | 2, .str _ => true
  | _, _ => false

section
variable (M : Mo) (C : Nat → List Arg → Rc)
/-- the turns of a comprehension: what is made, and the environment behind -/
def lcTurns (turn : Env → D → Option (Option D × Env)) : Env → List D → Option (List D × Env)
  | ρ, [] => some ([], ρ)
  | ρ, d :: r => match turn ρ d with
    | some (none, ρ1) => lcTurns turn ρ1 r
    | some (some x, ρ1) => (lcTurns turn ρ1 r).map fun q => (x :: q.1, q.2)
    | none => none
def lcTurns2 (turn : Env → D → Option (List D × Env)) : Env → List D → Option (List D × Env)
  | ρ, [] => some ([], ρ)
  | ρ, d :: r => match turn ρ d with
    | some (xs, ρ1) => (lcTurns2 turn ρ1 r).map fun q => (xs ++ q.1, q.2)
    | none => none
mutual
def evE : E → Env → Re
  | .var i, ρ => match ρ[i]? with
    | some (.d x) => .ok (.p x) ρ
    | some (.own false xs) => .ok (.p (.lst xs)) (ρ.set i (.d (.lst xs)))
    | _ => .bad
  | .bor i, ρ => match ρ[i]? with
    | some (.d x) => .ok (.p x) ρ
    | some (.own _ _) => .ok (.b i) ρ
    | _ => .bad
  | .c d, ρ => .ok (.p d) ρ
  | .g k, ρ => match M.g k with
    | some d => .ok (.p d) ρ
    | none => .bad
  | .bin o a b, ρ => match evE a ρ with
    | .ok v ρ1 => match evE b ρ1 with
      | .ok w ρ2 => match res ρ2 (fz v), res ρ2 (fz w) with
        | some x, some y => match binD o x y with
          | some r => .ok r ρ2
          | none => .bad
        | _, _ => .bad
      | r => r
    | r => r
  | .neg a, ρ => match evE a ρ with
    | .ok v ρ1 => match res ρ1 (fz v) with
      | some (.int i) => .ok (.p (.int (-i))) ρ1
      | _ => .bad
    | r => r
  | .cmp o a b, ρ => match evE a ρ with
    | .ok v ρ1 => match evE b ρ1 with
      | .ok w ρ2 => match res ρ2 (fz v), res ρ2 (fz w) with
        | some x, some y => match cmpD o x y with
          | some r => .ok (.p (.bl r)) ρ2
          | none => .bad
        | _, _ => .bad
      | r => r
    | r => r
  | .chain o o' a b c, ρ => match evE a ρ with
    | .ok v ρ1 => match evE b ρ1 with
      | .ok w ρ2 => match res ρ2 (fz v), fz w with
        | some x, .p y => match cmpD o x y with
          | some false => .ok (.p (.bl false)) ρ2
          | some true => match evE c ρ2 with
            | .ok u ρ3 => match res ρ3 (fz u) with
              | some z => match cmpD o' y z with
                | some r => .ok (.p (.bl r)) ρ3
                | none => .bad
              | none => .bad
            | r => r
          | none => .bad
        | _, _ => .bad
      | r => r
    | r => r
  | .and es, ρ => evAnd es ρ
  | .or es, ρ => evOr es ρ
  | .not a, ρ => match evE a ρ with
    | .ok v ρ1 => match (res ρ1 (fz v)).bind truth with
      | some k => .ok (.p (.bl (!k))) ρ1
      | none => .bad
    | r => r
  | .ife t a b, ρ => match evE t ρ with
    | .ok v ρ1 => match (res ρ1 (fz v)).bind truth with
      | some true => evE a ρ1
      | some false => evE b ρ1
      | none => .bad
    | r => r
  | .tup es, ρ => match evEs es ρ with
    | .ok vs ρ1 => match ress ρ1 vs with
      | some ds => if noB vs then .ok (.p (.tup ds)) ρ1 else .bad
      | none => .bad
    | .ex x ρ1 => .ex x ρ1
    | .bad => .bad
  | .lst es, ρ => match evEs es ρ with
    | .ok vs ρ1 => match ress ρ1 vs with
      | some ds => if noB vs then .ok (.f ds) ρ1 else .bad
      | none => .bad
    | .ex x ρ1 => .ex x ρ1
    | .bad => .bad
  | .dcc ks vs, ρ => .ok (.p (.dct ks vs)) ρ
  | .ix a b, ρ => match evE a ρ with
    | .ok v ρ1 => match evE b ρ1 with
      | .ok w ρ2 => match res ρ2 (fz v), res ρ2 (fz w) with
        | some x, some y => match item x y with
          | some r => .ok (.p r) ρ2
          | none => .bad
        | _, _ => .bad
      | r => r
    | r => r
  | .slF a lo, ρ => match evE a ρ with
    | .ok v ρ1 => match evE lo ρ1 with
      | .ok w ρ2 => match res ρ2 (fz v), res ρ2 (fz w) with
        | some x, some (.int i) => match slice x (some i) none with
          | some r => .ok r ρ2
          | none => .bad
        | _, _ => .bad
      | r => r
    | r => r
  | .slT a hi, ρ => match evE a ρ with
    | .ok v ρ1 => match evE hi ρ1 with
      | .ok w ρ2 => match res ρ2 (fz v), res ρ2 (fz w) with
        | some x, some (.int i) => match slice x none (some i) with
          | some r => .ok r ρ2
          | none => .bad
        | _, _ => .bad
      | r => r
    | r => r
  | .slFT a lo hi, ρ => match evE a ρ with
    | .ok v ρ1 => match evE lo ρ1 with
      | .ok w ρ2 => match evE hi ρ2 with
        | .ok u ρ3 => match res ρ3 (fz v), res ρ3 (fz w), res ρ3 (fz u) with
          | some x, some (.int i), some (.int j) => match slice x (some i) (some j) with
            | some r => .ok r ρ3
            | none => .bad
          | _, _, _ => .bad
        | r => r
      | r => r
    | r => r
  | .call f es, ρ => match evEs es ρ with
    | .ok vs ρ1 => match args ρ1 vs with
      | some as => if lentOnce vs then
          match C f as with
          | .ok v outs => match back ρ1 vs outs with
            | some ρ2 => .ok v ρ2
            | none => .bad
          | .ex x outs => match back ρ1 vs outs with
            | some ρ2 => .ex x ρ2
            | none => .bad
          | .bad => .bad
        else .bad
      | none => .bad
    | .ex x ρ1 => .ex x ρ1
    | .bad => .bad
  | .bi b es, ρ => match evEs es ρ with
    | .ok vs ρ1 => match ress ρ1 vs with
      | some ds => match biD b ds with
        | some r => .ok r ρ1
        | none => .bad
      | none => .bad
    | .ex x ρ1 => .ex x ρ1
    | .bad => .bad
  | .isi a ts, ρ => match evE a ρ with
    | .ok v ρ1 => match res ρ1 (fz v) with
      | some x => .ok (.p (.bl (ts.any (isTy x)))) ρ1
      | none => .bad
    | r => r
  | .me m a es, ρ => match evE a ρ with
    | .ok v ρ1 => match fz v with
      | .p x => if recvOk m x then
          match evEs es ρ1 with
          | .ok vs ρ2 => match ress ρ2 vs with
            | some ds => match meD m x ds with
              | some r => .ok r ρ2
              | none => .bad
            | none => .bad
          | .ex x ρ1 => .ex x ρ1
          | .bad => .bad
        else .bad
      | _ => .bad
    | r => r
  | .lc t it cs e, ρ => match evIt it ρ with
    | some (ds, ρ1) => if plainAt ρ1 t then
        match lcTurns (fun ρ d => match bindT (wipe ρ t) t d with
          | some ρ2 => match evAnd cs ρ2 with
            | .ok v ρ3 => match (res ρ3 (fz v)).bind truth with
              | some true => match evE e ρ3 with
                | .ok w ρ4 => match fz w with
                  | .p x => some (some x, ρ4)
                  | _ => none
                | _ => none
              | some false => some (none, ρ3)
              | none => none
            | _ => none
          | none => none) ρ1 ds with
        | some (xs, ρ2) => .ok (.f xs) (t.foldl (fun ρ i => ρ.set i ((ρ1[i]?).getD .no)) ρ2)
        | none => .bad
      else .bad
    | none => .bad
  | .lc2 t it t2 it2 e, ρ => match evIt it ρ with
    | some (ds, ρ1) => if plainAt ρ1 (t ++ t2) then
        match lcTurns2 (fun ρ d => match bindT (wipe ρ (t ++ t2)) t d with
          | some ρ2 => match evIt it2 ρ2 with
            | some (es, ρ3) => lcTurns (fun ρ d => match bindT (wipe ρ t2) t2 d with
              | some ρ2 => match evE e ρ2 with
                | .ok w ρ4 => match fz w with
                  | .p x => some (some x, ρ4)
                  | _ => none
                | _ => none
              | none => none) ρ3 es
            | none => none
          | none => none) ρ1 ds with
        | some (xs, ρ2) => if 100000 < xs.length then .bad else .ok (.f xs) ((t ++ t2).foldl (fun ρ i => ρ.set i ((ρ1[i]?).getD .no)) ρ2)
        | none => .bad
      else .bad
    | none => .bad
  | .exf i f, ρ => match ρ[i]? with
    | some (.exn x) => if M.fld x.cls = f then .ok (.p x.arg) ρ else .bad
    | _ => .bad
  | .exis i c, ρ => match ρ[i]? with
    | some (.exn x) => .ok (.p (.bl (M.sub x.cls c))) ρ
    | _ => .bad
def evEs : Es → Env → Ra
  | .nil, ρ => .ok [] ρ
  | .cons e es, ρ => match evE e ρ with
    | .ok v ρ1 => match evEs es ρ1 with
      | .ok vs ρ2 => .ok (fz v :: vs) ρ2
      | r => r
    | .ex x ρ1 => .ex x ρ1
    | .bad => .bad
/-- a and b and ..: nothing is True -/
def evAnd : Es → Env → Re
  | .nil, ρ => .ok (.p (.bl true)) ρ
  | .cons e es, ρ => match evE e ρ with
    | .ok v ρ1 => match es with
      | .nil => .ok v ρ1
      | .cons _ _ => match (res ρ1 (fz v)).bind truth with
        | some true => evAnd es ρ1
        | some false => .ok v ρ1
        | none => .bad
    | r => r
def evOr : Es → Env → Re
  | .nil, ρ => .ok (.p (.bl false)) ρ
  | .cons e es, ρ => match evE e ρ with
    | .ok v ρ1 => match es with
      | .nil => .ok v ρ1
      | .cons _ _ => match (res ρ1 (fz v)).bind truth with
        | some false => evOr es ρ1
        | some true => .ok v ρ1
        | none => .bad
    | r => r
def evIt : It → Env → Option (List D × Env)
  | .val e, ρ => match evE e ρ with
    | .ok v ρ1 => match fz v with
      | .p d => (itemsOf d).map fun ds => (ds, ρ1)
      | _ => none
    | _ => none
  | .r1 a, ρ => match evE a ρ with
    | .ok (.p (.int n)) ρ1 => if -100000 ≤ n ∧ n ≤ 100000 then some (intsD 0 n.toNat, ρ1) else none
    | _ => none
  | .r2 a b, ρ => match evE a ρ with
    | .ok (.p (.int lo)) ρ1 => match evE b ρ1 with
      | .ok (.p (.int hi)) ρ2 => if -100000 ≤ lo ∧ lo ≤ 100000 ∧ -100000 ≤ hi ∧ hi ≤ 100000 ∧ hi - lo ≤ 100000 then some (intsD lo (hi - lo).toNat, ρ2) else none
      | _ => none
    | _ => none
  | .r3 _ _ _, _ => none
  | .enum e, ρ => match evE e ρ with
    | .ok v ρ1 => match fz v with
      | .p (.tup ds) => some (enumFrom 0 ds, ρ1)
      | .p (.lst ds) => some (enumFrom 0 ds, ρ1)
      | _ => none
    | _ => none
end
/-- the turns of a for: the body at each item -/
def forTurns (turn : Env → D → Rs) : Env → List D → Rs
  | ρ, [] => .nx ρ
  | ρ, d :: r => match turn ρ d with
    | .nx ρ1 => forTurns turn ρ1 r
    | .ct ρ1 => forTurns turn ρ1 r
    | .bk ρ1 => .nx ρ1
    | q => q
def whTurns (test : Env → Re) (body : Env → Rs) : Nat → Env → Rs
  | 0, _ => .bad
  | n + 1, ρ => match test ρ with
    | .ok v ρ1 => match (res ρ1 (fz v)).bind truth with
      | some true => match body ρ1 with
        | .nx ρ2 => whTurns test body n ρ2
        | .ct ρ2 => whTurns test body n ρ2
        | .bk ρ2 => .nx ρ2
        | q => q
      | some false => .nx ρ1
      | none => .bad
    | .ex x ρ1 => .ex x ρ1
    | .bad => .bad
def whFuel : Nat := 100000
mutual
def evS : S → Env → Rs
  | .asg i e, ρ => match evE M C e ρ with
    | .ok v ρ1 => match put ρ1 i v with
      | some ρ2 => .nx ρ2
      | none => .bad
    | .ex x ρ1 => .ex x ρ1
    | .bad => .bad
  | .asgT t e, ρ => match evE M C e ρ with
    | .ok v ρ1 => match fz v with
      | .p d => match bindT ρ1 t d with
        | some ρ2 => .nx ρ2
        | none => .bad
      | _ => .bad
    | .ex x ρ1 => .ex x ρ1
    | .bad => .bad
  | .asgIx i k e, ρ => match evE M C e ρ with
    | .ok v ρ1 => match fz v with
      | .p d => match ρ1[i]? with
        | some (.own _ _) => match evE M C k ρ1 with
          | .ok (.p (.int j)) ρ2 => match ρ2[i]? with
            | some (.own l xs) => match pix xs.length j with
              | some n => .nx (ρ2.set i (.own l (xs.set n d)))
              | none => .bad
            | _ => .bad
          | .ex x ρ1 => .ex x ρ1
          | _ => .bad
        | _ => .bad
      | _ => .bad
    | .ex x ρ1 => .ex x ρ1
    | .bad => .bad
  | .app i e, ρ => match ρ[i]? with
    | some (.own _ _) => match evE M C e ρ with
      | .ok v ρ1 => match fz v with
        | .p d => match ρ1[i]? with
          | some (.own l xs) => if xs.length < 100000 then .nx (ρ1.set i (.own l (xs ++ [d]))) else .bad
          | _ => .bad
        | _ => .bad
      | .ex x ρ1 => .ex x ρ1
      | .bad => .bad
    | _ => .bad
  | .ex e, ρ => match evE M C e ρ with
    | .ok _ ρ1 => .nx ρ1
    | .ex x ρ1 => .ex x ρ1
    | .bad => .bad
  | .ret e, ρ => match e, ρ with
    | .var i, ρ => match ρ[i]? with
      | some (.d x) => .rt (.p x) ρ
      | some (.own false xs) => .rt (.f xs) (ρ.set i .no)
      | _ => .bad
    | e, ρ => match evE M C e ρ with
      | .ok (.b _) _ => .bad
      | .ok v ρ1 => .rt v ρ1
      | .ex x ρ1 => .ex x ρ1
      | .bad => .bad
  | .retN, ρ => .rt (.p .non) ρ
  | .ife t a b, ρ => match evE M C t ρ with
    | .ok v ρ1 => match (res ρ1 (fz v)).bind truth with
      | some true => evSs a ρ1
      | some false => evSs b ρ1
      | none => .bad
    | .ex x ρ1 => .ex x ρ1
    | .bad => .bad
  | .for_ t it body, ρ => match evIt M C it ρ with
    | some (ds, ρ1) => forTurns (fun ρ d => match bindT ρ t d with
        | some ρ2 => evSs body ρ2
        | none => .bad) ρ1 ds
    | none => .bad
  | .while_ t body, ρ => whTurns (evE M C t) (evSs body) whFuel ρ
  | .raise c e, ρ => match evE M C e ρ with
    | .ok v ρ1 => match fz v with
      | .p d => if okArg (M.tk c) d then .ex ⟨c, d⟩ ρ1 else .bad
      | _ => .bad
    | .ex x ρ1 => .ex x ρ1
    | .bad => .bad
  | .try_ body hs, ρ => match evSs body ρ with
    | .ex x ρ1 => evHs hs x ρ1
    | r => r
  | .pass, ρ => .nx ρ
  | .brk, ρ => .bk ρ
  | .cnt, ρ => .ct ρ
def evSs : Ss → Env → Rs
  | .nil, ρ => .nx ρ
  | .cons s ss, ρ => match evS s ρ with
    | .nx ρ1 => evSs ss ρ1
    | r => r
def evHs : Hs → Exn → Env → Rs
  | .nil, x, ρ => .ex x ρ
  | .cons c i ss hs, x, ρ =>
    if M.sub x.cls c then
      match i with
      | some i => if free ρ i then
          match evSs ss (ρ.set i (.exn x)) with
          | .nx ρ1 => if free ρ1 i then .nx (ρ1.set i .no) else .bad
          | .rt v ρ1 => .rt v ρ1
          | _ => .bad
        else .bad
      | none => match evSs ss ρ with
        | .nx ρ1 => .nx ρ1
        | .rt v ρ1 => .rt v ρ1
        | _ => .bad
    else evHs hs x ρ
end
end
/-- a def: how many parameters, how many slots, its body -/
structure Fn where
  np : Nat
  ns : Nat
  body : Ss
def startEnv (as : List Arg) (ns : Nat) : Env :=
  as.map (fun a => match a with | .a d => Sl.d d | .o xs => Sl.own true xs) ++ List.replicate (ns - as.length) Sl.no
/-- the lent lists at the end, in the arguments' order -/
def outsOf (as : List Arg) (ρ : Env) : Option (List (List D)) :=
  match as, ρ with
  | [], _ => some []
  | .a _ :: r, _ :: q => outsOf r q
  | .o _ :: r, .own true xs :: q => (outsOf r q).map (xs :: ·)
  | _, _ => none
def runFn (M : Mo) (C : Nat → List Arg → Rc) (F : Fn) (as : List Arg) : Rc :=
  if as.length = F.np then
    match evSs M C F.body (startEnv as F.ns) with
    | .nx ρ => match outsOf as ρ with
      | some os => .ok (.p .non) os
      | none => .bad
    | .rt v ρ => match v, outsOf as ρ with
      | .p d, some os => .ok (.p d) os
      | .f xs, some os => .ok (.f xs) os
      | _, _ => .bad
    | .ex x ρ => match outsOf as ρ with
      | some os => .ex x os
      | none => .bad
    | _ => .bad
  else .bad
/-- a whole program: its defs by numbers -/
def call (M : Mo) (P : Nat → Option Fn) : Nat → Nat → List Arg → Rc
  | 0, _, _ => .bad
  | n + 1, f, as => match P f with
    | some F => runFn M (call M P n) F as
    | none => .bad
end Cz
end
section
set_option Elab.async false
set_option linter.all false
set_option maxRecDepth 100000
set_option maxHeartbeats 2000000
/-! SOUND 1: what a value of the hand layer stands for: plain data; the rules of operators, by data. -/
namespace Cs
open PySem L2 Cz

/-! ### heaps -/
def Ex (H H' : Hp) : Prop := ∀ a o, H a = some o → H' a = some o
theorem Ex.refl (H : Hp) : Ex H H := fun _ _ h => h
theorem Ex.trans {H H1 H2 : Hp} (a : Ex H H1) (b : Ex H1 H2) : Ex H H2 := fun x o h => b x o (a x o h)
theorem Ex.new {H : Hp} {p : Addr} {o : HO} (h : H p = none) : Ex H (upd H p o) := fun a u e => by
  rw [upd_ne (ne_of_none e h)]
  exact e
theorem Ex.mut {H H' : Hp} {p : Addr} {o : HO} (e : Ex H H') (h : H p = none) : Ex H (upd H' p o) := fun a u ha => by
  rw [upd_ne (ne_of_none ha h)]
  exact e a u ha
theorem Ex.both {H H' : Hp} {p : Addr} {o : HO} (e : Ex H H') : Ex (upd H p o) (upd H' p o) := fun a u ha => by
  by_cases h : a = p
  · subst h
    rw [upd_same] at ha ⊢
    exact ha
  · rw [upd_ne h] at ha ⊢
    exact e a u ha
theorem Ex.back {H H' : Hp} {p : Addr} (e : Ex H H') (h : H' p = none) : H p = none := by
  cases h1 : H p with
  | none => rfl
  | some o => rw [e p o h1] at h; cases h
theorem Ex.rd {H H' : Hp} {a : Addr} {u : HO} (e : Ex H H') (h : Rd H a u) : Rd H' a u := by
  rcases h with h | ⟨o, h⟩
  · exact Or.inl (e a _ h)
  · exact Or.inr ⟨o, e a _ h⟩
theorem Ex.l {K : PySem.W.Frag} {H H' : Hp} {a : Addr} {xs : List V} (e : Ex H H') (h : SqL K H a xs) : SqL K H' a xs := by
  rcases h with h | h
  · exact Or.inl (e.rd h)
  · exact Or.inr h
theorem Ex.t {K : PySem.W.Frag} {H H' : Hp} {a : Addr} {xs : List V} (e : Ex H H') (h : SqT K H a xs) : SqT K H' a xs := by
  rcases h with h | h
  · exact Or.inl (e.rd h)
  · exact Or.inr h

/-! ### what stands for data -/
abbrev Lim : Nat := 100000
theorem lim_size {n : Nat} (h : n ≤ Lim) : n ≤ sizeLine := by rw [sizeLine_eq]; exact Nat.le_trans h (by decide)
theorem lim_lt {n : Nat} (h : n ≤ Lim) : n < sizeLine := by rw [sizeLine_eq]; exact Nat.lt_of_le_of_lt h (by decide)
abbrev st (s : List Nat) : Str := ⟨s.toArray⟩
/-- a dict with text keys: tracked, or the module's own -/
def DcT (K : PySem.W.Frag) (w : World) (H : Hp) (a : Addr) (ks : List (List Nat)) (vs : List V) : Prop :=
  (ks.length = vs.length ∧ H a = some (.dK ((ks.map fun k => (Sum.inr (st k) : Key)).zip vs))) ∨
  (∃ es n us, KDict K w a es n ∧ Vals vs us ∧ ks.length = us.length ∧ ∀ z : Str, PySem.W.nsIn K a z = some ((ks.idxOf? z.cps.toList).bind (us[·]?)))
theorem Ex.c {K : PySem.W.Frag} {w : World} {H H' : Hp} {a : Addr} {ks : List (List Nat)} {vs : List V} (e : Ex H H') (h : DcT K w H a ks vs) : DcT K w H' a ks vs := by
  rcases h with ⟨h1, h2⟩ | h
  · exact .inl ⟨h1, e _ _ h2⟩
  · exact .inr h
mutual
inductive DV (K : PySem.W.Frag) (w : World) (H : Hp) : V → D → Prop
  | non : DV K w H .non .non
  | bl (b : Bool) : DV K w H (.bl b) (.bl b)
  | int (i : Int) : DV K w H (.int i) (.int i)
  | str (s : List Nat) : sOk s = true → DV K w H (.str (st s)) (.str s)
  | tup {a : Addr} {vs : List V} {ds : List D} : SqT K H a vs → DVs K w H vs ds → ds.length ≤ Lim → DV K w H (.ref a) (.tup ds)
  | lst {a : Addr} {vs : List V} {ds : List D} : SqL K H a vs → DVs K w H vs ds → ds.length ≤ Lim → DV K w H (.ref a) (.lst ds)
  | dct {a : Addr} {ks : List (List Nat)} {vs : List V} {ds : List D} : DcT K w H a ks vs → DVs K w H vs ds → DV K w H (.ref a) (.dct ks ds)
inductive DVs (K : PySem.W.Frag) (w : World) (H : Hp) : List V → List D → Prop
  | nil : DVs K w H [] []
  | cons {v : V} {vs : List V} {d : D} {ds : List D} : DV K w H v d → DVs K w H vs ds → DVs K w H (v :: vs) (d :: ds)
end
section
variable {K : PySem.W.Frag} {w : World} {H H' : Hp}
mutual
theorem DV.mono (e : Ex H H') : ∀ {v : V} {d : D}, DV K w H v d → DV K w H' v d
  | _, _, .non => .non
  | _, _, .bl b => .bl b
  | _, _, .int i => .int i
  | _, _, .str s h => .str s h
  | _, _, .tup h q l => .tup (e.t h) (DVs.mono e q) l
  | _, _, .lst h q l => .lst (e.l h) (DVs.mono e q) l
  | _, _, .dct h q => .dct (e.c h) (DVs.mono e q)
theorem DVs.mono (e : Ex H H') : ∀ {v : List V} {d : List D}, DVs K w H v d → DVs K w H' v d
  | _, _, .nil => .nil
  | _, _, .cons h q => .cons (DV.mono e h) (DVs.mono e q)
end
theorem DVs.length : ∀ {vs : List V} {ds : List D}, DVs K w H vs ds → vs.length = ds.length
  | _, _, .nil => rfl
  | _, _, .cons _ q => by rw [List.length_cons, List.length_cons, DVs.length q]
theorem DVs.append : ∀ {vs us : List V} {ds es : List D}, DVs K w H vs ds → DVs K w H us es → DVs K w H (vs ++ us) (ds ++ es)
  | _, _, _, _, .nil, h => h
  | _, _, _, _, .cons h q, r => .cons h (DVs.append q r)
theorem DVs.take : ∀ {vs : List V} {ds : List D} (n : Nat), DVs K w H vs ds → DVs K w H (vs.take n) (ds.take n)
  | _, _, 0, _ => by rw [List.take_zero, List.take_zero]; exact .nil
  | _, _, _ + 1, .nil => .nil
  | _, _, n + 1, .cons h q => .cons h (DVs.take n q)
theorem DVs.drop : ∀ {vs : List V} {ds : List D} (n : Nat), DVs K w H vs ds → DVs K w H (vs.drop n) (ds.drop n)
  | _, _, 0, r => r
  | _, _, _ + 1, .nil => .nil
  | _, _, n + 1, .cons _ q => DVs.drop n q
theorem DVs.get : ∀ {vs : List V} {ds : List D} {i : Nat} {d : D}, DVs K w H vs ds → ds[i]? = some d → ∃ v, vs[i]? = some v ∧ DV K w H v d
  | _, _, _, _, .nil, e => by simp at e
  | _, _, 0, _, .cons h _, e => by simp at e; subst e; exact ⟨_, rfl, h⟩
  | _, _, i + 1, d, .cons _ q, e => by
    obtain ⟨v, h1, h2⟩ := DVs.get (i := i) (d := d) q (by simpa using e)
    exact ⟨v, by simpa using h1, h2⟩
theorem DVs.getV : ∀ {vs : List V} {ds : List D} {i : Nat} {v : V}, DVs K w H vs ds → vs[i]? = some v → ∃ d, ds[i]? = some d ∧ DV K w H v d
  | _, _, _, _, .nil, e => by simp at e
  | _, _, 0, _, .cons h _, e => by simp at e; subst e; exact ⟨_, rfl, h⟩
  | _, _, i + 1, d, .cons _ q, e => by
    obtain ⟨v, h1, h2⟩ := DVs.getV (i := i) (v := d) q (by simpa using e)
    exact ⟨v, by simpa using h1, h2⟩
theorem DVs.set {v : V} {d : D} (h : DV K w H v d) : ∀ {vs : List V} {ds : List D} (i : Nat), DVs K w H vs ds → DVs K w H (vs.set i v) (ds.set i d)
  | _, _, _, .nil => .nil
  | _, _, 0, .cons _ q => .cons h q
  | _, _, i + 1, .cons g q => .cons g (DVs.set h i q)
theorem DVs.snoc {vs : List V} {ds : List D} {v : V} {d : D} (h : DVs K w H vs ds) (q : DV K w H v d) : DVs K w H (vs ++ [v]) (ds ++ [d]) := h.append (.cons q .nil)
end

/-- the state grows: nothing that stood changes; F: what is data for ever, H: all -/
structure Grow (F H F' H' : Hp) : Prop where
  f : Ex F F'
  fh : Ex F' H'
  h : Ex H H'
  mask : ∀ a, H a ≠ none → F a = none → F' a = none
theorem Grow.refl {F H : Hp} (e : Ex F H) : Grow F H F H := ⟨.refl F, e, .refl H, fun _ _ h => h⟩
theorem Grow.trans {F H F1 H1 F2 H2 : Hp} (a : Grow F H F1 H1) (b : Grow F1 H1 F2 H2) : Grow F H F2 H2 :=
  ⟨a.f.trans b.f, b.fh, a.h.trans b.h, fun x h n => b.mask x (fun z => h (a.h.back z)) (a.mask x h n)⟩
/-- a new thing that is data for ever -/
theorem Grow.data {F H : Hp} {p : Addr} {o : HO} (e : Ex F H) (h : H p = none) : Grow F H (upd F p o) (upd H p o) :=
  ⟨.new (e.back h), e.both, .new h, fun a ha n => by
    have : a ≠ p := fun z => by subst z; exact ha h
    rw [upd_ne this]; exact n⟩
/-- a new thing that may change -/
theorem Grow.own {F H : Hp} {p : Addr} {o : HO} (e : Ex F H) (h : H p = none) : Grow F H F (upd H p o) :=
  ⟨.refl F, e.mut (e.back h), .new h, fun _ _ n => n⟩

/-- an operand: data, or a list that stands there now -/
def Op (K : PySem.W.Frag) (w : World) (F H : Hp) (x : V) (d : D) : Prop :=
  DV K w F x d ∨ ∃ p vs ys, x = .ref p ∧ d = .lst ys ∧ H p = some (.lst vs) ∧ DVs K w F vs ys ∧ ys.length ≤ Lim
theorem Op.now {K : PySem.W.Frag} {w : World} {F H : Hp} {x : V} {d : D} (e : Ex F H) (h : Op K w F H x d) : DV K w H x d := by
  rcases h with h | ⟨p, vs, ys, rfl, rfl, h, q, l⟩
  · exact h.mono e
  · exact .lst (SqL.of h) (q.mono e) l
theorem Op.grow {K : PySem.W.Frag} {w : World} {F H F' H' : Hp} {x : V} {d : D} (g : Grow F H F' H') (h : Op K w F H x d) : Op K w F' H' x d := by
  rcases h with h | ⟨p, vs, ys, rfl, rfl, h, q, l⟩
  · exact .inl (h.mono g.f)
  · exact .inr ⟨p, vs, ys, rfl, rfl, g.h _ _ h, q.mono g.f, l⟩
/-- as a sequence: the elements are data for ever -/
theorem Op.lst {K : PySem.W.Frag} {w : World} {F H : Hp} {x : V} {ds : List D} (e : Ex F H) (h : Op K w F H x (.lst ds)) : ∃ p vs, x = .ref p ∧ SqL K H p vs ∧ DVs K w F vs ds ∧ ds.length ≤ Lim := by
  rcases h with h | ⟨p, vs, ys, rfl, e2, h, q, l⟩
  · cases h with
    | lst h q l => exact ⟨_, _, rfl, e.l h, q, l⟩
  · cases e2
    exact ⟨p, vs, rfl, SqL.of h, q, l⟩
theorem Op.tup {K : PySem.W.Frag} {w : World} {F H : Hp} {x : V} {ds : List D} (e : Ex F H) (h : Op K w F H x (.tup ds)) : ∃ p vs, x = .ref p ∧ SqT K H p vs ∧ DVs K w F vs ds ∧ ds.length ≤ Lim ∧ SqT K F p vs := by
  rcases h with h | ⟨p, vs, ys, rfl, e2, h, q, l⟩
  · cases h with
    | tup h q l => exact ⟨_, _, rfl, e.t h, q, l, h⟩
  · cases e2
theorem Op.int {K : PySem.W.Frag} {w : World} {F H : Hp} {x : V} {i : Int} (h : Op K w F H x (.int i)) : x = .int i := by
  rcases h with h | ⟨p, vs, ys, rfl, e2, h, q, l⟩
  · cases h; rfl
  · cases e2
theorem Op.str {K : PySem.W.Frag} {w : World} {F H : Hp} {x : V} {s : List Nat} (h : Op K w F H x (.str s)) : x = .str (st s) ∧ sOk s = true := by
  rcases h with h | ⟨p, vs, ys, rfl, e2, h, q, l⟩
  · cases h with
    | str _ l => exact ⟨rfl, l⟩
  · cases e2
theorem Op.bl {K : PySem.W.Frag} {w : World} {F H : Hp} {x : V} {b : Bool} (h : Op K w F H x (.bl b)) : x = .bl b := by
  rcases h with h | ⟨p, vs, ys, rfl, e2, h, q, l⟩
  · cases h; rfl
  · cases e2
theorem Op.non {K : PySem.W.Frag} {w : World} {F H : Hp} {x : V} (h : Op K w F H x .non) : x = .non := by
  rcases h with h | ⟨p, vs, ys, rfl, e2, h, q, l⟩
  · cases h; rfl
  · cases e2
theorem Op.dct {K : PySem.W.Frag} {w : World} {F H : Hp} {x : V} {ks : List (List Nat)} {ds : List D} (e : Ex F H) (h : Op K w F H x (.dct ks ds)) : ∃ p vs, x = .ref p ∧ DcT K w H p ks vs ∧ DVs K w F vs ds := by
  rcases h with h | ⟨p, vs, ys, rfl, e2, h, q, l⟩
  · cases h with
    | dct h q => exact ⟨_, _, rfl, e.c h, q⟩
  · cases e2

/-- what an operation hands back -/
def Rv (K : PySem.W.Frag) (w : World) (H F' H' : Hp) (u : V) : Val → Prop
  | .p d => DV K w F' u d
  | .f xs => ∃ p vs, u = .ref p ∧ H p = none ∧ F' p = none ∧ H' p = some (.lst vs) ∧ DVs K w F' vs xs ∧ xs.length ≤ Lim
  | .b _ => False
end Cs
end
section
set_option Elab.async false
set_option linter.all false
set_option maxRecDepth 100000
set_option maxHeartbeats 2000000
/-! SOUND 2: operators on data. -/
namespace Cs
open PySem L2 Cz PyProof.Rows
def opOf : Bop → Operator
  | .add => .Add | .sub => .Sub | .mul => .Mult | .fdiv => .FloorDiv | .mod => .Mod | .pow => .Pow | .shl => .LShift | .shr => .RShift | .and => .BitAnd | .or => .BitOr | .xor => .BitXor
/-- a two-place operation on data -/
def rBin (K : PySem.W.Frag) (w : World) (f : D → D → Option Val) : R2 := fun x y H Q => ∃ F dx dy r, Ex F H ∧ Op K w F H x dx ∧ Op K w F H y dy ∧ f dx dy = some r ∧ ∀ u F' H', Grow F H F' H' → Rv K w H F' H' u r → Q u H'
/-- a list and a list, whatever they are -/
def rCatS (K : PySem.W.Frag) : R2 := fun x y H Q => ∃ l b xs zs, x = .ref l ∧ y = .ref b ∧ SqL K H l xs ∧ SqL K H b zs ∧ xs.length + zs.length ≤ sizeLine ∧ ∀ p, H p = none → Q (.ref p) (upd H p (.lst (xs ++ zs)))
theorem op_catS {X : Cx} : OpR X (binaryOp .Add) (rCatS X.K) := by
  intro pins s σ H x y v u Q I rx ry h
  obtain ⟨l, b, xs, zs, rfl, rfl, hH, hB, hz, q⟩ := h
  cases rx
  cases ry
  obtain ⟨its, r, ⟨⟨cls, dd, data, sl⟩, n, ho, hc, hdd, hd⟩, z⟩ := I.list hH
  obtain ⟨its2, r2, ⟨⟨cls2, dd2, data2, sl2⟩, n2, ho2, hc2, hdd2, hd2⟩, z2⟩ := I.list hB
  simp only at hc hd hc2 hd2 hdd hdd2
  subst hc hd hc2 hd2 hdd hdd2
  refine PySem.concat_meets ⟨_, ho, rfl⟩ ⟨_, ho2, rfl⟩ PySem.noFill_list_add PySem.seq_list_add PySem.F.slot_list_add PySem.F.entry_list_add (PySem.F.args_list_add_2 _ _)
    (PyProof.Rows.list_addW l b its.toArray its2.toArray n n2 none none sl sl2 (by rw [List.size_toArray, List.size_toArray, ← r.length, ← r2.length]; exact hz)) ⟨ho, ho2, ?_⟩
  have ea : its.toArray ++ its2.toArray = (its ++ its2).toArray := by simp
  rw [ea]
  exact ⟨.ref _, _, I.lnew (t' := s.toks) (r.append r2) (by rw [List.length_append]; exact hz), rfl, q _ I.fresh⟩

section
variable {K : PySem.W.Frag} {w : World}
theorem st_len (s : List Nat) : (st s).length = s.length := by show (s.toArray).size = _; rw [List.size_toArray]
theorem sOk_len {s : List Nat} (h : sOk s = true) : s.length ≤ Lim := by
  unfold sOk at h
  exact of_decide_eq_true (Bool.and_eq_true_iff.mp h).1
theorem sOk_app {s t : List Nat} (h : sOk s = true) (g : sOk t = true) (l : s.length + t.length ≤ Lim) : sOk (s ++ t) = true := by
  unfold sOk at h g ⊢
  rw [Bool.and_eq_true_iff] at h g ⊢
  refine ⟨decide_eq_true (by rw [List.length_append]; exact l), ?_⟩
  rw [List.all_append, h.2, g.2]; rfl
theorem st_app (s t : List Nat) : st s ++ st t = st (s ++ t) := by
  show Str.append (st s) (st t) = _
  unfold Str.append st
  simp
/-- a scalar comes back: nothing grows -/
theorem Rv.p {H F : Hp} {u : V} {d : D} (h : DV K w F u d) : Rv K w H F H u (.p d) := h
theorem Rv.new {H F H' : Hp} {p : Addr} {vs : List V} {ds : List D} (e : Ex F H) (hp : H p = none) (q : DVs K w F vs ds) (l : ds.length ≤ Lim) : Rv K w H F (upd H p (.lst vs)) (.ref p) (.f ds) :=
  ⟨p, vs, rfl, hp, e.back hp, upd_same, q, l⟩
end
theorem shlOk {i j : Int} (l : 0 ≤ j ∧ j ≤ 100000 ∧ i.natAbs.log2 < 2000000) : CShl i j := by
  obtain ⟨k, rfl⟩ := Int.eq_ofNat_of_zero_le l.1
  refine shl_ok (n := 2000000) ?_ (by omega)
  by_cases z : i.natAbs = 0
  · rw [z]; exact Nat.two_pow_pos _
  · exact (Nat.log2_lt z).mp l.2.2
section
variable {X : Cx}
theorem op_bin (o : Bop) : OpR X (binaryOp (opOf o)) (rBin X.K X.w (binD o)) := by
  intro pins s σ H x y v u Q I rx ry h
  obtain ⟨F, dx, dy, r, e, hx, hy, hb, q⟩ := h
  have g0 : Grow F H F H := .refl e
  unfold binD at hb
  split at hb
  · -- ints
    cases hb
    exact op_add pins s σ H x y v u Q I rx ry ⟨_, _, hx.int, hy.int, q _ F H g0 (.int _)⟩
  · rename_i a b
    split at hb
    · cases hb
      rename_i l
      obtain ⟨ea, la⟩ := hx.str
      obtain ⟨eb, lb⟩ := hy.str
      refine op_add_str pins s σ H x y v u Q I rx ry ⟨_, _, ea, eb, by rw [st_len, st_len]; exact lim_size l, ?_⟩
      rw [st_app]
      exact q _ F H g0 (.str _ (sOk_app la lb l))
    · cases hb
  · split at hb
    · cases hb
      rename_i l
      obtain ⟨p1, v1, e1, s1, q1, l1, t1⟩ := hx.tup e
      obtain ⟨p2, v2, e2, s2, q2, l2, t2⟩ := hy.tup e
      refine op_catA pins s σ H x y v u Q I rx ry ⟨p1, p2, v1, v2, e1, e2, s1, s2, by rw [q1.length, q2.length]; exact lim_size l, fun z => ?_, fun z z2 => ?_, fun _ _ p hp => ?_⟩
      · have zd : ∀ ds, DVs X.K X.w F v1 ds → ds = [] := fun ds h => by subst z; cases h; rfl
        rw [zd _ q1, List.nil_append] at q
        exact q _ F H g0 (.tup t2 q2 l2)
      · have zd : ∀ ds, DVs X.K X.w F v2 ds → ds = [] := fun ds h => by subst z2; cases h; rfl
        rw [zd _ q2, List.append_nil] at q
        exact q _ F H g0 (.tup t1 q1 l1)
      · have g := Grow.data (o := .tup (v1 ++ v2)) e hp
        exact q _ _ _ g (.tup (SqT.of upd_same) ((q1.append q2).mono g.f) (by rw [List.length_append]; exact l))
    · cases hb
  · split at hb
    · cases hb
      rename_i l
      obtain ⟨p1, v1, e1, s1, q1, l1⟩ := hx.lst e
      obtain ⟨p2, v2, e2, s2, q2, l2⟩ := hy.lst e
      refine op_catS pins s σ H x y v u Q I rx ry ⟨p1, p2, v1, v2, e1, e2, s1, s2, by rw [q1.length, q2.length]; exact lim_size l, fun p hp => ?_⟩
      exact q _ F _ (Grow.own e hp) (Rv.new (H' := H) e hp (q1.append q2) (by rw [List.length_append]; exact l))
    · cases hb
  · cases hb
    exact op_sub pins s σ H x y v u Q I rx ry ⟨_, _, hx.int, hy.int, q _ F H g0 (.int _)⟩
  · split at hb
    · cases hb
      rename_i i j l
      refine op_mul pins s σ H x y v u Q I rx ry ⟨_, _, hx.int, hy.int, ?_, q _ F H g0 (.int _)⟩
      unfold Cz.big at l
      rcases l with l | l
      · exact .inl (by omega)
      · exact .inr (by omega)
    · cases hb
  · split at hb
    · cases hb
      rename_i l
      exact op_fdiv pins s σ H x y v u Q I rx ry ⟨_, _, hx.int, hy.int, l, q _ F H g0 (.int _)⟩
    · cases hb
  · split at hb
    · cases hb
      rename_i l
      exact op_mod pins s σ H x y v u Q I rx ry ⟨_, _, hx.int, hy.int, l, q _ F H g0 (.int _)⟩
    · cases hb
  · split at hb
    · cases hb
      rename_i l
      refine op_pow pins s σ H x y v u Q I rx ry ⟨_, _, hx.int, hy.int, ⟨l.1, by omega, ?_⟩, q _ F H g0 (.int _)⟩
      exact l.2.2
    · cases hb
  · split at hb
    · cases hb
      rename_i l
      exact op_shlW pins s σ H x y v u Q I rx ry ⟨_, _, hx.int, hy.int, shlOk l, q _ F H g0 (.int _)⟩
    · cases hb
  · split at hb
    · cases hb
      rename_i l
      exact op_shr pins s σ H x y v u Q I rx ry ⟨_, _, hx.int, hy.int, l, q _ F H g0 (.int _)⟩
    · cases hb
  · split at hb
    · cases hb
      rename_i l
      refine op_and pins s σ H x y v u Q I rx ry ⟨_, _, hx.int, hy.int, ?_⟩
      show Q (.int (Builtin.bitAnd _ _)) H
      rw [PyProof.Rows.bitAnd_pp l.1 l.2]
      exact q _ F H g0 (.int _)
    · cases hb
  · split at hb
    · cases hb
      rename_i l
      refine op_or pins s σ H x y v u Q I rx ry ⟨_, _, hx.int, hy.int, ?_⟩
      show Q (.int (Builtin.bitOr _ _)) H
      rw [_root_.Bits.bitOr_pp l.1 l.2]
      exact q _ F H g0 (.int _)
    · cases hb
  · split at hb
    · cases hb
      rename_i l
      refine op_xor pins s σ H x y v u Q I rx ry ⟨_, _, hx.int, hy.int, ?_⟩
      show Q (.int (Builtin.bitXor _ _)) H
      rw [_root_.Bits.bitXor_pp l.1 l.2]
      exact q _ F H g0 (.int _)
    · cases hb
  · cases hb
end
end Cs
end
section
set_option Elab.async false
set_option linter.all false
set_option maxRecDepth 100000
set_option maxHeartbeats 2000000
/-! SOUND 3: comparisons of data. -/
namespace Cs
open PySem L2 Cz PyProof.Rows
mutual
def toP : D → PyData
  | .non => .none
  | .bl b => .bool b
  | .int i => .int i
  | .str s => .str (st s)
  | .tup xs => .tuple (toPs xs)
  | .lst xs => .list (toPs xs)
  | .dct _ _ => .none
def toPs : List D → List PyData
  | [] => []
  | x :: r => toP x :: toPs r
end
theorem sOk_strOk {s : List Nat} (h : sOk s = true) : PySem.PyData.strOk (st s) = true := by
  unfold sOk at h
  have h2 := (Bool.and_eq_true_iff.mp h).2
  unfold PySem.PyData.strOk
  show (s.toArray).all _ = true
  simpa using h2
section
variable {K : PySem.W.Frag} {w : World} {H : Hp}
mutual
theorem DV.dp : ∀ {n : Nat} {v : V} {d : D}, DV K w H v d → depLe n d = true → Dp K H v (toP d) ∧ (toP d).canLay0 = true ∧ (toP d).depth ≤ n
  | n, _, _, .non, _ => ⟨.non, rfl, Nat.zero_le _⟩
  | n, _, _, .bl b, _ => ⟨.bl b, rfl, Nat.zero_le _⟩
  | n, _, _, .int i, _ => ⟨.int i, rfl, Nat.zero_le _⟩
  | n, _, _, .str s h, _ => ⟨.str _, sOk_strOk h, Nat.zero_le _⟩
  | 0, _, _, .tup h q _, e => nomatch (show false = true from e)
  | n + 1, _, _, .tup h q _, e => by
    obtain ⟨a, b, c⟩ := DVs.dp q (show depsLe n _ = true from e)
    exact ⟨.tup h a, b, Nat.succ_le_succ c⟩
  | 0, _, _, .lst h q _, e => nomatch (show false = true from e)
  | n + 1, _, _, .lst h q _, e => by
    obtain ⟨a, b, c⟩ := DVs.dp q (show depsLe n _ = true from e)
    exact ⟨.lst h a, b, Nat.succ_le_succ c⟩
  | n, _, _, .dct _ _, e => by
    unfold depLe at e
    cases e
theorem DVs.dp : ∀ {n : Nat} {v : List V} {d : List D}, DVs K w H v d → depsLe n d = true → DpAll K H v (toPs d) ∧ PyData.canLayAll0 (toPs d) = true ∧ PyData.depthAll (toPs d) ≤ n
  | n, _, _, .nil, _ => ⟨.nil, rfl, Nat.zero_le _⟩
  | n, _, _, .cons h q, e => by
    have e' := Bool.and_eq_true_iff.mp (show (depLe n _ && depsLe n _) = true from e)
    obtain ⟨a, b, c⟩ := DV.dp h e'.1
    obtain ⟨a2, b2, c2⟩ := DVs.dp q e'.2
    exact ⟨.cons a a2, by show (PyData.canLay0 _ && PyData.canLayAll0 _) = true; rw [b, b2]; rfl, Nat.max_le.mpr ⟨c, c2⟩⟩
end
end
theorem st_beq (s t : List Nat) : (st s == st t) = (s == t) := by
  rw [Bool.eq_iff_iff]
  simp only [beq_iff_eq]
  constructor
  · intro h
    have h2 : s.toArray = t.toArray := congrArg Str.cps h
    simpa using h2
  · intro h; rw [h]
mutual
theorem eqv_beq : ∀ {n m : Nat} {a b : D}, depLe n a = true → depLe m b = true → PyData.eqv (toP a) (toP b) = D.beq a b := fun {n m a b} ha hb => by
  cases a with
  | dct ks vs => unfold depLe at ha; cases ha
  | non => cases b <;> first | rfl | (unfold depLe at hb; cases hb)
  | bl x => cases b <;> first | rfl | (unfold depLe at hb; cases hb)
  | int x => cases b <;> first | rfl | (unfold depLe at hb; cases hb)
  | str x =>
    cases b with
    | str y =>
      show (st x == st y) = (x == y)
      exact st_beq _ _
    | dct _ _ => unfold depLe at hb; cases hb
    | _ => rfl
  | tup xs =>
    cases b with
    | tup ys =>
      cases n with
      | zero => unfold depLe at ha; cases ha
      | succ n =>
        cases m with
        | zero => unfold depLe at hb; cases hb
        | succ m => exact eqv_beqs (n := n) (m := m) ha hb
    | dct _ _ => unfold depLe at hb; cases hb
    | _ => rfl
  | lst xs =>
    cases b with
    | lst ys =>
      cases n with
      | zero => unfold depLe at ha; cases ha
      | succ n =>
        cases m with
        | zero => unfold depLe at hb; cases hb
        | succ m => exact eqv_beqs (n := n) (m := m) ha hb
    | dct _ _ => unfold depLe at hb; cases hb
    | _ => rfl
theorem eqv_beqs : ∀ {n m : Nat} {a b : List D}, depsLe n a = true → depsLe m b = true → PyData.eqvAll (toPs a) (toPs b) = D.beqs a b := fun {n m a b} ha hb => by
  cases a with
  | nil => cases b <;> rfl
  | cons x r =>
    cases b with
    | nil => rfl
    | cons y q =>
      have ha' := Bool.and_eq_true_iff.mp (show (depLe n _ && depsLe n _) = true from ha)
      have hb' := Bool.and_eq_true_iff.mp (show (depLe m _ && depsLe m _) = true from hb)
      show (PyData.eqv (toP x) (toP y) && PyData.eqvAll (toPs r) (toPs q)) = (D.beq x y && D.beqs r q)
      rw [eqv_beq ha'.1 hb'.1, eqv_beqs ha'.2 hb'.2]
end
section
variable {K : PySem.W.Frag} {w : World} {H : Hp}
theorem DV.flat {v : V} {d : D} (h : DV K w H v d) (f : flat d = true) : flatV v = true := by
  cases h <;> first | rfl | (unfold Cz.flat at f; cases f)
theorem DVs.flat : ∀ {vs : List V} {ds : List D}, DVs K w H vs ds → ds.all Cz.flat = true → vs.all flatV = true
  | _, _, .nil, _ => rfl
  | _, _, .cons h q, f => by
    rw [List.all_cons, Bool.and_eq_true] at f ⊢
    exact ⟨h.flat f.1, DVs.flat q f.2⟩
theorem DV.eqV {v u : V} {d e : D} (h : DV K w H v d) (g : DV K w H u e) (f : Cz.flat d = true) (f' : Cz.flat e = true) : L2.eqV v u = D.beq d e := by
  cases h with
  | tup _ _ _ => unfold Cz.flat at f; cases f
  | lst _ _ _ => unfold Cz.flat at f; cases f
  | dct _ _ => unfold Cz.flat at f; cases f
  | non => cases g <;> first | rfl | (unfold Cz.flat at f'; cases f')
  | bl x => cases g <;> first | rfl | (unfold Cz.flat at f'; cases f')
  | int x => cases g <;> first | rfl | (unfold Cz.flat at f'; cases f')
  | str x _ =>
    cases g with
    | str y _ =>
      show (st x == st y) = (x == y)
      exact st_beq _ _
    | tup _ _ _ => unfold Cz.flat at f'; cases f'
    | lst _ _ _ => unfold Cz.flat at f'; cases f'
    | dct _ _ => unfold Cz.flat at f'; cases f'
    | _ => rfl
theorem DVs.mem {u : V} {e : D} (g : DV K w H u e) (f' : Cz.flat e = true) : ∀ {vs : List V} {ds : List D}, DVs K w H vs ds → ds.all Cz.flat = true → inV u vs = memD e ds
  | _, _, .nil, _ => rfl
  | _, _, .cons h q, f => by
    rw [List.all_cons, Bool.and_eq_true] at f
    show (L2.eqV _ u || inV u _) = (D.beq _ e || memD e _)
    rw [h.eqV g f.1 f', DVs.mem g f' q f.2]
end
def copOf : Cop → CmpOp
  | .eq => .Eq | .ne => .NotEq | .lt => .Lt | .le => .LtE | .gt => .Gt | .ge => .GtE | .in_ => .In | .nin => .NotIn | .isN => .Is | .nisN => .IsNot
def rCmp (K : PySem.W.Frag) (w : World) (o : Cop) : R2 := fun x y H Q => ∃ F dx dy b, Ex F H ∧ Op K w F H x dx ∧ Op K w F H y dy ∧ cmpD o dx dy = some b ∧ Q (.bl b) H
section
variable {X : Cx}
theorem isnon {K : PySem.W.Frag} {w : World} {H : Hp} {x : V} {d : D} (h : DV K w H x d) : decide (x = V.non) = isNon d := by
  cases h <;> rfl
/-- k in a dict with text keys -/
theorem valV_zip {k : List Nat} : ∀ (ks : List (List Nat)) (vs : List V), ks.length = vs.length → valV ((ks.map fun k => (Sum.inr (st k) : Key)).zip vs) (Sum.inr (st k)) = (ks.idxOf? k).bind (vs[·]?) := by
  intro ks
  induction ks with
  | nil => intro vs _; cases vs <;> rfl
  | cons a r ih =>
    intro vs hl
    cases vs with
    | nil => simp at hl
    | cons v q =>
      have hl' : r.length = q.length := by simpa using hl
      show valV (((Sum.inr (st a) : Key), v) :: ((r.map fun k => (Sum.inr (st k) : Key)).zip q)) (Sum.inr (st k)) = _
      by_cases e : a = k
      · subst e
        rw [valV_pos rfl]
        have : List.idxOf? a (a :: r) = some 0 := by simp [List.idxOf?, List.findIdx?_cons]
        rw [this]; rfl
      · rw [valV_neg (by
          intro z
          have z2 : st a = st k := Sum.inr.inj z
          exact e (by simpa using congrArg (fun s : Str => s.cps.toList) z2)), ih q hl']
        have : List.idxOf? k (a :: r) = (List.idxOf? k r).map (· + 1) := by simp [List.idxOf?, List.findIdx?_cons, e]
        rw [this]
        cases List.idxOf? k r <;> rfl
theorem dct_get {K : PySem.W.Frag} {w : World} {H : Hp} {a : Addr} {ks : List (List Nat)} {vs : List V} (k : List Nat) (h : ks.length = vs.length ∧ H a = some (.dK ((ks.map fun k => (Sum.inr (st k) : Key)).zip vs))) : DGet H a (.str (st k)) ((ks.idxOf? k).bind (vs[·]?)) := by
  rw [← valV_zip ks vs h.1]
  exact DGet.k (k := Sum.inr (st k)) h.2
theorem idx_len {k : List Nat} {ks : List (List Nat)} {i : Nat} (h : ks.idxOf? k = some i) : i < ks.length := by
  unfold List.idxOf? at h
  exact (List.findIdx?_eq_some_iff_getElem.mp h).1
theorem idx_contains (k : List Nat) (ks : List (List Nat)) : (ks.idxOf? k).isSome = ks.contains k := by
  induction ks with
  | nil => rfl
  | cons a r ih =>
    by_cases e : a = k
    · subst e; simp [List.idxOf?, List.findIdx?_cons]
    · have h1 : List.idxOf? k (a :: r) = (List.idxOf? k r).map (· + 1) := by simp [List.idxOf?, List.findIdx?_cons, e]
      have h2 : (k == a) = false := by simpa using fun z : k = a => e z.symm
      rw [h1, Option.isSome_map, ih, List.contains_cons, h2, Bool.false_or]
theorem bind_some {α : Type} {k : List Nat} {ks : List (List Nat)} {vs : List α} (hl : ks.length ≤ vs.length) : ((ks.idxOf? k).bind (vs[·]?)).isSome = ks.contains k := by
  rw [← idx_contains]
  cases h : ks.idxOf? k with
  | none => rfl
  | some i =>
    have hi := idx_len h
    show (vs[i]?).isSome = true
    rw [List.getElem?_eq_getElem (by omega)]; rfl
theorem op_cmp (hu : X.A.units + 150 < cLine) (o : Cop) : OpR X (compareOp (copOf o)) (rCmp X.K X.w o) := by
  intro pins s σ H x y v u Q I rx ry h
  obtain ⟨F, dx, dy, b, e, hx, hy, hb, q⟩ := h
  unfold cmpD at hb
  split at hb
  · split at hb
    · cases hb
      rename_i l
      rw [Bool.and_eq_true] at l
      obtain ⟨d1, c1, n1⟩ := (hx.now e).dp l.1
      obtain ⟨d2, c2, n2⟩ := (hy.now e).dp l.2
      obtain ⟨as, r1⟩ := Dp.reads I _ x v d1 rx
      obtain ⟨bs, r2⟩ := Dp.reads I _ y u d2 ry
      refine SeqAt.compareEq_reads r1 r2 c1 c2 (by omega) ⟨.bl _, H, I, rfl, ?_⟩
      rw [eqv_beq l.1 l.2]
      exact q
    · cases hb
  · split at hb
    · cases hb
      rename_i l
      rw [Bool.and_eq_true] at l
      obtain ⟨d1, c1, n1⟩ := (hx.now e).dp l.1
      obtain ⟨d2, c2, n2⟩ := (hy.now e).dp l.2
      obtain ⟨as, r1⟩ := Dp.reads I _ x v d1 rx
      obtain ⟨bs, r2⟩ := Dp.reads I _ y u d2 ry
      refine SeqAt.compareNe_reads r1 r2 c1 c2 (by omega) ⟨.bl _, H, I, rfl, ?_⟩
      rw [eqv_beq l.1 l.2]
      exact q
    · cases hb
  · cases hb
    exact op_lt pins s σ H x y v u Q I rx ry ⟨_, _, hx.int, hy.int, q⟩
  · cases hb
    exact op_le pins s σ H x y v u Q I rx ry ⟨_, _, hx.int, hy.int, q⟩
  · cases hb
    exact op_gt pins s σ H x y v u Q I rx ry ⟨_, _, hx.int, hy.int, q⟩
  · cases hb
    exact op_ge pins s σ H x y v u Q I rx ry ⟨_, _, hx.int, hy.int, q⟩
  · cases hb
    exact op_lt_str pins s σ H x y v u Q I rx ry ⟨_, _, hx.str.1, hy.str.1, q⟩
  · cases hb
    exact op_le_str pins s σ H x y v u Q I rx ry ⟨_, _, hx.str.1, hy.str.1, q⟩
  · split at hb
    · cases hb
      rename_i l
      rw [Bool.and_eq_true] at l
      obtain ⟨p, vs, rfl, sq, qs, _, _⟩ := hy.tup e
      refine op_in_seq pins s σ H x _ v u Q I rx ry ⟨p, vs, rfl, .inr sq, (hx.now e).flat l.1, qs.flat l.2, ?_⟩
      rw [if_neg Bool.false_ne_true, DVs.mem (hx.now e) l.1 (qs.mono e) l.2]
      exact q
    · cases hb
  · split at hb
    · cases hb
      rename_i l
      rw [Bool.and_eq_true] at l
      obtain ⟨p, vs, rfl, sq, qs, _⟩ := hy.lst e
      refine op_in_seq pins s σ H x _ v u Q I rx ry ⟨p, vs, rfl, .inl sq, (hx.now e).flat l.1, qs.flat l.2, ?_⟩
      rw [if_neg Bool.false_ne_true, DVs.mem (hx.now e) l.1 (qs.mono e) l.2]
      exact q
    · cases hb
  · split at hb
    · cases hb
      rename_i l
      rw [Bool.and_eq_true] at l
      obtain ⟨p, vs, rfl, sq, qs, _, _⟩ := hy.tup e
      refine op_notIn_seq pins s σ H x _ v u Q I rx ry ⟨p, vs, rfl, .inr sq, (hx.now e).flat l.1, qs.flat l.2, ?_⟩
      rw [if_pos rfl, DVs.mem (hx.now e) l.1 (qs.mono e) l.2]
      exact q
    · cases hb
  · split at hb
    · cases hb
      rename_i l
      rw [Bool.and_eq_true] at l
      obtain ⟨p, vs, rfl, sq, qs, _⟩ := hy.lst e
      refine op_notIn_seq pins s σ H x _ v u Q I rx ry ⟨p, vs, rfl, .inl sq, (hx.now e).flat l.1, qs.flat l.2, ?_⟩
      rw [if_pos rfl, DVs.mem (hx.now e) l.1 (qs.mono e) l.2]
      exact q
    · cases hb
  · cases hb
    obtain ⟨rfl, _⟩ := hx.str
    obtain ⟨p, vs, rfl, dc, qs⟩ := hy.dct e
    cases (show u = Value.ref p from ry)
    rcases dc with dc | ⟨es, n, us, kd, rv, hl, hz⟩
    · refine d_in (by omega) I (dct_get (K := X.K) (w := X.w) _ dc) rx fun s' I' => ⟨.bl _, H, I', rfl, ?_⟩
      rw [bind_some (Nat.le_of_eq dc.1)]
      exact q
    · refine op_in_kd kd pins s σ H _ (.ref p) v (.ref p) Q I rx rfl ⟨_, _, rfl, rfl, hz _, ?_⟩
      rw [bind_some (Nat.le_of_eq hl)]
      exact q
  · cases hb
    obtain ⟨rfl, _⟩ := hx.str
    obtain ⟨p, vs, rfl, dc, qs⟩ := hy.dct e
    cases (show u = Value.ref p from ry)
    rcases dc with dc | ⟨es, n, us, kd, rv, hl, hz⟩
    · refine d_notIn (by omega) I (dct_get (K := X.K) (w := X.w) _ dc) rx fun s' I' => ⟨.bl _, H, I', rfl, ?_⟩
      rw [bind_some (Nat.le_of_eq dc.1)]
      exact q
    · refine op_notIn_kd kd pins s σ H _ (.ref p) v (.ref p) Q I rx rfl ⟨_, _, rfl, rfl, hz _, ?_⟩
      rw [bind_some (Nat.le_of_eq hl)]
      exact q
  · cases hb
    have ey := hy.non
    subst ey
    refine op_isN pins s σ H x _ v u Q I rx ry ⟨rfl, ?_⟩
    rw [isnon (hx.now e)]
    exact q
  · cases hb
    have ey := hy.non
    subst ey
    refine op_notN pins s σ H x _ v u Q I rx ry ⟨rfl, ?_⟩
    rw [isnon (hx.now e)]
    exact q
  · cases hb
end
end Cs
end
section
set_option Elab.async false
set_option linter.all false
set_option maxRecDepth 100000
set_option maxHeartbeats 2000000
/-! SOUND 4: items, slices, truth, built-ins by data. -/
namespace Cs
open PySem L2 Cz PyProof.Rows
section
variable {K : PySem.W.Frag} {w : World} {H F : Hp}
theorem at_ix {vs : List V} {ds : List D} {i : Int} {d : D} (q : DVs K w F vs ds) (h : (pix ds.length i).bind (ds[·]?) = some d) : ∃ v, atI vs i = some v ∧ DV K w F v d := by
  cases e : pix ds.length i with
  | none => rw [e] at h; cases h
  | some j =>
    rw [e] at h
    obtain ⟨v, h1, h2⟩ := q.get (show ds[j]? = some d from h)
    refine ⟨v, ?_, h2⟩
    unfold atI
    rw [q.length, show ixN ds.length i = some j from e]
    exact h1
theorem sOk_mem {s : List Nat} (h : sOk s = true) {c : Nat} (hc : c ∈ s) : c < 1114112 := by
  unfold sOk at h
  have h2 := List.all_eq_true.mp (Bool.and_eq_true_iff.mp h).2 c hc
  exact of_decide_eq_true h2
theorem sOk_one {c : Nat} (h : c < 1114112) : sOk [c] = true := by
  unfold sOk
  rw [Bool.and_eq_true]
  refine ⟨decide_eq_true (by show 1 ≤ 100000; decide), ?_⟩
  rw [List.all_cons, List.all_nil, Bool.and_true]
  exact decide_eq_true h
theorem sOk_sub {s t : List Nat} (h : sOk s = true) (hl : t.length ≤ s.length) (hm : ∀ c ∈ t, c ∈ s) : sOk t = true := by
  have hl2 := sOk_len h
  unfold sOk
  rw [Bool.and_eq_true]
  refine ⟨decide_eq_true (Nat.le_trans hl hl2), List.all_eq_true.mpr fun c hc => decide_eq_true (sOk_mem h (hm c hc))⟩
end
theorem item_dct {ks : List (List Nat)} {ds : List D} {k : List Nat} {d : D} (h : (ks.idxOf? k).bind (ds[·]?) = some d) : ∃ j, ks.idxOf? k = some j ∧ ds[j]? = some d := by
  cases e : ks.idxOf? k with
  | none => rw [e] at h; cases h
  | some j => rw [e] at h; exact ⟨j, rfl, h⟩
theorem dct_at {K : PySem.W.Frag} {w : World} {H : Hp} {a : Addr} {ks : List (List Nat)} {vs : List V} {k : List Nat} {j : Nat} {z : V} (h : ks.length = vs.length ∧ H a = some (.dK ((ks.map fun k => (Sum.inr (st k) : Key)).zip vs)))
    (ej : ks.idxOf? k = some j) (h1 : vs[j]? = some z) : DGet H a (.str (st k)) (some z) := by
  have g := dct_get (K := K) (w := w) k h
  rw [ej] at g
  rw [← h1]
  exact g
theorem dct_ns {K : PySem.W.Frag} {p : Addr} {ks : List (List Nat)} {us : List Value} {k : List Nat} {j : Nat} {u : Value} (hz : ∀ z : Str, PySem.W.nsIn K p z = some ((ks.idxOf? z.cps.toList).bind (us[·]?)))
    (ej : ks.idxOf? k = some j) (h1 : us[j]? = some u) : PySem.W.nsIn K p (st k) = some (some u) := by
  have g := hz (st k)
  rw [show (st k).cps.toList = k from rfl, ej] at g
  rw [g, ← h1]
  rfl
/-- a[b] by data -/
def rIdx (K : PySem.W.Frag) (w : World) : R2 := fun x y H Q => ∃ F dx dy d, Ex F H ∧ Op K w F H x dx ∧ Op K w F H y dy ∧ item dx dy = some d ∧ ∀ v, DV K w F v d → Q v H
section
variable {X : Cx}
theorem ix_dat (hu : X.A.units + 150 < cLine) : IxR X (rIdx X.K X.w) := by
  intro value slice pins s σ H x y v u Q I rx ry h hs
  obtain ⟨F, dx, dy, d, e, hx, hy, hb, q⟩ := h
  unfold item at hb
  split at hb
  · obtain ⟨p, vs, e1, sq, qs, l, _⟩ := hx.tup e
    obtain ⟨z, h1, h2⟩ := at_ix qs hb
    exact ix_tup value slice pins s σ H x y v u Q I rx ry ⟨p, vs, _, z, e1, hy.int, sq, h1, q z h2⟩ hs
  · obtain ⟨p, vs, e1, sq, qs, l⟩ := hx.lst e
    obtain ⟨z, h1, h2⟩ := at_ix qs hb
    exact ix_list value slice pins s σ H x y v u Q I rx ry ⟨p, vs, _, z, e1, hy.int, sq, h1, q z h2⟩ hs
  · obtain ⟨e1, l⟩ := hx.str
    rename_i xs i
    cases ej : pix xs.length i with
    | none => rw [ej] at hb; cases hb
    | some j =>
      rw [ej] at hb
      have hb' : (xs[j]?).map (fun c => D.str [c]) = some d := hb
      cases ec : xs[j]? with
      | none => rw [ec] at hb'; cases hb'
      | some c =>
        rw [ec] at hb'
        cases hb'
        refine ix_str value slice pins s σ H x y v u Q I rx ry ⟨_, i, c, e1, hy.int, by rw [st_len]; exact lim_size (sOk_len l), ?_, ?_⟩ hs
        · unfold atI
          show (ixN xs.toArray.toList.length i).bind _ = _
          rw [show xs.toArray.toList = xs from rfl, show ixN xs.length i = some j from ej]
          exact ec
        · exact q _ (.str [c] (sOk_one (sOk_mem l (List.mem_of_getElem? ec))))
  · obtain ⟨e2, _⟩ := hy.str
    obtain ⟨p, vs, rfl, dc, qs⟩ := hx.dct e
    subst e2
    obtain ⟨j, ej, hj⟩ := item_dct hb
    obtain ⟨z, h1, h2⟩ := qs.get hj
    rcases dc with dc | ⟨es, n, us, kd, rv, hl, hz⟩
    · have g' := dct_at (K := X.K) (w := X.w) dc ej h1
      cases (show v = Value.ref p from rx)
      refine tail_any (dict_typeIs I g') slot_dict_getitem.lookup (d_getItem (by omega) I g' ry fun w' s3 I3 rw' => ⟨z, H, I3, rw', q z h2⟩) hs
    · obtain ⟨u0, hu0, ru⟩ := rv.get h1
      have hz2 := dct_ns hz ej hu0
      exact ix_kdict value slice pins s σ H (.ref p) _ v u Q I rx ry ⟨p, st _, z, rfl, rfl, ⟨es, n, u0, kd.at_, kd.lit, hz2, ru⟩, q z h2⟩ hs
  · cases hb
/-- a[lo:hi] by data -/
def rSli (K : PySem.W.Frag) (w : World) : V → Option Int → Option Int → Hp → VK → Prop := fun x lo hi H Q => ∃ F dx r, Ex F H ∧ Op K w F H x dx ∧ slice dx lo hi = some r ∧ ∀ u F' H', Grow F H F' H' → Rv K w H F' H' u r → Q u H'
theorem six_eq (n d : Nat) (o : Option Int) : HT.sIx n d o = six n d o := by cases o <;> rfl
theorem cut_eq {xs : List V} {lo hi : Option Int} : cutV xs lo hi = cut xs lo hi := by
  unfold cutV cut
  rw [six_eq, six_eq]
theorem DVs.cut {K : PySem.W.Frag} {w : World} {F : Hp} {vs : List V} {ds : List D} (q : DVs K w F vs ds) (lo hi : Option Int) : DVs K w F (Cz.cut vs lo hi) (Cz.cut ds lo hi) := by
  unfold Cz.cut
  rw [q.length]
  exact (q.drop _).take _
theorem cut_len {α : Type} (xs : List α) (lo hi : Option Int) : (Cz.cut xs lo hi).length ≤ xs.length := by
  unfold Cz.cut
  rw [List.length_take, List.length_drop]
  omega
theorem cut_mem {α : Type} (xs : List α) (lo hi : Option Int) {c : α} (h : c ∈ Cz.cut xs lo hi) : c ∈ xs := by
  unfold Cz.cut at h
  exact List.mem_of_mem_drop (List.mem_of_mem_take h)
theorem cut_whole {α : Type} (xs : List α) (lo hi : Option Int) (h1 : six xs.length 0 lo = 0) (h2 : six xs.length xs.length hi = xs.length) : Cz.cut xs lo hi = xs := by
  unfold Cz.cut
  rw [h1, h2, List.drop_zero, Nat.sub_zero, List.take_length]
theorem sl_dat : SlR X (rSli X.K X.w) := by
  intro pins s σ H x v vl vu lo hi sl Q I rx hs pl pu h
  obtain ⟨F, dx, r, e, hx, hb, q⟩ := h
  have g0 : Grow F H F H := .refl e
  unfold slice at hb
  split at hb
  · cases hb
    obtain ⟨p, vs, e1, sq, qs, l, sf⟩ := hx.tup e
    refine sl_tupA pins s σ H x v vl vu lo hi sl Q I rx hs pl pu ⟨p, vs, e1, sq, fun hw => ?_, fun hw p2 hp => ?_⟩
    · rw [six_eq, six_eq, qs.length] at hw
      rw [cut_whole _ _ _ hw.1 hw.2] at q
      exact q _ F H g0 (.tup sf qs l)
    · rw [cut_eq]
      have g := Grow.data (o := .tup (Cz.cut vs lo hi)) e hp
      exact q _ _ _ g (.tup (SqT.of upd_same) ((qs.cut lo hi).mono g.f) (Nat.le_trans (cut_len _ _ _) l))
  · cases hb
    obtain ⟨p, vs, e1, sq, qs, l⟩ := hx.lst e
    refine sl_list pins s σ H x v vl vu lo hi sl Q I rx hs pl pu ⟨p, vs, e1, sq, fun p2 hp => ?_⟩
    rw [cut_eq]
    exact q _ F _ (Grow.own e hp) (Rv.new (H' := H) e hp (qs.cut lo hi) (Nat.le_trans (cut_len _ _ _) l))
  · cases hb
    obtain ⟨e1, l⟩ := hx.str
    rename_i xs
    refine sl_str pins s σ H x v vl vu lo hi sl Q I rx hs pl pu ⟨_, e1, by rw [st_len]; exact lim_size (sOk_len l), ?_⟩
    have ec : cutS (st xs) lo hi = st (Cz.cut xs lo hi) := by
      unfold cutS Cz.cut
      rw [st_len, six_eq, six_eq]
    rw [ec]
    exact q _ F H g0 (.str _ (sOk_sub l (cut_len _ _ _) fun c hc => cut_mem _ _ _ hc))
  · cases hb
/-- truth by data -/
theorem tru_dat {F H : Hp} {x : V} {d : D} {k : Bool} (e : Ex F H) (h : Op X.K X.w F H x d) (ht : truth d = some k) : TruV X.K x H k := by
  unfold truth at ht
  split at ht
  · cases ht; rw [h.non]; exact rfl
  · cases ht; rw [h.bl]; exact rfl
  · cases ht; rw [h.int]; exact rfl
  · cases ht
    obtain ⟨e1, l⟩ := h.str
    rw [e1]
    refine ⟨by rw [st_len]; exact lim_size (sOk_len l), ?_⟩
    rw [st_len, Bool.eq_iff_iff]
    simp
  · cases ht
    obtain ⟨p, vs, e1, sq, qs, l, _⟩ := h.tup e
    rw [e1]
    refine .inr (.inl ⟨vs, sq, ?_⟩)
    cases qs <;> rfl
  · cases ht
    obtain ⟨p, vs, e1, sq, qs, l⟩ := h.lst e
    rw [e1]
    refine .inl ⟨vs, sq, ?_⟩
    cases qs <;> rfl
  · cases ht
end
end Cs
end
section
set_option Elab.async false
set_option linter.all false
set_option maxRecDepth 100000
set_option maxHeartbeats 2000000
/-! SOUND 5: built-in functions by data. -/
namespace Cs
open PySem L2 Cz PyProof.Rows
/-- operands in a row -/
inductive Ops (K : PySem.W.Frag) (w : World) (F H : Hp) : List V → List D → Prop
  | nil : Ops K w F H [] []
  | cons {v : V} {vs : List V} {d : D} {ds : List D} : Op K w F H v d → Ops K w F H vs ds → Ops K w F H (v :: vs) (d :: ds)
def biOf : Bi → Value
  | .len => .builtin "len" | .int => .type "int" | .abs => .builtin "abs" | .tuple => .type "tuple" | .list => .type "list" | .all => .builtin "all" | .any => .builtin "any"
  | .max2 => .builtin "max" | .min2 => .builtin "min" | .sorted => .builtin "sorted" | .sum => .builtin "sum" | .set_ => .type "set"
def rBi (K : PySem.W.Frag) (w : World) (b : Bi) : List V → Hp → VK → Prop := fun xs H Q => ∃ F ds r, Ex F H ∧ Ops K w F H xs ds ∧ biD b ds = some r ∧ ∀ u F' H', Grow F H F' H' → Rv K w H F' H' u r → Q u H'
theorem ops1 {K : PySem.W.Frag} {w : World} {F H : Hp} {xs : List V} {d : D} (h : Ops K w F H xs [d]) : ∃ x, xs = [x] ∧ Op K w F H x d := by
  cases h with
  | cons h q => cases q; exact ⟨_, rfl, h⟩
theorem ops2 {K : PySem.W.Frag} {w : World} {F H : Hp} {xs : List V} {d e : D} (h : Ops K w F H xs [d, e]) : ∃ x y, xs = [x, y] ∧ Op K w F H x d ∧ Op K w F H y e := by
  cases h with
  | cons h q =>
    obtain ⟨y, rfl, h2⟩ := ops1 q
    exact ⟨_, _, rfl, h, h2⟩
theorem allBl_ok {K : PySem.W.Frag} {w : World} {F : Hp} : ∀ {vs : List V} {ds : List D} {bs : List Bool}, DVs K w F vs ds → allBl ds = some bs → vs = bs.map V.bl
  | _, _, _, .nil, h => by cases h; rfl
  | _, _, bs, .cons (d := d) (ds := r) g q, h => by
    cases d with
    | bl b =>
      cases e : allBl r with
      | none => unfold allBl at h; rw [e] at h; cases h
      | some cs =>
        unfold allBl at h
        rw [e] at h
        cases h
        cases g
        rw [allBl_ok q e]; rfl
    | _ => unfold allBl at h; cases h
section
variable {X : Cx}
theorem call_bi (hc : X.calm = true) (b : Bi) : CallR X (biOf b) (rBi X.K X.w b) := by
  intro pins s σ H xs us Q I rs h
  obtain ⟨F, ds, r, e, ho, hb, q⟩ := h
  have g0 : Grow F H F H := .refl e
  unfold biD at hb
  split at hb
  · cases hb
    obtain ⟨x, rfl, hx⟩ := ops1 ho
    obtain ⟨rfl, l⟩ := hx.str
    refine call_len_str pins s σ H _ us Q I rs ⟨_, rfl, by rw [st_len]; exact lim_size (sOk_len l), ?_⟩
    rw [st_len]
    exact q _ F H g0 (.int _)
  · cases hb
    obtain ⟨x, rfl, hx⟩ := ops1 ho
    obtain ⟨p, vs, rfl, sq, qs, l, _⟩ := hx.tup e
    refine call_len_seq pins s σ H _ us Q I rs ⟨p, vs, rfl, .inr sq, ?_⟩
    rw [qs.length]
    exact q _ F H g0 (.int _)
  · cases hb
    obtain ⟨x, rfl, hx⟩ := ops1 ho
    obtain ⟨p, vs, rfl, sq, qs, l⟩ := hx.lst e
    refine call_len_seq pins s σ H _ us Q I rs ⟨p, vs, rfl, .inl sq, ?_⟩
    rw [qs.length]
    exact q _ F H g0 (.int _)
  · cases hb
    obtain ⟨x, rfl, hx⟩ := ops1 ho
    cases hx.int
    exact call_int1 pins s σ H _ us Q I rs (.inl ⟨_, rfl, q _ F H g0 (.int _)⟩)
  · cases hb
    obtain ⟨x, rfl, hx⟩ := ops1 ho
    cases hx.int
    rename_i i _
    refine call_abs pins s σ H _ us Q I rs ⟨_, rfl, ?_⟩
    have ei : ∀ j : Int, (if j < 0 then -j else j) = (j.natAbs : Int) := fun j => by split <;> omega
    rw [ei]
    exact q _ F H g0 (.int _)
  · cases hb
    obtain ⟨x, rfl, hx⟩ := ops1 ho
    obtain ⟨p, vs, rfl, sq, qs, l, sf⟩ := hx.tup e
    exact call_tuple_of pins s σ H _ us Q I rs ⟨p, vs, rfl, .inr ⟨sq, q _ F H g0 (.tup sf qs l)⟩⟩
  · cases hb
    obtain ⟨x, rfl, hx⟩ := ops1 ho
    obtain ⟨p, vs, rfl, sq, qs, l⟩ := hx.lst e
    refine call_tuple_of pins s σ H _ us Q I rs ⟨p, vs, rfl, .inl ⟨sq, fun p2 hp => ?_⟩⟩
    have g := Grow.data (o := .tup vs) e hp
    exact q _ _ _ g (.tup (SqT.of upd_same) (qs.mono g.f) l)
  · cases hb
    obtain ⟨x, rfl, hx⟩ := ops1 ho
    obtain ⟨p, vs, rfl, sq, qs, l, sf⟩ := hx.tup e
    exact call_list_of pins s σ H _ us Q I rs ⟨p, vs, rfl, .inr sq, fun p2 hp => q _ F _ (Grow.own e hp) (Rv.new (H' := H) e hp qs l)⟩
  · cases hb
    obtain ⟨x, rfl, hx⟩ := ops1 ho
    obtain ⟨p, vs, rfl, sq, qs, l⟩ := hx.lst e
    exact call_list_of pins s σ H _ us Q I rs ⟨p, vs, rfl, .inl sq, fun p2 hp => q _ F _ (Grow.own e hp) (Rv.new (H' := H) e hp qs l)⟩
  · obtain ⟨x, rfl, hx⟩ := ops1 ho
    obtain ⟨p, vs, rfl, sq, qs, l⟩ := hx.lst e
    obtain ⟨bs, eb, er⟩ := Option.map_eq_some_iff.mp hb
    subst er
    rw [allBl_ok qs eb] at sq
    exact cr_all hc pins s σ H _ us Q I rs ⟨p, bs, rfl, sq, q _ F H g0 (.bl _)⟩
  · obtain ⟨x, rfl, hx⟩ := ops1 ho
    obtain ⟨p, vs, rfl, sq, qs, l⟩ := hx.lst e
    obtain ⟨bs, eb, er⟩ := Option.map_eq_some_iff.mp hb
    subst er
    rw [allBl_ok qs eb] at sq
    exact cr_any hc pins s σ H _ us Q I rs ⟨p, bs, rfl, sq, q _ F H g0 (.bl _)⟩
  · cases hb
    obtain ⟨x, y, rfl, hx, hy⟩ := ops2 ho
    cases hx.int
    cases hy.int
    exact call_max2 hc pins s σ H _ us Q I rs ⟨_, _, rfl, q _ F H g0 (.int _)⟩
  · cases hb
    obtain ⟨x, y, rfl, hx, hy⟩ := ops2 ho
    cases hx.int
    cases hy.int
    exact call_min2 hc pins s σ H _ us Q I rs ⟨_, _, rfl, q _ F H g0 (.int _)⟩
  · cases hb

/-! ### isinstance of built-in types -/
def tyOf : Ty → String
  | .int => "int" | .bool => "bool" | .str => "str" | .tuple => "tuple" | .list => "list"
theorem kt_non : ∀ y, kitB "NoneType" (tyOf y) = some false := fun y => by cases y <;> decide +kernel
theorem kt_bl : ∀ y, kitB "bool" (tyOf y) = some (match y with | .int => true | .bool => true | _ => false) := fun y => by cases y <;> decide +kernel
theorem kt_int : ∀ y, kitB "int" (tyOf y) = some (match y with | .int => true | _ => false) := fun y => by cases y <;> decide +kernel
theorem kt_str : ∀ y, kitB "str" (tyOf y) = some (match y with | .str => true | _ => false) := fun y => by cases y <;> decide +kernel
theorem kt_tup : ∀ y, kitB "tuple" (tyOf y) = some (match y with | .tuple => true | _ => false) := fun y => by cases y <;> decide +kernel
theorem kt_lst : ∀ y, kitB "list" (tyOf y) = some (match y with | .list => true | _ => false) := fun y => by cases y <;> decide +kernel
theorem kt_dct : ∀ y, kitB "dict" (tyOf y) = some false := fun y => by cases y <;> decide +kernel
theorem kit_of' {K : PySem.W.Frag} {a : String} {f g : Cz.Ty → Bool} (h : ∀ y, kitB a (tyOf y) = some (f y)) (e : ∀ y, g y = f y) : ∀ y, PySem.W.kitOne K (.type a) (.type (tyOf y)) = some (g y) := fun y => by
  rw [e]
  exact kit_ty (h y)
theorem kit_ok {F H : Hp} {x : V} {d : D} (e : Ex F H) (h : Op X.K X.w F H x d) : ∃ tv, TyX X.K H x tv ∧ ∀ y, PySem.W.kitOne X.K tv (.type (tyOf y)) = some (isTy d y) := by
  have hn := h.now e
  cases hn with
  | non => exact ⟨_, .base .non, kit_of' kt_non fun y => by cases y <;> rfl⟩
  | bl b => exact ⟨_, .base (.bl b), kit_of' kt_bl fun y => by cases y <;> rfl⟩
  | int i => exact ⟨_, .base (.int i), kit_of' kt_int fun y => by cases y <;> rfl⟩
  | str s _ => exact ⟨_, .base (.str _), kit_of' kt_str fun y => by cases y <;> rfl⟩
  | tup hq _ _ =>
    rcases hq with (hq | ⟨o, hq⟩) | ⟨o, its, n, hk, hc, hd, hz, r⟩
    · exact ⟨_, .base (.tup hq), kit_of' kt_tup fun y => by cases y <;> rfl⟩
    · exact ⟨_, .fTuple hq, kit_of' kt_tup fun y => by cases y <;> rfl⟩
    · exact ⟨_, .kTuple hk hc, kit_of' kt_tup fun y => by cases y <;> rfl⟩
  | lst hq _ _ =>
    rcases hq with (hq | ⟨o, hq⟩) | ⟨o, its, n, hk, hc, hdd, hd, hz, r⟩
    · exact ⟨_, .base (.lst hq), kit_of' kt_lst fun y => by cases y <;> rfl⟩
    · exact ⟨_, .base (.frz hq), kit_of' kt_lst fun y => by cases y <;> rfl⟩
    · exact ⟨_, .kList hk hc, kit_of' kt_lst fun y => by cases y <;> rfl⟩
  | dct hq _ =>
    rcases hq with ⟨_, hq⟩ | ⟨es, n, us, kd, _⟩
    · exact ⟨_, .base (.dK hq), kit_of' kt_dct fun y => by cases y <;> rfl⟩
    · exact ⟨_, .kDict kd.at_ rfl, kit_of' kt_dct fun y => by cases y <;> rfl⟩
/-- isinstance(x, T) -/
def rIs1 (K : PySem.W.Frag) (w : World) (t : Cz.Ty) : List V → Hp → VK → Prop := fun xs H Q => ∃ F x d, Ex F H ∧ xs = [x, .ty (tyOf t)] ∧ Op K w F H x d ∧ Q (.bl (isTy d t)) H
theorem call_is1 (t : Cz.Ty) : CallR X (.builtin "isinstance") (rIs1 X.K X.w t) := by
  intro pins s σ H xs us Q I rs h
  obtain ⟨F, x, d, e, rfl, hx, q⟩ := h
  obtain ⟨tv, ty, k⟩ := kit_ok e hx
  exact call_isi pins s σ H _ us Q I rs ⟨x, .ty (tyOf t), tv, .type (tyOf t), _, rfl, .ty _, ty, k t, q⟩
/-- isinstance(x, (T, T2, ..)), the tuple just laid -/
def rIsT (K : PySem.W.Frag) (w : World) (ts : List Cz.Ty) : List V → Hp → VK → Prop := fun xs H Q => ∃ F x d p, Ex F H ∧ xs = [x, .ref p] ∧ Op K w F H x d ∧ H p = some (.tup (ts.map fun t => .ty (tyOf t))) ∧ Q (.bl (ts.any (isTy d))) H
theorem kit_any {K : PySem.W.Frag} {tv : Value} {d : D} (k : ∀ y, PySem.W.kitOne K tv (.type (tyOf y)) = some (isTy d y)) : ∀ ts : List Cz.Ty, PySem.W.kitAny K tv (ts.map fun t => Value.type (tyOf t)) = some (ts.any (isTy d))
  | [] => rfl
  | t :: r => by
    show (match PySem.W.kitOne K tv (.type (tyOf t)) with | some true => some true | some false => PySem.W.kitAny K tv (r.map fun t => Value.type (tyOf t)) | none => none) = some (isTy d t || r.any (isTy d))
    rw [k t, kit_any k r]
    cases isTy d t <;> rfl
theorem cls_all : ∀ ts : List Cz.Ty, Paired ClsV (ts.map fun t => V.ty (tyOf t)) (ts.map fun t => Value.type (tyOf t))
  | [] => .nil
  | t :: r => .cons (.ty _) (cls_all r)
theorem call_isT (ts : List Cz.Ty) : CallR X (.builtin "isinstance") (rIsT X.K X.w ts) := by
  intro pins s σ H xs us Q I rs h
  obtain ⟨F, x, d, p, e, rfl, hx, hp, q⟩ := h
  obtain ⟨tv, ty, k⟩ := kit_ok e hx
  exact call_isiT pins s σ H _ us Q I rs ⟨x, p, _, tv, _, _, rfl, hp, cls_all ts, ty, kit_any k ts, q⟩
/-! ### text.count('p') -/
def rCount (K : PySem.W.Frag) (w : World) : V → List V → Hp → VK → Prop := fun x xs H Q => ∃ F d ds r, Ex F H ∧ Op K w F H x d ∧ Ops K w F H xs ds ∧ meD .count d ds = some r ∧ ∀ u F' H', Grow F H F' H' → Rv K w H F' H' u r → Q u H'
theorem few_count : (fewSigns.all fun s => decide (PySem.Txt.count (st s) (st [112]) = (s.count 112 : Nat))) = true := by decide +kernel
theorem mt_cnt : MtR X "str.count" (rCount X.K X.w) := by
  intro pins s σ H x xs v us Q I rx rs h
  obtain ⟨F, d, ds, r, e, hx, ho, hm, q⟩ := h
  unfold meD at hm
  split at hm
  · split at hm
    · rename_i l
      cases hm
      rw [Bool.and_eq_true] at l
      obtain ⟨y, rfl, hy⟩ := ops1 ho
      have ec := eq_of_beq l.2
      subst ec
      refine L2.mt_count pins s σ H x _ v us Q I rx rs ⟨_, _, hx.str.1, congrArg (fun z => [z]) hy.str.1, ?_⟩
      have f := of_decide_eq_true (List.all_eq_true.mp few_count _ (List.contains_iff_mem.mp l.1))
      rw [f]
      exact q _ F H (.refl e) (.int _)
    · cases hm
  · cases hm
end
end Cs
end
section
set_option Elab.async false
set_option linter.all false
set_option maxRecDepth 100000
set_option maxHeartbeats 2000000
/-! SOUND 6: an environment of data stands for a frame's slots. -/
namespace Cs
open PySem L2 Cz PyProof.Rows
/-- the entry of a def: what was data for ever there, all, the lent lists by slots -/
structure Bas where
  F0 : Hp
  H0 : Hp
  L : List (Nat × Addr)
structure Rep (K : PySem.W.Frag) (w : World) (B : Bas) (F H : Hp) (σ : List (Option V)) (ρ : List Sl) : Prop where
  fe : Ex B.F0 F
  fh : Ex F H
  len : σ.length = ρ.length
  dat : ∀ (i : Nat) (x : D), ρ[i]? = some (Sl.d x) → ∃ v, σ[i]? = some (some v) ∧ DV K w F v x
  own : ∀ (i : Nat) (l : Bool) (xs : List D), ρ[i]? = some (Sl.own l xs) → ∃ p vs, σ[i]? = some (some (V.ref p)) ∧ F p = none ∧ H p = some (.lst vs) ∧ DVs K w F vs xs ∧ xs.length ≤ Lim ∧ (l = false → B.H0 p = none) ∧ (l = true → (i, p) ∈ B.L)
  apart : ∀ (i j : Nat) (l l' : Bool) (xs ys : List D) (p : Addr), ρ[i]? = some (Sl.own l xs) → ρ[j]? = some (Sl.own l' ys) → σ[i]? = some (some (V.ref p)) → σ[j]? = some (some (V.ref p)) → i = j
  lent : ∀ q ∈ B.L, (∃ xs, ρ[q.1]? = some (Sl.own true xs)) ∧ σ[q.1]? = some (some (V.ref q.2))
  frame : ∀ a o, B.H0 a = some o → (∀ q ∈ B.L, q.2 ≠ a) → H a = some o
  mask : ∀ a, B.H0 a ≠ none → B.F0 a = none → F a = none
section
variable {K : PySem.W.Frag} {w : World} {B : Bas} {F H F' H' : Hp} {σ : List (Option V)} {ρ : List Sl}
theorem Rep.grow (r : Rep K w B F H σ ρ) (g : Grow F H F' H') : Rep K w B F' H' σ ρ where
  fe := r.fe.trans g.f
  fh := g.fh
  len := r.len
  dat := fun i x h => let ⟨v, a, b⟩ := r.dat i x h; ⟨v, a, b.mono g.f⟩
  own := fun i l xs h => let ⟨p, vs, a, b, c, d, e, f1, f2⟩ := r.own i l xs h; ⟨p, vs, a, g.mask p (by rw [c]; simp) b, g.h _ _ c, d.mono g.f, e, f1, f2⟩
  apart := r.apart
  lent := r.lent
  frame := fun a o h1 h2 => g.h _ _ (r.frame a o h1 h2)
  mask := fun a h1 h2 => by
    have n := r.mask a h1 h2
    by_cases hl : ∃ q ∈ B.L, q.2 = a
    · obtain ⟨q, hq, e⟩ := hl
      obtain ⟨⟨xs, hx⟩, hs⟩ := r.lent q hq
      obtain ⟨p, vs, a1, b1, c1, _⟩ := r.own _ _ _ hx
      rw [hs] at a1
      cases a1
      exact g.mask a (by rw [← e, c1]; simp) n
    · cases e : B.H0 a with
      | none => exact absurd e h1
      | some o =>
        have hh := r.frame a o e fun q hq z => hl ⟨q, hq, z⟩
        exact g.mask a (by rw [hh]; simp) n
/-- what is new now was new at the entry -/
theorem Rep.fresh (r : Rep K w B F H σ ρ) {p : Addr} (h : H p = none) : B.H0 p = none := by
  cases e : B.H0 p with
  | none => rfl
  | some o =>
    by_cases hl : ∃ q ∈ B.L, q.2 = p
    · obtain ⟨q, hq, e2⟩ := hl
      obtain ⟨⟨xs, hx⟩, hs⟩ := r.lent q hq
      obtain ⟨p', vs, a1, b1, c1, _⟩ := r.own _ _ _ hx
      rw [hs] at a1
      cases a1
      rw [← e2, c1] at h
      cases h
    · have hh := r.frame p o e fun q hq z => hl ⟨q, hq, z⟩
      rw [hh] at h; cases h
theorem Rep.noOwn (r : Rep K w B F H σ ρ) {p : Addr} (h : H p = none) : ∀ (i : Nat) (l : Bool) (ys : List D), ρ[i]? = some (Sl.own l ys) → σ[i]? ≠ some (some (V.ref p)) := fun i l ys hi hs => by
  obtain ⟨p', vs, a1, _, c1, _⟩ := r.own i l ys hi
  rw [hs] at a1
  cases a1
  rw [h] at c1; cases c1
/-- a list of one's own becomes data for ever -/
theorem Rep.freeze (r : Rep K w B F H σ ρ) {p : Addr} {vs : List V} (hF : F p = none) (hH : H p = some (.lst vs)) (h0 : B.H0 p = none) (hn : ∀ (i : Nat) (l : Bool) (ys : List D), ρ[i]? = some (Sl.own l ys) → σ[i]? ≠ some (some (V.ref p))) : Rep K w B (upd F p (.lst vs)) H σ ρ := by
  have e : Ex F (upd F p (.lst vs)) := .new hF
  exact {
    fe := r.fe.trans e
    fh := fun a o h => by
      by_cases z : a = p
      · subst z; rw [upd_same] at h; cases h; exact hH
      · rw [upd_ne z] at h; exact r.fh _ _ h
    len := r.len
    dat := fun i x h => let ⟨v, a, b⟩ := r.dat i x h; ⟨v, a, b.mono e⟩
    own := fun i l xs h => by
      obtain ⟨q, ws, a, b, c, d, l2, f1, f2⟩ := r.own i l xs h
      have : q ≠ p := fun z => hn i l xs h (by rw [a, z])
      exact ⟨q, ws, a, by rw [upd_ne this]; exact b, c, d.mono e, l2, f1, f2⟩
    apart := r.apart
    lent := r.lent
    frame := r.frame
    mask := fun a h1 h2 => by
      have : a ≠ p := fun z => by subst z; exact h1 h0
      rw [upd_ne this]
      exact r.mask a h1 h2 }
end
/-- what an expression's value is -/
def EvP (K : PySem.W.Frag) (w : World) (B : Bas) (F H : Hp) (σ : List (Option V)) (ρ : List Sl) (v : Val) (x : V) : Prop :=
  match v with
  | .p d => DV K w F x d
  | .f xs => ∃ p vs, x = .ref p ∧ F p = none ∧ H p = some (.lst vs) ∧ DVs K w F vs xs ∧ xs.length ≤ Lim ∧ B.H0 p = none ∧ ∀ (i : Nat) (l : Bool) (ys : List D), ρ[i]? = some (Sl.own l ys) → σ[i]? ≠ some (some (V.ref p))
  | .b i => σ[i]? = some (some x) ∧ ∃ l ys, ρ[i]? = some (Sl.own l ys)
/-- what stays of it -/
def Kp (K : PySem.W.Frag) (w : World) (F : Hp) (σ : List (Option V)) (v : Val) (x : V) : Prop :=
  match v with
  | .p d => DV K w F x d
  | .f _ => False
  | .b i => σ[i]? = some (some x)
section
variable {K : PySem.W.Frag} {w : World} {B : Bas} {F H F' H' : Hp} {σ : List (Option V)} {ρ : List Sl} {v : Val} {x : V} {d : D}
theorem Kp.mono (e : Ex F F') (h : Kp K w F σ v x) : Kp K w F' σ v x := by
  cases v with
  | p d => exact DV.mono e h
  | f xs => exact h.elim
  | b i => exact h
/-- let go -/
theorem EvP.fz (r : Rep K w B F H σ ρ) (h : EvP K w B F H σ ρ v x) : ∃ F', Ex F F' ∧ Rep K w B F' H σ ρ ∧ Kp K w F' σ (Cz.fz v) x := by
  cases v with
  | p d => exact ⟨F, .refl F, r, h⟩
  | b i => exact ⟨F, .refl F, r, h.1⟩
  | f xs =>
    obtain ⟨p, vs, rfl, hF, hH, q, l, h0, hn⟩ := h
    refine ⟨upd F p (.lst vs), .new hF, r.freeze hF hH h0 hn, ?_⟩
    exact .lst (SqL.of upd_same) (q.mono (.new hF)) l
theorem Kp.op (r : Rep K w B F H σ ρ) (h : Kp K w F σ v x) (e : res ρ v = some d) : Op K w F H x d := by
  cases v with
  | p d' => cases e; exact .inl h
  | f xs => exact h.elim
  | b i =>
    have e' : (match ρ[i]? with | some (Sl.own _ xs) => some (D.lst xs) | _ => none) = some d := e
    split at e'
    · rename_i l xs hi
      cases e'
      obtain ⟨p, vs, a, b, c, q, l2, _⟩ := r.own i _ xs hi
      rw [show σ[i]? = some (some x) from h] at a
      cases a
      exact .inr ⟨p, vs, xs, rfl, rfl, c, q, l2⟩
    · cases e'
/-- an operation's result -/
theorem Rv.ev (r : Rep K w B F H σ ρ) (g : Grow F H F' H') {u : V} {z : Val} (h : Rv K w H F' H' u z) : EvP K w B F' H' σ ρ z u := by
  cases z with
  | p d => exact h
  | b i => exact h.elim
  | f xs =>
    obtain ⟨p, vs, rfl, a, b, c, q, l⟩ := h
    exact ⟨p, vs, rfl, b, c, q, l, r.fresh a, r.noOwn a⟩
end
end Cs
end
section
set_option Elab.async false
set_option linter.all false
set_option maxRecDepth 100000
set_option maxHeartbeats 2000000
/-! SOUND 7: expressions. -/
namespace Cs
open PySem L2 Cz PyProof.Rows
/-- an exception as it flies: its class's address, its own dict -/
def XRep (xa : Nat → Option Addr) (xf : Nat → Str) (K : PySem.W.Frag) (w : World) (F H : Hp) (x : Exn) (cls : Value) (d : Option Addr) : Prop :=
  ∃ C dd v, xa x.cls = some C ∧ cls = .ref C ∧ d = some dd ∧ H dd = some (.xd [(xf x.cls, v)]) ∧ DV K w F v x.arg
/-- what an exception is wished to be, by data -/
abbrev Wi := Exn → List Sl → Prop
/-- the fixed things of a proof: the constants, the defs' meaning, where the errors' classes stand, the entry -/
structure Fx where
  M : Mo
  C : Nat → List Cz.Arg → Rc
  xa : Nat → Option Addr
  xf : Nat → Str
def WD (G : Fx) (K : PySem.W.Frag) (w : World) (B : Bas) (W : Wi) : WX := fun cls d σ H => ∃ F x ρ, Rep K w B F H σ ρ ∧ XRep G.xa G.xf K w F H x cls d ∧ W x ρ
section
variable (G : Fx) (K : PySem.W.Frag) (w : World) (B : Bas) (W : Wi)
def tE (e : E) : TE := fun σ H Q => ∃ F ρ, Rep K w B F H σ ρ ∧ (match evE G.M G.C e ρ with
  | .ok v ρ' => ∀ x F' H', Ex F F' → Rep K w B F' H' σ ρ' → EvP K w B F' H' σ ρ' v x → Q x H'
  | .ex x ρ' => W x ρ'
  | .bad => False)
def tT (e : E) : TT := fun σ H Q => ∃ F ρ, Rep K w B F H σ ρ ∧ (match evE G.M G.C e ρ with
  | .ok v ρ' => ∃ k, (res ρ' (fz v)).bind truth = some k ∧ ∀ F' H', Ex F F' → Rep K w B F' H' σ ρ' → Q k H'
  | .ex x ρ' => W x ρ'
  | .bad => False)
/-- values in a row -/
inductive Kps (F : Hp) (σ : List (Option V)) : List Val → List V → Prop
  | nil : Kps F σ [] []
  | cons {v : Val} {vs : List Val} {x : V} {xs : List V} : Kp K w F σ v x → Kps F σ vs xs → Kps F σ (v :: vs) (x :: xs)
def tEs (es : Es) : TA := fun σ H Q => ∃ F ρ, Rep K w B F H σ ρ ∧ (match evEs G.M G.C es ρ with
  | .ok vs ρ' => ∀ xs F' H', Ex F F' → Rep K w B F' H' σ ρ' → Kps K w F' σ vs xs → Q xs H'
  | .ex x ρ' => W x ρ'
  | .bad => False)
end
theorem Kps.mono {K : PySem.W.Frag} {w : World} {F F' : Hp} {σ : List (Option V)} (e : Ex F F') : ∀ {vs : List Val} {xs : List V}, Kps K w F σ vs xs → Kps K w F' σ vs xs
  | _, _, .nil => .nil
  | _, _, .cons h q => .cons (h.mono e) (Kps.mono e q)
theorem _root_.L2.PE.imp {X : Cx} {e : Expr} {t t' : TE} (h : PE X e t) (i : ∀ σ H Q, t' σ H Q → t σ H Q) : PE X e t' := ⟨fun pins s σ H Q I q => h.run pins s σ H Q I (i σ H Q q)⟩
theorem _root_.L2.PT.imp {X : Cx} {e : Expr} {t t' : TT} (h : PT X e t) (i : ∀ σ H Q, t' σ H Q → t σ H Q) : PT X e t' := ⟨fun pins s σ H Q I q => h.run pins s σ H Q I (i σ H Q q)⟩
theorem _root_.L2.PW.imp {X : Cx} {e : Expr} {t t' : TT} (h : PW X e t) (i : ∀ σ H Q, t' σ H Q → t σ H Q) : PW X e t' := ⟨fun wh pins s σ H Q I q => h.run wh pins s σ H Q I (i σ H Q q)⟩
theorem _root_.L2.PA.imp {X : Cx} {e : List Expr} {t t' : TA} (h : PA X e t) (i : ∀ σ H Q, t' σ H Q → t σ H Q) : PA X e t' := ⟨fun pos pins s σ H Q I q => h.run pos pins s σ H Q I (i σ H Q q)⟩
theorem pset1 (ρ : List Sl) (i j : Nat) (z y : Sl) : (ρ.set i z)[j]? = some y ↔ (if i = j then (i < ρ.length ∧ z = y) else ρ[j]? = some y) := by
  by_cases h : i = j
  · subst h
    rw [if_pos rfl, List.getElem?_set_self']
    by_cases hl : i < ρ.length
    · rw [List.getElem?_eq_getElem hl]
      simp [hl]
    · rw [List.getElem?_eq_none (by omega)]
      simp [hl]
  · rw [if_neg h, List.getElem?_set_ne h]
section
variable {X : Cx} {G : Fx} {B : Bas} {W : Wi}
/-- a slot read -/
theorem sE_var {i : Nat} {x : Str} {pos : Pos} (hN : X.N[i]? = some x) (hv : Vis X.env.scope x) (hd : (x == ("__debug__" : Str)) = false) (hcd : (x == ("__classdict__" : Str)) = false) : PE X (.Name x pos) (tE G X.K X.w B W (.var i)) := by
  refine (pe_var hN hv hd hcd).imp fun σ H Q h => ?_
  obtain ⟨F, ρ, r, h⟩ := h
  unfold evE at h
  split at h
  · rename_i v ρ' he
    split at he
    · rename_i y hy
      cases he
      obtain ⟨z, hz, dv⟩ := r.dat i y hy
      exact ⟨z, hz, h z F H (.refl F) r dv⟩
    · rename_i xs hy
      cases he
      obtain ⟨p, vs, a, b, c, d, l, f1, f2⟩ := r.own i _ xs hy
      refine ⟨_, a, ?_⟩
      have hn : ∀ (j : Nat) (l : Bool) (ys : List D), (ρ.set i (.d (.lst xs)))[j]? = some (Sl.own l ys) → σ[j]? ≠ some (some (V.ref p)) := fun j l ys hj hs => by
        rw [pset1] at hj
        split at hj
        · cases hj.2
        · rename_i hij
          exact hij (r.apart i j _ _ _ _ p hy hj a hs)
      have e1 : Ex F (upd F p (.lst vs)) := .new b
      have r2 : Rep X.K X.w B (upd F p (.lst vs)) H σ (ρ.set i (.d (.lst xs))) := {
        fe := r.fe.trans e1
        fh := fun a o h => by
          by_cases z : a = p
          · subst z; rw [upd_same] at h; cases h; exact c
          · rw [upd_ne z] at h; exact r.fh _ _ h
        len := by rw [List.length_set]; exact r.len
        dat := fun j y hj => by
          rw [pset1] at hj
          split at hj
          · rename_i hij
            subst hij
            cases hj.2
            exact ⟨_, a, .lst (SqL.of upd_same) (d.mono e1) l⟩
          · obtain ⟨v, a, b⟩ := r.dat j y hj
            exact ⟨v, a, b.mono e1⟩
        own := fun j l ys hj => by
          have hj' := hj
          rw [pset1] at hj'
          split at hj'
          · cases hj'.2
          · obtain ⟨q, ws, a', b', c', d', l', f1', f2'⟩ := r.own j l ys hj'
            have : q ≠ p := fun z => hn j l ys hj (by rw [a', z])
            exact ⟨q, ws, a', by rw [upd_ne this]; exact b', c', d'.mono e1, l', f1', f2'⟩
        apart := fun j k l l' ys zs q hj hk => by
          rw [pset1] at hj hk
          split at hj
          · cases hj.2
          · split at hk
            · cases hk.2
            · exact r.apart j k l l' ys zs q hj hk
        lent := fun q hq => by
          obtain ⟨⟨ys, hy2⟩, hs⟩ := r.lent q hq
          refine ⟨⟨ys, ?_⟩, hs⟩
          rw [pset1]
          split
          · rename_i hij
            rw [← hij, hy] at hy2
            cases hy2
          · exact hy2
        frame := r.frame
        mask := fun a h1 h2 => by
          have : a ≠ p := fun z => by subst z; exact h1 (f1 rfl)
          rw [upd_ne this]
          exact r.mask a h1 h2 }
      exact h (V.ref p) _ H e1 r2 (.lst (SqL.of upd_same) (d.mono e1) l)
    · cases he
  · rename_i he
    split at he <;> cases he
  · exact h.elim
/-- a slot lent -/
theorem sE_bor {i : Nat} {x : Str} {pos : Pos} (hN : X.N[i]? = some x) (hv : Vis X.env.scope x) (hd : (x == ("__debug__" : Str)) = false) (hcd : (x == ("__classdict__" : Str)) = false) : PE X (.Name x pos) (tE G X.K X.w B W (.bor i)) := by
  refine (pe_var hN hv hd hcd).imp fun σ H Q h => ?_
  obtain ⟨F, ρ, r, h⟩ := h
  unfold evE at h
  split at h
  · rename_i v ρ' he
    split at he
    · rename_i y hy
      cases he
      obtain ⟨z, hz, dv⟩ := r.dat i y hy
      exact ⟨z, hz, h z F H (.refl F) r dv⟩
    · rename_i l xs hy
      cases he
      obtain ⟨p, vs, a, b, c, d, l, f1, f2⟩ := r.own i _ xs hy
      exact ⟨_, a, h _ F H (.refl F) r ⟨a, _, _, hy⟩⟩
    · cases he
  · rename_i he
    split at he <;> cases he
  · exact h.elim
theorem sE_c {d : D} {v : V} {e : Expr} (h : PE X e (tC v)) (hd : ∀ H, DV X.K X.w H v d) : PE X e (tE G X.K X.w B W (.c d)) := by
  refine h.imp fun σ H Q h => ?_
  obtain ⟨F, ρ, r, h⟩ := h
  exact h v F H (.refl F) r (hd F)
theorem sE_g {k : Nat} {e : Expr} {d : D} {v : V} (hk : G.M.g k = some d) (h : PE X e (tC v)) (hd : ∀ H, DV X.K X.w H v d) : PE X e (tE G X.K X.w B W (.g k)) := by
  refine h.imp fun σ H Q h => ?_
  obtain ⟨F, ρ, r, h⟩ := h
  unfold evE at h
  rw [hk] at h
  exact h v F H (.refl F) r (hd F)
/-- two operands, then an operation -/
theorem two {a b : E} {σ : List (Option V)} {H : Hp} {R : V → V → Hp → Prop} {F : Hp} {ρ : List Sl} (r : Rep X.K X.w B F H σ ρ)
    (h : match evE G.M G.C a ρ with
      | .ok v ρ1 => (match evE G.M G.C b ρ1 with
        | .ok u ρ2 => ∃ dx dy, res ρ2 (fz v) = some dx ∧ res ρ2 (fz u) = some dy ∧ ∀ x y F' H', Ex F F' → Rep X.K X.w B F' H' σ ρ2 → Op X.K X.w F' H' x dx → Op X.K X.w F' H' y dy → R x y H'
        | .ex x ρ2 => W x ρ2
        | .bad => False)
      | .ex x ρ1 => W x ρ1
      | .bad => False) : tE G X.K X.w B W a σ H fun x H1 => tE G X.K X.w B W b σ H1 fun y H2 => R x y H2 := by
  refine ⟨F, ρ, r, ?_⟩
  split at h
  · rename_i v ρ1 ha
    intro x F1 H1 e1 r1 ev1
    obtain ⟨F2, e2, r2, k2⟩ := ev1.fz r1
    refine ⟨F2, ρ1, r2, ?_⟩
    split at h
    · rename_i u ρ2 hb
      intro y F3 H3 e3 r3 ev3
      obtain ⟨dx, dy, hx, hy, k⟩ := h
      obtain ⟨F4, e4, r4, k4⟩ := ev3.fz r3
      exact k x y F4 H3 (((e1.trans e2).trans e3).trans e4) r4 ((k2.mono (e3.trans e4)).op r4 hx) (k4.op r4 hy)
    · exact h
    · exact h.elim
  · exact h
  · exact h.elim
theorem sE_bin {o : Bop} {a b : E} {ea eb : Expr} {pos : Pos} (ha : PE X ea (tE G X.K X.w B W a)) (hb : PE X eb (tE G X.K X.w B W b)) : PE X (.BinOp ea (opOf o) eb pos) (tE G X.K X.w B W (.bin o a b)) := by
  refine (pe_op (op_bin o) ha hb).imp fun σ H Q h => ?_
  obtain ⟨F, ρ, r, h⟩ := h
  refine two r ?_
  unfold evE at h
  cases h1 : evE G.M G.C a ρ with
  | ok v ρ1 =>
    rw [h1] at h
    simp only at h ⊢
    cases h2 : evE G.M G.C b ρ1 with
    | ok u ρ2 =>
      rw [h2] at h
      simp only at h ⊢
      cases h3 : res ρ2 (fz v) with
      | none => rw [h3] at h; exact h.elim
      | some dx =>
        cases h4 : res ρ2 (fz u) with
        | none => rw [h3, h4] at h; exact h.elim
        | some dy =>
          rw [h3, h4] at h
          simp only at h
          cases h5 : binD o dx dy with
          | none => rw [h5] at h; exact h.elim
          | some z =>
            rw [h5] at h
            exact ⟨dx, dy, rfl, rfl, fun x y F' H' e r' ox oy => ⟨F', dx, dy, z, r'.fh, ox, oy, h5, fun q F2 H2 g rv => h q F2 H2 (e.trans g.f) (r'.grow g) (rv.ev r' g)⟩⟩
    | ex x ρ2 => rw [h2] at h; exact h
    | bad => rw [h2] at h; exact h
  | ex x ρ1 => rw [h1] at h; exact h
  | bad => rw [h1] at h; exact h
end
end Cs
end
section
set_option Elab.async false
set_option linter.all false
set_option maxRecDepth 100000
set_option maxHeartbeats 2000000
/-! SOUND 8: expressions, further. -/
namespace Cs
open PySem L2 Cz PyProof.Rows
section
variable {X : Cx} {G : Fx} {B : Bas} {W : Wi}
theorem sE_cmp (hu : X.A.units + 150 < cLine) {o : Cop} {a b : E} {ea eb : Expr} {pos : Pos} (hm : behindInMarks (copOf o) eb = false) (ha : PE X ea (tE G X.K X.w B W a)) (hb : PE X eb (tE G X.K X.w B W b)) : PE X (.Compare ea [copOf o] [eb] pos) (tE G X.K X.w B W (.cmp o a b)) := by
  refine (pe_cmpR (op_cmp hu o) ha hb hm).imp fun σ H Q h => ?_
  obtain ⟨F, ρ, r, h⟩ := h
  refine two r ?_
  unfold evE at h
  cases h1 : evE G.M G.C a ρ with
  | ok v ρ1 =>
    rw [h1] at h
    simp only at h ⊢
    cases h2 : evE G.M G.C b ρ1 with
    | ok u ρ2 =>
      rw [h2] at h
      simp only at h ⊢
      cases h3 : res ρ2 (fz v) with
      | none => rw [h3] at h; exact h.elim
      | some dx =>
        cases h4 : res ρ2 (fz u) with
        | none => rw [h3, h4] at h; exact h.elim
        | some dy =>
          rw [h3, h4] at h
          simp only at h
          cases h5 : cmpD o dx dy with
          | none => rw [h5] at h; exact h.elim
          | some z =>
            rw [h5] at h
            exact ⟨dx, dy, rfl, rfl, fun x y F' H' e r' ox oy => ⟨F', dx, dy, z, r'.fh, ox, oy, h5, h _ F' H' e r' (.bl z)⟩⟩
    | ex x ρ2 => rw [h2] at h; exact h
    | bad => rw [h2] at h; exact h
  | ex x ρ1 => rw [h1] at h; exact h
  | bad => rw [h1] at h; exact h
theorem sT_cmp (hu : X.A.units + 150 < cLine) {o : Cop} {a b : E} {ea eb : Expr} {pos : Pos} (hm : behindInMarks (copOf o) eb = false) (ha : PE X ea (tE G X.K X.w B W a)) (hb : PE X eb (tE G X.K X.w B W b)) : PT X (.Compare ea [copOf o] [eb] pos) (tT G X.K X.w B W (.cmp o a b)) := by
  refine (pt_cmpR (op_cmp hu o) ha hb hm).imp fun σ H Q h => ?_
  obtain ⟨F, ρ, r, h⟩ := h
  refine two (R := fun x y H2 => rCmp X.K X.w o x y H2 fun x H' => ∃ k, x = V.bl k ∧ Q k H') r ?_
  unfold evE at h
  cases h1 : evE G.M G.C a ρ with
  | ok v ρ1 =>
    rw [h1] at h
    simp only at h ⊢
    cases h2 : evE G.M G.C b ρ1 with
    | ok u ρ2 =>
      rw [h2] at h
      simp only at h ⊢
      cases h3 : res ρ2 (fz v) with
      | none => rw [h3] at h; exact h.elim
      | some dx =>
        cases h4 : res ρ2 (fz u) with
        | none => rw [h3, h4] at h; exact h.elim
        | some dy =>
          rw [h3, h4] at h
          simp only at h
          cases h5 : cmpD o dx dy with
          | none => rw [h5] at h; exact h.elim
          | some z =>
            rw [h5] at h
            obtain ⟨k, hk, q⟩ := h
            have hz : z = k := Option.some.inj hk
            subst hz
            exact ⟨dx, dy, rfl, rfl, fun x y F' H' e r' ox oy => ⟨F', dx, dy, z, r'.fh, ox, oy, h5, z, rfl, q F' H' e r'⟩⟩
    | ex x ρ2 => rw [h2] at h; exact h
    | bad => rw [h2] at h; exact h
  | ex x ρ1 => rw [h1] at h; exact h
  | bad => rw [h1] at h; exact h
/-- the test of a thing whose truth is looked up -/
theorem sT_any {a : E} {ea : Expr} (ha : PE X ea (tE G X.K X.w B W a)) (he : ∀ whole, isTrue ea X.env whole = (do let v ← whole; standAt ea.pos; holding [v] (truthy v))) : PT X ea (tT G X.K X.w B W a) := by
  refine (pt_truth ha he).imp fun σ H Q h => ?_
  obtain ⟨F, ρ, r, h⟩ := h
  refine ⟨F, ρ, r, ?_⟩
  cases h1 : evE G.M G.C a ρ with
  | ok v ρ1 =>
    rw [h1] at h
    obtain ⟨k, hk, q⟩ := h
    intro x F1 H1 e1 r1 ev1
    obtain ⟨F2, e2, r2, k2⟩ := ev1.fz r1
    obtain ⟨d, hd, ht⟩ := Option.bind_eq_some_iff.mp hk
    exact ⟨k, tru_dat r2.fh (k2.op r2 hd) ht, q F2 H1 (e1.trans e2) r2⟩
  | ex x ρ1 => rw [h1] at h; exact h
  | bad => rw [h1] at h; exact h
/-- not -/
theorem sT_not {a : E} {ea : Expr} {pos : Pos} (ha : PT X ea (tT G X.K X.w B W a)) : PT X (.UnaryOp .Not ea pos) (tT G X.K X.w B W (.not a)) := by
  refine (pt_not ha).imp fun σ H Q h => ?_
  obtain ⟨F, ρ, r, h⟩ := h
  refine ⟨F, ρ, r, ?_⟩
  unfold evE at h
  cases h1 : evE G.M G.C a ρ with
  | ok v ρ1 =>
    rw [h1] at h
    simp only at h ⊢
    cases h2 : (res ρ1 (fz v)).bind truth with
    | none => rw [h2] at h; exact h.elim
    | some k =>
      rw [h2] at h
      obtain ⟨k', hk', q⟩ := h
      have hz : (!k) = k' := Option.some.inj hk'
      subst hz
      exact ⟨k, rfl, q⟩
  | ex x ρ1 => rw [h1] at h; exact h
  | bad => rw [h1] at h; exact h
/-- what was told of an earlier state -/
theorem tE_of {a : E} {σ : List (Option V)} {H' : Hp} {Q : VK} {F F' : Hp} {ρ : List Sl} (e : Ex F F') (r' : Rep X.K X.w B F' H' σ ρ)
    (h : match evE G.M G.C a ρ with
      | .ok v ρ' => ∀ x F' H', Ex F F' → Rep X.K X.w B F' H' σ ρ' → EvP X.K X.w B F' H' σ ρ' v x → Q x H'
      | .ex x ρ' => W x ρ'
      | .bad => False) : tE G X.K X.w B W a σ H' Q := by
  refine ⟨F', ρ, r', ?_⟩
  cases h3 : evE G.M G.C a ρ with
  | ok v ρ2 =>
    rw [h3] at h
    intro x F2 H2 e2 r2 ev2
    exact h x F2 H2 (e.trans e2) r2 ev2
  | ex x ρ2 => rw [h3] at h; exact h
  | bad => rw [h3] at h; exact h
theorem tT_of {a : E} {σ : List (Option V)} {H' : Hp} {Q : Bool → Hp → Prop} {F F' : Hp} {ρ : List Sl} (e : Ex F F') (r' : Rep X.K X.w B F' H' σ ρ)
    (h : match evE G.M G.C a ρ with
      | .ok v ρ' => ∃ k, (res ρ' (fz v)).bind truth = some k ∧ ∀ F' H', Ex F F' → Rep X.K X.w B F' H' σ ρ' → Q k H'
      | .ex x ρ' => W x ρ'
      | .bad => False) : tT G X.K X.w B W a σ H' Q := by
  refine ⟨F', ρ, r', ?_⟩
  cases h3 : evE G.M G.C a ρ with
  | ok v ρ2 =>
    rw [h3] at h
    obtain ⟨k, hk, q⟩ := h
    exact ⟨k, hk, fun F2 H2 e2 r2 => q F2 H2 (e.trans e2) r2⟩
  | ex x ρ2 => rw [h3] at h; exact h
  | bad => rw [h3] at h; exact h
/-- a condition: t, then this or that -/
theorem cond {c a b : E} {tc : TT} {σ : List (Option V)} {H : Hp} {Q : VK} {F : Hp} {ρ : List Sl} (r : Rep X.K X.w B F H σ ρ)
    (h : match evE G.M G.C (.ife c a b) ρ with
      | .ok v ρ' => ∀ x F' H', Ex F F' → Rep X.K X.w B F' H' σ ρ' → EvP X.K X.w B F' H' σ ρ' v x → Q x H'
      | .ex x ρ' => W x ρ'
      | .bad => False) : tT G X.K X.w B W c σ H fun k H1 => if k = true then tE G X.K X.w B W a σ H1 Q else tE G X.K X.w B W b σ H1 Q := by
  refine ⟨F, ρ, r, ?_⟩
  unfold evE at h
  cases h1 : evE G.M G.C c ρ with
  | ok v ρ1 =>
    rw [h1] at h
    simp only at h ⊢
    cases h2 : (res ρ1 (fz v)).bind truth with
    | none => rw [h2] at h; exact h.elim
    | some k =>
      rw [h2] at h
      refine ⟨k, rfl, fun F' H' e r' => ?_⟩
      cases k with
      | true =>
        rw [if_pos rfl]
        exact tE_of e r' h
      | false =>
        rw [if_neg Bool.false_ne_true]
        exact tE_of e r' h
  | ex x ρ1 => rw [h1] at h; exact h
  | bad => rw [h1] at h; exact h
theorem sE_ife {c a b : E} {ec ea eb : Expr} {pos : Pos} (hc : PT X ec (tT G X.K X.w B W c)) (ha : PE X ea (tE G X.K X.w B W a)) (hb : PE X eb (tE G X.K X.w B W b)) : PE X (.IfExp ec ea eb pos) (tE G X.K X.w B W (.ife c a b)) := by
  refine (pe_ifExp hc ha hb).imp fun σ H Q h => ?_
  obtain ⟨F, ρ, r, h⟩ := h
  exact cond (tc := fun _ _ _ => True) r h
/-- a condition as a test -/
theorem pt_ifExp {ec ea eb : Expr} {tc ta tb : TT} {pos : Pos} (hc : PT X ec tc) (ha : PT X ea ta) (hb : PT X eb tb) : PT X (.IfExp ec ea eb pos) (fun σ H Q => tc σ H fun k H1 => if k = true then ta σ H1 Q else tb σ H1 Q) := by
  refine ⟨fun pins s σ H Q I h => ?_⟩
  show wpAny _ _ (isTrue ec X.env (eval ec X.env) >>= fun k => if k = true then isTrue ea X.env (eval ea X.env) else isTrue eb X.env (eval eb X.env)) _ _ _
  refine wpAny_bind (thn (hc.run pins s σ H _ I h) fun d s1 ⟨H1, I1, q1⟩ => ?_)
  cases d with
  | true => exact ha.run pins s1 σ H1 Q I1 q1
  | false => exact hb.run pins s1 σ H1 Q I1 q1
theorem sT_ife {c a b : E} {ec ea eb : Expr} {pos : Pos} (hc : PT X ec (tT G X.K X.w B W c)) (ha : PT X ea (tT G X.K X.w B W a)) (hb : PT X eb (tT G X.K X.w B W b)) : PT X (.IfExp ec ea eb pos) (tT G X.K X.w B W (.ife c a b)) := by
  refine (pt_ifExp hc ha hb).imp fun σ H Q h => ?_
  obtain ⟨F, ρ, r, h⟩ := h
  refine ⟨F, ρ, r, ?_⟩
  unfold evE at h
  cases h1 : evE G.M G.C c ρ with
  | ok v ρ1 =>
    rw [h1] at h
    simp only at h ⊢
    cases h2 : (res ρ1 (fz v)).bind truth with
    | none => rw [h2] at h; exact h.elim
    | some k =>
      rw [h2] at h
      refine ⟨k, rfl, fun F' H' e r' => ?_⟩
      cases k with
      | true =>
        rw [if_pos rfl]
        exact tT_of e r' h
      | false =>
        rw [if_neg Bool.false_ne_true]
        exact tT_of e r' h
  | ex x ρ1 => rw [h1] at h; exact h
  | bad => rw [h1] at h; exact h
/-- arguments -/
theorem sA_nil : PA X [] (tEs G X.K X.w B W .nil) := by
  refine pa_nil.imp fun σ H Q h => ?_
  obtain ⟨F, ρ, r, h⟩ := h
  exact h [] F H (.refl F) r .nil
theorem sA_cons {e : E} {es : Es} {ea : Expr} {eas : List Expr} (he : PE X ea (tE G X.K X.w B W e)) (hs : PA X eas (tEs G X.K X.w B W es)) (hst : starEach (ea :: eas) X.env = (false, eval ea X.env) :: starEach eas X.env) : PA X (ea :: eas) (tEs G X.K X.w B W (.cons e es)) := by
  refine (pa_cons he hs hst).imp fun σ H Q h => ?_
  obtain ⟨F, ρ, r, h⟩ := h
  refine ⟨F, ρ, r, ?_⟩
  unfold evEs at h
  cases h1 : evE G.M G.C e ρ with
  | ok v ρ1 =>
    rw [h1] at h
    simp only at h ⊢
    intro x F1 H1 e1 r1 ev1
    obtain ⟨F2, e2, r2, k2⟩ := ev1.fz r1
    refine ⟨F2, ρ1, r2, ?_⟩
    cases h2 : evEs G.M G.C es ρ1 with
    | ok vs ρ2 =>
      rw [h2] at h
      simp only at h ⊢
      intro xs F3 H3 e3 r3 k3
      exact h (x :: xs) F3 H3 ((e1.trans e2).trans e3) r3 (.cons (k2.mono e3) k3)
    | ex x ρ2 => rw [h2] at h; exact h
    | bad => rw [h2] at h; exact h
  | ex x ρ1 => rw [h1] at h; exact h
  | bad => rw [h1] at h; exact h
theorem Kps.ops {F H : Hp} {σ : List (Option V)} {ρ : List Sl} (r : Rep X.K X.w B F H σ ρ) : ∀ {vs : List Val} {xs : List V} {ds : List D}, Kps X.K X.w F σ vs xs → ress ρ vs = some ds → Ops X.K X.w F H xs ds
  | [], _, _, .nil, h => by cases h; exact .nil
  | v :: vs, _, _, .cons k q, h => by
    unfold ress at h
    split at h
    · rename_i d ds h1 h2
      cases h
      exact .cons (k.op r h1) (Kps.ops r q h2)
    · cases h
/-- all are data for ever -/
theorem Kps.dvs {F : Hp} {σ : List (Option V)} {ρ : List Sl} : ∀ {vs : List Val} {xs : List V} {ds : List D}, Kps X.K X.w F σ vs xs → ress ρ vs = some ds → noB vs = true → DVs X.K X.w F xs ds
  | [], _, _, .nil, h, _ => by cases h; exact .nil
  | v :: vs, _, _, .cons k q, h, l => by
    unfold ress at h
    unfold noB at l
    rw [List.all_cons, Bool.and_eq_true] at l
    split at h
    · rename_i d ds h1 h2
      cases h
      refine .cons ?_ (Kps.dvs q h2 l.2)
      cases v with
      | p d' => cases h1; exact k
      | f _ => exact k.elim
      | b i => exact absurd l.1 Bool.false_ne_true
    · cases h
def esLen : Es → Nat
  | .nil => 0
  | .cons _ es => esLen es + 1
theorem es_len : ∀ (es : Es) {ρ ρ' : List Sl} {vs : List Val}, evEs G.M G.C es ρ = .ok vs ρ' → vs.length = esLen es
  | .nil, ρ, ρ', vs, h => by unfold evEs at h; cases h; rfl
  | .cons e es, ρ, ρ', vs, h => by
    unfold evEs at h
    split at h
    · split at h
      · rename_i h2
        cases h
        show (List.length _) + 1 = _
        rw [es_len es h2]; rfl
      · rename_i q h2; exact absurd h (h2 _ _)
    · cases h
    · cases h
theorem sE_tup {es : Es} {eas : List Expr} {k : Nat} {pos : Pos} (hl : esLen es ≤ Lim) (hs : PA X eas (tEs G X.K X.w B W es)) : PE X (.Tuple eas k pos) (tE G X.K X.w B W (.tup es)) := by
  refine (pe_tup hs).imp fun σ H Q h => ?_
  obtain ⟨F, ρ, r, h⟩ := h
  refine ⟨F, ρ, r, ?_⟩
  unfold evE at h
  cases h1 : evEs G.M G.C es ρ with
  | ok vs ρ1 =>
    rw [h1] at h
    simp only at h ⊢
    intro xs F1 H1 e1 r1 k1
    cases h2 : ress ρ1 vs with
    | none => rw [h2] at h; exact h.elim
    | some ds =>
      rw [h2] at h
      simp only at h
      by_cases l : noB vs = true
      · rw [if_pos l] at h
        have q := k1.dvs h2 l
        have ll : ds.length ≤ Lim := by
          have a1 := es_len es h1
          have a2 : ∀ {vs : List Val} {xs : List V}, Kps X.K X.w F1 σ vs xs → xs.length = vs.length := fun {vs xs} k => by
            induction k with
            | nil => rfl
            | cons _ _ ih => rw [List.length_cons, List.length_cons, ih]
          rw [← q.length, a2 k1, a1]; exact hl
        refine ⟨lim_size (by rw [q.length]; exact ll), fun p hp => ?_⟩
        have g := Grow.data (o := .tup xs) r1.fh hp
        exact h _ _ _ (e1.trans g.f) (r1.grow g) (.tup (SqT.of upd_same) (q.mono g.f) ll)
      · rw [if_neg l] at h
        exact h.elim
  | ex x ρ1 => rw [h1] at h; exact h
  | bad => rw [h1] at h; exact h
theorem sE_lst {es : Es} {eas : List Expr} {pos : Pos} (hl : esLen es ≤ Lim) (hs : PA X eas (tEs G X.K X.w B W es)) : PE X (.List eas pos) (tE G X.K X.w B W (.lst es)) := by
  refine (pe_lst hs).imp fun σ H Q h => ?_
  obtain ⟨F, ρ, r, h⟩ := h
  refine ⟨F, ρ, r, ?_⟩
  unfold evE at h
  cases h1 : evEs G.M G.C es ρ with
  | ok vs ρ1 =>
    rw [h1] at h
    simp only at h ⊢
    intro xs F1 H1 e1 r1 k1
    cases h2 : ress ρ1 vs with
    | none => rw [h2] at h; exact h.elim
    | some ds =>
      rw [h2] at h
      simp only at h
      by_cases l : noB vs = true
      · rw [if_pos l] at h
        have q := k1.dvs h2 l
        have ll : ds.length ≤ Lim := by
          have a1 := es_len es h1
          have a2 : ∀ {vs : List Val} {xs : List V}, Kps X.K X.w F1 σ vs xs → xs.length = vs.length := fun {vs xs} k => by
            induction k with
            | nil => rfl
            | cons _ _ ih => rw [List.length_cons, List.length_cons, ih]
          rw [← q.length, a2 k1, a1]; exact hl
        refine ⟨lim_size (by rw [q.length]; exact ll), fun p hp => ?_⟩
        have g := Grow.own (o := .lst xs) r1.fh hp
        exact h _ _ _ (e1.trans g.f) (r1.grow g) (Rv.ev r1 g (Rv.new (H' := H1) r1.fh hp q ll))
      · rw [if_neg l] at h
        exact h.elim
  | ex x ρ1 => rw [h1] at h; exact h
  | bad => rw [h1] at h; exact h
/-- a[b] -/
theorem sE_ix (hu : X.A.units + 150 < cLine) {a b : E} {ea eb : Expr} {pos : Pos} (hs : PlainIx eb) (ha : PE X ea (tE G X.K X.w B W a)) (hb : PE X eb (tE G X.K X.w B W b)) : PE X (.Subscript ea eb pos) (tE G X.K X.w B W (.ix a b)) := by
  refine (pe_ix (ix_dat hu) ha hb hs).imp fun σ H Q h => ?_
  obtain ⟨F, ρ, r, h⟩ := h
  refine two r ?_
  unfold evE at h
  cases h1 : evE G.M G.C a ρ with
  | ok v ρ1 =>
    rw [h1] at h
    simp only at h ⊢
    cases h2 : evE G.M G.C b ρ1 with
    | ok u ρ2 =>
      rw [h2] at h
      simp only at h ⊢
      cases h3 : res ρ2 (fz v) with
      | none => rw [h3] at h; exact h.elim
      | some dx =>
        cases h4 : res ρ2 (fz u) with
        | none => rw [h3, h4] at h; exact h.elim
        | some dy =>
          rw [h3, h4] at h
          simp only at h
          cases h5 : item dx dy with
          | none => rw [h5] at h; exact h.elim
          | some z =>
            rw [h5] at h
            exact ⟨dx, dy, rfl, rfl, fun x y F' H' e r' ox oy => ⟨F', dx, dy, z, r'.fh, ox, oy, h5, fun q dv => h q F' H' e r' dv⟩⟩
    | ex x ρ2 => rw [h2] at h; exact h
    | bad => rw [h2] at h; exact h
  | ex x ρ1 => rw [h1] at h; exact h
  | bad => rw [h1] at h; exact h
end
end Cs
end
section
set_option Elab.async false
set_option linter.all false
set_option maxRecDepth 100000
set_option maxHeartbeats 4000000
/-! SOUND 9: expressions: and, or, chains, slices, built-ins, dicts. -/
namespace Cs
open PySem L2 Cz PyProof.Rows
section
variable {X : Cx} {G : Fx} {B : Bas} {W : Wi}
theorem sE_not {a : E} {ea : Expr} {pos : Pos} (ha : PE X ea (tE G X.K X.w B W a)) : PE X (.UnaryOp .Not ea pos) (tE G X.K X.w B W (.not a)) := by
  refine (pe_notT ha).imp fun σ H Q h => ?_
  obtain ⟨F, ρ, r, h⟩ := h
  refine ⟨F, ρ, r, ?_⟩
  unfold evE at h
  cases h1 : evE G.M G.C a ρ with
  | ok v ρ1 =>
    rw [h1] at h
    simp only at h ⊢
    intro x F1 H1 e1 r1 ev1
    obtain ⟨F2, e2, r2, k2⟩ := ev1.fz r1
    cases h2 : (res ρ1 (fz v)).bind truth with
    | none => rw [h2] at h; exact h.elim
    | some k =>
      rw [h2] at h
      obtain ⟨d, hd, ht⟩ := Option.bind_eq_some_iff.mp h2
      exact ⟨k, tru_dat r2.fh (k2.op r2 hd) ht, h _ F2 H1 (e1.trans e2) r2 (.bl _)⟩
  | ex x ρ1 => rw [h1] at h; exact h
  | bad => rw [h1] at h; exact h
theorem sE_neg {a : E} {ea : Expr} {pos : Pos} (ha : PE X ea (tE G X.K X.w B W a)) : PE X (.UnaryOp .USub ea pos) (tE G X.K X.w B W (.neg a)) := by
  refine (pe_un un_neg ha).imp fun σ H Q h => ?_
  obtain ⟨F, ρ, r, h⟩ := h
  refine ⟨F, ρ, r, ?_⟩
  unfold evE at h
  cases h1 : evE G.M G.C a ρ with
  | ok v ρ1 =>
    rw [h1] at h
    simp only at h ⊢
    intro x F1 H1 e1 r1 ev1
    obtain ⟨F2, e2, r2, k2⟩ := ev1.fz r1
    split at h
    · rename_i d i hd
      split at hd
      · rename_i i2 h2
        cases hd
        exact ⟨_, (k2.op r2 h2).int, h _ F2 H1 (e1.trans e2) r2 (.int _)⟩
      · cases hd
    · rename_i hd
      split at hd <;> cases hd
    · exact h.elim
  | ex x ρ1 => rw [h1] at h; exact h
  | bad => rw [h1] at h; exact h
/-! ### and, or -/
theorem sE_and1 {a : E} {ea : Expr} {pos : Pos} (ha : PE X ea (tE G X.K X.w B W a)) : PE X (.BoolOp .And [ea] pos) (tE G X.K X.w B W (.and (.cons a .nil))) := by
  refine (pe_one ha).imp fun σ H Q h => ?_
  obtain ⟨F, ρ, r, h⟩ := h
  refine ⟨F, ρ, r, ?_⟩
  unfold evE evAnd at h
  cases h1 : evE G.M G.C a ρ with
  | ok v ρ1 => rw [h1] at h; exact h
  | ex x ρ1 => rw [h1] at h; exact h
  | bad => rw [h1] at h; exact h
theorem sE_or1 {a : E} {ea : Expr} {pos : Pos} (ha : PE X ea (tE G X.K X.w B W a)) : PE X (.BoolOp .Or [ea] pos) (tE G X.K X.w B W (.or (.cons a .nil))) := by
  refine (pe_one ha).imp fun σ H Q h => ?_
  obtain ⟨F, ρ, r, h⟩ := h
  refine ⟨F, ρ, r, ?_⟩
  unfold evE evOr at h
  cases h1 : evE G.M G.C a ρ with
  | ok v ρ1 => rw [h1] at h; exact h
  | ex x ρ1 => rw [h1] at h; exact h
  | bad => rw [h1] at h; exact h
theorem sE_and {a b : E} {es : Es} {ea eb : Expr} {eas : List Expr} {pos : Pos} (ha : PE X ea (tE G X.K X.w B W a)) (hb : PE X (.BoolOp .And (eb :: eas) pos) (tE G X.K X.w B W (.and (.cons b es)))) :
    PE X (.BoolOp .And (ea :: eb :: eas) pos) (tE G X.K X.w B W (.and (.cons a (.cons b es)))) := by
  refine (pe_andT ha hb).imp fun σ H Q h => ?_
  obtain ⟨F, ρ, r, h⟩ := h
  refine ⟨F, ρ, r, ?_⟩
  unfold evE evAnd at h
  cases h1 : evE G.M G.C a ρ with
  | ok v ρ1 =>
    rw [h1] at h
    simp only at h ⊢
    intro x F1 H1 e1 r1 ev1
    cases h2 : (res ρ1 (fz v)).bind truth with
    | none => rw [h2] at h; exact h.elim
    | some k =>
      rw [h2] at h
      obtain ⟨d, hd, ht⟩ := Option.bind_eq_some_iff.mp h2
      obtain ⟨F2, e2, r2, k2⟩ := ev1.fz r1
      refine ⟨k, tru_dat r2.fh (k2.op r2 hd) ht, ?_⟩
      cases k with
      | true =>
        rw [if_pos rfl]
        exact tE_of (a := .and (.cons b es)) (e1.trans e2) r2 h
      | false =>
        rw [if_neg Bool.false_ne_true]
        exact h x F1 H1 e1 r1 ev1
  | ex x ρ1 => rw [h1] at h; exact h
  | bad => rw [h1] at h; exact h
theorem sE_or {a b : E} {es : Es} {ea eb : Expr} {eas : List Expr} {pos : Pos} (ha : PE X ea (tE G X.K X.w B W a)) (hb : PE X (.BoolOp .Or (eb :: eas) pos) (tE G X.K X.w B W (.or (.cons b es)))) :
    PE X (.BoolOp .Or (ea :: eb :: eas) pos) (tE G X.K X.w B W (.or (.cons a (.cons b es)))) := by
  refine (pe_orT ha hb).imp fun σ H Q h => ?_
  obtain ⟨F, ρ, r, h⟩ := h
  refine ⟨F, ρ, r, ?_⟩
  unfold evE evOr at h
  cases h1 : evE G.M G.C a ρ with
  | ok v ρ1 =>
    rw [h1] at h
    simp only at h ⊢
    intro x F1 H1 e1 r1 ev1
    cases h2 : (res ρ1 (fz v)).bind truth with
    | none => rw [h2] at h; exact h.elim
    | some k =>
      rw [h2] at h
      obtain ⟨d, hd, ht⟩ := Option.bind_eq_some_iff.mp h2
      obtain ⟨F2, e2, r2, k2⟩ := ev1.fz r1
      refine ⟨k, tru_dat r2.fh (k2.op r2 hd) ht, ?_⟩
      cases k with
      | true =>
        rw [if_pos rfl]
        exact h x F1 H1 e1 r1 ev1
      | false =>
        rw [if_neg Bool.false_ne_true]
        exact tE_of (a := .or (.cons b es)) (e1.trans e2) r2 h
  | ex x ρ1 => rw [h1] at h; exact h
  | bad => rw [h1] at h; exact h
theorem sW_and1 {a : E} {ea : Expr} {pos : Pos} (ha : PT X ea (tT G X.K X.w B W a)) : PW X (.BoolOp .And [ea] pos) (tT G X.K X.w B W (.and (.cons a .nil))) := by
  refine (pw_and1 ha).imp fun σ H Q h => ?_
  obtain ⟨F, ρ, r, h⟩ := h
  refine ⟨F, ρ, r, ?_⟩
  unfold evE evAnd at h
  cases h1 : evE G.M G.C a ρ with
  | ok v ρ1 => rw [h1] at h; exact h
  | ex x ρ1 => rw [h1] at h; exact h
  | bad => rw [h1] at h; exact h
theorem sW_or1 {a : E} {ea : Expr} {pos : Pos} (ha : PT X ea (tT G X.K X.w B W a)) : PW X (.BoolOp .Or [ea] pos) (tT G X.K X.w B W (.or (.cons a .nil))) := by
  refine (pw_or1 ha).imp fun σ H Q h => ?_
  obtain ⟨F, ρ, r, h⟩ := h
  refine ⟨F, ρ, r, ?_⟩
  unfold evE evOr at h
  cases h1 : evE G.M G.C a ρ with
  | ok v ρ1 => rw [h1] at h; exact h
  | ex x ρ1 => rw [h1] at h; exact h
  | bad => rw [h1] at h; exact h
theorem sW_and {a b : E} {es : Es} {ea eb : Expr} {eas : List Expr} {pos : Pos} (ha : PT X ea (tT G X.K X.w B W a)) (hb : PW X (.BoolOp .And (eb :: eas) pos) (tT G X.K X.w B W (.and (.cons b es)))) :
    PW X (.BoolOp .And (ea :: eb :: eas) pos) (tT G X.K X.w B W (.and (.cons a (.cons b es)))) := by
  refine (pw_and ha hb).imp fun σ H Q h => ?_
  obtain ⟨F, ρ, r, h⟩ := h
  refine ⟨F, ρ, r, ?_⟩
  unfold evE evAnd at h
  cases h1 : evE G.M G.C a ρ with
  | ok v ρ1 =>
    rw [h1] at h
    simp only at h ⊢
    cases h2 : (res ρ1 (fz v)).bind truth with
    | none => rw [h2] at h; exact h.elim
    | some k =>
      rw [h2] at h
      refine ⟨k, rfl, fun F' H' e r' => ?_⟩
      cases k with
      | true =>
        rw [if_pos rfl]
        exact tT_of (a := .and (.cons b es)) e r' h
      | false =>
        rw [if_neg Bool.false_ne_true]
        obtain ⟨k2, hk2, q⟩ := h
        rw [h2] at hk2
        cases hk2
        exact q F' H' e r'
  | ex x ρ1 => rw [h1] at h; exact h
  | bad => rw [h1] at h; exact h
theorem sW_or {a b : E} {es : Es} {ea eb : Expr} {eas : List Expr} {pos : Pos} (ha : PT X ea (tT G X.K X.w B W a)) (hb : PW X (.BoolOp .Or (eb :: eas) pos) (tT G X.K X.w B W (.or (.cons b es)))) :
    PW X (.BoolOp .Or (ea :: eb :: eas) pos) (tT G X.K X.w B W (.or (.cons a (.cons b es)))) := by
  refine (pw_or ha hb).imp fun σ H Q h => ?_
  obtain ⟨F, ρ, r, h⟩ := h
  refine ⟨F, ρ, r, ?_⟩
  unfold evE evOr at h
  cases h1 : evE G.M G.C a ρ with
  | ok v ρ1 =>
    rw [h1] at h
    simp only at h ⊢
    cases h2 : (res ρ1 (fz v)).bind truth with
    | none => rw [h2] at h; exact h.elim
    | some k =>
      rw [h2] at h
      refine ⟨k, rfl, fun F' H' e r' => ?_⟩
      cases k with
      | true =>
        rw [if_pos rfl]
        obtain ⟨k2, hk2, q⟩ := h
        rw [h2] at hk2
        cases hk2
        exact q F' H' e r'
      | false =>
        rw [if_neg Bool.false_ne_true]
        exact tT_of (a := .or (.cons b es)) e r' h
  | ex x ρ1 => rw [h1] at h; exact h
  | bad => rw [h1] at h; exact h
/-! ### a < b < c -/
theorem sE_chain (hu : X.A.units + 150 < cLine) {o o' : Cop} {a b c : E} {ea eb ec : Expr} {pos : Pos} (hm : lastMarks [copOf o, copOf o'] [eb, ec] = false) (ha : PE X ea (tE G X.K X.w B W a)) (hb : PE X eb (tE G X.K X.w B W b)) (hc : PE X ec (tE G X.K X.w B W c)) :
    PE X (.Compare ea [copOf o, copOf o'] [eb, ec] pos) (tE G X.K X.w B W (.chain o o' a b c)) := by
  refine (pe_chain (op_cmp hu o) (op_cmp hu o') ha hb hc hm).imp fun σ H Q h => ?_
  obtain ⟨F, ρ, r, h⟩ := h
  refine ⟨F, ρ, r, ?_⟩
  unfold evE at h
  cases h1 : evE G.M G.C a ρ with
  | ok v ρ1 =>
    rw [h1] at h
    simp only at h ⊢
    intro x F1 H1 e1 r1 ev1
    obtain ⟨F2, e2, r2, k2⟩ := ev1.fz r1
    refine ⟨F2, ρ1, r2, ?_⟩
    cases h2 : evE G.M G.C b ρ1 with
    | ok u ρ2 =>
      rw [h2] at h
      simp only at h ⊢
      intro y F3 H3 e3 r3 ev3
      obtain ⟨F4, e4, r4, k4⟩ := ev3.fz r3
      cases h3 : res ρ2 (fz v) with
      | none => rw [h3] at h; exact h.elim
      | some dx =>
        cases h4 : fz u with
        | f xs => rw [h4] at k4; exact k4.elim
        | b i => rw [h3, h4] at h; exact h.elim
        | p dy =>
          rw [h3, h4] at h
          rw [h4] at k4
          simp only at h
          cases h5 : cmpD o dx dy with
          | none => rw [h5] at h; exact h.elim
          | some k =>
            rw [h5] at h
            have e14 := ((e1.trans e2).trans e3).trans e4
            refine ⟨F4, dx, dy, k, r4.fh, (k2.mono (e3.trans e4)).op r4 h3, .inl k4, h5, k, rfl, ?_⟩
            cases k with
            | false =>
              rw [if_neg Bool.false_ne_true]
              exact h _ F4 H3 e14 r4 (.bl false)
            | true =>
              rw [if_pos rfl]
              refine ⟨F4, ρ2, r4, ?_⟩
              simp only at h
              cases h6 : evE G.M G.C c ρ2 with
              | ok t ρ3 =>
                rw [h6] at h
                simp only at h ⊢
                intro z F5 H5 e5 r5 ev5
                obtain ⟨F6, e6, r6, k6⟩ := ev5.fz r5
                cases h7 : res ρ3 (fz t) with
                | none => rw [h7] at h; exact h.elim
                | some dz =>
                  rw [h7] at h
                  simp only at h
                  cases h8 : cmpD o' dy dz with
                  | none => rw [h8] at h; exact h.elim
                  | some k' =>
                    rw [h8] at h
                    exact ⟨F6, dy, dz, k', r6.fh, .inl (DV.mono (e5.trans e6) k4), k6.op r6 h7, h8, h _ F6 H5 ((e14.trans e5).trans e6) r6 (.bl k')⟩
              | ex x ρ3 => rw [h6] at h; exact h
              | bad => rw [h6] at h; exact h
    | ex x ρ2 => rw [h2] at h; exact h
    | bad => rw [h2] at h; exact h
  | ex x ρ1 => rw [h1] at h; exact h
  | bad => rw [h1] at h; exact h
theorem sT_chain (hu : X.A.units + 150 < cLine) {o o' : Cop} {a b c : E} {ea eb ec : Expr} {pos : Pos} (hm : lastMarks [copOf o, copOf o'] [eb, ec] = false) (ha : PE X ea (tE G X.K X.w B W a)) (hb : PE X eb (tE G X.K X.w B W b)) (hc : PE X ec (tE G X.K X.w B W c)) :
    PT X (.Compare ea [copOf o, copOf o'] [eb, ec] pos) (tT G X.K X.w B W (.chain o o' a b c)) := by
  refine (pt_chain (op_cmp hu o) (op_cmp hu o') ha hb hc hm).imp fun σ H Q h => ?_
  obtain ⟨F, ρ, r, h⟩ := h
  refine ⟨F, ρ, r, ?_⟩
  unfold evE at h
  cases h1 : evE G.M G.C a ρ with
  | ok v ρ1 =>
    rw [h1] at h
    simp only at h ⊢
    intro x F1 H1 e1 r1 ev1
    obtain ⟨F2, e2, r2, k2⟩ := ev1.fz r1
    refine ⟨F2, ρ1, r2, ?_⟩
    cases h2 : evE G.M G.C b ρ1 with
    | ok u ρ2 =>
      rw [h2] at h
      simp only at h ⊢
      intro y F3 H3 e3 r3 ev3
      obtain ⟨F4, e4, r4, k4⟩ := ev3.fz r3
      cases h3 : res ρ2 (fz v) with
      | none => rw [h3] at h; exact h.elim
      | some dx =>
        cases h4 : fz u with
        | f xs => rw [h4] at k4; exact k4.elim
        | b i => rw [h3, h4] at h; exact h.elim
        | p dy =>
          rw [h3, h4] at h
          rw [h4] at k4
          simp only at h
          cases h5 : cmpD o dx dy with
          | none => rw [h5] at h; exact h.elim
          | some k =>
            rw [h5] at h
            have e14 := ((e1.trans e2).trans e3).trans e4
            refine ⟨F4, dx, dy, k, r4.fh, (k2.mono (e3.trans e4)).op r4 h3, .inl k4, h5, k, rfl, ?_⟩
            cases k with
            | false =>
              rw [if_neg Bool.false_ne_true]
              obtain ⟨k9, hk9, q⟩ := h
              have hz : false = k9 := Option.some.inj hk9
              subst hz
              exact ⟨false, rfl, q F4 H3 e14 r4⟩
            | true =>
              rw [if_pos rfl]
              refine ⟨F4, ρ2, r4, ?_⟩
              simp only at h
              cases h6 : evE G.M G.C c ρ2 with
              | ok t ρ3 =>
                rw [h6] at h
                simp only at h ⊢
                intro z F5 H5 e5 r5 ev5
                obtain ⟨F6, e6, r6, k6⟩ := ev5.fz r5
                cases h7 : res ρ3 (fz t) with
                | none => rw [h7] at h; exact h.elim
                | some dz =>
                  rw [h7] at h
                  simp only at h
                  cases h8 : cmpD o' dy dz with
                  | none => rw [h8] at h; exact h.elim
                  | some k' =>
                    rw [h8] at h
                    obtain ⟨k9, hk9, q⟩ := h
                    have hz : k' = k9 := Option.some.inj hk9
                    subst hz
                    exact ⟨F6, dy, dz, k', r6.fh, .inl (DV.mono (e5.trans e6) k4), k6.op r6 h7, h8, k', rfl, q F6 H5 ((e14.trans e5).trans e6) r6⟩
              | ex x ρ3 => rw [h6] at h; exact h
              | bad => rw [h6] at h; exact h
    | ex x ρ2 => rw [h2] at h; exact h
    | bad => rw [h2] at h; exact h
  | ex x ρ1 => rw [h1] at h; exact h
  | bad => rw [h1] at h; exact h
/-! ### slices -/
theorem sE_slF {a lo : E} {ea el : Expr} {p2 pos : Pos} (ha : PE X ea (tE G X.K X.w B W a)) (hl : PE X el (tE G X.K X.w B W lo)) : PE X (.Subscript ea (.Slice (some el) none none p2) pos) (tE G X.K X.w B W (.slF a lo)) := by
  refine (pe_slice sl_dat ha (po_some hl) po_none).imp fun σ H Q h => ?_
  obtain ⟨F, ρ, r, h⟩ := h
  refine two (R := fun x y H2 => ∃ i, y = V.int i ∧ rSli X.K X.w x (some i) none H2 Q) r ?_
  unfold evE at h
  cases h1 : evE G.M G.C a ρ with
  | ok v ρ1 =>
    rw [h1] at h
    simp only at h ⊢
    cases h2 : evE G.M G.C lo ρ1 with
    | ok u ρ2 =>
      rw [h2] at h
      simp only at h ⊢
      cases h3 : res ρ2 (fz v) with
      | none => rw [h3] at h; exact h.elim
      | some dx =>
        cases h4 : res ρ2 (fz u) with
        | none => rw [h3, h4] at h; exact h.elim
        | some dy =>
          rw [h3, h4] at h
          cases dy with
          | int i =>
            simp only at h
            cases h5 : slice dx (some i) none with
            | none => rw [h5] at h; exact h.elim
            | some z =>
              rw [h5] at h
              exact ⟨dx, _, rfl, rfl, fun x y F' H' e r' ox oy => ⟨i, oy.int, F', dx, z, r'.fh, ox, h5, fun q F2 H2 g rv => h q F2 H2 (e.trans g.f) (r'.grow g) (rv.ev r' g)⟩⟩
          | _ => exact h.elim
    | ex x ρ2 => rw [h2] at h; exact h
    | bad => rw [h2] at h; exact h
  | ex x ρ1 => rw [h1] at h; exact h
  | bad => rw [h1] at h; exact h
theorem sE_slT {a hi : E} {ea el : Expr} {p2 pos : Pos} (ha : PE X ea (tE G X.K X.w B W a)) (hl : PE X el (tE G X.K X.w B W hi)) : PE X (.Subscript ea (.Slice none (some el) none p2) pos) (tE G X.K X.w B W (.slT a hi)) := by
  refine (pe_slice sl_dat ha po_none (po_some hl)).imp fun σ H Q h => ?_
  obtain ⟨F, ρ, r, h⟩ := h
  refine two (R := fun x y H2 => ∃ i, y = V.int i ∧ rSli X.K X.w x none (some i) H2 Q) r ?_
  unfold evE at h
  cases h1 : evE G.M G.C a ρ with
  | ok v ρ1 =>
    rw [h1] at h
    simp only at h ⊢
    cases h2 : evE G.M G.C hi ρ1 with
    | ok u ρ2 =>
      rw [h2] at h
      simp only at h ⊢
      cases h3 : res ρ2 (fz v) with
      | none => rw [h3] at h; exact h.elim
      | some dx =>
        cases h4 : res ρ2 (fz u) with
        | none => rw [h3, h4] at h; exact h.elim
        | some dy =>
          rw [h3, h4] at h
          cases dy with
          | int i =>
            simp only at h
            cases h5 : slice dx none (some i) with
            | none => rw [h5] at h; exact h.elim
            | some z =>
              rw [h5] at h
              exact ⟨dx, _, rfl, rfl, fun x y F' H' e r' ox oy => ⟨i, oy.int, F', dx, z, r'.fh, ox, h5, fun q F2 H2 g rv => h q F2 H2 (e.trans g.f) (r'.grow g) (rv.ev r' g)⟩⟩
          | _ => exact h.elim
    | ex x ρ2 => rw [h2] at h; exact h
    | bad => rw [h2] at h; exact h
  | ex x ρ1 => rw [h1] at h; exact h
  | bad => rw [h1] at h; exact h
/-! ### built-in functions -/
theorem sBi {b : Bi} {es : Es} {σ : List (Option V)} {H : Hp} {Q : VK} (h : tE G X.K X.w B W (.bi b es) σ H Q) : tCB (rBi X.K X.w b) (tEs G X.K X.w B W es) σ H Q := by
  obtain ⟨F, ρ, r, h⟩ := h
  refine ⟨F, ρ, r, ?_⟩
  unfold evE at h
  cases h1 : evEs G.M G.C es ρ with
  | ok vs ρ1 =>
    rw [h1] at h
    simp only at h ⊢
    intro xs F1 H1 e1 r1 k1
    cases h2 : ress ρ1 vs with
    | none => rw [h2] at h; exact h.elim
    | some ds =>
      rw [h2] at h
      simp only at h
      cases h3 : biD b ds with
      | none => rw [h3] at h; exact h.elim
      | some z =>
        rw [h3] at h
        exact ⟨F1, ds, z, r1.fh, k1.ops r1 h2, h3, fun u F2 H2 g rv => h u F2 H2 (e1.trans g.f) (r1.grow g) (rv.ev r1 g)⟩
  | ex x ρ1 => rw [h1] at h; exact h
  | bad => rw [h1] at h; exact h
/-! ### isinstance -/
theorem sIs {a : E} {ts : List Cz.Ty} {σ : List (Option V)} {H : Hp} {Q : VK} (h : tE G X.K X.w B W (.isi a ts) σ H Q) :
    tE G X.K X.w B W a σ H fun x H1 => ∃ F d, Ex F H1 ∧ Op X.K X.w F H1 x d ∧ ∀ F' H', Grow F H1 F' H' → Q (.bl (ts.any (isTy d))) H' := by
  obtain ⟨F, ρ, r, h⟩ := h
  refine ⟨F, ρ, r, ?_⟩
  unfold evE at h
  cases h1 : evE G.M G.C a ρ with
  | ok v ρ1 =>
    rw [h1] at h
    simp only at h ⊢
    intro x F1 H1 e1 r1 ev1
    obtain ⟨F2, e2, r2, k2⟩ := ev1.fz r1
    cases h2 : res ρ1 (fz v) with
    | none => rw [h2] at h; exact h.elim
    | some d =>
      rw [h2] at h
      exact ⟨F2, d, r2.fh, k2.op r2 h2, fun F' H' g => h _ F' H' ((e1.trans e2).trans g.f) (r2.grow g) (.bl _)⟩
  | ex x ρ1 => rw [h1] at h; exact h
  | bad => rw [h1] at h; exact h
/-! ### text.count -/
theorem sMe {a : E} {es : Es} {σ : List (Option V)} {H : Hp} {Q : VK} (h : tE G X.K X.w B W (.me .count a es) σ H Q) : tBM X.K "str" (rCount X.K X.w) (tE G X.K X.w B W a) (tEs G X.K X.w B W es) σ H Q := by
  obtain ⟨F, ρ, r, h⟩ := h
  refine ⟨F, ρ, r, ?_⟩
  unfold evE at h
  cases h1 : evE G.M G.C a ρ with
  | ok v ρ1 =>
    rw [h1] at h
    simp only at h ⊢
    intro x F1 H1 e1 r1 ev1
    obtain ⟨F2, e2, r2, k2⟩ := ev1.fz r1
    cases h2 : fz v with
    | f _ => rw [h2] at k2; exact k2.elim
    | b _ => rw [h2] at h; exact h.elim
    | p d =>
      rw [h2] at h k2
      simp only at h
      by_cases hr : recvOk .count d = true
      · rw [if_pos hr] at h
        have hx : tyV X.K "str" x H1 := by
          unfold recvOk at hr
          split at hr
          · rw [(Op.str (F := F2) (H := H1) (.inl k2)).1]; exact rfl
          · rename_i z; cases z
          · rename_i z; cases z
          · cases hr
        refine ⟨hx, F2, ρ1, r2, ?_⟩
        cases h3 : evEs G.M G.C es ρ1 with
        | ok vs ρ2 =>
          rw [h3] at h
          simp only at h ⊢
          intro xs F3 H3 e3 r3 k3
          cases h5 : ress ρ2 vs with
          | none => rw [h5] at h; exact h.elim
          | some ds =>
            rw [h5] at h
            simp only at h
            cases h6 : meD .count d ds with
            | none => rw [h6] at h; exact h.elim
            | some z =>
              rw [h6] at h
              exact ⟨F3, d, ds, z, r3.fh, .inl (DV.mono e3 k2), k3.ops r3 h5, h6, fun u F' H' g rv => h u F' H' (((e1.trans e2).trans e3).trans g.f) (r3.grow g) (rv.ev r3 g)⟩
        | ex x ρ2 => rw [h3] at h; exact h
        | bad => rw [h3] at h; exact h
      · rw [if_neg hr] at h; exact h.elim
  | ex x ρ1 => rw [h1] at h; exact h
  | bad => rw [h1] at h; exact h
end
end Cs
end
section
set_option Elab.async false
set_option linter.all false
set_option maxRecDepth 100000
set_option maxHeartbeats 4000000
/-! SOUND 10: what a def promises, by data; calls. -/
namespace Cs
open PySem L2 Cz PyProof.Rows
section
variable (K : PySem.W.Frag) (w : World)
inductive Argvs (F H : Hp) : List V → List Cz.Arg → Prop
  | nil : Argvs F H [] []
  | a {v : V} {vs : List V} {d : D} {as : List Cz.Arg} : DV K w F v d → Argvs F H vs as → Argvs F H (v :: vs) (.a d :: as)
  | o {p : Addr} {us vs : List V} {xs : List D} {as : List Cz.Arg} : F p = none → H p = some (.lst us) → DVs K w F us xs → xs.length ≤ Lim → Argvs F H vs as → Argvs F H (.ref p :: vs) (.o xs :: as)
/-- the addresses of the lent lists -/
def lentsOf : List V → List Cz.Arg → List Addr
  | v :: vs, .o _ :: as => (match v with | .ref p => [p] | _ => []) ++ lentsOf vs as
  | _ :: vs, .a _ :: as => lentsOf vs as
  | _, _ => []
inductive Outs (F H : Hp) : List V → List Cz.Arg → List (List D) → Prop
  | nil : Outs F H [] [] []
  | a {v : V} {vs : List V} {d : D} {as : List Cz.Arg} {os : List (List D)} : Outs F H vs as os → Outs F H (v :: vs) (.a d :: as) os
  | o {p : Addr} {us vs : List V} {xs ys : List D} {as : List Cz.Arg} {os : List (List D)} : F p = none → H p = some (.lst us) → DVs K w F us ys → ys.length ≤ Lim → Outs F H vs as os → Outs F H (.ref p :: vs) (.o xs :: as) (ys :: os)
/-- what stands behind a call -/
structure Aft (F H : Hp) (L : List Addr) (F' H' : Hp) : Prop where
  f : Ex F F'
  fh : Ex F' H'
  frame : ∀ a o, H a = some o → a ∉ L → H' a = some o
  mask : ∀ a, H a ≠ none → F a = none → F' a = none
end
/-- THE PROMISE of a def, by what its data mean -/
def spC (G : Fx) (K : PySem.W.Frag) (w : World) (f : Nat) (np : Nat) : Sp := fun vs H Q E => ∃ F as, vs.length = np ∧ Ex F H ∧ Argvs K w F H vs as ∧ (lentsOf vs as).Nodup ∧ (match G.C f as with
  | .ok v outs => ∀ u F' H', Aft F H (lentsOf vs as) F' H' → Outs K w F' H' vs as outs → Rv K w H F' H' u v → Q u H'
  | .ex x outs => ∀ cls d F' H', Aft F H (lentsOf vs as) F' H' → Outs K w F' H' vs as outs → XRep G.xa G.xf K w F' H' x cls d → E cls d H'
  | .bad => False)
def lentIx : List Val → List Nat
  | [] => []
  | .b i :: r => i :: lentIx r
  | .p _ :: r => lentIx r
  | .f _ :: r => lentIx r
section
variable {K : PySem.W.Frag} {w : World} {B : Bas} {F H F' H' : Hp} {σ : List (Option V)}
theorem mem_lentIx {i : Nat} : ∀ {vs : List Val}, i ∈ lentIx vs ↔ Val.b i ∈ vs
  | [] => by simp [lentIx]
  | .b j :: r => by simp [lentIx, mem_lentIx (vs := r)]
  | .p _ :: r => by simp [lentIx, mem_lentIx (vs := r)]
  | .f _ :: r => by simp [lentIx, mem_lentIx (vs := r)]
theorem lentOnce_cons {i : Nat} {r : List Val} (h : lentOnce (.b i :: r) = true) : i ∉ lentIx r ∧ lentOnce r = true := by
  unfold lentOnce at h
  rw [Bool.and_eq_true] at h
  refine ⟨fun hm => ?_, h.2⟩
  have := List.all_eq_true.mp h.1 _ (mem_lentIx.mp hm)
  simp at this
/-- the arguments as they are handed over -/
theorem args_ok {ρ : List Sl} (r : Rep K w B F H σ ρ) : ∀ {vs : List Val} {xs : List V} {as : List Cz.Arg}, Kps K w F σ vs xs → args ρ vs = some as →
    Argvs K w F H xs as ∧ (∀ p ∈ lentsOf xs as, ∃ i ∈ lentIx vs, σ[i]? = some (some (V.ref p)) ∧ ∃ l ys, ρ[i]? = some (Sl.own l ys)) ∧ (∀ i ∈ lentIx vs, ∃ p ∈ lentsOf xs as, σ[i]? = some (some (V.ref p))) ∧ (lentOnce vs = true → (lentsOf xs as).Nodup)
  | [], _, _, .nil, h => by
    cases h
    exact ⟨.nil, fun p hp => absurd hp (by simp [lentsOf]), fun i hi => absurd hi (by simp [lentIx]), fun _ => by simp [lentsOf]⟩
  | .p d :: vs, _, _, .cons k q, h => by
    unfold args at h
    obtain ⟨as, ha, e⟩ := Option.map_eq_some_iff.mp h
    subst e
    obtain ⟨a1, a2, a3, a4⟩ := args_ok r q ha
    exact ⟨.a k a1, a2, a3, fun l => a4 (by simpa [lentOnce] using l)⟩
  | .f xs :: vs, _, _, .cons k q, h => k.elim
  | .b i :: vs, _, _, .cons (x := x) k q, h => by
    unfold args at h
    split at h
    · rename_i l ys hi
      obtain ⟨as, ha, e⟩ := Option.map_eq_some_iff.mp h
      subst e
      obtain ⟨a1, a2, a3, a4⟩ := args_ok r q ha
      obtain ⟨p, us, s1, f1, h1, d1, l1, _⟩ := r.own i l ys hi
      have k' : σ[i]? = some (some x) := k
      rw [s1] at k'
      cases k'
      refine ⟨.o f1 h1 d1 l1 a1, fun p' hp => ?_, fun j hj => ?_, fun lo => ?_⟩
      · rcases List.mem_append.mp (show p' ∈ [p] ++ lentsOf _ as from hp) with hp | hp
        · have e : p' = p := by simpa using hp
          subst e
          exact ⟨i, by simp [lentIx], s1, l, ys, hi⟩
        · obtain ⟨j, hj, z⟩ := a2 p' hp
          exact ⟨j, by simp [lentIx, hj], z⟩
      · rcases List.mem_cons.mp (show j ∈ i :: lentIx vs from hj) with e | hj
        · subst e
          exact ⟨p, List.mem_append_left _ (by simp), s1⟩
        · obtain ⟨p', hp, z⟩ := a3 j hj
          exact ⟨p', List.mem_append_right _ hp, z⟩
      · obtain ⟨n1, n2⟩ := lentOnce_cons lo
        show ([p] ++ lentsOf _ as).Nodup
        rw [List.singleton_append, List.nodup_cons]
        refine ⟨fun hm => ?_, a4 n2⟩
        obtain ⟨j, hj, z, l', ys', hj'⟩ := a2 p hm
        have e := r.apart i j _ _ _ _ p hi hj' s1 z
        subst e
        exact n1 hj
    · cases h
/-- what back does -/
theorem back_ok : ∀ {vs : List Val} {xs : List V} {as : List Cz.Arg} {os : List (List D)} {ρ ρ0 ρ2 : List Sl}, Kps K w F σ vs xs → args ρ0 vs = some as → Outs K w F' H' xs as os → lentOnce vs = true → back ρ vs os = some ρ2 →
    ρ2.length = ρ.length ∧ (∀ (i : Nat), i ∉ lentIx vs → ρ2[i]? = ρ[i]?) ∧
    (∀ i ∈ lentIx vs, ∃ l ys p us, (∃ zs, ρ[i]? = some (Sl.own l zs)) ∧ ρ2[i]? = some (Sl.own l ys) ∧ σ[i]? = some (some (V.ref p)) ∧ F' p = none ∧ H' p = some (.lst us) ∧ DVs K w F' us ys ∧ ys.length ≤ Lim)
  | [], _, _, _, ρ, ρ0, ρ2, .nil, h, o, _, hb => by
    cases h
    cases o
    cases hb
    exact ⟨rfl, fun _ _ => rfl, fun i hi => absurd hi (by simp [lentIx])⟩
  | .p d :: vs, _, _, os, ρ, ρ0, ρ2, .cons k q, h, o, lo, hb => by
    unfold args at h
    obtain ⟨as, ha, e⟩ := Option.map_eq_some_iff.mp h
    subst e
    cases o with
    | a o =>
      have z := back_ok (vs := vs) (ρ := ρ) (ρ2 := ρ2) q ha o (by simpa [lentOnce] using lo) (by unfold back at hb; exact hb)
      exact z
  | .f xs :: vs, _, _, _, _, _, _, .cons k q, h, _, _, _ => k.elim
  | .b i :: vs, _, _, os, ρ, ρ0, ρ2, .cons (x := x) k q, h, o, lo, hb => by
    unfold args at h
    split at h
    · obtain ⟨as, ha, e⟩ := Option.map_eq_some_iff.mp h
      subst e
      obtain ⟨n1, n2⟩ := lentOnce_cons lo
      cases o with
      | o f1 h1 d1 l1 o =>
        unfold back at hb
        split at hb
        · rename_i l zs hi
          obtain ⟨b1, b2, b3⟩ := back_ok q ha o n2 hb
          have hlt : i < ρ.length := (List.getElem?_eq_some_iff.mp hi).1
          refine ⟨by rw [b1, List.length_set], fun j hj => ?_, fun j hj => ?_⟩
          · have nj : j ∉ lentIx vs := fun z => hj (by simp [lentIx, z])
            have ne : i ≠ j := fun z => hj (by simp [lentIx, z])
            rw [b2 j nj, List.getElem?_set_ne ne]
          · rcases List.mem_cons.mp (show j ∈ i :: lentIx vs from hj) with e | hj
            · subst e
              refine ⟨l, _, _, _, ⟨zs, hi⟩, ?_, k, f1, h1, d1, l1⟩
              rw [b2 j n1, List.getElem?_set_self hlt]
            · obtain ⟨l', ys, p, us, ⟨zs', hz⟩, r1, r2⟩ := b3 j hj
              have ne : i ≠ j := fun z => n1 (z ▸ hj)
              rw [List.getElem?_set_ne ne] at hz
              exact ⟨l', ys, p, us, ⟨zs', hz⟩, r1, r2⟩
        · cases hb
    · cases h
/-- behind a call -/
theorem Rep.call {ρ ρ2 : List Sl} {vs : List Val} {xs : List V} {as : List Cz.Arg} {os : List (List D)} (r : Rep K w B F H σ ρ) (kps : Kps K w F σ vs xs) (ha : args ρ vs = some as) (lo : lentOnce vs = true) (af : Aft F H (lentsOf xs as) F' H')
    (o : Outs K w F' H' xs as os) (hb : back ρ vs os = some ρ2) : Rep K w B F' H' σ ρ2 := by
  obtain ⟨a1, a2, a3, a4⟩ := args_ok r kps ha
  obtain ⟨b1, b2, b3⟩ := back_ok kps ha o lo hb
  -- the kind of every slot stays
  have same : ∀ (i : Nat) (l : Bool) (ys : List D), ρ2[i]? = some (Sl.own l ys) → ∃ zs, ρ[i]? = some (Sl.own l zs) := fun i l ys hi => by
    by_cases hm : i ∈ lentIx vs
    · obtain ⟨l', ys', p, us, ⟨zs, hz⟩, r1, _⟩ := b3 i hm
      rw [hi] at r1
      cases r1
      exact ⟨zs, hz⟩
    · exact ⟨ys, by rw [← b2 i hm]; exact hi⟩
  have apartL : ∀ (i : Nat) (l : Bool) (ys : List D) (p : Addr), ρ[i]? = some (Sl.own l ys) → σ[i]? = some (some (V.ref p)) → i ∉ lentIx vs → p ∉ lentsOf xs as := fun i l ys p hi hs hn hp => by
    obtain ⟨j, hj, z, l', ys', hj'⟩ := a2 p hp
    have e := r.apart i j _ _ _ _ p hi hj' hs z
    subst e
    exact hn hj
  exact {
    fe := r.fe.trans af.f
    fh := af.fh
    len := by rw [r.len, b1]
    dat := fun i x hi => by
      by_cases hm : i ∈ lentIx vs
      · obtain ⟨l', ys', p, us, _, r1, _⟩ := b3 i hm
        rw [hi] at r1
        cases r1
      · rw [b2 i hm] at hi
        obtain ⟨v, h1, h2⟩ := r.dat i x hi
        exact ⟨v, h1, h2.mono af.f⟩
    own := fun i l ys hi => by
      obtain ⟨zs, hz⟩ := same i l ys hi
      obtain ⟨p, us, s1, f1, h1, d1, l1, g1, g2⟩ := r.own i l zs hz
      by_cases hm : i ∈ lentIx vs
      · obtain ⟨l', ys', p', us', _, r1, r2, r3, r4, r5, r6⟩ := b3 i hm
        rw [hi] at r1
        cases r1
        rw [s1] at r2
        cases r2
        exact ⟨p, us', s1, r3, r4, r5, r6, g1, g2⟩
      · rw [b2 i hm] at hi
        rw [hz] at hi
        cases hi
        exact ⟨p, us, s1, af.mask p (by rw [h1]; simp) f1, af.frame _ _ h1 (apartL i l _ p hz s1 hm), d1.mono af.f, l1, g1, g2⟩
    apart := fun i j l l' ys zs p hi hj si sj => by
      obtain ⟨_, hi'⟩ := same i l ys hi
      obtain ⟨_, hj'⟩ := same j l' zs hj
      exact r.apart i j _ _ _ _ p hi' hj' si sj
    lent := fun q hq => by
      obtain ⟨⟨ys, hy⟩, hs⟩ := r.lent q hq
      refine ⟨?_, hs⟩
      by_cases hm : q.1 ∈ lentIx vs
      · obtain ⟨l', ys', p, us, ⟨zs, hz⟩, r1, _⟩ := b3 q.1 hm
        rw [hy] at hz
        cases hz
        exact ⟨ys', r1⟩
      · exact ⟨ys, by rw [b2 _ hm]; exact hy⟩
    frame := fun a o h1 h2 => by
      refine af.frame a o (r.frame a o h1 h2) fun hp => ?_
      obtain ⟨j, hj, z, l', ys', hj'⟩ := a2 a hp
      obtain ⟨p, us, s1, _, _, _, _, g1, g2⟩ := r.own j _ _ hj'
      rw [z] at s1
      cases s1
      cases l' with
      | true => exact h2 _ (g2 rfl) rfl
      | false => rw [g1 rfl] at h1; cases h1
    mask := fun a h1 h2 => by
      by_cases hl : ∃ q ∈ B.L, q.2 = a
      · obtain ⟨q, hq, e⟩ := hl
        obtain ⟨⟨ys, hy⟩, hs⟩ := r.lent q hq
        obtain ⟨p, us, s1, f1, g1, _⟩ := r.own _ _ _ hy
        rw [hs] at s1
        cases s1
        exact af.mask a (by rw [← e, g1]; simp) (r.mask a h1 h2)
      · cases e : B.H0 a with
        | none => exact absurd e h1
        | some o => exact af.mask a (by rw [r.frame a o e fun q hq z => hl ⟨q, hq, z⟩]; simp) (r.mask a h1 h2) }
end
section
variable {X : Cx} {G : Fx} {B : Bas} {W : Wi}
/-- a def that stands at the module's name x and keeps the promise of number f -/
structure CalOk (X : Cx) (G : Fx) (k : Nat) (f : Nat) (x : Str) : Prop where
  ex : ∃ (addr : Addr) (fd : FuncData) (ps : List Str), FnOk X.prog X.w X.K X.mg X.base (L2.CX X.prog X.w) k addr fd ps (spC G X.K X.w f ps.length) ∧ X.mg x = some (.ref addr) ∧ PySem.W.keepIn X.K (.ref addr) = true ∧ Binds X.K fd ps []
theorem sCall {f np : Nat} {es : Es} {σ : List (Option V)} {H : Hp} {Q : VK} (hn : esLen es = np) (h : tE G X.K X.w B W (.call f es) σ H Q) :
    tEs G X.K X.w B W es σ H fun vs H1 => spC G X.K X.w f np vs H1 Q (WD G X.K X.w B W · · σ ·) := by
  obtain ⟨F, ρ, r, h⟩ := h
  refine ⟨F, ρ, r, ?_⟩
  unfold evE at h
  cases h1 : evEs G.M G.C es ρ with
  | ok vs ρ1 =>
    rw [h1] at h
    simp only at h ⊢
    intro xs F1 H1 e1 r1 k1
    cases h2 : args ρ1 vs with
    | none => rw [h2] at h; exact h.elim
    | some as =>
      rw [h2] at h
      simp only at h
      by_cases lo : lentOnce vs = true
      · rw [if_pos lo] at h
        obtain ⟨a1, a2, a3, a4⟩ := args_ok r1 k1 h2
        have len : xs.length = np := by
          have b1 := es_len es h1
          have b2 : ∀ {vs : List Val} {xs : List V}, Kps X.K X.w F1 σ vs xs → xs.length = vs.length := fun {vs xs} k => by
            induction k with
            | nil => rfl
            | cons _ _ ih => rw [List.length_cons, List.length_cons, ih]
          rw [b2 k1, b1, hn]
        refine ⟨F1, as, len, r1.fh, a1, a4 lo, ?_⟩
        cases h3 : G.C f as with
        | ok v outs =>
          rw [h3] at h
          simp only at h ⊢
          intro u F' H' af o rv
          cases h4 : back ρ1 vs outs with
          | none => rw [h4] at h; exact h.elim
          | some ρ2 =>
            rw [h4] at h
            have r2 := r1.call k1 h2 lo af o h4
            have same : ∀ (i : Nat) (l : Bool) (ys : List D), ρ2[i]? = some (Sl.own l ys) → ∃ l' zs, ρ1[i]? = some (Sl.own l' zs) := fun i l ys hi => by
              obtain ⟨b1, b2, b3⟩ := back_ok k1 h2 o lo h4
              by_cases hm : i ∈ lentIx vs
              · obtain ⟨l', ys', p, us, ⟨zs, hz⟩, _⟩ := b3 i hm
                exact ⟨l', zs, hz⟩
              · exact ⟨l, ys, by rw [← b2 i hm]; exact hi⟩
            refine h u F' H' (e1.trans af.f) r2 ?_
            cases v with
            | p d => exact rv
            | b i => exact rv.elim
            | f ys =>
              obtain ⟨p, us, rfl, a, b, c, q, l⟩ := rv
              exact ⟨p, us, rfl, b, c, q, l, r1.fresh a, fun i l ys hi hs => by
                obtain ⟨l', zs, hz⟩ := same i l ys hi
                exact r1.noOwn a i l' zs hz hs⟩
        | ex x outs =>
          rw [h3] at h
          simp only at h ⊢
          intro cls d F' H' af o xr
          cases h4 : back ρ1 vs outs with
          | none => rw [h4] at h; exact h.elim
          | some ρ2 =>
            rw [h4] at h
            exact ⟨F', x, ρ2, r1.call k1 h2 lo af o h4, xr, h⟩
        | bad => rw [h3] at h; exact h
      · rw [if_neg lo] at h; exact h.elim
  | ex x ρ1 => rw [h1] at h; exact h
  | bad => rw [h1] at h; exact h
theorem sE_call {k f : Nat} {e : Cz.E} {es : Es} {x : Str} {ea : Expr} {eas : List Expr} {p pos : Pos} (tk : Takes X (WD G X.K X.w B W)) (hr : Room k X.A) (c : ∃ (addr : Addr) (fd : FuncData) (ps : List Str), ps.length = esLen (.cons e es) ∧ FnOk X.prog X.w X.K X.mg X.base (L2.CX X.prog X.w) k addr fd ps (spC G X.K X.w f ps.length) ∧ X.mg x = some (.ref addr) ∧ PySem.W.keepIn X.K (.ref addr) = true ∧ Binds X.K fd ps [])
    (hg : Gl X x) (hdb : (x == ("__debug__" : Str)) = false) (he : starEach (ea :: eas) X.env = (false, eval ea X.env) :: starEach eas X.env) (hpl : (backTo pos (starEach eas X.env)).any (·.1) = false) (ha : PA X (ea :: eas) (tEs G X.K X.w B W (.cons e es))) :
    PE X (.Call (.Name x p) (ea :: eas) [] pos) (tE G X.K X.w B W (.call f (.cons e es))) := by
  obtain ⟨addr, fd, ps, hps, F, hm, hk, hb⟩ := c
  refine (pe_callS (E := WE (WD G X.K X.w B W)) F hr hg hm hk hb (fun σ => passAt tk σ) ha hdb he hpl).imp fun σ H Q h => ?_
  exact sCall hps.symm h
end
end Cs
end
section
set_option Elab.async false
set_option linter.all false
set_option maxRecDepth 100000
set_option maxHeartbeats 4000000
/-! SOUND 11: what is walked. -/
namespace PySem
open Sem (wp)
/-- enumerate over anything that begins, from nought -/
theorem czEnumNew {v : Value} {o : Obj} {Z : Heap → Prop} (B : Begins v o Z) : Meets (Builtin.«enumerate.__new__» ⟨[.type "enumerate", v], []⟩) (fun _ R z => Z z.heap ∧
    R (.ok (.ret (.ref (z.heap.push o).objs.size))) { z with heap := (z.heap.push o).push { cls := .type "enumerate", data := .fields #[.none, .bool false, .ref z.heap.objs.size, rawInt 0, .none, .none] } }) :=
  .of_wp fun prog w A R z hz => by
    obtain ⟨hp, gg, dd, tt, oo⟩ := z
    obtain ⟨h1, hR⟩ := hz
    have hsb := sub_enumerate
    have it : ∀ {A' : Around} {E' : Value → Shared → Prop} {Q' : Value → Shared → Prop}, Q' (.ref hp.objs.size) ⟨hp.push o, gg, dd, tt, oo⟩ → wpAny (model prog w) A' (pyIter v) Q' E' ⟨hp, gg, dd, tt, oo⟩ :=
      fun q => B.iter prog w _ _ ⟨hp, gg, dd, tt, oo⟩ _ h1 q
    wp_walk using it
    refine wpAny_stack_any fun stk => wpAny_pure ?_
    split
    · rename_i cc _ _ _ _ _
      cases (cc == Value.type "enumerate") <;> (wp_walk using it; exact ⟨_, rfl, hR⟩)
    · (wp_walk using it; exact ⟨_, rfl, hR⟩)
theorem czEnumCall {prog : Program} {w : World} {A : Around} {E : Value → Shared → Prop} {z : Shared} {v : Value} {o : Obj} {Z : Heap → Prop} {Q : Value → Shared → Prop} (B : Begins v o Z) (h1 : Z z.heap)
    (k : ∀ g, IsEnum g (z.heap.objs.size + 1) z.heap.objs.size 0 .none → g.get? z.heap.objs.size = some o → (∀ b u, z.heap.get? b = some u → g.get? b = some u) → Q (.ref (z.heap.objs.size + 1)) { z with heap := g }) :
    wpAny (model prog w) A (call (.type "enumerate") [v]) Q E z := by
  refine callType_new F.called_enumerate (by decide) (F.typeCall_enumerate_1 _) (F.newCall_enumerate_1 _) (fun ob => F.args_object_init_2 ob _) F.entry_enumerate_new (czEnumNew B) ⟨h1, ?_⟩
  have sz : (z.heap.push o).objs.size = z.heap.objs.size + 1 := Heap.size_push ..
  show _ ∧ _
  rw [sz]
  have en : IsEnum ((z.heap.push o).push { cls := .type "enumerate", data := .fields #[.none, .bool false, .ref z.heap.objs.size, rawInt 0, .none, .none] }) (z.heap.objs.size + 1) z.heap.objs.size 0 .none := by
    have t := Heap.get?_push_size (z.heap.push o) (o := { cls := .type "enumerate", data := .fields #[.none, .bool false, .ref z.heap.objs.size, rawInt 0, .none, .none] }) rfl
    rw [sz] at t
    exact t
  exact ⟨⟨_, en, rfl⟩, k _ en (Heap.get?_push_of_some _ (Heap.get?_push_size _ B.free)) fun b u x => Heap.get?_push_of_some _ (Heap.get?_push_of_some _ x)⟩
end PySem
namespace Cs
open PySem L2 Cz PyProof.Rows
/-- a tuple's items with their numbers -/
def Itet (K : PySem.W.Frag) (a : Addr) : L2.It where
  go := fun i H => ∃ (xs : List V) (x : V), SqT K H a xs ∧ xs[i]? = some x
  yld := fun i H v H' => ∃ T x, v = .ref T ∧ H T = none ∧ H' = upd H T (.tup [.int (i : Nat), x]) ∧ ∀ ys, SqT K H a ys → ys[i]? = some x
  stop := fun i H => ∃ xs : List V, SqT K H a xs ∧ xs.length = i
theorem tupApart {h : Heap} {a b c : Addr} {its : Array Value} {i : Nat} (t : h.IsTuple a its) (q : h.IsTupleIter b c i) : a ≠ b := fun z => by
  obtain ⟨o, h1, h2, _⟩ := t
  obtain ⟨u, g1, g2, _⟩ := q
  rw [z, g1] at h1
  cases h1
  rw [g2] at h2
  have w : ("tuple_iterator" : String) = "tuple" := Value.type.inj h2
  exact absurd w (by decide)
theorem tupApartE {h : Heap} {a b c : Addr} {its : Array Value} {i : Int} {old : Value} (t : h.IsTuple a its) (q : IsEnum h b c i old) : a ≠ b := fun z => by
  obtain ⟨o, h1, h2, _⟩ := t
  have q' : h.get? b = some _ := q
  rw [z, q'] at h1
  cases h1
  have w : ("enumerate" : String) = "tuple" := Value.type.inj h2
  exact absurd w (by decide)
theorem turn_enumT {P : Program} {w : World} {K : PySem.W.Frag} {elts : List Expr} {kk : Nat} {tpos : Pos} (a e it : Addr) :
    Turn P w K (.Tuple elts kk tpos) (Itet K a) [e, it] e (fun i h => (∃ old, IsEnum h e it ((i : Nat) : Int) old) ∧ h.IsTupleIter it a i ∧ e ≠ it) where
  mem := List.mem_cons_self
  obj := fun i h tn b hb => by
    obtain ⟨⟨old, en⟩, ⟨o, ho, hc, hd⟩, _⟩ := tn
    rcases List.mem_cons.mp hb with z | z
    · rw [z]; exact ⟨_, en, fun v q => nomatch q⟩
    · rw [List.mem_singleton.mp z]; exact ⟨o, ho, fun v q => by rw [hd] at q; cases q⟩
  keep := fun i h g tn k => let ⟨⟨old, en⟩, ti, ne⟩ := tn; ⟨⟨old, k e List.mem_cons_self _ en⟩, ti.at fun o q => k it (List.mem_cons_of_mem _ List.mem_cons_self) o q, ne⟩
  item := by
    intro X eP ew eK hc i pins z σ H E I fp tn go
    subst eP ew eK
    obtain ⟨⟨old, en⟩, ti, ne⟩ := tn
    obtain ⟨xs, x, sq, hx⟩ := go
    obtain ⟨its, rv, it1, lz⟩ := I.tuple sq
    obtain ⟨u, hu, ru⟩ := rv.get hx
    have a1 : a ≠ it := tupApart it1 ti
    have a2 : a ≠ e := tupApartE it1 en
    have le : e < z.heap.objs.size := Heap.lt_size en
    have li : it < z.heap.objs.size := by obtain ⟨_, q, _⟩ := ti; exact Heap.lt_size q
    have lt : i < its.length := (List.getElem?_eq_some_iff.mp hu).1
    have D := Draws.tuple (prog := X.prog) (w := X.w) (A := X.A.in1) (I.ok.hd hc) it a a1 its.toArray
    refine wpAny_pyNext_enum_itemD D en ⟨ti, it1⟩ (by simpa using lt) ne (by simp [ne, Ne.symm a2]) fun y g tk py eo st' gT gs gk => ?_
    have ey : y = u := by
      have q : its.toArray[i]? = some y := py
      have q' : its[i]? = some y := by simpa using q
      rw [hu] at q'
      exact (Option.some.inj q').symm
    subst ey
    refine ⟨_, rfl, wpAny_letOwnedTupleGo_enum (s := { z with heap := g, toks := tk + 1 }) eo fun g2 en2 sb => ?_⟩
    have gT2 : g2.get? z.heap.objs.size = some { cls := .type "tuple", data := .seq #[.int i tk, y] } := (sb.2 _ (Nat.ne_of_gt le)).trans gT
    have new : ObjOk X.prog X.w (upd H z.heap.objs.size (.tup [.int (i : Nat), x])) g2 z.heap.objs.size (.tup [.int (i : Nat), x]) :=
      ⟨by show 2 ≤ sizeLine; decide, [.int i tk, y], .cons ⟨_, rfl⟩ (.cons ru .nil), ⟨_, gT2, rfl, _, rfl⟩⟩
    have I2 : Inv X pins σ (upd H z.heap.objs.size (.tup [.int (i : Nat), x])) { z with heap := g2, toks := tk + 1 } :=
      I.turnedNew (ch := [e, it]) (fun b ob hb q => (sb.2 b (fun y => hb (by simp [y]))).trans (gk b ob (fun y => hb (by simp [y])) (fun y => hb (by simp [y])) q)) fp (Nat.le_refl _) new
    refine ⟨.ref z.heap.objs.size, _, I2, rfl, ⟨_, x, rfl, I.hok.fresh (Nat.le_refl _), rfl, fun ys hy => by rw [I.tuple_inj hy sq]; exact hx⟩, ⟨⟨y, ?_⟩, st'.1.at fun o q => (sb.2 it (Ne.symm ne)).trans q, ne⟩, fun b hb => ?_⟩
    · rw [show ((i + 1 : Nat) : Int) = (i : Int) + 1 by omega]
      exact en2
    · have lb : b < z.heap.objs.size := by
        rcases List.mem_cons.mp hb with y | y
        · rw [y]; exact le
        · rw [List.mem_singleton.mp y]; exact li
      rw [upd_ne (Nat.ne_of_lt lb)]
      exact (fp b hb).1
  done := by
    intro X eP ew eK hc i pins z σ H E I fp tn st
    subst eP ew eK
    obtain ⟨⟨old, en⟩, ti, ne⟩ := tn
    obtain ⟨xs, sq, hx⟩ := st
    obtain ⟨its, rv, it1, lz⟩ := I.tuple sq
    have a1 : a ≠ it := tupApart it1 ti
    obtain ⟨f0, f1, f2, f3, f4, f5⟩ := fp it (List.mem_cons_of_mem _ List.mem_cons_self)
    have hl := rv.length
    have D := Draws.tuple (prog := X.prog) (w := X.w) (A := X.A.in1) (I.ok.hd hc) it a a1 its.toArray
    have e : its.toArray.size = i := by
      rw [List.size_toArray]
      omega
    refine wpAny_pyNext_enum_endD D en (e ▸ ⟨ti, it1⟩) fun g eb => ⟨rfl, I.turned (t' := z.toks) (fun b ob hb q => eb b ob hb q) f0 f1 f3 f4 f5⟩
  self := fun A i z Q E tn k => let ⟨⟨_, en⟩, _⟩ := tn; wpAny_pyIter_enum en k
end Cs
end
section
set_option Elab.async false
set_option linter.all false
set_option maxRecDepth 100000
set_option maxHeartbeats 4000000
/-! SOUND 12: stores; targets; what is walked, by data. -/
namespace Cs
open PySem L2 Cz PyProof.Rows
section
variable {K : PySem.W.Frag} {w : World} {B : Bas} {F H F' H' : Hp} {σ : List (Option V)} {ρ : List Sl}
/-- what may stand in a slot -/
def SlOk (K : PySem.W.Frag) (w : World) (B : Bas) (F H : Hp) (σ : List (Option V)) (ρ : List Sl) (i : Nat) (y : Option V) : Sl → Prop
  | .no => True
  | .exn _ => True
  | .d x => ∃ v, y = some v ∧ DV K w F v x
  | .own l xs => l = false ∧ ∃ p vs, y = some (V.ref p) ∧ F p = none ∧ H p = some (.lst vs) ∧ DVs K w F vs xs ∧ xs.length ≤ Lim ∧ B.H0 p = none ∧ ∀ (j : Nat) (l : Bool) (ys : List D), j ≠ i → ρ[j]? = some (Sl.own l ys) → σ[j]? ≠ some (some (V.ref p))
theorem vset1 (σ : List (Option V)) (i j : Nat) (y z : Option V) : (σ.set i y)[j]? = some z ↔ (if i = j then (i < σ.length ∧ y = z) else σ[j]? = some z) := by
  by_cases h : i = j
  · subst h
    rw [if_pos rfl, List.getElem?_set_self']
    by_cases hl : i < σ.length
    · rw [List.getElem?_eq_getElem hl]; simp [hl]
    · rw [List.getElem?_eq_none (by omega)]; simp [hl]
  · rw [if_neg h, List.getElem?_set_ne h]
theorem Rep.store {i : Nat} {y : Option V} {z : Sl} (r : Rep K w B F H σ ρ) (hf : free ρ i = true) (h : SlOk K w B F H σ ρ i y z) : Rep K w B F H (σ.set i y) (ρ.set i z) := by
  have hlt : i < ρ.length := by
    unfold free at hf
    split at hf
    · cases hf
    · rename_i e; exact (List.getElem?_eq_some_iff.mp e).1
    · cases hf
  have hnl : ∀ xs, ρ[i]? ≠ some (Sl.own true xs) := fun xs e => by
    unfold free at hf
    rw [e] at hf
    cases hf
  exact {
    fe := r.fe
    fh := r.fh
    len := by rw [List.length_set, List.length_set]; exact r.len
    dat := fun j x e => by
      rw [pset1] at e
      split at e
      · rename_i e1
        subst e1
        rw [e.2] at h
        obtain ⟨v, e2, dv⟩ := h
        exact ⟨v, by rw [vset1, if_pos rfl]; exact ⟨by rw [r.len]; exact hlt, e2⟩, dv⟩
      · rename_i e1
        obtain ⟨v, e2, dv⟩ := r.dat j x e
        exact ⟨v, by rw [vset1, if_neg e1]; exact e2, dv⟩
    own := fun j l xs e => by
      rw [pset1] at e
      split at e
      · rename_i e1
        subst e1
        rw [e.2] at h
        obtain ⟨hl, p, vs, e2, f1, h1, d1, l1, b1, _⟩ := h
        subst hl
        exact ⟨p, vs, by rw [vset1, if_pos rfl]; exact ⟨by rw [r.len]; exact hlt, e2⟩, f1, h1, d1, l1, fun _ => b1, fun z => by cases z⟩
      · rename_i e1
        obtain ⟨p, vs, e2, q⟩ := r.own j l xs e
        exact ⟨p, vs, by rw [vset1, if_neg e1]; exact e2, q⟩
    apart := fun j k l l' xs ys p ej ek sj sk => by
      rw [pset1] at ej ek
      rw [vset1] at sj sk
      by_cases e1 : i = j
      · by_cases e2 : i = k
        · rw [← e1, ← e2]
        · rw [if_pos e1] at ej sj
          rw [if_neg e2] at ek sk
          rw [ej.2] at h
          obtain ⟨_, p', vs, e3, _, _, _, _, _, n⟩ := h
          rw [sj.2] at e3
          cases e3
          exact absurd sk (n k l' ys (fun z => e2 z.symm) ek)
      · by_cases e2 : i = k
        · rw [if_neg e1] at ej sj
          rw [if_pos e2] at ek sk
          rw [ek.2] at h
          obtain ⟨_, p', vs, e3, _, _, _, _, _, n⟩ := h
          rw [sk.2] at e3
          cases e3
          exact absurd sj (n j l xs (fun z => e1 z.symm) ej)
        · rw [if_neg e1] at ej sj
          rw [if_neg e2] at ek sk
          exact r.apart j k l l' xs ys p ej ek sj sk
    lent := fun q hq => by
      obtain ⟨⟨xs, hx⟩, hs⟩ := r.lent q hq
      have ne : i ≠ q.1 := fun e => hnl xs (by rw [e]; exact hx)
      exact ⟨⟨xs, by rw [pset1, if_neg ne]; exact hx⟩, by rw [vset1, if_neg ne]; exact hs⟩
    frame := r.frame
    mask := r.mask }
/-- a slot's part: only what is read -/
theorem free_set {i j : Nat} {z : Sl} (h : free ρ j = true) (hz : ∀ xs, z ≠ .own true xs) : free (ρ.set i z) j = true := by
  unfold free at h ⊢
  by_cases e : i = j
  · subst e
    by_cases hl : i < ρ.length
    · rw [List.getElem?_set_self hl]
      cases z with
      | own l xs => cases l with
        | true => exact absurd rfl (hz xs)
        | false => rfl
      | _ => rfl
    · rw [List.getElem?_eq_none (by rw [List.length_set]; omega)]
      rw [List.getElem?_eq_none (by omega)] at h
      exact h
  · rw [List.getElem?_set_ne e]; exact h
end
section
variable (K : PySem.W.Frag) (w : World) (B : Bas)
/-- a value of data goes to slots -/
def tGt (t : List Nat) : TG := fun v σ H Q => ∃ F ρ d ρ', Rep K w B F H σ ρ ∧ DV K w F v d ∧ bindT ρ t d = some ρ' ∧ ∀ σ', Rep K w B F H σ' ρ' → σ'.length = σ.length → (∀ j, j ∉ t → σ'[j]? = σ[j]?) → Q σ' H
def tGts (t : List Nat) : TGs := fun vs σ H Q => ∃ F ρ ds ρ', Rep K w B F H σ ρ ∧ DVs K w F vs ds ∧ Cz.putAll ρ t ds = some ρ' ∧ ∀ σ', Rep K w B F H σ' ρ' → σ'.length = σ.length → (∀ j, j ∉ t → σ'[j]? = σ[j]?) → Q σ' H
end
theorem put_d {ρ ρ' : List Sl} {i : Nat} {d : D} (h : put ρ i (.p d) = some ρ') : free ρ i = true ∧ ρ' = ρ.set i (.d d) := by
  unfold put at h
  split at h
  · rename_i f
    cases h
    exact ⟨f, rfl⟩
  · cases h
theorem put_f {ρ ρ' : List Sl} {i : Nat} {xs : List D} (h : put ρ i (.f xs) = some ρ') : free ρ i = true ∧ ρ' = ρ.set i (.own false xs) := by
  unfold put at h
  split at h
  · rename_i f
    cases h
    exact ⟨f, rfl⟩
  · cases h
section
variable {X : Cx} {B : Bas}
theorem _root_.L2.PG.imp {e : Expr} {t t' : TG} (h : PG X e t) (i : ∀ v σ H Q, t' v σ H Q → t v σ H Q) : PG X e t' := ⟨fun pins s σ H v u Q I r q => h.run pins s σ H v u Q I r (i v σ H Q q)⟩
theorem _root_.L2.PGs.imp {e : List Expr} {t t' : TGs} (h : PGs X e t) (i : ∀ v σ H Q, t' v σ H Q → t v σ H Q) : PGs X e t' := ⟨fun pins s σ H v u Q I r q => h.run pins s σ H v u Q I r (i v σ H Q q)⟩
theorem _root_.L2.PI.imp {tg e : Expr} {t t' : TI} (h : PI X tg e t) (i : ∀ σ H Q, t' σ H Q → t σ H Q) : PI X tg e t' := ⟨fun pins s σ H Q I q => h.run pins s σ H Q I (i σ H Q q)⟩
theorem _root_.L2.PS.imp {e : Stmt} {t t' : TS} (h : PS X e t) (i : ∀ D σ H, t' D σ H → t D σ H) : PS X e t' := ⟨fun pins s σ H D I q => h.run pins s σ H D I (i D σ H q)⟩
theorem _root_.L2.PSs.imp {e : List Stmt} {t t' : TS} (h : PSs X e t) (i : ∀ D σ H, t' D σ H → t D σ H) : PSs X e t' := ⟨fun pins s σ H D I q => h.run pins s σ H D I (i D σ H q)⟩
theorem sG_one (hN : X.N.Nodup) {i : Nat} {x : Str} {pos : Pos} (hi : X.N[i]? = some x) (hx : Loc X.env.scope x) (hf : X.fn x = true ∨ X.env.scope.names.lookup x = some .local) : PG X (.Name x pos) (tGt X.K X.w B [i]) := by
  refine (pg_name hN hi hx hf).imp fun v σ H Q h => ?_
  obtain ⟨F, ρ, d, ρ', r, dv, hb, q⟩ := h
  have hp : put ρ i (.p d) = some ρ' := by
    unfold bindT at hb
    exact hb
  obtain ⟨f, e⟩ := put_d hp
  subst e
  exact q _ (r.store f ⟨v, rfl, dv⟩) (by rw [List.length_set]) fun j hj => List.getElem?_set_ne (by intro e; exact hj (by simp [e]))
theorem sGs_nil : PGs X [] (tGts X.K X.w B []) := by
  refine pgs_nil.imp fun vs σ H Q h => ?_
  obtain ⟨F, ρ, ds, ρ', r, dv, hb, q⟩ := h
  cases ds with
  | nil =>
    cases hb
    cases dv
    exact ⟨rfl, q σ r rfl fun _ _ => rfl⟩
  | cons d ds => cases hb
theorem sGs_cons (hN : X.N.Nodup) {i : Nat} {x : Str} {pos : Pos} {es : List Expr} {t : List Nat} (hi : X.N[i]? = some x) (hx : Loc X.env.scope x) (hf : X.fn x = true ∨ X.env.scope.names.lookup x = some .local) (hs : PGs X es (tGts X.K X.w B t)) : PGs X (.Name x pos :: es) (tGts X.K X.w B (i :: t)) := by
  refine (pgs_cons (pg_name hN hi hx hf) hs rfl).imp fun vs σ H Q h => ?_
  obtain ⟨F, ρ, ds, ρ', r, dv, hb, q⟩ := h
  cases ds with
  | nil => cases hb
  | cons d ds =>
    cases dv with
    | cons dv dvs =>
      unfold Cz.putAll at hb
      obtain ⟨ρ1, hp, hb⟩ := Option.bind_eq_some_iff.mp hb
      obtain ⟨f, e⟩ := put_d hp
      subst e
      refine ⟨_, _, rfl, F, _, ds, ρ', r.store (z := .d d) f ⟨_, rfl, dv⟩, dvs, hb, fun σ' r' l' k' => q σ' r' (by rw [l', List.length_set]) fun j hj => ?_⟩
      rw [k' j (fun z => hj (by simp [z])), List.getElem?_set_ne (by intro e; exact hj (by simp [e]))]
/-- the names of a target -/
inductive Nms (X : Cx) : List Expr → List Nat → Prop
  | nil : Nms X [] []
  | cons {i : Nat} {x : Str} {pos : Pos} {es : List Expr} {t : List Nat} : X.N[i]? = some x → Loc X.env.scope x → (X.fn x = true ∨ X.env.scope.names.lookup x = some .local) → Nms X es t → Nms X (.Name x pos :: es) (i :: t)
theorem Nms.pgs (hN : X.N.Nodup) : ∀ {es : List Expr} {t : List Nat}, Nms X es t → PGs X es (tGts X.K X.w B t)
  | _, _, .nil => sGs_nil
  | _, _, .cons a b c d => sGs_cons hN a b c (Nms.pgs hN d)
theorem Nms.len : ∀ {es : List Expr} {t : List Nat}, Nms X es t → (assignEach es X.env).length = t.length ∧ (assignEach es X.env).findIdx? (·.1) = none
  | _, _, .nil => ⟨rfl, rfl⟩
  | _, _, .cons (x := x) (pos := pos) (es := es) a b c d => by
    obtain ⟨h1, h2⟩ := Nms.len d
    refine ⟨by show (assignEach es X.env).length + 1 = _; rw [h1]; rfl, ?_⟩
    show List.findIdx? _ ((false, assign (.Name x pos) X.env) :: assignEach es X.env) = none
    rw [List.findIdx?_cons]
    simp [h2]
theorem putAll_len : ∀ {t : List Nat} {ds : List D} {ρ ρ' : List Sl}, Cz.putAll ρ t ds = some ρ' → ds.length = t.length
  | [], [], _, _, _ => rfl
  | i :: t, d :: ds, ρ, ρ', h => by
    unfold Cz.putAll at h
    obtain ⟨ρ1, hp, hb⟩ := Option.bind_eq_some_iff.mp h
    rw [List.length_cons, List.length_cons, putAll_len hb]
  | [], _ :: _, _, _, h => by cases h
  | _ :: _, [], _, _, h => by cases h
theorem sG_tup (hN : X.N.Nodup) (hc : X.calm = true) {es : List Expr} {t : List Nat} {k : Nat} {pos : Pos} (h : Nms X es t) (ht : 2 ≤ t.length) : PG X (.Tuple es k pos) (tGt X.K X.w B t) := by
  refine (pg_tup hc (h.pgs (B := B) hN) h.len.1 h.len.2).imp fun v σ H Q h => ?_
  obtain ⟨F, ρ, d, ρ', r, dv, hb, q⟩ := h
  match t, ht, hb, q with
  | i :: j :: t, _, hb, q =>
    cases dv with
    | tup sq dvs _ =>
      have hb' : Cz.putAll ρ (i :: j :: t) _ = some ρ' := hb
      exact ⟨_, _, rfl, r.fh.t sq, by rw [dvs.length, putAll_len hb'], F, ρ, _, ρ', r, dvs, hb', q⟩
    | _ => cases hb
end

/-! ### what is walked -/
/-- an iterator that hands out these data -/
def ItOk (K : PySem.W.Frag) (w : World) (F : Hp) (J : L2.It) (ds : List D) : Prop := ∀ F' H', Ex F F' → Ex F' H' →
  (∀ i d, ds[i]? = some d → J.go i H' ∧ ∀ x H2, J.yld i H' x H2 → ∃ F2, Grow F' H' F2 H2 ∧ DV K w F2 x d) ∧ J.stop ds.length H'
section
variable (G : Fx) (K : PySem.W.Frag) (w : World) (B : Bas)
def tI (it : Cz.It) : TI := fun σ H R => ∃ F ρ ds ρ', Rep K w B F H σ ρ ∧ evIt G.M G.C it ρ = some (ds, ρ') ∧ ∀ J F' H', Ex F F' → Rep K w B F' H' σ ρ' → ds.length ≤ Lim → ItOk K w F' J ds → R J H'
end
section
variable {K : PySem.W.Frag} {w : World} {F : Hp}
theorem itok_list {a : Addr} {vs : List V} {ds : List D} (h : SqL K F a vs) (q : DVs K w F vs ds) : ItOk K w F (Itl K a) ds := fun F' H' e1 e2 => by
  have h2 := (e1.trans e2).l h
  refine ⟨fun i d hd => ?_, ⟨vs, h2, by rw [q.length]; exact Nat.le_refl _⟩⟩
  obtain ⟨v, hv, dv⟩ := q.get hd
  refine ⟨⟨vs, v, h2, hv⟩, fun x H2 hy => ?_⟩
  obtain ⟨rfl, hx⟩ := hy
  have e := hx vs h2
  rw [hv] at e
  cases e
  exact ⟨F', .refl e2, dv.mono e1⟩
theorem itok_tup {a : Addr} {vs : List V} {ds : List D} (h : SqT K F a vs) (q : DVs K w F vs ds) : ItOk K w F (Itt K a) ds := fun F' H' e1 e2 => by
  have h2 := (e1.trans e2).t h
  refine ⟨fun i d hd => ?_, ⟨vs, h2, by rw [q.length]; exact Nat.le_refl _⟩⟩
  obtain ⟨v, hv, dv⟩ := q.get hd
  refine ⟨⟨vs, v, h2, hv⟩, fun x H2 hy => ?_⟩
  obtain ⟨rfl, hx⟩ := hy
  have e := hx vs h2
  rw [hv] at e
  cases e
  exact ⟨F', .refl e2, dv.mono e1⟩
theorem itok_str {s : List Nat} (h : sOk s = true) : ItOk K w F (Its (st s)) (s.map fun c => .str [c]) := fun F' H' e1 e2 => by
  refine ⟨fun i d hd => ?_, by show (st s).cps.size ≤ _; simp⟩
  rw [List.getElem?_map] at hd
  obtain ⟨c, hc, rfl⟩ := Option.map_eq_some_iff.mp hd
  refine ⟨by show i < (st s).cps.size; exact by simpa using (List.getElem?_eq_some_iff.mp hc).1, fun x H2 hy => ?_⟩
  obtain ⟨rfl, c', hc', rfl⟩ := hy
  have e : c' = c := by
    have h2 : s[i]? = some c' := by simpa using hc'
    rw [hc] at h2
    exact (Option.some.inj h2).symm
  subst e
  refine ⟨F', .refl e2, .str [c'] ?_⟩
  unfold sOk at h ⊢
  rw [Bool.and_eq_true] at h
  have := List.all_eq_true.mp h.2 c' (List.mem_of_getElem? hc)
  simpa using this
theorem ints_get (lo : Int) (n i : Nat) : (Cz.intsD lo n)[i]? = if i < n then some (.int (lo + i)) else none := by
  unfold Cz.intsD
  rw [List.getElem?_map]
  by_cases h : i < n
  · rw [if_pos h, List.getElem?_range h]; rfl
  · rw [if_neg h, List.getElem?_eq_none (by rw [List.length_range]; omega)]; rfl
theorem ints_len (lo : Int) (n : Nat) : (Cz.intsD lo n).length = n := by simp [Cz.intsD]
theorem itok_ints (lo : Int) (n : Nat) : ItOk K w F (Itr lo n) (Cz.intsD lo n) := fun F' H' e1 e2 => by
  refine ⟨fun i d hd => ?_, by show n ≤ _; rw [ints_len]; exact Nat.le_refl _⟩
  rw [ints_get] at hd
  split at hd
  · rename_i lt
    cases hd
    refine ⟨lt, fun x H2 hy => ?_⟩
    obtain ⟨rfl, rfl⟩ := hy
    exact ⟨F', .refl e2, .int _⟩
  · cases hd
theorem enum_get : ∀ (k : Nat) (ds : List D) (i : Nat), (enumFrom k ds)[i]? = (ds[i]?).map fun d => .tup [.int ((k + i : Nat) : Int), d]
  | k, [], i => by simp [enumFrom]
  | k, d :: r, 0 => by simp [enumFrom]
  | k, d :: r, i + 1 => by
    unfold enumFrom
    rw [List.getElem?_cons_succ, List.getElem?_cons_succ, enum_get (k + 1) r i]
    congr 1
    funext z
    rw [show k + 1 + i = k + (i + 1) by omega]
theorem enum_len : ∀ (k : Nat) (ds : List D), (enumFrom k ds).length = ds.length
  | _, [] => rfl
  | k, d :: r => by unfold enumFrom; rw [List.length_cons, List.length_cons, enum_len]
theorem pair_ok {F' H' : Hp} {T : Addr} {i : Nat} {v : V} {d : D} (e2 : Ex F' H') (hT : H' T = none) (dv : DV K w F' v d) : ∃ F2, Grow F' H' F2 (upd H' T (.tup [.int (i : Nat), v])) ∧ DV K w F2 (.ref T) (.tup [.int (i : Nat), d]) := by
  have g := Grow.data (o := .tup [.int (i : Nat), v]) e2 hT
  exact ⟨_, g, .tup (SqT.of upd_same) (.cons (.int _) (.cons (dv.mono g.f) .nil)) (by show 2 ≤ 100000; decide)⟩
theorem itok_enum {a : Addr} {vs : List V} {ds : List D} (h : SqL K F a vs) (q : DVs K w F vs ds) : ItOk K w F (Ite K a) (enumFrom 0 ds) := fun F' H' e1 e2 => by
  have h2 := (e1.trans e2).l h
  refine ⟨fun i d hd => ?_, ⟨vs, h2, by rw [q.length, enum_len]; exact Nat.le_refl _⟩⟩
  rw [enum_get] at hd
  obtain ⟨d0, hd0, rfl⟩ := Option.map_eq_some_iff.mp hd
  obtain ⟨v, hv, dv⟩ := q.get hd0
  refine ⟨⟨vs, v, h2, hv⟩, fun x H2 hy => ?_⟩
  obtain ⟨T, x', rfl, hT, rfl, hx⟩ := hy
  have e := hx vs h2
  rw [hv] at e
  cases e
  rw [Nat.zero_add]
  exact pair_ok e2 hT (dv.mono e1)
theorem itok_enumT {a : Addr} {vs : List V} {ds : List D} (h : SqT K F a vs) (q : DVs K w F vs ds) : ItOk K w F (Itet K a) (enumFrom 0 ds) := fun F' H' e1 e2 => by
  have h2 := (e1.trans e2).t h
  refine ⟨fun i d hd => ?_, ⟨vs, h2, by rw [q.length, enum_len]⟩⟩
  rw [enum_get] at hd
  obtain ⟨d0, hd0, rfl⟩ := Option.map_eq_some_iff.mp hd
  obtain ⟨v, hv, dv⟩ := q.get hd0
  refine ⟨⟨vs, v, h2, hv⟩, fun x H2 hy => ?_⟩
  obtain ⟨T, x', rfl, hT, rfl, hx⟩ := hy
  have e := hx vs h2
  rw [hv] at e
  cases e
  rw [Nat.zero_add]
  exact pair_ok e2 hT (dv.mono e1)
end
end Cs
end
section
set_option Elab.async false
set_option linter.all false
set_option maxRecDepth 100000
set_option maxHeartbeats 4000000
/-! SOUND 13: the sources of loops. -/
namespace Cs
open PySem L2 Cz PyProof.Rows
section
variable {X : Cx} {G : Fx} {B : Bas} {W : Wi}
/-- a value walked -/
theorem val_it {tg : Expr} {pins : List (Addr × Obj)} {σ : List (Option V)} {F1 H1 : Hp} {s1 : Shared} {R : L2.It → Hp → Prop} {y : V} {v : Value} {d : D} {ds : List D} {ρ' : List Sl} (I1 : Inv X pins σ H1 s1) (r1 : RelV y v) (rp : Rep X.K X.w B F1 H1 σ ρ') (dv : DV X.K X.w F1 y d) (hd : itemsOf d = some ds)
    (q : ∀ J, ds.length ≤ Lim → ItOk X.K X.w F1 J ds → R J H1) : wpAny (model X.prog X.w) X.A (pyIter v) (PIE X pins σ tg R) X.xe s1 := by
  cases dv with
  | tup sq dvs l =>
    cases hd
    cases r1
    obtain ⟨its, rv, p, hz⟩ := I1.tuple (rp.fh.t sq)
    refine wpAny_pyIter_tuple (show s1.heap.IsTuple _ its.toArray from p) ?_
    exact pi_one (tk := s1.toks) I1 _ (turn_tuple _ _) ⟨_, Heap.get?_push_size _ rfl, rfl, rfl⟩ (q _ l (itok_tup sq dvs))
  | lst sq dvs l =>
    cases hd
    cases r1
    obtain ⟨its, rv, p, hz⟩ := I1.list (rp.fh.l sq)
    refine wpAny_pyIter_list p.isList ?_
    exact pi_one (tk := s1.toks) I1 _ (turn_list _ _) ⟨_, Heap.get?_push_size _ rfl, rfl, rfl⟩ (q _ l (itok_list sq dvs))
  | str s ok =>
    cases hd
    obtain ⟨t, rfl⟩ := r1
    have l : (s.map fun c => D.str [c]).length ≤ Lim := by
      rw [List.length_map]
      unfold sOk at ok
      rw [Bool.and_eq_true] at ok
      exact of_decide_eq_true ok.1
    have k := q _ l (itok_str ok)
    cases ha : (st s).cps.all (· < 128)
    · exact wpAny_pyIter_wide ha (pi_one (tk := s1.toks) I1 _ (turn_str _ (st s) t "str_iterator" (.inr rfl)) ⟨_, Heap.get?_push_size _ rfl, rfl, rfl⟩ k)
    · exact wpAny_pyIter_ascii ha (pi_one (tk := s1.toks) I1 _ (turn_str _ (st s) t "str_ascii_iterator" (.inl rfl)) ⟨_, Heap.get?_push_size _ rfl, rfl, rfl⟩ k)
  | non => cases hd
  | bl b => cases hd
  | int i => cases hd
  | dct a b => cases hd
/-- an expression's value let go -/
theorem tE_go {e : Cz.E} {σ : List (Option V)} {H : Hp} {F : Hp} {ρ ρ1 : List Sl} {v : Val} {Q : VK} (r : Rep X.K X.w B F H σ ρ) (h1 : evE G.M G.C e ρ = .ok v ρ1)
    (q : ∀ y F1 H1, Ex F F1 → Rep X.K X.w B F1 H1 σ ρ1 → Kp X.K X.w F1 σ (fz v) y → Q y H1) : tE G X.K X.w B W e σ H Q := by
  refine ⟨F, ρ, r, ?_⟩
  rw [h1]
  intro y F1 H1 e1 r1 ev
  obtain ⟨F2, e2, r2, k2⟩ := ev.fz r1
  exact q y F2 H1 (e1.trans e2) r2 k2
theorem sI_val {tg ie : Expr} {e : Cz.E} (he : PE X ie (tE G X.K X.w B W e)) : PI X tg ie (tI G X.K X.w B (.val e)) := by
  refine ⟨fun pins s σ H R I h => ?_⟩
  obtain ⟨F, ρ, ds, ρ', r, hev, q⟩ := h
  unfold evIt at hev
  cases h1 : evE G.M G.C e ρ with
  | ok v ρ1 =>
    rw [h1] at hev
    simp only at hev
    cases h2 : fz v with
    | p d =>
      rw [h2] at hev
      obtain ⟨ds', hds, e2⟩ := Option.map_eq_some_iff.mp hev
      cases e2
      refine thn (he.run pins s σ H (fun y H1 => ∃ F1, Ex F F1 ∧ Rep X.K X.w B F1 H1 σ ρ' ∧ DV X.K X.w F1 y d) I (tE_go r h1 fun y F1 H1 e1 r1 k => ⟨F1, e1, r1, by rw [h2] at k; exact k⟩)) fun v1 s1 ⟨y, H1, I1, r1, F1, e1, rep1, dv⟩ => ?_
      exact val_it I1 r1 rep1 dv hds fun J l ok => q J F1 H1 e1 rep1 l ok
    | f xs => rw [h2] at hev; cases hev
    | b i => rw [h2] at hev; cases hev
  | ex x ρ1 => rw [h1] at hev; cases hev
  | bad => rw [h1] at hev; cases hev
theorem sI_r1 {tg ea : Expr} {e : Cz.E} {p pos : Pos} (hg : Gl X "range") (hm : X.mg "range" = none) (hs : starEach [ea] X.env = [(false, eval ea X.env)]) (he : PE X ea (tE G X.K X.w B W e)) : PI X tg (.Call (.Name "range" p) [ea] [] pos) (tI G X.K X.w B (.r1 e)) := by
  refine (pi_range1 (ta := tEs G X.K X.w B W (.cons e .nil)) hg hm (sA_cons he sA_nil hs) hs).imp fun σ H R h => ?_
  obtain ⟨F, ρ, ds, ρ', r, hev, q⟩ := h
  unfold evIt at hev
  refine ⟨F, ρ, r, ?_⟩
  split at hev
  · rename_i n ρ1 h1
    split at hev
    · rename_i hn
      cases hev
      unfold evEs
      rw [h1]
      intro xs F1 H1 e1 r1 k1
      cases k1 with
      | cons k k1 =>
        cases k1
        have k : DV X.K X.w F1 _ (.int n) := k
        cases k
        refine ⟨n, rfl, by omega, by omega, q _ F1 H1 e1 r1 (by rw [ints_len]; show n.toNat ≤ 100000; omega) (itok_ints 0 n.toNat)⟩
    · cases hev
  · cases hev
theorem sI_r2 {tg ea eb : Expr} {a b : Cz.E} {p pos : Pos} (hg : Gl X "range") (hm : X.mg "range" = none) (hs : starEach [ea, eb] X.env = [(false, eval ea X.env), (false, eval eb X.env)]) (hs2 : starEach [eb] X.env = [(false, eval eb X.env)]) (ha : PE X ea (tE G X.K X.w B W a)) (hb : PE X eb (tE G X.K X.w B W b)) :
    PI X tg (.Call (.Name "range" p) [ea, eb] [] pos) (tI G X.K X.w B (.r2 a b)) := by
  refine (pi_range2 (ta := tEs G X.K X.w B W (.cons a (.cons b .nil))) hg hm (sA_cons ha (sA_cons hb sA_nil hs2) (by rw [hs, hs2])) hs hs2).imp fun σ H R h => ?_
  obtain ⟨F, ρ, ds, ρ', r, hev, q⟩ := h
  unfold evIt at hev
  refine ⟨F, ρ, r, ?_⟩
  split at hev
  · rename_i lo ρ1 h1
    split at hev
    · rename_i hi ρ2 h2
      split at hev
      · rename_i hn
        cases hev
        unfold evEs
        rw [h1]
        simp only
        unfold evEs
        rw [h2]
        simp only
        unfold evEs
        intro xs F1 H1 e1 r1 k1
        cases k1 with
        | cons k k1 =>
          cases k1 with
          | cons k' k1 =>
            cases k1
            have k : DV X.K X.w F1 _ (.int lo) := k
            have k' : DV X.K X.w F1 _ (.int hi) := k'
            cases k
            cases k'
            refine ⟨lo, hi, rfl, ⟨by omega, by omega, by omega, by omega⟩, q _ F1 H1 e1 r1 (by rw [ints_len]; show _ ≤ 100000; omega) (itok_ints _ _)⟩
      · cases hev
    · cases hev
  · cases hev
theorem sI_enum {ie : Expr} {elts : List Expr} {kk : Nat} {tpos p pos : Pos} {e : Cz.E} (hc : X.calm = true) (hg : Gl X "enumerate") (hm : X.mg "enumerate" = none) (hs : starEach [ie] X.env = [(false, eval ie X.env)]) (he : PE X ie (tE G X.K X.w B W e)) :
    PI X (.Tuple elts kk tpos) (.Call (.Name "enumerate" p) [ie] [] pos) (tI G X.K X.w B (.enum e)) := by
  refine ⟨fun pins s σ H R I h => ?_⟩
  obtain ⟨F, ρ, ds, ρ', r, hev, q⟩ := h
  unfold evIt at hev
  cases h1 : evE G.M G.C e ρ with
  | ex x ρ1 => rw [h1] at hev; cases hev
  | bad => rw [h1] at hev; cases hev
  | ok v ρ1 =>
    rw [h1] at hev
    simp only at hev
    have ha := sA_cons (G := G) (B := B) (W := W) he sA_nil hs
    have run := ha.run pos pins s σ H (fun ys H1 => ∃ y F1, ys = [y] ∧ Ex F F1 ∧ Rep X.K X.w B F1 H1 σ ρ1 ∧ Kp X.K X.w F1 σ (fz v) y) I (by
      refine ⟨F, ρ, r, ?_⟩
      unfold evEs
      rw [h1]
      simp only
      unfold evEs
      intro xs F1 H1 e1 r1 k1
      cases k1 with
      | cons k k1 =>
        cases k1
        exact ⟨_, F1, rfl, e1, r1, k⟩)
    refine Call_ (ld_blt I hg hm boot_enumerate (PyProof.Rows.callWith_type1 (thn run fun us s1 ⟨vs, H1, I1, r1, y, F1, ey, e1, rp, k⟩ => ?_) hs rfl))
    subst ey
    cases r1 with
    | cons r1 rr =>
      cases rr
      split at hev
      · rename_i ds0 h2
        cases hev
        rw [h2] at k
        have k : DV X.K X.w F1 _ (.tup ds0) := k
        cases k with
        | @tup ad vs _ sq dvs l =>
          cases r1
          obtain ⟨its, rv, p', hz⟩ := I1.tuple (rp.fh.t sq)
          have bg := begins_tuple ad its.toArray
          refine czEnumCall bg p' fun g en st kk => wpAny_pyIter_enum en ?_
          have I2 : Inv X pins σ H1 { s1 with heap := g } := I1.kept (t' := s1.toks) kk
          refine ⟨s1.heap.objs.size + 1, [s1.heap.objs.size + 1, s1.heap.objs.size], _, _, H1, rfl, I2, turn_enumT _ (s1.heap.objs.size + 1) s1.heap.objs.size, ⟨⟨.none, en⟩, ⟨_, st, rfl, rfl⟩, Nat.succ_ne_self _⟩, fun b hb => ?_, q _ F1 H1 e1 rp (by rw [enum_len]; exact l) (itok_enumT sq dvs)⟩
          have hle : s1.heap.objs.size ≤ b := by
            rcases List.mem_cons.mp hb with z | z
            · rw [z]; exact Nat.le_add_right _ _
            · rw [List.mem_singleton.mp z]; exact Nat.le_refl _
          exact I1.fpOk hle (I1.hok.fresh hle)
      · rename_i ds0 h2
        cases hev
        rw [h2] at k
        have k : DV X.K X.w F1 _ (.lst ds0) := k
        cases k with
        | @lst ad vs _ sq dvs l =>
          cases r1
          obtain ⟨its, rv, p', hz⟩ := I1.list (rp.fh.l sq)
          have bg := begins_list ad its.toArray
          refine czEnumCall bg p'.isList fun g en st kk => wpAny_pyIter_enum en ?_
          have I2 : Inv X pins σ H1 { s1 with heap := g } := I1.kept (t' := s1.toks) kk
          refine ⟨s1.heap.objs.size + 1, [s1.heap.objs.size + 1, s1.heap.objs.size], _, _, H1, rfl, I2, turn_enum _ (s1.heap.objs.size + 1) s1.heap.objs.size, ⟨⟨.none, en⟩, ⟨_, st, rfl, rfl⟩, Nat.succ_ne_self _⟩, fun b hb => ?_, q _ F1 H1 e1 rp (by rw [enum_len]; exact l) (itok_enum sq dvs)⟩
          have hle : s1.heap.objs.size ≤ b := by
            rcases List.mem_cons.mp hb with z | z
            · rw [z]; exact Nat.le_add_right _ _
            · rw [List.mem_singleton.mp z]; exact Nat.le_refl _
          exact I1.fpOk hle (I1.hok.fresh hle)
      · cases hev
end
end Cs
end
section
set_option Elab.async false
set_option linter.all false
set_option maxRecDepth 100000
set_option maxHeartbeats 4000000
/-! SOUND 14: comprehensions. -/
namespace Cs
open PySem L2 Cz PyProof.Rows
section
variable {K : PySem.W.Frag} {w : World} {B : Bas} {F H F' H' : Hp} {σ σ' : List (Option V)} {ρ ρ' : List Sl}
/-- slot by slot: as it was, or data, or nothing that counts -/
theorem Rep.per (r : Rep K w B F H σ ρ) (hl : σ'.length = ρ'.length)
    (h : ∀ j : Nat, (ρ'[j]? = ρ[j]? ∧ σ'[j]? = σ[j]?) ∨ ((∀ q ∈ B.L, q.1 ≠ j) ∧ (∀ l xs, ρ'[j]? ≠ some (Sl.own l xs)) ∧ ∀ x, ρ'[j]? = some (Sl.d x) → ∃ v, σ'[j]? = some (some v) ∧ DV K w F v x)) : Rep K w B F H σ' ρ' where
  fe := r.fe
  fh := r.fh
  len := hl
  dat := fun j x e => by
    rcases h j with ⟨a, b⟩ | ⟨_, _, b⟩
    · rw [b]; exact r.dat j x (by rw [← a]; exact e)
    · exact b x e
  own := fun j l xs e => by
    rcases h j with ⟨a, b⟩ | ⟨_, a, _⟩
    · rw [b]; exact r.own j l xs (by rw [← a]; exact e)
    · exact absurd e (a l xs)
  apart := fun i j l l' xs ys p ei ej si sj => by
    rcases h i with ⟨a, b⟩ | ⟨_, a, _⟩
    · rcases h j with ⟨a', b'⟩ | ⟨_, a', _⟩
      · exact r.apart i j l l' xs ys p (by rw [← a]; exact ei) (by rw [← a']; exact ej) (by rw [← b]; exact si) (by rw [← b']; exact sj)
      · exact absurd ej (a' _ _)
    · exact absurd ei (a _ _)
  lent := fun q hq => by
    rcases h q.1 with ⟨a, b⟩ | ⟨n, _, _⟩
    · rw [a, b]; exact r.lent q hq
    · exact absurd rfl (n q hq)
  frame := r.frame
  mask := r.mask
end
theorem wipeC (t : List Nat) : ∀ (ρ : List Sl), (Cz.wipe ρ t).length = ρ.length ∧ ∀ j : Nat, (Cz.wipe ρ t)[j]? = if j ∈ t ∧ j < ρ.length then some .no else ρ[j]? := by
  induction t with
  | nil => intro ρ; exact ⟨rfl, fun j => by simp [Cz.wipe]⟩
  | cons i t ih =>
    intro ρ
    obtain ⟨a, b⟩ := ih (ρ.set i .no)
    refine ⟨by show (Cz.wipe (ρ.set i .no) t).length = _; rw [a, List.length_set], fun j => ?_⟩
    show (Cz.wipe (ρ.set i .no) t)[j]? = _
    rw [b j, List.length_set]
    by_cases hj : j ∈ t ∧ j < ρ.length
    · rw [if_pos hj, if_pos ⟨List.mem_cons_of_mem _ hj.1, hj.2⟩]
    · rw [if_neg hj]
      by_cases e : i = j
      · subst e
        by_cases hl : i < ρ.length
        · rw [if_pos ⟨List.mem_cons_self, hl⟩, List.getElem?_set_self hl]
        · rw [if_neg (fun z => hl z.2), List.getElem?_eq_none (by rw [List.length_set]; omega), List.getElem?_eq_none (by omega)]
      · rw [List.getElem?_set_ne e, if_neg]
        intro z
        rcases List.mem_cons.mp z.1 with y | y
        · exact e y.symm
        · exact hj ⟨y, z.2⟩
theorem wipeV (t : List Nat) : ∀ (σ : List (Option V)), (L2.wipe σ t).length = σ.length ∧ ∀ j : Nat, (L2.wipe σ t)[j]? = if j ∈ t ∧ j < σ.length then some none else σ[j]? := by
  induction t with
  | nil => intro ρ; exact ⟨rfl, fun j => by simp [L2.wipe]⟩
  | cons i t ih =>
    intro σ
    obtain ⟨a, b⟩ := ih σ
    refine ⟨by show ((L2.wipe σ t).set i none).length = _; rw [List.length_set, a], fun j => ?_⟩
    show ((L2.wipe σ t).set i none)[j]? = _
    by_cases e : i = j
    · subst e
      by_cases hl : i < σ.length
      · rw [if_pos ⟨List.mem_cons_self, hl⟩, List.getElem?_set_self (by rw [a]; exact hl)]
      · rw [if_neg (fun z => hl z.2), List.getElem?_eq_none (by rw [List.length_set, a]; omega), List.getElem?_eq_none (by omega)]
    · rw [List.getElem?_set_ne e, b j]
      by_cases hj : j ∈ t ∧ j < σ.length
      · rw [if_pos hj, if_pos ⟨List.mem_cons_of_mem _ hj.1, hj.2⟩]
      · rw [if_neg hj, if_neg]
        intro z
        rcases List.mem_cons.mp z.1 with y | y
        · exact e y.symm
        · exact hj ⟨y, z.2⟩
/-- as it was at t -/
abbrev resto (t : List Nat) (ρ1 ρ : List Sl) : List Sl := t.foldl (fun ρ i => ρ.set i ((ρ1[i]?).getD .no)) ρ
theorem restoC (ρ1 : List Sl) (t : List Nat) : ∀ (ρ : List Sl), (resto t ρ1 ρ).length = ρ.length ∧ ∀ j : Nat, (resto t ρ1 ρ)[j]? = if j ∈ t ∧ j < ρ.length then some ((ρ1[j]?).getD .no) else ρ[j]? := by
  induction t with
  | nil => intro ρ; exact ⟨rfl, fun j => by simp [resto]⟩
  | cons i t ih =>
    intro ρ
    obtain ⟨a, b⟩ := ih (ρ.set i ((ρ1[i]?).getD .no))
    refine ⟨by show (resto t ρ1 (ρ.set i _)).length = _; rw [a, List.length_set], fun j => ?_⟩
    show (resto t ρ1 (ρ.set i _))[j]? = _
    rw [b j, List.length_set]
    by_cases hj : j ∈ t ∧ j < ρ.length
    · rw [if_pos hj, if_pos ⟨List.mem_cons_of_mem _ hj.1, hj.2⟩]
    · rw [if_neg hj]
      by_cases e : i = j
      · subst e
        by_cases hl : i < ρ.length
        · rw [if_pos ⟨List.mem_cons_self, hl⟩, List.getElem?_set_self hl]
        · rw [if_neg (fun z => hl z.2), List.getElem?_eq_none (by rw [List.length_set]; omega), List.getElem?_eq_none (by omega)]
      · rw [List.getElem?_set_ne e, if_neg]
        intro z
        rcases List.mem_cons.mp z.1 with y | y
        · exact e y.symm
        · exact hj ⟨y, z.2⟩
section
variable {K : PySem.W.Frag} {w : World} {B : Bas} {F H F' H' : Hp} {σ σ' : List (Option V)} {ρ ρ' : List Sl} {t : List Nat}
theorem plain_lent (r : Rep K w B F H σ ρ) (hp : plainAt ρ t = true) : ∀ q ∈ B.L, q.1 ∉ t := fun q hq hm => by
  obtain ⟨⟨xs, hx⟩, _⟩ := r.lent q hq
  have := List.all_eq_true.mp hp q.1 hm
  rw [hx] at this
  cases this
theorem Rep.wiped (r : Rep K w B F H σ ρ) (hn : ∀ q ∈ B.L, q.1 ∉ t) : Rep K w B F H (L2.wipe σ t) (Cz.wipe ρ t) := by
  obtain ⟨a1, b1⟩ := wipeC t ρ
  obtain ⟨a2, b2⟩ := wipeV t σ
  refine r.per (by rw [a1, a2]; exact r.len) fun j => ?_
  rw [b1 j, b2 j, r.len]
  by_cases h : j ∈ t ∧ j < ρ.length
  · rw [if_pos h, if_pos h]
    exact .inr ⟨fun q hq e => hn q hq (e ▸ h.1), fun _ _ => (by simp), fun _ z => (by simp at z)⟩
  · rw [if_neg h, if_neg h]
    exact .inl ⟨rfl, rfl⟩
/-- back out of a block -/
theorem Rep.resto {F1 H1 : Hp} {ρ1 ρ2 : List Sl} (r1 : Rep K w B F1 H1 σ ρ1) (hp : plainAt ρ1 t = true) (e : Ex F1 F') (r : Rep K w B F' H' (L2.wipe σ t) (Cz.wipe ρ2 t)) : Rep K w B F' H' σ (resto t ρ1 ρ2) := by
  obtain ⟨a1, b1⟩ := wipeC t ρ2
  obtain ⟨a2, b2⟩ := wipeV t σ
  obtain ⟨a3, b3⟩ := restoC ρ1 t ρ2
  have l := r.len
  rw [a1, a2] at l
  refine r.per (by rw [a3]; exact l) fun j => ?_
  rw [b1 j, b2 j, b3 j, l]
  by_cases h : j ∈ t ∧ j < ρ2.length
  · rw [if_pos h, if_pos h, if_pos h]
    refine .inr ⟨fun q hq z => plain_lent r1 hp q hq (z ▸ h.1), fun l xs z => ?_, fun x z => ?_⟩
    · have := List.all_eq_true.mp hp j h.1
      cases h5 : ρ1[j]? with
      | none => rw [h5] at this; cases this
      | some y =>
        rw [h5] at z this
        have z' : y = Sl.own l xs := by simpa using z
        rw [z'] at this
        cases this
    · cases h5 : ρ1[j]? with
      | none => rw [h5] at z; simp at z
      | some y =>
        rw [h5] at z
        have z' : y = Sl.d x := by simpa using z
        rw [z'] at h5
        obtain ⟨v, h6, h7⟩ := r1.dat j x h5
        exact ⟨v, h6, h7.mono e⟩
  · rw [if_neg h, if_neg h, if_neg h]
    exact .inl ⟨rfl, rfl⟩
/-- the entry with one more list, at D -/
def Bx (B : Bas) (D : Addr) (vs : List V) : Bas := ⟨B.F0, upd B.H0 D (.lst vs), B.L⟩
/-- D is nobody's -/
structure Ny (B : Bas) (D : Addr) : Prop where
  h : B.H0 D = none
  f : B.F0 D = none
  l : ∀ q ∈ B.L, q.2 ≠ D
theorem Rep.ny {D : Addr} (r : Rep K w B F H σ ρ) (h : H D = none) : Ny B D where
  h := r.fresh h
  f := (r.fe.trans r.fh).back h
  l := fun q hq e => by
    obtain ⟨⟨xs, hx⟩, hs⟩ := r.lent q hq
    obtain ⟨p, vs, a, _, c, _⟩ := r.own _ _ _ hx
    rw [hs] at a
    cases a
    rw [e, h] at c
    cases c
theorem Rep.inn {D : Addr} {vs : List V} (r : Rep K w B F H σ ρ) (hH : H D = some (.lst vs)) (hF : F D = none) (hn : ∀ (i : Nat) (l : Bool) (ys : List Cz.D), ρ[i]? = some (Sl.own l ys) → σ[i]? ≠ some (some (V.ref D))) : Rep K w (Bx B D vs) F H σ ρ where
  fe := r.fe
  fh := r.fh
  len := r.len
  dat := r.dat
  own := fun i l xs h => by
    obtain ⟨p, us, a, b, c, d, e, f1, f2⟩ := r.own i l xs h
    have ne : p ≠ D := fun z => hn i l xs h (by rw [a, z])
    exact ⟨p, us, a, b, c, d, e, fun z => by show upd B.H0 D _ p = none; rw [upd_ne ne]; exact f1 z, f2⟩
  apart := r.apart
  lent := r.lent
  frame := fun a o h1 h2 => by
    have h1 : upd B.H0 D (.lst vs) a = some o := h1
    by_cases z : a = D
    · subst z; rw [upd_same] at h1; cases h1; exact hH
    · rw [upd_ne z] at h1; exact r.frame a o h1 h2
  mask := fun a h1 h2 => by
    have h1 : upd B.H0 D (.lst vs) a ≠ none := h1
    by_cases z : a = D
    · subst z; exact hF
    · rw [upd_ne z] at h1; exact r.mask a h1 h2
theorem Rep.noD {D : Addr} {vs : List V} (r : Rep K w (Bx B D vs) F H σ ρ) (n : Ny B D) : ∀ (i : Nat) (l : Bool) (ys : List Cz.D), ρ[i]? = some (Sl.own l ys) → σ[i]? ≠ some (some (V.ref D)) := fun i l ys h s => by
  obtain ⟨p, us, a, b, c, d, e, f1, f2⟩ := r.own i l ys h
  rw [s] at a
  cases a
  cases l with
  | true => exact n.l _ (f2 rfl) rfl
  | false =>
    have z : upd B.H0 D (.lst vs) D = none := f1 rfl
    rw [upd_same] at z
    cases z
theorem Rep.atD {D : Addr} {vs : List V} (r : Rep K w (Bx B D vs) F H σ ρ) (n : Ny B D) : H D = some (.lst vs) ∧ F D = none :=
  ⟨r.frame D _ (by show upd B.H0 D _ D = _; rw [upd_same]) n.l, r.mask D (by show upd B.H0 D _ D ≠ none; rw [upd_same]; simp) n.f⟩
theorem Rep.outD {D : Addr} {vs : List V} (r : Rep K w (Bx B D vs) F H σ ρ) (n : Ny B D) : Rep K w B F H σ ρ where
  fe := r.fe
  fh := r.fh
  len := r.len
  dat := r.dat
  own := fun i l xs h => by
    obtain ⟨p, us, a, b, c, d, e, f1, f2⟩ := r.own i l xs h
    have ne : p ≠ D := fun z => r.noD n i l xs h (by rw [a, z])
    exact ⟨p, us, a, b, c, d, e, fun z => by have y : upd B.H0 D (.lst vs) p = none := f1 z; rw [upd_ne ne] at y; exact y, f2⟩
  apart := r.apart
  lent := r.lent
  frame := fun a o h1 h2 => by
    have ne : a ≠ D := fun z => by rw [z, n.h] at h1; cases h1
    exact r.frame a o (by show upd B.H0 D _ a = _; rw [upd_ne ne]; exact h1) h2
  mask := fun a h1 h2 => by
    have ne : a ≠ D := fun z => by rw [z] at h1; exact h1 n.h
    exact r.mask a (by show upd B.H0 D _ a ≠ none; rw [upd_ne ne]; exact h1) h2
theorem Rep.app {D : Addr} {vs us : List V} (r : Rep K w (Bx B D vs) F H σ ρ) (n : Ny B D) : Rep K w (Bx B D us) F (upd H D (.lst us)) σ ρ where
  fe := r.fe
  fh := r.fh.mut (r.atD n).2
  len := r.len
  dat := r.dat
  own := fun i l xs h => by
    obtain ⟨p, ws, a, b, c, d, e, f1, f2⟩ := r.own i l xs h
    have ne : p ≠ D := fun z => r.noD n i l xs h (by rw [a, z])
    exact ⟨p, ws, a, b, by rw [upd_ne ne]; exact c, d, e, fun z => by have y : upd B.H0 D (.lst vs) p = none := f1 z; rw [upd_ne ne] at y; show upd B.H0 D _ p = none; rw [upd_ne ne]; exact y, f2⟩
  apart := r.apart
  lent := r.lent
  frame := fun a o h1 h2 => by
    have h1 : upd B.H0 D (.lst us) a = some o := h1
    by_cases z : a = D
    · subst z; rw [upd_same] at h1 ⊢; exact h1
    · rw [upd_ne z] at h1 ⊢
      exact r.frame a o (by show upd B.H0 D _ a = _; rw [upd_ne z]; exact h1) h2
  mask := fun a h1 h2 => by
    by_cases z : a = D
    · subst z; exact (r.atD n).2
    · have h1 : upd B.H0 D (.lst us) a ≠ none := h1
      rw [upd_ne z] at h1
      exact r.mask a (by show upd B.H0 D _ a ≠ none; rw [upd_ne z]; exact h1) h2
end
section
variable {X : Cx} {G : Fx} {B : Bas} {W : Wi}
theorem _root_.L2.PE.any {X : Cx} {e : Expr} {α : Type} {t : α → TE} (h : ∀ a, PE X e (t a)) : PE X e (fun σ H Q => ∃ a, t a σ H Q) := ⟨fun pins s σ H Q I ⟨a, q⟩ => (h a).run pins s σ H Q I q⟩
theorem _root_.L2.PG.any {X : Cx} {e : Expr} {α : Type} {t : α → TG} (h : ∀ a, PG X e (t a)) : PG X e (fun v σ H Q => ∃ a, t a v σ H Q) := ⟨fun pins s σ H v u Q I r ⟨a, q⟩ => (h a).run pins s σ H v u Q I r q⟩
theorem _root_.L2.PTs.any {X : Cx} {e : List Expr} {α : Type} {t : α → TT} (h : ∀ a, PTs X e (t a)) : PTs X e (fun σ H Q => ∃ a, t a σ H Q) := ⟨fun pins s σ H Q I ⟨a, q⟩ => (h a).run pins s σ H Q I q⟩
theorem _root_.L2.PI.any {X : Cx} {tg e : Expr} {α : Type} {t : α → TI} (h : ∀ a, PI X tg e (t a)) : PI X tg e (fun σ H Q => ∃ a, t a σ H Q) := ⟨fun pins s σ H Q I ⟨a, q⟩ => (h a).run pins s σ H Q I q⟩
/-- the tests of a clause -/
def tTs (G : Fx) (K : PySem.W.Frag) (w : World) (B : Bas) (cs : Es) : TT := fun σ H Q => ∃ F ρ, Rep K w B F H σ ρ ∧ (match evAnd G.M G.C cs ρ with
  | .ok v ρ' => ∃ k, (res ρ' (fz v)).bind truth = some k ∧ ∀ F' H', Ex F F' → Rep K w B F' H' σ ρ' → Q k H'
  | .ex _ _ => False
  | .bad => False)
abbrev W0 : Wi := fun _ _ => False
theorem _root_.L2.PTs.imp {X : Cx} {e : List Expr} {t t' : TT} (h : PTs X e t) (i : ∀ σ H Q, t' σ H Q → t σ H Q) : PTs X e t' := ⟨fun pins s σ H Q I q => h.run pins s σ H Q I (i σ H Q q)⟩
theorem sTs_nil : PTs X [] (tTs G X.K X.w B .nil) := by
  refine pts_nil.imp fun σ H Q h => ?_
  obtain ⟨F, ρ, r, h⟩ := h
  unfold evAnd at h
  obtain ⟨k, hk, q⟩ := h
  cases hk
  exact q F H (.refl F) r
theorem sTs_one {c : Cz.E} {ec : Expr} (hc : PT X ec (tT G X.K X.w B W0 c)) : PTs X [ec] (tTs G X.K X.w B (.cons c .nil)) := by
  refine (pts_one hc).imp fun σ H Q h => ?_
  obtain ⟨F, ρ, r, h⟩ := h
  refine ⟨F, ρ, r, ?_⟩
  unfold evAnd at h
  cases h1 : evE G.M G.C c ρ with
  | ok v ρ1 => rw [h1] at h; exact h
  | ex x ρ1 => rw [h1] at h; exact h.elim
  | bad => rw [h1] at h; exact h.elim
/-- a turn of a comprehension -/
abbrev lcT (G : Fx) (t : List Nat) (cs : Es) (e : Cz.E) : Cz.Env → D → Option (Option D × Cz.Env) := fun ρ d => match bindT (Cz.wipe ρ t) t d with
  | some ρ2 => match evAnd G.M G.C cs ρ2 with
    | .ok v ρ3 => match (res ρ3 (fz v)).bind truth with
      | some true => match evE G.M G.C e ρ3 with
        | .ok w ρ4 => match fz w with
          | .p x => some (some x, ρ4)
          | _ => none
        | _ => none
      | some false => some (none, ρ3)
      | none => none
    | _ => none
  | none => none
theorem evE_lc (t : List Nat) (it : Cz.It) (cs : Es) (e : Cz.E) (ρ : List Sl) : evE G.M G.C (.lc t it cs e) ρ = (match evIt G.M G.C it ρ with
  | some (ds, ρ1) => if plainAt ρ1 t then
      match lcTurns (lcT G t cs e) ρ1 ds with
      | some (xs, ρ2) => .ok (.f xs) (resto t ρ1 ρ2)
      | none => .bad
    else .bad
  | none => .bad) := by
  rw [evE] <;> rfl
theorem wipe_same {σ σ2 : List (Option V)} {t : List Nat} (hl : σ2.length = (L2.wipe σ t).length) (hk : ∀ j, j ∉ t → σ2[j]? = (L2.wipe σ t)[j]?) : L2.wipe σ2 t = L2.wipe σ t := by
  obtain ⟨a1, b1⟩ := wipeV t σ2
  obtain ⟨a2, b2⟩ := wipeV t σ
  refine List.ext_getElem? fun j => ?_
  rw [b1 j, b2 j, hl, a2]
  by_cases h : j ∈ t ∧ j < σ.length
  · rw [if_pos h, if_pos h]
  · rw [if_neg h, if_neg h]
    by_cases hj : j ∈ t
    · have : ¬ j < σ.length := fun z => h ⟨hj, z⟩
      rw [List.getElem?_eq_none (show σ2.length ≤ j by rw [hl, a2]; omega), List.getElem?_eq_none (show σ.length ≤ j by omega)]
    · rw [hk j hj, b2 j, if_neg h]
theorem drop_cons {α : Type} {l : List α} {i : Nat} (h : i < l.length) : ∃ d, l[i]? = some d ∧ l.drop i = d :: l.drop (i + 1) := ⟨l[i], List.getElem?_eq_getElem h, List.drop_eq_getElem_cons h⟩
/-- the state at a comprehension's turn -/
def LcW (X : Cx) (B : Bas) (F1 : Hp) (D : Addr) (σ : List (Option V)) (t : List Nat) (ds : List Cz.D) (i : Nat) (H : Hp) (P : List Sl → List Cz.D → Prop) : Prop :=
  i ≤ ds.length ∧ ∃ Fc ρc vs acc, Ex F1 Fc ∧ Rep X.K X.w (Bx B D vs) Fc H (L2.wipe σ t) (Cz.wipe ρc t) ∧ DVs X.K X.w Fc vs acc ∧ P ρc acc
theorem sLc {t : List Nat} {it : Cz.It} {cs : Es} {e : Cz.E} {σ : List (Option V)} {H : Hp} {Q : VK} (h : tE G X.K X.w B W (.lc t it cs e) σ H Q) :
    tLc (tI G X.K X.w B it) (fun v σ H Q => ∃ B, tGt X.K X.w B t v σ H Q) (fun σ H Q => ∃ B, tTs G X.K X.w B cs σ H Q) (fun σ H Q => ∃ B, tE G X.K X.w B W0 e σ H Q) t σ H Q := by
  obtain ⟨F, ρ, r, h⟩ := h
  rw [evE_lc] at h
  cases h1 : evIt G.M G.C it ρ with
  | none => rw [h1] at h; exact h.elim
  | some q1 =>
    obtain ⟨ds, ρ1⟩ := q1
    rw [h1] at h
    simp only at h
    by_cases hp : plainAt ρ1 t = true
    · rw [if_pos hp] at h
      cases h2 : lcTurns (lcT G t cs e) ρ1 ds with
      | none => rw [h2] at h; exact h.elim
      | some q2 =>
        obtain ⟨xs, ρ2⟩ := q2
        rw [h2] at h
        simp only at h
        refine ⟨F, ρ, ds, ρ1, r, h1, fun J F1 H1 e1 r1 len ok D hD => ?_⟩
        have ny := r1.ny hD
        have hL := plain_lent r1 hp
        refine ⟨fun i m Hc => m = ds.length - i ∧ LcW X B F1 D σ t ds i Hc fun ρc acc => acc.length ≤ i ∧ ∃ rest, lcTurns (lcT G t cs e) ρc (ds.drop i) = some (rest, ρ2) ∧ acc ++ rest = xs, ⟨_, rfl, Nat.zero_le _, F1, ρ1, [], [], .refl F1, ?_, .nil, Nat.le_refl _, xs, by rw [List.drop_zero]; exact h2, rfl⟩, fun i m Hc hw => ?_⟩
        · have g := Grow.own (o := .lst []) r1.fh hD
          refine ((r1.grow g).inn (D := D) upd_same (r1.fh.back hD) fun i l ys hi => r1.noOwn hD i l ys hi).wiped hL
        · obtain ⟨hm, hi, Fc, ρc, vs, acc, ec, rc, dvs, la, rest, hr, hx⟩ := hw
          obtain ⟨a1, a2⟩ := ok Fc Hc ec rc.fh
          obtain ⟨hD1, hD2⟩ := rc.atD ny
          by_cases lt : i < ds.length
          · refine .inr ?_
            obtain ⟨d, hd, hdr⟩ := drop_cons lt
            obtain ⟨b1, b2⟩ := a1 i d hd
            refine ⟨b1, fun H' => LcW X B F1 D σ t ds (i + 1) H' fun ρc acc => acc.length ≤ i + 1 ∧ ∃ rest, lcTurns (lcT G t cs e) ρc (ds.drop (i + 1)) = some (rest, ρ2) ∧ acc ++ rest = xs, fun H' hw => ⟨_, by omega, rfl, hw⟩, fun x H' hy => ?_⟩
            obtain ⟨F2, g, dv⟩ := b2 x H' hy
            have r2 := rc.grow g
            rw [hdr] at hr
            unfold lcTurns at hr
            cases h3 : bindT (Cz.wipe ρc t) t d with
            | none => simp only [lcT, h3] at hr; cases hr
            | some ρa =>
              simp only [lcT, h3] at hr
              refine ⟨Bx B D vs, F2, _, d, ρa, r2, dv, h3, fun σ2 r3 sl sk => ⟨wipe_same sl sk, Bx B D vs, F2, ρa, r3, ?_⟩⟩
              cases h4 : evAnd G.M G.C cs ρa with
              | ex _ _ => rw [h4] at hr; simp at hr
              | bad => rw [h4] at hr; simp at hr
              | ok v ρb =>
                rw [h4] at hr
                simp only at hr ⊢
                cases h5 : (res ρb (fz v)).bind truth with
                | none => rw [h5] at hr; simp at hr
                | some k =>
                  rw [h5] at hr
                  refine ⟨k, rfl, fun F3 H3 e3 r4 => ?_⟩
                  cases k with
                  | false =>
                    rw [if_neg Bool.false_ne_true]
                    simp only at hr
                    have r5 := r4.wiped (t := t) hL
                    rw [wipe_same sl sk] at r5
                    exact ⟨lt, F3, ρb, vs, acc, ec.trans (g.f.trans e3), r5, dvs.mono (g.f.trans e3), Nat.le_succ_of_le la, rest, hr, hx⟩
                  | true =>
                    rw [if_pos rfl]
                    simp only at hr
                    refine ⟨Bx B D vs, F3, ρb, r4, ?_⟩
                    cases h6 : evE G.M G.C e ρb with
                    | ex _ _ => rw [h6] at hr; simp at hr
                    | bad => rw [h6] at hr; simp at hr
                    | ok u ρ4 =>
                      rw [h6] at hr
                      simp only at hr ⊢
                      intro y F4 H4 e4 r6 ev
                      obtain ⟨F5, e5, r7, k7⟩ := ev.fz r6
                      cases h7 : fz u with
                      | f _ => rw [h7] at hr; simp at hr
                      | b _ => rw [h7] at hr; simp at hr
                      | p z =>
                        rw [h7] at hr k7
                        simp only at hr
                        obtain ⟨q3, h8, h9⟩ := Option.map_eq_some_iff.mp hr
                        obtain ⟨rest', ρ5⟩ := q3
                        cases h9
                        have eAll := g.f.trans (e3.trans (e4.trans e5))
                        have r8 := r7.wiped (t := t) hL
                        rw [wipe_same sl sk] at r8
                        refine ⟨vs, (r7.atD ny).1, lim_lt (by rw [dvs.length]; omega), lt, F5, ρ4, vs ++ [y], acc ++ [z], ec.trans eAll, r8.app ny, (dvs.mono eAll).snoc k7, by rw [List.length_append]; show _ + 1 ≤ i + 1; omega, rest', h8, ?_⟩
                        rw [List.append_assoc]
                        exact hx
          · refine .inl ?_
            have ei : i = ds.length := by omega
            subst ei
            refine ⟨a2, ?_⟩
            rw [List.drop_length] at hr
            unfold lcTurns at hr
            cases hr
            rw [List.append_nil] at hx
            subst hx
            have r9 := r1.resto hp ec (rc.outD ny)
            refine h _ Fc Hc (e1.trans ec) r9 ⟨D, vs, rfl, hD2, hD1, dvs, by omega, ny.h, fun j l ys hj hs => ?_⟩
            obtain ⟨_, c3⟩ := restoC ρ1 t ρ2
            rw [c3 j] at hj
            by_cases hjt : j ∈ t ∧ j < ρ2.length
            · rw [if_pos hjt] at hj
              have := List.all_eq_true.mp hp j hjt.1
              cases h5 : ρ1[j]? with
              | none => rw [h5] at this; cases this
              | some y =>
                rw [h5] at hj this
                have z' : y = Sl.own l ys := by simpa using hj
                rw [z'] at this
                cases this
            · rw [if_neg hjt] at hj
              have hne : j ∉ t := fun z => by
                have : ¬ j < ρ2.length := fun y => hjt ⟨z, y⟩
                rw [List.getElem?_eq_none (by omega)] at hj
                cases hj
              refine rc.noD ny j l ys ?_ ?_
              · rw [(wipeC t ρ2).2 j, if_neg hjt]; exact hj
              · rw [(wipeV t σ).2 j, if_neg (fun z => hne z.1)]; exact hs
    · rw [if_neg hp] at h; exact h.elim
end
end Cs
end
section
set_option Elab.async false
set_option linter.all false
set_option maxRecDepth 100000
set_option maxHeartbeats 4000000
/-! SOUND 15: comprehensions, further. -/
namespace Cs
open PySem L2 Cz PyProof.Rows
section
variable {X : Cx} {G : Fx} {B : Bas} {W : Wi}
/-- what must hold within a block -/
abbrev InBlk (X : Cx) (scope : Scope) (P : Cx → Prop) : Prop := ∀ (s : Shared) (H : Hp) (C : Addr) (cl : List (Str × Addr)) (fp : List Addr), P (X.blk s H scope (compEnvC scope cl C X.env) fp)
theorem sE_lc {t : List Nat} {it : Cz.It} {cs : Es} {e : Cz.E} {elt tg iter : Expr} {ifs : List Expr} {scope : Scope} {own : List (Str × Nat)} {pos : Pos} (hc : X.calm = true) (hN : X.N.Nodup) (ho : own.map (·.2) = t)
    (hi : PI X tg iter (tI G X.K X.w B it)) (ok : BlkOk X.N X.env.scope scope own) (hg : ∀ B, InBlk X scope fun Y => PG Y tg (tGt X.K X.w B t)) (ht : ∀ B, InBlk X scope fun Y => PTs Y ifs (tTs G X.K X.w B cs)) (he : ∀ B, InBlk X scope fun Y => PE Y elt (tE G X.K X.w B W0 e))
    (hs : ∀ x, foldedSetIterable iter X.env x = pure x) : PE X (.ListComp elt [⟨tg, iter, ifs, 0⟩] scope pos) (tE G X.K X.w B W (.lc t it cs e)) := by
  subst ho
  exact (pe_lc (g := fun v σ H Q => ∃ B, tGt X.K X.w B (own.map (·.2)) v σ H Q) (tt := fun σ H Q => ∃ B, tTs G X.K X.w B cs σ H Q) (te := fun σ H Q => ∃ B, tE G X.K X.w B W0 e σ H Q) hc hN hi ok
    (fun s H C cl fp => PG.any fun B => hg B s H C cl fp) (fun s H C cl fp => PTs.any fun B => ht B s H C cl fp) (fun s H C cl fp => PE.any fun B => he B s H C cl fp) hs).imp fun σ H Q h => sLc h
/-- the inner turn, the outer turn of two clauses -/
abbrev lcI (G : Fx) (t2 : List Nat) (e : Cz.E) : Cz.Env → D → Option (Option D × Cz.Env) := fun ρ d => match bindT (Cz.wipe ρ t2) t2 d with
  | some ρ2 => match evE G.M G.C e ρ2 with
    | .ok w ρ4 => match fz w with
      | .p x => some (some x, ρ4)
      | _ => none
    | _ => none
  | none => none
abbrev lcO (G : Fx) (t : List Nat) (t2 : List Nat) (it2 : Cz.It) (e : Cz.E) : Cz.Env → D → Option (List D × Cz.Env) := fun ρ d => match bindT (Cz.wipe ρ (t ++ t2)) t d with
  | some ρ2 => match evIt G.M G.C it2 ρ2 with
    | some (es, ρ3) => lcTurns (lcI G t2 e) ρ3 es
    | none => none
  | none => none
theorem evE_lc2 (t : List Nat) (it : Cz.It) (t2 : List Nat) (it2 : Cz.It) (e : Cz.E) (ρ : List Sl) : evE G.M G.C (.lc2 t it t2 it2 e) ρ = (match evIt G.M G.C it ρ with
  | some (ds, ρ1) => if plainAt ρ1 (t ++ t2) then
      match lcTurns2 (lcO G t t2 it2 e) ρ1 ds with
      | some (xs, ρ2) => if 100000 < xs.length then .bad else .ok (.f xs) (resto (t ++ t2) ρ1 ρ2)
      | none => .bad
    else .bad
  | none => .bad) := by
  rw [evE] <;> rfl
theorem lcTurns_len {turn : Cz.Env → D → Option (Option D × Cz.Env)} : ∀ {ds : List D} {ρ ρ' : List Sl} {xs : List D}, lcTurns turn ρ ds = some (xs, ρ') → xs.length ≤ ds.length
  | [], ρ, ρ', xs, h => by unfold lcTurns at h; cases h; exact Nat.le_refl _
  | d :: ds, ρ, ρ', xs, h => by
    unfold lcTurns at h
    split at h
    · exact Nat.le_succ_of_le (lcTurns_len h)
    · obtain ⟨q, h1, h2⟩ := Option.map_eq_some_iff.mp h
      obtain ⟨a, b⟩ := q
      cases h2
      exact Nat.succ_le_succ (lcTurns_len h1)
    · cases h
theorem wipe_app {σ σ2 : List (Option V)} {t t2 : List Nat} (hl : σ2.length = (L2.wipe σ (t ++ t2)).length) (hk : ∀ j, j ∉ t → σ2[j]? = (L2.wipe σ (t ++ t2))[j]?) : L2.wipe σ2 (t ++ t2) = L2.wipe σ (t ++ t2) :=
  wipe_same hl fun j hj => hk j fun z => hj (List.mem_append_left _ z)
/-- wiped within, then all -/
theorem wipe_more {σ σ2 : List (Option V)} {t t2 : List Nat} (h : L2.wipe σ2 (t ++ t2) = L2.wipe σ (t ++ t2)) : L2.wipe (L2.wipe σ2 t2) (t ++ t2) = L2.wipe σ (t ++ t2) := by
  rw [← h]
  obtain ⟨a1, b1⟩ := wipeV (t ++ t2) (L2.wipe σ2 t2)
  obtain ⟨a2, b2⟩ := wipeV (t ++ t2) σ2
  obtain ⟨a3, b3⟩ := wipeV t2 σ2
  refine List.ext_getElem? fun j => ?_
  rw [b1 j, b2 j, a3, b3 j]
  by_cases h : j ∈ t ++ t2 ∧ j < σ2.length
  · rw [if_pos h, if_pos h]
  · rw [if_neg h, if_neg h, if_neg]
    exact fun z => h ⟨List.mem_append_right _ z.1, z.2⟩
theorem sLc2 {t t2 : List Nat} {it it2 : Cz.It} {e : Cz.E} {σ : List (Option V)} {H : Hp} {Q : VK} (h : tE G X.K X.w B W (.lc2 t it t2 it2 e) σ H Q) :
    tLc2 (tI G X.K X.w B it) (fun v σ H Q => ∃ B, tGt X.K X.w B t v σ H Q) tYes (fun σ H R => ∃ B, tI G X.K X.w B it2 σ H R) (fun v σ H Q => ∃ B, tGt X.K X.w B t2 v σ H Q) tYes (fun σ H Q => ∃ B, tE G X.K X.w B W0 e σ H Q) (t ++ t2) t2 σ H Q := by
  obtain ⟨F, ρ, r, h⟩ := h
  rw [evE_lc2] at h
  cases h1 : evIt G.M G.C it ρ with
  | none => rw [h1] at h; exact h.elim
  | some q1 =>
    obtain ⟨ds, ρ1⟩ := q1
    rw [h1] at h
    simp only at h
    by_cases hp : plainAt ρ1 (t ++ t2) = true
    · rw [if_pos hp] at h
      cases h2 : lcTurns2 (lcO G t t2 it2 e) ρ1 ds with
      | none => rw [h2] at h; exact h.elim
      | some q2 =>
        obtain ⟨xs, ρ2⟩ := q2
        rw [h2] at h
        simp only at h
        by_cases big : 100000 < xs.length
        · rw [if_pos big] at h; exact h.elim
        · rw [if_neg big] at h
          refine ⟨F, ρ, ds, ρ1, r, h1, fun J F1 H1 e1 r1 len ok D hD => ?_⟩
          have ny := r1.ny hD
          have hL := plain_lent r1 hp
          have hL2 : ∀ q ∈ B.L, q.1 ∉ t2 := fun q hq z => hL q hq (List.mem_append_right _ z)
          refine ⟨fun i m Hc => m = ds.length - i ∧ LcW X B F1 D σ (t ++ t2) ds i Hc fun ρc acc => ∃ rest, lcTurns2 (lcO G t t2 it2 e) ρc (ds.drop i) = some (rest, ρ2) ∧ acc ++ rest = xs, ⟨_, rfl, Nat.zero_le _, F1, ρ1, [], [], .refl F1, ?_, .nil, xs, by rw [List.drop_zero]; exact h2, rfl⟩, fun i m Hc hw => ?_⟩
          · have g := Grow.own (o := .lst []) r1.fh hD
            refine ((r1.grow g).inn (D := D) upd_same (r1.fh.back hD) fun i l ys hi => r1.noOwn hD i l ys hi).wiped hL
          · obtain ⟨hm, hi, Fc, ρc, vs, acc, ec, rc, dvs, rest, hr, hx⟩ := hw
            obtain ⟨a1, a2⟩ := ok Fc Hc ec rc.fh
            obtain ⟨hD1, hD2⟩ := rc.atD ny
            by_cases lt : i < ds.length
            · refine .inr ?_
              obtain ⟨d, hd, hdr⟩ := drop_cons lt
              obtain ⟨b1, b2⟩ := a1 i d hd
              refine ⟨b1, fun H' => LcW X B F1 D σ (t ++ t2) ds (i + 1) H' fun ρc acc => ∃ rest, lcTurns2 (lcO G t t2 it2 e) ρc (ds.drop (i + 1)) = some (rest, ρ2) ∧ acc ++ rest = xs, fun H' hw => ⟨_, by omega, rfl, hw⟩, fun x H' hy => ?_⟩
              obtain ⟨F2, g, dv⟩ := b2 x H' hy
              have r2 := rc.grow g
              rw [hdr] at hr
              unfold lcTurns2 at hr
              cases h3 : bindT (Cz.wipe ρc (t ++ t2)) t d with
              | none => simp only [lcO, h3] at hr; cases hr
              | some ρa =>
                cases h4 : evIt G.M G.C it2 ρa with
                | none => simp only [lcO, h3, h4] at hr; cases hr
                | some q4 =>
                  obtain ⟨es, ρb⟩ := q4
                  cases h5 : lcTurns (lcI G t2 e) ρb es with
                  | none => simp only [lcO, h3, h4, h5] at hr; cases hr
                  | some q5 =>
                    obtain ⟨ys, ρd⟩ := q5
                    simp only [lcO, h3, h4, h5] at hr
                    obtain ⟨q6, h6, h7⟩ := Option.map_eq_some_iff.mp hr
                    obtain ⟨rest', ρ5⟩ := q6
                    cases h7
                    refine ⟨Bx B D vs, F2, _, d, ρa, r2, dv, h3, fun σ2 r3 sl sk => ⟨wipe_app sl sk, ?_⟩⟩
                    have same := wipe_app sl sk
                    dsimp only [tYes]
                    rw [if_pos rfl]
                    refine ⟨Bx B D vs, F2, ρa, es, ρb, r3, h4, fun J1 F3 H3 e3 r4 len1 ok1 => ?_⟩
                    -- the inner loop: slots σ2 with t2 wiped
                    refine ⟨fun j k Hj => k = es.length - j ∧ LcW X B F3 D σ2 t2 es j Hj fun ρc acc' => ∃ rest1, lcTurns (lcI G t2 e) ρc (es.drop j) = some (rest1, ρd) ∧ acc' ++ rest1 = acc ++ ys, ⟨_, rfl, Nat.zero_le _, F3, ρb, vs, acc, .refl F3, r4.wiped hL2, dvs.mono (g.f.trans e3), ys, by rw [List.drop_zero]; exact h5, rfl⟩, fun j k Hj hw1 => ?_⟩
                    obtain ⟨hk, hj, Fj, ρj, us, acc', ej, rj, dus, rest1, hr1, hx1⟩ := hw1
                    obtain ⟨c1, c2⟩ := ok1 Fj Hj ej rj.fh
                    by_cases lt1 : j < es.length
                    · refine .inr ?_
                      obtain ⟨d1, hd1, hdr1⟩ := drop_cons lt1
                      obtain ⟨f1, f2⟩ := c1 j d1 hd1
                      refine ⟨f1, fun H' => LcW X B F3 D σ2 t2 es (j + 1) H' fun ρc acc' => ∃ rest1, lcTurns (lcI G t2 e) ρc (es.drop (j + 1)) = some (rest1, ρd) ∧ acc' ++ rest1 = acc ++ ys, fun H' hw => ⟨_, by omega, rfl, hw⟩, fun x1 H4 hy1 => ?_⟩
                      obtain ⟨F4, g4, dv4⟩ := f2 x1 H4 hy1
                      have r5 := rj.grow g4
                      rw [hdr1] at hr1
                      unfold lcTurns at hr1
                      cases h8 : bindT (Cz.wipe ρj t2) t2 d1 with
                      | none => simp only [lcI, h8] at hr1; cases hr1
                      | some ρe =>
                        simp only [lcI, h8] at hr1
                        refine ⟨Bx B D us, F4, _, d1, ρe, r5, dv4, h8, fun σ3 r6 sl3 sk3 => ⟨wipe_same sl3 sk3, ?_⟩⟩
                        dsimp only [tYes]
                        rw [if_pos rfl]
                        refine ⟨Bx B D us, F4, ρe, r6, ?_⟩
                        cases h9 : evE G.M G.C e ρe with
                        | ex _ _ => rw [h9] at hr1; simp at hr1
                        | bad => rw [h9] at hr1; simp at hr1
                        | ok u ρ6 =>
                          rw [h9] at hr1
                          simp only at hr1 ⊢
                          intro y F5 H5 e5 r7 ev
                          obtain ⟨F6, e6, r8, k8⟩ := ev.fz r7
                          cases h10 : fz u with
                          | f _ => rw [h10] at hr1; simp at hr1
                          | b _ => rw [h10] at hr1; simp at hr1
                          | p z =>
                            rw [h10] at hr1 k8
                            simp only at hr1
                            obtain ⟨q11, h11, h12⟩ := Option.map_eq_some_iff.mp hr1
                            obtain ⟨rest2, ρ7⟩ := q11
                            cases h12
                            have eAll := g4.f.trans (e5.trans e6)
                            have r9 := r8.wiped (t := t2) hL2
                            rw [wipe_same sl3 sk3] at r9
                            have la : acc'.length < xs.length := by
                              have : (acc' ++ z :: rest2).length = (acc ++ ys).length := by rw [hx1]
                              have h13 : (acc ++ (ys ++ rest')).length = xs.length := by rw [hx]
                              rw [List.length_append, List.length_cons] at this
                              rw [← List.append_assoc, List.length_append] at h13
                              omega
                            refine ⟨us, (r8.atD ny).1, lim_lt (by rw [dus.length]; show _ ≤ 100000; omega), lt1, F6, ρ6, us ++ [y], acc' ++ [z], ej.trans eAll, r9.app ny, (dus.mono eAll).snoc k8, rest2, h11, ?_⟩
                            rw [List.append_assoc]
                            exact hx1
                    · refine .inl ?_
                      have ej' : j = es.length := by omega
                      subst ej'
                      refine ⟨c2, ?_⟩
                      rw [List.drop_length] at hr1
                      unfold lcTurns at hr1
                      cases hr1
                      rw [List.append_nil] at hx1
                      subst hx1
                      have r10 := rj.wiped (t := t ++ t2) hL
                      have e10 : L2.wipe (L2.wipe σ2 t2) (t ++ t2) = L2.wipe σ (t ++ t2) := wipe_more same
                      have e11 : Cz.wipe (Cz.wipe ρd t2) (t ++ t2) = Cz.wipe ρd (t ++ t2) := by
                        obtain ⟨x1, y1⟩ := wipeC (t ++ t2) (Cz.wipe ρd t2)
                        obtain ⟨x2, y2⟩ := wipeC (t ++ t2) ρd
                        obtain ⟨x3, y3⟩ := wipeC t2 ρd
                        refine List.ext_getElem? fun j => ?_
                        rw [y1 j, y2 j, x3, y3 j]
                        by_cases h : j ∈ t ++ t2 ∧ j < ρd.length
                        · rw [if_pos h, if_pos h]
                        · rw [if_neg h, if_neg h, if_neg]
                          exact fun z => h ⟨List.mem_append_right _ z.1, z.2⟩
                      rw [e10, e11] at r10
                      refine ⟨lt, Fj, ρd, us, _, ec.trans (g.f.trans (e3.trans ej)), r10, dus, rest', h6, ?_⟩
                      rw [List.append_assoc]
                      exact hx
            · refine .inl ?_
              have ei : i = ds.length := by omega
              subst ei
              refine ⟨a2, ?_⟩
              rw [List.drop_length] at hr
              unfold lcTurns2 at hr
              cases hr
              rw [List.append_nil] at hx
              subst hx
              have r9 := r1.resto hp ec (rc.outD ny)
              refine h _ Fc Hc (e1.trans ec) r9 ⟨D, vs, rfl, hD2, hD1, dvs, by show _ ≤ 100000; omega, ny.h, fun j l ys hj hs => ?_⟩
              obtain ⟨_, c3⟩ := restoC ρ1 (t ++ t2) ρ2
              rw [c3 j] at hj
              by_cases hjt : j ∈ (t ++ t2) ∧ j < ρ2.length
              · rw [if_pos hjt] at hj
                have := List.all_eq_true.mp hp j hjt.1
                cases h5 : ρ1[j]? with
                | none => rw [h5] at this; cases this
                | some y =>
                  rw [h5] at hj this
                  have z' : y = Sl.own l ys := by simpa using hj
                  rw [z'] at this
                  cases this
              · rw [if_neg hjt] at hj
                have hne : j ∉ (t ++ t2) := fun z => by
                  have : ¬ j < ρ2.length := fun y => hjt ⟨z, y⟩
                  rw [List.getElem?_eq_none (by omega)] at hj
                  cases hj
                refine rc.noD ny j l ys ?_ ?_
                · rw [(wipeC (t ++ t2) ρ2).2 j, if_neg hjt]; exact hj
                · rw [(wipeV (t ++ t2) σ).2 j, if_neg (fun z => hne z.1)]; exact hs
    · rw [if_neg hp] at h; exact h.elim
theorem sE_lc2 {t t2 : List Nat} {it it2 : Cz.It} {e : Cz.E} {elt tg iter tg1 iter1 : Expr} {scope : Scope} {own : List (Str × Nat)} {pos : Pos} (hc : X.calm = true) (hN : X.N.Nodup) (ho : own.map (·.2) = t ++ t2)
    (hi : PI X tg iter (tI G X.K X.w B it)) (ok : BlkOk X.N X.env.scope scope own) (hg : ∀ B, InBlk X scope fun Y => PG Y tg (tGt X.K X.w B t)) (hi1 : ∀ B, InBlk X scope fun Y => PI Y tg1 iter1 (tI G X.K X.w B it2)) (hg1 : ∀ B, InBlk X scope fun Y => PG Y tg1 (tGt X.K X.w B t2))
    (he : ∀ B, InBlk X scope fun Y => PE Y elt (tE G X.K X.w B W0 e)) (hs : ∀ x, foldedSetIterable iter X.env x = pure x) (hs1 : ∀ env x, foldedSetIterable iter1 env x = pure x) :
    PE X (.ListComp elt [⟨tg, iter, [], 0⟩, ⟨tg1, iter1, [], 0⟩] scope pos) (tE G X.K X.w B W (.lc2 t it t2 it2 e)) := by
  have z := (pe_lc2 (vs1 := t2) (g := fun v σ H Q => ∃ B, tGt X.K X.w B t v σ H Q) (tt := tYes) (tt1 := tYes) (wi1 := fun σ H R => ∃ B, tI G X.K X.w B it2 σ H R) (g1 := fun v σ H Q => ∃ B, tGt X.K X.w B t2 v σ H Q) (te := fun σ H Q => ∃ B, tE G X.K X.w B W0 e σ H Q) (pos := pos) hc hN hi ok
    (fun i hi => by rw [ho]; exact List.mem_append_right _ hi)
    (fun s H C cl fp => PG.any fun B => hg B s H C cl fp) (fun s H C cl fp => pts_nil) (fun s H C cl fp => PI.any fun B => hi1 B s H C cl fp) (fun s H C cl fp => PG.any fun B => hg1 B s H C cl fp) (fun s H C cl fp => pts_nil) (fun s H C cl fp => PE.any fun B => he B s H C cl fp) hs hs1)
  rw [ho] at z
  exact z.imp fun σ H Q h => sLc2 h
end
end Cs
end
section
set_option Elab.async false
set_option linter.all false
set_option maxRecDepth 100000
set_option maxHeartbeats 4000000
/-! SOUND 16: statements. -/
namespace Cs
open PySem L2 Cz PyProof.Rows
section
variable (K : PySem.W.Frag) (w : World) (B : Bas) (W : Wi)
/-- where a statement may end -/
def RsOk (F : Hp) (D : Ends) : Rs → Prop
  | .nx ρ' => ∀ F' H' σ', Ex F F' → Rep K w B F' H' σ' ρ' → D.nx σ' H'
  | .ct ρ' => ∀ F' H' σ', Ex F F' → Rep K w B F' H' σ' ρ' → D.ct σ' H'
  | .bk ρ' => ∀ F' H' σ', Ex F F' → Rep K w B F' H' σ' ρ' → D.bk σ' H'
  | .rt v ρ' => ∀ F' H' σ' u, Ex F F' → Rep K w B F' H' σ' ρ' → EvP K w B F' H' σ' ρ' v u → D.rt u H'
  | .ex x ρ' => W x ρ'
  | .bad => False
def tR (ev : List Sl → Rs) : TS := fun D σ H => ∃ F ρ, Rep K w B F H σ ρ ∧ RsOk K w B W F D (ev ρ)
end
section
variable {X : Cx} {G : Fx} {B : Bas} {W : Wi}
theorem RsOk.mono {K : PySem.W.Frag} {w : World} {F F1 : Hp} {D : Ends} {r : Rs} (e : Ex F F1) (h : RsOk K w B W F D r) : RsOk K w B W F1 D r := by
  cases r with
  | nx ρ' => exact fun F' H' σ' e1 => h F' H' σ' (e.trans e1)
  | ct ρ' => exact fun F' H' σ' e1 => h F' H' σ' (e.trans e1)
  | bk ρ' => exact fun F' H' σ' e1 => h F' H' σ' (e.trans e1)
  | rt v ρ' => exact fun F' H' σ' u e1 => h F' H' σ' u (e.trans e1)
  | ex x ρ' => exact h
  | bad => exact h
/-- one reading serves another -/
theorem tR_imp {K : PySem.W.Frag} {w : World} {t : TS} {ev : List Sl → Rs} (i : ∀ D σ H F ρ, Rep K w B F H σ ρ → RsOk K w B W F D (ev ρ) → t D σ H) : ∀ D σ H, tR K w B W ev D σ H → t D σ H := fun D σ H ⟨F, ρ, r, h⟩ => i D σ H F ρ r h
/-- a value, then what is done with it -/
theorem eThen {e : Cz.E} {σ : List (Option V)} {H : Hp} {F : Hp} {ρ : List Sl} {D : Ends} {Q : VK} {k : Val → List Sl → Rs} (r : Rep X.K X.w B F H σ ρ)
    (h : RsOk X.K X.w B W F D (match evE G.M G.C e ρ with
      | .ok v ρ1 => k v ρ1
      | .ex x ρ1 => .ex x ρ1
      | .bad => .bad))
    (q : ∀ v ρ1, evE G.M G.C e ρ = .ok v ρ1 → ∀ y F1 H1, Ex F F1 → Rep X.K X.w B F1 H1 σ ρ1 → EvP X.K X.w B F1 H1 σ ρ1 v y → RsOk X.K X.w B W F1 D (k v ρ1) → Q y H1) : tE G X.K X.w B W e σ H Q := by
  refine ⟨F, ρ, r, ?_⟩
  cases h1 : evE G.M G.C e ρ with
  | ok v ρ1 =>
    rw [h1] at h
    intro y F1 H1 e1 r1 ev
    exact q v ρ1 h1 y F1 H1 e1 r1 ev (h.mono e1)
  | ex x ρ1 => rw [h1] at h; exact h
  | bad => rw [h1] at h; exact h
theorem sS_nil : PSs X [] (tR X.K X.w B W (evSs G.M G.C .nil)) := by
  refine pss_nil.imp (tR_imp fun D σ H F ρ r h => ?_)
  unfold evSs at h
  exact h F H σ (.refl F) r
theorem sS_cons {s : S} {ss : Ss} {st : Stmt} {sts : List Stmt} (h1 : PS X st (tR X.K X.w B W (evS G.M G.C s))) (h2 : PSs X sts (tR X.K X.w B W (evSs G.M G.C ss))) : PSs X (st :: sts) (tR X.K X.w B W (evSs G.M G.C (.cons s ss))) := by
  refine (pss_cons h1 h2).imp (tR_imp fun D σ H F ρ r h => ?_)
  unfold evSs at h
  refine ⟨F, ρ, r, ?_⟩
  cases h3 : evS G.M G.C s ρ with
  | nx ρ1 => rw [h3] at h; exact fun F' H' σ' e r' => ⟨F', ρ1, r', h.mono e⟩
  | ct ρ' => rw [h3] at h; exact h
  | bk ρ' => rw [h3] at h; exact h
  | rt v ρ' => rw [h3] at h; exact h
  | ex x ρ' => rw [h3] at h; exact h
  | bad => rw [h3] at h; exact h
theorem sS_pass {pos : Pos} : PS X (.Pass pos) (tR X.K X.w B W (evS G.M G.C .pass)) := by
  refine ps_pass.imp (tR_imp fun D σ H F ρ r h => ?_)
  unfold evS at h
  exact h F H σ (.refl F) r
theorem sS_brk {pos : Pos} : PS X (.Break pos) (tR X.K X.w B W (evS G.M G.C .brk)) := by
  refine ps_break.imp (tR_imp fun D σ H F ρ r h => ?_)
  unfold evS at h
  exact h F H σ (.refl F) r
theorem sS_cnt {pos : Pos} : PS X (.Continue pos) (tR X.K X.w B W (evS G.M G.C .cnt)) := by
  refine ps_continue.imp (tR_imp fun D σ H F ρ r h => ?_)
  unfold evS at h
  exact h F H σ (.refl F) r
theorem sS_retN {pos : Pos} : PS X (.Return none pos) (tR X.K X.w B W (evS G.M G.C .retN)) := by
  refine ps_retN.imp (tR_imp fun D σ H F ρ r h => ?_)
  unfold evS at h
  exact h F H σ .non (.refl F) r .non
theorem sS_if {t : Cz.E} {a b : Ss} {et : Expr} {sa sb : List Stmt} {pos : Pos} (ht : PT X et (tT G X.K X.w B W t)) (ha : PSs X sa (tR X.K X.w B W (evSs G.M G.C a))) (hb : PSs X sb (tR X.K X.w B W (evSs G.M G.C b))) : PS X (.If et sa sb pos) (tR X.K X.w B W (evS G.M G.C (.ife t a b))) := by
  refine (ps_if ht ha hb).imp (tR_imp fun D σ H F ρ r h => ?_)
  unfold evS at h
  refine ⟨F, ρ, r, ?_⟩
  cases h1 : evE G.M G.C t ρ with
  | ok v ρ1 =>
    rw [h1] at h
    simp only at h ⊢
    cases h2 : (res ρ1 (fz v)).bind truth with
    | none => rw [h2] at h; exact h.elim
    | some k =>
      rw [h2] at h
      refine ⟨k, rfl, fun F' H' e r' => ?_⟩
      cases k with
      | true => rw [if_pos rfl]; exact ⟨F', ρ1, r', RsOk.mono e h⟩
      | false => rw [if_neg Bool.false_ne_true]; exact ⟨F', ρ1, r', RsOk.mono e h⟩
  | ex x ρ1 => rw [h1] at h; exact h
  | bad => rw [h1] at h; exact h
theorem sS_ex {e : Cz.E} {ea : Expr} {pos : Pos} (he : PE X ea (tE G X.K X.w B W e)) (hs : swapsWith ea none pos.line X.env = pure false) : PS X (.Expr ea pos) (tR X.K X.w B W (evS G.M G.C (.ex e))) := by
  refine (ps_expr he hs).imp (tR_imp fun D σ H F ρ r h => ?_)
  unfold evS at h
  exact eThen (k := fun v ρ1 => .nx ρ1) r h fun v ρ1 _ y F1 H1 e1 r1 ev h1 => h1 F1 H1 σ (.refl F1) r1
/-- the store of a value -/
theorem stored {i : Nat} {v : Val} {y : V} {F H : Hp} {σ : List (Option V)} {ρ ρ2 : List Sl} (r : Rep X.K X.w B F H σ ρ) (ev : EvP X.K X.w B F H σ ρ v y) (h : put ρ i v = some ρ2) : Rep X.K X.w B F H (σ.set i (some y)) ρ2 := by
  cases v with
  | p d =>
    obtain ⟨f, e⟩ := put_d h
    subst e
    exact r.store (z := .d d) f ⟨y, rfl, ev⟩
  | f xs =>
    obtain ⟨f, e⟩ := put_f h
    subst e
    obtain ⟨p, vs, rfl, a, b, c, l, d, n⟩ := ev
    exact r.store (z := .own false xs) f ⟨rfl, p, vs, rfl, a, b, c, l, d, fun j l ys _ hj => n j l ys hj⟩
  | b j =>
    unfold put at h
    split at h
    · cases h
    · cases h
theorem sS_asgG {i : Nat} {e : Cz.E} {st : Stmt} (h : PS X st (tAsg (tE G X.K X.w B W e) (gName i))) : PS X st (tR X.K X.w B W (evS G.M G.C (.asg i e))) := by
  refine h.imp (tR_imp fun D σ H F ρ r h => ?_)
  unfold evS at h
  refine eThen (k := fun v ρ1 => match put ρ1 i v with | some ρ2 => .nx ρ2 | none => .bad) r h fun v ρ1 _ y F1 H1 e1 r1 ev h1 => ?_
  cases h2 : put ρ1 i v with
  | none => rw [h2] at h1; exact h1.elim
  | some ρ2 =>
    rw [h2] at h1
    exact h1 F1 H1 _ (.refl F1) (stored r1 ev h2)
theorem sS_asg {i : Nat} {e : Cz.E} {x : Str} {ea : Expr} {pos pos' : Pos} (hN : X.N.Nodup) (hi : X.N[i]? = some x) (hx : X.env.scope.names.lookup x = some .local) (he : PE X ea (tE G X.K X.w B W e)) (hs : swapsWith ea (some (.Name x pos')) pos.line X.env = pure false) :
    PS X (.Assign [.Name x pos'] ea pos) (tR X.K X.w B W (evS G.M G.C (.asg i e))) := sS_asgG (ps_set hN hi (.inl hx) he hs (.inr hx))
theorem sS_asgT {t : List Nat} {e : Cz.E} {tg ea : Expr} {pos : Pos} (he : PE X ea (tE G X.K X.w B W e)) (hg : PG X tg (tGt X.K X.w B t)) (hs : swapsWithSole [tg] ea pos.line X.env = pure false) (hw : swappedStores [tg] ea X.env = pure none) (h1 : (assignEach [tg] X.env).map (·.2) = [assign tg X.env]) :
    PS X (.Assign [tg] ea pos) (tR X.K X.w B W (evS G.M G.C (.asgT t e))) := by
  refine (ps_asg he hg hs hw h1).imp (tR_imp fun D σ H F ρ r h => ?_)
  unfold evS at h
  refine eThen (k := fun v ρ1 => match fz v with
      | .p d => match bindT ρ1 t d with
        | some ρ2 => .nx ρ2
        | none => .bad
      | _ => .bad) r h fun v ρ1 _ y F1 H1 e1 r1 ev h1 => ?_
  obtain ⟨F2, e2, r2, k2⟩ := ev.fz r1
  cases h2 : fz v with
  | f _ => rw [h2] at h1; exact h1.elim
  | b _ => rw [h2] at h1; exact h1.elim
  | p d =>
    rw [h2] at h1 k2
    simp only at h1
    cases h3 : bindT ρ1 t d with
    | none => rw [h3] at h1; exact h1.elim
    | some ρ2 =>
      rw [h3] at h1
      exact ⟨F2, ρ1, d, ρ2, r2, k2, h3, fun σ' r' _ _ => h1 F2 H1 σ' e2 r'⟩
/-- a list that a slot owns changes -/
theorem Rep.lset {K : PySem.W.Frag} {w : World} {F H : Hp} {σ : List (Option V)} {ρ : List Sl} {i : Nat} {l : Bool} {xs ys : List D} {p : Addr} {us : List V} (r : Rep K w B F H σ ρ) (hi : ρ[i]? = some (Sl.own l xs)) (hs : σ[i]? = some (some (V.ref p))) (dv : DVs K w F us ys) (hl : ys.length ≤ Lim) :
    Rep K w B F (upd H p (.lst us)) σ (ρ.set i (.own l ys)) := by
  obtain ⟨p', vs, a, b, c, d, e, f1, f2⟩ := r.own i l xs hi
  rw [hs] at a
  cases a
  have hlt : i < ρ.length := (List.getElem?_eq_some_iff.mp hi).1
  exact {
    fe := r.fe
    fh := r.fh.mut b
    len := by rw [List.length_set]; exact r.len
    dat := fun j x hj => by
      rw [pset1] at hj
      split at hj
      · cases hj.2
      · exact r.dat j x hj
    own := fun j l' zs hj => by
      rw [pset1] at hj
      split at hj
      · rename_i ij
        subst ij
        cases hj.2
        exact ⟨p, us, hs, b, upd_same, dv, hl, f1, f2⟩
      · rename_i ij
        obtain ⟨q, ws, a', b', c', d', e', g1, g2⟩ := r.own j l' zs hj
        have ne : q ≠ p := fun z => ij (r.apart i j _ _ _ _ p hi hj hs (by rw [a', z]))
        exact ⟨q, ws, a', b', by rw [upd_ne ne]; exact c', d', e', g1, g2⟩
    apart := fun j k l' l'' zs ws q hj hk sj sk => by
      rw [pset1] at hj hk
      by_cases ij : i = j
      · by_cases ik : i = k
        · rw [← ij, ← ik]
        · rw [if_neg ik] at hk
          rw [← ij] at sj
          rw [← ij]
          exact r.apart i k l l'' xs ws q hi hk sj sk
      · rw [if_neg ij] at hj
        by_cases ik : i = k
        · rw [← ik] at sk
          rw [← ik]
          exact r.apart j i l' l zs xs q hj hi sj sk
        · rw [if_neg ik] at hk
          exact r.apart j k l' l'' zs ws q hj hk sj sk
    lent := fun q hq => by
      obtain ⟨⟨zs, hz⟩, s⟩ := r.lent q hq
      refine ⟨?_, s⟩
      by_cases iq : i = q.1
      · rw [← iq, hi] at hz
        cases hz
        exact ⟨ys, by rw [pset1, if_pos iq]; exact ⟨hlt, rfl⟩⟩
      · exact ⟨zs, by rw [pset1, if_neg iq]; exact hz⟩
    frame := fun q o h1 h2 => by
      have ne : q ≠ p := fun z => by
        subst z
        cases l with
        | true => exact h2 _ (f2 rfl) rfl
        | false => rw [f1 rfl] at h1; cases h1
      rw [upd_ne ne]
      exact r.frame q o h1 h2
    mask := r.mask }
theorem sS_app {i : Nat} {e : Cz.E} {x : Str} {ea : Expr} {px pa pc pos : Pos} (hi : X.N[i]? = some x) (hv : Vis X.env.scope x) (hd : (x == ("__debug__" : Str)) = false) (hcd : (x == ("__classdict__" : Str)) = false) (he : PE X ea (tE G X.K X.w B W e)) (hst : starEach [ea] X.env = [(false, eval ea X.env)]) (hline : (pa.endLine == pc.line) = true) :
    PS X (.Expr (.Call (.Attribute (.Name x px) "append" pa) [ea] [] pc) pos) (tR X.K X.w B W (evS G.M G.C (.app i e))) := by
  refine (ps_expr (pe_bm PySem.F.plainAttrs_list PySem.F.slot_list_append PySem.F.type_list_append mt_append (pe_var hi hv hd hcd) (sA_cons he sA_nil hst) rfl (by rw [hst]; rfl) hline hst rfl) rfl).imp (tR_imp fun D σ H F ρ r h => ?_)
  unfold evS at h
  cases h0 : ρ[i]? with
  | none => rw [h0] at h; exact h.elim
  | some z =>
    rw [h0] at h
    cases z with
    | no => exact h.elim
    | d _ => exact h.elim
    | exn _ => exact h.elim
    | own l0 xs0 =>
      simp only at h
      obtain ⟨p, vs, hs, hF, hH, dv, ll, _⟩ := r.own i _ _ h0
      refine ⟨_, hs, .inl ⟨rfl, vs, SqL.of hH⟩, F, ρ, r, ?_⟩
      unfold evEs
      cases h1 : evE G.M G.C e ρ with
      | bad => rw [h1] at h; exact h.elim
      | ex x ρ1 => rw [h1] at h; exact h
      | ok v ρ1 =>
        rw [h1] at h
        simp only at h ⊢
        unfold evEs
        simp only
        intro xs F1 H1 e1 r1 k1
        cases k1 with
        | cons k k1 =>
          cases k1
          cases h2 : fz v with
          | f _ => rw [h2] at h; exact h.elim
          | b _ => rw [h2] at h; exact h.elim
          | p d =>
            rw [h2] at h k
            simp only at h
            cases h3 : ρ1[i]? with
            | none => rw [h3] at h; exact h.elim
            | some z =>
              rw [h3] at h
              cases z with
              | no => exact h.elim
              | d _ => exact h.elim
              | exn _ => exact h.elim
              | own l1 ys =>
                simp only at h
                by_cases lt : ys.length < 100000
                · rw [if_pos lt] at h
                  obtain ⟨p', us, hs', hF', hH', dv', ll', _⟩ := r1.own i _ _ h3
                  rw [hs] at hs'
                  cases hs'
                  refine ⟨p, us, _, rfl, rfl, hH', by rw [dv'.length]; exact lim_lt (Nat.le_of_lt lt), ?_⟩
                  exact h F1 _ σ e1 (r1.lset h3 hs (dv'.snoc k) (by rw [List.length_append]; exact lt))
                · rw [if_neg lt] at h; exact h.elim
theorem sS_asgIx {i : Nat} {e k : Cz.E} {x : Str} {ea ek : Expr} {px pa pos : Pos} (hi : X.N[i]? = some x) (hv : Vis X.env.scope x) (hd : (x == ("__debug__" : Str)) = false) (hcd : (x == ("__classdict__" : Str)) = false) (he : PE X ea (tE G X.K X.w B W e)) (hk : PE X ek (tE G X.K X.w B W k))
    (hs : swapsWithSole [.Subscript (.Name x px) ek pa] ea pos.line X.env = pure false)
    (ha : ∀ v, assign (.Subscript (.Name x px) ek pa) X.env v = (do
      let ov ← holding [v] (eval (.Name x px) X.env)
      let iv ← holding [v, ov] (eval ek X.env)
      standAt pa
      holding [v, ov, iv] (setItem ov iv v)
      release [v, ov, iv] [])) :
    PS X (.Assign [.Subscript (.Name x px) ek pa] ea pos) (tR X.K X.w B W (evS G.M G.C (.asgIx i k e))) := by
  refine (ps_asg he (pg_sub (pe_var hi hv hd hcd) hk set_list ha) hs rfl rfl).imp (tR_imp fun D σ H F ρ r h => ?_)
  unfold evS at h
  refine ⟨F, ρ, r, ?_⟩
  cases h1 : evE G.M G.C e ρ with
  | bad => rw [h1] at h; exact h.elim
  | ex x ρ1 => rw [h1] at h; exact h
  | ok v ρ1 =>
    rw [h1] at h
    simp only at h ⊢
    intro y F1 H1 e1 r1 ev
    obtain ⟨F2, e2, r2, k2⟩ := ev.fz r1
    cases h2 : fz v with
    | f _ => rw [h2] at h; exact h.elim
    | b _ => rw [h2] at h; exact h.elim
    | p d =>
      rw [h2] at h k2
      simp only at h
      cases h0 : ρ1[i]? with
      | none => rw [h0] at h; exact h.elim
      | some z =>
        rw [h0] at h
        cases z with
        | no => exact h.elim
        | d _ => exact h.elim
        | exn _ => exact h.elim
        | own l0 xs0 =>
          simp only at h
          obtain ⟨p, vs, hs1, hF, hH, dv, ll, _⟩ := r2.own i _ _ h0
          refine ⟨_, hs1, F2, ρ1, r2, ?_⟩
          cases h3 : evE G.M G.C k ρ1 with
          | bad => rw [h3] at h; exact h.elim
          | ex x ρ2 => rw [h3] at h; exact h
          | ok u ρ2 =>
            rw [h3] at h
            simp only
            intro z F3 H3 e3 r3 ev3
            cases u with
            | f _ => exact h.elim
            | b _ => exact h.elim
            | p dk =>
              cases dk with
              | int j =>
                simp only at h
                cases h4 : ρ2[i]? with
                | none => rw [h4] at h; exact h.elim
                | some z2 =>
                  rw [h4] at h
                  cases z2 with
                  | no => exact h.elim
                  | d _ => exact h.elim
                  | exn _ => exact h.elim
                  | own l1 ys =>
                    simp only at h
                    cases h5 : pix ys.length j with
                    | none => rw [h5] at h; exact h.elim
                    | some n =>
                      rw [h5] at h
                      obtain ⟨p', us, hs', hF', hH', dv', ll', _⟩ := r3.own i _ _ h4
                      rw [hs1] at hs'
                      cases hs'
                      have ej : z = V.int j := by
                        have q : DV X.K X.w F3 z (.int j) := ev3
                        cases q
                        rfl
                      subst ej
                      have dd : DV X.K X.w F3 y d := DV.mono e3 k2
                      refine ⟨p, us, j, n, rfl, rfl, hH', by rw [dv'.length]; exact h5, ?_⟩
                      exact h F3 _ σ (e1.trans (e2.trans e3)) (r3.lset h4 hs1 (dv'.set dd n) (by rw [List.length_set]; exact ll'))
              | _ => exact h.elim
theorem sS_ret {e : Cz.E} {ea : Expr} {pos : Pos} (hv : ∀ i, e ≠ .var i) (he : PE X ea (tE G X.K X.w B W e)) : PS X (.Return (some ea) pos) (tR X.K X.w B W (evS G.M G.C (.ret e))) := by
  refine (ps_ret he).imp (tR_imp fun D σ H F ρ r h => ?_)
  have h : RsOk X.K X.w B W F D (match evE G.M G.C e ρ with
      | .ok (.b _) _ => .bad
      | .ok v ρ1 => .rt v ρ1
      | .ex x ρ1 => .ex x ρ1
      | .bad => .bad) := by
    cases e with
    | var i => exact absurd rfl (hv i)
    | _ => unfold evS at h; exact h
  refine ⟨F, ρ, r, ?_⟩
  cases h1 : evE G.M G.C e ρ with
  | bad => rw [h1] at h; exact h.elim
  | ex x ρ1 => rw [h1] at h; exact h
  | ok v ρ1 =>
    rw [h1] at h
    cases v with
    | b _ => exact h.elim
    | p d => exact fun y F1 H1 e1 r1 ev => h F1 H1 σ y e1 r1 ev
    | f xs => exact fun y F1 H1 e1 r1 ev => h F1 H1 σ y e1 r1 ev
theorem sS_retV {i : Nat} {x : Str} {px pos : Pos} (hi : X.N[i]? = some x) (hv : Vis X.env.scope x) (hd : (x == ("__debug__" : Str)) = false) (hcd : (x == ("__classdict__" : Str)) = false) : PS X (.Return (some (.Name x px)) pos) (tR X.K X.w B W (evS G.M G.C (.ret (.var i)))) := by
  refine (ps_ret (pe_var hi hv hd hcd)).imp (tR_imp fun D σ H F ρ r h => ?_)
  unfold evS at h
  have h : RsOk X.K X.w B W F D (match ρ[i]? with
      | some (.d x) => .rt (.p x) ρ
      | some (.own false xs) => .rt (.f xs) (ρ.set i .no)
      | _ => .bad) := h
  cases h0 : ρ[i]? with
  | none => rw [h0] at h; exact h.elim
  | some z =>
    rw [h0] at h
    cases z with
    | no => exact h.elim
    | exn _ => exact h.elim
    | d y =>
      obtain ⟨v, hs, dv⟩ := r.dat i y h0
      exact ⟨v, hs, h F H σ v (.refl F) r dv⟩
    | own l xs =>
      cases l with
      | true => exact h.elim
      | false =>
        obtain ⟨p, vs, hs, hF, hH, dv, ll, hb, _⟩ := r.own i _ _ h0
        refine ⟨_, hs, h F H σ _ (.refl F) ?_ ⟨p, vs, rfl, hF, hH, dv, ll, hb rfl, fun j l ys hj sj => ?_⟩⟩
        · refine r.per (by rw [List.length_set]; exact r.len) fun j => ?_
          by_cases ij : i = j
          · subst ij
            refine .inr ⟨fun q hq z => ?_, fun l ys hy => ?_, fun y hy => ?_⟩
            · obtain ⟨⟨ys, hy⟩, _⟩ := r.lent q hq
              rw [z, h0] at hy
              cases hy
            · rw [pset1, if_pos rfl] at hy
              cases hy.2
            · rw [pset1, if_pos rfl] at hy
              cases hy.2
          · exact .inl ⟨List.getElem?_set_ne ij, rfl⟩
        · rw [pset1] at hj
          split at hj
          · cases hj.2
          · rename_i ij
            exact ij (r.apart i j _ _ _ _ p h0 hj hs sj)
end
end Cs
end
section
set_option Elab.async false
set_option linter.all false
set_option maxRecDepth 100000
set_option maxHeartbeats 4000000
/-! SOUND 17: loops; raise. -/
namespace Cs
open PySem L2 Cz PyProof.Rows
section
variable {X : Cx} {G : Fx} {B : Bas} {W : Wi}
/-- a turn of a for -/
abbrev foT (G : Fx) (t : List Nat) (body : Ss) : List Sl → D → Rs := fun ρ d => match bindT ρ t d with
  | some ρ2 => evSs G.M G.C body ρ2
  | none => .bad
theorem evS_for (t : List Nat) (it : Cz.It) (body : Ss) (ρ : List Sl) : evS G.M G.C (.for_ t it body) ρ = (match evIt G.M G.C it ρ with
  | some (ds, ρ1) => forTurns (foT G t body) ρ1 ds
  | none => .bad) := by
  rw [evS] <;> rfl
theorem sS_for {t : List Nat} {it : Cz.It} {body : Ss} {tg iter : Expr} {sts : List Stmt} {pos : Pos} (hp : PassesOwn (model X.prog X.w) X.A X.env X.xe) (hc : X.calm = true) (hi : PI X tg iter (tI G X.K X.w B it)) (hg : PG X tg (tGt X.K X.w B t)) (hb : PSs X sts (tR X.K X.w B W (evSs G.M G.C body)))
    (hs : ∀ x, foldedSetIterable iter X.env x = pure x) : PS X (.For tg iter sts [] pos) (tR X.K X.w B W (evS G.M G.C (.for_ t it body))) := by
  refine (ps_for hp hc hi hg hb hs).imp (tR_imp fun D σ H F ρ r h => ?_)
  rw [evS_for] at h
  cases h1 : evIt G.M G.C it ρ with
  | none => rw [h1] at h; exact h.elim
  | some q1 =>
    obtain ⟨ds, ρ1⟩ := q1
    rw [h1] at h
    simp only at h
    refine ⟨F, ρ, ds, ρ1, r, h1, fun J F1 H1 e1 r1 len ok => ?_⟩
    refine ⟨fun i m σ H => m = ds.length - i ∧ i ≤ ds.length ∧ ∃ Fc ρc, Ex F1 Fc ∧ Rep X.K X.w B Fc H σ ρc ∧ RsOk X.K X.w B W Fc D (forTurns (foT G t body) ρc (ds.drop i)), ⟨_, rfl, Nat.zero_le _, F1, ρ1, .refl F1, r1, h.mono e1⟩, fun i m σ2 H2 hw => ?_⟩
    obtain ⟨hm, hi, Fc, ρc, ec, rc, hr⟩ := hw
    obtain ⟨a1, a2⟩ := ok Fc H2 ec rc.fh
    by_cases lt : i < ds.length
    · refine .inr ?_
      obtain ⟨d, hd, hdr⟩ := drop_cons lt
      obtain ⟨b1, b2⟩ := a1 i d hd
      refine ⟨b1, fun σ' H' => i + 1 ≤ ds.length ∧ ∃ Fc ρc, Ex F1 Fc ∧ Rep X.K X.w B Fc H' σ' ρc ∧ RsOk X.K X.w B W Fc D (forTurns (foT G t body) ρc (ds.drop (i + 1))), fun σ' H' hw => ⟨_, by omega, rfl, hw⟩, fun x H' hy => ?_⟩
      obtain ⟨F2, g, dv⟩ := b2 x H' hy
      rw [hdr] at hr
      unfold forTurns at hr
      cases h3 : bindT ρc t d with
      | none => simp only [foT, h3] at hr; exact hr.elim
      | some ρa =>
        simp only [foT, h3] at hr
        refine ⟨F2, ρc, d, ρa, rc.grow g, dv, h3, fun σ3 r3 _ _ => ⟨F2, ρa, r3, ?_⟩⟩
        cases h4 : evSs G.M G.C body ρa with
        | nx ρb => rw [h4] at hr; exact fun F' H' σ' e r' => ⟨lt, F', ρb, ec.trans (g.f.trans e), r', RsOk.mono (g.f.trans e) hr⟩
        | ct ρb => rw [h4] at hr; exact fun F' H' σ' e r' => ⟨lt, F', ρb, ec.trans (g.f.trans e), r', RsOk.mono (g.f.trans e) hr⟩
        | bk ρb => rw [h4] at hr; exact fun F' H' σ' e r' => hr F' H' σ' (g.f.trans e) r'
        | rt v ρb => rw [h4] at hr; exact fun F' H' σ' u e r' => hr F' H' σ' u (g.f.trans e) r'
        | ex x ρb => rw [h4] at hr; exact hr
        | bad => rw [h4] at hr; exact hr.elim
    · refine .inl ?_
      have ei : i = ds.length := by omega
      subst ei
      rw [List.drop_length] at hr
      unfold forTurns at hr
      exact ⟨a2, hr Fc H2 σ2 (.refl Fc) rc⟩
theorem sS_while {c : Cz.E} {body : Ss} {ec : Expr} {sts : List Stmt} {pos : Pos} (hp : PassesOwn (model X.prog X.w) X.A X.env X.xe) (hc : PT X ec (tT G X.K X.w B W c)) (hb : PSs X sts (tR X.K X.w B W (evSs G.M G.C body))) :
    PS X (.While ec sts [] pos) (tR X.K X.w B W (evS G.M G.C (.while_ c body))) := by
  refine (ps_while hp hc hb).imp (tR_imp fun D σ H F ρ r h => ?_)
  rw [evS] at h
  refine ⟨fun m σ H => ∃ Fc ρc, Ex F Fc ∧ Rep X.K X.w B Fc H σ ρc ∧ RsOk X.K X.w B W Fc D (whTurns (evE G.M G.C c) (evSs G.M G.C body) m ρc), ⟨whFuel, F, ρ, .refl F, r, h⟩, fun m σ2 H2 hw => ?_⟩
  obtain ⟨Fc, ρc, ec, rc, hr⟩ := hw
  cases m with
  | zero => exact hr.elim
  | succ m =>
    unfold whTurns at hr
    refine ⟨Fc, ρc, rc, ?_⟩
    cases h1 : evE G.M G.C c ρc with
    | bad => rw [h1] at hr; exact hr.elim
    | ex x ρ1 => rw [h1] at hr; exact hr
    | ok v ρ1 =>
      rw [h1] at hr
      simp only at hr ⊢
      cases h2 : (res ρ1 (fz v)).bind truth with
      | none => rw [h2] at hr; exact hr.elim
      | some k =>
        rw [h2] at hr
        refine ⟨k, rfl, fun F2 H3 e2 r2 => ?_⟩
        cases k with
        | false =>
          rw [if_neg Bool.false_ne_true]
          exact hr F2 H3 σ2 e2 r2
        | true =>
          rw [if_pos rfl]
          simp only at hr
          refine ⟨fun σ' H' => ∃ Fc ρc, Ex F Fc ∧ Rep X.K X.w B Fc H' σ' ρc ∧ RsOk X.K X.w B W Fc D (whTurns (evE G.M G.C c) (evSs G.M G.C body) m ρc), fun σ' H' hw => ⟨m, Nat.lt_succ_self m, hw⟩, F2, ρ1, r2, ?_⟩
          cases h4 : evSs G.M G.C body ρ1 with
          | nx ρb => rw [h4] at hr; exact fun F' H' σ' e r' => ⟨F', ρb, ec.trans (e2.trans e), r', RsOk.mono (e2.trans e) hr⟩
          | ct ρb => rw [h4] at hr; exact fun F' H' σ' e r' => ⟨F', ρb, ec.trans (e2.trans e), r', RsOk.mono (e2.trans e) hr⟩
          | bk ρb => rw [h4] at hr; exact fun F' H' σ' e r' => hr F' H' σ' (e2.trans e) r'
          | rt v ρb => rw [h4] at hr; exact fun F' H' σ' u e r' => hr F' H' σ' u (e2.trans e) r'
          | ex x ρb => rw [h4] at hr; exact hr
          | bad => rw [h4] at hr; exact hr.elim
/-- an exception of class number c is made of e's value -/
def tMk (G : Fx) (K : PySem.W.Frag) (w : World) (B : Bas) (W : Wi) (c : Nat) (e : Cz.E) : L2.St → Hp → XK → Prop := fun σ H Q => ∃ F ρ, Rep K w B F H σ ρ ∧ (match evE G.M G.C e ρ with
  | .ok v ρ1 => ∃ d, fz v = .p d ∧ okArg (G.M.tk c) d = true ∧ ∀ F' H' cls dd, Ex F F' → Rep K w B F' H' σ ρ1 → XRep G.xa G.xf K w F' H' ⟨c, d⟩ cls dd → Q cls dd H'
  | .ex x ρ1 => W x ρ1
  | .bad => False)
theorem sS_raise {c : Nat} {e : Cz.E} {ex : Expr} {pos : Pos} (hc : X.calm = true) (tk : Takes X (WD G X.K X.w B W)) (he : PMk X ex (tMk G X.K X.w B W c e)) : PS X (.Raise (some ex) none pos) (tR X.K X.w B W (evS G.M G.C (.raise c e))) := by
  refine (ps_raise hc tk he).imp (tR_imp fun D σ H F ρ r h => ?_)
  rw [evS] at h
  refine ⟨F, ρ, r, ?_⟩
  cases h1 : evE G.M G.C e ρ with
  | bad => rw [h1] at h; exact h.elim
  | ex x ρ1 => rw [h1] at h; exact h
  | ok v ρ1 =>
    rw [h1] at h
    simp only at h ⊢
    cases h2 : fz v with
    | f _ => rw [h2] at h; exact h.elim
    | b _ => rw [h2] at h; exact h.elim
    | p d =>
      rw [h2] at h
      simp only at h
      by_cases k : okArg (G.M.tk c) d = true
      · rw [if_pos k] at h
        exact ⟨d, rfl, k, fun F' H' cls dd e r' xr => ⟨F', ⟨c, d⟩, ρ1, r', xr, h⟩⟩
      · rw [if_neg k] at h; exact h.elim
end
end Cs
end
section
set_option Elab.async false
set_option linter.all false
set_option maxRecDepth 100000
set_option maxHeartbeats 4000000
/-! SOUND 18: try with several clauses, named or not. -/
namespace Cs
open PySem PySem.Spec L2 Cz PyProof.Rows
/-- a clause: the class, the slot of its name, what its suite is told -/
structure Cl where
  c : Value
  o : Option Nat
  ts : Addr → Value → Option Addr → TS
def clIn (o : Option Nat) (a : Addr) (σ : List (Option V)) : List (Option V) := match o with
  | none => σ
  | some i => σ.set i (some (.ref a))
def clOut (o : Option Nat) (σ : List (Option V)) : List (Option V) := match o with
  | none => σ
  | some i => σ.set i none
def clEnds (o : Option Nat) (D : Ends) : Ends := ⟨fun σ H => D.nx (clOut o σ) H, D.rt, fun σ H => D.bk (clOut o σ) H, fun σ H => D.ct (clOut o σ) H⟩
def clWish (K : PySem.W.Frag) (Wo : WX) (D : Ends) : List Cl → WX
  | [] => Wo
  | q :: r => fun cls d σ H => ∃ b, PySem.W.exmOne K cls q.c = some b ∧ (b = true → ∀ a, H a = none → q.ts a cls d (clEnds q.o D) (clIn q.o a σ) H) ∧ (b = false → clWish K Wo D r cls d σ H)
inductive Cls (X : Cx) : List ExceptHandler → List Cl → Prop
  | nil : Cls X [] []
  | plain {x : Str} {q : Cl} {st : Stmt} {sts : List Stmt} {p1 p2 : Pos} {hh : List ExceptHandler} {r : List Cl} (nc : Names X x q.c) (no : q.o = none)
      (su : ∀ (a : Addr) (eo : Obj) (cls : Value) (d : Option Addr) (pn : List (Addr × Obj)), Zc cls d eo → (∃ vs, eo.data = .fields vs) → PSs (X.suite a ((a, eo) :: pn)) (st :: sts) (q.ts a cls d)) (rest : Cls X hh r) :
      Cls X (.ExceptHandler (some (.Name x p1)) none (st :: sts) p2 :: hh) (q :: r)
  | named {x n : Str} {i : Nat} {q : Cl} {st : Stmt} {sts : List Stmt} {p1 p2 : Pos} {hh : List ExceptHandler} {r : List Cl} (nc : Names X x q.c) (no : q.o = some i) (ni : X.N[i]? = some n) (nl : X.env.kindOf n = some .local)
      (su : ∀ (a : Addr) (eo : Obj) (cls : Value) (d : Option Addr) (pn : List (Addr × Obj)), Zc cls d eo → (∃ vs, eo.data = .fields vs) → PSs (X.suite a ((a, eo) :: pn)) (st :: sts) (q.ts a cls d)) (rest : Cls X hh r) :
      Cls X (.ExceptHandler (some (.Name x p1)) (some n) (st :: sts) p2 :: hh) (q :: r)
section
variable {X : Cx} {body : List Stmt} {c0 : ExceptHandler} {cs : List ExceptHandler} {l : List Cl} {pos : Pos} {tb : WX → TS} {Wo : WX}
theorem ps_clauses (hN : X.N.Nodup) (stk : X.stack = X.env :: X.outer) (frm : X.env.frame = some X.env.locals) (tk : Takes X Wo)
    (bod : ∀ (W1 : WX) (pn : List (Addr × Obj)) (xe : Value → Shared → Prop), Takes (X.tr pn xe) W1 → PassesOwn (model X.prog X.w) X.A X.env xe → PSs (X.tr pn xe) body (tb W1))
    (cl : Cls X (c0 :: cs) l) : PS X (.Try body (c0 :: cs) [] [] pos) (fun D σ H => tb (clWish X.K Wo D l) D σ H) := by
  refine ⟨fun pins z σ H D I h => ?_⟩
  have good := I.ok
  have afr : X.A.frames = some (X.env :: X.outer) := by rw [good.frames, stk]
  refine wpAny_Try_except ?_
  refine wpAny_mono ((bod (clWish X.K Wo D l) (X.pn ++ pins) (fun y z1 => wpAny (model X.prog X.w) X.A (noteFrame y X.env) (fun _ z2 => wpAny (model X.prog X.w) X.A (setFlight y none) (fun _ z3 =>
    wpAny (model X.prog X.w) X.A (handleBy y X.env (c0 :: cs)) (SP X pins D) X.xe z3) X.xe z2) X.xe z1) (fun u z' flies => ?_) PassesOwn.looking).run [] z σ H D (I.toTry _) h) (fun f z1 went => ?_) (fun _ _ y => y)
  · -- something flies
    obtain ⟨a, gr, zI, pins1, σ1, H1, cls, d, rfl, J1, nb, up, sky, na, os, ag, ww⟩ := flies
    have J : Inv X pins σ1 H1 zI := J1.ofTry good
    have sky1 : Sky gr (X.env :: X.outer) a (Zc cls d) X.env.locals z'.heap := by rw [← stk]; exact sky
    show wpAny (model X.prog X.w) X.A (noteFrame (Value.ref a) X.env) _ _ _
    refine Sky.land Zc.steady afr frm sky1 fun g3 fl3 up3 => ?_
    have J3 : Inv X pins σ1 H1 { z' with heap := g3 } := J.landed nb fl3.1 (up.trans up3) os ag
    obtain ⟨eo, fs3, at3, zc3, dt3⟩ := fl3.there
    have outside : ∀ {g : Heap} {o : Obj} {fs : Array Value}, g.FunFrames gr (X.env :: X.outer) → g.get? a = some o → o.data = .fields fs → a ∉ frs (X.env :: X.outer) := fun {g o fs} ff at1 dt hm => by
      obtain ⟨_, o1, at2, not1⟩ := ff.mem hm
      rw [at1] at at2
      cases at2
      exact not1 _ dt
    have nfr := outside fl3.2.2.1 at3 dt3
    have nloc : a ≠ X.env.locals := fun y => nfr (List.mem_filterMap.mpr ⟨X.env, List.mem_cons_self, by rw [frm, y]⟩)
    have nfs : a ∉ X.fs := fun hm => by
      obtain ⟨en, hen, y⟩ := List.mem_filterMap.mp hm
      exact nfr (List.mem_filterMap.mpr ⟨en, List.mem_cons_of_mem _ hen, y⟩)
    have inSuite := J3.suite at3 dt3 na nloc nfs
    -- the class of a clause is looked up, the exception's is matched against it
    have asks : ∀ {x : Str} {c : Value} {p1 : Pos}, Names X x c → ∀ {Q : Value → Shared → Prop} {E : Value → Shared → Prop}, Q c { z' with heap := g3 } → wpAny (model X.prog X.w) (X.A.mark (some (.ref a))) (eval (.Name x p1) X.env) Q E { z' with heap := g3 } := fun {x c p1} nc {Q E} q => by
      obtain ⟨gl, db, mm | ⟨mm, bv, nn⟩⟩ := nc
      · exact ld_glob (X := X.suite a ((a, eo) :: (X.pn ++ pins))) inSuite gl mm q db
      · exact ld_blt (X := X.suite a ((a, eo) :: (X.pn ++ pins))) inSuite gl mm bv q nn db
    have isOf : PySem.W.Looks (model X.prog X.w) g3 (typeOf (.ref a)) cls := fun A Q E s k q => wpAny_typeOf_ref (k _ _ at3) (by rw [zc3.1]; exact q)
    have walk : ∀ {hh : List ExceptHandler} {r : List Cl}, Cls X hh r → clWish X.K Wo D r cls d σ1 H1 →
        wpAny (model X.prog X.w) X.A (handleBy (Value.ref a) X.env hh) (SP X pins D) X.xe { z' with heap := g3 } := by
      intro hh r hk
      induction hk with
      | nil =>
        intro w1
        refine wpAny_handleBy_nil ?_
        obtain ⟨k1, k2, k3, oo, fs, T, oT, tt, at4, zc4, dt4, f1, fr4⟩ := id fl3
        unfold PySem.passOn
        refine wpAny_bind (wpAny_field at4 dt4 f1 ?_)
        rw [if_neg (show ¬ ((Value.ref T == .none) = true) from by simp)]
        have leave : wpAny (model X.prog X.w) X.A (setFlight (Value.ref a) X.env.frame) (fun _ z4 => wpAny (model X.prog X.w) X.A (throw (Value.ref a) : Sem Flow) (SP X pins D) X.xe z4) X.xe { z' with heap := g3 } := by
          rw [frm]
          refine HandSPX.setFlight_upZ fl3 fun g4 at5 up4 => wpAny_throw (tk _ _ ?_)
          exact ⟨a, gr, zI, pins, σ1, H1, cls, d, rfl, J, nb, (up.trans up3).trans up4, .inr (.inr (by rw [stk]; exact at5)), na, os, ag, w1⟩
        first
          | exact wpAny_bind (wpAny_pure (wpAny_bind leave))
          | exact wpAny_bind leave
      | @plain x q st sts p1 p2 hh2 r2 nc no su rest ih =>
        intro w1
        obtain ⟨b, hb1, yes, nay⟩ := w1
        refine wpAny_handleBy_cons (codeAny_handlers_test ?_) (by intro q; cases q)
        refine asks nc ((PySem.W.exm_one (M := model X.prog X.w) J3.kIn isOf hb1).here ?_)
        cases b with
        | false =>
          show wpAny _ X.A (handleBy (Value.ref a) X.env hh2) _ _ _
          exact ih (nay rfl)
        | true =>
          refine codeAny_handlers_suite ?_
          refine HandSPX.lands_againZ fl3 fun g4 fl4 up4 => ?_
          have J4 : Inv X pins σ1 H1 { z' with heap := g4 } := J.landed nb fl4.1 ((up.trans up3).trans up4) os ag
          obtain ⟨eo4, fs4, at4, zc4, dt4⟩ := fl4.there
          have y := yes rfl a na
          rw [no] at y
          refine wpAny_mono ((su a eo4 cls d (X.pn ++ pins) zc4 ⟨_, dt4⟩).run [] _ _ H1 _ (J4.suite at4 dt4 na nloc nfs) y) (fun f z6 went => ?_) (fun _ _ y => False.elim y)
          cases f with
          | next => obtain ⟨σ6, H6, S6, q6⟩ := went; exact ⟨_, _, S6.unsuite good, q6⟩
          | brk => obtain ⟨σ6, H6, S6, q6⟩ := went; exact ⟨_, _, S6.unsuite good, q6⟩
          | cont => obtain ⟨σ6, H6, S6, q6⟩ := went; exact ⟨_, _, S6.unsuite good, q6⟩
          | ret u => obtain ⟨v6, σ6, H6, S6, r6, q6⟩ := went; exact ⟨_, _, _, S6.unsuite good, r6, q6⟩
      | @named x n i q st sts p1 p2 hh2 r2 nc no ni nl su rest ih =>
        intro w1
        obtain ⟨b, hb1, yes, nay⟩ := w1
        refine wpAny_handleBy_cons (codeAny_handlers_test ?_) (by intro q; cases q)
        refine asks nc ((PySem.W.exm_one (M := model X.prog X.w) J3.kIn isOf hb1).here ?_)
        cases b with
        | false =>
          show wpAny _ X.A (handleBy (Value.ref a) X.env hh2) _ _ _
          exact ih (nay rfl)
        | true =>
          refine codeAny_handlers_suite_as ?_
          refine HandSPX.lands_againZ fl3 fun g4 fl4 up4 => ?_
          have J4 : Inv X pins σ1 H1 { z' with heap := g4 } := J.landed nb fl4.1 ((up.trans up3).trans up4) os ag
          obtain ⟨eo4, fs4, at4, zc4, dt4⟩ := fl4.there
          have y := yes rfl a na
          rw [no] at y
          refine store_ok (X := X.suite a ((a, eo4) :: (X.pn ++ pins))) (v := .ref a) (J4.suite at4 dt4 na nloc nfs) hN ni (.inl nl) rfl (fun z5 S5 => ?_) (.inr nl)
          refine wpAny_mono ((su a eo4 cls d (X.pn ++ pins) zc4 ⟨_, dt4⟩).run [] z5 _ H1 _ S5 y) (fun f z6 went => ?_) (fun _ _ y => False.elim y)
          have over : ∀ {σ6 : List (Option V)} {H6 : Hp} {Q : Shared → Prop}, Inv (X.suite a ((a, eo4) :: (X.pn ++ pins))) [] σ6 H6 z6 → (∀ z7, Inv X pins (σ6.set i none) H6 z7 → Q z7) →
              wpAny (model X.prog X.w) X.A (do bindName X.env n .none; unbindBehindTheSuite X.env n p2) (fun _ z7 => Q z7) X.xe z6 := fun {σ6 H6 Q} S6 hq => gone_ok (S6.unsuite good) hN ni nl hq
          cases f with
          | next => obtain ⟨σ6, H6, S6, q6⟩ := went; exact over S6 fun z7 J7 => ⟨_, _, J7, q6⟩
          | brk => obtain ⟨σ6, H6, S6, q6⟩ := went; exact over S6 fun z7 J7 => ⟨_, _, J7, q6⟩
          | cont => obtain ⟨σ6, H6, S6, q6⟩ := went; exact over S6 fun z7 J7 => ⟨_, _, J7, q6⟩
          | ret u => obtain ⟨v6, σ6, H6, S6, r6, q6⟩ := went; exact over S6 fun z7 J7 => ⟨_, _, _, J7, r6, q6⟩
    exact walk cl ww
  · cases f with
    | next => obtain ⟨σ1, H1, J1, q⟩ := went; exact wpAny_execs_nil ⟨σ1, H1, J1.ofTry good, q⟩
    | brk => obtain ⟨σ1, H1, J1, q⟩ := went; exact ⟨σ1, H1, J1.ofTry good, q⟩
    | cont => obtain ⟨σ1, H1, J1, q⟩ := went; exact ⟨σ1, H1, J1.ofTry good, q⟩
    | ret u => obtain ⟨v, σ1, H1, J1, r, q⟩ := went; exact ⟨v, σ1, H1, J1.ofTry good, r, q⟩
end
end Cs
end
section
set_option Elab.async false
set_option linter.all false
set_option maxRecDepth 100000
set_option maxHeartbeats 4000000
/-! SOUND 19: what a suite says of the error it holds; try. -/
namespace Cs
open PySem L2 Cz PyProof.Rows
/-- what must be known of the errors' classes -/
structure XFacts (G : Fx) (K : PySem.W.Frag) : Prop where
  cls : ∀ c C, G.xa c = some C → XfC K C ∧ (PySem.W.clsIn K C).isSome = true ∧ PySem.W.findIn K (.ref C) "__class__" = some (some (.builtin "object.__class__")) ∧ PySem.W.mroIn K C (.type "object") = some true ∧ PySem.W.findIn K (.ref C) (G.xf c) = some none
  sub : ∀ c C c' C', G.xa c = some C → G.xa c' = some C' → PySem.W.exmOne K (.ref C) (.ref C') = some (G.M.sub c c') ∧ PySem.W.kitOne K (.ref C) (.ref C') = some (G.M.sub c c')
  gt : PySem.W.specialIn K (.builtin "object.__class__") "__get__" = some (some (.builtin "getset_descriptor.__get__"))
  tk : PySem.W.takesIn K (.builtin "object.__class__") = some true
/-- isinstance(e, c), e the error that the suite holds, with its own dict -/
def rIsD (K : PySem.W.Frag) (D a : Addr) (d : Option Addr) : List V → Hp → VK → Prop := fun xs H Q => ∃ (c : V) (cv : Value) (b : Bool), xs = [.ref a, c] ∧ (∀ u, RelV c u → u = cv) ∧ (∃ dd fs, d = some dd ∧ H dd = some (.xd fs)) ∧ PySem.W.kitOne K (.ref D) cv = some b ∧ Q (.bl b) H
theorem call_isD {X : Cx} {G : Fx} {a D : Addr} {eo : Obj} {d : Option Addr} {pn : List (Addr × Obj)} {c : Nat} (XF : XFacts G X.K) (hc : G.xa c = some D) (hz : Zc (.ref D) d eo) (hf : ∃ vs, eo.data = .fields vs) : CallR (X.suite a ((a, eo) :: pn)) (.builtin "isinstance") (rIsD X.K D a d) := by
  intro pins z σ H xs us Q I rv h
  obtain ⟨x, cv, b, rfl, hcv, ⟨dd, fs, rfl, hdd⟩, hk, q⟩ := h
  obtain ⟨T, k0, k7, k10, _⟩ := XF.cls c D hc
  cases rv with
  | cons rx rr =>
    cases rr with
    | cons rt rr =>
      cases rr
      cases rx
      have ec := hcv _ rt
      subst ec
      obtain ⟨at1, _⟩ := I.pin (a, eo) (List.mem_append.mpr (.inl List.mem_cons_self))
      obtain ⟨vs, dt⟩ := hf
      have hx : ObjOk X.prog X.w H z.heap dd (.xd fs) := I.hok dd _ hdd
      obtain ⟨mA, hns, hr⟩ := hx
      obtain ⟨od, ho, hl⟩ := lookIn_ns hns
      have J : PySem.W.InstAt z.heap a eo D (some od) := ⟨at1, hz.1, by unfold PySem.W.notCls; rw [dt] <;> rfl, by rw [hz.2]; exact ho⟩
      exact PySem.W.kia_one (PySem.W.kitx_exc k0 T.ga T.gg T.exC k7 XF.gt XF.tk k10) I.kIn J hk (fun y => nomatch y) fun tk => ⟨.bl b, H, I.kept (t' := tk) fun _ _ y => y, rfl, q⟩

/-! ### expressions of a suite -/
mutual
def xev (M : Mo) (o : Option Nat) : Cz.E → Exn → Option D
  | .c d, _ => some d
  | .exf j f, x => if o = some j ∧ M.fld x.cls = f then some x.arg else none
  | .exis j c, x => if o = some j then some (.bl (M.sub x.cls c)) else none
  | .tup es, x => (xevs M o es x).map .tup
  | .ife (.exis j c) a b, x => if o = some j then (if M.sub x.cls c then xev M o a x else xev M o b x) else none
  | _, _ => none
def xevs (M : Mo) (o : Option Nat) : Es → Exn → Option (List D)
  | .nil, _ => some []
  | .cons e es, x => match xev M o e x, xevs M o es x with
    | some d, some ds => some (d :: ds)
    | _, _ => none
end
mutual
/-- the grammar -/
def okX (o : Option Nat) : Cz.E → Bool
  | .c _ => true
  | .exf j _ => o == some j
  | .exis j _ => o == some j
  | .tup es => okXs o es
  | .ife (.exis j _) a b => o == some j && okX o a && okX o b
  | _ => false
def okXs (o : Option Nat) : Es → Bool
  | .nil => true
  | .cons e es => okX o e && okXs o es
end
theorem ress_p (ρ : List Sl) : ∀ ds : List D, ress ρ (ds.map Val.p) = some ds
  | [] => rfl
  | d :: ds => by
    show ress ρ (Val.p d :: ds.map Val.p) = _
    unfold ress
    rw [ress_p ρ ds]
    rfl
theorem noB_p : ∀ ds : List D, noB (ds.map Val.p) = true
  | [] => rfl
  | d :: ds => by
    show noB (Val.p d :: ds.map Val.p) = _
    unfold noB
    rw [List.all_cons]
    exact noB_p ds
mutual
theorem xev_ok {M : Mo} {C : Nat → List Cz.Arg → Rc} {o : Option Nat} {x : Exn} {ρ : List Sl} (hs : ∀ i, o = some i → ρ[i]? = some (.exn x)) : ∀ (e : Cz.E), okX o e = true → evE M C e ρ = (match xev M o e x with | some d => .ok (.p d) ρ | none => .bad)
  | .c d, _ => by unfold evE xev; rfl
  | .exf j f, h => by
    have ej : o = some j := by unfold okX at h; exact eq_of_beq h
    unfold evE xev
    rw [hs j ej]
    by_cases hf : M.fld x.cls = f
    · rw [if_pos ⟨ej, hf⟩]; simp only; rw [if_pos hf]
    · rw [if_neg (fun z => hf z.2)]; simp only; rw [if_neg hf]
  | .exis j c, h => by
    have ej : o = some j := by unfold okX at h; exact eq_of_beq h
    unfold evE xev
    rw [hs j ej, if_pos ej]
  | .tup es, h => by
    unfold okX at h
    unfold evE xev
    rw [xevs_ok hs es h]
    cases xevs M o es x with
    | none => rfl
    | some ds =>
      simp only [Option.map_some]
      rw [ress_p, noB_p]
      rfl
  | .ife (.exis j c) a b, h => by
    unfold okX at h
    rw [Bool.and_eq_true, Bool.and_eq_true] at h
    have ej : o = some j := eq_of_beq h.1.1
    have e1 : evE M C (.exis j c) ρ = .ok (.p (.bl (M.sub x.cls c))) ρ := by
      unfold evE
      rw [hs j ej]
    rw [evE, e1, xev, if_pos ej]
    simp only [fz, res, Option.bind_some, truth]
    cases M.sub x.cls c with
    | true => rw [if_pos rfl]; exact xev_ok hs a h.1.2
    | false => rw [if_neg Bool.false_ne_true]; exact xev_ok hs b h.2
theorem xevs_ok {M : Mo} {C : Nat → List Cz.Arg → Rc} {o : Option Nat} {x : Exn} {ρ : List Sl} (hs : ∀ i, o = some i → ρ[i]? = some (.exn x)) : ∀ (es : Es), okXs o es = true → evEs M C es ρ = (match xevs M o es x with | some ds => .ok (ds.map Val.p) ρ | none => .bad)
  | .nil, _ => by unfold evEs xevs; rfl
  | .cons e es, h => by
    unfold okXs at h
    rw [Bool.and_eq_true] at h
    unfold evEs xevs
    rw [xev_ok hs e h.1]
    cases xev M o e x with
    | none => rfl
    | some d =>
      simp only
      rw [xevs_ok hs es h.2]
      cases xevs M o es x with
      | none => rfl
      | some ds => rfl
end
section
variable (G : Fx) (K : PySem.W.Frag) (w : World) (o : Option Nat) (a : Addr) (cls : Value) (d : Option Addr)
/-- what stands when a suite's expression is come to -/
def SuAt (F H : Hp) (σ : List (Option V)) (ρ : List Sl) (x : Exn) : Prop := (∃ B, Rep K w B F H σ ρ) ∧ XRep G.xa G.xf K w F H x cls d ∧ ∀ i, o = some i → ρ[i]? = some (.exn x) ∧ σ[i]? = some (some (V.ref a))
def tX (e : Cz.E) : TE := fun σ H Q => ∃ F ρ x dv, SuAt G K w o a cls d F H σ ρ x ∧ xev G.M o e x = some dv ∧ ∀ y F' H', Grow F H F' H' → DV K w F' y dv → Q y H'
def tXs (es : Es) : TA := fun σ H Q => ∃ F ρ x dvs, SuAt G K w o a cls d F H σ ρ x ∧ xevs G.M o es x = some dvs ∧ ∀ ys F' H', Grow F H F' H' → DVs K w F' ys dvs → Q ys H'
end
theorem XRep.grow {xa : Nat → Option Addr} {xf : Nat → Str} {K : PySem.W.Frag} {w : World} {F H F' H' : Hp} {x : Exn} {cls : Value} {d : Option Addr} (g : Grow F H F' H') (h : XRep xa xf K w F H x cls d) : XRep xa xf K w F' H' x cls d := by
  obtain ⟨C, dd, v, a, b, c, e, f⟩ := h
  exact ⟨C, dd, v, a, b, c, g.h _ _ e, f.mono g.f⟩
theorem SuAt.grow {G : Fx} {K : PySem.W.Frag} {w : World} {o : Option Nat} {a : Addr} {cls : Value} {d : Option Addr} {F H F' H' : Hp} {σ : List (Option V)} {ρ : List Sl} {x : Exn} (h : SuAt G K w o a cls d F H σ ρ x) (g : Grow F H F' H') : SuAt G K w o a cls d F' H' σ ρ x := by
  obtain ⟨⟨B, r⟩, b, c⟩ := h
  exact ⟨⟨B, r.grow g⟩, b.grow g, c⟩
theorem SuAt.ex {G : Fx} {K : PySem.W.Frag} {w : World} {o : Option Nat} {a : Addr} {cls : Value} {d : Option Addr} {F H : Hp} {σ : List (Option V)} {ρ : List Sl} {x : Exn} (h : SuAt G K w o a cls d F H σ ρ x) : Ex F H := by
  obtain ⟨⟨B, r⟩, _, _⟩ := h
  exact r.fh
section
variable {X : Cx} {G : Fx} {o : Option Nat} {a : Addr} {eo : Obj} {cls : Value} {d : Option Addr} {pn : List (Addr × Obj)}
theorem xE_c {Y : Cx} {dv : D} {v : V} {e : Expr} (h : PE Y e (tC v)) (hd : ∀ H, DV Y.K Y.w H v dv) : PE Y e (tX G Y.K Y.w o a cls d (.c dv)) := by
  refine h.imp fun σ H Q h => ?_
  obtain ⟨F, ρ, x, dv', su, hx, q⟩ := h
  unfold xev at hx
  cases hx
  exact q v F H (.refl su.ex) (hd F)
theorem xE_exf (XF : XFacts G X.K) (hz : Zc cls d eo) (hf : ∃ vs, eo.data = .fields vs) {j f : Nat} {n nm : Str} {px pos : Pos} (hN : X.N[j]? = some n) (hv : Vis X.env.scope n) (hd : (n == ("__debug__" : Str)) = false) (hcd : (n == ("__classdict__" : Str)) = false)
    (hnm : ∀ c C, G.xa c = some C → G.M.fld c = f → G.xf c = nm) : PE (X.suite a ((a, eo) :: pn)) (.Attribute (.Name n px) nm pos) (tX G X.K X.w o a cls d (.exf j f)) := by
  refine ⟨fun pins z σ H Q I h => ?_⟩
  obtain ⟨F, ρ, x, dv', su, hx, q⟩ := h
  unfold xev at hx
  split at hx
  · rename_i hjf
    obtain ⟨ej, hjf⟩ := hjf
    cases hx
    obtain ⟨_, ⟨C, dd, v, xa, ec, ed, hdd, dv⟩, sl⟩ := id su
    obtain ⟨s1, s2⟩ := sl j ej
    obtain ⟨T, _, _, _, hno⟩ := XF.cls _ _ xa
    have en := hnm _ _ xa hjf
    subst en
    exact (pe_xf (te := fun σ H Q => ∃ v, σ[j]? = some (some v) ∧ Q v H) T hno hz hf (pe_var (X := X.suite a ((a, eo) :: pn)) hN hv hd hcd) rfl).run pins z σ H Q I ⟨_, s2, rfl, ec, dd, _, v, ed, hdd, by simp, q v F H (.refl su.ex) dv⟩
  · cases hx
theorem xE_exis (XF : XFacts G X.K) (hz : Zc cls d eo) (hf : ∃ vs, eo.data = .fields vs) {j c : Nat} {n cn : Str} {C : Addr} {px pc p pos : Pos} (hN : X.N[j]? = some n) (hv : Vis X.env.scope n) (hd : (n == ("__debug__" : Str)) = false) (hcd : (n == ("__classdict__" : Str)) = false)
    (hC : G.xa c = some C) (hcl : PE (X.suite a ((a, eo) :: pn)) (.Name cn pc) (tC (.ref C))) (hg : Gl X "isinstance") (hm : X.mg "isinstance" = none) : PE (X.suite a ((a, eo) :: pn)) (.Call (.Name "isinstance" p) [.Name n px, .Name cn pc] [] pos) (tX G X.K X.w o a cls d (.exis j c)) := by
  refine ⟨fun pins z σ H Q I h => ?_⟩
  obtain ⟨F, ρ, x, dv', su, hx, q⟩ := h
  unfold xev at hx
  split at hx
  · rename_i ej
    cases hx
    obtain ⟨_, ⟨C1, dd, v, xa, ec, ed, hdd, dv⟩, sl⟩ := id su
    obtain ⟨s1, s2⟩ := sl j ej
    subst ec
    have ha := pa_cons (pe_var (X := X.suite a ((a, eo) :: pn)) (pos := px) hN hv hd hcd) (pa_cons hcl pa_nil)
    obtain ⟨sb1, sb2⟩ := XF.sub _ _ _ _ xa hC
    exact (pe_callB (call_isD (X := X) (pn := pn) XF xa hz hf) hg hm rfl ha).run pins z σ H Q I ⟨_, s2, V.ref C, _, _, rfl, fun u r => (show u = Value.ref C from r), ⟨dd, _, ed, hdd⟩, sb2, q _ F H (.refl su.ex) (.bl _)⟩
  · cases hx
theorem xE_ife {e1 e2 t : Cz.E} {j c : Nat} {et ea eb : Expr} {pos : Pos} {Y : Cx} (ht : t = .exis j c) (hp : ∀ whole, isTrue et Y.env whole = (do let v ← whole; standAt et.pos; holding [v] (truthy v))) (h1 : PE Y et (tX G Y.K Y.w o a cls d t)) (h2 : PE Y ea (tX G Y.K Y.w o a cls d e1)) (h3 : PE Y eb (tX G Y.K Y.w o a cls d e2)) :
    PE Y (.IfExp et ea eb pos) (tX G Y.K Y.w o a cls d (.ife t e1 e2)) := by
  subst ht
  refine (pe_ifExp (pt_truth h1 hp) h2 h3).imp fun σ H Q h => ?_
  obtain ⟨F, ρ, x, dv, su, hx, q⟩ := h
  unfold xev at hx
  split at hx
  · rename_i ej
    refine ⟨F, ρ, x, .bl (G.M.sub x.cls c), su, by unfold xev; rw [if_pos ej], fun y F' H' g dvy => ?_⟩
    cases dvy
    refine ⟨G.M.sub x.cls c, rfl, ?_⟩
    cases hs : G.M.sub x.cls c with
    | true =>
      rw [hs] at hx
      rw [if_pos rfl]
      exact ⟨F', ρ, x, dv, su.grow g, hx, fun y F2 H2 g2 => q y F2 H2 (g.trans g2)⟩
    | false =>
      rw [hs] at hx
      rw [if_neg Bool.false_ne_true]
      exact ⟨F', ρ, x, dv, su.grow g, hx, fun y F2 H2 g2 => q y F2 H2 (g.trans g2)⟩
  · cases hx
theorem xA_nil {Y : Cx} : PA Y [] (tXs G Y.K Y.w o a cls d .nil) := by
  refine pa_nil.imp fun σ H Q h => ?_
  obtain ⟨F, ρ, x, dvs, su, hx, q⟩ := h
  unfold xevs at hx
  cases hx
  exact q [] F H (.refl su.ex) .nil
theorem xA_cons {Y : Cx} {e : Cz.E} {es : Es} {ea : Expr} {eas : List Expr} (he : PE Y ea (tX G Y.K Y.w o a cls d e)) (hs : PA Y eas (tXs G Y.K Y.w o a cls d es)) (hst : starEach (ea :: eas) Y.env = (false, eval ea Y.env) :: starEach eas Y.env) : PA Y (ea :: eas) (tXs G Y.K Y.w o a cls d (.cons e es)) := by
  refine (pa_cons he hs hst).imp fun σ H Q h => ?_
  obtain ⟨F, ρ, x, dvs, su, hx, q⟩ := h
  unfold xevs at hx
  cases h1 : xev G.M o e x with
  | none => rw [h1] at hx; cases hx
  | some d1 =>
    cases h2 : xevs G.M o es x with
    | none => rw [h1, h2] at hx; cases hx
    | some ds =>
      rw [h1, h2] at hx
      cases hx
      exact ⟨F, ρ, x, d1, su, h1, fun y F' H' g dv => ⟨F', ρ, x, ds, su.grow g, h2, fun ys F2 H2 g2 dvs => q (y :: ys) F2 H2 (g.trans g2) (.cons (dv.mono g2.f) dvs)⟩⟩
theorem xevs_len {M : Mo} {x : Exn} : ∀ {es : Es} {ds : List D}, xevs M o es x = some ds → ds.length = esLen es
  | .nil, ds, h => by unfold xevs at h; cases h; rfl
  | .cons e es, ds, h => by
    unfold xevs at h
    split at h
    · rename_i d ds h1 h2
      cases h
      show ds.length + 1 = esLen es + 1
      rw [xevs_len h2]
    · cases h
theorem xE_tup {Y : Cx} {es : Es} {eas : List Expr} {k : Nat} {pos : Pos} (hl : esLen es ≤ Lim) (hs : PA Y eas (tXs G Y.K Y.w o a cls d es)) : PE Y (.Tuple eas k pos) (tX G Y.K Y.w o a cls d (.tup es)) := by
  refine (pe_tup hs).imp fun σ H Q h => ?_
  obtain ⟨F, ρ, x, dv, su, hx, q⟩ := h
  unfold xev at hx
  obtain ⟨ds, h1, h2⟩ := Option.map_eq_some_iff.mp hx
  subst h2
  refine ⟨F, ρ, x, ds, su, h1, fun ys F' H' g dvs => ?_⟩
  have l : ds.length ≤ Lim := by rw [xevs_len h1]; exact hl
  refine ⟨lim_size (by rw [dvs.length]; exact l), fun p hp => ?_⟩
  have g2 := Grow.data (o := .tup ys) g.fh hp
  exact q _ _ _ (g.trans g2) (.tup (SqT.of upd_same) (dvs.mono g2.f) l)
/-- a suite -/
def tSu (G : Fx) (K : PySem.W.Frag) (w : World) (o : Option Nat) (ss : Ss) (a : Addr) (cls : Value) (d : Option Addr) : TS := fun D σ H => ∃ B F ρ x, Rep K w B F H σ ρ ∧ XRep G.xa G.xf K w F H x cls d ∧ (∀ i, o = some i → ρ[i]? = some (.exn x) ∧ σ[i]? = some (some (V.ref a))) ∧ RsOk K w B W0 F D (evSs G.M G.C ss ρ)
theorem evS_ret {M : Mo} {C : Nat → List Cz.Arg → Rc} {e : Cz.E} {ρ : List Sl} (ne : ∀ i, e ≠ .var i) : evS M C (.ret e) ρ = (match evE M C e ρ with
      | .ok (.b _) _ => Rs.bad
      | .ok v ρ1 => .rt v ρ1
      | .ex x ρ1 => .ex x ρ1
      | .bad => .bad) := by
  cases e with
  | var i => exact absurd rfl (ne i)
  | _ => unfold evS; rfl
theorem su_ret {Y : Cx} {e : Cz.E} {ea : Expr} {pos : Pos} (hk : okX o e = true) (he : PE Y ea (tX G Y.K Y.w o a cls d e)) : PSs Y [.Return (some ea) pos] (tSu G Y.K Y.w o (.cons (.ret e) .nil) a cls d) := by
  refine (pss_one (ps_ret he)).imp fun D σ H h => ?_
  obtain ⟨B, F, ρ, x, r, xr, sl, h⟩ := h
  have ne : ∀ i, e ≠ .var i := fun i z => by subst z; unfold okX at hk; cases hk
  have h : RsOk Y.K Y.w B W0 F D (match evE G.M G.C e ρ with
      | .ok (.b _) _ => .bad
      | .ok v ρ1 => .rt v ρ1
      | .ex x ρ1 => .ex x ρ1
      | .bad => .bad) := by
    unfold evSs at h
    rw [evS_ret ne] at h
    cases h5 : evE G.M G.C e ρ with
    | ok v ρ1 => cases v <;> (rw [h5] at h; exact h)
    | ex x ρ1 => rw [h5] at h; exact h
    | bad => rw [h5] at h; exact h
  rw [xev_ok (fun i hi => (sl i hi).1) e hk] at h
  cases h1 : xev G.M o e x with
  | none => rw [h1] at h; exact h.elim
  | some dv =>
    rw [h1] at h
    exact ⟨F, ρ, x, dv, ⟨⟨B, r⟩, xr, sl⟩, h1, fun y F' H' g dvy => h F' H' σ y g.f (r.grow g) dvy⟩
end
end Cs
end
section
set_option Elab.async false
set_option linter.all false
set_option maxRecDepth 100000
set_option maxHeartbeats 4000000
/-! SOUND 20: try. -/
namespace Cs
open PySem L2 Cz PyProof.Rows
section
variable {K : PySem.W.Frag} {w : World} {B : Bas} {F H F' H' : Hp} {σ σ' : List (Option V)} {ρ ρ' : List Sl}
/-- the entry, with what is data by now -/
def Bf (B : Bas) (F : Hp) : Bas := ⟨F, B.H0, B.L⟩
theorem Rep.rebase (r : Rep K w B F H σ ρ) : Rep K w (Bf B F) F H σ ρ := ⟨.refl F, r.fh, r.len, r.dat, r.own, r.apart, r.lent, r.frame, fun _ _ h => h⟩
theorem Rep.unbase (r0 : Rep K w B F H σ ρ) (r : Rep K w (Bf B F) F' H' σ' ρ') : Rep K w B F' H' σ' ρ' :=
  ⟨r0.fe.trans r.fe, r.fh, r.len, r.dat, r.own, r.apart, r.lent, r.frame, fun a h1 h2 => r.mask a h1 (r0.mask a h1 h2)⟩
end
/-- the clauses as the walk wants them -/
inductive ClOf (G : Fx) (K : PySem.W.Frag) (w : World) : Hs → List Cl → Prop
  | nil : ClOf G K w .nil []
  | cons {c : Nat} {C : Addr} {o : Option Nat} {ss : Ss} {hs : Hs} {l : List Cl} : G.xa c = some C → ClOf G K w hs l → ClOf G K w (.cons c o ss hs) (⟨.ref C, o, tSu G K w o ss⟩ :: l)
section
variable {X : Cx} {G : Fx} {B : Bas} {W : Wi}
theorem clauses_ok (XF : XFacts G X.K) {F : Hp} {D : Ends} {hs : Hs} {l : List Cl} (cl : ClOf G X.K X.w hs l) : ∀ {F1 H1 : Hp} {σ1 : List (Option V)} {ρ1 : List Sl} {x : Exn} {cls : Value} {d : Option Addr}, Ex F F1 → Rep X.K X.w B F1 H1 σ1 ρ1 → XRep G.xa G.xf X.K X.w F1 H1 x cls d → RsOk X.K X.w B W F D (evHs G.M G.C hs x ρ1) →
    clWish X.K (WD G X.K X.w B W) D l cls d σ1 H1 := by
  induction cl with
  | nil =>
    intro F1 H1 σ1 ρ1 x cls d e r xr h
    unfold evHs at h
    exact ⟨F1, x, ρ1, r, xr, h⟩
  | @cons c C o ss hs l hC rest ih =>
    intro F1 H1 σ1 ρ1 x cls d e r xr h
    obtain ⟨C1, dd, v, xa, ec, ed, hdd, dv⟩ := id xr
    obtain ⟨sb1, sb2⟩ := XF.sub _ _ _ _ xa hC
    subst ec
    refine ⟨G.M.sub x.cls c, sb1, fun yes a na => ?_, fun nay => ?_⟩
    · unfold evHs at h
      rw [if_pos yes] at h
      cases o with
      | none =>
        simp only at h
        refine ⟨B, F1, ρ1, x, r, xr, fun i z => (by cases z), ?_⟩
        cases h1 : evSs G.M G.C ss ρ1 with
        | nx ρ2 => rw [h1] at h; exact fun F' H' σ' e' r' => h F' H' σ' (e.trans e') r'
        | rt v ρ2 => rw [h1] at h; exact fun F' H' σ' u e' r' => h F' H' σ' u (e.trans e') r'
        | ct ρ2 => rw [h1] at h; exact h.elim
        | bk ρ2 => rw [h1] at h; exact h.elim
        | ex y ρ2 => rw [h1] at h; exact h.elim
        | bad => rw [h1] at h; exact h.elim
      | some i =>
        simp only at h
        by_cases fr : free ρ1 i = true
        · rw [if_pos fr] at h
          have hlt : i < ρ1.length := by
            unfold free at fr
            split at fr
            · cases fr
            · rename_i y; exact (List.getElem?_eq_some_iff.mp y).1
            · cases fr
          refine ⟨B, F1, ρ1.set i (.exn x), x, r.store (z := .exn x) fr trivial, xr, fun j z => ?_, ?_⟩
          · cases z
            exact ⟨List.getElem?_set_self hlt, List.getElem?_set_self (by rw [r.len]; exact hlt)⟩
          · cases h1 : evSs G.M G.C ss (ρ1.set i (.exn x)) with
            | nx ρ2 =>
              rw [h1] at h
              simp only at h
              by_cases fr2 : free ρ2 i = true
              · rw [if_pos fr2] at h
                exact fun F' H' σ' e' r' => h F' H' _ (e.trans e') (r'.store (z := .no) (y := none) fr2 trivial)
              · rw [if_neg fr2] at h; exact h.elim
            | rt v ρ2 => rw [h1] at h; exact fun F' H' σ' u e' r' => h F' H' σ' u (e.trans e') r'
            | ct ρ2 => rw [h1] at h; exact h.elim
            | bk ρ2 => rw [h1] at h; exact h.elim
            | ex y ρ2 => rw [h1] at h; exact h.elim
            | bad => rw [h1] at h; exact h.elim
        · rw [if_neg fr] at h; exact h.elim
    · unfold evHs at h
      rw [if_neg (by rw [nay]; exact Bool.false_ne_true)] at h
      exact ih e r xr h
theorem sS_try (XF : XFacts G X.K) (hN : X.N.Nodup) (stk : X.stack = X.env :: X.outer) (frm : X.env.frame = some X.env.locals) (tk : Takes X (WD G X.K X.w B W)) {body : Ss} {hs : Hs} {sts : List Stmt} {c0 : ExceptHandler} {cs : List ExceptHandler} {l : List Cl} {pos : Pos}
    (hb : ∀ (B : Bas) (W : Wi) (pn : List (Addr × Obj)) (xe : Value → Shared → Prop), Takes (X.tr pn xe) (WD G X.K X.w B W) → PassesOwn (model X.prog X.w) X.A X.env xe → PSs (X.tr pn xe) sts (tR X.K X.w B W (evSs G.M G.C body)))
    (cl : ClOf G X.K X.w hs l) (hh : Cls X (c0 :: cs) l) : PS X (.Try sts (c0 :: cs) [] [] pos) (tR X.K X.w B W (evS G.M G.C (.try_ body hs))) := by
  refine (ps_clauses (tb := fun W1 D σ H => ∃ B W, (∀ cls d σ' H', WD G X.K X.w B W cls d σ' H' → W1 cls d σ' H') ∧ tR X.K X.w B W (evSs G.M G.C body) D σ H) hN stk frm tk (fun W1 pn xe tk1 po => ⟨fun pins s σ H D I ⟨B, W, i, q⟩ => ?_⟩) hh).imp (tR_imp fun D σ H F ρ r h => ?_)
  · exact (hb B W pn xe (fun u s' ⟨a, b1, sI, pins, σ, H, cls, d, e, I, nb, up, sky, na, os, ag, w⟩ => tk1 u s' ⟨a, b1, sI, pins, σ, H, cls, d, e, I, nb, up, sky, na, os, ag, i _ _ _ _ w⟩) po).run pins s σ H D I q
  · rw [evS] at h
    refine ⟨Bf B F, fun x ρ1 => RsOk X.K X.w B W F D (evHs G.M G.C hs x ρ1), fun cls d σ' H' ⟨F1, x, ρ1, r1, xr, hw⟩ => clauses_ok XF cl r1.fe (r.unbase r1) xr hw, F, ρ, r.rebase, ?_⟩
    cases h1 : evSs G.M G.C body ρ with
    | nx ρ2 => rw [h1] at h; exact fun F' H' σ' e' r' => h F' H' σ' e' (r.unbase r')
    | ct ρ2 => rw [h1] at h; exact fun F' H' σ' e' r' => h F' H' σ' e' (r.unbase r')
    | bk ρ2 => rw [h1] at h; exact fun F' H' σ' e' r' => h F' H' σ' e' (r.unbase r')
    | rt v ρ2 =>
      rw [h1] at h
      intro F' H' σ' u e' r' ev
      refine h F' H' σ' u e' (r.unbase r') ?_
      cases v with
      | p _ => exact ev
      | f _ => exact ev
      | b _ => exact ev
    | ex x ρ2 => rw [h1] at h; exact h
    | bad => rw [h1] at h; exact h
end
end Cs
end
section
set_option Elab.async false
set_option linter.all false
set_option maxRecDepth 100000
set_option maxHeartbeats 4000000
/-! SOUND 21: constants, built-in functions, dict displays. -/
namespace Cs
open PySem L2 Cz PyProof.Rows
/-- a written constant -/
def cstV : Const → Option (V × D)
  | .none => some (.non, .non)
  | .bool b => some (.bl b, .bl b)
  | .int i => some (.int i, .int i)
  | .str x => if sOk x.cps.toList then some (.str x, .str x.cps.toList) else none
  | _ => none
theorem st_back (x : Str) : st x.cps.toList = x := by cases x; simp [st]
theorem cst_dv {K : PySem.W.Frag} {w : World} {k : Const} {v : V} {d : D} (h : cstV k = some (v, d)) (H : Hp) : DV K w H v d := by
  cases k with
  | none => cases h; exact .non
  | bool b => cases h; exact .bl b
  | int i => cases h; exact .int i
  | str x =>
    have h : (if sOk x.cps.toList = true then some (V.str x, D.str x.cps.toList) else none) = some (v, d) := h
    split at h
    · rename_i ok
      cases h
      have := DV.str (K := K) (w := w) (H := H) x.cps.toList ok
      rw [st_back] at this
      exact this
    · cases h
  | float _ => cases h
  | complex _ _ => cases h
  | bytes _ => cases h
  | ellipsis => cases h
theorem cst_pe {X : Cx} {k : Const} {v : V} {d : D} {j : Nat} {pos : Pos} (h : cstV k = some (v, d)) : PE X (.Constant k j pos) (tC v) := by
  cases k with
  | none => cases h; exact pe_non
  | bool b => cases h; exact pe_bl
  | int i => cases h; exact pe_int
  | str x =>
    have h : (if sOk x.cps.toList = true then some (V.str x, D.str x.cps.toList) else none) = some (v, d) := h
    split at h
    · cases h; exact pe_str
    · cases h
  | float _ => cases h
  | complex _ _ => cases h
  | bytes _ => cases h
  | ellipsis => cases h
section
variable {X : Cx} {G : Fx} {B : Bas} {W : Wi}
/-- b(e, ..), b a built-in function or type -/
theorem sE_bi (hc : X.calm = true) {b : Bi} {e : Cz.E} {es : Es} {x : Str} {ea : Expr} {eas : List Expr} {p pos : Pos} (hg : Gl X x) (hm : X.mg x = none) (hv : bootBuiltins x = some (biOf b)) (hn : x ≠ "__name__") (hdb : (x == ("__debug__" : Str)) = false)
    (he : starEach (ea :: eas) X.env = (false, eval ea X.env) :: starEach eas X.env) (hpl : (backTo pos (starEach eas X.env)).any (·.1) = false) (ha : PA X (ea :: eas) (tEs G X.K X.w B W (.cons e es))) :
    PE X (.Call (.Name x p) (ea :: eas) [] pos) (tE G X.K X.w B W (.bi b (.cons e es))) := by
  have cr := call_bi (X := X) hc b
  cases b with
  | int => exact (pe_callTy cr hg hm hv ha hn hdb he hpl).imp fun σ H Q h => sBi h
  | tuple => exact (pe_callTy cr hg hm hv ha hn hdb he hpl).imp fun σ H Q h => sBi h
  | list => exact (pe_callTy cr hg hm hv ha hn hdb he hpl).imp fun σ H Q h => sBi h
  | set_ => exact (pe_callTy cr hg hm hv ha hn hdb he hpl).imp fun σ H Q h => sBi h
  | len => exact (pe_callB cr hg hm hv ha hn hdb he hpl).imp fun σ H Q h => sBi h
  | abs => exact (pe_callB cr hg hm hv ha hn hdb he hpl).imp fun σ H Q h => sBi h
  | all => exact (pe_callB cr hg hm hv ha hn hdb he hpl).imp fun σ H Q h => sBi h
  | any => exact (pe_callB cr hg hm hv ha hn hdb he hpl).imp fun σ H Q h => sBi h
  | max2 => exact (pe_callB cr hg hm hv ha hn hdb he hpl).imp fun σ H Q h => sBi h
  | min2 => exact (pe_callB cr hg hm hv ha hn hdb he hpl).imp fun σ H Q h => sBi h
  | sorted => exact (pe_callB cr hg hm hv ha hn hdb he hpl).imp fun σ H Q h => sBi h
  | sum => exact (pe_callB cr hg hm hv ha hn hdb he hpl).imp fun σ H Q h => sBi h
/-- isinstance(a, T) -/
theorem sE_is1 {a : Cz.E} {t : Cz.Ty} {ea et : Expr} {p pos : Pos} (hg : Gl X "isinstance") (hm : X.mg "isinstance" = none) (he : starEach [ea, et] X.env = (false, eval ea X.env) :: starEach [et] X.env) (he2 : starEach [et] X.env = [(false, eval et X.env)])
    (ha : PE X ea (tE G X.K X.w B W a)) (ht : PE X et (tC (.ty (tyOf t)))) : PE X (.Call (.Name "isinstance" p) [ea, et] [] pos) (tE G X.K X.w B W (.isi a [t])) := by
  refine (pe_callB (call_is1 t) hg hm rfl (pa_cons ha (pa_cons ht pa_nil (by rw [he2]; rfl)) he) (by decide) (by decide) he (by rw [he2]; rfl)).imp fun σ H Q h => ?_
  obtain ⟨F, ρ, r, h⟩ := sIs h
  refine ⟨F, ρ, r, ?_⟩
  cases h1 : evE G.M G.C a ρ with
  | ok v ρ1 =>
    rw [h1] at h
    intro x F1 H1 e1 r1 ev
    obtain ⟨F2, d, e2, op, q⟩ := h x F1 H1 e1 r1 ev
    exact ⟨F2, x, d, e2, rfl, op, by have := q F2 H1 (.refl e2); rwa [List.any_cons, List.any_nil, Bool.or_false] at this⟩
  | ex x ρ1 => rw [h1] at h; exact h
  | bad => rw [h1] at h; exact h
/-- names of built-in types in a row -/
inductive TyNs (X : Cx) : List Expr → List Cz.Ty → Prop
  | nil : TyNs X [] []
  | cons {e : Expr} {es : List Expr} {t : Cz.Ty} {ts : List Cz.Ty} : PE X e (tC (.ty (tyOf t))) → starEach (e :: es) X.env = (false, eval e X.env) :: starEach es X.env → TyNs X es ts → TyNs X (e :: es) (t :: ts)
theorem TyNs.pa : ∀ {es : List Expr} {ts : List Cz.Ty}, TyNs X es ts → PA X es (fun σ H Q => Q (ts.map fun t => V.ty (tyOf t)) H)
  | _, _, .nil => pa_nil.imp fun σ H Q h => h
  | _, _, .cons a b c => (pa_cons a (TyNs.pa c) b).imp fun σ H Q h => h
theorem TyNs.len : ∀ {es : List Expr} {ts : List Cz.Ty}, TyNs X es ts → es.length = ts.length
  | _, _, .nil => rfl
  | _, _, .cons _ _ c => by rw [List.length_cons, List.length_cons, TyNs.len c]
theorem sE_isT {a : Cz.E} {ts : List Cz.Ty} {ea : Expr} {ets : List Expr} {k : Nat} {p tp pos : Pos} (hl : ts.length ≤ 10) (hg : Gl X "isinstance") (hm : X.mg "isinstance" = none) (he : starEach [ea, .Tuple ets k tp] X.env = (false, eval ea X.env) :: starEach [.Tuple ets k tp] X.env)
    (ha : PE X ea (tE G X.K X.w B W a)) (ht : TyNs X ets ts) : PE X (.Call (.Name "isinstance" p) [ea, .Tuple ets k tp] [] pos) (tE G X.K X.w B W (.isi a ts)) := by
  refine (pe_callB (call_isT ts) hg hm rfl (pa_cons ha (pa_cons (pe_tup ht.pa) pa_nil rfl) he) (by decide) (by decide) he rfl).imp fun σ H Q h => ?_
  obtain ⟨F, ρ, r, h⟩ := sIs h
  refine ⟨F, ρ, r, ?_⟩
  cases h1 : evE G.M G.C a ρ with
  | ok v ρ1 =>
    rw [h1] at h
    intro x F1 H1 e1 r1 ev
    obtain ⟨F2, d, e2, op, q⟩ := h x F1 H1 e1 r1 ev
    refine ⟨by rw [List.length_map, sizeLine_eq]; omega, fun T hT => ?_⟩
    have g := Grow.data (o := .tup (ts.map fun t => V.ty (tyOf t))) e2 hT
    exact ⟨_, x, d, T, g.fh, rfl, op.grow g, upd_same, q _ _ g⟩
  | ex x ρ1 => rw [h1] at h; exact h
  | bad => rw [h1] at h; exact h
/-- text.count(text) -/
theorem sE_cnt {a e : Cz.E} {oe ea : Expr} {apos cpos : Pos} (ho : PE X oe (tE G X.K X.w B W a)) (he : PE X ea (tE G X.K X.w B W e)) (hbase : attributeBase oe "count" X.env (eval oe X.env) = eval oe X.env) (hst : starEach [ea] X.env = [(false, eval ea X.env)]) (hline : (apos.endLine == cpos.line) = true) :
    PE X (.Call (.Attribute oe "count" apos) [ea] [] cpos) (tE G X.K X.w B W (.me .count a (.cons e .nil))) :=
  (pe_bm PySem.F.plainAttrs_str PySem.F.slot_str_count PySem.F.type_str_count mt_cnt ho (sA_cons he sA_nil hst) hbase (by rw [hst]; rfl) hline hst rfl).imp fun σ H Q h => sMe h
/-! ### dict displays of constants -/
inductive DcE (X : Cx) : List (List Nat) → List D → List (Option Expr) → List Expr → List V → Prop
  | nil : DcE X [] [] [] [] []
  | cons {k : List Nat} {ks : List (List Nat)} {d : D} {ds : List D} {ek ev : Expr} {eks : List (Option Expr)} {evs : List Expr} {v : V} {vs : List V} : PE X ek (tC (.str (st k))) → PE X ev (tC v) → (∀ H, DV X.K X.w H v d) → DcE X ks ds eks evs vs → DcE X (k :: ks) (d :: ds) (some ek :: eks) (ev :: evs) (v :: vs)
def dcTrs : List (List Nat) → List V → List (TE × TE)
  | k :: ks, v :: vs => (tC (.str (st k)), tC v) :: dcTrs ks vs
  | _, _ => []
theorem DcE.pps {pos : Pos} : ∀ {ks : List (List Nat)} {ds : List D} {eks : List (Option Expr)} {evs : List Expr} {vs : List V}, DcE X ks ds eks evs vs → PPs X pos eks evs (dcTrs ks vs)
  | _, _, _, _, _, .nil => pps_nil
  | _, _, _, _, _, .cons a b _ r => pps_cons a b (DcE.pps r)
theorem DcE.info : ∀ {ks : List (List Nat)} {ds : List D} {eks : List (Option Expr)} {evs : List Expr} {vs : List V}, DcE X ks ds eks evs vs → eks.all (·.isSome) = true ∧ eks.length = evs.length ∧ eks.length = ks.length ∧ ks.length = vs.length ∧ ∀ H, DVs X.K X.w H vs ds
  | _, _, _, _, _, .nil => ⟨rfl, rfl, rfl, rfl, fun _ => .nil⟩
  | _, _, _, _, _, .cons a b c r => by
    obtain ⟨h1, h2, h3, h4, h5⟩ := DcE.info r
    exact ⟨by rw [List.all_cons, h1]; rfl, by rw [List.length_cons, List.length_cons, h2], by rw [List.length_cons, List.length_cons, h3], by rw [List.length_cons, List.length_cons, h4], fun H => .cons (c H) (h5 H)⟩
abbrev dcKv (ks : List (List Nat)) (vs : List V) : List (Key × V) := (ks.map fun k => (Sum.inr (st k) : Key)).zip vs
theorem dc_pairs {σ : List (Option V)} {H : Hp} : ∀ {ks : List (List Nat)} {vs : List V} {Q : List (V × V) → Hp → Prop}, ks.length = vs.length → Q ((dcKv ks vs).map fun kv => (kV kv.1, kv.2)) H → tPairs (dcTrs ks vs) σ H Q
  | [], [], Q, _, h => h
  | k :: ks, v :: vs, Q, hl, h => dc_pairs (ks := ks) (vs := vs) (by simpa using hl) h
  | [], _ :: _, _, hl, _ => by simp at hl
  | _ :: _, [], _, hl, _ => by simp at hl
theorem merge_new : ∀ {more acc : List (Key × V)}, (∀ k ∈ more.map (·.1), k ∉ acc.map (·.1)) → (more.map (·.1)).Nodup → mergeK acc more = acc ++ more
  | [], acc, _, _ => by show acc = _; rw [List.append_nil]
  | p :: r, acc, h, n => by
    rw [List.map_cons, List.nodup_cons] at n
    have e : putK acc p.1 p.2 = acc ++ [p] := by
      unfold putK
      rw [if_neg]
      intro z
      rw [List.any_eq_true] at z
      obtain ⟨q, hq, e⟩ := z
      exact h p.1 (by simp) (List.mem_map.mpr ⟨q, hq, of_decide_eq_true e⟩)
    show mergeK (putK acc p.1 p.2) r = _
    rw [e, merge_new (fun k hk => ?_) n.2, List.append_assoc]
    · rfl
    · rw [List.map_append, List.mem_append]
      rintro (z | z)
      · exact h k (by rw [List.map_cons]; exact List.mem_cons_of_mem _ hk) z
      · have : k = p.1 := by simpa using z
        subst this
        exact n.1 hk
theorem st_inj {a b : List Nat} (h : st a = st b) : a = b := by
  have := congrArg (fun x : Str => x.cps.toList) h
  simpa using this
theorem sE_dcc {ks : List (List Nat)} {ds : List D} {eks : List (Option Expr)} {evs : List Expr} {vs : List V} {pos : Pos} (h : DcE X ks ds eks evs vs) (hn : ks.Nodup) (h0 : ks ≠ []) (h15 : ks.length ≤ 15) : PE X (.Dict eks evs pos) (tE G X.K X.w B W (.dcc ks ds)) := by
  obtain ⟨i1, i2, i3, i4, i5⟩ := h.info
  refine (pe_disp h.pps i1 i2 (fun z => h0 (by rw [z] at i3; exact List.length_eq_zero_iff.mp i3.symm)) (by rw [i3]; exact h15)).imp fun σ H Q hh => ?_
  obtain ⟨F, ρ, r, hh⟩ := hh
  unfold evE at hh
  intro p hp
  have e1 : ((dcKv ks vs).map (·.1)) = ks.map fun k => (Sum.inr (st k) : Key) := by
    show ((ks.map fun k => (Sum.inr (st k) : Key)).zip vs).map Prod.fst = _
    rw [List.map_fst_zip]
    rw [List.length_map]; omega
  have g0 := Grow.own (o := .dK []) r.fh hp
  refine dc_pairs i4 ⟨upd_same, dcKv ks vs, rfl, by show ((ks.map _).zip vs).length ≤ 15; rw [List.length_zip, List.length_map]; omega, ?_⟩
  have nd : ((dcKv ks vs).map (·.1)).Nodup := by
    rw [e1]
    exact List.Pairwise.map _ (fun a b ne z => ne (st_inj (Sum.inr.inj z))) hn
  rw [merge_new (fun _ _ z => by simp at z) nd, List.nil_append]
  -- the new dict is data
  have ea : upd (upd H p (.dK [])) p (.dK (dcKv ks vs)) = upd H p (.dK (dcKv ks vs)) := by
    funext a
    by_cases z : a = p
    · subst z; rw [upd_same, upd_same]
    · rw [upd_ne z, upd_ne z, upd_ne z]
  rw [ea]
  have g := Grow.data (o := .dK (dcKv ks vs)) r.fh hp
  exact hh _ _ _ g.f (r.grow g) (.dct (.inl ⟨i4, upd_same⟩) (i5 _))
end
end Cs
end
section
set_option Elab.async false
set_option linter.all false
set_option maxRecDepth 100000
set_option maxHeartbeats 8000000
/-! SOUND 22: the checker of expressions. -/
namespace Cs
open PySem L2 Cz PyProof.Rows
/-- what the module's names stand for -/
structure Tab where
  defs : List (Str × Nat × Nat)
  cons : List (Str × Nat)
  cls : List (Str × Nat)
  fld : List (Str × Nat)
  mks : List (Str × Nat)
/-- where one stands -/
structure Cn where
  T : Tab
  N : List Str
  sc : Scope
  raw : Scope
def visB (sc : Scope) (x : Str) : Bool := match sc.names.lookup x with
  | some .local => true | some .cell => true | some .free => true | _ => false
def locB (c : Cn) (x : Str) : Bool := match c.sc.names.lookup x with
  | some .local => true | some .cell => decide (c.raw.names.lookup x = some .cell) | _ => false
def nmB (c : Cn) (i : Nat) (x : Str) : Bool := decide (c.N[i]? = some x) && visB c.sc x && !(x == ("__debug__" : Str)) && !(x == ("__classdict__" : Str))
def glB (sc : Scope) (x : Str) : Bool := decide (sc.names.lookup x = some .globalImplicit) && !(x == ("__debug__" : Str))
def nsB : Expr → Bool
  | .Starred _ _ => false
  | _ => true
def notSet : Expr → Bool
  | .Set _ _ _ => false
  | _ => true
/-- the target of a store or a loop -/
def nmsB (c : Cn) : List Nat → List Expr → Bool
  | [], [] => true
  | i :: t, a :: es => (match a with | .Name x _ => decide (c.N[i]? = some x) && locB c x | _ => false) && nmsB c t es
  | _, _ => false
def tgB (c : Cn) (t : List Nat) (a : Expr) : Bool := match a with
  | .Name x _ => nmsB c t [.Name x ⟨0, 0, 0, 0⟩]
  | .Tuple es _ _ => decide (2 ≤ t.length) && nmsB c t es
  | _ => false
def biNm : Bi → Str
  | .len => "len" | .int => "int" | .abs => "abs" | .tuple => "tuple" | .list => "list" | .all => "all" | .any => "any" | .max2 => "max" | .min2 => "min" | .sorted => "sorted" | .sum => "sum" | .set_ => "set"
def tyNm (t : Cz.Ty) : Str := Str.ofString (tyOf t)
/-- a constant as data -/
def cB (d : D) (k : Const) : Bool := match d, k with
  | .non, .none => true
  | .bl a, .bool b => a == b
  | .int a, .int b => decide (a = b)
  | .str s, .str x => decide (x.cps.toList = s) && sOk s
  | _, _ => false
def tysB (c : Cn) : List Cz.Ty → List Expr → Bool
  | [], [] => true
  | t :: ts, a :: es => (match a with | .Name x _ => decide (x = tyNm t) && glB c.sc x | _ => false) && tysB c ts es
  | _, _ => false
def isB (c : Cn) (ts : List Cz.Ty) (a : Expr) : Bool := match a with
  | .Name x p => tysB c ts [.Name x p]
  | .Tuple es _ _ => decide (ts.length ≤ 10) && tysB c ts es
  | _ => false
def dcB : List (List Nat) → List D → List (Option Expr) → List Expr → Bool
  | [], [], [], [] => true
  | k :: ks, d :: ds, ek :: eks, ev :: evs => (match ek with | some (.Constant (.str x) _ _) => decide (x = st k) | _ => false) && (match ev with | .Constant q _ _ => cB d q | _ => false) && dcB ks ds eks evs
  | _, _, _, _ => false
/-- the receiver of a method is no bare call -/
def recvB : Expr → Bool
  | .Call _ _ _ _ => false
  | _ => true
def ownOf (N : List Str) (t : List Nat) : List (Str × Nat) := t.filterMap fun i => (N[i]?).map fun x => (x, i)
def inC (c : Cn) (scope : Scope) : Cn := ⟨c.T, c.N, relS scope c.sc, scope⟩
def slcB : Expr → Bool
  | .Slice _ _ _ _ => false
  | _ => true
mutual
def okE (c : Cn) : Cz.E → Expr → Bool
  | .var i, a => match a with | .Name x _ => nmB c i x | _ => false
  | .bor i, a => match a with | .Name x _ => nmB c i x | _ => false
  | .c d, a => match a with | .Constant k _ _ => cB d k | _ => false
  | .g n, a => match a with | .Name x _ => glB c.sc x && decide ((x, n) ∈ c.T.cons) | _ => false
  | .bin o e1 e2, a => match a with | .BinOp a1 op a2 _ => decide (op = opOf o) && okE c e1 a1 && okE c e2 a2 | _ => false
  | .neg e1, a => match a with | .UnaryOp .USub a1 _ => okE c e1 a1 | _ => false
  | .cmp o e1 e2, a => match a with | .Compare a1 [op] [a2] _ => decide (op = copOf o) && !behindInMarks (copOf o) a2 && okE c e1 a1 && okE c e2 a2 | _ => false
  | .chain o o' e1 e2 e3, a => match a with | .Compare a1 [op, op'] [a2, a3] _ => decide (op = copOf o) && decide (op' = copOf o') && !lastMarks [copOf o, copOf o'] [a2, a3] && okE c e1 a1 && okE c e2 a2 && okE c e3 a3 | _ => false
  | .and es, a => match a with | .BoolOp .And as _ => !as.isEmpty && okEs c es as | _ => false
  | .or es, a => match a with | .BoolOp .Or as _ => !as.isEmpty && okEs c es as | _ => false
  | .not e1, a => match a with | .UnaryOp .Not a1 _ => okE c e1 a1 | _ => false
  | .ife e1 e2 e3, a => match a with | .IfExp a1 a2 a3 _ => okE c e1 a1 && okE c e2 a2 && okE c e3 a3 | _ => false
  | .tup es, a => match a with | .Tuple as _ _ => decide (esLen es ≤ Lim) && okEs c es as | _ => false
  | .lst es, a => match a with | .List as _ => decide (esLen es ≤ Lim) && okEs c es as | _ => false
  | .dcc ks ds, a => match a with | .Dict eks evs _ => dcB ks ds eks evs && decide ks.Nodup && !ks.isEmpty && decide (ks.length ≤ 15) | _ => false
  | .ix e1 e2, a => match a with | .Subscript a1 a2 _ => slcB a2 && okE c e1 a1 && okE c e2 a2 | _ => false
  | .slF e1 e2, a => match a with | .Subscript a1 (.Slice (some a2) none none _) _ => okE c e1 a1 && okE c e2 a2 | _ => false
  | .slT e1 e2, a => match a with | .Subscript a1 (.Slice none (some a2) none _) _ => okE c e1 a1 && okE c e2 a2 | _ => false
  | .slFT _ _ _, _ => false
  | .call f es, a => match a with | .Call (.Name x _) as [] _ => glB c.sc x && decide ((x, f, esLen es) ∈ c.T.defs) && !as.isEmpty && okEs c es as | _ => false
  | .bi b es, a => match a with | .Call (.Name x _) as [] _ => glB c.sc x && decide (x = biNm b) && !as.isEmpty && okEs c es as | _ => false
  | .isi e1 ts, a => match a with | .Call (.Name x _) [a1, a2] [] _ => glB c.sc x && decide (x = ("isinstance" : Str)) && nsB a1 && okE c e1 a1 && isB c ts a2 | _ => false
  | .me m e1 es, a => match m, es, a with
    | .count, .cons e2 .nil, .Call (.Attribute a1 nm p1) [a2] [] p2 => decide (nm = ("count" : Str)) && recvB a1 && nsB a2 && (p1.endLine == p2.line) && okE c e1 a1 && okE c e2 a2
    | _, _, _ => false
  | .lc t it cs e, a => match a with
    | .ListComp elt [⟨tg, iter, ifs, asy⟩] scope _ => decide (asy = 0) && notSet iter && okI c it tg iter && blkC c.N c.sc scope (ownOf c.N t) && decide ((ownOf c.N t).map (·.2) = t) && tgB (inC c scope) t tg && okTs (inC c scope) cs ifs && okE (inC c scope) e elt
    | _ => false
  | .lc2 t it t2 it2 e, a => match a with
    | .ListComp elt [⟨tg, iter, [], asy⟩, ⟨tg2, iter2, [], asy2⟩] scope _ => decide (asy = 0) && decide (asy2 = 0) && notSet iter && notSet iter2 && okI c it tg iter && blkC c.N c.sc scope (ownOf c.N (t ++ t2)) && decide ((ownOf c.N (t ++ t2)).map (·.2) = t ++ t2) && tgB (inC c scope) t tg && okI (inC c scope) it2 tg2 iter2 && tgB (inC c scope) t2 tg2 && okE (inC c scope) e elt
    | _ => false
  | .exf _ _, _ => false
  | .exis _ _, _ => false
def okEs (c : Cn) : Es → List Expr → Bool
  | .nil, as => as.isEmpty
  | .cons e es, as => match as with
    | a :: as => nsB a && okE c e a && okEs c es as
    | [] => false
def okTs (c : Cn) : Es → List Expr → Bool
  | .nil, as => as.isEmpty
  | .cons e es, as => match es, as with
    | .nil, [a] => okE c e a
    | _, _ => false
def okI (c : Cn) : Cz.It → Expr → Expr → Bool
  | .val e, _, a => okE c e a
  | .r1 e, _, a => match a with | .Call (.Name x _) [a1] [] _ => glB c.sc x && decide (x = ("range" : Str)) && nsB a1 && okE c e a1 | _ => false
  | .r2 e1 e2, _, a => match a with | .Call (.Name x _) [a1, a2] [] _ => glB c.sc x && decide (x = ("range" : Str)) && nsB a1 && nsB a2 && okE c e1 a1 && okE c e2 a2 | _ => false
  | .r3 _ _ _, _, _ => false
  | .enum e, tg, a => match tg, a with | .Tuple _ _ _, .Call (.Name x _) [a1] [] _ => glB c.sc x && decide (x = ("enumerate" : Str)) && nsB a1 && okE c e a1 | _, _ => false
end
end Cs
end
section
set_option Elab.async false
set_option linter.all false
set_option maxRecDepth 100000
set_option maxHeartbeats 8000000
/-! SOUND 23: the checker of expressions is right. -/
namespace Cs
open PySem L2 Cz PyProof.Rows
/-- what the module gives -/
structure GoodM (T : Tab) (G : Fx) (k : Nat) (P : Program) (w : World) (K : PySem.W.Frag) (mg : Str → Option Value) (base : Heap) : Prop where
  con : ∀ x n, (x, n) ∈ T.cons → ∃ (v : V) (u : Value) (d : D), G.M.g n = some d ∧ mg x = some u ∧ RelV v u ∧ ∀ H, DV K w H v d
  bi : ∀ b, mg (biNm b) = none
  ty : ∀ t, mg (tyNm t) = none
  isi : mg "isinstance" = none
  rng : mg "range" = none
  enu : mg "enumerate" = none
  cal : ∀ x f n, (x, f, n) ∈ T.defs → ∃ (addr : Addr) (fd : FuncData) (ps : List Str), ps.length = n ∧ FnOk P w K mg base (L2.CX P w) k addr fd ps (spC G K w f ps.length) ∧ mg x = some (.ref addr) ∧ PySem.W.keepIn K (.ref addr) = true ∧ Binds K fd ps []
  cls : ∀ x n, (x, n) ∈ T.cls → ∃ C, G.xa n = some C ∧ mg x = some (.ref C)
  fld : ∀ x n, (x, n) ∈ T.fld → ∀ c C, G.xa c = some C → G.M.fld c = n → G.xf c = x
  xf : XFacts G K
  made : ∀ x n, (x, n) ∈ T.mks → ∀ (Y : Cx), Y.prog = P → Y.w = w → Y.K = K → Y.mg = mg → Y.base = base → Y.calm = true → Room k Y.A → Gl Y x → (x == ("__debug__" : Str)) = false → ∀ (B : Bas) (W : Wi) (e : Cz.E) (ea : Expr) (p pos : Pos), starEach [ea] Y.env = [(false, eval ea Y.env)] →
    PE Y ea (tE G Y.K Y.w B W e) → PMk Y (.Call (.Name x p) [ea] [] pos) (tMk G Y.K Y.w B W n e)
structure Good (c : Cn) (G : Fx) (k : Nat) (X : Cx) : Prop where
  N : X.N = c.N
  nd : X.N.Nodup
  sc : X.env.scope = c.sc
  fn : ∀ x, c.raw.names.lookup x = some .cell → X.fn x = true
  calm : X.calm = true
  room : Room k X.A
  mo : GoodM c.T G k X.prog X.w X.K X.mg X.base
theorem star_cons {ea : Expr} {eas : List Expr} {env : PySem.Env} (h : nsB ea = true) : starEach (ea :: eas) env = (false, eval ea env) :: starEach eas env := by
  cases ea <;> first | rfl | cases h
theorem back_plain {pos : Pos} {env : PySem.Env} : ∀ {eas : List Expr}, (∀ a ∈ eas, nsB a = true) → (backTo pos (starEach eas env)).any (·.1) = false
  | [], _ => rfl
  | a :: eas, h => by
    rw [star_cons (h a List.mem_cons_self)]
    show (false || (backTo pos (starEach eas env)).any (·.1)) = false
    rw [back_plain fun b hb => h b (List.mem_cons_of_mem _ hb)]
    rfl
theorem folded {e : Expr} (h : notSet e = true) (env : PySem.Env) (x : Value) : foldedSetIterable e env x = pure x := by
  cases e <;> first | rfl | cases h
theorem recv_ok {e : Expr} (h : recvB e = true) (nm : Str) (env : PySem.Env) : attributeBase e nm env (eval e env) = eval e env := by
  cases e <;> first | rfl | cases h
theorem slc_ok {e : Expr} (h : slcB e = true) : PlainIx e := fun o i => by
  cases e <;> first | rfl | cases h
theorem bi_boot (b : Bi) : bootBuiltins (biNm b) = some (biOf b) := by cases b <;> rfl
theorem ty_boot (t : Cz.Ty) : bootBuiltins (tyNm t) = some (.type (tyOf t)) := by cases t <;> rfl
theorem bi_nm (b : Bi) : biNm b ≠ "__name__" := by cases b <;> decide +kernel
theorem ty_nm (t : Cz.Ty) : tyNm t ≠ "__name__" := by cases t <;> decide +kernel
section
variable {c : Cn} {G : Fx} {k : Nat} {X : Cx}
theorem Good.units (g : Good c G k X) : X.A.units + 150 < cLine := by have := g.room.un; omega
theorem nm_ok (g : Good c G k X) {i : Nat} {x : Str} (h : nmB c i x = true) : X.N[i]? = some x ∧ Vis X.env.scope x ∧ (x == ("__debug__" : Str)) = false ∧ (x == ("__classdict__" : Str)) = false := by
  unfold nmB at h
  simp only [Bool.and_eq_true, decide_eq_true_eq, Bool.not_eq_true'] at h
  obtain ⟨⟨⟨h1, h2⟩, h3⟩, h4⟩ := h
  refine ⟨by rw [g.N]; exact h1, ?_, h3, h4⟩
  rw [g.sc]
  unfold visB at h2
  unfold Vis
  split at h2
  · exact .inl (by assumption)
  · exact .inr (.inl (by assumption))
  · exact .inr (.inr (by assumption))
  · cases h2
theorem gl_ok (g : Good c G k X) {x : Str} (h : glB c.sc x = true) : Gl X x ∧ (x == ("__debug__" : Str)) = false := by
  unfold glB at h
  simp only [Bool.and_eq_true, decide_eq_true_eq, Bool.not_eq_true'] at h
  refine ⟨?_, h.2⟩
  show X.env.scope.names.lookup x = _
  rw [g.sc]
  exact h.1
theorem loc_ok (g : Good c G k X) {x : Str} (h : locB c x = true) : Loc X.env.scope x ∧ (X.fn x = true ∨ X.env.scope.names.lookup x = some .local) := by
  unfold locB at h
  rw [g.sc]
  split at h
  · rename_i e; exact ⟨.inl e, .inr e⟩
  · rename_i e; exact ⟨.inr e, .inl (g.fn x (of_decide_eq_true h))⟩
  · cases h
theorem nms_ok (g : Good c G k X) : ∀ {t : List Nat} {es : List Expr}, nmsB c t es = true → Nms X es t
  | [], [], _ => .nil
  | i :: t, a :: es, h => by
    unfold nmsB at h
    rw [Bool.and_eq_true] at h
    obtain ⟨h1, h2⟩ := h
    split at h1
    · rw [Bool.and_eq_true] at h1
      obtain ⟨l1, l2⟩ := loc_ok g h1.2
      exact .cons (by rw [g.N]; exact of_decide_eq_true h1.1) l1 l2 (nms_ok g h2)
    · cases h1
  | [], _ :: _, h => by cases h
  | _ :: _, [], h => by cases h
theorem tg_ok (g : Good c G k X) {t : List Nat} {a : Expr} (h : tgB c t a = true) (B : Bas) : PG X a (tGt X.K X.w B t) := by
  unfold tgB at h
  split at h
  · rename_i x p
    have n := nms_ok g h
    cases n with
    | cons n1 n2 n3 r =>
      cases r
      exact sG_one g.nd n1 n2 n3
  · rw [Bool.and_eq_true] at h
    exact sG_tup g.nd g.calm (nms_ok g h.2) (of_decide_eq_true h.1)
  · cases h
theorem tys_ok (g : Good c G k X) : ∀ {ts : List Cz.Ty} {es : List Expr}, tysB c ts es = true → TyNs X es ts
  | [], [], _ => .nil
  | t :: ts, a :: es, h => by
    unfold tysB at h
    rw [Bool.and_eq_true] at h
    obtain ⟨h1, h2⟩ := h
    split at h1
    · rename_i x p
      rw [Bool.and_eq_true] at h1
      obtain ⟨l1, l2⟩ := gl_ok g h1.2
      have ex := of_decide_eq_true h1.1
      subst ex
      exact .cons (pe_bltn l1 (g.mo.ty t) (ty_boot t) rfl (ty_nm t) l2) rfl (tys_ok g h2)
    · cases h1
  | [], _ :: _, h => by cases h
  | _ :: _, [], h => by cases h
theorem c_ok {d : D} {q : Const} (h : cB d q = true) : ∃ v, cstV q = some (v, d) := by
  unfold cB at h
  split at h
  · exact ⟨_, rfl⟩
  · have := eq_of_beq h; subst this; exact ⟨_, rfl⟩
  · have := of_decide_eq_true h; subst this; exact ⟨_, rfl⟩
  · rename_i s x
    rw [Bool.and_eq_true] at h
    have := of_decide_eq_true h.1
    subst this
    refine ⟨.str x, ?_⟩
    show (if sOk x.cps.toList = true then some (V.str x, D.str x.cps.toList) else none) = _
    rw [if_pos h.2]
  · cases h
theorem dc_ok : ∀ {ks : List (List Nat)} {ds : List D} {eks : List (Option Expr)} {evs : List Expr}, dcB ks ds eks evs = true → ∃ vs, DcE X ks ds eks evs vs
  | [], [], [], [], _ => ⟨[], .nil⟩
  | key :: ks, d :: ds, ek :: eks, ev :: evs, h => by
    unfold dcB at h
    rw [Bool.and_eq_true, Bool.and_eq_true] at h
    obtain ⟨⟨h1, h2⟩, h3⟩ := h
    obtain ⟨vs, r⟩ := dc_ok h3
    split at h1
    · split at h2
      · obtain ⟨v, hv⟩ := c_ok h2
        have := of_decide_eq_true h1
        subst this
        exact ⟨v :: vs, .cons pe_str (cst_pe hv) (fun H => cst_dv hv H) r⟩
      · cases h2
    · cases h1
  | [], _ :: _, _, _, h => by cases h
  | [], [], _ :: _, _, h => by cases h
  | [], [], [], _ :: _, h => by cases h
  | _ :: _, [], _, _, h => by cases h
  | _ :: _, _ :: _, [], _, h => by cases h
  | _ :: _, _ :: _, _ :: _, [], h => by cases h
theorem takesF {Y : Cx} {B : Bas} : Takes Y (WD G Y.K Y.w B W0) := fun u s' ⟨a, b1, sI, pins, σ, H, cls, d, e, I, nb, up, sky, na, os, ag, ⟨_, _, _, _, _, f⟩⟩ => f.elim
theorem Good.blk (g : Good c G k X) (scope : Scope) : InBlk X scope fun Y => Good (inC c scope) G k Y := fun s H C cl fp => {
  N := g.N
  nd := g.nd
  sc := by
    show relS scope X.env.scope = relS scope c.sc
    rw [g.sc]
  fn := fun x h => by
    show (scope.names.lookup x == some .cell) = true
    rw [show scope.names.lookup x = some .cell from h]
    rfl
  calm := g.calm
  room := g.room
  mo := g.mo }
end
/-- an expression's rules -/
structure Snd (G : Fx) (X : Cx) (e : Cz.E) (a : Expr) : Prop where
  pe : ∀ B W, Takes X (WD G X.K X.w B W) → PE X a (tE G X.K X.w B W e)
  pt : ∀ B W, Takes X (WD G X.K X.w B W) → PT X a (tT G X.K X.w B W e)
theorem Snd.any {G : Fx} {X : Cx} {e : Cz.E} {a : Expr} (h : ∀ B W, Takes X (WD G X.K X.w B W) → PE X a (tE G X.K X.w B W e)) (he : ∀ whole, isTrue a X.env whole = (do let v ← whole; standAt a.pos; holding [v] (truthy v))) : Snd G X e a := ⟨h, fun B W tk => sT_any (h B W tk) he⟩
/-- a row of them -/
structure SndA (G : Fx) (X : Cx) (es : Es) (as : List Expr) : Prop where
  pa : ∀ B W, Takes X (WD G X.K X.w B W) → PA X as (tEs G X.K X.w B W es)
  star : ∀ a ∈ as, nsB a = true
  and : ∀ B W pos, Takes X (WD G X.K X.w B W) → as ≠ [] → PE X (.BoolOp .And as pos) (tE G X.K X.w B W (.and es)) ∧ PW X (.BoolOp .And as pos) (tT G X.K X.w B W (.and es))
  or : ∀ B W pos, Takes X (WD G X.K X.w B W) → as ≠ [] → PE X (.BoolOp .Or as pos) (tE G X.K X.w B W (.or es)) ∧ PW X (.BoolOp .Or as pos) (tT G X.K X.w B W (.or es))
theorem ne_of_isE {α : Type} {l : List α} (h : (!l.isEmpty) = true) : l ≠ [] := fun e => by subst e; cases h
theorem esLen_of {c : Cn} : ∀ {es : Es} {as : List Expr}, okEs c es as = true → esLen es = as.length
  | .nil, as, h => by
    unfold okEs at h
    have := List.isEmpty_iff.mp h
    subst this; rfl
  | .cons e es, as, h => by
    unfold okEs at h
    split at h
    · rw [Bool.and_eq_true] at h
      rw [List.length_cons, ← esLen_of h.2]; rfl
    · cases h
mutual
theorem sndE {G : Fx} {k : Nat} : ∀ (e : Cz.E) {c : Cn} {X : Cx} {a : Expr}, Good c G k X → okE c e a = true → Snd G X e a
  | .var i, c, X, a, g, h => by
    unfold okE at h
    split at h
    · obtain ⟨h1, h2, h3, h4⟩ := nm_ok g h
      exact .any (fun B W _ => sE_var h1 h2 h3 h4) fun _ => rfl
    · cases h
  | .bor i, c, X, a, g, h => by
    unfold okE at h
    split at h
    · obtain ⟨h1, h2, h3, h4⟩ := nm_ok g h
      exact .any (fun B W _ => sE_bor h1 h2 h3 h4) fun _ => rfl
    · cases h
  | .c d, c, X, a, g, h => by
    unfold okE at h
    split at h
    · obtain ⟨v, hv⟩ := c_ok h
      exact .any (fun B W _ => sE_c (cst_pe hv) fun H => cst_dv hv H) fun _ => rfl
    · cases h
  | .g n, c, X, a, g, h => by
    unfold okE at h
    split at h
    · rw [Bool.and_eq_true] at h
      obtain ⟨h1, h2⟩ := gl_ok g h.1
      obtain ⟨v, u, d, q1, q2, q3, q4⟩ := g.mo.con _ _ (of_decide_eq_true h.2)
      exact .any (fun B W _ => sE_g q1 (pe_glob h1 q2 q3 h2) q4) fun _ => rfl
    · cases h
  | .bin o e1 e2, c, X, a, g, h => by
    unfold okE at h
    split at h
    · simp only [Bool.and_eq_true, decide_eq_true_eq] at h
      obtain ⟨⟨h0, h1⟩, h2⟩ := h
      subst h0
      have s1 := sndE e1 g h1
      have s2 := sndE e2 g h2
      exact .any (fun B W tk => sE_bin (s1.pe B W tk) (s2.pe B W tk)) fun _ => rfl
    · cases h
  | .neg e1, c, X, a, g, h => by
    unfold okE at h
    split at h
    · have s1 := sndE e1 g h
      exact .any (fun B W tk => sE_neg (s1.pe B W tk)) fun _ => rfl
    · cases h
  | .cmp o e1 e2, c, X, a, g, h => by
    unfold okE at h
    split at h
    · simp only [Bool.and_eq_true, decide_eq_true_eq, Bool.not_eq_true'] at h
      obtain ⟨⟨⟨h0, hm⟩, h1⟩, h2⟩ := h
      subst h0
      have s1 := sndE e1 g h1
      have s2 := sndE e2 g h2
      exact ⟨fun B W tk => sE_cmp g.units hm (s1.pe B W tk) (s2.pe B W tk), fun B W tk => sT_cmp g.units hm (s1.pe B W tk) (s2.pe B W tk)⟩
    · cases h
  | .chain o o' e1 e2 e3, c, X, a, g, h => by
    unfold okE at h
    split at h
    · simp only [Bool.and_eq_true, decide_eq_true_eq, Bool.not_eq_true'] at h
      obtain ⟨⟨⟨⟨⟨h0, h0'⟩, hm⟩, h1⟩, h2⟩, h3⟩ := h
      subst h0 h0'
      have s1 := sndE e1 g h1
      have s2 := sndE e2 g h2
      have s3 := sndE e3 g h3
      exact ⟨fun B W tk => sE_chain g.units hm (s1.pe B W tk) (s2.pe B W tk) (s3.pe B W tk), fun B W tk => sT_chain g.units hm (s1.pe B W tk) (s2.pe B W tk) (s3.pe B W tk)⟩
    · cases h
  | .and es, c, X, a, g, h => by
    unfold okE at h
    split at h
    · rw [Bool.and_eq_true] at h
      have s1 := sndA es g h.2
      exact ⟨fun B W tk => (s1.and B W _ tk (ne_of_isE h.1)).1, fun B W tk => (s1.and B W _ tk (ne_of_isE h.1)).2.pt⟩
    · cases h
  | .or es, c, X, a, g, h => by
    unfold okE at h
    split at h
    · rw [Bool.and_eq_true] at h
      have s1 := sndA es g h.2
      exact ⟨fun B W tk => (s1.or B W _ tk (ne_of_isE h.1)).1, fun B W tk => (s1.or B W _ tk (ne_of_isE h.1)).2.pt⟩
    · cases h
  | .not e1, c, X, a, g, h => by
    unfold okE at h
    split at h
    · have s1 := sndE e1 g h
      exact ⟨fun B W tk => sE_not (s1.pe B W tk), fun B W tk => sT_not (s1.pt B W tk)⟩
    · cases h
  | .ife e1 e2 e3, c, X, a, g, h => by
    unfold okE at h
    split at h
    · simp only [Bool.and_eq_true] at h
      obtain ⟨⟨h1, h2⟩, h3⟩ := h
      have s1 := sndE e1 g h1
      have s2 := sndE e2 g h2
      have s3 := sndE e3 g h3
      exact ⟨fun B W tk => sE_ife (s1.pt B W tk) (s2.pe B W tk) (s3.pe B W tk), fun B W tk => sT_ife (s1.pt B W tk) (s2.pt B W tk) (s3.pt B W tk)⟩
    · cases h
  | .tup es, c, X, a, g, h => by
    unfold okE at h
    split at h
    · rw [Bool.and_eq_true] at h
      have s1 := sndA es g h.2
      exact .any (fun B W tk => sE_tup (of_decide_eq_true h.1) (s1.pa B W tk)) fun _ => rfl
    · cases h
  | .lst es, c, X, a, g, h => by
    unfold okE at h
    split at h
    · rw [Bool.and_eq_true] at h
      have s1 := sndA es g h.2
      exact .any (fun B W tk => sE_lst (of_decide_eq_true h.1) (s1.pa B W tk)) fun _ => rfl
    · cases h
  | .dcc ks ds, c, X, a, g, h => by
    unfold okE at h
    split at h
    · simp only [Bool.and_eq_true, decide_eq_true_eq] at h
      obtain ⟨⟨⟨h1, h2⟩, h3⟩, h4⟩ := h
      obtain ⟨vs, r⟩ := dc_ok (X := X) h1
      exact .any (fun B W tk => sE_dcc r h2 (ne_of_isE h3) h4) fun _ => rfl
    · cases h
  | .ix e1 e2, c, X, a, g, h => by
    unfold okE at h
    split at h
    · simp only [Bool.and_eq_true] at h
      obtain ⟨⟨h0, h1⟩, h2⟩ := h
      have s1 := sndE e1 g h1
      have s2 := sndE e2 g h2
      exact .any (fun B W tk => sE_ix g.units (slc_ok h0) (s1.pe B W tk) (s2.pe B W tk)) fun _ => rfl
    · cases h
  | .slF e1 e2, c, X, a, g, h => by
    unfold okE at h
    split at h
    · rw [Bool.and_eq_true] at h
      have s1 := sndE e1 g h.1
      have s2 := sndE e2 g h.2
      exact .any (fun B W tk => sE_slF (s1.pe B W tk) (s2.pe B W tk)) fun _ => rfl
    · cases h
  | .slT e1 e2, c, X, a, g, h => by
    unfold okE at h
    split at h
    · rw [Bool.and_eq_true] at h
      have s1 := sndE e1 g h.1
      have s2 := sndE e2 g h.2
      exact .any (fun B W tk => sE_slT (s1.pe B W tk) (s2.pe B W tk)) fun _ => rfl
    · cases h
  | .slFT _ _ _, c, X, a, g, h => by unfold okE at h; cases h
  | .call f es, c, X, a, g, h => by
    unfold okE at h
    split at h
    · simp only [Bool.and_eq_true, decide_eq_true_eq] at h
      obtain ⟨⟨⟨h1, h2⟩, h3⟩, h4⟩ := h
      obtain ⟨g1, g2⟩ := gl_ok g h1
      have s1 := sndA es g h4
      have ln := esLen_of h4
      cases es with
      | nil =>
        rename_i as _
        have e0 : as = [] := List.length_eq_zero_iff.mp (by rw [← ln]; rfl)
        exact absurd e0 (ne_of_isE h3)
      | cons e es =>
        rename_i as _
        cases as with
        | nil => exact absurd rfl (ne_of_isE h3)
        | cons a1 as =>
          exact .any (fun B W tk => sE_call tk g.room (g.mo.cal _ _ _ h2) g1 g2 (star_cons (s1.star a1 List.mem_cons_self)) (back_plain fun b hb => s1.star b (List.mem_cons_of_mem _ hb)) (s1.pa B W tk)) fun _ => rfl
    · cases h
  | .bi b es, c, X, a, g, h => by
    unfold okE at h
    split at h
    · simp only [Bool.and_eq_true, decide_eq_true_eq] at h
      obtain ⟨⟨⟨h1, h2⟩, h3⟩, h4⟩ := h
      subst h2
      obtain ⟨g1, g2⟩ := gl_ok g h1
      have s1 := sndA es g h4
      have ln := esLen_of h4
      cases es with
      | nil =>
        rename_i as _
        have e0 : as = [] := List.length_eq_zero_iff.mp (by rw [← ln]; rfl)
        exact absurd e0 (ne_of_isE h3)
      | cons e es =>
        rename_i as _
        cases as with
        | nil => exact absurd rfl (ne_of_isE h3)
        | cons a1 as =>
          exact .any (fun B W tk => sE_bi g.calm g1 (g.mo.bi b) (bi_boot b) (bi_nm b) g2 (star_cons (s1.star a1 List.mem_cons_self)) (back_plain fun b hb => s1.star b (List.mem_cons_of_mem _ hb)) (s1.pa B W tk)) fun _ => rfl
    · cases h
  | .isi e1 ts, c, X, a, g, h => by
    unfold okE at h
    split at h
    · simp only [Bool.and_eq_true, decide_eq_true_eq] at h
      obtain ⟨⟨⟨⟨h1, h2⟩, h3⟩, h4⟩, h5⟩ := h
      subst h2
      obtain ⟨g1, g2⟩ := gl_ok g h1
      have s1 := sndE e1 g h4
      unfold isB at h5
      split at h5
      · have tn := tys_ok g h5
        cases tn with
        | cons t1 t2 r =>
          cases r
          exact .any (fun B W tk => sE_is1 g1 g.mo.isi (star_cons h3) rfl (s1.pe B W tk) t1) fun _ => rfl
      · rw [Bool.and_eq_true] at h5
        have tn := tys_ok g h5.2
        exact .any (fun B W tk => sE_isT (of_decide_eq_true h5.1) g1 g.mo.isi (star_cons h3) (s1.pe B W tk) tn) fun _ => rfl
      · cases h5
    · cases h
  | .me m e1 es, c, X, a, g, h => by
    unfold okE at h
    split at h
    · rename_i e2 _ _ _ _ _
      simp only [Bool.and_eq_true, decide_eq_true_eq] at h
      obtain ⟨⟨⟨⟨⟨h1, h2⟩, h3⟩, h4⟩, h5⟩, h6⟩ := h
      subst h1
      have s1 := sndE e1 g h5
      have s2 := sndE e2 g h6
      exact .any (fun B W tk => sE_cnt (s1.pe B W tk) (s2.pe B W tk) (recv_ok h2 _ _) (star_cons h3) h4) fun _ => rfl
    · cases h
  | .lc t it cs e, c, X, a, g, h => by
    unfold okE at h
    split at h
    · rename_i scope _
      simp only [Bool.and_eq_true, decide_eq_true_eq] at h
      obtain ⟨⟨⟨⟨⟨⟨⟨h0, h1⟩, h2⟩, h3⟩, h4⟩, h5⟩, h6⟩, h7⟩ := h
      subst h0
      refine .any (fun B W tk => sE_lc g.calm g.nd h4 (sndI it g h2 B W tk) ?_ (fun B s H C cl fp => tg_ok (g.blk scope s H C cl fp) h5 B) (fun B s H C cl fp => sndT cs (g.blk scope s H C cl fp) h6 B) (fun B s H C cl fp => (sndE e (g.blk scope s H C cl fp) h7).pe B W0 takesF) (folded h1 X.env)) fun _ => rfl
      have b := blkOk_by h3
      rw [← g.N, ← g.sc] at b
      rw [g.N] at b ⊢
      exact b
    · cases h
  | .lc2 t it t2 it2 e, c, X, a, g, h => by
    unfold okE at h
    split at h
    · rename_i scope _
      simp only [Bool.and_eq_true, decide_eq_true_eq] at h
      obtain ⟨⟨⟨⟨⟨⟨⟨⟨⟨⟨h0, h0'⟩, h1⟩, h1'⟩, h2⟩, h3⟩, h4⟩, h5⟩, h6⟩, h6'⟩, h7⟩ := h
      subst h0 h0'
      refine .any (fun B W tk => sE_lc2 g.calm g.nd h4 (sndI it g h2 B W tk) ?_ (fun B s H C cl fp => tg_ok (g.blk scope s H C cl fp) h5 B) (fun B s H C cl fp => sndI it2 (g.blk scope s H C cl fp) h6 B W0 takesF) (fun B s H C cl fp => tg_ok (g.blk scope s H C cl fp) h6' B) (fun B s H C cl fp => (sndE e (g.blk scope s H C cl fp) h7).pe B W0 takesF) (folded h1 X.env) (folded h1')) fun _ => rfl
      have b := blkOk_by h3
      rw [← g.N, ← g.sc] at b
      rw [g.N] at b ⊢
      exact b
    · cases h
  | .exf _ _, c, X, a, g, h => by unfold okE at h; cases h
  | .exis _ _, c, X, a, g, h => by unfold okE at h; cases h
theorem sndA {G : Fx} {k : Nat} : ∀ (es : Es) {c : Cn} {X : Cx} {as : List Expr}, Good c G k X → okEs c es as = true → SndA G X es as
  | .nil, c, X, as, g, h => by
    unfold okEs at h
    have := List.isEmpty_iff.mp h
    subst this
    exact ⟨fun B W _ => sA_nil, fun _ hb => absurd hb (by simp), fun _ _ _ _ n => absurd rfl n, fun _ _ _ _ n => absurd rfl n⟩
  | .cons e es, c, X, as, g, h => by
    unfold okEs at h
    split at h
    · rename_i a as
      simp only [Bool.and_eq_true] at h
      obtain ⟨⟨h0, h1⟩, h2⟩ := h
      have s1 := sndE e g h1
      have s2 := sndA es g h2
      have ln := esLen_of h2
      refine ⟨fun B W tk => sA_cons (s1.pe B W tk) (s2.pa B W tk) (star_cons h0), fun b hb => ?_, fun B W pos tk _ => ?_, fun B W pos tk _ => ?_⟩
      · rcases List.mem_cons.mp hb with z | z
        · rw [z]; exact h0
        · exact s2.star b z
      · cases es with
        | nil =>
          have e0 : as = [] := List.length_eq_zero_iff.mp (by rw [← ln]; rfl)
          subst e0
          exact ⟨sE_and1 (s1.pe B W tk), sW_and1 (s1.pt B W tk)⟩
        | cons e2 es2 =>
          cases as with
          | nil => cases ln
          | cons a2 as2 =>
            obtain ⟨q1, q2⟩ := s2.and B W pos tk (by simp)
            exact ⟨sE_and (s1.pe B W tk) q1, sW_and (s1.pt B W tk) q2⟩
      · cases es with
        | nil =>
          have e0 : as = [] := List.length_eq_zero_iff.mp (by rw [← ln]; rfl)
          subst e0
          exact ⟨sE_or1 (s1.pe B W tk), sW_or1 (s1.pt B W tk)⟩
        | cons e2 es2 =>
          cases as with
          | nil => cases ln
          | cons a2 as2 =>
            obtain ⟨q1, q2⟩ := s2.or B W pos tk (by simp)
            exact ⟨sE_or (s1.pe B W tk) q1, sW_or (s1.pt B W tk) q2⟩
    · cases h
theorem sndT {G : Fx} {k : Nat} : ∀ (es : Es) {c : Cn} {X : Cx} {as : List Expr}, Good c G k X → okTs c es as = true → ∀ B, PTs X as (tTs G X.K X.w B es)
  | .nil, c, X, as, g, h, B => by
    unfold okTs at h
    have := List.isEmpty_iff.mp h
    subst this
    exact sTs_nil
  | .cons e es, c, X, as, g, h, B => by
    unfold okTs at h
    split at h
    · exact sTs_one ((sndE e g h).pt B W0 takesF)
    · cases h
theorem sndI {G : Fx} {k : Nat} : ∀ (it : Cz.It) {c : Cn} {X : Cx} {tg a : Expr}, Good c G k X → okI c it tg a = true → ∀ B W, Takes X (WD G X.K X.w B W) → PI X tg a (tI G X.K X.w B it)
  | .val e, c, X, tg, a, g, h, B, W, tk => by
    unfold okI at h
    exact sI_val ((sndE e g h).pe B W tk)
  | .r1 e, c, X, tg, a, g, h, B, W, tk => by
    unfold okI at h
    split at h
    · simp only [Bool.and_eq_true, decide_eq_true_eq] at h
      obtain ⟨⟨⟨h1, h2⟩, h3⟩, h4⟩ := h
      subst h2
      exact sI_r1 (gl_ok g h1).1 g.mo.rng (star_cons h3) ((sndE e g h4).pe B W tk)
    · cases h
  | .r2 e1 e2, c, X, tg, a, g, h, B, W, tk => by
    unfold okI at h
    split at h
    · simp only [Bool.and_eq_true, decide_eq_true_eq] at h
      obtain ⟨⟨⟨⟨⟨h1, h2⟩, h3⟩, h3'⟩, h4⟩, h5⟩ := h
      subst h2
      exact sI_r2 (gl_ok g h1).1 g.mo.rng (by rw [star_cons h3, star_cons h3']; rfl) (star_cons h3') ((sndE e1 g h4).pe B W tk) ((sndE e2 g h5).pe B W tk)
    · cases h
  | .r3 _ _ _, c, X, tg, a, g, h, B, W, tk => by unfold okI at h; cases h
  | .enum e, c, X, tg, a, g, h, B, W, tk => by
    unfold okI at h
    split at h
    · simp only [Bool.and_eq_true, decide_eq_true_eq] at h
      obtain ⟨⟨⟨h1, h2⟩, h3⟩, h4⟩ := h
      subst h2
      exact sI_enum g.calm (gl_ok g h1).1 g.mo.enu (star_cons h3) ((sndE e g h4).pe B W tk)
    · cases h
end
end Cs
end
section
set_option Elab.async false
set_option linter.all false
set_option maxRecDepth 100000
set_option maxHeartbeats 8000000
/-! SOUND 24: the checker of statements. -/
namespace Cs
open PySem L2 Cz PyProof.Rows
def notComp : Expr → Bool
  | .ListComp _ _ _ _ => false
  | .SetComp _ _ _ _ => false
  | .DictComp _ _ _ _ _ => false
  | _ => true
def notTup : Expr → Bool
  | .Tuple _ _ _ => false
  | _ => true
/-- is the store of a comprehension's list made within -/
def swB (c : Cn) (x : Str) (px : Pos) (scope : Scope) (pc : Pos) : Bool := decide (c.sc.names.lookup x = some .local) && (px.line == pc.line) && !(scope.names.any fun (n, k) => n == x && (k == .local || k == .cell))
def stoB (c : Cn) : Expr → Bool
  | .ListComp _ _ _ _ => decide (c.sc.kind = .function)
  | .SetComp _ _ _ _ => false
  | .DictComp _ _ _ _ _ => false
  | _ => true
mutual
/-- a suite's expression -/
def okXE (c : Cn) : Cz.E → Expr → Bool
  | .c d, a => match a with | .Constant k _ _ => cB d k | _ => false
  | .exf j f, a => match a with | .Attribute (.Name n _) nm _ => nmB c j n && decide ((nm, f) ∈ c.T.fld) | _ => false
  | .exis j q, a => match a with | .Call (.Name x _) [.Name n _, .Name cn _] [] _ => decide (x = ("isinstance" : Str)) && glB c.sc x && nmB c j n && glB c.sc cn && decide ((cn, q) ∈ c.T.cls) | _ => false
  | .tup es, a => match a with | .Tuple as _ _ => decide (esLen es ≤ Lim) && okXEs c es as | _ => false
  | .ife t e1 e2, a => match t, a with | .exis j q, .IfExp a0 a1 a2 _ => okXE c t a0 && okXE c e1 a1 && okXE c e2 a2 | _, _ => false
  | _, _ => false
def okXEs (c : Cn) : Es → List Expr → Bool
  | .nil, as => as.isEmpty
  | .cons e es, as => match as with
    | a :: as => nsB a && okXE c e a && okXEs c es as
    | [] => false
end
def hdB (c : Cn) (o : Option Nat) (nm : Option Str) : Bool := match o, nm with
  | none, none => true
  | some i, some y => decide (c.N[i]? = some y) && decide (c.sc.names.lookup y = some .local)
  | _, _ => false
def okHs (c : Cn) : Hs → List ExceptHandler → Bool
  | .nil, cs => cs.isEmpty
  | .cons n o ss hs, cs => match cs with
    | .ExceptHandler (some (.Name x _)) nm [.Return (some ea) _] _ :: cs => glB c.sc x && decide ((x, n) ∈ c.T.cls) && hdB c o nm && (match ss with | .cons (.ret e) .nil => okX o e && okXE c e ea | _ => false) && okHs c hs cs
    | _ => false
mutual
def okS (c : Cn) : Cz.S → Stmt → Bool
  | .asg i e, st => match st with
    | .Assign [.Name x px] a _ => decide (c.N[i]? = some x) && locB c x && okE c e a && stoB c a
    | _ => false
  | .asgT t e, st => match st with | .Assign [.Tuple es k p] a _ => tgB c t (.Tuple es k p) && okE c e a && notComp a && notTup a | _ => false
  | .asgIx i k e, st => match st with | .Assign [.Subscript (.Name x _) ak _] a _ => nmB c i x && slcB ak && okE c k ak && okE c e a && notComp a | _ => false
  | .app i e, st => match st with | .Expr (.Call (.Attribute (.Name x _) nm pa) [a] [] pc) _ => decide (nm = ("append" : Str)) && nmB c i x && nsB a && okE c e a && (pa.endLine == pc.line) | _ => false
  | .ex e, st => match st with | .Expr a _ => okE c e a && notComp a | _ => false
  | .ret e, st => match st with | .Return (some a) _ => okE c e a | _ => false
  | .retN, st => match st with | .Return none _ => true | _ => false
  | .ife t s1 s2, st => match st with | .If a b1 b2 _ => okE c t a && okSs c s1 b1 && okSs c s2 b2 | _ => false
  | .for_ t it body, st => match st with | .For tg iter sts [] _ => notSet iter && okI c it tg iter && tgB c t tg && okSs c body sts | _ => false
  | .while_ t body, st => match st with | .While a sts [] _ => okE c t a && okSs c body sts | _ => false
  | .raise n e, st => match st with | .Raise (some (.Call (.Name x _) [a] [] _)) none _ => glB c.sc x && decide ((x, n) ∈ c.T.mks) && nsB a && okE c e a | _ => false
  | .try_ body hs, st => match st with | .Try sts (c0 :: cs) [] [] _ => okSs c body sts && okHs c hs (c0 :: cs) | _ => false
  | .pass, st => match st with | .Pass _ => true | _ => false
  | .brk, st => match st with | .Break _ => true | _ => false
  | .cnt, st => match st with | .Continue _ => true | _ => false
def okSs (c : Cn) : Ss → List Stmt → Bool
  | .nil, sts => sts.isEmpty
  | .cons s ss, sts => match sts with
    | st :: sts => okS c s st && okSs c ss sts
    | [] => false
end
/-! ### it is right -/
section
variable {c : Cn} {G : Fx} {k : Nat} {X : Cx}
theorem sw_not {a : Expr} (h : notComp a = true) (t : Option Expr) (l : Nat) (env : PySem.Env) : swapsWith a t l env = pure false := by
  cases a <;> first | rfl | cases h
theorem ss_not {a tg : Expr} (h : notTup a = true) (env : PySem.Env) : swappedStores [tg] a env = pure none := by
  cases tg <;> cases a <;> first | rfl | cases h
theorem asg_sub {o i : Expr} {p : Pos} (h : slcB i = true) (env : PySem.Env) (v : Value) : assign (.Subscript o i p) env v = (do
      let ov ← holding [v] (eval o env)
      let iv ← holding [v, ov] (eval i env)
      standAt p
      holding [v, ov, iv] (setItem ov iv v)
      release [v, ov, iv] []) := by
  cases i <;> first | rfl | cases h
mutual
theorem sndX {a : Addr} {eo : Obj} {cls : Value} {d : Option Addr} {pn : List (Addr × Obj)} {o : Option Nat} (g : Good c G k X) (hz : Zc cls d eo) (hf : ∃ vs, eo.data = .fields vs) : ∀ (e : Cz.E) {ea : Expr}, okXE c e ea = true → PE (X.suite a ((a, eo) :: pn)) ea (tX G X.K X.w o a cls d e)
  | .c dd, ea, h => by
    unfold okXE at h
    split at h
    · obtain ⟨v, hv⟩ := c_ok h
      exact xE_c (Y := X.suite a ((a, eo) :: pn)) (cst_pe hv) fun H => cst_dv hv H
    · cases h
  | .exf j f, ea, h => by
    unfold okXE at h
    split at h
    · rw [Bool.and_eq_true] at h
      obtain ⟨h1, h2, h3, h4⟩ := nm_ok g h.1
      exact xE_exf g.mo.xf hz hf h1 h2 h3 h4 fun q C hq hf => g.mo.fld _ _ (of_decide_eq_true h.2) q C hq hf
    · cases h
  | .exis j q, ea, h => by
    unfold okXE at h
    split at h
    · simp only [Bool.and_eq_true, decide_eq_true_eq] at h
      obtain ⟨⟨⟨⟨h0, h1⟩, h2⟩, h3⟩, h4⟩ := h
      subst h0
      obtain ⟨n1, n2, n3, n4⟩ := nm_ok g h2
      obtain ⟨g1, g2⟩ := gl_ok g h3
      obtain ⟨C, hC, hm⟩ := g.mo.cls _ _ h4
      exact xE_exis g.mo.xf hz hf n1 n2 n3 n4 hC (pe_glob (X := X.suite a ((a, eo) :: pn)) g1 hm rfl g2) (gl_ok g h1).1 g.mo.isi
    · cases h
  | .tup es, ea, h => by
    unfold okXE at h
    split at h
    · rw [Bool.and_eq_true] at h
      exact xE_tup (of_decide_eq_true h.1) (sndXs g hz hf es h.2).1
    · cases h
  | .ife t e1 e2, ea, h => by
    unfold okXE at h
    split at h
    · rename_i j q a0 a1 a2 p
      simp only [Bool.and_eq_true] at h
      obtain ⟨⟨h0, h1⟩, h2⟩ := h
      have q0 := sndX (o := o) (pn := pn) (a := a) g hz hf (.exis j q) h0
      have q1 := sndX (o := o) (pn := pn) (a := a) g hz hf e1 h1
      have q2 := sndX (o := o) (pn := pn) (a := a) g hz hf e2 h2
      refine xE_ife (Y := X.suite a ((a, eo) :: pn)) rfl ?_ q0 q1 q2
      unfold okXE at h0
      split at h0
      · exact fun _ => rfl
      · cases h0
    · cases h
  | .var _, ea, h => by unfold okXE at h; cases h
  | .bor _, ea, h => by unfold okXE at h; cases h
  | .g _, ea, h => by unfold okXE at h; cases h
  | .bin _ _ _, ea, h => by unfold okXE at h; cases h
  | .neg _, ea, h => by unfold okXE at h; cases h
  | .cmp _ _ _, ea, h => by unfold okXE at h; cases h
  | .chain _ _ _ _ _, ea, h => by unfold okXE at h; cases h
  | .and _, ea, h => by unfold okXE at h; cases h
  | .or _, ea, h => by unfold okXE at h; cases h
  | .not _, ea, h => by unfold okXE at h; cases h
  | .lst _, ea, h => by unfold okXE at h; cases h
  | .dcc _ _, ea, h => by unfold okXE at h; cases h
  | .ix _ _, ea, h => by unfold okXE at h; cases h
  | .slF _ _, ea, h => by unfold okXE at h; cases h
  | .slT _ _, ea, h => by unfold okXE at h; cases h
  | .slFT _ _ _, ea, h => by unfold okXE at h; cases h
  | .call _ _, ea, h => by unfold okXE at h; cases h
  | .bi _ _, ea, h => by unfold okXE at h; cases h
  | .isi _ _, ea, h => by unfold okXE at h; cases h
  | .me _ _ _, ea, h => by unfold okXE at h; cases h
  | .lc _ _ _ _, ea, h => by unfold okXE at h; cases h
  | .lc2 _ _ _ _ _, ea, h => by unfold okXE at h; cases h
theorem sndXs {a : Addr} {eo : Obj} {cls : Value} {d : Option Addr} {pn : List (Addr × Obj)} {o : Option Nat} (g : Good c G k X) (hz : Zc cls d eo) (hf : ∃ vs, eo.data = .fields vs) : ∀ (es : Es) {eas : List Expr}, okXEs c es eas = true → PA (X.suite a ((a, eo) :: pn)) eas (tXs G X.K X.w o a cls d es) ∧ True
  | .nil, eas, h => by
    unfold okXEs at h
    have := List.isEmpty_iff.mp h
    subst this
    exact ⟨xA_nil, trivial⟩
  | .cons e es, eas, h => by
    unfold okXEs at h
    split at h
    · simp only [Bool.and_eq_true] at h
      obtain ⟨⟨h0, h1⟩, h2⟩ := h
      exact ⟨xA_cons (Y := X.suite a ((a, eo) :: pn)) (sndX g hz hf e h1) (sndXs g hz hf es h2).1 (star_cons h0), trivial⟩
    · cases h
end
theorem sndH (g : Good c G k X) : ∀ (hs : Hs) {cs : List ExceptHandler}, okHs c hs cs = true → ∃ l, ClOf G X.K X.w hs l ∧ Cls X cs l
  | .nil, cs, h => by
    unfold okHs at h
    have := List.isEmpty_iff.mp h
    subst this
    exact ⟨[], .nil, .nil⟩
  | .cons n o ss hs, cs, h => by
    unfold okHs at h
    split at h
    · rename_i x _ nm ea rp _ cs
      simp only [Bool.and_eq_true, decide_eq_true_eq] at h
      obtain ⟨⟨⟨⟨h1, h2⟩, h3⟩, h4⟩, h5⟩ := h
      obtain ⟨l, l1, l2⟩ := sndH g hs h5
      obtain ⟨C, hC, hm⟩ := g.mo.cls _ _ h2
      obtain ⟨g1, g2⟩ := gl_ok g h1
      have nc : Names X x (.ref C) := ⟨g1, g2, .inl hm⟩
      split at h4
      · rename_i e
        rw [Bool.and_eq_true] at h4
        have su : ∀ (a : Addr) (eo : Obj) (cls : Value) (d : Option Addr) (pn : List (Addr × Obj)), Zc cls d eo → (∃ vs, eo.data = .fields vs) → PSs (X.suite a ((a, eo) :: pn)) [.Return (some ea) rp] (tSu G X.K X.w o (.cons (.ret e) .nil) a cls d) := fun a eo cls d pn hz hf => su_ret (Y := X.suite a ((a, eo) :: pn)) h4.1 (sndX g hz hf e h4.2)
        refine ⟨_, .cons hC l1, ?_⟩
        unfold hdB at h3
        split at h3
        · exact .plain nc rfl su l2
        · rw [Bool.and_eq_true] at h3
          exact .named nc rfl (by rw [g.N]; exact of_decide_eq_true h3.1) (by show X.env.scope.names.lookup _ = _; rw [g.sc]; exact of_decide_eq_true h3.2) su l2
        · cases h3
      · cases h4
    · cases h
/-- x = a -/
theorem snd_asg {i : Nat} {e : Cz.E} {x : Str} {px pos : Pos} {a : Expr} {B : Bas} {W : Wi} (g : Good c G k X) (tk : Takes X (WD G X.K X.w B W)) (hi : c.N[i]? = some x) (hl : locB c x = true) (h : okE c e a = true)
    (hk : stoB c a = true) : PS X (.Assign [.Name x px] a pos) (tAsg (tE G X.K X.w B W e) (gName i)) := by
  have hi : X.N[i]? = some x := by rw [g.N]; exact hi
  obtain ⟨l1, l2⟩ := loc_ok g hl
  have s1 := sndE e g h
  by_cases nc : notComp a = true
  · exact ps_set g.nd hi l1 (s1.pe B W tk) (sw_not nc _ _ _) l2
  · cases a with
    | ListComp elt gens scope pc =>
      have kf : X.env.scope.kind = .function := by rw [g.sc]; exact of_decide_eq_true hk
      by_cases sw : swB c x px scope pc = true
      · unfold swB at sw
        simp only [Bool.and_eq_true, decide_eq_true_eq, Bool.not_eq_true'] at sw
        obtain ⟨⟨w1, w2⟩, w3⟩ := sw
        rw [← g.sc] at w1
        have hsw : swapsWith (.ListComp elt gens scope pc) (some (.Name x px)) pos.line X.env = pure true := sw_true kf w1 w2 w3
        cases e with
        | lc t it cs e =>
          match gens, h with
          | [], h => unfold okE at h; cases h
          | [⟨tg, iter, ifs, asy⟩], h =>
            unfold okE at h
            simp only [Bool.and_eq_true, decide_eq_true_eq] at h
            obtain ⟨⟨⟨⟨⟨⟨⟨h0, h1⟩, h2⟩, h3⟩, h4⟩, h5⟩, h6⟩, h7⟩ := h
            subst h0
            have b := blkOk_by h3
            rw [← g.N, ← g.sc] at b
            rw [← h4]
            rw [g.N] at b
            have z := ps_setLc (X := X) (py := px) (spos := pos) (i := i) (y := x) (g := fun v σ H Q => ∃ B, tGt X.K X.w B ((ownOf c.N t).map (·.2)) v σ H Q) (tt := fun σ H Q => ∃ B, tTs G X.K X.w B cs σ H Q) (te := fun σ H Q => ∃ B, tE G X.K X.w B W0 e σ H Q) g.calm g.nd hi w1 hsw (sndI it g h2 B W tk) (by rw [g.N]; exact b)
              (fun s H C cl fp => PG.any fun B => by rw [h4]; exact tg_ok (g.blk scope s H C cl fp) h5 B) (fun s H C cl fp => PTs.any fun B => sndT cs (g.blk scope s H C cl fp) h6 B) (fun s H C cl fp => PE.any fun B => (sndE e (g.blk scope s H C cl fp) h7).pe B W0 takesF) (folded h1 X.env)
            exact z.imp fun D σ H h => sLc h
          | ⟨_, _, _, _⟩ :: _ :: _, h => unfold okE at h; cases h
        | lc2 t it t2 it2 e =>
          match gens, h with
          | [], h => unfold okE at h; cases h
          | [⟨_, _, [], _⟩], h => unfold okE at h; cases h
          | [⟨_, _, _ :: _, _⟩], h => unfold okE at h; cases h
          | [⟨tg, iter, [], asy⟩, ⟨tg2, iter2, [], asy2⟩], h =>
            unfold okE at h
            simp only [Bool.and_eq_true, decide_eq_true_eq] at h
            obtain ⟨⟨⟨⟨⟨⟨⟨⟨⟨⟨h0, h0'⟩, h1⟩, h1'⟩, h2⟩, h3⟩, h4⟩, h5⟩, h6⟩, h6'⟩, h7⟩ := h
            subst h0 h0'
            have b := blkOk_by h3
            rw [← g.N, ← g.sc] at b
            rw [g.N] at b
            have z := ps_setLc2 (X := X) (py := px) (spos := pos) (i := i) (y := x) (own := ownOf c.N (t ++ t2)) (vs1 := t2) (g := fun v σ H Q => ∃ B, tGt X.K X.w B t v σ H Q) (tt := tYes) (tt1 := tYes) (wi1 := fun σ H R => ∃ B, tI G X.K X.w B it2 σ H R) (g1 := fun v σ H Q => ∃ B, tGt X.K X.w B t2 v σ H Q) (te := fun σ H Q => ∃ B, tE G X.K X.w B W0 e σ H Q) g.calm g.nd hi w1 hsw (sndI it g h2 B W tk) (by rw [g.N]; exact b)
              (fun i hi => by rw [h4]; exact List.mem_append_right _ hi)
              (fun s H C cl fp => PG.any fun B => tg_ok (g.blk scope s H C cl fp) h5 B) (fun s H C cl fp => pts_nil) (fun s H C cl fp => PI.any fun B => sndI it2 (g.blk scope s H C cl fp) h6 B W0 takesF) (fun s H C cl fp => PG.any fun B => tg_ok (g.blk scope s H C cl fp) h6' B) (fun s H C cl fp => pts_nil)
              (fun s H C cl fp => PE.any fun B => (sndE e (g.blk scope s H C cl fp) h7).pe B W0 takesF) (folded h1 X.env) (folded h1')
            rw [h4] at z
            exact z.imp fun D σ H h => sLc2 h
          | [⟨_, _, _ :: _, _⟩, _], h => unfold okE at h; cases h
          | [⟨_, _, [], _⟩, ⟨_, _, _ :: _, _⟩], h => unfold okE at h; cases h
          | ⟨_, _, _ :: _, _⟩ :: _ :: _ :: _, h => unfold okE at h; cases h
          | ⟨_, _, [], _⟩ :: ⟨_, _, _ :: _, _⟩ :: _ :: _, h => unfold okE at h; cases h
          | ⟨_, _, [], _⟩ :: ⟨_, _, [], _⟩ :: _ :: _, h => unfold okE at h; cases h
        | me m e1 es => unfold okE at h; split at h <;> first | cases h | contradiction
        | _ => unfold okE at h; cases h
      · refine ps_set g.nd hi l1 (s1.pe B W tk) ?_ l2
        have e1 : swapsWith (.ListComp elt gens scope pc) (some (.Name x px)) pos.line X.env = pure (X.env.blockKind == .function && X.env.kindOf x == some .local && px.line == pc.line && !(scope.names.any fun (n, k) => n == x && (k == .local || k == .cell))) := rfl
        rw [e1]
        congr 1
        unfold swB at sw
        rw [← g.sc] at sw
        have e2 : (X.env.kindOf x == some .local) = decide (X.env.scope.names.lookup x = some .local) := by
          show (X.env.scope.names.lookup x == some NameKind.local) = _
          rw [Bool.eq_iff_iff]
          simp
        rw [e2]
        cases q1 : decide (X.env.scope.names.lookup x = some .local) <;> cases q2 : (px.line == pc.line) <;> cases q3 : (scope.names.any fun (n, k) => n == x && (k == .local || k == .cell)) <;> rw [q1, q2, q3] at sw <;> simp at sw ⊢
    | SetComp _ _ _ _ => cases hk
    | DictComp _ _ _ _ _ => cases hk
    | _ => exact absurd rfl nc
end
end Cs
end
section
set_option Elab.async false
set_option linter.all false
set_option maxRecDepth 100000
set_option maxHeartbeats 8000000
/-! SOUND 25: the checker of statements is right. -/
namespace Cs
open PySem L2 Cz PyProof.Rows
section
variable {G : Fx} {k : Nat}
/-- where a body stands -/
structure Bod (c : Cn) (G : Fx) (k : Nat) (X : Cx) : Prop where
  g : Good c G k X
  stk : X.stack = X.env :: X.outer
  frm : X.env.frame = some X.env.locals
  po : PassesOwn (model X.prog X.w) X.A X.env X.xe
theorem Bod.tr {c : Cn} {X : Cx} (b : Bod c G k X) {pn : List (Addr × Obj)} {xe : Value → Shared → Prop} (po : PassesOwn (model X.prog X.w) X.A X.env xe) : Bod c G k (X.tr pn xe) := ⟨⟨b.g.N, b.g.nd, b.g.sc, b.g.fn, b.g.calm, b.g.room, b.g.mo⟩, b.stk, b.frm, po⟩
mutual
theorem sndS : ∀ (s : Cz.S) {c : Cn} {X : Cx} {st : Stmt}, Bod c G k X → okS c s st = true → ∀ {B : Bas} {W : Wi}, Takes X (WD G X.K X.w B W) → PS X st (tR X.K X.w B W (evS G.M G.C s))
  | .asg i e, c, X, st, b, h, B, W, tk => by
    unfold okS at h
    split at h
    · simp only [Bool.and_eq_true, decide_eq_true_eq] at h
      obtain ⟨⟨⟨h1, h2⟩, h3⟩, h4⟩ := h
      exact sS_asgG (snd_asg b.g tk h1 h2 h3 h4)
    · cases h
  | .asgT t e, c, X, st, b, h, B, W, tk => by
    unfold okS at h
    split at h
    · simp only [Bool.and_eq_true] at h
      obtain ⟨⟨⟨h1, h2⟩, h3⟩, h4⟩ := h
      exact sS_asgT ((sndE e b.g h2).pe B W tk) (tg_ok b.g h1 B) (by rw [swapsWithSole]; exact sw_not h3 _ _ _) (ss_not h4 _) rfl
    · cases h
  | .asgIx i q e, c, X, st, b, h, B, W, tk => by
    unfold okS at h
    split at h
    · simp only [Bool.and_eq_true] at h
      obtain ⟨⟨⟨⟨h1, h2⟩, h3⟩, h4⟩, h5⟩ := h
      obtain ⟨n1, n2, n3, n4⟩ := nm_ok b.g h1
      exact sS_asgIx n1 n2 n3 n4 ((sndE e b.g h4).pe B W tk) ((sndE q b.g h3).pe B W tk) (by rw [swapsWithSole]; exact sw_not h5 _ _ _) fun v => asg_sub h2 _ v
    · cases h
  | .app i e, c, X, st, b, h, B, W, tk => by
    unfold okS at h
    split at h
    · simp only [Bool.and_eq_true, decide_eq_true_eq] at h
      obtain ⟨⟨⟨⟨h1, h2⟩, h3⟩, h4⟩, h5⟩ := h
      subst h1
      obtain ⟨n1, n2, n3, n4⟩ := nm_ok b.g h2
      exact sS_app n1 n2 n3 n4 ((sndE e b.g h4).pe B W tk) (star_cons h3) h5
    · cases h
  | .ex e, c, X, st, b, h, B, W, tk => by
    unfold okS at h
    split at h
    · rw [Bool.and_eq_true] at h
      exact sS_ex ((sndE e b.g h.1).pe B W tk) (sw_not h.2 _ _ _)
    · cases h
  | .ret e, c, X, st, b, h, B, W, tk => by
    unfold okS at h
    split at h
    · rename_i a p
      have s1 := sndE e b.g h
      cases e with
      | var i =>
        unfold okE at h
        split at h
        · obtain ⟨n1, n2, n3, n4⟩ := nm_ok b.g h
          exact sS_retV n1 n2 n3 n4
        · cases h
      | _ => exact sS_ret (fun i z => by cases z) (s1.pe B W tk)
    · cases h
  | .retN, c, X, st, b, h, B, W, tk => by
    unfold okS at h
    split at h
    · exact sS_retN
    · cases h
  | .ife t s1 s2, c, X, st, b, h, B, W, tk => by
    unfold okS at h
    split at h
    · simp only [Bool.and_eq_true] at h
      obtain ⟨⟨h1, h2⟩, h3⟩ := h
      exact sS_if ((sndE t b.g h1).pt B W tk) (sndSs s1 b h2 tk) (sndSs s2 b h3 tk)
    · cases h
  | .for_ t it body, c, X, st, b, h, B, W, tk => by
    unfold okS at h
    split at h
    · simp only [Bool.and_eq_true] at h
      obtain ⟨⟨⟨h1, h2⟩, h3⟩, h4⟩ := h
      exact sS_for b.po b.g.calm (sndI it b.g h2 B W tk) (tg_ok b.g h3 B) (sndSs body b h4 tk) (folded h1 _)
    · cases h
  | .while_ t body, c, X, st, b, h, B, W, tk => by
    unfold okS at h
    split at h
    · rw [Bool.and_eq_true] at h
      exact sS_while b.po ((sndE t b.g h.1).pt B W tk) (sndSs body b h.2 tk)
    · cases h
  | .raise n e, c, X, st, b, h, B, W, tk => by
    unfold okS at h
    split at h
    · simp only [Bool.and_eq_true, decide_eq_true_eq] at h
      obtain ⟨⟨⟨h1, h2⟩, h3⟩, h4⟩ := h
      obtain ⟨g1, g2⟩ := gl_ok b.g h1
      exact sS_raise b.g.calm tk (b.g.mo.made _ _ h2 X rfl rfl rfl rfl rfl b.g.calm b.g.room g1 g2 B W e _ _ _ (star_cons h3) ((sndE e b.g h4).pe B W tk))
    · cases h
  | .try_ body hs, c, X, st, b, h, B, W, tk => by
    unfold okS at h
    split at h
    · rw [Bool.and_eq_true] at h
      obtain ⟨l, l1, l2⟩ := sndH b.g hs h.2
      exact sS_try b.g.mo.xf b.g.nd b.stk b.frm tk (fun B W pn xe tk1 po => sndSs body (b.tr po) h.1 tk1) l1 l2
    · cases h
  | .pass, c, X, st, b, h, B, W, tk => by
    unfold okS at h
    split at h
    · exact sS_pass
    · cases h
  | .brk, c, X, st, b, h, B, W, tk => by
    unfold okS at h
    split at h
    · exact sS_brk
    · cases h
  | .cnt, c, X, st, b, h, B, W, tk => by
    unfold okS at h
    split at h
    · exact sS_cnt
    · cases h
theorem sndSs : ∀ (ss : Ss) {c : Cn} {X : Cx} {sts : List Stmt}, Bod c G k X → okSs c ss sts = true → ∀ {B : Bas} {W : Wi}, Takes X (WD G X.K X.w B W) → PSs X sts (tR X.K X.w B W (evSs G.M G.C ss))
  | .nil, c, X, sts, b, h, B, W, tk => by
    unfold okSs at h
    have := List.isEmpty_iff.mp h
    subst this
    exact sS_nil
  | .cons s ss, c, X, sts, b, h, B, W, tk => by
    unfold okSs at h
    split at h
    · rw [Bool.and_eq_true] at h
      exact sS_cons (sndS s b h.1 tk) (sndSs ss b h.2 tk)
    · cases h
end
end
end Cs
end
section
set_option Elab.async false
set_option linter.all false
set_option maxRecDepth 100000
set_option maxHeartbeats 8000000
/-! SOUND 26: a def. -/
namespace Cs
open PySem L2 Cz PyProof.Rows
/-- the lent lists by their slots -/
def lix : Nat → List V → List Cz.Arg → List (Nat × Addr)
  | i, v :: vs, .o _ :: as => (match v with | .ref p => [(i, p)] | _ => []) ++ lix (i + 1) vs as
  | i, _ :: vs, .a _ :: as => lix (i + 1) vs as
  | _, _, _ => []
theorem lix_snd : ∀ (i : Nat) (vs : List V) (as : List Cz.Arg), (lix i vs as).map (·.2) = lentsOf vs as
  | i, v :: vs, .o _ :: as => by
    unfold lix lentsOf
    rw [List.map_append, lix_snd (i + 1) vs as]
    cases v <;> rfl
  | i, _ :: vs, .a _ :: as => by unfold lix lentsOf; exact lix_snd (i + 1) vs as
  | _, [], _ => by unfold lix lentsOf; rfl
  | _, _ :: _, [] => by unfold lix lentsOf; rfl
abbrev slArg : Cz.Arg → Sl := fun a => match a with | .a d => Sl.d d | .o xs => Sl.own true xs
theorem startEnv_eq (as : List Cz.Arg) (n : Nat) : startEnv as n = as.map slArg ++ List.replicate (n - as.length) Sl.no := rfl
section
variable {K : PySem.W.Frag} {w : World} {F H F' H' : Hp}
theorem Argvs.len : ∀ {vs : List V} {as : List Cz.Arg}, Argvs K w F H vs as → vs.length = as.length
  | _, _, .nil => rfl
  | _, _, .a _ r => by rw [List.length_cons, List.length_cons, Argvs.len r]
  | _, _, .o _ _ _ _ r => by rw [List.length_cons, List.length_cons, Argvs.len r]
theorem Argvs.dat : ∀ {vs : List V} {as : List Cz.Arg} {i : Nat} {x : D}, Argvs K w F H vs as → as[i]? = some (.a x) → ∃ v, vs[i]? = some v ∧ DV K w F v x
  | _, _, _, _, .nil, h => by simp at h
  | _, _, 0, x, .a dv _, h => by
    simp at h; subst h; exact ⟨_, rfl, dv⟩
  | _, _, i + 1, x, .a _ r, h => by
    obtain ⟨v, a, b⟩ := Argvs.dat (i := i) r (by simpa using h)
    exact ⟨v, by simpa using a, b⟩
  | _, _, 0, x, .o _ _ _ _ _, h => by simp at h
  | _, _, i + 1, x, .o _ _ _ _ r, h => by
    obtain ⟨v, a, b⟩ := Argvs.dat (i := i) r (by simpa using h)
    exact ⟨v, by simpa using a, b⟩
theorem Argvs.own : ∀ {vs : List V} {as : List Cz.Arg} {i : Nat} {xs : List D} (j : Nat), Argvs K w F H vs as → as[i]? = some (.o xs) → ∃ p us, vs[i]? = some (V.ref p) ∧ F p = none ∧ H p = some (.lst us) ∧ DVs K w F us xs ∧ xs.length ≤ Lim ∧ (j + i, p) ∈ lix j vs as
  | _, _, _, _, _, .nil, h => by simp at h
  | _, _, 0, xs, j, .a dv _, h => by simp at h
  | _, _, i + 1, xs, j, .a _ r, h => by
    obtain ⟨p, us, a, b, c, d, e, f⟩ := Argvs.own (i := i) (j + 1) r (by simpa using h)
    refine ⟨p, us, by simpa using a, b, c, d, e, ?_⟩
    unfold lix
    rw [show j + (i + 1) = j + 1 + i by omega]; exact f
  | _, _, 0, xs, j, .o b c d e r, h => by
    simp at h; subst h
    refine ⟨_, _, rfl, b, c, d, e, ?_⟩
    unfold lix
    simp
  | _, _, i + 1, xs, j, .o _ _ _ _ r, h => by
    obtain ⟨p, us, a, b, c, d, e, f⟩ := Argvs.own (i := i) (j + 1) r (by simpa using h)
    refine ⟨p, us, by simpa using a, b, c, d, e, ?_⟩
    unfold lix
    rw [show j + (i + 1) = j + 1 + i by omega]
    exact List.mem_append_right _ f
theorem Argvs.lix : ∀ {vs : List V} {as : List Cz.Arg} (j : Nat) {q : Nat × Addr}, Argvs K w F H vs as → q ∈ Cs.lix j vs as → ∃ i xs, q.1 = j + i ∧ as[i]? = some (.o xs) ∧ vs[i]? = some (V.ref q.2)
  | _, _, _, _, .nil, h => by unfold Cs.lix at h; cases h
  | _, _, j, q, .a _ r, h => by
    unfold Cs.lix at h
    obtain ⟨i, xs, a, b, c⟩ := Argvs.lix (j + 1) r h
    exact ⟨i + 1, xs, by omega, by simpa using b, by simpa using c⟩
  | _, _, j, q, .o (p := p) _ _ _ _ r, h => by
    unfold Cs.lix at h
    rcases List.mem_append.mp h with h | h
    · have e : q = (j, p) := by simpa using h
      subst e
      exact ⟨0, _, rfl, rfl, rfl⟩
    · obtain ⟨i, xs, a, b, c⟩ := Argvs.lix (j + 1) r h
      exact ⟨i + 1, xs, by omega, by simpa using b, by simpa using c⟩
theorem nodup_ix {l : List (Nat × Addr)} (n : (l.map (·.2)).Nodup) {a b : Nat × Addr} (ha : a ∈ l) (hb : b ∈ l) (e : a.2 = b.2) : a = b := by
  induction l with
  | nil => cases ha
  | cons x r ih =>
    rw [List.map_cons, List.nodup_cons] at n
    rcases List.mem_cons.mp ha with ha | ha
    · rcases List.mem_cons.mp hb with hb | hb
      · rw [ha, hb]
      · exact absurd (List.mem_map.mpr ⟨b, hb, by rw [← e, ha]⟩) n.1
    · rcases List.mem_cons.mp hb with hb | hb
      · exact absurd (List.mem_map.mpr ⟨a, ha, by rw [e, hb]⟩) n.1
      · exact ih n.2 ha hb
/-- the entry -/
theorem start_rep {N : List Str} {vs : List V} {as : List Cz.Arg} (ex : Ex F H) (av : Argvs K w F H vs as) (nd : (lentsOf vs as).Nodup) (hn : vs.length ≤ N.length) : Rep K w ⟨F, H, Cs.lix 0 vs as⟩ F H (L2.start N vs) (startEnv as N.length) := by
  have hl := av.len
  have sv : ∀ (i : Nat) (y : Option V), i < vs.length → ((L2.start N vs)[i]? = some y ↔ (vs[i]?).map some = some y) := fun i y h => by
    unfold L2.start
    rw [List.getElem?_append_left (by rw [List.length_map]; exact h), List.getElem?_map]
  have sa : ∀ (i : Nat), i < as.length → (startEnv as N.length)[i]? = (as[i]?).map slArg := fun i h => by
    rw [startEnv_eq, List.getElem?_append_left (by rw [List.length_map]; exact h), List.getElem?_map]
  have so : ∀ (i : Nat) (z : Sl), ¬ i < as.length → (startEnv as N.length)[i]? = some z → z = .no := fun i z h e => by
    rw [startEnv_eq, List.getElem?_append_right (by rw [List.length_map]; omega), List.getElem?_replicate] at e
    split at e
    · exact (Option.some.inj e).symm
    · cases e
  have own : ∀ (i : Nat) (l : Bool) (xs : List D), (startEnv as N.length)[i]? = some (Sl.own l xs) → l = true ∧ i < as.length ∧ as[i]? = some (.o xs) := fun i l xs e => by
    by_cases h : i < as.length
    · rw [sa i h] at e
      obtain ⟨a, ha, e2⟩ := Option.map_eq_some_iff.mp e
      cases a with
      | a d => cases e2
      | o ys => cases e2; exact ⟨rfl, h, ha⟩
    · have := so i _ h e
      cases this
  exact {
    fe := .refl F
    fh := ex
    len := by
      rw [startEnv_eq]
      unfold L2.start
      rw [List.length_append, List.length_append, List.length_map, List.length_map, List.length_replicate, List.length_replicate, hl]
    dat := fun i x e => by
      by_cases h : i < as.length
      · rw [sa i h] at e
        obtain ⟨a, ha, e2⟩ := Option.map_eq_some_iff.mp e
        cases a with
        | o ys => cases e2
        | a d =>
          cases e2
          obtain ⟨v, hv, dv⟩ := av.dat ha
          exact ⟨v, (sv i _ (by rw [hl]; exact h)).mpr (by rw [hv]; rfl), dv⟩
      · have := so i _ h e
        cases this
    own := fun i l xs e => by
      obtain ⟨e1, h, ha⟩ := own i l xs e
      obtain ⟨p, us, a, b, c, d, e2, f⟩ := av.own 0 ha
      rw [Nat.zero_add] at f
      exact ⟨p, us, (sv i _ (by rw [hl]; exact h)).mpr (by rw [a]; rfl), b, c, d, e2, fun z => (by rw [e1] at z; cases z), fun _ => f⟩
    apart := fun i j l l' xs ys p ei ej si sj => by
      obtain ⟨_, hi, hai⟩ := own i l xs ei
      obtain ⟨_, hj, haj⟩ := own j l' ys ej
      obtain ⟨p1, _, a1, _, _, _, _, f1⟩ := av.own 0 hai
      obtain ⟨p2, _, a2, _, _, _, _, f2⟩ := av.own 0 haj
      rw [sv i _ (by rw [hl]; exact hi), a1] at si
      rw [sv j _ (by rw [hl]; exact hj), a2] at sj
      have q1 : p1 = p := by simpa using si
      have q2 : p2 = p := by simpa using sj
      have := nodup_ix (by rw [lix_snd]; exact nd) f1 f2 (by show p1 = p2; rw [q1, q2])
      have := congrArg Prod.fst this
      simpa using this
    lent := fun q hq => by
      obtain ⟨i, xs, a, b, c⟩ := av.lix 0 hq
      rw [Nat.zero_add] at a
      have hi : i < as.length := (List.getElem?_eq_some_iff.mp b).1
      rw [a]
      exact ⟨⟨xs, by rw [sa i hi, b]; rfl⟩, (sv i _ (by rw [hl]; exact hi)).mpr (by rw [c]; rfl)⟩
    frame := fun a o h _ => h
    mask := fun a _ h => h }
/-- the lists that come back -/
theorem outs_ok {B : Bas} {σ : List (Option V)} {ρ : List Sl} (r : Rep K w B F' H' σ ρ) : ∀ {vs : List V} {as : List Cz.Arg} {os : List (List D)} (j : Nat), Argvs K w F H vs as → (∀ q ∈ Cs.lix j vs as, σ[q.1]? = some (some (V.ref q.2))) → outsOf as (ρ.drop j) = some os → Outs K w F' H' vs as os
  | _, _, os, j, .nil, _, h => by unfold outsOf at h; cases h; exact .nil
  | _, _, os, j, .a dv rest, hq, h => by
    cases hd : ρ.drop j with
    | nil => rw [hd] at h; unfold outsOf at h; cases h
    | cons z q =>
      rw [hd] at h
      unfold outsOf at h
      have e : q = ρ.drop (j + 1) := by
        have := congrArg List.tail hd
        rw [List.tail_drop] at this
        exact this.symm
      rw [e] at h
      exact .a (outs_ok r (j + 1) rest (fun p hp => hq p (by unfold Cs.lix; exact hp)) h)
  | _, _, os, j, .o (p := p) f1 h1 d1 l1 rest, hq, h => by
    cases hd : ρ.drop j with
    | nil => rw [hd] at h; unfold outsOf at h; cases h
    | cons z q =>
      rw [hd] at h
      have hz : ρ[j]? = some z := by
        have := congrArg (·[0]?) hd
        simpa using this
      have e : q = ρ.drop (j + 1) := by
        have := congrArg List.tail hd
        rw [List.tail_drop] at this
        exact this.symm
      cases z with
      | own l ys =>
        cases l with
        | false => unfold outsOf at h; cases h
        | true =>
          unfold outsOf at h
          obtain ⟨os', h2, h3⟩ := Option.map_eq_some_iff.mp h
          subst h3
          rw [e] at h2
          have sp := hq (j, p) (by unfold Cs.lix; simp)
          obtain ⟨p', us, s1, f2, h4, d2, l2, _⟩ := r.own j _ _ hz
          rw [sp] at s1
          cases s1
          exact .o f2 h4 d2 l2 (outs_ok r (j + 1) rest (fun p hp => hq p (by unfold Cs.lix; exact List.mem_append_right _ hp)) h2)
      | no => unfold outsOf at h; cases h
      | d _ => unfold outsOf at h; cases h
      | exn _ => unfold outsOf at h; cases h
end
/-- a def's scope, looked at -/
def scB (N P : List Str) (q : Scope) : Bool :=
  decide (q.kind = .function) && (!q.isCoroutine && (!q.isGenerator && (decide N.Nodup && (decide (N.take P.length = P) && (P.all (fun y => decide (q.names.lookup y = some .local) || decide (q.names.lookup y = some .cell)) && q.names.all (fun y => decide (y.2 ≠ .free)))))))
theorem scope_ok {N P : List Str} {q : Scope} (h : scB N P q = true) : FnScope N P q := by
  unfold scB at h
  simp only [Bool.and_eq_true, Bool.not_eq_true', decide_eq_true_eq, List.all_eq_true, Bool.or_eq_true] at h
  obtain ⟨a, b, c, d, e, f, g⟩ := h
  exact ⟨a, b, c, d, e, f, g⟩
/-- the meaning of calls, one level up -/
theorem def_ok {T : Tab} {G : Fx} {k : Nat} {P : Program} {w : World} {K : PySem.W.Frag} {mg : Str → Option Value} {base : Heap} {C' : Nat → List Cz.Arg → Rc} {x qual : Str} {st : Stmt} {addr : Addr} {fd : FuncData} {N ps : List Str} {f : Nat} {Fd : Cz.Fn}
    (gm : GoodM T G k P w K mg base) (fn : Fun K x qual st addr fd) (hs : scB N ps (defScope st) = true) (hp : ps.length = Fd.np) (hn : N.length = Fd.ns) (hle : ps.length ≤ N.length) (hok : okSs ⟨T, N, defScope st, defScope st⟩ Fd.body (defBody st) = true)
    (hC : ∀ as, C' f as = runFn G.M G.C Fd as) : FnOk P w K mg base (L2.CX P w) (k + 1) addr fd ps (spC ⟨G.M, C', G.xa, G.xf⟩ K w f ps.length) := by
  refine Fun.okX fn (scope_ok hs) (fun vs H Q E ⟨F, as, h, _⟩ => h) fun cdv A outer s H vs Q E hr hsp => ?_
  obtain ⟨F, as, hl, ex, av, nd, hm⟩ := hsp
  generalize hX : cxOf (L2.CX P w) P w K mg base N qual (defScope st) addr cdv A outer s H E = X
  have eP : X.prog = P := by rw [← hX]; rfl
  have ew : X.w = w := by rw [← hX]; rfl
  have eK : X.K = K := by rw [← hX]; rfl
  have em : X.mg = mg := by rw [← hX]; rfl
  have eb : X.base = base := by rw [← hX]; rfl
  have stk : X.stack = X.env :: X.outer := by rw [← hX]; rfl
  have frm : X.env.frame = some X.env.locals := by rw [← hX]; rfl
  have hexx : X.ex = [] := by rw [← hX]; rfl
  let B : Bas := ⟨F, H, lix 0 vs as⟩
  have good : Good ⟨T, N, defScope st, defScope st⟩ G k X := {
    N := by rw [← hX]; rfl
    nd := by rw [← hX]; exact (scope_ok hs).nd
    sc := by rw [← hX]; rfl
    fn := fun x _ => by rw [← hX]; rfl
    calm := by rw [← hX]; rfl
    room := by rw [← hX]; exact hr
    mo := by rw [eP, ew, eK, em, eb]; exact gm }
  have po : PassesOwn (model X.prog X.w) X.A X.env X.xe := by
    rw [← hX]
    exact passes_of rfl
  let W : Wi := fun x ρ' => ∀ cls d σ' F' H', Rep K w B F' H' σ' ρ' → XRep G.xa G.xf K w F' H' x cls d → E cls d H'
  have tk : Takes X (WD G X.K X.w B W) := by
    have t0 : Takes X (fun cls d _ H => E cls d H) := by
      rw [← hX]
      exact takes_of rfl rfl rfl rfl
    refine t0.imp fun cls d σ' H' ⟨F', x, ρ', r, xr, hw⟩ => ?_
    rw [eK, ew] at r xr
    exact hw cls d σ' F' H' r xr
  refine ⟨_, sndSs Fd.body ⟨good, stk, frm, po⟩ hok tk, F, startEnv as Fd.ns, ?_, ?_⟩
  · rw [eK, ew, ← hn]
    exact start_rep ex av nd (by rw [hl]; exact hle)
  · rw [eK, ew]
    have hm : (match C' f as with
      | .ok v outs => ∀ u F' H', Aft F H (lentsOf vs as) F' H' → Outs K w F' H' vs as outs → Rv K w H F' H' u v → Q u H'
      | .ex x outs => ∀ cls d F' H', Aft F H (lentsOf vs as) F' H' → Outs K w F' H' vs as outs → XRep G.xa G.xf K w F' H' x cls d → E cls d H'
      | .bad => False) := hm
    rw [hC as] at hm
    unfold runFn at hm
    have la : as.length = Fd.np := by rw [← av.len, hl, hp]
    rw [if_pos la] at hm
    have aft : ∀ {F' H' : Hp} {σ' : List (Option V)} {ρ' : List Sl}, Rep K w B F' H' σ' ρ' → Aft F H (lentsOf vs as) F' H' := fun {F' H' σ' ρ'} r => ⟨r.fe, r.fh, fun a o h1 h2 => r.frame a o h1 fun q hq e => h2 (by rw [← lix_snd 0]; exact List.mem_map.mpr ⟨q, hq, e⟩), r.mask⟩
    have outs : ∀ {F' H' : Hp} {σ' : List (Option V)} {ρ' : List Sl} {os : List (List D)}, Rep K w B F' H' σ' ρ' → outsOf as ρ' = some os → Outs K w F' H' vs as os := fun {F' H' σ' ρ' os} r ho => outs_ok r 0 av (fun q hq => (r.lent q hq).2) (by rw [List.drop_zero]; exact ho)
    cases h1 : evSs G.M G.C Fd.body (startEnv as Fd.ns) with
    | nx ρ' =>
      rw [h1] at hm
      simp only at hm
      cases h2 : outsOf as ρ' with
      | none => rw [h2] at hm; exact hm.elim
      | some os =>
        rw [h2] at hm
        exact fun F' H' σ' _ r => hm .non F' H' (aft r) (outs r h2) .non
    | rt v ρ' =>
      rw [h1] at hm
      simp only at hm
      cases h2 : outsOf as ρ' with
      | none => rw [h2] at hm; cases v <;> exact hm.elim
      | some os =>
        rw [h2] at hm
        cases v with
        | p d => exact fun F' H' σ' u _ r ev => hm u F' H' (aft r) (outs r h2) ev
        | f xs => exact fun F' H' σ' u _ r ev => hm u F' H' (aft r) (outs r h2) (by
            obtain ⟨p, us, rfl, a, b, c, l, d, _⟩ := ev
            exact ⟨p, us, rfl, d, a, b, c, l⟩)
        | b i => exact hm.elim
    | ex x ρ' =>
      rw [h1] at hm
      simp only at hm
      cases h2 : outsOf as ρ' with
      | none => rw [h2] at hm; exact hm.elim
      | some os =>
        rw [h2] at hm
        exact fun cls d σ' F' H' r xr => hm cls d F' H' (aft r) (outs r h2) xr
    | ct ρ' => rw [h1] at hm; exact hm.elim
    | bk ρ' => rw [h1] at hm; exact hm.elim
    | bad => rw [h1] at hm; exact hm.elim
/-- at no level there is no promise -/
theorem def_zero {G : Fx} {k : Nat} {P : Program} {w : World} {K : PySem.W.Frag} {mg : Str → Option Value} {base : Heap} {addr : Addr} {fd : FuncData} {ps : List Str} {f : Nat} (h : ∀ as, G.C f as = .bad) : FnOk P w K mg base (L2.CX P w) k addr fd ps (spC G K w f ps.length) :=
  ⟨fun vs H Q E ⟨F, as, h, _⟩ => h, fun A outer s H args us vs Q E _ _ _ _ ⟨F, as, _, _, _, _, hm⟩ => by rw [h as] at hm; exact hm.elim⟩
end Cs
end
section
set_option Elab.async false
set_option linter.all false
set_option maxRecDepth 100000
set_option maxHeartbeats 8000000
/-! SOUND 28: an error class whose __init__ says super().__init__(text) and keeps its argument. -/
namespace PySem.W
open Lean Elab Tactic Meta PySem PySem.Calls PyProof.Rows PyProof.V PySem.Spec
/-- the bound __init__ called: the error's args are laid anew -/
theorem czBound {prog : Program} {w : World} {A : Around} {E : Value → Shared → Prop} {s : Shared} {Q : Value → Shared → Prop} {u e t0 C N : Addr} {nm q : Str} {bs bm : List Value} {hdct : Bool} {sn : List Str} {sub : List Value} {ab : Bool} {col : Option Bool} {dd : Option Addr} {k0 k1 k2 k3 k5 : Option Value} {rest : List Value}
    (hC : s.heap.get? C = some (excClassObj nm q C N bs bm hdct sn sub ab col dd k0 k1 k2 k3 k5 "ValueError.__new__")) (he : s.heap.get? e = some (excObj C t0 none .none)) (hu : s.heap.get? u = some (kxs_mw "ValueError.__init__" e)) (hz : rest.length ≤ sizeLine)
    (fin : ∀ h' t1, (∀ b o, b ≠ e → s.heap.get? b = some o → h'.get? b = some o) → h'.get? e = some (excObj C t1 none .none) → Q .none { s with heap := h' }) : wpAny (model prog w) A (call (.ref u) rest) Q E s := by
  obtain ⟨hp, gg, dw, tk, os⟩ := s
  refine wpAny_call (codeAny_of_tree ?_)
  show wpAny _ A.in1 (callAny (Value.ref u) ⟨rest, []⟩) _ _ _
  simp only [callAny]
  refine wpAny_bind (wpAny_load hu ?_)
  have isM : (Value.type "method-wrapper" == Value.type "method" || Value.type "method-wrapper" == Value.type "builtin_function_or_method" || Value.type "method-wrapper" == Value.type "method-wrapper") = true := by decide
  simp only [kxs_mw, isM, if_true]
  refine KFB.if_so (by decide) ?_
  refine wpAny_bind (check_bound_init PySem.F.excBase_ValueError.toExcCallFacts hC he rfl ?_)
  refine wpAny_bind (wpAny_pure (wpAny_pure ?_))
  refine ⟨plainId_quiet PySem.F.excBase_ValueError.init.plain _, codeAny_builtin PySem.F.excBase_ValueError.initEntry ?_⟩
  exact exc_init_tree (cls := .ref C) (t0 := t0) (dv := none) (c2 := .none) (c3 := .none) (b4 := .bool false) he hz fun h' k x _ => fin h' _ k x
end PySem.W
namespace Cs
open PySem L2 Cz PyProof.Rows
/-- what the text of an error may tell -/
def TxOk (kd : Nat) (v : V) : Prop := match kd with
  | 0 => True
  | 1 => ∃ i : Int, v = .int i ∧ i.natAbs.log2 < 1920
  | 2 => ∃ y : Str, v = .str y ∧ y.length ≤ Lim
  | _ => False
/-- a text that tells slot 1 -/
def tTx (kd : Nat) : TE := fun σ H Q => ∃ v, σ[1]? = some (some v) ∧ TxOk kd v ∧ ∀ x : Str, Q (.str x) H
/-- the def -/
abbrev iBody (te : Expr) (self pn fld : Str) (q0 q1 q2 q3 q4 q5 q6 q7 q8 : Pos) : List Stmt :=
  [.Expr (.Call (.Attribute (.Call (.Name "super" q0) [] [] q1) "__init__" q2) [te] [] q3) q4, .Assign [.Attribute (.Name self q5) fld q6] (.Name pn q7) q8]
abbrev iNF (qual : Str) (params : Arguments) (body : List Stmt) (scope : Scope) (cc cda : Addr) : NdefX.NF := ⟨"__init__", qual, params, body, scope, [("__class__", cc)], cda⟩
/-- what must be known of a class that has it -/
structure InCls (K : PySem.W.Frag) (D : Addr) (fld : Str) (C : Addr) : Prop where
  oex : OexC K C
  mro : PySem.W.mroIn K C (.ref D) = some true
  sup : PySem.W.ks_superIn K C D "__init__" = some (some (.builtin "ValueError.__init__"))
  ve : PySem.W.subIn K (.ref C) (.type "ValueError") = some true
  fld : PySem.W.findIn K (.ref C) fld = some none
/-- its promise -/
def spI (K : PySem.W.Frag) (D : Addr) (kd : Nat) (fld : Str) : Sp := fun vs H Q E => ∃ (e : Addr) (v : V) (C : Addr), vs = [.ref e, v] ∧ H e = some (exo e C none) ∧ InCls K D fld C ∧ TxOk kd v ∧ ∀ dx, H dx = none → dx ≠ e → Q .non (upd (upd H dx (exd dx [(fld, v)])) e (exo e C (some dx)))
section
variable {CX : CXT} {P : Program} {w : World} {K : PySem.W.Frag} {mg : Str → Option Value} {base : Heap}
theorem init_ok {k kd : Nat} {fI cc cda D : Addr} {qual self pn fld : Str} {params : Arguments} {te : Expr} {scope : Scope} {q0 q1 q2 q3 q4 q5 q6 q7 q8 : Pos} {doc pm ctv oc : Value} {od : Option Addr} {osl : Array (Option Value)}
    (lk : K.lookup fI = some ⟨oc, od, .func ((iNF qual params (iBody te self pn fld q0 q1 q2 q3 q4 q5 q6 q7 q8) scope cc cda).fd doc pm ctv), osl⟩)
    (hcd : PySem.W.codeIn K (.ref cda) qual = true)
    (hcell : ∃ cl cld csl, K.lookup cc = some ⟨cl, cld, .cell (some (.ref D)), csl⟩)
    (hD : (PySem.W.clsIn K D).isSome = true)
    (hcode : ∃ ccl cdd vs ccs file tf, K.lookup cda = some ⟨ccl, cdd, .fields vs, ccs⟩ ∧ vs[2]? = some (.str file tf) ∧ ((P.main.file : Str) == file) = true)
    (hsup : mg "super" = none) (hst : PySem.W.nsIn K cStatics "thirdparty.any" = some none) (htop : (P.main.scope.names.lookup ("super" : Str)).isSome = false)
    (hS : NdefX.nscB [self, pn, "__class__"] [self, pn] ["__class__"] scope = true) (hks : scope.names.lookup ("super" : Str) = some .globalImplicit)
    (hp : ∃ ar : PySem.Arg, (params.posonlyargs ++ params.args).head? = some ar ∧ ar.arg = self)
    (hte : ∀ X : Cx, X.N = [self, pn, "__class__"] → X.env.scope = scope → PE X te (tTx kd)) (hns : nsB te = true) (hline : (q2.endLine == q3.line) = true)
    (hd1 : (self == ("__debug__" : Str)) = false) (hd2 : (self == ("__classdict__" : Str)) = false) (hd3 : (pn == ("__debug__" : Str)) = false) (hd4 : (pn == ("__classdict__" : Str)) = false) :
    FnOk P w K mg base CX (k + 1) fI ((iNF qual params (iBody te self pn fld q0 q1 q2 q3 q4 q5 q6 q7 q8) scope cc cda).fd doc pm ctv) [self, pn] (spI K D kd fld) := by
  have S := NdefX.nscope_by hS
  refine ⟨fun vs H Q E ⟨e, v, C, h, _⟩ => by rw [h]; rfl, fun A outer s H args us vs Q E hr e0 hb rv hsp => ?_⟩
  obtain ⟨e, v, C, rfl, he, hC, htx, q⟩ := hsp
  have KX : K.In s.heap := e0.mod.kin.keeps fun b o y => (e0.bs b o y).1
  have lim : s.heap.NoLimit := e0.mod.nolimit.keeps fun b o y => (e0.bs b o y).1
  have ls : scope.names.lookup self = some .local := S.par self (by simp)
  have lp : scope.names.lookup pn = some .local := S.par pn (by simp)
  have lc : scope.names.lookup ("__class__" : Str) = some .free := S.frk _ (by simp)
  have vs2 := rv
  cases rv with
  | @cons _ ue _ ur re rv =>
  cases rv with
  | @cons _ uv _ ur2 ru rv =>
  cases rv
  obtain rfl : ue = Value.ref e := re
  obtain ⟨cl, cld, csl, hcc⟩ := hcell
  obtain ⟨ccl, cdd, fvs, ccs, file, tf, hco, hfv, hfile⟩ := hcode
  obtain ⟨ar, har, har2⟩ := hp
  obtain ⟨cdD, hcdD⟩ := Option.isSome_iff_exists.mp hD
  refine PySem.ks_codeAny_call_defAt (fd := (iNF qual params (iBody te self pn fld q0 q1 q2 q3 q4 q5 q6 q7 q8) scope cc cda).fd doc pm ctv) (body := iBody te self pn fld q0 q1 q2 q3 q4 q5 q6 q7 q8) (binds := [self, pn].zip [Value.ref e, uv]) hr.depth (KX _ _ lk) rfl lim (PySem.W.codeRec_of KX hcd) rfl hb S.nocell (fun y hy => ?_) (fun h1 hn1 hk1 => ?_) S.co S.gen S.kind
  · exact S.par y.1 (List.of_mem_zip hy).1
  -- the body's context
  have cells : NdefX.CellsAt [(("__class__" : Str), cc)] ["__class__"] [none] s.heap H := {
    len := rfl
    all := fun y c hy => by
      have ec : c = cc := by
        simp only [List.lookup] at hy
        split at hy
        · exact (Option.some.inj hy).symm
        · cases hy
      subst ec
      exact ⟨(e0.bs _ _ (e0.mod.kin _ _ hcc)).2, some (.ref D), ⟨_, KX _ _ hcc, rfl⟩⟩
    inj := fun x y c hx hy => by
      simp only [List.lookup] at hx hy
      split at hx
      · split at hy
        · rename_i a _ b
          rw [eq_of_beq a, eq_of_beq b]
        · cases hy
      · cases hx
    has := fun i y hi => by
      cases i with
      | zero =>
        simp at hi
        subst hi
        exact ⟨cc, by simp, fun v hv => by simp at hv⟩
      | succ i => simp at hi }
  have I0 := NdefX.inv_startN (CX := CX) (P := P) (w := w) (F := iNF qual params (iBody te self pn fld q0 q1 q2 q3 q4 q5 q6 q7 q8) scope cc cda) (f := fI) (E := E) (tk := s.toks + ([self, pn].zip [Value.ref e, uv]).length) S hr.hd e0 rfl vs2 cells hn1 hk1
  generalize hX : NdefX.ncx CX P w K mg base [self, pn, "__class__"] (iNF qual params (iBody te self pn fld q0 q1 q2 q3 q4 q5 q6 q7 q8) scope cc cda) fI A outer s H E = X at I0
  have eP : X.prog = P := by rw [← hX]; rfl
  have ew : X.w = w := by rw [← hX]; rfl
  have eK : X.K = K := by rw [← hX]; rfl
  have em : X.mg = mg := by rw [← hX]; rfl
  have eN : X.N = [self, pn, "__class__"] := by rw [← hX]; rfl
  have eS : X.env.scope = scope := by rw [← hX]; rfl
  have eL : X.env.locals = s.heap.objs.size := by rw [← hX]; rfl
  have eEnv : X.env = PySem.W.envX qual scope s.heap.objs.size fI (.ref cda) [("__class__", cc)] := by rw [← hX]; rfl
  have eA : X.A = A.deeper X.env := by rw [← hX]; rfl
  have exx : X.xe = fun y s' => wpAny (model P w) (A.deeper X.env) (leaving X.env y) (fun _ s'' => CX outer H s E y s'') (fun e' s'' => CX outer H s E e' s'') s' := by rw [← hX]; rfl
  have eO : X.outer = outer := by rw [← hX]; rfl
  have eH : X.H_0 = H := by rw [← hX]; rfl
  have es0 : X.s_0 = s := by rw [← hX]; rfl
  have eex : X.ex = [] := by rw [← hX]; rfl
  show _root_.PySem.wpAt (model P w) (A.deeper (PySem.W.envX qual scope s.heap.objs.size fI (.ref cda) [("__class__", cc)])) (.func _ (PySem.W.envX qual scope s.heap.objs.size fI (.ref cda) [("__class__", cc)])) (execs _ (PySem.W.envX qual scope s.heap.objs.size fI (.ref cda) [("__class__", cc)])) _
    (fun y s' => wpAny (model P w) (A.deeper (PySem.W.envX qual scope s.heap.objs.size fI (.ref cda) [("__class__", cc)])) (leaving (PySem.W.envX qual scope s.heap.objs.size fI (.ref cda) [("__class__", cc)]) y) (fun _ s'' => CX outer H s E y s'') (fun e' s'' => CX outer H s E e' s'') s') _
  rw [← eEnv]
  -- what stands at every later state
  have kin : ∀ {H' : Hp} {σ' : List (Option V)} {pins : List (Addr × Obj)} {z : Shared}, Inv X pins σ' H' z → K.In z.heap := fun {H' σ' pins z} J => by have := J.kIn; rw [eK] at this; exact this
  have kindX : X.env.scope.kind = .function := by rw [eS]; exact S.kind
  have hkS : X.env.kindOf "super" = some .globalImplicit := by show X.env.scope.names.lookup _ = _; rw [eS]; exact hks
  have hkC : X.env.kindOf "__class__" = some .free := by show X.env.scope.names.lookup _ = _; rw [eS]; exact lc
  have hkA : X.env.kindOf ar.arg = some .local := by show X.env.scope.names.lookup _ = _; rw [eS, har2]; exact ls
  have nsp : self ≠ pn := by
    have := S.nd
    simp at this
    exact this.1.1
  obtain ⟨t1, he1⟩ := exo_at I0.hok he
  obtain ⟨oD, hD1, hD2⟩ : ∃ oD, h1.get? D = some oD ∧ oD.data = .cls cdD := by
    unfold PySem.W.clsIn at hcdD
    split at hcdD
    · rename_i ho
      cases hcdD
      exact ⟨_, kin I0 _ _ ho, rfl⟩
    · cases hcdD
  obtain ⟨mb, mb1, mb2⟩ := I0.mod.blt
  have form : methodCallForm 1 (backTo q3 (starEach [te] X.env)) [] = true := by rw [star_cons hns]; rfl
  have shape : eval (.Call (.Attribute (.Call (.Name "super" q0) [] [] q1) "__init__" q2) [te] [] q3) X.env = (do
      let ov ← attributeBase (.Call (.Name "super" q0) [] [] q1) "__init__" X.env (eval (.Call (.Name "super" q0) [] [] q1) X.env)
      standAt q2.atName
      let (f, first) ← holding [ov] (getMethod ov "__init__" (do return (← importBound (.Call (.Name "super" q0) [] [] q1) X.env).getD true))
      callWith q3 f first (backTo q3 (starEach [te] X.env)) []) := by
    have e1 : eval (.Call (.Attribute (.Call (.Name "super" q0) [] [] q1) "__init__" q2) [te] [] q3) X.env = (do
      let ov ← attributeBase (.Call (.Name "super" q0) [] [] q1) "__init__" X.env (eval (.Call (.Name "super" q0) [] [] q1) X.env)
      standAt q2.atName
      methodCall (.Call (.Name "super" q0) [] [] q1) "__init__" q2 q3 X.env ov 1 (backTo q3 (starEach [te] X.env)) []) := rfl
    rw [e1]
    unfold methodCall calleeOf methodCallPos
    rw [form]
    simp only [if_true, Bool.not_true, Bool.false_or, hline, pure_bind]
  refine PySem.ks_wpAt_execs_cons (PySem.ks_wpAt_Expr_any (PySem.ks_wpAt_MethodCall (PySem.ks_wpAt_super_base (f := fI) (cc := cda) hkS hkC (by decide) (by rw [eEnv]) (kin I0 _ _ lk) rfl har (by rw [eEnv]) (kin I0 _ _ hco) rfl hfv hfile htop ?_) shape) I0.quiet rfl)
  refine PySem.W.ks_loadName_global kindX hkS (PySem.Calls.loadGlobal_builtin (by rw [I0.ok.glob]; exact I0.mod.glob.keeps I0.bk) (by rw [em]; exact hsup) (by rw [I0.ok.blt]; exact mb1.keeps I0.bk) (mb2 _ (by decide +kernel)) ⟨rfl, ?_⟩)
  refine wpAny_loadName_free kindX hkC (by rw [eEnv]; simp) ⟨_, kin I0 _ _ hcc, rfl⟩ ?_
  refine wpAny_loadName_local (v := Value.ref e) kindX hkA (by rw [eL]; exact hn1) (by rw [har2]; exact NdefX.zip_look (i := 0) (by simp [nsp]) rfl rfl) ?_
  refine PySem.ks_wpAny_isType_cls hD1 hD2 ⟨rfl, ?_⟩
  refine PySem.ks_wpAny_call_super hD1 hD2 he1 rfl (fun c z => (by cases z)) (PySem.W.looks_mroIn (kin I0) hC.mro) (fun h2 so2 k2 => ?_)
  -- the super object stands
  have I2 : Inv X [] (NdefX.startF [self, pn, "__class__"] [V.ref e, v] [none]) H { s with heap := h2, toks := s.toks + ([self, pn].zip [Value.ref e, uv]).length } := I0.kept k2
  have inst2 : PySem.W.InstAt h2 e { cls := .ref C, dict := none, data := .fields #[.ref t1, .none, .none, .none, .bool false, .none] } C none := ⟨k2 _ _ he1, rfl, rfl, trivial⟩
  obtain ⟨cdC, hcdC, halong⟩ : ∃ cdC, PySem.W.clsIn K C = some cdC ∧ PySem.W.alongIn K "__init__" ((cdC.mro.dropWhile (· != .ref D)).drop 1) = some (some (.builtin "ValueError.__init__")) := by
    have z := hC.sup
    unfold PySem.W.ks_superIn at z
    cases y : PySem.W.clsIn K C with
    | none => rw [y] at z; cases z
    | some cdC => rw [y] at z; exact ⟨cdC, rfl, z⟩
  refine PySem.W.kxs_getMethod PySem.W.kxs_ValueError so2 (PySem.W.looks_opaque (kin I2) hst) (l₀ := cdC.mro) (fun A Q E s k q => wpAny_bind ((PySem.W.looks_clsIn (kin I2) hcdC) A _ E s k (wpAny_pure q))) rfl (kin I2) halong
    (inst2.type.andThen (PySem.W.looks_subIn (kin I2) hC.ve)) (PySem.W.ks_ne (kin I2) inst2 hcdC) (by decide) ?_
  have hu3 : (h2.push (PySem.W.kxs_mw "ValueError.__init__" e)).get? h2.objs.size = some (PySem.W.kxs_mw "ValueError.__init__" e) := Heap.get?_push_size _ rfl
  have I3 : Inv X [] (NdefX.startF [self, pn, "__class__"] [V.ref e, v] [none]) H ⟨h2.push (PySem.W.kxs_mw "ValueError.__init__" e), s.gens, s.drawn, s.toks + ([self, pn].zip [Value.ref e, uv]).length + 1, s.os⟩ := I2.kept fun b o z => Heap.get?_push_of_some _ z
  have I3p := I3.pinned (fp := [h2.objs.size]) (fun b hb => by
      have eb : b = h2.objs.size := by simpa using hb
      subst eb
      have f := I2.fpOk (H' := H) (Nat.le_refl _) (I2.hok.fresh (Nat.le_refl _))
      exact f) (fun b hb => by
      have eb : b = h2.objs.size := by simpa using hb
      subst eb
      exact ⟨_, hu3, fun v z => by cases z⟩)
  have pa := pa_cons (hte X eN eS) pa_nil (star_cons hns)
  have run := pa.run q3 _ _ _ H (fun ws H' => H' = H ∧ ∃ x, ws = [V.str x]) I3p ⟨v, rfl, htx, fun x => ⟨rfl, x, rfl⟩⟩
  rw [eP, ew, eA, exx] at run
  have pl : (backTo q3 (starEach [te] X.env)).any (·.1) = false := back_plain fun b hb => by
    have eb : b = te := by simpa using hb
    rw [eb]; exact hns
  rw [star_cons hns] at run pl ⊢
  refine PySem.W.kxs_callWith (i := "ValueError.__init__") (x := e) pl (PySem.Calls.evalArgs_plain (thn run fun us4 s4 ⟨ws, H4, I4, r4, eH4, x, ews⟩ => ?_))
  subst eH4 ews
  have hu4 : s4.heap.get? h2.objs.size = some (PySem.W.kxs_mw "ValueError.__init__" e) := (I4.pin (h2.objs.size, PySem.W.kxs_mw "ValueError.__init__" e) (List.mem_append_right _ (List.mem_append_right _ (mem_pinsAt (by simp) hu3)))).1
  have I4' := I4.pins_of (pins' := []) fun p hp => absurd hp (by simp)
  obtain ⟨t4, he4⟩ := exo_at I4'.hok he
  obtain ⟨nm, qn, N', bs, bm, sn, sub, ab, col, dd, k0, k1, kk2, k3, k5, hCl, hbm⟩ := hC.oex.cls
  refine ⟨hu4, PySem.W.czBound (kin I4' _ _ hCl) he4 hu4 (by
      show us4.length ≤ sizeLine
      rw [show us4.length = 1 from (r4.length).symm, sizeLine_eq]; omega) fun h5 t5 ke5 he5 => ?_⟩
  have I5 : Inv X [] (NdefX.startF [self, pn, "__class__"] [V.ref e, v] [none]) H4 { s4 with heap := h5 } := by
    have J := I4'.write (t' := s4.toks) (x := e) (e := e) (o := exo e C none) (by rw [he]; exact True.intro) (.inl rfl) ke5 ⟨_, he5⟩ (exo_ok he5)
    have eu : upd H4 e (exo e C none) = H4 := by
      funext b
      by_cases hb : b = e
      · rw [hb, upd_same, he]
      · rw [upd_ne hb]
    rw [eu] at J
    exact J
  -- self.fld = pn
  show _root_.PySem.wpAt (model P w) (A.deeper X.env) _ (execs [.Assign [.Attribute (.Name self q5) fld q6] (.Name pn q7) q8] X.env) _ _ _
  refine wpAt_of_wpAny ?_
  have vS : Vis X.env.scope self := .inl (by rw [eS]; exact ls)
  have vP : Vis X.env.scope pn := .inl (by rw [eS]; exact lp)
  have ps := pss_one (ps_ost (X := X) (f := fld) (p' := q6) (pos := q8) (pe_var (X := X) (i := 0) (pos := q5) (by rw [eN]; rfl) vS hd1 hd2) (pe_var (X := X) (i := 1) (pos := q7) (by rw [eN]; rfl) vP hd3 hd4) rfl)
  have fin := ps.run [] _ _ H4 { nx := fun _ H' => Q .non H', rt := Q } I5 ⟨v, rfl, V.ref e, rfl, e, C, rfl, by rw [eK]; exact hC.oex, by rw [eK]; exact hC.fld, .inl ⟨he, fun dx hn hne => q dx hn hne⟩⟩
  rw [eP, ew, eA, exx] at fin
  refine thn fin fun fl s' hs => ?_
  have done : ∀ {σ' : List (Option V)} {H' : Hp} {v : V} {u : Value}, Inv X [] σ' H' s' → RelV v u → Q v H' → CE outer P w H4 s Q u s' := fun {σ' H' v u} J rv qv => by
    refine ⟨v, H', ?_, J.bare, ?_, ?_, rv, qv⟩
    · have := J.os; rw [es0] at this; exact this
    · have := J.base; rw [es0, eH, eex, show X.fs = frs outer by rw [← eO]] at this; exact this
    · have := J.hok; rw [eP, ew] at this; exact this
  cases fl with
  | ret u => obtain ⟨v', σ', H', J, rv', qv⟩ := hs; exact done J rv' qv
  | next => obtain ⟨σ', H', J, qv⟩ := hs; exact done (v := V.non) (u := Value.none) J rfl qv
  | brk => obtain ⟨_, _, _, qv⟩ := hs; exact False.elim qv
  | cont => obtain ⟨_, _, _, qv⟩ := hs; exact False.elim qv
end
end Cs
end
section
set_option Elab.async false
set_option linter.all false
set_option maxRecDepth 100000
set_option maxHeartbeats 8000000
/-! SOUND 29: errors are made. -/
namespace Cs
open PySem L2 Cz PyProof.Rows
/-! ### the text -/
def prB (pn : Str) : Expr → Bool
  | .Constant (.str x) _ _ => decide (x.length ≤ 1000)
  | .FormattedValue (.Name y _) c none _ => decide (y = pn) && decide (c = -1)
  | _ => false
def txB (pn : Str) (kd : Nat) : Expr → Bool
  | .Constant (.str _) _ _ => decide (kd = 0)
  | .JoinedStr (a :: b :: r) _ => (decide (kd = 1) || decide (kd = 2)) && decide (r.length ≤ 8) && (a :: b :: r).all (prB pn)
  | _ => false
/-- a part of the text -/
def tPr (kd : Nat) : TE := fun σ H Q => ∃ v, σ[1]? = some (some v) ∧ TxOk kd v ∧ ∀ y : Str, y.length ≤ Lim → Q (.str y) H
section
variable {X : Cx} {self pn : Str} {kd : Nat}
theorem pr_ok (hN : X.N = [self, pn, "__class__"]) (hv : Vis X.env.scope pn) (hd3 : (pn == ("__debug__" : Str)) = false) (hd4 : (pn == ("__classdict__" : Str)) = false) (hk : kd = 1 ∨ kd = 2) {e : Expr} (h : prB pn e = true) : PE X e (tPr kd) := by
  unfold prB at h
  split at h
  · rename_i x _ _
    refine pe_str.imp fun σ H Q q => ?_
    obtain ⟨v, _, _, q⟩ := q
    exact q x (by have := of_decide_eq_true h; show x.length ≤ 100000; omega)
  · rename_i y _ c _
    rw [Bool.and_eq_true] at h
    have e1 := of_decide_eq_true h.1
    have e2 := of_decide_eq_true h.2
    subst e1 e2
    refine (pe_fmt (pe_var (i := 1) (by rw [hN]; rfl) hv hd3 hd4)).imp fun σ H Q q => ?_
    obtain ⟨v, hs, tx, q⟩ := q
    refine ⟨v, hs, ?_⟩
    rcases hk with hk | hk
    · subst hk
      obtain ⟨i, rfl, hi⟩ := tx
      exact .inr ⟨i, rfl, hi, q _ (by have := int_text_len_1921 hi; show _ ≤ 100000; omega)⟩
    · subst hk
      obtain ⟨y, rfl, hy⟩ := tx
      exact .inl ⟨y, rfl, lim_size hy, q _ hy⟩
  · cases h
theorem prs_ok (hN : X.N = [self, pn, "__class__"]) (hv : Vis X.env.scope pn) (hd3 : (pn == ("__debug__" : Str)) = false) (hd4 : (pn == ("__classdict__" : Str)) = false) (hk : kd = 1 ∨ kd = 2) : ∀ {es : List Expr}, es.all (prB pn) = true → PJ X es (es.map fun _ => tPr kd)
  | [], _ => .nil
  | e :: es, h => by
    rw [List.all_cons, Bool.and_eq_true] at h
    exact .cons (pr_ok hN hv hd3 hd4 hk h.1) (prs_ok hN hv hd3 hd4 hk h.2)
theorem js_ok {σ : List (Option V)} {H : Hp} {v : V} (hs : σ[1]? = some (some v)) (tx : TxOk kd v) : ∀ {es : List Expr} {acc : Str} {Q : Str → Hp → Prop}, acc.length + es.length * 100000 ≤ 16777216 → (∀ x, Q x H) → tJs (es.map fun _ => tPr kd) acc σ H Q
  | [], acc, Q, _, q => q acc
  | e :: es, acc, Q, hl, q => by
    rw [List.length_cons, Nat.succ_mul] at hl
    refine ⟨v, hs, tx, fun y hy => ⟨y, rfl, ?_, ?_⟩⟩
    · rw [Str.length_append, sizeLine_eq]
      have : y.length ≤ 100000 := hy
      omega
    · refine js_ok hs tx ?_ q
      rw [Str.length_append]
      have : y.length ≤ 100000 := hy
      omega
theorem tx_ok (hN : X.N = [self, pn, "__class__"]) (hv : Vis X.env.scope pn) (hd3 : (pn == ("__debug__" : Str)) = false) (hd4 : (pn == ("__classdict__" : Str)) = false) {te : Expr} (h : txB pn kd te = true) : PE X te (tTx kd) := by
  unfold txB at h
  split at h
  · refine pe_str.imp fun σ H Q q => ?_
    obtain ⟨v, _, _, q⟩ := q
    exact q _
  · simp only [Bool.and_eq_true, Bool.or_eq_true, decide_eq_true_eq] at h
    obtain ⟨⟨hk, hl⟩, ha⟩ := h
    refine (pe_joined (prs_ok hN hv hd3 hd4 hk ha)).imp fun σ H Q q => ?_
    obtain ⟨v, hs, tx, q⟩ := q
    refine js_ok hs tx ?_ q
    rw [show Str.empty.length = 0 from rfl, List.length_cons, List.length_cons]
    omega
  · cases h
end
/-! ### it is made -/
/-- an error class that is made so -/
structure InitOf (G : Fx) (P : Program) (w : World) (K : PySem.W.Frag) (mg : Str → Option Value) (base : Heap) (n : Nat) (C : Addr) : Prop where
  ex : ∃ (fI D : Addr) (fd : FuncData) (self pn : Str), (∀ k, FnOk P w K mg base (L2.CX P w) (k + 1) fI fd [self, pn] (spI K D (G.M.tk n) (G.xf n))) ∧ PySem.W.findIn K (.ref C) "__init__" = some (some (.ref fI)) ∧ PySem.W.typeIn K (.ref fI) = some (.type "function") ∧ Binds K fd [self, pn] [] ∧ InCls K D (G.xf n) C
theorem tx_of {K : PySem.W.Frag} {w : World} {F : Hp} {kd : Nat} {v : V} {d : D} (h : okArg kd d = true) (dv : DV K w F v d) : TxOk kd v := by
  unfold okArg at h
  split at h
  · exact trivial
  · cases dv
    rename_i i
    refine ⟨i, rfl, ?_⟩
    have h1 : i.natAbs < 2 ^ 64 := of_decide_eq_true h
    have h2 : i.natAbs < 2 ^ 1920 := Nat.lt_of_lt_of_le h1 (Nat.pow_le_pow_right (by decide) (by decide))
    by_cases h0 : i.natAbs = 0
    · rw [h0]; decide
    · exact (Nat.log2_lt h0).mpr h2
  · rename_i s
    cases dv with
    | str _ ok =>
      refine ⟨st s, rfl, ?_⟩
      unfold sOk at ok
      rw [Bool.and_eq_true] at ok
      have := of_decide_eq_true ok.1
      show s.toArray.size ≤ 100000
      rw [List.size_toArray]
      exact this
  · cases h
theorem made_ok {G : Fx} {Y : Cx} {k n : Nat} {C : Addr} {x : Str} {B : Bas} {W : Wi} {e : Cz.E} {ea : Expr} {p pos : Pos} (io : InitOf G Y.prog Y.w Y.K Y.mg Y.base n C) (hx : G.xa n = some C) (hr : Room (k + 2) Y.A) (hg : Gl Y x) (hm : Y.mg x = some (.ref C)) (hd : (x == ("__debug__" : Str)) = false)
    (hs : starEach [ea] Y.env = [(false, eval ea Y.env)]) (he : PE Y ea (tE G Y.K Y.w B W e)) : PMk Y (.Call (.Name x p) [ea] [] pos) (tMk G Y.K Y.w B W n e) := by
  obtain ⟨fI, D, fd, self, pn, F1, iC, tI, hb, ic⟩ := io.ex
  have pm := pmk_oex (CX := L2.CX Y.prog Y.w) (dvs := []) (ds := []) (x := x) (p := p) (pos := pos) ic.oex iC tI (F1 k) hr hb .nil passL hg hm (sA_cons he sA_nil hs) hd hs rfl
  intro pins s σ H Q I h
  refine pm pins s σ H Q I ?_
  obtain ⟨F, ρ, r, h⟩ := h
  refine ⟨F, ρ, r, ?_⟩
  unfold evEs
  cases h1 : evE G.M G.C e ρ with
  | bad => rw [h1] at h; exact h
  | ex y ρ1 => rw [h1] at h; exact h
  | ok v ρ1 =>
    rw [h1] at h
    simp only at h ⊢
    unfold evEs
    simp only
    obtain ⟨d, h2, hok, q⟩ := h
    intro xs F1' H1 e1 r1 ks
    cases ks with
    | cons kk ks =>
      cases ks
      rename_i xv
      rw [h2] at kk
      have dv : DV Y.K Y.w F1' xv d := kk
      refine ⟨by show 1 ≤ 1000; decide, fun a ha => ⟨a, xv, C, rfl, upd_same, ic, tx_of hok dv, fun dx hdx hne => ⟨rfl, dx, _, upd_same, by rw [upd_ne hne, upd_same], by rw [upd_ne hne] at hdx; exact hdx, ?_⟩⟩⟩
      have hdx1 : H1 dx = none := by rw [upd_ne hne] at hdx; exact hdx
      have eh : upd (del (upd (upd (upd H1 a (exo a C none)) dx (exd dx [(G.xf n, xv)])) a (exo a C (some dx))) a) dx (.xd [(G.xf n, xv)]) = upd H1 dx (.xd [(G.xf n, xv)]) := by
        funext b
        by_cases b1 : b = dx
        · rw [b1, upd_same, upd_same]
        · rw [upd_ne b1, upd_ne b1]
          by_cases b2 : b = a
          · rw [b2, del_same, ha]
          · rw [del_ne b2, upd_ne b2, upd_ne b1, upd_ne b2]
      rw [eh]
      have g := Grow.own (o := .xd [(G.xf n, xv)]) r1.fh hdx1
      exact q _ _ _ _ (e1.trans g.f) (r1.grow g) ⟨C, dx, xv, hx, rfl, rfl, upd_same, dv.mono g.f⟩
end Cs
end
section
set_option Elab.async false
set_option linter.all false
set_option maxRecDepth 100000
set_option maxHeartbeats 8000000
/-! SOUND 30: a whole module. -/
namespace Cs
open PySem L2 Cz PyProof.Rows
/-- a def of the module and its core form -/
structure DefF (T : Tab) (prog : Nat → Option Cz.Fn) (K : PySem.W.Frag) (mg : Str → Option Value) (x : Str) (f np : Nat) : Prop where
  ex : ∃ (st : Stmt) (addr : Addr) (fd : FuncData) (N ps : List Str) (Fd : Cz.Fn), Fun K x x st addr fd ∧ mg x = some (.ref addr) ∧ Binds K fd ps [] ∧ scB N ps (defScope st) = true ∧ ps.length = np ∧ np = Fd.np ∧ N.length = Fd.ns ∧ ps.length ≤ N.length ∧
    okSs ⟨T, N, defScope st, defScope st⟩ Fd.body (defBody st) = true ∧ prog f = some Fd
/-- all that does not hang on how deep one calls -/
structure ModF (T : Tab) (M : Mo) (prog : Nat → Option Cz.Fn) (xa : Nat → Option Addr) (xf : Nat → Str) (P : Program) (w : World) (K : PySem.W.Frag) (mg : Str → Option Value) (base : Heap) : Prop where
  con : ∀ x n, (x, n) ∈ T.cons → ∃ (v : V) (u : Value) (d : D), M.g n = some d ∧ mg x = some u ∧ RelV v u ∧ ∀ H, DV K w H v d
  bi : ∀ b, mg (biNm b) = none
  ty : ∀ t, mg (tyNm t) = none
  isi : mg "isinstance" = none
  rng : mg "range" = none
  enu : mg "enumerate" = none
  defs : ∀ x f np, (x, f, np) ∈ T.defs → DefF T prog K mg x f np
  cls : ∀ x n, (x, n) ∈ T.cls → ∃ C, xa n = some C ∧ mg x = some (.ref C)
  fld : ∀ x n, (x, n) ∈ T.fld → ∀ c C, xa c = some C → M.fld c = n → xf c = x
  exf : XFacts ⟨M, fun _ _ => .bad, xa, xf⟩ K
  ini : ∀ x n, (x, n) ∈ T.mks → ∃ C, xa n = some C ∧ mg x = some (.ref C) ∧ InitOf ⟨M, fun _ _ => .bad, xa, xf⟩ P w K mg base n C
abbrev Gn (M : Mo) (prog : Nat → Option Cz.Fn) (xa : Nat → Option Addr) (xf : Nat → Str) (n : Nat) : Fx := ⟨M, Cz.call M prog n, xa, xf⟩
theorem mod_ok {T : Tab} {M : Mo} {prog : Nat → Option Cz.Fn} {xa : Nat → Option Addr} {xf : Nat → Str} {P : Program} {w : World} {K : PySem.W.Frag} {mg : Str → Option Value} {base : Heap} (m : ModF T M prog xa xf P w K mg base) :
    ∀ n, GoodM T (Gn M prog xa xf n) (n + 2) P w K mg base := by
  have rest : ∀ n, (∀ x f np, (x, f, np) ∈ T.defs → ∃ (addr : Addr) (fd : FuncData) (ps : List Str), ps.length = np ∧ FnOk P w K mg base (L2.CX P w) (n + 2) addr fd ps (spC (Gn M prog xa xf n) K w f ps.length) ∧ mg x = some (.ref addr) ∧ PySem.W.keepIn K (.ref addr) = true ∧ Binds K fd ps []) →
      GoodM T (Gn M prog xa xf n) (n + 2) P w K mg base := fun n cal => {
    con := m.con
    bi := m.bi
    ty := m.ty
    isi := m.isi
    rng := m.rng
    enu := m.enu
    cal := cal
    cls := m.cls
    fld := m.fld
    xf := ⟨m.exf.cls, m.exf.sub, m.exf.gt, m.exf.tk⟩
    made := fun x q hm Y eP ew eK em eb hc hr hg hd B W e ea p pos hs he => by
      obtain ⟨C, hC, hmC, io⟩ := m.ini x q hm
      subst eP ew eK em eb
      exact made_ok ⟨io.ex⟩ hC hr hg hmC hd hs he }
  intro n
  induction n with
  | zero =>
    refine rest 0 fun x f np hx => ?_
    obtain ⟨st, addr, fd, N, ps, Fd, fn, hm, hb, hs, hp, hq, hn, hle, hok, hpr⟩ := (m.defs x f np hx).ex
    exact ⟨addr, fd, ps, hp, def_zero fun as => by show Cz.call M prog 0 f as = _; unfold Cz.call; rfl, hm, fn.kp, hb⟩
  | succ n ih =>
    refine rest (n + 1) fun x f np hx => ?_
    obtain ⟨st, addr, fd, N, ps, Fd, fn, hm, hb, hs, hp, hq, hn, hle, hok, hpr⟩ := (m.defs x f np hx).ex
    exact ⟨addr, fd, ps, hp, def_ok (C' := Cz.call M prog (n + 1)) ih fn hs (hp.trans hq) hn hle hok fun as => (by unfold Cz.call; rw [hpr]), hm, fn.kp, hb⟩
/-- the law itself -/
theorem law_ok {T : Tab} {M : Mo} {prog : Nat → Option Cz.Fn} {xa : Nat → Option Addr} {xf : Nat → Str} {P : Program} {w : World} {K : PySem.W.Frag} {mg : Str → Option Value} {base : Heap} (m : ModF T M prog xa xf P w K mg base) {x : Str} {f : Nat} (hx : (x, f, 1) ∈ T.defs) (n : Nat) :
    ∃ (addr : Addr) (fd : FuncData) (p : Str), FnOk P w K mg base (L2.CX P w) (n + 2) addr fd [p] (spC (Gn M prog xa xf n) K w f 1) ∧ mg x = some (.ref addr) ∧ Binds K fd [p] [] := by
  obtain ⟨addr, fd, ps, hl, F, hm, _, hb⟩ := (mod_ok m n).cal x f 1 hx
  match ps, hl, F, hb with
  | [p], _, F, hb => exact ⟨addr, fd, p, F, hm, hb⟩
/-- what the law's evaluator says is what the law does -/
theorem law_sp {G : Fx} {K : PySem.W.Frag} {w : World} {f : Nat} {H : Hp} {a : Addr} {ns : List Int} (hl : ns.length ≤ Lim) (hS : SqL K H a (ns.map V.int)) (h : G.C f [.a (.lst (ns.map D.int))] = .ok (.p (.bl true)) []) : spC G K w f 1 [.ref a] H (fun v _ => v = .bl true) fun _ _ _ => False := by
  have dv : ∀ ns : List Int, DVs K w H (ns.map V.int) (ns.map D.int) := fun ns => by
    induction ns with
    | nil => exact .nil
    | cons i r ih => exact .cons (.int i) ih
  refine ⟨H, [.a (.lst (ns.map D.int))], rfl, .refl H, .a (.lst hS (dv ns) (by rw [List.length_map]; exact hl)) .nil, by unfold lentsOf; unfold lentsOf; exact List.nodup_nil, ?_⟩
  rw [h]
  intro u F' H' _ _ rv
  have rv : DV K w F' u (.bl true) := rv
  cases rv
  rfl
end Cs
end
section
set_option Elab.async false
set_option linter.all false
set_option maxRecDepth 100000
set_option maxHeartbeats 8000000
/-! SOUND 31: what the top has left, looked at. -/
namespace Cs
open PySem L2 Cz PyProof.Rows
/-- where a name of the module points -/
def gAt (K : PySem.W.Frag) (x : Str) : Addr := match PySem.W.nsIn K mainGlobals x with
  | some (some (.ref a)) => a
  | _ => 0
abbrev FnR : Type := Option (Str × Str × Arguments × FuncBody × Scope × Addr × Addr)
def fnR (K : PySem.W.Frag) (a : Addr) : FnR := match K.lookup a with
  | some ⟨_, _, .func fd, _⟩ => some (fd.name, fd.qualname, fd.params, fd.body, fd.scope, fd.globals, fd.builtins)
  | _ => none
def stR (x : Str) (st : Stmt) : FnR := some (x, x, defArgs st, .stmts (defBody st), defScope st, mainGlobals, builtinsNs)
def glbB (K : PySem.W.Frag) (x : Str) : Bool := decide (PySem.W.nsIn K mainGlobals x = some (some (.ref (gAt K x))))
def defB (K : PySem.W.Frag) (x : Str) : Bool := glbB K x && (PySem.W.keepIn K (.ref (gAt K x)) && (match K.lookup (gAt K x) with
  | some ⟨_, _, .func fd, _⟩ => PySem.W.codeIn K fd.code x && (decide (fd.closure = []) && decide (fd.defaults = .none))
  | _ => false))
theorem defB_ok {K : PySem.W.Frag} {x : Str} {st : Stmt} (e : fnR K (gAt K x) = stR x st) (h : defB K x = true) : ∃ fd, Fun K x x st (gAt K x) fd := by
  unfold defB at h
  rw [Bool.and_eq_true, Bool.and_eq_true] at h
  obtain ⟨h1, h2, h3⟩ := h
  unfold fnR stR at e
  cases q : K.lookup (gAt K x) with
  | none => rw [q] at h3; cases h3
  | some o =>
    obtain ⟨oc, od, dt, osl⟩ := o
    rw [q] at h3 e
    cases dt with
    | func fd =>
      obtain ⟨n1, n2, n3, n4, n5, n6, n7, n8, n9, n10, n11, n12, n13, n14, n15⟩ := fd
      simp only [Option.some.injEq, Prod.mk.injEq] at e
      obtain ⟨e1, e2, e3, e4, e5, e6, e7⟩ := e
      simp only [Bool.and_eq_true, decide_eq_true_eq] at h3
      obtain ⟨k1, k2, k3⟩ := h3
      subst e1 e2 e3 e4 e5 e6 e7 k2 k3
      exact ⟨_, ⟨oc, od, n9, n10, n11, n12, n13, n14, osl, rfl, q, k1⟩, h2⟩
    | _ => cases h3
/-! ### constants -/
def conB (K : PySem.W.Frag) : Nat → Value → D → Bool
  | n, u, d => match u, d with
    | .none, .non => true
    | .bool a, .bl b => decide (a = b)
    | .int i _, .int j => decide (i = j)
    | .str x _, .str s => decide (x.cps.toList = s) && sOk s
    | .ref a, .tup ds => (match n with
      | 0 => false
      | n + 1 => (match K.lookup a with
        | some ⟨.type c, _, .seq its _, _⟩ => decide (c = "tuple") && (decide (its.size ≤ Lim) && (decide (its.toList.length = ds.length) && (its.toList.zip ds).all fun p => conB K n p.1 p.2))
        | _ => false))
    | _, _ => false
theorem con_list {K : PySem.W.Frag} {w : World} {P : Value → D → Prop} (hP : ∀ u d, P u d → ∃ v, RelV v u ∧ ∀ H, DV K w H v d) : ∀ {us : List Value} {ds : List D}, us.length = ds.length → (∀ p ∈ us.zip ds, P p.1 p.2) → ∃ vs, Vals vs us ∧ ∀ H, DVs K w H vs ds
  | [], [], _, _ => ⟨[], .nil, fun _ => .nil⟩
  | u :: us, d :: ds, hl, h => by
    obtain ⟨v, r, dv⟩ := hP u d (h (u, d) (by simp))
    obtain ⟨vs, rs, dvs⟩ := con_list hP (us := us) (ds := ds) (by simpa using hl) fun p hp => h p (by rw [List.zip_cons_cons]; exact List.mem_cons_of_mem _ hp)
    exact ⟨v :: vs, .cons r rs, fun H => .cons (dv H) (dvs H)⟩
  | [], _ :: _, hl, _ => by simp at hl
  | _ :: _, [], hl, _ => by simp at hl
theorem conB_ok {K : PySem.W.Frag} {w : World} : ∀ (n : Nat) (u : Value) (d : D), conB K n u d = true → ∃ v, RelV v u ∧ ∀ H, DV K w H v d := by
  intro n
  induction n with
  | zero =>
    intro u d h
    unfold conB at h
    split at h
    · exact ⟨.non, rfl, fun _ => .non⟩
    · have := of_decide_eq_true h; subst this; exact ⟨.bl _, rfl, fun _ => .bl _⟩
    · have := of_decide_eq_true h; subst this; exact ⟨.int _, ⟨_, rfl⟩, fun _ => .int _⟩
    · rename_i x t s
      rw [Bool.and_eq_true] at h
      have := of_decide_eq_true h.1
      subst this
      exact ⟨.str x, ⟨_, rfl⟩, fun H => by have := DV.str (K := K) (w := w) (H := H) x.cps.toList h.2; rw [st_back] at this; exact this⟩
    · cases h
    · cases h
  | succ n ih =>
    intro u d h
    unfold conB at h
    split at h
    · exact ⟨.non, rfl, fun _ => .non⟩
    · have := of_decide_eq_true h; subst this; exact ⟨.bl _, rfl, fun _ => .bl _⟩
    · have := of_decide_eq_true h; subst this; exact ⟨.int _, ⟨_, rfl⟩, fun _ => .int _⟩
    · rename_i x t s
      rw [Bool.and_eq_true] at h
      have := of_decide_eq_true h.1
      subst this
      exact ⟨.str x, ⟨_, rfl⟩, fun H => by have := DV.str (K := K) (w := w) (H := H) x.cps.toList h.2; rw [st_back] at this; exact this⟩
    · rename_i a ds
      dsimp only at h
      split at h
      · rename_i c dd its m sl q
        simp only [Bool.and_eq_true, decide_eq_true_eq, List.all_eq_true] at h
        obtain ⟨h1, h2, h3, h4⟩ := h
        obtain ⟨vs, rs, dvs⟩ := con_list (K := K) (w := w) (P := fun u d => conB K n u d = true) (fun u d hh => ih u d hh) h3 fun p hp => h4 p hp
        refine ⟨.ref a, rfl, fun H => .tup (.inr ⟨_, its, m, q, congrArg Value.type h1, rfl, lim_size h2, rs⟩) (dvs H) ?_⟩
        have hl := rs.length
        rw [← (dvs H).length, hl]
        show its.toList.length ≤ Lim
        rw [Array.length_toList]; exact h2
      · cases h
    · cases h
end Cs
end
section
set_option Elab.async false
set_option linter.all false
set_option maxRecDepth 100000
set_option maxHeartbeats 8000000
/-! SOUND 32: dicts of the module; error classes, looked at. -/
namespace Cs
open PySem L2 Cz PyProof.Rows
def keysB : List DictEntry → List (List Nat) → Bool
  | [], [] => true
  | e :: r, k :: ks => (match e.key with | .str x _ => decide (x.cps.toList = k) | _ => false) && keysB r ks
  | _, _ => false
theorem find_keys : ∀ {L : List DictEntry} {ks : List (List Nat)} (z : Str), keysB L ks = true → (match L.find? (·.key.isStr z) with | some e => some (some e.val) | none => if L.any (·.refKey) then none else some none) = some ((ks.idxOf? z.cps.toList).bind ((L.map (·.val))[·]?))
  | [], [], z, _ => by simp
  | e :: r, k :: ks, z, h => by
    unfold keysB at h
    rw [Bool.and_eq_true] at h
    obtain ⟨h1, h2⟩ := h
    split at h1
    · rename_i x t ek
      have hk := of_decide_eq_true h1
      have ih := find_keys z h2
      rw [List.find?_cons, List.idxOf?_cons, List.any_cons]
      have er : e.refKey = false := by unfold DictEntry.refKey; rw [ek]
      have eq1 : e.key.isStr z = decide (x = z) := by
        rw [ek]
        show (x == z) = _
        by_cases y : x = z
        · rw [y]; simp
        · rw [decide_eq_false y, beq_eq_false_iff_ne]; exact y
      rw [eq1, er, Bool.false_or]
      by_cases hx : x = z
      · subst hx
        rw [hk]
        simp
      · have hne : (k == z.cps.toList) = false := by
          rw [beq_eq_false_iff_ne]
          intro y
          apply hx
          rw [← st_back x, ← st_back z, hk, y]
        rw [hne]
        simp only [decide_eq_false hx]
        rw [ih]
        simp only [Bool.false_eq_true, if_false]
        cases ks.idxOf? z.cps.toList <;> simp
    · cases h1
  | [], _ :: _, z, h => by cases h
  | _ :: _, [], z, h => by cases h
def dctB (K : PySem.W.Frag) (u : Value) (ks : List (List Nat)) (ds : List D) : Bool := match u with
  | .ref a => !(a == sysModules) && (match K.lookup a with
    | some ⟨.type c, none, .dict es _, sl⟩ => decide (c = "dict") && (decide (sl.size = 0) && (keysB es.toList ks && (decide (es.toList.length = ds.length) && (decide (ks.length = ds.length) && ((es.toList.map (·.val)).zip ds).all fun p => conB K 3 p.1 p.2))))
    | _ => false)
  | _ => false
theorem dctB_ok {K : PySem.W.Frag} {w : World} {u : Value} {ks : List (List Nat)} {ds : List D} (h : dctB K u ks ds = true) (lit : ∀ a es n, u = .ref a → K.lookup a = some ⟨.type "dict", none, .dict es n, #[]⟩ → PySem.W.KeysLit w.params es.toList) :
    ∃ v, RelV v u ∧ ∀ H, DV K w H v (.dct ks ds) := by
  unfold dctB at h
  split at h
  · rename_i a
    rw [Bool.and_eq_true] at h
    obtain ⟨h0, h⟩ := h
    split at h
    · rename_i c es n sl q
      simp only [Bool.and_eq_true, decide_eq_true_eq, List.all_eq_true] at h
      obtain ⟨h1, h2, h3, h4, h5, h6⟩ := h
      have hsl : sl = #[] := Array.eq_empty_of_size_eq_zero h2
      subst h1 hsl
      have low : (a == sysModules) = false := by simpa using h0
      obtain ⟨vs, rs, dvs⟩ := con_list (K := K) (w := w) (P := fun u d => conB K 3 u d = true) (fun u d hh => conB_ok 3 u d hh) (us := es.toList.map (·.val)) (ds := ds) (by rw [List.length_map]; exact h4) h6
      refine ⟨.ref a, rfl, fun H => .dct (.inr ⟨es, n, es.toList.map (·.val), ⟨q, lit a es n rfl q, low⟩, rs, by rw [List.length_map, h4]; exact h5, fun z => ?_⟩) (dvs H)⟩
      unfold PySem.W.nsIn
      rw [q]
      exact find_keys z h3
    · cases h
  · cases h
/-! ### error classes -/
def oexB (K : PySem.W.Frag) (C : Addr) : Bool := (match K.lookup C with
  | some ⟨.type t, _, .cls cd, sl⟩ => decide (t = "type") && (cd.hasDict && (!cd.hasDel && (match cd.mro, sl.toList with
    | .ref C' :: bm, [_, _, _, _, some (.builtin n), _] => decide (C' = C) && (decide (n = "ValueError.__new__") && PySem.HandSPX.refsVE bm)
    | _, _ => false)))
  | _ => false) && (decide (PySem.W.findIn K (.ref C) "__setattr__" = some (some (.builtin "object.__setattr__"))) && (decide (PySem.W.subIn K (.ref C) (.type "BaseException") = some true) && (decide (PySem.W.typeIn K (.ref C) = some (.type "type")) && PySem.W.keepIn K (.ref C))))
theorem oexB_ok {K : PySem.W.Frag} {C : Addr} (h : oexB K C = true) : OexC K C := by
  unfold oexB at h
  simp only [Bool.and_eq_true, decide_eq_true_eq] at h
  obtain ⟨h1, h2, h3, h4, h5⟩ := h
  refine ⟨?_, h2, h3, h4, h5⟩
  split at h1
  · rename_i t dd cd sl q
    simp only [Bool.and_eq_true, decide_eq_true_eq, Bool.not_eq_true'] at h1
    obtain ⟨t1, hd, hl, h1⟩ := h1
    subst t1
    split at h1
    · rename_i C' bm k0 k1 k2 k3 n k5 hm hs
      simp only [Bool.and_eq_true, decide_eq_true_eq] at h1
      obtain ⟨e1, e2, e3⟩ := h1
      subst e1 e2
      obtain ⟨nm, bs, mro, ns, qn, hdd, sn, sub, ab, col, del⟩ := cd
      dsimp only at hm hd hl
      subst hm hd hl
      have e4 : sl = #[k0, k1, k2, k3, some (.builtin "ValueError.__new__"), k5] := by
        obtain ⟨l⟩ := sl
        simp only at hs
        rw [hs]
      subst e4
      exact ⟨nm, qn, ns, bs, bm, sn, sub, ab, col, dd, k0, k1, k2, k3, k5, q, e3⟩
    · cases h1
  · cases h1
def inclB (K : PySem.W.Frag) (D : Addr) (fld : Str) (C : Addr) : Bool := oexB K C && (decide (PySem.W.mroIn K C (.ref D) = some true) && (decide (PySem.W.ks_superIn K C D "__init__" = some (some (.builtin "ValueError.__init__"))) && (decide (PySem.W.subIn K (.ref C) (.type "ValueError") = some true) && decide (PySem.W.findIn K (.ref C) fld = some none))))
theorem inclB_ok {K : PySem.W.Frag} {D C : Addr} {fld : Str} (h : inclB K D fld C = true) : InCls K D fld C := by
  unfold inclB at h
  simp only [Bool.and_eq_true, decide_eq_true_eq] at h
  obtain ⟨h1, h2, h3, h4, h5⟩ := h
  exact ⟨oexB_ok h1, h2, h3, h4, h5⟩
def xclB (K : PySem.W.Frag) (fld : Str) (C : Addr) : Bool := xfB K C && ((PySem.W.clsIn K C).isSome && (decide (PySem.W.findIn K (.ref C) "__class__" = some (some (.builtin "object.__class__"))) && (decide (PySem.W.mroIn K C (.type "object") = some true) && decide (PySem.W.findIn K (.ref C) fld = some none))))
theorem xclB_ok {K : PySem.W.Frag} {C : Addr} {fld : Str} (h : xclB K fld C = true) : XfC K C ∧ (PySem.W.clsIn K C).isSome = true ∧ PySem.W.findIn K (.ref C) "__class__" = some (some (.builtin "object.__class__")) ∧ PySem.W.mroIn K C (.type "object") = some true ∧ PySem.W.findIn K (.ref C) fld = some none := by
  unfold xclB at h
  simp only [Bool.and_eq_true, decide_eq_true_eq] at h
  obtain ⟨h1, h2, h3, h4, h5⟩ := h
  exact ⟨xfB_ok h1, h2, h3, h4, h5⟩
end Cs
end
section
set_option Elab.async false
set_option linter.all false
set_option maxRecDepth 100000
set_option maxHeartbeats 8000000
/-! SOUND 33: an __init__ with super(), looked at. -/
namespace Cs
open PySem L2 Cz PyProof.Rows
def iAt (K : PySem.W.Frag) (D : Addr) : Addr := match PySem.W.findIn K (.ref D) "__init__" with
  | some (some (.ref f)) => f
  | _ => 0
def initB (K : PySem.W.Frag) (file0 : Str) (D : Addr) (qual : Str) : Bool := (PySem.W.clsIn K D).isSome && (decide (PySem.W.typeIn K (.ref (iAt K D)) = some (.type "function")) && (match K.lookup (iAt K D) with
  | some ⟨_, _, .func fd, _⟩ => decide (fd.defaults = .none) && (decide (fd.kwdefaults = .none) && (decide (fd.annotations = none) && ((match fd.code with
      | .ref cda => PySem.W.codeIn K (.ref cda) qual && (match K.lookup cda with
        | some ⟨_, _, .fields vs, _⟩ => (match (vs[2]? : Option Value) with
          | some (Value.str file _) => file0 == file
          | _ => false)
        | _ => false)
      | _ => false) && (match fd.closure with
      | [(nm, cc)] => decide (nm = ("__class__" : Str)) && (match K.lookup cc with
        | some ⟨_, _, .cell (some (.ref D')), _⟩ => decide (D' = D)
        | _ => false)
      | _ => false))))
  | _ => false))
theorem initOf_ok {G : Fx} {P : Program} {w : World} {K : PySem.W.Frag} {mg : Str → Option Value} {base : Heap} {n : Nat} {C D : Addr} {qual self pn : Str} {params : Arguments} {te : Expr} {scope : Scope} {q0 q1 q2 q3 q4 q5 q6 q7 q8 : Pos}
    (hf : fnR K (iAt K D) = (some (("__init__" : Str), qual, params, FuncBody.stmts (iBody te self pn (G.xf n) q0 q1 q2 q3 q4 q5 q6 q7 q8), scope, mainGlobals, builtinsNs) : FnR)) (hb : initB K P.main.file D qual = true)
    (hsup : mg "super" = none) (hst : PySem.W.nsIn K cStatics "thirdparty.any" = some none) (htop : (P.main.scope.names.lookup ("super" : Str)).isSome = false)
    (hS : NdefX.nscB [self, pn, "__class__"] [self, pn] ["__class__"] scope = true) (hks : scope.names.lookup ("super" : Str) = some .globalImplicit)
    (hp : ∃ ar : PySem.Arg, (params.posonlyargs ++ params.args).head? = some ar ∧ ar.arg = self) (htx : txB pn (G.M.tk n) te = true) (hns : nsB te = true) (hline : (q2.endLine == q3.line) = true)
    (hd1 : (self == ("__debug__" : Str)) = false) (hd2 : (self == ("__classdict__" : Str)) = false) (hd3 : (pn == ("__debug__" : Str)) = false) (hd4 : (pn == ("__classdict__" : Str)) = false)
    (hbind : ∀ (cc cda : Addr) (doc pm ctv : Value) (us : List Value), us.length = 2 → bindArgs ((iNF qual params (iBody te self pn (G.xf n) q0 q1 q2 q3 q4 q5 q6 q7 q8) scope cc cda).fd doc pm ctv) ⟨us, []⟩ = pure ([self, pn].zip us))
    (ic : inclB K D (G.xf n) C = true) (iC : PySem.W.findIn K (.ref C) "__init__" = some (some (.ref (iAt K D)))) : InitOf G P w K mg base n C := by
  unfold initB at hb
  simp only [Bool.and_eq_true, decide_eq_true_eq] at hb
  obtain ⟨b1, b2, b3⟩ := hb
  unfold fnR at hf
  cases q : K.lookup (iAt K D) with
  | none => rw [q] at b3; cases b3
  | some o =>
    obtain ⟨oc, od, dt, osl⟩ := o
    rw [q] at b3 hf
    cases dt with
    | func fd =>
      obtain ⟨n1, n2, n3, n4, n5, n6, n7, n8, n9, n10, n11, n12, n13, n14, n15⟩ := fd
      simp only [Option.some.injEq, Prod.mk.injEq] at hf
      obtain ⟨e1, e2, e3, e4, e5, e6, e7⟩ := hf
      simp only [Bool.and_eq_true, decide_eq_true_eq] at b3
      obtain ⟨k1, k2, k3, k4, k5⟩ := b3
      subst e1 e2 e3 e4 e5 e6 e7 k1 k2 k3
      split at k4
      · rename_i cda
        simp only [Bool.and_eq_true] at k4
        obtain ⟨cd1, k4⟩ := k4
        split at k4
        · rename_i ccl cdd fvs ccs qc
          split at k4
          · rename_i file tf hv
            split at k5
            · rename_i nm cc
              simp only [Bool.and_eq_true, decide_eq_true_eq] at k5
              obtain ⟨z1, k5⟩ := k5
              subst z1
              split at k5
              · rename_i cl cld D' csl qcc
                have z2 := of_decide_eq_true k5
                subst z2
                refine ⟨iAt K D', D', (iNF n2 n3 (iBody te self pn (G.xf n) q0 q1 q2 q3 q4 q5 q6 q7 q8) n5 cc cda).fd n10 n11 n14, self, pn, fun k => ?_, iC, b2, .all fun us hl => hbind cc cda n10 n11 n14 us hl, inclB_ok ic⟩
                exact init_ok q cd1 ⟨cl, cld, csl, qcc⟩ b1 ⟨ccl, cdd, fvs, ccs, file, tf, qc, hv, k4⟩ hsup hst htop hS hks hp (fun X hN hS2 => tx_ok hN (by rw [hS2]; exact .inl ((NdefX.nscope_by hS).par pn (by simp))) hd3 hd4 htx) hns hline hd1 hd2 hd3 hd4
              · cases k5
            · cases k5
          · cases k4
        · cases k4
      · cases k4
    | _ => cases b3
end Cs
end
section
set_option Elab.async false
set_option linter.all false
set_option maxRecDepth 100000
set_option maxHeartbeats 8000000
/-! SOUND 34: from the looks to the module's facts, and the walk. -/
namespace Cs
open PySem L2 Cz PyProof.Rows
def freeNames : List Str := ["len", "int", "abs", "tuple", "list", "all", "any", "max", "min", "sorted", "sum", "set", "bool", "str", "isinstance", "range", "enumerate", "super"]
def conC (M : Mo) (K : PySem.W.Frag) (p : Str × Nat) : Bool := match PySem.W.nsIn K mainGlobals p.1, M.g p.2 with
  | some (some u), some (.dct ks ds) => dctB K u ks ds
  | some (some u), some d => conB K 4 u d
  | _, _ => false
def clsC (K : PySem.W.Frag) (p : Str × Str) : Bool := glbB K p.1 && xclB K p.2 (gAt K p.1)
def subC (M : Mo) (xn : List (Str × Str)) (K : PySem.W.Frag) : Bool := (List.range xn.length).all fun i => (List.range xn.length).all fun j => (match xn[i]?, xn[j]? with
  | some p, some q => decide (PySem.W.exmOne K (.ref (gAt K p.1)) (.ref (gAt K q.1)) = some (M.sub i j)) && decide (PySem.W.kitOne K (.ref (gAt K p.1)) (.ref (gAt K q.1)) = some (M.sub i j))
  | _, _ => false)
def chkM (T : Tab) (M : Mo) (xn : List (Str × Str)) (K : PySem.W.Frag) : Bool :=
  (T.defs.all fun p => defB K p.1) && ((T.cons.all fun p => conC M K p) && ((freeNames.all fun x => decide (PySem.W.nsIn K mainGlobals x = some none)) && ((xn.all fun p => clsC K p) && (subC M xn K && (decide (PySem.W.specialIn K (.builtin "object.__class__") "__get__" = some (some (.builtin "getset_descriptor.__get__"))) &&
    (decide (PySem.W.takesIn K (.builtin "object.__class__") = some true) && decide (PySem.W.nsIn K cStatics "thirdparty.any" = some none)))))))
def xaOf (xn : List (Str × Str)) (K : PySem.W.Frag) (n : Nat) : Option Addr := (xn[n]?).map fun p => gAt K p.1
def xfOf (xn : List (Str × Str)) (n : Nat) : Str := ((xn[n]?).map (·.2)).getD "x"
/-- a def's core form, looked at -/
structure DefL (T : Tab) (prog : Nat → Option Cz.Fn) (K : PySem.W.Frag) (x : Str) (f np : Nat) : Prop where
  ex : ∃ (st : Stmt) (N ps : List Str) (Fd : Cz.Fn), fnR K (gAt K x) = stR x st ∧ scB N ps (defScope st) = true ∧ ps.length = np ∧ np = Fd.np ∧ N.length = Fd.ns ∧ ps.length ≤ N.length ∧ okSs ⟨T, N, defScope st, defScope st⟩ Fd.body (defBody st) = true ∧ prog f = some Fd ∧
    ∀ (kV doc pm : Value) (an : Option Addr) (cdv ct : Value) (us : List Value), us.length = ps.length → bindArgs (PySem.W.fnOf x x (defArgs st) (defBody st) (defScope st) .none kV doc pm an cdv ct) ⟨us, []⟩ = pure (ps.zip us)
theorem modF_of {T : Tab} {M : Mo} {prog : Nat → Option Cz.Fn} {xn : List (Str × Str)} {P : Program} {w : World} {K : PySem.W.Frag} {h : Heap} {mg : Str → Option Value} {base : Heap} (KX : K.In h) (Gn : h.Ns mainGlobals mg) (chk : chkM T M xn K = true)
    (hd : ∀ p ∈ T.defs, DefL T prog K p.1 p.2.1 p.2.2) (hl : ∀ p ∈ T.cons, ∀ ks ds, M.g p.2 = some (.dct ks ds) → ∃ a es m, PySem.W.nsIn K mainGlobals p.1 = some (some (.ref a)) ∧ K.lookup a = some ⟨.type "dict", none, .dict es m, #[]⟩ ∧ PySem.W.KeysLit w.params es.toList)
    (hc : ∀ p ∈ T.cls, (xn[p.2]?).map (·.1) = some p.1) (hm : ∀ p ∈ T.mks, (xn[p.2]?).map (·.1) = some p.1) (hf : ∀ p ∈ T.fld, ∀ c < xn.length, M.fld c = p.2 → xfOf xn c = p.1)
    (hi : mg "super" = none → PySem.W.nsIn K cStatics "thirdparty.any" = some none → ∀ p ∈ T.mks, InitOf ⟨M, fun _ _ => .bad, xaOf xn K, xfOf xn⟩ P w K mg base p.2 (gAt K p.1)) : ModF T M prog (xaOf xn K) (xfOf xn) P w K mg base := by
  unfold chkM at chk
  simp only [Bool.and_eq_true, decide_eq_true_eq, List.all_eq_true] at chk
  obtain ⟨c1, c2, c3, c4, c5, c6, c7, c8⟩ := chk
  have free : ∀ x ∈ freeNames, mg x = none := fun x hx => PySem.W.mg_none_of KX Gn (c3 x hx)
  have glb : ∀ x, glbB K x = true → mg x = some (.ref (gAt K x)) := fun x hx => PySem.W.mg_of KX Gn (of_decide_eq_true hx)
  have clsAt : ∀ n x, (xn[n]?).map (·.1) = some x → xaOf xn K n = some (gAt K x) ∧ mg x = some (.ref (gAt K x)) := fun n x e => by
    obtain ⟨p, e1, e2⟩ := Option.map_eq_some_iff.mp e
    subst e2
    have := c4 p (List.mem_of_getElem? e1)
    unfold clsC at this
    rw [Bool.and_eq_true] at this
    exact ⟨by unfold xaOf; rw [e1]; rfl, glb _ this.1⟩
  exact {
    con := fun x n hx => by
      have z := c2 (x, n) hx
      unfold conC at z
      dsimp only at z
      cases e1 : PySem.W.nsIn K mainGlobals x with
      | none => rw [e1] at z; cases z
      | some o =>
        cases o with
        | none => rw [e1] at z; cases z
        | some u =>
          cases e2 : M.g n with
          | none => rw [e1, e2] at z; cases z
          | some d =>
            rw [e1, e2] at z
            have hmg := PySem.W.mg_of KX Gn e1
            cases d with
            | dct ks ds =>
              obtain ⟨a, es, m, l1, l2, l3⟩ := hl (x, n) hx ks ds e2
              obtain ⟨v, r, dv⟩ := dctB_ok (w := w) z fun a' es' m' e3 e4 => by
                rw [e1] at l1
                cases l1
                cases e3
                rw [l2] at e4
                cases e4
                exact l3
              exact ⟨v, u, _, rfl, hmg, r, dv⟩
            | _ =>
              obtain ⟨v, r, dv⟩ := conB_ok (w := w) 4 u _ z
              exact ⟨v, u, _, rfl, hmg, r, dv⟩
    bi := fun b => free _ (by cases b <;> decide +kernel)
    ty := fun t => free _ (by cases t <;> decide +kernel)
    isi := free _ (by decide +kernel)
    rng := free _ (by decide +kernel)
    enu := free _ (by decide +kernel)
    defs := fun x f np hx => by
      obtain ⟨st, N, ps, Fd, e1, e2, e3, e4, e5, e6, e7, e8, e9⟩ := (hd _ hx).ex
      have b := c1 _ hx
      obtain ⟨fd, F⟩ := defB_ok e1 b
      have g : glbB K x = true := by
        unfold defB at b
        rw [Bool.and_eq_true] at b
        exact b.1
      exact ⟨st, gAt K x, fd, N, ps, Fd, F, glb _ g, F.binds e9, e2, e3, e4, e5, e6, e7, e8⟩
    cls := fun x n hx => ⟨_, clsAt n x (hc _ hx)⟩
    fld := fun x n hx c C hC e => by
      unfold xaOf at hC
      obtain ⟨p, e1, _⟩ := Option.map_eq_some_iff.mp hC
      exact hf _ hx c (List.getElem?_eq_some_iff.mp e1).1 e
    exf := {
      cls := fun c C hC => by
        have hC : xaOf xn K c = some C := hC
        unfold xaOf at hC
        obtain ⟨p, e1, e2⟩ := Option.map_eq_some_iff.mp hC
        subst e2
        have := c4 p (List.mem_of_getElem? e1)
        unfold clsC at this
        rw [Bool.and_eq_true] at this
        have z := xclB_ok this.2
        have e : xfOf xn c = p.2 := by unfold xfOf; rw [e1]; rfl
        show _ ∧ _ ∧ _ ∧ _ ∧ PySem.W.findIn K _ (xfOf xn c) = some none
        rw [e]
        exact z
      sub := fun c C c' C' hC hC' => by
        have hC : xaOf xn K c = some C := hC
        have hC' : xaOf xn K c' = some C' := hC'
        unfold xaOf at hC hC'
        obtain ⟨p, e1, e2⟩ := Option.map_eq_some_iff.mp hC
        obtain ⟨p', e1', e2'⟩ := Option.map_eq_some_iff.mp hC'
        subst e2 e2'
        unfold subC at c5
        rw [List.all_eq_true] at c5
        have z := c5 c (List.mem_range.mpr (List.getElem?_eq_some_iff.mp e1).1)
        rw [List.all_eq_true] at z
        have z := z c' (List.mem_range.mpr (List.getElem?_eq_some_iff.mp e1').1)
        rw [e1, e1'] at z
        simp only [Bool.and_eq_true, decide_eq_true_eq] at z
        exact z
      gt := c6
      tk := c7 }
    ini := fun x n hx => by
      obtain ⟨a, b⟩ := clsAt n x (hm _ hx)
      exact ⟨_, a, b, hi (free _ (by decide +kernel)) c8 _ hx⟩ }
/-- a def's core form, its parameters told -/
structure DefP (T : Tab) (prog : Nat → Option Cz.Fn) (K : PySem.W.Frag) (x : Str) (f : Nat) (ps : List Str) : Prop where
  ex : ∃ (st : Stmt) (N : List Str) (Fd : Cz.Fn), fnR K (gAt K x) = stR x st ∧ scB N ps (defScope st) = true ∧ ps.length = Fd.np ∧ N.length = Fd.ns ∧ ps.length ≤ N.length ∧ okSs ⟨T, N, defScope st, defScope st⟩ Fd.body (defBody st) = true ∧ prog f = some Fd ∧
    ∀ (kV doc pm : Value) (an : Option Addr) (cdv ct : Value) (us : List Value), us.length = ps.length → bindArgs (PySem.W.fnOf x x (defArgs st) (defBody st) (defScope st) .none kV doc pm an cdv ct) ⟨us, []⟩ = pure (ps.zip us)
theorem DefP.l {T : Tab} {prog : Nat → Option Cz.Fn} {K : PySem.W.Frag} {x : Str} {f np : Nat} {ps : List Str} (h : DefP T prog K x f ps) (hp : ps.length = np) : DefL T prog K x f np := by
  obtain ⟨st, N, Fd, e1, e2, e4, e5, e6, e7, e8, e9⟩ := h.ex
  exact ⟨st, N, ps, Fd, e1, e2, hp, by rw [← hp]; exact e4, e5, e6, e7, e8, e9⟩
theorem bits_log {z : Int} (h : Builtin.Int.intBits z ≤ 1048576) : z.natAbs.log2 < 2000000 := by
  unfold Builtin.Int.intBits at h
  by_cases hz : z = 0
  · subst hz; decide
  · have e : (z == 0) = false := by simpa using hz
    rw [e] at h
    simp only [Bool.false_eq_true, if_false] at h
    omega
/-- the walk: what the evaluator says for every script is the law -/
theorem walk_by {l : PySem.W.OpenLaw} {q : Program} {loose : List Str} {XP : (Str → Option Value) → Heap → Prop} {YP : World → Heap → Prop} {d : DefRec} {K : Params → PySem.W.Frag} {T : Tab} {M : Mo} {prog : Nat → Option Cz.Fn} {xn : List (Str × Str)} {m fuel f : Nat} {x pn : Str}
    (hn : l.most = some m) (hn2 : m ≤ 1000) (hdf : d.params.defaults = []) (hr : Room (fuel + 3) callerA) (hY : ∀ (w : World) (h : Heap), YP w h → (K w.params).In h) (hdn : d.name = x) (hx : ∃ p ∈ T.defs, p.1 = x)
    (chk : ∀ w : World, chkM T M xn (K w.params) = true) (hlaw : ∀ w : World, DefP T prog (K w.params) x f [pn])
    (F : ∀ (w : World) (mg : Str → Option Value) (h : Heap), (K w.params).In h → h.Ns mainGlobals mg → ∀ base : Heap, ModF T M prog (xaOf xn (K w.params)) (xfOf xn) l.prog w (K w.params) mg base)
    (law : ∀ ns : List Int, ns.length ≤ m → (∀ z ∈ ns, z.natAbs.log2 < 2000000) → Cz.call M prog (fuel + 1) f [.a (.lst (ns.map D.int))] = .ok (.p (.bl true)) []) :
    PySem.W.WalkO q loose XP YP l.row.toRowW d [] (fun f vs => PySem.call f vs) := by
  refine L2.walk_ofB (n := m) (k := fuel + 3) (x := pn) (CX := fun w => L2.CX l.prog w) (sp := fun w => spC (Gn M prog (xaOf xn (K w.params)) (xfOf xn) (fuel + 1)) (K w.params) w f 1) hn (by rw [sizeLine_eq]; omega) hdf hr hY
    (fun w mg fa h KX G hmg => ?_) (fun w H a ns hl hbits _ hS => law_sp (Nat.le_trans hl (by show m ≤ 100000; omega)) hS (law ns hl fun z hz => bits_log (hbits z hz))) fun w H s e s' z => ?_
  · obtain ⟨st, N, Fd, e1, e2, e4, e5, e6, e7, e8, e9⟩ := (hlaw w).ex
    have ck := chk w
    unfold chkM at ck
    simp only [Bool.and_eq_true, decide_eq_true_eq, List.all_eq_true] at ck
    obtain ⟨p, hp1, hp2⟩ := hx
    have b := ck.1 p hp1
    rw [hp2] at b
    obtain ⟨fd, Fn⟩ := defB_ok e1 b
    have g : glbB (K w.params) x = true := by
      unfold defB at b
      rw [Bool.and_eq_true] at b
      exact b.1
    have ga : mg x = some (.ref (gAt (K w.params) x)) := PySem.W.mg_of KX G (of_decide_eq_true g)
    rw [hdn, ga] at hmg
    cases hmg
    refine ⟨fd, fun s u => ?_, fun base _ _ => ?_⟩
    · obtain ⟨oc, od, kV, doc, pm, an, cdv, ct, osl, rfl, lk, hcd⟩ := Fn.ex
      exact .of_eq (e9 kV doc pm an cdv ct [u] rfl)
    · exact def_ok (C' := Cz.call M prog (fuel + 1)) (mod_ok (F w mg h KX G base) fuel) Fn e2 e4 e5 e6 e7 fun as => (by unfold Cz.call; rw [e8])
  · obtain ⟨_, _, _, _, _, _, _, _, _, _, _, _, y⟩ := z
    exact y
end Cs
end
section
set_option Elab.async false
set_option linter.all false
set_option maxRecDepth 100000
set_option maxHeartbeats 8000000
/-! SOUND 35: small helps for a law's head. -/
namespace Cs
open PySem L2 Cz PyProof.Rows
theorem fm_nil {α : Type} {P : α → Prop} : ∀ x ∈ ([] : List α), P x := fun _ h => absurd h (by simp)
theorem fm_cons {α : Type} {P : α → Prop} {a : α} {l : List α} (h : P a) (r : ∀ x ∈ l, P x) : ∀ x ∈ a :: l, P x := fun x hx => by
  rcases List.mem_cons.mp hx with e | e
  · rw [e]; exact h
  · exact r x e
/-- a class's body's k-th row -/
def inCls (st : Stmt) (k : Nat) : Stmt := match st with
  | .ClassDef _ _ _ body _ _ _ _ _ _ _ => body.getD k (.Pass ⟨0, 0, 0, 0⟩)
  | _ => .Pass ⟨0, 0, 0, 0⟩
def iR (qual : Str) (st : Stmt) : FnR := some ("__init__", qual, defArgs st, .stmts (defBody st), defScope st, mainGlobals, builtinsNs)
/-- an __init__ as it is written -/
structure InitL (kd : Nat) (fld : Str) (st : Stmt) : Prop where
  ex : ∃ (te : Expr) (self pn : Str) (q0 q1 q2 q3 q4 q5 q6 q7 q8 : Pos), defBody st = iBody te self pn fld q0 q1 q2 q3 q4 q5 q6 q7 q8 ∧ NdefX.nscB [self, pn, "__class__"] [self, pn] ["__class__"] (defScope st) = true ∧ (defScope st).names.lookup ("super" : Str) = some .globalImplicit ∧
    (∃ ar : PySem.Arg, ((defArgs st).posonlyargs ++ (defArgs st).args).head? = some ar ∧ ar.arg = self) ∧ txB pn kd te = true ∧ nsB te = true ∧ (q2.endLine == q3.line) = true ∧ (self == ("__debug__" : Str)) = false ∧ (self == ("__classdict__" : Str)) = false ∧ (pn == ("__debug__" : Str)) = false ∧ (pn == ("__classdict__" : Str)) = false ∧
    ∀ (qual : Str) (cc cda : Addr) (doc pm ctv : Value) (us : List Value), us.length = 2 → bindArgs ((iNF qual (defArgs st) (iBody te self pn fld q0 q1 q2 q3 q4 q5 q6 q7 q8) (defScope st) cc cda).fd doc pm ctv) ⟨us, []⟩ = pure ([self, pn].zip us)
theorem initOf_by {G : Fx} {P : Program} {w : World} {K : PySem.W.Frag} {mg : Str → Option Value} {base : Heap} {n : Nat} {C D : Addr} {qual : Str} {st : Stmt} (h : InitL (G.M.tk n) (G.xf n) st) (hf : fnR K (iAt K D) = iR qual st) (hb : initB K P.main.file D qual = true)
    (hsup : mg "super" = none) (hst : PySem.W.nsIn K cStatics "thirdparty.any" = some none) (htop : (P.main.scope.names.lookup ("super" : Str)).isSome = false) (ic : inclB K D (G.xf n) C = true) (iC : PySem.W.findIn K (.ref C) "__init__" = some (some (.ref (iAt K D)))) : InitOf G P w K mg base n C := by
  obtain ⟨te, self, pn, q0, q1, q2, q3, q4, q5, q6, q7, q8, e, a1, a2, a3, a4, a5, a6, a7, a8, a9, a10, a11⟩ := h.ex
  unfold iR at hf
  rw [e] at hf
  exact initOf_ok hf hb hsup hst htop a1 a2 a3 a4 a5 a6 a7 a8 a9 a10 (fun cc cda doc pm ctv us hl => a11 qual cc cda doc pm ctv us hl) ic iC
theorem lit_of {K : PySem.W.Frag} {w : World} {x : Str} {a : Addr} {es : Array DictEntry} {m : Nat} (h1 : PySem.W.nsIn K mainGlobals x = some (some (.ref a))) (h2 : K.lookup a = some ⟨.type "dict", none, .dict es m, #[]⟩) (h3 : PySem.W.KeysLit w.params es.toList) : ∃ a es m, PySem.W.nsIn K mainGlobals x = some (some (.ref a)) ∧ K.lookup a = some ⟨.type "dict", none, .dict es m, #[]⟩ ∧ PySem.W.KeysLit w.params es.toList := ⟨a, es, m, h1, h2, h3⟩
/-- the same, the class by its name -/
theorem initOf_at {G : Fx} {P : Program} {w : World} {K : PySem.W.Frag} {mg : Str → Option Value} {base : Heap} {n : Nat} {C : Addr} (x qual : Str) {st : Stmt} (hsup : mg "super" = none) (hst : PySem.W.nsIn K cStatics "thirdparty.any" = some none) (h : InitL (G.M.tk n) (G.xf n) st) (hf : fnR K (iAt K (gAt K x)) = iR qual st) (hb : initB K P.main.file (gAt K x) qual = true)
    (htop : (P.main.scope.names.lookup ("super" : Str)).isSome = false) (ic : inclB K (gAt K x) (G.xf n) C = true) (iC : PySem.W.findIn K (.ref C) "__init__" = some (some (.ref (iAt K (gAt K x))))) : InitOf G P w K mg base n C :=
  initOf_by (D := gAt K x) h hf hb hsup hst htop ic iC
end Cs
end
section
namespace K07
open Cz
/-- is_listed(thing); slots thing -/
def n_is_listed : Nat := 0
def b_is_listed : Ss := .cons (.ret (.isi (.bor 0) [.tuple, .list])) .nil
def F_is_listed : Fn := ⟨1, 1, b_is_listed⟩
/-- is_letters(thing); slots thing letter -/
def n_is_letters : Nat := 1
def b_is_letters_0a : Ss := .cons (.ret (.c (.bl false))) .nil
def b_is_letters_1 : Ss := .cons (.ret (.bi .all (.cons (.lc [1] (.val (.var 0)) .nil (.chain .le .le (.c (.str [97])) (.bor 1) (.c (.str [122])))) .nil))) .nil
def b_is_letters : Ss := .cons (.ife (.or (.cons (.not (.isi (.bor 0) [.str])) (.cons (.not (.chain .le .le (.c (.int 1)) (.bi .len (.cons (.bor 0) .nil)) (.g 1))) .nil))) b_is_letters_0a .nil) b_is_letters_1
def F_is_letters : Fn := ⟨1, 2, b_is_letters⟩
/-- is_name(thing); slots thing -/
def n_is_name : Nat := 2
def b_is_name : Ss := .cons (.ret (.and (.cons (.call 1 (.cons (.var 0) .nil)) (.cons (.cmp .nin (.bor 0) (.g 0)) .nil)))) .nil
def F_is_name : Fn := ⟨1, 1, b_is_name⟩
/-- told_saying(thing, depth, room); slots thing depth room kind told left arm found -/
def n_told_saying : Nat := 3
def b_told_saying_0a : Ss := .cons (.ret (.c .non)) .nil
def b_told_saying_2a : Ss := .cons (.ret (.c .non)) .nil
def b_told_saying_3a : Ss := .cons (.ret (.tup (.cons (.tup (.cons (.var 3) (.cons (.ix (.bor 0) (.c (.int 1))) .nil))) (.cons (.ife (.call 2 (.cons (.ix (.bor 0) (.c (.int 1))) .nil)) (.bin .sub (.bor 2) (.c (.int 1))) (.c .non)) .nil)))) .nil
def b_told_saying_6a_1a : Ss := .cons (.ret (.c .non)) .nil
def b_told_saying_6a_3 : Ss := .cons (.asg 5 (.ix (.bor 7) (.c (.int 1)))) .nil
def b_told_saying_6a_2 : Ss := .cons (.app 4 (.ix (.bor 7) (.c (.int 0)))) b_told_saying_6a_3
def b_told_saying_6a_1 : Ss := .cons (.ife (.or (.cons (.cmp .isN (.bor 7) (.c .non)) (.cons (.cmp .isN (.ix (.bor 7) (.c (.int 1))) (.c .non)) .nil))) b_told_saying_6a_1a .nil) b_told_saying_6a_2
def b_told_saying_6a : Ss := .cons (.asg 7 (.call 3 (.cons (.var 6) (.cons (.bin .add (.bor 1) (.c (.int 1))) (.cons (.var 5) .nil))))) b_told_saying_6a_1
def b_told_saying_7 : Ss := .cons (.ret (.tup (.cons (.bi .tuple (.cons (.bor 4) .nil)) (.cons (.var 5) .nil)))) .nil
def b_told_saying_6 : Ss := .cons (.for_ [6] (.val (.slF (.bor 0) (.c (.int 1)))) b_told_saying_6a) b_told_saying_7
def b_told_saying_5 : Ss := .cons (.asg 5 (.bin .sub (.bor 2) (.c (.int 1)))) b_told_saying_6
def b_told_saying_4 : Ss := .cons (.asg 4 (.lst (.cons (.var 3) .nil))) b_told_saying_5
def b_told_saying_3 : Ss := .cons (.ife (.cmp .eq (.bor 3) (.c (.str [102, 97, 99, 116]))) b_told_saying_3a .nil) b_told_saying_4
def b_told_saying_2 : Ss := .cons (.ife (.or (.cons (.not (.isi (.bor 3) [.str])) (.cons (.cmp .nin (.bor 3) (.g 4)) (.cons (.cmp .ne (.bi .len (.cons (.bor 0) .nil)) (.bin .add (.ix (.g 4) (.bor 3)) (.c (.int 1)))) .nil)))) b_told_saying_2a .nil) b_told_saying_3
def b_told_saying_1 : Ss := .cons (.asg 3 (.ix (.bor 0) (.c (.int 0)))) b_told_saying_2
def b_told_saying : Ss := .cons (.ife (.or (.cons (.cmp .gt (.bor 1) (.g 3)) (.cons (.cmp .eq (.bor 2) (.c (.int 0))) (.cons (.not (.call 0 (.cons (.var 0) .nil))) (.cons (.cmp .eq (.bi .len (.cons (.bor 0) .nil)) (.c (.int 0))) .nil))))) b_told_saying_0a .nil) b_told_saying_1
def F_told_saying : Fn := ⟨3, 8, b_told_saying⟩
/-- saying_or_none(thing); slots thing found -/
def n_saying_or_none : Nat := 4
def b_saying_or_none_1a : Ss := .cons (.ret (.c .non)) .nil
def b_saying_or_none_2 : Ss := .cons (.ret (.ix (.bor 1) (.c (.int 0)))) .nil
def b_saying_or_none_1 : Ss := .cons (.ife (.or (.cons (.cmp .isN (.bor 1) (.c .non)) (.cons (.cmp .isN (.ix (.bor 1) (.c (.int 1))) (.c .non)) .nil))) b_saying_or_none_1a .nil) b_saying_or_none_2
def b_saying_or_none : Ss := .cons (.asg 1 (.call 3 (.cons (.var 0) (.cons (.c (.int 0)) (.cons (.g 2) .nil))))) b_saying_or_none_1
def F_saying_or_none : Fn := ⟨1, 2, b_saying_or_none⟩
/-- head_of(thing); slots thing kind saying -/
def n_head_of : Nat := 5
def b_head_of_0a : Ss := .cons (.ret (.c .non)) .nil
def b_head_of_2a : Ss := .cons (.ret (.c .non)) .nil
def b_head_of_3a : Ss := .cons (.ret (.ife (.call 2 (.cons (.ix (.bor 0) (.c (.int 1))) .nil)) (.tup (.cons (.var 1) (.cons (.ix (.bor 0) (.c (.int 1))) .nil))) (.c .non))) .nil
def b_head_of_4a : Ss := .cons (.ret (.tup (.cons (.var 1) .nil))) .nil
def b_head_of_6 : Ss := .cons (.ret (.ife (.cmp .isN (.bor 2) (.c .non)) (.c .non) (.tup (.cons (.var 1) (.cons (.var 2) .nil))))) .nil
def b_head_of_5 : Ss := .cons (.asg 2 (.call 4 (.cons (.ix (.bor 0) (.c (.int 1))) .nil))) b_head_of_6
def b_head_of_4 : Ss := .cons (.ife (.cmp .ne (.slT (.ix (.g 7) (.bor 1)) (.c (.int 1))) (.c (.str [115]))) b_head_of_4a .nil) b_head_of_5
def b_head_of_3 : Ss := .cons (.ife (.cmp .eq (.ix (.g 7) (.bor 1)) (.c (.str [110]))) b_head_of_3a .nil) b_head_of_4
def b_head_of_2 : Ss := .cons (.ife (.or (.cons (.not (.isi (.bor 1) [.str])) (.cons (.cmp .nin (.bor 1) (.g 7)) (.cons (.cmp .ne (.bi .len (.cons (.bor 0) .nil)) (.bin .add (.bi .len (.cons (.ix (.g 7) (.bor 1)) .nil)) (.c (.int 1)))) .nil)))) b_head_of_2a .nil) b_head_of_3
def b_head_of_1 : Ss := .cons (.asg 1 (.ix (.bor 0) (.c (.int 0)))) b_head_of_2
def b_head_of : Ss := .cons (.ife (.or (.cons (.not (.call 0 (.cons (.var 0) .nil))) (.cons (.cmp .eq (.bi .len (.cons (.bor 0) .nil)) (.c (.int 0))) .nil))) b_head_of_0a .nil) b_head_of_1
def F_head_of : Fn := ⟨1, 3, b_head_of⟩
/-- arms_of(part); slots part -/
def n_arms_of : Nat := 6
def b_arms_of : Ss := .cons (.ret (.slF (.bor 0) (.bin .sub (.bi .len (.cons (.bor 0) .nil)) (.me .count (.ix (.g 7) (.ix (.bor 0) (.c (.int 0)))) (.cons (.c (.str [112])) .nil))))) .nil
def F_arms_of : Fn := ⟨1, 1, b_arms_of⟩
/-- walked(thing, depth, spot); slots thing depth spot head told at arm inner -/
def n_walked : Nat := 7
def b_walked_0a : Ss := .cons (.raise 2 (.var 2)) .nil
def b_walked_2a : Ss := .cons (.raise 2 (.var 2)) .nil
def b_walked_5a_1 : Ss := .cons (.app 4 (.var 7)) .nil
def b_walked_5a : Ss := .cons (.asgT [7, 5] (.call 7 (.cons (.var 6) (.cons (.bin .add (.bor 1) (.c (.int 1))) (.cons (.var 5) .nil))))) b_walked_5a_1
def b_walked_6 : Ss := .cons (.ret (.tup (.cons (.bi .tuple (.cons (.bor 4) .nil)) (.cons (.var 5) .nil)))) .nil
def b_walked_5 : Ss := .cons (.for_ [6] (.val (.slF (.bor 0) (.bi .len (.cons (.bor 3) .nil)))) b_walked_5a) b_walked_6
def b_walked_4 : Ss := .cons (.asg 5 (.bin .add (.bor 2) (.c (.int 1)))) b_walked_5
def b_walked_3 : Ss := .cons (.asg 4 (.bi .list (.cons (.bor 3) .nil))) b_walked_4
def b_walked_2 : Ss := .cons (.ife (.cmp .isN (.bor 3) (.c .non)) b_walked_2a .nil) b_walked_3
def b_walked_1 : Ss := .cons (.asg 3 (.call 5 (.cons (.var 0) .nil))) b_walked_2
def b_walked : Ss := .cons (.ife (.or (.cons (.cmp .ge (.bor 2) (.g 5)) (.cons (.cmp .gt (.bor 1) (.g 6)) .nil))) b_walked_0a .nil) b_walked_1
def F_walked : Fn := ⟨3, 8, b_walked⟩
/-- checked_tree(thing); slots thing -/
def n_checked_tree : Nat := 8
def b_checked_tree : Ss := .cons (.ret (.ix (.call 7 (.cons (.var 0) (.cons (.c (.int 0)) (.cons (.c (.int 0)) .nil)))) (.c (.int 0)))) .nil
def F_checked_tree : Fn := ⟨1, 1, b_checked_tree⟩
/-- all_parts(tree); slots tree arm part -/
def n_all_parts : Nat := 9
def b_all_parts : Ss := .cons (.ret (.bin .add (.lst (.cons (.var 0) .nil)) (.lc2 [1] (.val (.call 6 (.cons (.var 0) .nil))) [2] (.val (.call 9 (.cons (.var 1) .nil))) (.var 2)))) .nil
def F_all_parts : Fn := ⟨1, 3, b_all_parts⟩
/-- parts_of(tree); slots tree -/
def n_parts_of : Nat := 10
def b_parts_of : Ss := .cons (.ret (.bi .tuple (.cons (.call 9 (.cons (.call 8 (.cons (.var 0) .nil)) .nil)) .nil))) .nil
def F_parts_of : Fn := ⟨1, 1, b_parts_of⟩
/-- inner_spots(tree, spot); slots tree spot told own at arm found -/
def n_inner_spots : Nat := 11
def b_inner_spots_3a_3 : Ss := .cons (.asg 4 (.bin .add (.bor 4) (.bi .len (.cons (.bor 6) .nil)))) .nil
def b_inner_spots_3a_2 : Ss := .cons (.asg 2 (.bin .add (.bor 2) (.bor 6))) b_inner_spots_3a_3
def b_inner_spots_3a_1 : Ss := .cons (.asg 6 (.call 11 (.cons (.var 5) (.cons (.var 4) .nil)))) b_inner_spots_3a_2
def b_inner_spots_3a : Ss := .cons (.app 3 (.var 4)) b_inner_spots_3a_1
def b_inner_spots_4 : Ss := .cons (.ret (.bin .add (.lst (.cons (.bi .tuple (.cons (.bor 3) .nil)) .nil)) (.slF (.bor 2) (.c (.int 1))))) .nil
def b_inner_spots_3 : Ss := .cons (.for_ [5] (.val (.call 6 (.cons (.var 0) .nil))) b_inner_spots_3a) b_inner_spots_4
def b_inner_spots_2 : Ss := .cons (.asg 4 (.bin .add (.bor 1) (.c (.int 1)))) b_inner_spots_3
def b_inner_spots_1 : Ss := .cons (.asg 3 (.lst .nil)) b_inner_spots_2
def b_inner_spots : Ss := .cons (.asg 2 (.lst (.cons (.tup .nil) .nil))) b_inner_spots_1
def F_inner_spots : Fn := ⟨2, 7, b_inner_spots⟩
/-- after_spots(parts, inner); slots parts inner told spot part kind arms number arm -/
def n_after_spots : Nat := 12
def b_after_spots_1a_2a_0a : Ss := .cons (.asgIx 2 (.bor 8) (.ix (.bor 6) (.c (.int 1)))) .nil
def b_after_spots_1a_2a_0b_0a : Ss := .cons (.asgIx 2 (.bor 8) (.var 3)) .nil
def b_after_spots_1a_2a_0b_0b : Ss := .cons (.asgIx 2 (.bor 8) (.ix (.bor 2) (.bor 3))) .nil
def b_after_spots_1a_2a_0b : Ss := .cons (.ife (.cmp .in_ (.bor 5) (.tup (.cons (.c (.str [119, 104, 105, 108, 101])) (.cons (.c (.str [109, 111, 114, 101])) (.cons (.c (.str [101, 97, 99, 104])) .nil))))) b_after_spots_1a_2a_0b_0a b_after_spots_1a_2a_0b_0b) .nil
def b_after_spots_1a_2a : Ss := .cons (.ife (.and (.cons (.cmp .eq (.bor 5) (.c (.str [116, 104, 101, 110]))) (.cons (.cmp .eq (.bor 7) (.c (.int 0))) .nil))) b_after_spots_1a_2a_0a b_after_spots_1a_2a_0b) .nil
def b_after_spots_1a_2 : Ss := .cons (.for_ [7, 8] (.enum (.var 6)) b_after_spots_1a_2a) .nil
def b_after_spots_1a_1 : Ss := .cons (.asg 6 (.ix (.bor 1) (.bor 3))) b_after_spots_1a_2
def b_after_spots_1a : Ss := .cons (.asg 5 (.ix (.bor 4) (.c (.int 0)))) b_after_spots_1a_1
def b_after_spots_2 : Ss := .cons (.ret (.bi .tuple (.cons (.bor 2) .nil))) .nil
def b_after_spots_1 : Ss := .cons (.for_ [3, 4] (.enum (.var 0)) b_after_spots_1a) b_after_spots_2
def b_after_spots : Ss := .cons (.asg 2 (.lc [4] (.val (.var 0)) .nil (.bi .len (.cons (.bor 0) .nil)))) b_after_spots_1
def F_after_spots : Fn := ⟨2, 9, b_after_spots⟩
/-- followers(tree); slots tree told -/
def n_followers : Nat := 13
def b_followers_1 : Ss := .cons (.ret (.call 12 (.cons (.call 9 (.cons (.var 1) .nil)) (.cons (.call 11 (.cons (.var 1) (.cons (.c (.int 0)) .nil))) .nil)))) .nil
def b_followers : Ss := .cons (.asg 1 (.call 8 (.cons (.var 0) .nil))) b_followers_1
def F_followers : Fn := ⟨1, 2, b_followers⟩
/-- _law_source(script, place); slots script place cell seed one number -/
def n__law_source : Nat := 14
def b__law_source_2a : Ss := .cons (.asg 3 (.bin .mod (.bi .int (.cons (.bin .add (.bin .mul (.bor 3) (.c (.int 31))) (.bin .mod (.bi .int (.cons (.bor 4) .nil)) (.c (.int 2147483629)))) .nil)) (.c (.int 2147483629)))) .nil
def b__law_source_5 : Ss := .cons (.ret (.lst (.cons (.ife (.cmp .ge (.bor 5) (.bin .pow (.c (.int 10)) (.c (.int 18)))) (.bin .sub (.bor 5) (.bin .shl (.bin .shr (.bor 5) (.c (.int 3000))) (.c (.int 3000)))) (.c (.int 0))) (.cons (.var 3) (.cons (.c (.int 0)) .nil))))) .nil
def b__law_source_4 : Ss := .cons (.asg 5 (.bi .abs (.cons (.bor 2) .nil))) b__law_source_5
def b__law_source_3 : Ss := .cons (.asg 3 (.bin .mod (.bi .int (.cons (.bin .add (.bin .mul (.bor 3) (.c (.int 31))) (.bin .mod (.bi .int (.cons (.bor 2) .nil)) (.c (.int 2147483587)))) .nil)) (.c (.int 2147483629)))) b__law_source_4
def b__law_source_2 : Ss := .cons (.for_ [4] (.val (.slT (.bor 0) (.c (.int 3)))) b__law_source_2a) b__law_source_3
def b__law_source_1 : Ss := .cons (.asg 3 (.bin .add (.bin .mul (.c (.int 1009)) (.bor 1)) (.c (.int 17)))) b__law_source_2
def b__law_source : Ss := .cons (.asg 2 (.ife (.cmp .lt (.bor 1) (.bi .len (.cons (.bor 0) .nil))) (.ix (.bor 0) (.bor 1)) (.bin .add (.bin .mul (.c (.int 5)) (.bor 1)) (.c (.int 3))))) b__law_source_1
def F__law_source : Fn := ⟨2, 6, b__law_source⟩
/-- _law_pick(source, many); slots source many mixed digit -/
def n__law_pick : Nat := 15
def b__law_pick_0a_2 : Ss := .cons (.ret (.var 3)) .nil
def b__law_pick_0a_1 : Ss := .cons (.asgIx 0 (.c (.int 0)) (.bin .fdiv (.ix (.bor 0) (.c (.int 0))) (.bor 1))) b__law_pick_0a_2
def b__law_pick_0a : Ss := .cons (.asg 3 (.bin .mod (.bi .int (.cons (.ix (.bor 0) (.c (.int 0))) .nil)) (.bor 1))) b__law_pick_0a_1
def b__law_pick_5 : Ss := .cons (.ret (.bin .mod (.bi .int (.cons (.bin .fdiv (.bin .mod (.bi .int (.cons (.bin .add (.bin .mul (.bor 2) (.bor 2)) (.bor 2)) .nil)) (.c (.int 2147483587))) (.c (.int 3))) .nil)) (.bor 1))) .nil
def b__law_pick_4 : Ss := .cons (.asg 2 (.bin .mod (.bi .int (.cons (.bin .add (.bin .mul (.bor 2) (.c (.int 16807))) (.c (.int 11))) .nil)) (.c (.int 2147483647)))) b__law_pick_5
def b__law_pick_3 : Ss := .cons (.asg 2 (.bin .mod (.bi .int (.cons (.bin .add (.bin .add (.bin .mul (.bor 2) (.bor 2)) (.bin .mul (.c (.int 69621)) (.ix (.bor 0) (.c (.int 2))))) (.ix (.bor 0) (.c (.int 1)))) .nil)) (.c (.int 2147483629)))) b__law_pick_4
def b__law_pick_2 : Ss := .cons (.asg 2 (.bin .mod (.bi .int (.cons (.bin .mul (.bin .add (.ix (.bor 0) (.c (.int 1))) (.bin .mul (.c (.int 7919)) (.ix (.bor 0) (.c (.int 2))))) (.c (.int 48271))) .nil)) (.c (.int 2147483647)))) b__law_pick_3
def b__law_pick_1 : Ss := .cons (.asgIx 0 (.c (.int 2)) (.bin .add (.ix (.bor 0) (.c (.int 2))) (.c (.int 1)))) b__law_pick_2
def b__law_pick : Ss := .cons (.ife (.cmp .gt (.ix (.bor 0) (.c (.int 0))) (.c (.int 0))) b__law_pick_0a .nil) b__law_pick_1
def F__law_pick : Fn := ⟨2, 4, b__law_pick⟩
/-- _law_say(source, facts, depth); slots source facts depth kind one -/
def n__law_say : Nat := 16
def b__law_say_1a : Ss := .cons (.ret (.ife (.call 15 (.cons (.bor 0) (.cons (.c (.int 2)) .nil))) (.tup (.cons (.c (.str [121, 101, 115])) .nil)) (.tup (.cons (.c (.str [110, 111])) .nil)))) .nil
def b__law_say_2a : Ss := .cons (.ret (.tup (.cons (.c (.str [102, 97, 99, 116])) (.cons (.ix (.bor 1) (.call 15 (.cons (.bor 0) (.cons (.bi .len (.cons (.bor 1) .nil)) .nil)))) .nil)))) .nil
def b__law_say_4 : Ss := .cons (.ret (.ife (.cmp .eq (.bor 3) (.c (.int 4))) (.tup (.cons (.c (.str [110, 111, 116])) (.cons (.var 4) .nil))) (.tup (.cons (.ife (.cmp .eq (.bor 3) (.c (.int 5))) (.c (.str [97, 110, 100])) (.c (.str [111, 114]))) (.cons (.var 4) (.cons (.call 16 (.cons (.bor 0) (.cons (.var 1) (.cons (.bin .sub (.bor 2) (.c (.int 1))) .nil)))) .nil)))))) .nil
def b__law_say_3 : Ss := .cons (.asg 4 (.call 16 (.cons (.bor 0) (.cons (.var 1) (.cons (.bin .sub (.bor 2) (.c (.int 1))) .nil))))) b__law_say_4
def b__law_say_2 : Ss := .cons (.ife (.cmp .lt (.bor 3) (.c (.int 4))) b__law_say_2a .nil) b__law_say_3
def b__law_say_1 : Ss := .cons (.ife (.or (.cons (.cmp .eq (.bi .len (.cons (.bor 1) .nil)) (.c (.int 0))) (.cons (.and (.cons (.cmp .eq (.bor 3) (.c (.int 3))) (.cons (.cmp .eq (.call 15 (.cons (.bor 0) (.cons (.c (.int 4)) .nil))) (.c (.int 2))) .nil))) .nil))) b__law_say_1a .nil) b__law_say_2
def b__law_say : Ss := .cons (.asg 3 (.call 15 (.cons (.bor 0) (.cons (.ife (.cmp .gt (.bor 2) (.c (.int 0))) (.c (.int 7)) (.c (.int 4))) .nil)))) b__law_say_1
def F__law_say : Fn := ⟨3, 5, b__law_say⟩
/-- _law_leaf(source, facts, names); slots source facts names kind -/
def n__law_leaf : Nat := 17
def b__law_leaf_1a : Ss := .cons (.ret (.tup (.cons (.ife (.cmp .eq (.bor 3) (.c (.int 5))) (.c (.str [110, 101, 101, 100])) (.c (.str [103, 114, 97, 110, 116]))) (.cons (.call 16 (.cons (.bor 0) (.cons (.var 1) (.cons (.c (.int 1)) .nil)))) .nil)))) .nil
def b__law_leaf_2a : Ss := .cons (.ret (.ife (.call 15 (.cons (.bor 0) (.cons (.c (.int 2)) .nil))) (.tup (.cons (.c (.str [108, 111, 115, 101])) .nil)) (.tup (.cons (.c (.str [119, 105, 110])) .nil)))) .nil
def b__law_leaf_3 : Ss := .cons (.ret (.ife (.or (.cons (.cmp .eq (.bor 3) (.c (.int 7))) (.cons (.cmp .eq (.bi .len (.cons (.bor 2) .nil)) (.c (.int 0))) .nil))) (.tup (.cons (.c (.str [112, 97, 115, 115])) .nil)) (.tup (.cons (.c (.str [100, 101, 101, 100])) (.cons (.ix (.bor 2) (.call 15 (.cons (.bor 0) (.cons (.bi .len (.cons (.bor 2) .nil)) .nil)))) .nil))))) .nil
def b__law_leaf_2 : Ss := .cons (.ife (.and (.cons (.cmp .eq (.bor 3) (.c (.int 9))) (.cons (.cmp .eq (.call 15 (.cons (.bor 0) (.cons (.c (.int 3)) .nil))) (.c (.int 1))) .nil))) b__law_leaf_2a .nil) b__law_leaf_3
def b__law_leaf_1 : Ss := .cons (.ife (.and (.cons (.cmp .in_ (.bor 3) (.tup (.cons (.c (.int 5)) (.cons (.c (.int 8)) .nil)))) (.cons (.cmp .gt (.bi .len (.cons (.bor 1) .nil)) (.c (.int 0))) .nil))) b__law_leaf_1a .nil) b__law_leaf_2
def b__law_leaf : Ss := .cons (.asg 3 (.call 15 (.cons (.bor 0) (.cons (.c (.int 12)) .nil)))) b__law_leaf_1
def F__law_leaf : Fn := ⟨3, 4, b__law_leaf⟩
/-- _law_tree(source, facts, names, size); slots source facts names size kind many one two word head -/
def n__law_tree : Nat := 18
def b__law_tree_0a : Ss := .cons (.ret (.call 17 (.cons (.bor 0) (.cons (.var 1) (.cons (.var 2) .nil))))) .nil
def b__law_tree_2a_2 : Ss := .cons (.ret (.bin .add (.bor 9) (.tup (.cons (.call 18 (.cons (.bor 0) (.cons (.var 1) (.cons (.var 2) (.cons (.bin .sub (.bor 3) (.c (.int 1))) .nil))))) .nil)))) .nil
def b__law_tree_2a_1 : Ss := .cons (.asg 9 (.ife (.cmp .eq (.bor 8) (.c (.str [119, 104, 105, 108, 101]))) (.tup (.cons (.var 8) (.cons (.call 16 (.cons (.bor 0) (.cons (.var 1) (.cons (.c (.int 1)) .nil)))) .nil))) (.tup (.cons (.var 8) .nil)))) b__law_tree_2a_2
def b__law_tree_2a : Ss := .cons (.asg 8 (.ife (.and (.cons (.cmp .eq (.bor 4) (.c (.int 7))) (.cons (.cmp .gt (.bi .len (.cons (.bor 1) .nil)) (.c (.int 0))) .nil))) (.c (.str [119, 104, 105, 108, 101])) (.ife (.call 15 (.cons (.bor 0) (.cons (.c (.int 2)) .nil))) (.c (.str [109, 111, 114, 101])) (.c (.str [101, 97, 99, 104]))))) b__law_tree_2a_1
def b__law_tree_6a : Ss := .cons (.ret (.tup (.cons (.c (.str [105, 102])) (.cons (.call 16 (.cons (.bor 0) (.cons (.var 1) (.cons (.c (.int 1)) .nil)))) (.cons (.var 6) (.cons (.var 7) .nil)))))) .nil
def b__law_tree_7 : Ss := .cons (.ret (.tup (.cons (.ife (.cmp .in_ (.bor 4) (.tup (.cons (.c (.int 0)) (.cons (.c (.int 3)) (.cons (.c (.int 5)) (.cons (.c (.int 6)) (.cons (.c (.int 9)) (.cons (.c (.int 11)) .nil)))))))) (.c (.str [116, 104, 101, 110])) (.ife (.cmp .in_ (.bor 4) (.tup (.cons (.c (.int 1)) (.cons (.c (.int 4)) .nil)))) (.c (.str [111, 119, 110])) (.c (.str [111, 116, 104, 101, 114])))) (.cons (.var 6) (.cons (.var 7) .nil))))) .nil
def b__law_tree_6 : Ss := .cons (.ife (.and (.cons (.cmp .eq (.bor 4) (.c (.int 5))) (.cons (.cmp .gt (.bi .len (.cons (.bor 1) .nil)) (.c (.int 0))) .nil))) b__law_tree_6a .nil) b__law_tree_7
def b__law_tree_5 : Ss := .cons (.asg 7 (.call 18 (.cons (.bor 0) (.cons (.var 1) (.cons (.var 2) (.cons (.bin .sub (.bin .sub (.bor 3) (.c (.int 1))) (.bor 5)) .nil)))))) b__law_tree_6
def b__law_tree_4 : Ss := .cons (.asg 6 (.call 18 (.cons (.bor 0) (.cons (.var 1) (.cons (.var 2) (.cons (.var 5) .nil)))))) b__law_tree_5
def b__law_tree_3 : Ss := .cons (.asg 5 (.bin .add (.c (.int 1)) (.call 15 (.cons (.bor 0) (.cons (.bi .max2 (.cons (.c (.int 1)) (.cons (.bin .sub (.bor 3) (.c (.int 2))) .nil))) .nil))))) b__law_tree_4
def b__law_tree_2 : Ss := .cons (.ife (.cmp .in_ (.bor 4) (.tup (.cons (.c (.int 7)) (.cons (.c (.int 10)) .nil)))) b__law_tree_2a .nil) b__law_tree_3
def b__law_tree_1 : Ss := .cons (.asg 4 (.call 15 (.cons (.bor 0) (.cons (.c (.int 12)) .nil)))) b__law_tree_2
def b__law_tree : Ss := .cons (.ife (.cmp .lt (.bor 3) (.c (.int 2))) b__law_tree_0a .nil) b__law_tree_1
def F__law_tree : Fn := ⟨4, 10, b__law_tree⟩
/-- _law_arms(part); slots part many -/
def n__law_arms : Nat := 19
def b__law_arms_1 : Ss := .cons (.ret (.ife (.cmp .in_ (.ix (.bor 0) (.c (.int 0))) (.bor 1)) (.bi .list (.cons (.slF (.bor 0) (.bin .sub (.bi .len (.cons (.bor 0) .nil)) (.ix (.bor 1) (.ix (.bor 0) (.c (.int 0)))))) .nil)) (.lst .nil))) .nil
def b__law_arms : Ss := .cons (.asg 1 (.dcc [[116, 104, 101, 110], [111, 119, 110], [111, 116, 104, 101, 114], [105, 102], [119, 104, 105, 108, 101], [109, 111, 114, 101], [101, 97, 99, 104]] [(.int 2), (.int 2), (.int 2), (.int 2), (.int 1), (.int 1), (.int 1)])) b__law_arms_1
def F__law_arms : Fn := ⟨1, 2, b__law_arms⟩
/-- _law_parts(tree); slots tree told arm -/
def n__law_parts : Nat := 20
def b__law_parts_1a : Ss := .cons (.asg 1 (.bin .add (.bor 1) (.call 20 (.cons (.var 2) .nil)))) .nil
def b__law_parts_2 : Ss := .cons (.ret (.var 1)) .nil
def b__law_parts_1 : Ss := .cons (.for_ [2] (.val (.call 19 (.cons (.var 0) .nil))) b__law_parts_1a) b__law_parts_2
def b__law_parts : Ss := .cons (.asg 1 (.lst (.cons (.var 0) .nil))) b__law_parts_1
def F__law_parts : Fn := ⟨1, 3, b__law_parts⟩
/-- _law_put_at(tree, spot, put); slots tree spot put arms told at arm many -/
def n__law_put_at : Nat := 21
def b__law_put_at_0a : Ss := .cons (.ret (.var 2)) .nil
def b__law_put_at_4a_2 : Ss := .cons (.asg 5 (.bin .add (.bor 5) (.bor 7))) .nil
def b__law_put_at_4a_1 : Ss := .cons (.app 4 (.ife (.and (.cons (.cmp .le (.bor 5) (.bor 1)) (.cons (.cmp .lt (.bor 1) (.bin .add (.bor 5) (.bor 7))) .nil))) (.call 21 (.cons (.var 6) (.cons (.bin .sub (.bor 1) (.bor 5)) (.cons (.var 2) .nil)))) (.var 6))) b__law_put_at_4a_2
def b__law_put_at_4a : Ss := .cons (.asg 7 (.bi .len (.cons (.call 20 (.cons (.var 6) .nil)) .nil))) b__law_put_at_4a_1
def b__law_put_at_5 : Ss := .cons (.ret (.bi .tuple (.cons (.bor 4) .nil))) .nil
def b__law_put_at_4 : Ss := .cons (.for_ [6] (.val (.var 3)) b__law_put_at_4a) b__law_put_at_5
def b__law_put_at_3 : Ss := .cons (.asg 5 (.c (.int 1))) b__law_put_at_4
def b__law_put_at_2 : Ss := .cons (.asg 4 (.bi .list (.cons (.slT (.bor 0) (.bin .sub (.bi .len (.cons (.bor 0) .nil)) (.bi .len (.cons (.bor 3) .nil)))) .nil))) b__law_put_at_3
def b__law_put_at_1 : Ss := .cons (.asg 3 (.call 19 (.cons (.var 0) .nil))) b__law_put_at_2
def b__law_put_at : Ss := .cons (.ife (.cmp .eq (.bor 1) (.c (.int 0))) b__law_put_at_0a .nil) b__law_put_at_1
def F__law_put_at : Fn := ⟨3, 8, b__law_put_at⟩
/-- _law_fact_names(source, many); slots source many menu -/
def n__law_fact_names : Nat := 22
def b__law_fact_names_1 : Ss := .cons (.ret (.slT (.ix (.bor 2) (.call 15 (.cons (.bor 0) (.cons (.bi .len (.cons (.bor 2) .nil)) .nil)))) (.bor 1))) .nil
def b__law_fact_names : Ss := .cons (.asg 2 (.lst (.cons (.tup (.cons (.c (.str [112])) (.cons (.c (.str [113])) (.cons (.c (.str [114])) .nil)))) (.cons (.tup (.cons (.c (.str [119, 101, 116])) (.cons (.c (.str [112])) (.cons (.c (.str [100, 117, 115, 107])) .nil)))) (.cons (.tup (.cons (.c (.str [113])) (.cons (.c (.str [112])) (.cons (.c (.str [122])) .nil)))) (.cons (.tup (.cons (.c (.str [112, 97, 105, 100])) (.cons (.c (.str [107, 101, 112, 116])) (.cons (.c (.str [120])) .nil)))) (.cons (.tup (.cons (.c (.str [114])) (.cons (.c (.str [112])) (.cons (.c (.str [113])) .nil)))) .nil))))))) b__law_fact_names_1
def F__law_fact_names : Fn := ⟨2, 3, b__law_fact_names⟩
/-- _law_deed_names(source, many); slots source many menu -/
def n__law_deed_names : Nat := 23
def b__law_deed_names_1 : Ss := .cons (.ret (.slT (.ix (.bor 2) (.call 15 (.cons (.bor 0) (.cons (.bi .len (.cons (.bor 2) .nil)) .nil)))) (.bor 1))) .nil
def b__law_deed_names : Ss := .cons (.asg 2 (.lst (.cons (.tup (.cons (.c (.str [97])) (.cons (.c (.str [98])) (.cons (.c (.str [99])) .nil)))) (.cons (.tup (.cons (.c (.str [97])) (.cons (.c (.str [99, 97, 114, 114, 121])) (.cons (.c (.str [100])) .nil)))) (.cons (.tup (.cons (.c (.str [97, 97])) (.cons (.c (.str [98])) (.cons (.c (.str [115, 101, 110, 100])) .nil)))) (.cons (.tup (.cons (.c (.str [98])) (.cons (.c (.str [98, 98])) (.cons (.c (.str [99])) .nil)))) (.cons (.tup (.cons (.c (.str [97])) (.cons (.c (.str [98])) (.cons (.c (.str [99])) .nil)))) .nil))))))) b__law_deed_names_1
def F__law_deed_names : Fn := ⟨2, 3, b__law_deed_names⟩
/-- _law_lists(thing); slots thing one -/
def n__law_lists : Nat := 24
def b__law_lists : Ss := .cons (.ret (.ife (.isi (.bor 0) [.tuple]) (.lc [1] (.val (.var 0)) .nil (.call 24 (.cons (.var 1) .nil))) (.var 0))) .nil
def F__law_lists : Fn := ⟨1, 2, b__law_lists⟩
/-- _law_follow(tree, behind, at); slots tree behind at kind told place arms k many after -/
def n__law_follow : Nat := 25
def b__law_follow_4a_2a : Ss := .cons (.asg 9 (.bin .add (.bor 5) (.bor 8))) .nil
def b__law_follow_4a_4 : Ss := .cons (.asg 5 (.bin .add (.bor 5) (.bor 8))) .nil
def b__law_follow_4a_3 : Ss := .cons (.asg 4 (.bin .add (.bor 4) (.call 25 (.cons (.ix (.bor 6) (.bor 7)) (.cons (.var 9) (.cons (.var 5) .nil)))))) b__law_follow_4a_4
def b__law_follow_4a_2 : Ss := .cons (.ife (.and (.cons (.cmp .eq (.bor 3) (.c (.str [116, 104, 101, 110]))) (.cons (.cmp .eq (.bor 7) (.c (.int 0))) .nil))) b__law_follow_4a_2a .nil) b__law_follow_4a_3
def b__law_follow_4a_1 : Ss := .cons (.asg 9 (.ife (.cmp .in_ (.bor 3) (.tup (.cons (.c (.str [119, 104, 105, 108, 101])) (.cons (.c (.str [109, 111, 114, 101])) (.cons (.c (.str [101, 97, 99, 104])) .nil))))) (.var 2) (.var 1))) b__law_follow_4a_2
def b__law_follow_4a : Ss := .cons (.asg 8 (.bi .len (.cons (.call 20 (.cons (.ix (.bor 6) (.bor 7)) .nil)) .nil))) b__law_follow_4a_1
def b__law_follow_5 : Ss := .cons (.ret (.var 4)) .nil
def b__law_follow_4 : Ss := .cons (.for_ [7] (.r1 (.bi .len (.cons (.bor 6) .nil))) b__law_follow_4a) b__law_follow_5
def b__law_follow_3 : Ss := .cons (.asg 6 (.call 19 (.cons (.var 0) .nil))) b__law_follow_4
def b__law_follow_2 : Ss := .cons (.asg 5 (.bin .add (.bor 2) (.c (.int 1)))) b__law_follow_3
def b__law_follow_1 : Ss := .cons (.asg 4 (.lst (.cons (.var 1) .nil))) b__law_follow_2
def b__law_follow : Ss := .cons (.asg 3 (.ix (.bor 0) (.c (.int 0)))) b__law_follow_1
def F__law_follow : Fn := ⟨3, 10, b__law_follow⟩
/-- _law_refusal(which, tree); slots which tree error -/
def n__law_refusal : Nat := 26
def b__law_refusal_0a : Ss := .cons (.ret (.c (.str [111, 116, 104, 101, 114]))) .nil
def b__law_refusal_0b : Ss := .cons (.ret (.ife (.exis 2 1) (.exf 2 0) (.c (.str [99, 108, 97, 115, 115])))) .nil
def b__law_refusal_0c_0a : Ss := .cons (.ex (.call 10 (.cons (.var 1) .nil))) .nil
def b__law_refusal_0c_0b_0a : Ss := .cons (.ex (.call 13 (.cons (.var 1) .nil))) .nil
def b__law_refusal_0c_0b_0b : Ss := .cons (.ex (.call 8 (.cons (.var 1) .nil))) .nil
def b__law_refusal_0c_0b : Ss := .cons (.ife (.cmp .eq (.bor 0) (.c (.int 1))) b__law_refusal_0c_0b_0a b__law_refusal_0c_0b_0b) .nil
def b__law_refusal_0c : Ss := .cons (.ife (.cmp .eq (.bor 0) (.c (.int 0))) b__law_refusal_0c_0a b__law_refusal_0c_0b) .nil
def b__law_refusal_1 : Ss := .cons (.ret (.c .non)) .nil
def b__law_refusal : Ss := .cons (.try_ b__law_refusal_0c (.cons 2 (some 2) b__law_refusal_0b (.cons 0 none b__law_refusal_0a .nil))) b__law_refusal_1
def F__law_refusal : Fn := ⟨2, 3, b__law_refusal⟩
/-- _law_wrong(source, old); slots source old menu -/
def n__law_wrong : Nat := 27
def b__law_wrong_4 : Ss := .cons (.ret (.ix (.bor 2) (.call 15 (.cons (.bor 0) (.cons (.bi .len (.cons (.bor 2) .nil)) .nil))))) .nil
def b__law_wrong_3 : Ss := .cons (.asg 2 (.bin .add (.bor 2) (.lst (.cons (.tup (.cons (.var 1) .nil)) (.cons (.tup (.cons (.c (.str [101, 97, 99, 104])) (.cons (.var 1) (.cons (.var 1) .nil)))) .nil))))) b__law_wrong_4
def b__law_wrong_2 : Ss := .cons (.asg 2 (.bin .add (.bor 2) (.lst (.cons (.tup (.cons (.c (.str [112, 97, 115, 115])) (.cons (.var 1) .nil))) (.cons (.tup (.cons (.c (.str [119, 105, 110])) (.cons (.c (.int 1)) .nil))) (.cons (.tup (.cons (.c (.str [100, 101, 101, 100])) (.cons (.c (.str [65, 98])) .nil))) (.cons (.tup (.cons (.c (.str [110, 101, 101, 100])) .nil)) (.cons (.tup (.cons (.c (.str [103, 114, 97, 110, 116])) (.cons (.tup (.cons (.c (.str [97, 110, 100])) (.cons (.tup (.cons (.c (.str [121, 101, 115])) .nil)) .nil))) .nil))) .nil)))))))) b__law_wrong_3
def b__law_wrong_1 : Ss := .cons (.asg 2 (.bin .add (.bor 2) (.lst (.cons (.tup (.cons (.c (.str [116, 104, 101, 110])) (.cons (.var 1) .nil))) (.cons (.tup (.cons (.c (.str [111, 119, 110])) (.cons (.var 1) (.cons (.var 1) (.cons (.var 1) .nil))))) (.cons (.tup (.cons (.c (.str [119, 104, 105, 108, 101])) (.cons (.var 1) (.cons (.var 1) .nil)))) (.cons (.tup (.cons (.c (.str [109, 111, 114, 101])) .nil)) (.cons (.tup (.cons (.c (.str [105, 102])) (.cons (.tup (.cons (.c (.str [121, 101, 115])) .nil)) (.cons (.var 1) .nil)))) .nil)))))))) b__law_wrong_2
def b__law_wrong : Ss := .cons (.asg 2 (.lst (.cons (.c .non) (.cons (.tup .nil) (.cons (.c (.str [112, 97, 115, 115])) (.cons (.tup (.cons (.c (.str [100, 101, 101, 100])) .nil)) (.cons (.tup (.cons (.c (.str [100, 101, 101, 100])) (.cons (.c (.str [112, 97, 115, 115])) .nil))) (.cons (.tup (.cons (.c (.str [100, 101, 101, 100])) (.cons (.c (.str [97])) (.cons (.c (.str [98])) .nil)))) (.cons (.tup (.cons (.c (.str [110, 101, 101, 100])) (.cons (.tup (.cons (.c (.str [102, 97, 99, 116])) (.cons (.c (.int 3)) .nil))) .nil))) (.cons (.tup (.cons (.c (.str [98, 111, 116, 104])) (.cons (.var 1) .nil))) .nil)))))))))) b__law_wrong_1
def F__law_wrong : Fn := ⟨2, 3, b__law_wrong⟩
/-- _law_tower(many, kind); slots many kind told k -/
def n__law_tower : Nat := 28
def b__law_tower_1a : Ss := .cons (.asg 2 (.ife (.cmp .eq (.bor 1) (.c (.str [119, 104, 105, 108, 101]))) (.tup (.cons (.var 1) (.cons (.tup (.cons (.c (.str [121, 101, 115])) .nil)) (.cons (.var 2) .nil)))) (.tup (.cons (.var 1) (.cons (.var 2) .nil))))) .nil
def b__law_tower_2 : Ss := .cons (.ret (.var 2)) .nil
def b__law_tower_1 : Ss := .cons (.for_ [3] (.r1 (.bor 0)) b__law_tower_1a) b__law_tower_2
def b__law_tower : Ss := .cons (.asg 2 (.tup (.cons (.c (.str [100, 101, 101, 100])) (.cons (.c (.str [97])) .nil)))) b__law_tower_1
def F__law_tower : Fn := ⟨2, 4, b__law_tower⟩
/-- _law_broad(many); slots many half -/
def n__law_broad : Nat := 29
def b__law_broad_0a : Ss := .cons (.ret (.tup (.cons (.c (.str [100, 101, 101, 100])) (.cons (.c (.str [97])) .nil)))) .nil
def b__law_broad_2 : Ss := .cons (.ret (.tup (.cons (.c (.str [116, 104, 101, 110])) (.cons (.call 29 (.cons (.var 1) .nil)) (.cons (.call 29 (.cons (.bin .sub (.bin .sub (.bor 0) (.c (.int 1))) (.bor 1)) .nil)) .nil))))) .nil
def b__law_broad_1 : Ss := .cons (.asg 1 (.bin .add (.bin .mul (.bin .fdiv (.bin .sub (.bor 0) (.c (.int 1))) (.c (.int 4))) (.c (.int 2))) (.c (.int 1)))) b__law_broad_2
def b__law_broad : Ss := .cons (.ife (.cmp .eq (.bor 0) (.c (.int 1))) b__law_broad_0a .nil) b__law_broad_1
def F__law_broad : Fn := ⟨1, 2, b__law_broad⟩
/-- law(script); slots script source facts names tree odd parts drawer spot bent which later menu other twice k -/
def n_law : Nat := 30
def b_law_5a_1 : Ss := .cons (.asg 4 (.ix (.bor 12) (.call 15 (.cons (.bor 1) (.cons (.c (.int 4)) .nil))))) .nil
def b_law_5a : Ss := .cons (.asg 12 (.lst (.cons (.call 29 (.cons (.c (.int 59)) .nil)) (.cons (.tup (.cons (.c (.str [109, 111, 114, 101])) (.cons (.call 29 (.cons (.c (.int 59)) .nil)) .nil))) (.cons (.call 28 (.cons (.c (.int 20)) (.cons (.c (.str [101, 97, 99, 104])) .nil))) (.cons (.call 28 (.cons (.c (.int 20)) (.cons (.c (.str [119, 104, 105, 108, 101])) .nil))) .nil)))))) b_law_5a_1
def b_law_7a : Ss := .cons (.ret (.c (.bl false))) .nil
def b_law_8a : Ss := .cons (.ret (.c (.bl false))) .nil
def b_law_13a : Ss := .cons (.ret (.c (.bl false))) .nil
def b_law_15a_2a : Ss := .cons (.ret (.c (.bl false))) .nil
def b_law_15a_2 : Ss := .cons (.ife (.cmp .ne (.call 26 (.cons (.var 10) (.cons (.var 14) .nil))) (.bor 8)) b_law_15a_2a .nil) .nil
def b_law_15a_1 : Ss := .cons (.asg 14 (.call 21 (.cons (.call 21 (.cons (.var 4) (.cons (.var 13) (.cons (.tup (.cons (.c (.str [98, 111, 116, 104])) .nil)) .nil)))) (.cons (.var 8) (.cons (.call 27 (.cons (.bor 7) (.cons (.ix (.bor 6) (.bor 8)) .nil))) .nil))))) b_law_15a_2
def b_law_15a : Ss := .cons (.asg 13 (.ix (.bor 11) (.call 15 (.cons (.bor 7) (.cons (.bi .len (.cons (.bor 11) .nil)) .nil))))) b_law_15a_1
def b_law_16a_0a : Ss := .cons (.ret (.c (.bl false))) .nil
def b_law_16a_1a : Ss := .cons (.ret (.c (.bl false))) .nil
def b_law_16a_1 : Ss := .cons (.ife (.or (.cons (.cmp .ne (.call 26 (.cons (.var 10) (.cons (.call 28 (.cons (.c (.int 21)) (.cons (.c (.str [109, 111, 114, 101])) .nil))) .nil))) (.c (.int 21))) (.cons (.cmp .ne (.call 26 (.cons (.var 10) (.cons (.call 29 (.cons (.c (.int 61)) .nil)) .nil))) (.c (.int 60))) .nil))) b_law_16a_1a .nil) .nil
def b_law_16a : Ss := .cons (.ife (.cmp .ne (.call 26 (.cons (.var 10) (.cons (.tup (.cons (.c (.str [109, 111, 114, 101])) (.cons (.tup (.cons (.c (.str [101, 97, 99, 104])) (.cons (.call 29 (.cons (.c (.int 59)) .nil)) .nil))) .nil))) .nil))) (.c (.int 60))) b_law_16a_0a .nil) b_law_16a_1
def b_law_17 : Ss := .cons (.ret (.cmp .isN (.call 26 (.cons (.var 10) (.cons (.var 4) .nil))) (.c .non))) .nil
def b_law_16 : Ss := .cons (.ife (.cmp .eq (.call 15 (.cons (.bor 7) (.cons (.c (.int 4)) .nil))) (.c (.int 2))) b_law_16a .nil) b_law_17
def b_law_15 : Ss := .cons (.ife (.cmp .gt (.bi .len (.cons (.bor 11) .nil)) (.c (.int 0))) b_law_15a .nil) b_law_16
def b_law_14 : Ss := .cons (.asg 11 (.lc [15] (.r1 (.bi .len (.cons (.bor 6) .nil))) (.cons (.cmp .gt (.bor 15) (.bin .sub (.bin .add (.bor 8) (.bi .len (.cons (.call 20 (.cons (.ix (.bor 6) (.bor 8)) .nil)) .nil))) (.c (.int 1)))) .nil) (.var 15))) b_law_15
def b_law_13 : Ss := .cons (.ife (.or (.cons (.cmp .ne (.call 26 (.cons (.var 10) (.cons (.var 9) .nil))) (.bor 8)) (.cons (.cmp .ne (.call 26 (.cons (.var 10) (.cons (.call 24 (.cons (.var 9) .nil)) .nil))) (.bor 8)) .nil))) b_law_13a .nil) b_law_14
def b_law_12 : Ss := .cons (.asg 10 (.call 15 (.cons (.bor 7) (.cons (.c (.int 3)) .nil)))) b_law_13
def b_law_11 : Ss := .cons (.asg 9 (.call 21 (.cons (.var 4) (.cons (.var 8) (.cons (.call 27 (.cons (.bor 7) (.cons (.ix (.bor 6) (.bor 8)) .nil))) .nil))))) b_law_12
def b_law_10 : Ss := .cons (.asg 8 (.call 15 (.cons (.bor 7) (.cons (.bi .len (.cons (.bor 6) .nil)) .nil)))) b_law_11
def b_law_9 : Ss := .cons (.asg 7 (.call 14 (.cons (.var 0) (.cons (.c (.int 1)) .nil)))) b_law_10
def b_law_8 : Ss := .cons (.ife (.or (.cons (.cmp .ne (.call 13 (.cons (.var 4) .nil)) (.bi .tuple (.cons (.call 25 (.cons (.var 4) (.cons (.bi .len (.cons (.bor 6) .nil)) (.cons (.c (.int 0)) .nil)))) .nil))) (.cons (.cmp .ne (.call 8 (.cons (.call 24 (.cons (.var 4) .nil)) .nil)) (.bor 4)) .nil))) b_law_8a .nil) b_law_9
def b_law_7 : Ss := .cons (.ife (.or (.cons (.cmp .ne (.call 10 (.cons (.var 4) .nil)) (.bi .tuple (.cons (.bor 6) .nil))) (.cons (.cmp .ne (.call 10 (.cons (.call 24 (.cons (.var 4) .nil)) .nil)) (.bi .tuple (.cons (.bor 6) .nil))) .nil))) b_law_7a .nil) b_law_8
def b_law_6 : Ss := .cons (.asg 6 (.call 20 (.cons (.var 4) .nil))) b_law_7
def b_law_5 : Ss := .cons (.ife (.cmp .eq (.bor 5) (.c (.int 4))) b_law_5a .nil) b_law_6
def b_law_4 : Ss := .cons (.asg 5 (.call 15 (.cons (.bor 1) (.cons (.c (.int 9)) .nil)))) b_law_5
def b_law_3 : Ss := .cons (.asg 4 (.call 18 (.cons (.bor 1) (.cons (.var 2) (.cons (.var 3) (.cons (.bin .add (.c (.int 1)) (.call 15 (.cons (.bor 1) (.cons (.c (.int 14)) .nil)))) .nil)))))) b_law_4
def b_law_2 : Ss := .cons (.asg 3 (.call 23 (.cons (.bor 1) (.cons (.bin .add (.c (.int 1)) (.call 15 (.cons (.bor 1) (.cons (.c (.int 3)) .nil)))) .nil)))) b_law_3
def b_law_1 : Ss := .cons (.asg 2 (.call 22 (.cons (.bor 1) (.cons (.call 15 (.cons (.bor 1) (.cons (.c (.int 3)) .nil))) .nil)))) b_law_2
def b_law : Ss := .cons (.asg 1 (.call 14 (.cons (.var 0) (.cons (.c (.int 0)) .nil)))) b_law_1
def F_law : Fn := ⟨1, 16, b_law⟩
def prog : Nat → Option Fn
  | 0 => some F_is_listed
  | 1 => some F_is_letters
  | 2 => some F_is_name
  | 3 => some F_told_saying
  | 4 => some F_saying_or_none
  | 5 => some F_head_of
  | 6 => some F_arms_of
  | 7 => some F_walked
  | 8 => some F_checked_tree
  | 9 => some F_all_parts
  | 10 => some F_parts_of
  | 11 => some F_inner_spots
  | 12 => some F_after_spots
  | 13 => some F_followers
  | 14 => some F__law_source
  | 15 => some F__law_pick
  | 16 => some F__law_say
  | 17 => some F__law_leaf
  | 18 => some F__law_tree
  | 19 => some F__law_arms
  | 20 => some F__law_parts
  | 21 => some F__law_put_at
  | 22 => some F__law_fact_names
  | 23 => some F__law_deed_names
  | 24 => some F__law_lists
  | 25 => some F__law_follow
  | 26 => some F__law_refusal
  | 27 => some F__law_wrong
  | 28 => some F__law_tower
  | 29 => some F__law_broad
  | 30 => some F_law
  | _ => none
def glob : Nat → Option D
  | 0 => some (.tup [(.str [112, 97, 115, 115]), (.str [108, 111, 115, 101]), (.str [119, 105, 110]), (.str [110, 101, 101, 100]), (.str [103, 114, 97, 110, 116]), (.str [105, 102]), (.str [116, 104, 101, 110]), (.str [101, 108, 115, 101]), (.str [119, 104, 105, 108, 101]), (.str [100, 111]), (.str [109, 111, 114, 101]), (.str [101, 97, 99, 104]), (.str [101, 110, 100]), (.str [110, 111, 116]), (.str [97, 110, 100]), (.str [111, 114]), (.str [121, 101, 115]), (.str [110, 111]), (.str [98, 114, 105, 110, 103, 115]), (.str [107, 101, 101, 112, 115]), (.str [111, 118, 101, 114]), (.str [98, 121]), (.str [115, 111]), (.str [116, 111]), (.str [102, 97, 99, 116, 115]), (.str [100, 101, 101, 100]), (.str [115, 116, 97, 116, 101]), (.str [110, 101, 118, 101, 114]), (.str [99, 97, 110]), (.str [99, 97, 110, 110, 111, 116]), (.str [111, 110, 108, 121]), (.str [110, 111, 110, 101])]) -- WORDS
  | 1 => some (.int 8) -- LONGEST_NAME
  | 2 => some (.int 60) -- MOST_TUPLES
  | 3 => some (.int 20) -- DEEPEST_sayings
  | 4 => some (.dct [[121, 101, 115], [110, 111], [102, 97, 99, 116], [110, 111, 116], [97, 110, 100], [111, 114]] [(.int 0), (.int 0), (.int 1), (.int 1), (.int 2), (.int 2)]) -- ARMS_sayings
  | 5 => some (.int 60) -- MOST_PARTS
  | 6 => some (.int 20) -- DEEPEST_trees
  | 7 => some (.dct [[112, 97, 115, 115], [108, 111, 115, 101], [119, 105, 110], [100, 101, 101, 100], [110, 101, 101, 100], [103, 114, 97, 110, 116], [116, 104, 101, 110], [111, 119, 110], [111, 116, 104, 101, 114], [105, 102], [119, 104, 105, 108, 101], [109, 111, 114, 101], [101, 97, 99, 104]] [(.str []), (.str []), (.str []), (.str [110]), (.str [115]), (.str [115]), (.str [112, 112]), (.str [112, 112]), (.str [112, 112]), (.str [115, 112, 112]), (.str [115, 112]), (.str [112]), (.str [112])]) -- ARMS_trees
  | _ => none
def mo : Mo := ⟨glob, fun a b => [(0, 0), (1, 1), (1, 0), (2, 2), (2, 1), (2, 0)].contains (a, b), fun a => [99, 0, 0].getD a 98, fun a => [9, 1, 1].getD a 9⟩
end K07
end
section
set_option linter.all false
namespace Cz
variable {M : Mo} {C : Nat → List Arg → Rc}
theorem ss_nx {s : S} {ss : Ss} {ρ ρ1 : Env} (h : evS M C s ρ = .nx ρ1) : evSs M C (.cons s ss) ρ = evSs M C ss ρ1 := by
  rw [evSs, h]
theorem ss_rt {s : S} {ss : Ss} {ρ ρ1 : Env} {v : Val} (h : evS M C s ρ = .rt v ρ1) : evSs M C (.cons s ss) ρ = .rt v ρ1 := by
  rw [evSs, h]
theorem ss_ex {s : S} {ss : Ss} {ρ ρ1 : Env} {x : Exn} (h : evS M C s ρ = .ex x ρ1) : evSs M C (.cons s ss) ρ = .ex x ρ1 := by
  rw [evSs, h]
/-- a turn of a for -/
def turn (M : Mo) (C : Nat → List Arg → Rc) (t : List Nat) (body : Ss) (ρ : Env) (d : D) : Rs :=
  match bindT ρ t d with
  | some ρ2 => evSs M C body ρ2
  | none => .bad
theorem for_ev {t : List Nat} {it : It} {body : Ss} {ρ ρ1 : Env} {ds : List D} (h : evIt M C it ρ = some (ds, ρ1)) : evS M C (.for_ t it body) ρ = forTurns (turn M C t body) ρ1 ds := by
  rw [evS, h]
  rfl
theorem ft_nil {turn : Env → D → Rs} {ρ : Env} : forTurns turn ρ [] = .nx ρ := rfl
theorem ft_nx {turn : Env → D → Rs} {ρ ρ1 : Env} {d : D} {r : List D} (h : turn ρ d = .nx ρ1) : forTurns turn ρ (d :: r) = forTurns turn ρ1 r := by
  rw [forTurns, h]
theorem ft_ct {turn : Env → D → Rs} {ρ ρ1 : Env} {d : D} {r : List D} (h : turn ρ d = .ct ρ1) : forTurns turn ρ (d :: r) = forTurns turn ρ1 r := by
  rw [forTurns, h]
theorem ft_ex {turn : Env → D → Rs} {ρ ρ1 : Env} {x : Exn} {d : D} {r : List D} (h : turn ρ d = .ex x ρ1) : forTurns turn ρ (d :: r) = .ex x ρ1 := by
  rw [forTurns, h]
/-- all turns go on -/
def Goes (turn : Env → D → Rs) : Env → List D → Env → Prop
  | ρ, [], ρ1 => ρ = ρ1
  | ρ, d :: r, ρ1 => ∃ ρ2, (turn ρ d = .nx ρ2 ∨ turn ρ d = .ct ρ2) ∧ Goes turn ρ2 r ρ1
theorem Goes.app {turn : Env → D → Rs} : ∀ {a b : List D} {ρ ρ1 ρ2 : Env}, Goes turn ρ a ρ1 → Goes turn ρ1 b ρ2 → Goes turn ρ (a ++ b) ρ2
  | [], _, _, _, _, h, g => by
    cases h
    exact g
  | _ :: _, _, _, _, _, ⟨ρ3, e, h⟩, g => ⟨ρ3, e, Goes.app h g⟩
theorem Goes.ft {turn : Env → D → Rs} : ∀ {a : List D} {ρ ρ1 : Env}, Goes turn ρ a ρ1 → forTurns turn ρ a = .nx ρ1
  | [], _, _, h => by
    cases h
    rfl
  | d :: r, ρ, ρ1, ⟨ρ2, e, h⟩ => by
    rcases e with e | e
    · rw [ft_nx e]
      exact Goes.ft h
    · rw [ft_ct e]
      exact Goes.ft h
/-- a def's run -/
theorem run_rt {F : Fn} {as : List Arg} {ρ : Env} {v : Val} {os : List (List D)} (hl : as.length = F.np) (h : evSs M C F.body (startEnv as F.ns) = .rt v ρ) (hv : ∀ i, v ≠ .b i) (ho : outsOf as ρ = some os) : runFn M C F as = .ok v os := by
  unfold runFn
  rw [if_pos hl, h]
  cases v with
  | p d => simp only [ho]
  | f xs => simp only [ho]
  | b i => exact absurd rfl (hv i)
theorem run_ex {F : Fn} {as : List Arg} {ρ : Env} {x : Exn} {os : List (List D)} (hl : as.length = F.np) (h : evSs M C F.body (startEnv as F.ns) = .ex x ρ) (ho : outsOf as ρ = some os) : runFn M C F as = .ex x os := by
  unfold runFn
  rw [if_pos hl, h]
  simp only [ho]
theorem run0 {F : Fn} {as : List Arg} {ρ0 ρ : Env} {v : Val} {os : List (List D)} (h : evSs M C F.body ρ0 = .rt v ρ) (hl : as.length = F.np) (hs : startEnv as F.ns = ρ0) (hv : ∀ i, v ≠ .b i) (ho : outsOf as ρ = some os) : runFn M C F as = .ok v os :=
  run_rt hl (by rw [hs]; exact h) hv ho
theorem run0x {F : Fn} {as : List Arg} {ρ0 ρ : Env} {x : Exn} {os : List (List D)} (h : evSs M C F.body ρ0 = .ex x ρ) (hl : as.length = F.np) (hs : startEnv as F.ns = ρ0) (ho : outsOf as ρ = some os) : runFn M C F as = .ex x os :=
  run_ex hl (by rw [hs]; exact h) ho
/-! ### rules -/
theorem ret_ev {e : E} {ρ ρ1 : Env} {v : Val} (h : evE M C e ρ = .ok v ρ1) (hv : ∀ i, v ≠ .b i) (he : ∀ i, e ≠ .var i) : evS M C (.ret e) ρ = .rt v ρ1 := by
  cases e <;> (first | exact absurd rfl (he _) | (unfold evS; simp only []; rw [h]; cases v <;> first | rfl | exact absurd rfl (hv _)))
theorem asg_ev {e : E} {i : Nat} {ρ ρ1 ρ2 : Env} {v : Val} (h : evE M C e ρ = .ok v ρ1) (hp : put ρ1 i v = some ρ2) : evS M C (.asg i e) ρ = .nx ρ2 := by
  rw [evS, h]
  simp only [hp]
theorem asg_ex {e : E} {i : Nat} {ρ ρ1 : Env} {x : Exn} (h : evE M C e ρ = .ex x ρ1) : evS M C (.asg i e) ρ = .ex x ρ1 := by
  rw [evS, h]
theorem bin_ev {o : Bop} {a b : E} {ρ ρ1 ρ2 : Env} {v w r : Val} {x y : D} (ha : evE M C a ρ = .ok v ρ1) (hb : evE M C b ρ1 = .ok w ρ2) (hx : res ρ2 (fz v) = some x) (hy : res ρ2 (fz w) = some y) (h : binD o x y = some r) : evE M C (.bin o a b) ρ = .ok r ρ2 := by
  rw [evE, ha]
  simp only [hb, hx, hy, h]
theorem call_ev {f : Nat} {es : Es} {ρ ρ1 ρ2 : Env} {vs : List Val} {as : List Arg} {v : Val} {outs : List (List D)} (h1 : evEs M C es ρ = .ok vs ρ1) (h2 : args ρ1 vs = some as) (h3 : lentOnce vs = true) (h4 : C f as = .ok v outs) (h5 : back ρ1 vs outs = some ρ2) : evE M C (.call f es) ρ = .ok v ρ2 := by
  rw [evE, h1]
  simp only [h2, h3, h4, h5, if_true]
theorem call_ex {f : Nat} {es : Es} {ρ ρ1 ρ2 : Env} {vs : List Val} {as : List Arg} {x : Exn} {outs : List (List D)} (h1 : evEs M C es ρ = .ok vs ρ1) (h2 : args ρ1 vs = some as) (h3 : lentOnce vs = true) (h4 : C f as = .ex x outs) (h5 : back ρ1 vs outs = some ρ2) : evE M C (.call f es) ρ = .ex x ρ2 := by
  rw [evE, h1]
  simp only [h2, h3, h4, h5, if_true]
theorem es_cons {e : E} {es : Es} {ρ ρ1 ρ2 : Env} {v : Val} {vs : List Val} (h1 : evE M C e ρ = .ok v ρ1) (h2 : evEs M C es ρ1 = .ok vs ρ2) : evEs M C (.cons e es) ρ = .ok (fz v :: vs) ρ2 := by
  rw [evEs, h1]
  simp only [h2]
theorem if_ev {t : E} {a b : Ss} {ρ ρ1 : Env} {v : Val} {k : Bool} (h : evE M C t ρ = .ok v ρ1) (hk : (res ρ1 (fz v)).bind truth = some k) : evS M C (.ife t a b) ρ = if k then evSs M C a ρ1 else evSs M C b ρ1 := by
  rw [evS, h]
  simp only [hk]
  cases k <;> rfl
/-- a turn of a comprehension -/
def lcf (M : Mo) (C : Nat → List Arg → Rc) (t : List Nat) (cs : Es) (e : E) (ρ : Env) (d : D) : Option (Option D × Env) :=
  match bindT (wipe ρ t) t d with
  | some ρ2 => match evAnd M C cs ρ2 with
    | .ok v ρ3 => match (res ρ3 (fz v)).bind truth with
      | some true => match evE M C e ρ3 with
        | .ok w ρ4 => match fz w with
          | .p x => some (some x, ρ4)
          | _ => none
        | _ => none
      | some false => some (none, ρ3)
      | none => none
    | _ => none
  | none => none
theorem lc_ev {t : List Nat} {it : It} {cs : Es} {e : E} {ρ ρ1 ρ2 : Env} {ds xs : List D} (h1 : evIt M C it ρ = some (ds, ρ1)) (h2 : plainAt ρ1 t = true) (h3 : lcTurns (lcf M C t cs e) ρ1 ds = some (xs, ρ2)) : evE M C (.lc t it cs e) ρ = .ok (.f xs) (t.foldl (fun ρ i => ρ.set i ((ρ1[i]?).getD .no)) ρ2) := by
  rw [evE, h1]
  simp only [h2, if_true]
  refine Eq.trans (b := match lcTurns (lcf M C t cs e) ρ1 ds with
    | some (xs, ρ2) => Re.ok (.f xs) (t.foldl (fun ρ i => ρ.set i ((ρ1[i]?).getD .no)) ρ2)
    | none => .bad) rfl ?_
  rw [h3]
def lci (M : Mo) (C : Nat → List Arg → Rc) (t2 : List Nat) (e : E) (ρ : Env) (d : D) : Option (Option D × Env) :=
  match bindT (wipe ρ t2) t2 d with
  | some ρ2 => match evE M C e ρ2 with
    | .ok w ρ4 => match fz w with
      | .p x => some (some x, ρ4)
      | _ => none
    | _ => none
  | none => none
def lco (M : Mo) (C : Nat → List Arg → Rc) (t t2 : List Nat) (it2 : It) (e : E) (ρ : Env) (d : D) : Option (List D × Env) :=
  match bindT (wipe ρ (t ++ t2)) t d with
  | some ρ2 => match evIt M C it2 ρ2 with
    | some (es, ρ3) => lcTurns (lci M C t2 e) ρ3 es
    | none => none
  | none => none
theorem lc2_ev {t t2 : List Nat} {it it2 : It} {e : E} {ρ ρ1 ρ2 : Env} {ds xs : List D} (h1 : evIt M C it ρ = some (ds, ρ1)) (h2 : plainAt ρ1 (t ++ t2) = true) (h3 : lcTurns2 (lco M C t t2 it2 e) ρ1 ds = some (xs, ρ2)) (h4 : xs.length ≤ 100000) : evE M C (.lc2 t it t2 it2 e) ρ = .ok (.f xs) ((t ++ t2).foldl (fun ρ i => ρ.set i ((ρ1[i]?).getD .no)) ρ2) := by
  rw [evE, h1]
  simp only [h2, if_true]
  refine Eq.trans (b := match lcTurns2 (lco M C t t2 it2 e) ρ1 ds with
    | some (xs, ρ2) => if 100000 < xs.length then .bad else Re.ok (.f xs) ((t ++ t2).foldl (fun ρ i => ρ.set i ((ρ1[i]?).getD .no)) ρ2)
    | none => .bad) rfl ?_
  rw [h3]
  simp only
  rw [if_neg (by omega)]
theorem lco_ev {t t2 : List Nat} {it2 : It} {e : E} {ρ ρ2 ρ3 ρ4 : Env} {d : D} {es xs : List D} (h1 : bindT (wipe ρ (t ++ t2)) t d = some ρ2) (h2 : evIt M C it2 ρ2 = some (es, ρ3)) (h3 : lcTurns (lci M C t2 e) ρ3 es = some (xs, ρ4)) : lco M C t t2 it2 e ρ d = some (xs, ρ4) := by
  unfold lco
  rw [h1]
  simp only [h2, h3]
theorem l2_nil {turn : Env → D → Option (List D × Env)} {ρ : Env} : lcTurns2 turn ρ [] = some ([], ρ) := rfl
theorem l2_cons {turn : Env → D → Option (List D × Env)} {ρ ρ1 ρ2 : Env} {d : D} {r xs ys : List D} (h : turn ρ d = some (xs, ρ1)) (h2 : lcTurns2 turn ρ1 r = some (ys, ρ2)) : lcTurns2 turn ρ (d :: r) = some (xs ++ ys, ρ2) := by
  rw [lcTurns2, h]
  simp only [h2, Option.map_some]
theorem lc_map {f : Env → D → Option (Option D × Env)} (P : Env → Prop) (g : D → D) : ∀ (ds : List D) (ρ : Env), P ρ → (∀ d ∈ ds, ∀ ρ, P ρ → ∃ ρ', f ρ d = some (some (g d), ρ') ∧ P ρ') → ∃ ρ', lcTurns f ρ ds = some (ds.map g, ρ') ∧ P ρ'
  | [], ρ, h, _ => ⟨ρ, rfl, h⟩
  | d :: r, ρ, h, st => by
    obtain ⟨ρ1, e1, h1⟩ := st d (List.mem_cons_self) ρ h
    obtain ⟨ρ2, e2, h2⟩ := lc_map P g r ρ1 h1 fun d' m => st d' (List.mem_cons_of_mem _ m)
    refine ⟨ρ2, ?_, h2⟩
    rw [lcTurns, e1]
    simp only [e2, Option.map_some, List.map_cons]
theorem it_call {e : E} {ρ ρ1 : Env} {v : Val} {d : D} {ds : List D} (h : evE M C e ρ = .ok v ρ1) (hf : fz v = .p d) (hd : itemsOf d = some ds) : evIt M C (.val e) ρ = some (ds, ρ1) := by
  rw [evIt, h]
  simp only [hf, hd, Option.map_some]
/-- may be stored to -/
def fr : Sl → Bool
  | .own true _ => false
  | _ => true
theorem free_fr {ρ : Env} {i : Nat} {s : Sl} (h : ρ[i]? = some s) (f : fr s = true) : free ρ i = true := by
  unfold free
  rw [h]
  cases s with
  | own l xs => cases l <;> first | rfl | cases f
  | _ => rfl
theorem put_p {ρ : Env} {i : Nat} {s : Sl} {d : D} (h : ρ[i]? = some s) (f : fr s = true) : put ρ i (.p d) = some (ρ.set i (.d d)) := by
  unfold put
  rw [if_pos (free_fr h f)]
theorem put_f {ρ : Env} {i : Nat} {s : Sl} {xs : List D} (h : ρ[i]? = some s) (f : fr s = true) : put ρ i (.f xs) = some (ρ.set i (.own false xs)) := by
  unfold put
  rw [if_pos (free_fr h f)]
theorem bind1 {ρ : Env} {i : Nat} {s : Sl} {d : D} (h : ρ[i]? = some s) (f : fr s = true) : bindT ρ [i] d = some (ρ.set i (.d d)) := by
  unfold bindT
  exact put_p h f
theorem bind2 {ρ : Env} {i j : Nat} {s r : Sl} {c d : D} (h : ρ[i]? = some s) (f : fr s = true) (h2 : (ρ.set i (.d c))[j]? = some r) (f2 : fr r = true) : bindT ρ [i, j] (.tup [c, d]) = some ((ρ.set i (.d c)).set j (.d d)) := by
  unfold bindT
  simp only [putAll, put_p h f, Option.bind_some, put_p h2 f2]
theorem turn_ev {t : List Nat} {body : Ss} {ρ ρ2 : Env} {d : D} {r : Rs} (h : bindT ρ t d = some ρ2) (g : evSs M C body ρ2 = r) : turn M C t body ρ d = r := by
  unfold turn
  rw [h]
  exact g
/-- at the first place -/
theorem item0 (a : D) (r : List D) : item (.tup (a :: r)) (.int 0) = some a ∧ item (.lst (a :: r)) (.int 0) = some a := by
  have : pix (r.length + 1) 0 = some 0 := by
    unfold pix
    rw [if_pos (by decide), if_pos (by omega)]
    rfl
  constructor <;> simp [item, this]
theorem pix_nat {n i : Nat} (h : i < n) : pix n (i : Int) = some i := by
  unfold pix
  rw [if_pos (by omega), if_pos (by omega), Int.toNat_natCast]
theorem ix_ev {a b : E} {ρ ρ1 ρ2 : Env} {v w : Val} {x y r : D} (ha : evE M C a ρ = .ok v ρ1) (hb : evE M C b ρ1 = .ok w ρ2) (hx : res ρ2 (fz v) = some x) (hy : res ρ2 (fz w) = some y) (h : item x y = some r) : evE M C (.ix a b) ρ = .ok (.p r) ρ2 := by
  rw [evE, ha]
  simp only [hb, hx, hy, h]
theorem slF_ev {a b : E} {ρ ρ1 ρ2 : Env} {v w r : Val} {x : D} {i : Int} (ha : evE M C a ρ = .ok v ρ1) (hb : evE M C b ρ1 = .ok w ρ2) (hx : res ρ2 (fz v) = some x) (hy : res ρ2 (fz w) = some (.int i)) (h : slice x (some i) none = some r) : evE M C (.slF a b) ρ = .ok r ρ2 := by
  rw [evE, ha]
  simp only [hb, hx, hy, h]
theorem cut_from (a : D) (b c : List D) : cut (a :: (b ++ c)) (some ((a :: b).length : Int)) none = c := by
  have h : six (a :: (b ++ c)).length 0 (some ((a :: b).length : Int)) = (a :: b).length := by
    have : ¬ (((a :: b).length : Int) < 0) := by omega
    unfold six
    simp only []
    rw [if_neg this, Int.toNat_natCast]
    simp only [List.length_cons, List.length_append]
    omega
  unfold cut
  rw [h, show a :: (b ++ c) = (a :: b) ++ c from rfl, List.drop_left]
  simp only [six, List.length_append]
  rw [show (a :: b).length + c.length - (a :: b).length = c.length by omega, List.take_length]
theorem cut1 (a : D) (c : List D) : cut (a :: c) (some 1) none = c := cut_from a [] c
theorem cat_ev {o : Bop} {a b : E} {ρ ρ1 ρ2 : Env} {v w : Val} {x y : List D} (ha : evE M C a ρ = .ok v ρ1) (hb : evE M C b ρ1 = .ok w ρ2) (hx : res ρ2 (fz v) = some (.lst x)) (hy : res ρ2 (fz w) = some (.lst y)) (ho : o = .add) (h : x.length + y.length ≤ 100000) : evE M C (.bin o a b) ρ = .ok (.f (x ++ y)) ρ2 := by
  subst ho
  refine bin_ev ha hb hx hy ?_
  unfold binD
  simp only
  rw [if_pos h]
end Cz
end
section
set_option linter.all false
set_option maxRecDepth 100000
set_option maxHeartbeats 4000000
namespace K07
open Cz
/-- a source of draws -/
structure Sr where
  a : Int
  b : Int
  c : Int
def Sr.l (s : Sr) : List D := [.int s.a, .int s.b, .int s.c]
def mix (b c : Int) : Int :=
  let x := ((b + 7919 * c) * 48271) % 2147483647
  let y := (x * x + 69621 * c + b) % 2147483629
  let z := (y * 16807 + 11) % 2147483647
  ((z * z + z) % 2147483587) / 3
/-- a draw among m -/
def pk (s : Sr) (m : Int) : Int := if 0 < s.a then s.a % m else mix s.b (s.c + 1) % m
def nx (s : Sr) (m : Int) : Sr := if 0 < s.a then ⟨s.a / m, s.b, s.c⟩ else ⟨s.a, s.b, s.c + 1⟩
theorem call_s (n f : Nat) (as : List Arg) (F : Fn) (h : prog f = some F) : call mo prog (n + 1) f as = runFn mo (call mo prog n) F as := by
  unfold call
  rw [h]
theorem pick (n : Nat) (s : Sr) (m : Int) (hm : 0 < m) (hm2 : m < 1073741824) : call mo prog (n + 1) n__law_pick [.o s.l, .a (.int m)] = .ok (.p (.int (pk s m))) [(nx s m).l] := by
  obtain ⟨a, b, c⟩ := s
  rw [call_s _ _ _ F__law_pick rfl]
  by_cases ha : 0 < a
  · simp [runFn, F__law_pick, b__law_pick_0a_2, b__law_pick_0a_1, b__law_pick_0a, b__law_pick_5, b__law_pick_4, b__law_pick_3, b__law_pick_2, b__law_pick_1, b__law_pick, evSs, evS, evE, evEs, startEnv, res, ress, fz, cmpD, item, pix, truth, ha, hm, hm2, Sr.l, binD, biD, put, free, outsOf, pk, nx]
  · have b1 : ∀ x : Int, (x % 2147483647).natAbs < 18446744073709551616 := fun x => by have := Int.emod_nonneg x (show (2147483647 : Int) ≠ 0 by decide); have := Int.emod_lt_of_pos x (show (0 : Int) < 2147483647 by decide); omega
    have b2 : ∀ x : Int, (x % 2147483629).natAbs < 18446744073709551616 := fun x => by have := Int.emod_nonneg x (show (2147483629 : Int) ≠ 0 by decide); have := Int.emod_lt_of_pos x (show (0 : Int) < 2147483629 by decide); omega
    simp [runFn, F__law_pick, b__law_pick_0a_2, b__law_pick_0a_1, b__law_pick_0a, b__law_pick_5, b__law_pick_4, b__law_pick_3, b__law_pick_2, b__law_pick_1, b__law_pick, evSs, evS, evE, evEs, startEnv, res, ress, fz, cmpD, item, pix, truth, ha, hm, hm2, Sr.l, binD, biD, put, free, outsOf, big, b1, b2, pk, nx, mix]
theorem pk_lt (s : Sr) (m : Int) (hm : 0 < m) : 0 ≤ pk s m ∧ pk s m < m := by
  unfold pk
  split
  · exact ⟨Int.emod_nonneg _ (by omega), Int.emod_lt_of_pos _ hm⟩
  · exact ⟨Int.emod_nonneg _ (by omega), Int.emod_lt_of_pos _ hm⟩
end K07
end
section
set_option linter.all false
set_option maxRecDepth 100000
set_option maxHeartbeats 4000000
namespace Cz
/-- a for whose turns all go on, told by an invariant -/
theorem for_go {turn : Env → D → Rs} (I : Nat → Env → Prop) : ∀ (ds : List D) (k : Nat) (ρ : Env), I k ρ → (∀ i d ρ, ds[i]? = some d → I (k + i) ρ → ∃ ρ', (turn ρ d = .nx ρ' ∨ turn ρ d = .ct ρ') ∧ I (k + i + 1) ρ') → ∃ ρ', forTurns turn ρ ds = .nx ρ' ∧ I (k + ds.length) ρ'
  | [], k, ρ, h, _ => ⟨ρ, by unfold forTurns; rfl, h⟩
  | d :: ds, k, ρ, h, st => by
    obtain ⟨ρ1, e, h1⟩ := st 0 d ρ rfl h
    obtain ⟨ρ2, e2, h2⟩ := for_go I ds (k + 1) ρ1 h1 fun i d' ρ' hi hI => by
      have := st (i + 1) d' ρ' (by simpa using hi) (by rw [show k + (i + 1) = k + 1 + i by omega]; exact hI)
      rw [show k + (i + 1) + 1 = k + 1 + i + 1 by omega] at this
      exact this
    refine ⟨ρ2, ?_, by rw [List.length_cons, show k + (ds.length + 1) = k + 1 + ds.length by omega]; exact h2⟩
    unfold forTurns
    rcases e with e | e <;> (rw [e]; exact e2)
end Cz
namespace K07
open Cz
def sd (x y : Int) : Int := (x * 31 + y % 2147483629) % 2147483629
def lk (as : List Arg) : Prop := True
theorem source (n : Nat) (ns : List Int) (p : Int) (hp : 0 ≤ p) (hp2 : p ≤ 1) (hb : ∀ z ∈ ns, z.natAbs.log2 < 2000000) : ∃ s : Sr, call mo prog (n + 1) n__law_source [.a (.lst (ns.map D.int)), .a (.int p)] = .ok (.f s.l) [] := by
  rw [call_s _ _ _ F__law_source rfl]
  -- the cell
  obtain ⟨cell, hc, ec⟩ : ∃ cell : Int, cell.natAbs.log2 < 2000000 ∧ evE mo (call mo prog n) (.ife (.cmp .lt (.bor 1) (.bi .len (.cons (.bor 0) .nil))) (.ix (.bor 0) (.bor 1)) (.bin .add (.bin .mul (.c (.int 5)) (.bor 1)) (.c (.int 3)))) [.d (.lst (ns.map D.int)), .d (.int p), .no, .no, .no, .no] = .ok (.p (.int cell)) [.d (.lst (ns.map D.int)), .d (.int p), .no, .no, .no, .no] := by
    by_cases h : p < (ns.length : Int)
    · have hl : p.toNat < ns.length := by omega
      refine ⟨ns[p.toNat], hb _ (List.getElem_mem hl), ?_⟩
      simp [evE, evEs, res, ress, fz, cmpD, biD, item, pix, truth, h, hp, hl]
    · refine ⟨5 * p + 3, ?_, ?_⟩
      · have : p = 0 ∨ p = 1 := by omega
        rcases this with e | e <;> subst e <;> decide
      · simp [evE, evEs, res, ress, fz, cmpD, biD, item, pix, truth, h, binD, big]
  have h1 : evS mo (call mo prog n) (.asg 2 (.ife (.cmp .lt (.bor 1) (.bi .len (.cons (.bor 0) .nil))) (.ix (.bor 0) (.bor 1)) (.bin .add (.bin .mul (.c (.int 5)) (.bor 1)) (.c (.int 3))))) [.d (.lst (ns.map D.int)), .d (.int p), .no, .no, .no, .no] = .nx [.d (.lst (ns.map D.int)), .d (.int p), .d (.int cell), .no, .no, .no] := by
    rw [evS, ec]
    rfl
  have h2 : evS mo (call mo prog n) (.asg 3 (.bin .add (.bin .mul (.c (.int 1009)) (.bor 1)) (.c (.int 17)))) [.d (.lst (ns.map D.int)), .d (.int p), .d (.int cell), .no, .no, .no] = .nx [.d (.lst (ns.map D.int)), .d (.int p), .d (.int cell), .d (.int (1009 * p + 17)), .no, .no] := by
    simp [evS, evE, res, fz, binD, big, put, free]
  obtain ⟨ρ3, h3, seed, one, e3⟩ : ∃ ρ3, evS mo (call mo prog n) (.for_ [4] (.val (.slT (.bor 0) (.c (.int 3)))) b__law_source_2a) [.d (.lst (ns.map D.int)), .d (.int p), .d (.int cell), .d (.int (1009 * p + 17)), .no, .no] = .nx ρ3 ∧
      ∃ (seed : Int) (one : Sl), ρ3 = [.d (.lst (ns.map D.int)), .d (.int p), .d (.int cell), .d (.int seed), one, .no] := by
    have it : evIt mo (call mo prog n) (.val (.slT (.bor 0) (.c (.int 3)))) [.d (.lst (ns.map D.int)), .d (.int p), .d (.int cell), .d (.int (1009 * p + 17)), .no, .no] = some ((ns.take 3).map D.int, [.d (.lst (ns.map D.int)), .d (.int p), .d (.int cell), .d (.int (1009 * p + 17)), .no, .no]) := by
      simp [evIt, evE, res, fz, slice, cut, six, itemsOf, List.map_take]
    have go := for_go (turn := fun ρ d => match bindT ρ [4] d with | some ρ2 => evSs mo (call mo prog n) b__law_source_2a ρ2 | none => .bad)
      (fun _ ρ => ∃ (seed : Int) (one : Sl), free [one] 0 = true ∧ ρ = [.d (.lst (ns.map D.int)), .d (.int p), .d (.int cell), .d (.int seed), one, .no]) ((ns.take 3).map D.int) 0 [.d (.lst (ns.map D.int)), .d (.int p), .d (.int cell), .d (.int (1009 * p + 17)), .no, .no] ⟨_, _, rfl, rfl⟩ (by
        rintro i d ρ hd ⟨seed, one, fo, rfl⟩
        rw [List.getElem?_map] at hd
        obtain ⟨x, _, rfl⟩ := Option.map_eq_some_iff.mp hd
        have fo2 : free [Sl.d (.lst (ns.map D.int)), Sl.d (.int p), Sl.d (.int cell), Sl.d (.int seed), one, Sl.no] 4 = true := fo
        have hb : bindT [Sl.d (.lst (ns.map D.int)), Sl.d (.int p), Sl.d (.int cell), Sl.d (.int seed), one, Sl.no] [4] (.int x) = some [Sl.d (.lst (ns.map D.int)), Sl.d (.int p), Sl.d (.int cell), Sl.d (.int seed), .d (.int x), Sl.no] := by
          simp [bindT, put, fo2]
        have hs : evSs mo (call mo prog n) b__law_source_2a [Sl.d (.lst (ns.map D.int)), Sl.d (.int p), Sl.d (.int cell), Sl.d (.int seed), .d (.int x), Sl.no] = .nx [Sl.d (.lst (ns.map D.int)), Sl.d (.int p), Sl.d (.int cell), Sl.d (.int (sd seed x)), .d (.int x), Sl.no] := by
          simp [b__law_source_2a, evSs, evS, evE, evEs, res, ress, fz, binD, biD, big, put, free, sd]
        refine ⟨_, .inl ?_, sd seed x, .d (.int x), rfl, rfl⟩
        simp only [hb, hs])
    obtain ⟨ρ3, g1, seed, one, _, g2⟩ := go
    refine ⟨ρ3, ?_, seed, one, g2⟩
    rw [evS, it]
    exact g1
  subst e3
  have bs : ∀ x : Int, (x % 2147483629).natAbs < 18446744073709551616 := fun x => by have := Int.emod_nonneg x (show (2147483629 : Int) ≠ 0 by decide); have := Int.emod_lt_of_pos x (show (0 : Int) < 2147483629 by decide); omega
  have h4 : evS mo (call mo prog n) (.asg 3 (.bin .mod (.bi .int (.cons (.bin .add (.bin .mul (.bor 3) (.c (.int 31))) (.bin .mod (.bi .int (.cons (.bor 2) .nil)) (.c (.int 2147483587)))) .nil)) (.c (.int 2147483629)))) [.d (.lst (ns.map D.int)), .d (.int p), .d (.int cell), .d (.int seed), one, .no] = .nx [.d (.lst (ns.map D.int)), .d (.int p), .d (.int cell), .d (.int ((seed * 31 + cell % 2147483587) % 2147483629)), one, .no] := by
    simp [evS, evE, evEs, res, ress, fz, binD, biD, big, put, free]
  have h5 : evS mo (call mo prog n) (.asg 5 (.bi .abs (.cons (.bor 2) .nil))) [.d (.lst (ns.map D.int)), .d (.int p), .d (.int cell), .d (.int ((seed * 31 + cell % 2147483587) % 2147483629)), one, .no] = .nx [.d (.lst (ns.map D.int)), .d (.int p), .d (.int cell), .d (.int ((seed * 31 + cell % 2147483587) % 2147483629)), one, .d (.int (cell.natAbs : Int))] := by
    simp [evS, evE, evEs, res, ress, fz, biD, put, free]
  have lg : ((cell.natAbs : Int) / 2 ^ 3000).natAbs.log2 < 2000000 := by
    have e : ((cell.natAbs : Int) / 2 ^ 3000).natAbs ≤ cell.natAbs := by
      have h1 : ((cell.natAbs : Int) / 2 ^ 3000) = ((cell.natAbs / 2 ^ 3000 : Nat) : Int) := by
        rw [Int.natCast_ediv, Int.natCast_pow]
        rfl
      rw [h1, Int.natAbs_natCast]
      exact Nat.div_le_self _ _
    by_cases z : ((cell.natAbs : Int) / 2 ^ 3000).natAbs = 0
    · rw [z]; decide
    · have z2 : cell.natAbs ≠ 0 := by omega
      have := Nat.log2_self_le z
      have h2 := Nat.le_trans this e
      exact Nat.lt_of_le_of_lt ((Nat.le_log2 z2).mpr h2) hc
  have h6 : ∃ num : Int, evS mo (call mo prog n) (.ret (.lst (.cons (.ife (.cmp .ge (.bor 5) (.bin .pow (.c (.int 10)) (.c (.int 18)))) (.bin .sub (.bor 5) (.bin .shl (.bin .shr (.bor 5) (.c (.int 3000))) (.c (.int 3000)))) (.c (.int 0))) (.cons (.var 3) (.cons (.c (.int 0)) .nil))))) [.d (.lst (ns.map D.int)), .d (.int p), .d (.int cell), .d (.int ((seed * 31 + cell % 2147483587) % 2147483629)), one, .d (.int (cell.natAbs : Int))] =
      .rt (.f [.int num, .int ((seed * 31 + cell % 2147483587) % 2147483629), .int 0]) [.d (.lst (ns.map D.int)), .d (.int p), .d (.int cell), .d (.int ((seed * 31 + cell % 2147483587) % 2147483629)), one, .d (.int (cell.natAbs : Int))] := by
    by_cases hbig : (1000000000000000000 : Int) ≤ (cell.natAbs : Int)
    · refine ⟨(cell.natAbs : Int) - (cell.natAbs : Int) / 2 ^ 3000 * 2 ^ 3000, ?_⟩
      simp [evS, evE, evEs, res, ress, fz, binD, cmpD, truth, big, hbig, lg, noB]
    · refine ⟨0, ?_⟩
      simp [evS, evE, evEs, res, ress, fz, binD, cmpD, truth, big, hbig, noB]
  obtain ⟨num, h6⟩ := h6
  refine ⟨⟨num, (seed * 31 + cell % 2147483587) % 2147483629, 0⟩, ?_⟩
  have run : evSs mo (call mo prog n) b__law_source [.d (.lst (ns.map D.int)), .d (.int p), .no, .no, .no, .no] = .rt (.f [.int num, .int ((seed * 31 + cell % 2147483587) % 2147483629), .int 0]) [.d (.lst (ns.map D.int)), .d (.int p), .d (.int cell), .d (.int ((seed * 31 + cell % 2147483587) % 2147483629)), one, .d (.int (cell.natAbs : Int))] := by
    unfold b__law_source b__law_source_1 b__law_source_2 b__law_source_3 b__law_source_4 b__law_source_5
    rw [ss_nx h1, ss_nx h2, ss_nx h3, ss_nx h4, ss_nx h5, ss_rt h6]
  have st : startEnv [.a (.lst (ns.map D.int)), .a (.int p)] 6 = [.d (.lst (ns.map D.int)), .d (.int p), .no, .no, .no, .no] := rfl
  simp [runFn, F__law_source, st, run, outsOf, Sr.l]
end K07
end
section
set_option linter.all false
set_option maxRecDepth 100000
set_option maxHeartbeats 4000000
namespace K07
open Cz
def names : List (List Nat) := ["p", "q", "r", "wet", "dusk", "z", "paid", "kept", "x", "a", "b", "c", "carry", "d", "aa", "send", "bb"].map tx
def isOk (r : Rc) : Bool := match r with
  | .ok (.p (.bl true)) [] => true
  | _ => false
theorem isOk_eq {r : Rc} (h : isOk r = true) : r = .ok (.p (.bl true)) [] := by
  unfold isOk at h
  split at h
  · rfl
  · cases h
theorem names_ok (n : Nat) : (names.all fun s => isOk (call mo prog (n + 3) n_is_name [.a (.str s)])) = true := by
  rfl
theorem name_ok (n : Nat) {s : List Nat} (h : s ∈ names) : call mo prog (n + 3) n_is_name [.a (.str s)] = .ok (.p (.bl true)) [] := isOk_eq (List.all_eq_true.mp (names_ok n) s h)
end K07
end
section
set_option linter.all false
set_option maxRecDepth 100000
set_option maxHeartbeats 4000000
namespace K07
open Cz
/-! ### sayings: a finite stock -/
def facts : List (List Nat) := ["p", "q", "r", "wet", "dusk", "z", "paid", "kept", "x"].map tx
def say0 : List D := [.tup [.s "yes"], .tup [.s "no"]] ++ facts.map fun f => .tup [.s "fact", .str f]
def says : List D := say0 ++ (say0.map fun a => .tup [.s "not", a]) ++ (say0.flatMap fun a => say0.map fun b => .tup [.s "and", a, b]) ++ (say0.flatMap fun a => say0.map fun b => .tup [.s "or", a, b])
mutual
/-- tuples become lists, all through -/
def lsD : D → D
  | .tup xs => .lst (lsDs xs)
  | .non => .non
  | .bl b => .bl b
  | .int i => .int i
  | .str s => .str s
  | .lst xs => .lst xs
  | .dct ks vs => .dct ks vs
def lsDs : List D → List D
  | [] => []
  | x :: r => lsD x :: lsDs r
end
/-- is the answer this plain datum -/
def isD (d : D) (r : Rc) : Bool := match r with
  | .ok (.p e) [] => dEq d e
  | _ => false
where
  dEq : D → D → Bool
  | .tup a, .tup b => dEqs a b
  | .lst a, .lst b => dEqs a b
  | .non, .non => true
  | .bl a, .bl b => a == b
  | .int a, .int b => decide (a = b)
  | .str a, .str b => decide (a = b)
  | _, _ => false
  dEqs : List D → List D → Bool
  | [], [] => true
  | a :: r, b :: q => dEq a b && dEqs r q
  | _, _ => false
mutual
theorem dEq_ok : ∀ {a b : D}, isD.dEq a b = true → a = b
  | .tup a, b, h => by
    cases b <;> first | (unfold isD.dEq at h; cases h; done) | skip
    unfold isD.dEq at h
    rw [dEqs_ok h]
  | .lst a, b, h => by
    cases b <;> first | (unfold isD.dEq at h; cases h; done) | skip
    unfold isD.dEq at h
    rw [dEqs_ok h]
  | .non, b, h => by cases b <;> first | rfl | (unfold isD.dEq at h; cases h; done)
  | .bl a, b, h => by
    cases b <;> first | (unfold isD.dEq at h; cases h; done) | skip
    unfold isD.dEq at h
    rw [eq_of_beq h]
  | .int a, b, h => by
    cases b <;> first | (unfold isD.dEq at h; cases h; done) | skip
    unfold isD.dEq at h
    rw [of_decide_eq_true h]
  | .str a, b, h => by
    cases b <;> first | (unfold isD.dEq at h; cases h; done) | skip
    unfold isD.dEq at h
    rw [of_decide_eq_true h]
  | .dct _ _, b, h => by unfold isD.dEq at h; cases h
theorem dEqs_ok : ∀ {a b : List D}, isD.dEqs a b = true → a = b
  | [], [], _ => rfl
  | x :: r, y :: q, h => by
    unfold isD.dEqs at h
    rw [Bool.and_eq_true] at h
    rw [dEq_ok h.1, dEqs_ok h.2]
  | [], _ :: _, h => by cases h
  | _ :: _, [], h => by cases h
end
theorem isD_ok {d : D} {r : Rc} (h : isD d r = true) : r = .ok (.p d) [] := by
  unfold isD at h
  split at h
  · rw [dEq_ok h]
  · cases h
theorem says_ok (n : Nat) : (says.all fun s => isD s (call mo prog (n + 6) n_saying_or_none [.a s]) && isD s (call mo prog (n + 6) n_saying_or_none [.a (lsD s)])) = true := by kernel_rfl
end K07
end
section
set_option linter.all false
set_option maxRecDepth 100000
set_option maxHeartbeats 4000000
namespace K07
open Cz
/-- a tuple or a list -/
def wr (m : Bool) (xs : List D) : D := if m then .tup xs else .lst xs
/-- as it stands in such a one -/
def inn (m : Bool) (d : D) : D := if m then d else lsD d
theorem say_tup : (says.all fun s => match s with | .tup _ => true | _ => false) = true := by kernel_rfl
theorem say_ok (n : Nat) (m : Bool) {s : D} (h : s ∈ says) : call mo prog (n + 6) 4 [.a (inn m s)] = .ok (.p s) [] ∧ isNon s = false := by
  have a := List.all_eq_true.mp (says_ok n) s h
  rw [Bool.and_eq_true] at a
  have b := List.all_eq_true.mp say_tup s h
  refine ⟨?_, ?_⟩
  · cases m with
    | true => exact isD_ok a.1
    | false => exact isD_ok a.2
  · cases s <;> first | rfl | cases b
theorem item1 (m : Bool) (a b : D) (r : List D) : item (wr m (a :: b :: r)) (.int 1) = some b := by
  have : pix (r.length + 1 + 1) 1 = some 1 := by
    unfold pix
    rw [if_pos (by decide), if_pos (by omega)]
    rfl
  cases m <;> simp [wr, item, this]
def sayKd : List (List Nat × Nat) := [(tx "need", 0), (tx "grant", 0), (tx "while", 1), (tx "if", 2)]
theorem head_say (n : Nat) (m : Bool) {s : D} (h : s ∈ says) {k : List Nat} {arms : List D} (hk : (k, arms.length) ∈ sayKd) : call mo prog (n + 8) n_head_of [.a (wr m (.str k :: inn m s :: arms))] = .ok (.p (.tup [.str k, s])) [] := by
  obtain ⟨hs, hn⟩ := say_ok (n + 1) m h
  have he : call mo prog (n + 7) 4 [.a (inn m s)] = .ok (.p s) [] := hs
  have key : ∀ th, th = wr m (.str k :: inn m s :: arms) → evSs mo (call mo prog (n + 7)) b_head_of [.d th, .no, .no] = evSs mo (call mo prog (n + 7)) b_head_of_5 [.d th, .d (.str k), .no] → call mo prog (n + 8) n_head_of [.a th] = .ok (.p (.tup [.str k, s])) [] := by
    intro th e hb
    have h5 : evS mo (call mo prog (n + 7)) (.asg 2 (.call 4 (.cons (.ix (.var 0) (.c (.int 1))) .nil))) [.d th, .d (.str k), .no] = .nx [.d th, .d (.str k), .d s] := by
      subst e
      simp [evS, evE, evEs, res, item1, args, back, lentOnce, fz, put, free, he]
    have h6 : evS mo (call mo prog (n + 7)) (.ret (.ife (.cmp .isN (.bor 2) (.c .non)) (.c .non) (.tup (.cons (.var 1) (.cons (.var 2) .nil))))) [.d th, .d (.str k), .d s] = .rt (.p (.tup [.str k, s])) [.d th, .d (.str k), .d s] := by
      simp [evS, evE, evEs, res, ress, fz, cmpD, truth, hn, noB]
    rw [call_s (n + 7) _ _ F_head_of rfl]
    refine run_rt rfl (ρ := [.d th, .d (.str k), .d s]) ?_ (by intro i; exact nofun) rfl
    exact hb.trans ((ss_nx h5).trans (ss_rt h6))
  simp [sayKd] at hk
  rcases hk with ⟨rfl, ha⟩ | ⟨rfl, ha⟩ | ⟨rfl, ha⟩ | ⟨rfl, ha⟩
  · subst ha
    cases m <;> exact key _ rfl rfl
  · subst ha
    cases m <;> exact key _ rfl rfl
  · obtain ⟨a, rfl⟩ := List.length_eq_one_iff.mp ha
    cases m <;> exact key _ rfl rfl
  · obtain ⟨a, b, rfl⟩ : ∃ a b, arms = [a, b] := match arms, ha with | [a, b], _ => ⟨a, b, rfl⟩
    cases m <;> exact key _ rfl rfl
def plainKd : List (List Nat × Nat) := [(tx "pass", 0), (tx "lose", 0), (tx "win", 0), (tx "more", 1), (tx "each", 1), (tx "then", 2), (tx "own", 2), (tx "other", 2)]
theorem head0 (n : Nat) (m : Bool) {k : List Nat} (hk : k ∈ [tx "pass", tx "lose", tx "win"]) : call mo prog (n + 8) n_head_of [.a (wr m [.str k])] = .ok (.p (.tup [.str k])) [] := by
  simp only [List.mem_cons, List.not_mem_nil, or_false] at hk
  rcases hk with rfl | rfl | rfl <;> cases m <;> kernel_rfl
theorem head1 (n : Nat) (m : Bool) (a : D) {k : List Nat} (hk : k ∈ [tx "more", tx "each"]) : call mo prog (n + 8) n_head_of [.a (wr m [.str k, a])] = .ok (.p (.tup [.str k])) [] := by
  simp only [List.mem_cons, List.not_mem_nil, or_false] at hk
  rcases hk with rfl | rfl <;> cases m <;> kernel_rfl
theorem head2 (n : Nat) (m : Bool) (a b : D) {k : List Nat} (hk : k ∈ [tx "then", tx "own", tx "other"]) : call mo prog (n + 8) n_head_of [.a (wr m [.str k, a, b])] = .ok (.p (.tup [.str k])) [] := by
  simp only [List.mem_cons, List.not_mem_nil, or_false] at hk
  rcases hk with rfl | rfl | rfl <;> cases m <;> kernel_rfl
theorem deeds_ok (n : Nat) : (names.all fun s => isD (.tup [.str (tx "deed"), .str s]) (call mo prog (n + 8) n_head_of [.a (wr true [.str (tx "deed"), .str s])]) && isD (.tup [.str (tx "deed"), .str s]) (call mo prog (n + 8) n_head_of [.a (wr false [.str (tx "deed"), .str s])])) = true := by kernel_rfl
theorem head_deed (n : Nat) (m : Bool) {s : List Nat} (h : s ∈ names) : call mo prog (n + 8) n_head_of [.a (wr m [.str (tx "deed"), .str s])] = .ok (.p (.tup [.str (tx "deed"), .str s])) [] := by
  have a := List.all_eq_true.mp (deeds_ok n) s h
  rw [Bool.and_eq_true] at a
  cases m with
  | true => exact isD_ok a.1
  | false => exact isD_ok a.2
/-- a head: the kind, what stands behind it, how many arms -/
inductive Hk : List Nat → List D → Nat → Prop where
  | pl {k : List Nat} {n : Nat} (h : (k, n) ∈ plainKd) : Hk k [] n
  | de {s : List Nat} (h : s ∈ names) : Hk (tx "deed") [.str s] 0
  | sa {s : D} {k : List Nat} {n : Nat} (h : s ∈ says) (hk : (k, n) ∈ sayKd) : Hk k [s] n
theorem len2 {l : List D} (h : l.length = 2) : ∃ a b, l = [a, b] := match l, h with | [a, b], _ => ⟨a, b, rfl⟩
def row (m : Bool) (k : List Nat) (e arms : List D) : D := wr m (.str k :: (e.map (inn m) ++ arms))
theorem head (n : Nat) (m : Bool) {k : List Nat} {e arms : List D} (h : Hk k e arms.length) : call mo prog (n + 8) n_head_of [.a (row m k e arms)] = .ok (.p (.tup (.str k :: e))) [] := by
  generalize hl : arms.length = l at h
  cases h with
  | pl h =>
    simp only [plainKd, List.mem_cons, List.not_mem_nil, or_false, Prod.mk.injEq] at h
    rcases h with ⟨rfl, ha⟩ | ⟨rfl, ha⟩ | ⟨rfl, ha⟩ | ⟨rfl, ha⟩ | ⟨rfl, ha⟩ | ⟨rfl, ha⟩ | ⟨rfl, ha⟩ | ⟨rfl, ha⟩ <;> rw [ha] at hl
    iterate 3 (rw [List.length_eq_zero_iff.mp hl]; exact head0 n m (by simp))
    iterate 2 (obtain ⟨a, rfl⟩ := List.length_eq_one_iff.mp hl; exact head1 n m a (by simp))
    iterate 3 (obtain ⟨a, b, rfl⟩ := len2 hl; exact head2 n m a b (by simp))
  | de h =>
    match arms, hl with
    | [], _ =>
      have := head_deed n m h
      cases m <;> exact this
  | sa h hk => exact head_say n m h (hl ▸ hk)
end K07
end
section
set_option linter.all false
set_option maxRecDepth 100000
set_option maxHeartbeats 4000000
namespace K07
open Cz
/-- trees; bad: a thing that is no part -/
inductive Tr where
  | leaf (k : List Nat) (e : List D)
  | one (k : List Nat) (e : List D) (a : Tr)
  | two (k : List Nat) (e : List D) (a b : Tr)
  | bad (d : D)
def enc (m : Bool) : Tr → D
  | .leaf k e => row m k e []
  | .one k e a => row m k e [enc m a]
  | .two k e a b => row m k e [enc m a, enc m b]
  | .bad d => inn m d
def sz : Tr → Nat
  | .leaf _ _ => 1
  | .one _ _ a => 1 + sz a
  | .two _ _ a b => 1 + sz a + sz b
  | .bad _ => 1
def ht : Tr → Nat
  | .leaf _ _ => 0
  | .one _ _ a => 1 + ht a
  | .two _ _ a b => 1 + max (ht a) (ht b)
  | .bad _ => 0
/-- the spot of the first bad one -/
def fb : Tr → Option Nat
  | .leaf _ _ => none
  | .one _ _ a => (fb a).map (1 + ·)
  | .two _ _ a b => match fb a with
    | some k => some (1 + k)
    | none => (fb b).map (1 + sz a + ·)
  | .bad _ => some 0
def NoHead (d : D) : Prop := ∀ n m, call mo prog (n + 8) n_head_of [.a (inn m d)] = .ok (.p .non) []
/-- right heads; what is bad has P -/
def Good (P : D → Prop) : Tr → Prop
  | .leaf k e => Hk k e 0
  | .one k e a => Hk k e 1 ∧ Good P a
  | .two k e a b => Hk k e 2 ∧ Good P a ∧ Good P b
  | .bad d => P d
abbrev Ok : Tr → Prop := Good NoHead
theorem Good.mono {P Q : D → Prop} (h : ∀ d, P d → Q d) : ∀ {t : Tr}, Good P t → Good Q t
  | .leaf _ _, g => g
  | .one _ _ _, g => ⟨g.1, g.2.mono h⟩
  | .two _ _ _ _, g => ⟨g.1, g.2.1.mono h, g.2.2.mono h⟩
  | .bad _, g => h _ g
theorem inn_t (e : List D) : e.map (inn true) = e := by
  have : inn true = id := rfl
  rw [this, List.map_id]
section
variable {C : Nat → List Arg → Rc}
theorem w_turn {th hd x y : D} {dp sp at_ at2 : Int} {told : List D} {s6 s7 : Sl} (h6 : fr s6 = true) (h7 : fr s7 = true) (hl : told.length < 100000) (hc : C 7 [.a x, .a (.int (dp + 1)), .a (.int at_)] = .ok (.p (.tup [y, .int at2])) []) :
    turn mo C [6] b_walked_5a [.d th, .d (.int dp), .d (.int sp), .d hd, .own false told, .d (.int at_), s6, s7] x = .nx [.d th, .d (.int dp), .d (.int sp), .d hd, .own false (told ++ [y]), .d (.int at2), .d x, .d y] := by
  have e6 : free [.d th, .d (.int dp), .d (.int sp), .d hd, .own false told, .d (.int at_), s6, s7] 6 = true := free_fr rfl h6
  have e7 : free [.d th, .d (.int dp), .d (.int sp), .d hd, .own false told, .d (.int at_), .d x, s7] 7 = true := free_fr rfl h7
  have b6 : bindT [.d th, .d (.int dp), .d (.int sp), .d hd, .own false told, .d (.int at_), s6, s7] [6] x = some [.d th, .d (.int dp), .d (.int sp), .d hd, .own false told, .d (.int at_), .d x, s7] := by
    simp [bindT, put, e6]
  have b7 : bindT [.d th, .d (.int dp), .d (.int sp), .d hd, .own false told, .d (.int at_), .d x, s7] [7, 5] (.tup [y, .int at2]) = some [.d th, .d (.int dp), .d (.int sp), .d hd, .own false told, .d (.int at2), .d x, .d y] := by
    simp [bindT, putAll, put, e7]
    rfl
  unfold turn
  rw [b6]
  have h0 : evS mo C (.asgT [7, 5] (.call 7 (.cons (.var 6) (.cons (.bin .add (.bor 1) (.c (.int 1))) (.cons (.var 5) .nil))))) [.d th, .d (.int dp), .d (.int sp), .d hd, .own false told, .d (.int at_), .d x, s7] = .nx [.d th, .d (.int dp), .d (.int sp), .d hd, .own false told, .d (.int at2), .d x, .d y] := by
    simp [evS, evE, evEs, res, fz, binD, args, lentOnce, back, hc, b7]
  have h1 : evS mo C (.app 4 (.var 7)) [.d th, .d (.int dp), .d (.int sp), .d hd, .own false told, .d (.int at2), .d x, .d y] = .nx [.d th, .d (.int dp), .d (.int sp), .d hd, .own false (told ++ [y]), .d (.int at2), .d x, .d y] := by
    simp [evS, evE, fz, hl]
  exact (ss_nx h0).trans (ss_nx h1)
theorem w_turn_ex {th hd x : D} {dp sp at_ : Int} {told : List D} {s6 s7 : Sl} {q : Exn} (h6 : fr s6 = true) (hc : C 7 [.a x, .a (.int (dp + 1)), .a (.int at_)] = .ex q []) :
    turn mo C [6] b_walked_5a [.d th, .d (.int dp), .d (.int sp), .d hd, .own false told, .d (.int at_), s6, s7] x = .ex q [.d th, .d (.int dp), .d (.int sp), .d hd, .own false told, .d (.int at_), .d x, s7] := by
  have e6 : free [.d th, .d (.int dp), .d (.int sp), .d hd, .own false told, .d (.int at_), s6, s7] 6 = true := free_fr rfl h6
  have b6 : bindT [.d th, .d (.int dp), .d (.int sp), .d hd, .own false told, .d (.int at_), s6, s7] [6] x = some [.d th, .d (.int dp), .d (.int sp), .d hd, .own false told, .d (.int at_), .d x, s7] := by
    simp [bindT, put, e6]
  unfold turn
  rw [b6]
  have h0 : evS mo C (.asgT [7, 5] (.call 7 (.cons (.var 6) (.cons (.bin .add (.bor 1) (.c (.int 1))) (.cons (.var 5) .nil))))) [.d th, .d (.int dp), .d (.int sp), .d hd, .own false told, .d (.int at_), .d x, s7] = .ex q [.d th, .d (.int dp), .d (.int sp), .d hd, .own false told, .d (.int at_), .d x, s7] := by
    simp [evS, evE, evEs, res, fz, binD, args, lentOnce, back, hc]
  exact ss_ex h0
/-- up to the loop -/
theorem w_head {m : Bool} {k : List Nat} {e arms : List D} {dp sp : Int} (hd : dp ≤ 20) (hs : sp < 60) (hh : C 5 [.a (row m k e arms)] = .ok (.p (.tup (.str k :: e))) []) :
    evSs mo C b_walked [.d (row m k e arms), .d (.int dp), .d (.int sp), .no, .no, .no, .no, .no] = evSs mo C b_walked_5 [.d (row m k e arms), .d (.int dp), .d (.int sp), .d (.tup (.str k :: e)), .own false (.str k :: e), .d (.int (sp + 1)), .no, .no] := by
  have h0 : evS mo C (.ife (.or (.cons (.cmp .ge (.bor 2) (.g 5)) (.cons (.cmp .gt (.bor 1) (.g 6)) .nil))) b_walked_0a .nil) [.d (row m k e arms), .d (.int dp), .d (.int sp), .no, .no, .no, .no, .no] = .nx [.d (row m k e arms), .d (.int dp), .d (.int sp), .no, .no, .no, .no, .no] := by
    have a : ¬ (60 ≤ sp) := by omega
    have b : ¬ (20 < dp) := by omega
    simp [evS, evE, evOr, evSs, res, fz, cmpD, truth, mo, glob, a, b]
  have h1 : evS mo C (.asg 3 (.call 5 (.cons (.var 0) .nil))) [.d (row m k e arms), .d (.int dp), .d (.int sp), .no, .no, .no, .no, .no] = .nx [.d (row m k e arms), .d (.int dp), .d (.int sp), .d (.tup (.str k :: e)), .no, .no, .no, .no] := by
    simp [evS, evE, evEs, args, lentOnce, back, fz, put, free, hh]
  refine (ss_nx h0).trans ((ss_nx h1).trans ((ss_nx (ρ1 := [.d (row m k e arms), .d (.int dp), .d (.int sp), .d (.tup (.str k :: e)), .no, .no, .no, .no]) rfl).trans ((ss_nx (ρ1 := [.d (row m k e arms), .d (.int dp), .d (.int sp), .d (.tup (.str k :: e)), .own false (.str k :: e), .no, .no, .no]) rfl).trans (ss_nx rfl))))
theorem w_it {m : Bool} {k : List Nat} {e arms : List D} {s1 s2 s4 s5 s6 s7 : Sl} : evIt mo C (.val (.slF (.bor 0) (.bi .len (.cons (.bor 3) .nil)))) [.d (row m k e arms), s1, s2, .d (.tup (.str k :: e)), s4, s5, s6, s7] = some (arms, [.d (row m k e arms), s1, s2, .d (.tup (.str k :: e)), s4, s5, s6, s7]) := by
  have hc := cut_from (.str k) (e.map (inn m)) arms
  rw [List.length_cons, List.length_map] at hc
  cases m <;> simp [evIt, evE, evEs, res, ress, fz, biD, slice, itemsOf, row, wr] <;> simpa using hc
end
/-- what walked answers -/
def wkR (t : Tr) (sp : Int) : Rc := match fb t with
  | none => .ok (.p (.tup [enc true t, .int (sp + sz t)])) []
  | some k => .ex ⟨2, .int (sp + k)⟩ []
theorem walked_ok : ∀ (t : Tr), Ok t → ∀ (m : Bool) (dp sp : Int) (N : Nat), 0 ≤ sp → dp + ht t ≤ 20 → sp + sz t ≤ 60 → ht t + 9 ≤ N → call mo prog N 7 [.a (enc m t), .a (.int dp), .a (.int sp)] = wkR t sp
  | .leaf k e, ok, m, dp, sp, N, h0, h1, h2, h3 => by
    obtain ⟨n, rfl⟩ : ∃ n, N = n + 8 + 1 := ⟨N - 9, by simp [ht] at h3; omega⟩
    simp [ht, sz] at h1 h2
    rw [call_s _ _ _ F_walked rfl]
    refine run_rt rfl (ρ := [.d (row m k e []), .d (.int dp), .d (.int sp), .d (.tup (.str k :: e)), .own false (.str k :: e), .d (.int (sp + 1)), .no, .no]) ?_ (by intro i; exact nofun) rfl
    refine (w_head (by omega) (by omega) (head (arms := []) n m (show Hk k e 0 from ok))).trans ((ss_nx ((for_ev w_it).trans ft_nil)).trans (ss_rt ?_))
    simp [evS, evE, evEs, res, ress, fz, biD, noB, enc, row, wr, inn_t, sz]
  | .one k e a, ok, m, dp, sp, N, h0, h1, h2, h3 => by
    obtain ⟨n, rfl⟩ : ∃ n, N = n + 8 + 1 := ⟨N - 9, by simp [ht] at h3; omega⟩
    simp [ht, sz] at h1 h2 h3
    have iha := walked_ok a ok.2 m (dp + 1) (sp + 1) (n + 8) (by omega) (by omega) (by omega) (by omega)
    have sl : (D.str k :: e).length < 100000 := by
      cases ok.1 <;> simp
    rw [call_s _ _ _ F_walked rfl]
    unfold wkR at iha ⊢
    unfold fb
    cases hf : fb a with
    | none =>
      rw [hf] at iha
      simp only [Option.map_none]
      refine run_rt rfl (ρ := [.d (row m k e [enc m a]), .d (.int dp), .d (.int sp), .d (.tup (.str k :: e)), .own false ((.str k :: e) ++ [enc true a]), .d (.int (sp + 1 + sz a)), .d (enc m a), .d (enc true a)]) ?_ (by intro i; exact nofun) rfl
      refine (w_head (by omega) (by omega) (head n m ok.1)).trans ((ss_nx ((for_ev w_it).trans ((ft_nx (w_turn rfl rfl sl iha)).trans ft_nil))).trans (ss_rt ?_))
      simp [evS, evE, evEs, res, ress, fz, biD, noB, enc, row, wr, inn_t, sz]
      omega
    | some q =>
      rw [hf] at iha
      simp only [Option.map_some]
      rw [show sp + ((1 + q : Nat) : Int) = sp + 1 + q by omega]
      refine run_ex rfl (ρ := [.d (row m k e [enc m a]), .d (.int dp), .d (.int sp), .d (.tup (.str k :: e)), .own false ((.str k :: e)), .d (.int (sp + 1)), .d (enc m a), .no]) ?_ rfl
      exact (w_head (by omega) (by omega) (head n m ok.1)).trans (ss_ex ((for_ev w_it).trans (ft_ex (w_turn_ex rfl iha))))
  | .two k e a b, ok, m, dp, sp, N, h0, h1, h2, h3 => by
    obtain ⟨n, rfl⟩ : ∃ n, N = n + 8 + 1 := ⟨N - 9, by simp [ht] at h3; omega⟩
    simp [ht, sz] at h1 h2 h3
    have iha := walked_ok a ok.2.1 m (dp + 1) (sp + 1) (n + 8) (by omega) (by omega) (by omega) (by omega)
    have ihb := walked_ok b ok.2.2 m (dp + 1) (sp + 1 + sz a) (n + 8) (by omega) (by omega) (by omega) (by omega)
    have sl : (D.str k :: e).length < 100000 := by
      cases ok.1 <;> simp
    have sl2 : ((D.str k :: e) ++ [enc true a]).length < 100000 := by
      cases ok.1 <;> simp
    rw [call_s _ _ _ F_walked rfl]
    unfold wkR at iha ihb ⊢
    unfold fb
    cases hf : fb a with
    | none =>
      rw [hf] at iha
      simp only
      cases hg : fb b with
      | none =>
        rw [hg] at ihb
        simp only [Option.map_none]
        refine run_rt rfl (ρ := [.d (row m k e [enc m a, enc m b]), .d (.int dp), .d (.int sp), .d (.tup (.str k :: e)), .own false ((.str k :: e) ++ [enc true a] ++ [enc true b]), .d (.int (sp + 1 + sz a + sz b)), .d (enc m b), .d (enc true b)]) ?_ (by intro i; exact nofun) rfl
        refine (w_head (by omega) (by omega) (head n m ok.1)).trans ((ss_nx ((for_ev w_it).trans ((ft_nx (w_turn rfl rfl sl iha)).trans ((ft_nx (w_turn rfl rfl sl2 ihb)).trans ft_nil)))).trans (ss_rt ?_))
        simp [evS, evE, evEs, res, ress, fz, biD, noB, enc, row, wr, inn_t, sz]
        omega
      | some q =>
        rw [hg] at ihb
        simp only [Option.map_some]
        rw [show sp + ((1 + sz a + q : Nat) : Int) = sp + 1 + sz a + q by omega]
        refine run_ex rfl (ρ := [.d (row m k e [enc m a, enc m b]), .d (.int dp), .d (.int sp), .d (.tup (.str k :: e)), .own false ((.str k :: e) ++ [enc true a]), .d (.int (sp + 1 + sz a)), .d (enc m b), .d (enc true a)]) ?_ rfl
        exact (w_head (by omega) (by omega) (head n m ok.1)).trans (ss_ex ((for_ev w_it).trans ((ft_nx (w_turn rfl rfl sl iha)).trans (ft_ex (w_turn_ex rfl ihb)))))
    | some q =>
      rw [hf] at iha
      simp only
      rw [show sp + ((1 + q : Nat) : Int) = sp + 1 + q by omega]
      refine run_ex rfl (ρ := [.d (row m k e [enc m a, enc m b]), .d (.int dp), .d (.int sp), .d (.tup (.str k :: e)), .own false ((.str k :: e)), .d (.int (sp + 1)), .d (enc m a), .no]) ?_ rfl
      exact (w_head (by omega) (by omega) (head n m ok.1)).trans (ss_ex ((for_ev w_it).trans (ft_ex (w_turn_ex rfl iha))))
  | .bad d, ok, m, dp, sp, N, h0, h1, h2, h3 => by
    obtain ⟨n, rfl⟩ : ∃ n, N = n + 8 + 1 := ⟨N - 9, by simp [ht] at h3; omega⟩
    simp [ht, sz] at h1 h2
    rw [call_s _ _ _ F_walked rfl]
    have hh : call mo prog (n + 8) 5 [.a (inn m d)] = .ok (.p .non) [] := ok n m
    have e0 : evS mo (call mo prog (n + 8)) (.ife (.or (.cons (.cmp .ge (.bor 2) (.g 5)) (.cons (.cmp .gt (.bor 1) (.g 6)) .nil))) b_walked_0a .nil) [.d (inn m d), .d (.int dp), .d (.int sp), .no, .no, .no, .no, .no] = .nx [.d (inn m d), .d (.int dp), .d (.int sp), .no, .no, .no, .no, .no] := by
      have a : ¬ (60 ≤ sp) := by omega
      have b : ¬ (20 < dp) := by omega
      simp [evS, evE, evOr, evSs, res, fz, cmpD, truth, mo, glob, a, b]
    have e1 : evS mo (call mo prog (n + 8)) (.asg 3 (.call 5 (.cons (.var 0) .nil))) [.d (inn m d), .d (.int dp), .d (.int sp), .no, .no, .no, .no, .no] = .nx [.d (inn m d), .d (.int dp), .d (.int sp), .d .non, .no, .no, .no, .no] := by
      simp [evS, evE, evEs, args, lentOnce, back, fz, put, free, hh]
    have e2 : evS mo (call mo prog (n + 8)) (.ife (.cmp .isN (.bor 3) (.c .non)) b_walked_2a .nil) [.d (inn m d), .d (.int dp), .d (.int sp), .d .non, .no, .no, .no, .no] = .ex ⟨2, .int (sp + (0 : Nat))⟩ [.d (inn m d), .d (.int dp), .d (.int sp), .d .non, .no, .no, .no, .no] := by
      have : sp.natAbs < 18446744073709551616 := by omega
      simp [evS, evE, evSs, res, fz, cmpD, truth, isNon, b_walked_2a, okArg, mo, this]
    exact run_ex rfl ((ss_nx e0).trans ((ss_nx e1).trans (ss_ex e2))) rfl
end K07
end
section
set_option linter.all false
set_option maxRecDepth 100000
set_option maxHeartbeats 4000000
namespace K07
open Cz
def both : D := .tup [.s "both"]
abbrev Rt : Tr → Prop := Good fun _ => False
abbrev Lt : Tr → Prop := Good (· = both)
theorem Rt.lt {t : Tr} (h : Rt t) : Lt t := h.mono fun _ f => f.elim
theorem Rt.ok {t : Tr} (h : Rt t) : Ok t := h.mono fun _ f => f.elim
def arms : Tr → List Tr
  | .leaf _ _ => []
  | .one _ _ a => [a]
  | .two _ _ a b => [a, b]
  | .bad _ => []
def parts : Tr → List Tr
  | .leaf k e => [.leaf k e]
  | .one k e a => .one k e a :: parts a
  | .two k e a b => .two k e a b :: (parts a ++ parts b)
  | .bad d => [.bad d]
theorem parts_len : ∀ t, (parts t).length = sz t
  | .leaf _ _ => rfl
  | .one _ _ a => by simp [parts, sz, parts_len a]; omega
  | .two _ _ a b => by simp [parts, sz, parts_len a, parts_len b]; omega
  | .bad _ => rfl
theorem arms_row (n : Nat) {k : List Nat} {e as : List D} (h : Hk k e as.length) : call mo prog (n + 1) 6 [.a (row true k e as)] = .ok (.p (.tup as)) [] ∧ call mo prog (n + 1) 19 [.a (row true k e as)] = .ok (.f as) [] := by
  generalize hl : as.length = l at h
  cases h with
  | pl h =>
    simp only [plainKd, List.mem_cons, List.not_mem_nil, or_false, Prod.mk.injEq] at h
    rcases h with ⟨rfl, ha⟩ | ⟨rfl, ha⟩ | ⟨rfl, ha⟩ | ⟨rfl, ha⟩ | ⟨rfl, ha⟩ | ⟨rfl, ha⟩ | ⟨rfl, ha⟩ | ⟨rfl, ha⟩ <;> rw [ha] at hl
    iterate 3 (rw [List.length_eq_zero_iff.mp hl]; exact ⟨by kernel_rfl, by kernel_rfl⟩)
    iterate 2 (obtain ⟨a, rfl⟩ := List.length_eq_one_iff.mp hl; exact ⟨by kernel_rfl, by kernel_rfl⟩)
    iterate 3 (obtain ⟨a, b, rfl⟩ := len2 hl; exact ⟨by kernel_rfl, by kernel_rfl⟩)
  | de h => rw [List.length_eq_zero_iff.mp hl]; exact ⟨by kernel_rfl, by kernel_rfl⟩
  | sa h hk =>
    simp only [sayKd, List.mem_cons, List.not_mem_nil, or_false, Prod.mk.injEq] at hk
    rcases hk with ⟨rfl, ha⟩ | ⟨rfl, ha⟩ | ⟨rfl, ha⟩ | ⟨rfl, ha⟩ <;> rw [ha] at hl
    iterate 2 (rw [List.length_eq_zero_iff.mp hl]; exact ⟨by kernel_rfl, by kernel_rfl⟩)
    iterate 1 (obtain ⟨a, rfl⟩ := List.length_eq_one_iff.mp hl; exact ⟨by kernel_rfl, by kernel_rfl⟩)
    iterate 1 (obtain ⟨a, b, rfl⟩ := len2 hl; exact ⟨by kernel_rfl, by kernel_rfl⟩)
theorem arms_ok (n : Nat) : ∀ {t : Tr}, Rt t → call mo prog (n + 1) 6 [.a (enc true t)] = .ok (.p (.tup ((arms t).map (enc true)))) []
  | .leaf _ _, h => (arms_row n (as := []) h).1
  | .one _ _ _, h => (arms_row n h.1).1
  | .two _ _ _ _, h => (arms_row n h.1).1
  | .bad _, h => h.elim
theorem law_arms_ok (n : Nat) : ∀ {t : Tr}, Lt t → call mo prog (n + 1) 19 [.a (enc true t)] = .ok (.f ((arms t).map (enc true))) []
  | .leaf _ _, h => (arms_row n (as := []) h).2
  | .one _ _ _, h => (arms_row n h.1).2
  | .two _ _ _ _, h => (arms_row n h.1).2
  | .bad _, h => by
    rw [show _ = both from h]
    kernel_rfl
theorem checked_ok (t : Tr) (ok : Ok t) (m : Bool) (N : Nat) (h1 : ht t ≤ 20) (h2 : sz t ≤ 60) (h3 : ht t + 10 ≤ N) : call mo prog N 8 [.a (enc m t)] = match fb t with
    | none => .ok (.p (enc true t)) []
    | some k => .ex ⟨2, .int k⟩ [] := by
  obtain ⟨n, rfl⟩ : ∃ n, N = n + 1 := ⟨N - 1, by omega⟩
  have hw := walked_ok t ok m 0 0 n (by omega) (by omega) (by omega) (by omega)
  rw [call_s _ _ _ F_checked_tree rfl]
  unfold wkR at hw
  cases hf : fb t with
  | none =>
    rw [hf] at hw
    simp only [Int.zero_add] at hw
    refine run0 (ρ0 := [.d (enc m t)]) (ρ := [.d (enc m t)]) (ss_rt ?_) rfl rfl (by intro i h; cases h) rfl
    simp [evS, evE, evEs, res, fz, args, lentOnce, back, hw, item, pix]
  | some k =>
    rw [hf] at hw
    simp only [Int.zero_add] at hw
    refine run0x (ρ0 := [.d (enc m t)]) (ρ := [.d (enc m t)]) (ss_ex ?_) rfl rfl rfl
    simp [evS, evE, evEs, res, fz, args, lentOnce, back, hw]
/-- the inner walk of a comprehension of two -/
theorem id_turns (C : Nat → List Arg → Rc) (x y : D) (ds : List D) : ∃ s', lcTurns (lci mo C [2] (.var 2)) [.d x, .d y, .no] ds = some (ds, [.d x, .d y, s']) := by
  obtain ⟨ρ', e, s', rfl⟩ := lc_map (f := lci mo C [2] (.var 2)) (fun ρ => ∃ s, ρ = [.d x, .d y, s]) id ds [.d x, .d y, .no] ⟨_, rfl⟩ (by
      rintro d _ ρ ⟨s, rfl⟩
      exact ⟨[.d x, .d y, .d d], rfl, _, rfl⟩)
  refine ⟨s', ?_⟩
  rw [e, List.map_id]
section
variable {C : Nat → List Arg → Rc}
theorem ap_turn {t x : D} {s1 s2 : Sl} {ps : List D} (h : C 9 [.a x] = .ok (.f ps) []) : ∃ s', lco mo C [1] [2] (.val (.call 9 (.cons (.var 1) .nil))) (.var 2) [.d t, s1, s2] x = some (ps, [.d t, .d x, s']) := by
  obtain ⟨s', e⟩ := id_turns C t x ps
  exact ⟨s', lco_ev (ρ2 := [.d t, .d x, .no]) rfl (it_call (call_ev (vs := [.p x]) (as := [.a x]) rfl rfl rfl h rfl) rfl rfl) e⟩
theorem ap_run {t : D} {as ps : List D} {s1 s2 : Sl} (ha : C 6 [.a t] = .ok (.p (.tup as)) []) (hp : lcTurns2 (lco mo C [1] [2] (.val (.call 9 (.cons (.var 1) .nil))) (.var 2)) [.d t, .no, .no] as = some (ps, [.d t, s1, s2])) (hl : ps.length ≤ 99999) : runFn mo C F_all_parts [.a t] = .ok (.f (t :: ps)) [] := by
  refine run0 (ρ0 := [.d t, .no, .no]) (ρ := [.d t, .no, .no]) (ss_rt (ret_ev ?_ (by intro i h; cases h) (by intro i h; cases h))) rfl rfl (by intro i h; cases h) rfl
  refine bin_ev (v := .f [t]) (w := .f ps) (x := .lst [t]) (y := .lst ps) rfl (lc2_ev (it_call (call_ev (vs := [.p t]) (as := [.a t]) rfl rfl rfl ha rfl) rfl rfl) rfl hp (by omega)) rfl rfl ?_
  unfold binD
  simp only
  rw [if_pos (by simp; omega)]
  rfl
end
theorem all_ok : ∀ (t : Tr), Rt t → ∀ (N : Nat), ht t + 2 ≤ N → sz t ≤ 90000 → call mo prog N 9 [.a (enc true t)] = .ok (.f ((parts t).map (enc true))) []
  | .leaf k e, r, N, h1, h2 => by
    obtain ⟨n, rfl⟩ : ∃ n, N = n + 1 + 1 := ⟨N - 2, by simp [ht] at h1; omega⟩
    rw [call_s _ _ _ F_all_parts rfl]
    exact ap_run (arms_ok n r) l2_nil (by simp)
  | .one k e a, r, N, h1, h2 => by
    obtain ⟨n, rfl⟩ : ∃ n, N = n + 1 + 1 := ⟨N - 2, by simp [ht] at h1; omega⟩
    simp [ht, sz] at h1 h2
    obtain ⟨s1, e1⟩ := ap_turn (t := enc true (.one k e a)) (s1 := .no) (s2 := .no) (all_ok a r.2 (n + 1) (by omega) (by omega))
    have la := parts_len a
    rw [call_s _ _ _ F_all_parts rfl]
    refine (ap_run (arms_ok n r) (l2_cons e1 l2_nil) (by simp; omega)).trans ?_
    simp [parts]
  | .two k e a b, r, N, h1, h2 => by
    obtain ⟨n, rfl⟩ : ∃ n, N = n + 1 + 1 := ⟨N - 2, by simp [ht] at h1; omega⟩
    simp [ht, sz] at h1 h2
    obtain ⟨s1, e1⟩ := ap_turn (t := enc true (.two k e a b)) (s1 := .no) (s2 := .no) (all_ok a r.2.1 (n + 1) (by omega) (by omega))
    obtain ⟨s2, e2⟩ := ap_turn (t := enc true (.two k e a b)) (s1 := .d (enc true a)) (s2 := s1) (all_ok b r.2.2 (n + 1) (by omega) (by omega))
    have la := parts_len a
    have lb := parts_len b
    rw [call_s _ _ _ F_all_parts rfl]
    refine (ap_run (arms_ok n r) (l2_cons e1 (l2_cons e2 l2_nil)) (by simp; omega)).trans ?_
    simp [parts]
end K07
end
section
set_option linter.all false
set_option maxRecDepth 100000
set_option maxHeartbeats 4000000
namespace K07
open Cz
section
variable {C : Nat → List Arg → Rc}
theorem lp_turn {t x : D} {s2 : Sl} {told ps : List D} (h2 : fr s2 = true) (h : C 20 [.a x] = .ok (.f ps) []) (hl : told.length + ps.length ≤ 100000) : turn mo C [2] b__law_parts_1a [.d t, .own false told, s2] x = .nx [.d t, .own false (told ++ ps), .d x] :=
  turn_ev (ρ2 := [.d t, .own false told, .d x]) (bind1 rfl h2) (ss_nx (asg_ev (cat_ev (v := .b 1) (w := .f ps) rfl (call_ev (vs := [.p x]) (as := [.a x]) rfl rfl rfl h rfl) rfl rfl rfl hl) rfl))
theorem lp_run {t : D} {as told : List D} {s2 : Sl} (ha : C 19 [.a t] = .ok (.f as) []) (hf : forTurns (turn mo C [2] b__law_parts_1a) [.d t, .own false [t], .no] as = .nx [.d t, .own false told, s2]) : runFn mo C F__law_parts [.a t] = .ok (.f told) [] := by
  refine run0 (ρ0 := [.d t, .no, .no]) (ρ := [.d t, .no, s2]) ?_ rfl rfl (by intro i h; cases h) rfl
  exact (ss_nx (ρ1 := [.d t, .own false [t], .no]) rfl).trans ((ss_nx ((for_ev (it_call (call_ev (vs := [.p t]) (as := [.a t]) rfl rfl rfl ha rfl) rfl rfl)).trans hf)).trans (ss_rt rfl))
end
theorem law_parts_ok : ∀ (t : Tr), Lt t → ∀ (N : Nat), ht t + 2 ≤ N → sz t ≤ 90000 → call mo prog N 20 [.a (enc true t)] = .ok (.f ((parts t).map (enc true))) []
  | .leaf k e, r, N, h1, h2 => by
    obtain ⟨n, rfl⟩ : ∃ n, N = n + 1 + 1 := ⟨N - 2, by simp [ht] at h1; omega⟩
    rw [call_s _ _ _ F__law_parts rfl]
    exact lp_run (law_arms_ok n r) ft_nil
  | .one k e a, r, N, h1, h2 => by
    obtain ⟨n, rfl⟩ : ∃ n, N = n + 1 + 1 := ⟨N - 2, by simp [ht] at h1; omega⟩
    simp [ht, sz] at h1 h2
    have la := parts_len a
    rw [call_s _ _ _ F__law_parts rfl]
    refine (lp_run (law_arms_ok n r) ((ft_nx (lp_turn rfl (law_parts_ok a r.2 (n + 1) (by omega) (by omega)) (by simp; omega))).trans ft_nil)).trans ?_
    simp [parts]
  | .two k e a b, r, N, h1, h2 => by
    obtain ⟨n, rfl⟩ : ∃ n, N = n + 1 + 1 := ⟨N - 2, by simp [ht] at h1; omega⟩
    simp [ht, sz] at h1 h2
    have la := parts_len a
    have lb := parts_len b
    rw [call_s _ _ _ F__law_parts rfl]
    refine (lp_run (law_arms_ok n r) ((ft_nx (lp_turn rfl (law_parts_ok a r.2.1 (n + 1) (by omega) (by omega)) (by simp; omega))).trans ((ft_nx (lp_turn rfl (law_parts_ok b r.2.2 (n + 1) (by omega) (by omega)) (by simp; omega))).trans ft_nil))).trans ?_
    simp [parts]
  | .bad d, r, N, h1, h2 => by
    obtain ⟨n, rfl⟩ : ∃ n, N = n + 1 + 1 := ⟨N - 2, by simp [ht] at h1; omega⟩
    rw [call_s _ _ _ F__law_parts rfl]
    exact lp_run (law_arms_ok n r) ft_nil
/-! ### the spots within -/
def innD : Tr → Int → List D
  | .leaf _ _, _ => [.tup []]
  | .one _ _ a, s => .tup [.int (s + 1)] :: innD a (s + 1)
  | .two _ _ a b, s => .tup [.int (s + 1), .int (s + 1 + sz a)] :: (innD a (s + 1) ++ innD b (s + 1 + sz a))
  | .bad _, _ => [.tup []]
theorem innD_len : ∀ (t : Tr) (s : Int), (innD t s).length = sz t
  | .leaf _ _, _ => rfl
  | .one _ _ a, s => by simp [innD, sz, innD_len a]; omega
  | .two _ _ a b, s => by simp [innD, sz, innD_len a, innD_len b]; omega
  | .bad _, _ => rfl
section
variable {C : Nat → List Arg → Rc}
theorem is_turn {t x : D} {s5 s6 : Sl} {sp at_ : Int} {told own ps : List D} (h5 : fr s5 = true) (h6 : fr s6 = true) (h : C 11 [.a x, .a (.int at_)] = .ok (.f ps) []) (hl : told.length + ps.length ≤ 100000) (ho : own.length < 100000) :
    turn mo C [5] b_inner_spots_3a [.d t, .d (.int sp), .own false told, .own false own, .d (.int at_), s5, s6] x = .nx [.d t, .d (.int sp), .own false (told ++ ps), .own false (own ++ [.int at_]), .d (.int (at_ + ps.length)), .d x, .own false ps] := by
  refine turn_ev (ρ2 := [.d t, .d (.int sp), .own false told, .own false own, .d (.int at_), .d x, s6]) (bind1 rfl h5) ?_
  refine (ss_nx (ρ1 := [.d t, .d (.int sp), .own false told, .own false (own ++ [.int at_]), .d (.int at_), .d x, s6]) ?_).trans ?_
  · simp [evS, evE, fz, ho]
  refine (ss_nx (asg_ev (call_ev (vs := [.p x, .p (.int at_)]) (as := [.a x, .a (.int at_)]) rfl rfl rfl h rfl) (put_f (s := s6) rfl h6))).trans ?_
  refine (ss_nx (asg_ev (cat_ev (v := .b 2) (w := .b 6) rfl rfl rfl rfl rfl hl) rfl)).trans ?_
  exact ss_nx rfl
theorem is_run {t : D} {sp at_ : Int} {as told own : List D} {s5 s6 : Sl} (ha : C 6 [.a t] = .ok (.p (.tup as)) []) (hf : forTurns (turn mo C [5] b_inner_spots_3a) [.d t, .d (.int sp), .own false [.tup []], .own false [], .d (.int (sp + 1)), .no, .no] as = .nx [.d t, .d (.int sp), .own false (.tup [] :: told), .own false own, .d (.int at_), s5, s6]) (hl : 1 + told.length ≤ 100000) : runFn mo C F_inner_spots [.a t, .a (.int sp)] = .ok (.f (.tup own :: told)) [] := by
  refine run0 (ρ0 := [.d t, .d (.int sp), .no, .no, .no, .no, .no]) (ρ := [.d t, .d (.int sp), .own false (.tup [] :: told), .own false own, .d (.int at_), s5, s6]) ?_ rfl rfl (by intro i h; cases h) rfl
  refine (ss_nx (ρ1 := [.d t, .d (.int sp), .own false [.tup []], .no, .no, .no, .no]) rfl).trans ((ss_nx (ρ1 := [.d t, .d (.int sp), .own false [.tup []], .own false [], .no, .no, .no]) rfl).trans ((ss_nx (ρ1 := [.d t, .d (.int sp), .own false [.tup []], .own false [], .d (.int (sp + 1)), .no, .no]) rfl).trans ?_))
  refine (ss_nx ((for_ev (it_call (call_ev (vs := [.p t]) (as := [.a t]) rfl rfl rfl ha rfl) rfl rfl)).trans hf)).trans ?_
  refine ss_rt ?_
  refine ret_ev (v := .f (.tup own :: told)) ?_ (by intro i h; cases h) (by intro i h; cases h)
  refine cat_ev (v := .f [.tup own]) (w := .f told) rfl ?_ rfl rfl rfl hl
  refine slF_ev (v := .b 2) (w := .p (.int 1)) (x := .lst (.tup [] :: told)) rfl rfl rfl rfl ?_
  simp only [slice, cut1]
end
theorem inner_ok : ∀ (t : Tr), Rt t → ∀ (N : Nat) (sp : Int), ht t + 2 ≤ N → sz t ≤ 90000 → call mo prog N 11 [.a (enc true t), .a (.int sp)] = .ok (.f (innD t sp)) []
  | .leaf k e, r, N, sp, h1, h2 => by
    obtain ⟨n, rfl⟩ : ∃ n, N = n + 1 + 1 := ⟨N - 2, by simp [ht] at h1; omega⟩
    rw [call_s _ _ _ F_inner_spots rfl]
    exact is_run (told := []) (arms_ok n r) ft_nil (by decide)
  | .one k e a, r, N, sp, h1, h2 => by
    obtain ⟨n, rfl⟩ : ∃ n, N = n + 1 + 1 := ⟨N - 2, by simp [ht] at h1; omega⟩
    simp [ht, sz] at h1 h2
    have la := innD_len a (sp + 1)
    rw [call_s _ _ _ F_inner_spots rfl]
    have e1 := is_turn (C := call mo prog (n + 1)) (t := enc true (.one k e a)) (sp := sp) (told := [.tup []]) (own := []) (s5 := .no) (s6 := .no) rfl rfl (inner_ok a r.2 (n + 1) (sp + 1) (by omega) (by omega)) (by simp; omega) (by decide)
    exact is_run (told := innD a (sp + 1)) (arms_ok n r) ((ft_nx e1).trans ft_nil) (by omega)
  | .two k e a b, r, N, sp, h1, h2 => by
    obtain ⟨n, rfl⟩ : ∃ n, N = n + 1 + 1 := ⟨N - 2, by simp [ht] at h1; omega⟩
    simp [ht, sz] at h1 h2
    have la := innD_len a (sp + 1)
    have lb := innD_len b (sp + 1 + sz a)
    have iha := inner_ok a r.2.1 (n + 1) (sp + 1) (by omega) (by omega)
    have ihb := inner_ok b r.2.2 (n + 1) (sp + 1 + sz a) (by omega) (by omega)
    rw [call_s _ _ _ F_inner_spots rfl]
    have e1 := is_turn (C := call mo prog (n + 1)) (t := enc true (.two k e a b)) (sp := sp) (told := [.tup []]) (own := []) (s5 := .no) (s6 := .no) rfl rfl iha (by simp; omega) (by decide)
    rw [la] at e1
    have e2 := is_turn (C := call mo prog (n + 1)) (t := enc true (.two k e a b)) (sp := sp) (told := [.tup []] ++ innD a (sp + 1)) (own := [.int (sp + 1)]) (s5 := .d (enc true a)) (s6 := .own false (innD a (sp + 1))) rfl rfl ihb (by simp; omega) (by simp)
    exact is_run (arms_ok n r) ((ft_nx e1).trans ((ft_nx e2).trans ft_nil)) (by simp; omega)
end K07
end
section
set_option linter.all false
set_option maxRecDepth 100000
set_option maxHeartbeats 4000000
namespace Cz
variable {M : Mo} {C : Nat → List Arg → Rc}
theorem ifE_ev {t a b : E} {ρ ρ1 : Env} {v : Val} {k : Bool} (h : evE M C t ρ = .ok v ρ1) (hk : (res ρ1 (fz v)).bind truth = some k) : evE M C (.ife t a b) ρ = if k then evE M C a ρ1 else evE M C b ρ1 := by
  rw [evE, h]
  simp only [hk]
  cases k <;> rfl
theorem and2_ev {a b : E} {ρ ρ1 : Env} {x y : Bool} (ha : evE M C a ρ = .ok (.p (.bl x)) ρ1) (hb : evE M C b ρ1 = .ok (.p (.bl y)) ρ1) : evE M C (.and (.cons a (.cons b .nil))) ρ = .ok (.p (.bl (x && y))) ρ1 := by
  rw [evE, evAnd, ha]
  simp only [fz, res, Option.bind_some, truth]
  cases x
  · rfl
  · simp only [evAnd, hb, Bool.true_and]
theorem len_ev {a : E} {ρ ρ1 : Env} {v : Val} {d : D} {r : Val} (ha : evE M C a ρ = .ok v ρ1) (hx : res ρ1 (fz v) = some d) (h : biD .len [d] = some r) : evE M C (.bi .len (.cons a .nil)) ρ = .ok r ρ1 := by
  rw [evE, evEs, ha]
  simp only [evEs, ress, hx, h]
theorem asgIx_ev {i : Nat} {k e : E} {ρ ρ1 ρ2 : Env} {v : Val} {d : D} {j : Int} {l0 l : Bool} {ys xs : List D} {n : Nat} (h : evE M C e ρ = .ok v ρ1) (hv : fz v = .p d) (h1 : ρ1[i]? = some (.own l0 ys)) (hk : evE M C k ρ1 = .ok (.p (.int j)) ρ2) (h2 : ρ2[i]? = some (.own l xs)) (hj : pix xs.length j = some n) : evS M C (.asgIx i k e) ρ = .nx (ρ2.set i (.own l (xs.set n d))) := by
  rw [evS, h]
  simp only [hv, h1, hk, h2, hj]
theorem enumFrom_app : ∀ (a b : List D) (k : Nat), enumFrom k (a ++ b) = enumFrom k a ++ enumFrom (k + a.length) b
  | [], b, k => rfl
  | x :: a, b, k => by
    simp only [List.cons_append, enumFrom, enumFrom_app a b (k + 1), List.length_cons]
    rw [show k + 1 + a.length = k + (a.length + 1) by omega]
end Cz
namespace K07
open Cz
def wm (k : List Nat) : Bool := memD (.str k) [.str (tx "while"), .str (tx "more"), .str (tx "each")]
def th (k : List Nat) : Bool := k == tx "then"
/-- what follows an arm -/
def aft (k : List Nat) (z : Bool) (nxt at_ bh : Int) : Int := if th k && z then nxt else if wm k then at_ else bh
theorem aft_f (k : List Nat) (a b at_ bh : Int) : aft k false a at_ bh = aft k false b at_ bh := by
  unfold aft
  rw [Bool.and_false]
  rfl
/-- what follows each part -/
def fol : Tr → Int → Int → List D
  | .leaf _ _, bh, _ => [.int bh]
  | .one k _ a, bh, at_ => .int bh :: fol a (aft k true (at_ + 1 + sz a) at_ bh) (at_ + 1)
  | .two k _ a b, bh, at_ => .int bh :: (fol a (aft k true (at_ + 1 + sz a) at_ bh) (at_ + 1) ++ fol b (aft k false 0 at_ bh) (at_ + 1 + sz a))
  | .bad _, bh, _ => [.int bh]
theorem fol_len : ∀ (t : Tr) (b s : Int), (fol t b s).length = sz t
  | .leaf _ _, _, _ => rfl
  | .one _ _ a, _, s => by simp [fol, sz, fol_len a]; omega
  | .two _ _ a b, _, s => by simp [fol, sz, fol_len a, fol_len b]; omega
  | .bad _, _, _ => rfl
section
variable {C : Nat → List Arg → Rc}
theorem lf_turn {t x : D} {bh at_ pl j af : Int} {kd : List Nat} {told as ps fs : List D} {s7 s8 s9 : Sl} {z : Bool} (h7 : fr s7 = true) (h8 : fr s8 = true) (h9 : fr s9 = true) (hx : item (.lst as) (.int j) = some x) (hz : D.beq (.int j) (.int 0) = z) (hp : C 20 [.a x] = .ok (.f ps) []) (ha : aft kd z (pl + ps.length) at_ bh = af) (hf : C 25 [.a x, .a (.int af), .a (.int pl)] = .ok (.f fs) []) (hl : told.length + fs.length ≤ 100000) :
    turn mo C [7] b__law_follow_4a [.d t, .d (.int bh), .d (.int at_), .d (.str kd), .own false told, .d (.int pl), .own false as, s7, s8, s9] (.int j) = .nx [.d t, .d (.int bh), .d (.int at_), .d (.str kd), .own false (told ++ fs), .d (.int (pl + ps.length)), .own false as, .d (.int j), .d (.int ps.length), .d (.int af)] := by
  refine turn_ev (ρ2 := [.d t, .d (.int bh), .d (.int at_), .d (.str kd), .own false told, .d (.int pl), .own false as, .d (.int j), s8, s9]) (bind1 rfl h7) ?_
  refine (ss_nx (ρ1 := [.d t, .d (.int bh), .d (.int at_), .d (.str kd), .own false told, .d (.int pl), .own false as, .d (.int j), .d (.int ps.length), s9]) (asg_ev (len_ev (d := .lst ps) (call_ev (es_cons (v := .p x) (ix_ev (v := .b 6) (w := .p (.int j)) rfl rfl rfl rfl hx) rfl) (as := [.a x]) rfl rfl hp rfl) rfl rfl) (put_p rfl h8))).trans ?_
  refine (ss_nx (ρ1 := [.d t, .d (.int bh), .d (.int at_), .d (.str kd), .own false told, .d (.int pl), .own false as, .d (.int j), .d (.int ps.length), .d (.int (if wm kd then at_ else bh))]) (asg_ev (v := .p (.int (if wm kd then at_ else bh))) ((ifE_ev (v := .p (.bl (wm kd))) (k := wm kd) rfl rfl).trans (by cases wm kd <;> rfl)) (put_p rfl h9))).trans ?_
  refine (ss_nx (ρ1 := [.d t, .d (.int bh), .d (.int at_), .d (.str kd), .own false told, .d (.int pl), .own false as, .d (.int j), .d (.int ps.length), .d (.int af)]) ((if_ev (v := .p (.bl (th kd && z))) (k := th kd && z) (and2_ev rfl (by rw [← hz]; rfl)) rfl).trans ?_)).trans ?_
  · unfold aft at ha
    rw [← ha]
    cases th kd && z <;> rfl
  refine (ss_nx (asg_ev (cat_ev (v := .b 4) (w := .f fs) rfl (call_ev (es_cons (v := .p x) (ix_ev (v := .b 6) (w := .p (.int j)) rfl rfl rfl rfl hx) rfl) (as := [.a x, .a (.int af), .a (.int pl)]) rfl rfl hf rfl) rfl rfl rfl hl) rfl)).trans ?_
  exact ss_nx rfl
theorem lf_run {k : List Nat} {e as told : List D} {bh at_ pl : Int} {s7 s8 s9 : Sl} (ha : C 19 [.a (row true k e as)] = .ok (.f as) []) (hl : as.length ≤ 100000) (hf : forTurns (turn mo C [7] b__law_follow_4a) [.d (row true k e as), .d (.int bh), .d (.int at_), .d (.str k), .own false [.int bh], .d (.int (at_ + 1)), .own false as, .no, .no, .no] (intsD 0 as.length) = .nx [.d (row true k e as), .d (.int bh), .d (.int at_), .d (.str k), .own false told, .d (.int pl), .own false as, s7, s8, s9]) : runFn mo C F__law_follow [.a (row true k e as), .a (.int bh), .a (.int at_)] = .ok (.f told) [] := by
  refine run0 (ρ0 := [.d (row true k e as), .d (.int bh), .d (.int at_), .no, .no, .no, .no, .no, .no, .no]) (ρ := [.d (row true k e as), .d (.int bh), .d (.int at_), .d (.str k), .no, .d (.int pl), .own false as, s7, s8, s9]) ?_ rfl rfl (by intro i h; cases h) rfl
  refine (ss_nx (ρ1 := [.d (row true k e as), .d (.int bh), .d (.int at_), .d (.str k), .no, .no, .no, .no, .no, .no]) (asg_ev (ix_ev (v := .p (row true k e as)) (w := .p (.int 0)) rfl rfl rfl rfl (item0 _ _).1) rfl)).trans ?_
  refine (ss_nx (ρ1 := [.d (row true k e as), .d (.int bh), .d (.int at_), .d (.str k), .own false [.int bh], .no, .no, .no, .no, .no]) rfl).trans ?_
  refine (ss_nx (ρ1 := [.d (row true k e as), .d (.int bh), .d (.int at_), .d (.str k), .own false [.int bh], .d (.int (at_ + 1)), .no, .no, .no, .no]) rfl).trans ?_
  refine (ss_nx (ρ1 := [.d (row true k e as), .d (.int bh), .d (.int at_), .d (.str k), .own false [.int bh], .d (.int (at_ + 1)), .own false as, .no, .no, .no]) (asg_ev (call_ev (vs := [.p (row true k e as)]) (as := [.a (row true k e as)]) rfl rfl rfl ha rfl) rfl)).trans ?_
  refine (ss_nx ((for_ev (ds := intsD 0 as.length) ?_).trans hf)).trans (ss_rt rfl)
  have : evE mo C (.bi .len (.cons (.bor 6) .nil)) [.d (row true k e as), .d (.int bh), .d (.int at_), .d (.str k), .own false [.int bh], .d (.int (at_ + 1)), .own false as, .no, .no, .no] = .ok (.p (.int as.length)) [.d (row true k e as), .d (.int bh), .d (.int at_), .d (.str k), .own false [.int bh], .d (.int (at_ + 1)), .own false as, .no, .no, .no] := rfl
  rw [evIt, this]
  simp only
  rw [if_pos (by omega), Int.toNat_natCast]
end
theorem one_th {k : List Nat} {e : List D} (h : Hk k e 1) : th k = false := by
  cases h with
  | pl h =>
    simp only [plainKd, List.mem_cons, List.not_mem_nil, or_false, Prod.mk.injEq] at h
    rcases h with ⟨rfl, ha⟩ | ⟨rfl, ha⟩ | ⟨rfl, ha⟩ | ⟨rfl, ha⟩ | ⟨rfl, ha⟩ | ⟨rfl, ha⟩ | ⟨rfl, ha⟩ | ⟨rfl, ha⟩ <;> first | rfl | cases ha
  | sa h hk =>
    simp only [sayKd, List.mem_cons, List.not_mem_nil, or_false, Prod.mk.injEq] at hk
    rcases hk with ⟨rfl, ha⟩ | ⟨rfl, ha⟩ | ⟨rfl, ha⟩ | ⟨rfl, ha⟩ <;> first | rfl | cases ha
theorem follow_ok : ∀ (t : Tr), Rt t → ∀ (N : Nat) (bh at_ : Int), ht t + 3 ≤ N → sz t ≤ 90000 → call mo prog N 25 [.a (enc true t), .a (.int bh), .a (.int at_)] = .ok (.f (fol t bh at_)) []
  | .leaf k e, r, N, bh, at_, h1, h2 => by
    obtain ⟨n, rfl⟩ : ∃ n, N = n + 1 + 1 := ⟨N - 2, by simp [ht] at h1; omega⟩
    rw [call_s _ _ _ F__law_follow rfl]
    exact lf_run (law_arms_ok n (Rt.lt r)) (by decide) ft_nil
  | .one k e a, r, N, bh, at_, h1, h2 => by
    obtain ⟨n, rfl⟩ : ∃ n, N = n + 1 + 1 := ⟨N - 2, by simp [ht] at h1; omega⟩
    simp [ht, sz] at h1 h2
    have la : ((parts a).map (enc true)).length = sz a := by rw [List.length_map, parts_len]
    have lf := fol_len a (aft k true (at_ + 1 + sz a) at_ bh) (at_ + 1)
    rw [call_s _ _ _ F__law_follow rfl]
    have e1 := lf_turn (C := call mo prog (n + 1)) (t := enc true (.one k e a)) (bh := bh) (at_ := at_) (pl := at_ + 1) (j := 0) (kd := k) (told := [.int bh]) (as := [enc true a]) (s7 := .no) (s8 := .no) (s9 := .no) (z := true) rfl rfl rfl rfl rfl (law_parts_ok a (Rt.lt r.2) (n + 1) (by omega) (by omega)) (by rw [la]) (follow_ok a r.2 (n + 1) (aft k true (at_ + 1 + sz a) at_ bh) (at_ + 1) (by omega) (by omega)) (by simp; omega)
    exact lf_run (law_arms_ok n (Rt.lt r)) (by simp) ((ft_nx e1).trans ft_nil)
  | .two k e a b, r, N, bh, at_, h1, h2 => by
    obtain ⟨n, rfl⟩ : ∃ n, N = n + 1 + 1 := ⟨N - 2, by simp [ht] at h1; omega⟩
    simp [ht, sz] at h1 h2
    have la : ((parts a).map (enc true)).length = sz a := by rw [List.length_map, parts_len]
    have lb : ((parts b).map (enc true)).length = sz b := by rw [List.length_map, parts_len]
    have lf := fol_len a (aft k true (at_ + 1 + sz a) at_ bh) (at_ + 1)
    have lg := fol_len b (aft k false 0 at_ bh) (at_ + 1 + sz a)
    rw [call_s _ _ _ F__law_follow rfl]
    have e1 := lf_turn (C := call mo prog (n + 1)) (t := enc true (.two k e a b)) (bh := bh) (at_ := at_) (pl := at_ + 1) (j := 0) (kd := k) (told := [.int bh]) (as := [enc true a, enc true b]) (s7 := .no) (s8 := .no) (s9 := .no) (z := true) rfl rfl rfl rfl rfl (law_parts_ok a (Rt.lt r.2.1) (n + 1) (by omega) (by omega)) (by rw [la]) (follow_ok a r.2.1 (n + 1) (aft k true (at_ + 1 + sz a) at_ bh) (at_ + 1) (by omega) (by omega)) (by simp; omega)
    rw [la] at e1
    have e2 := lf_turn (C := call mo prog (n + 1)) (t := enc true (.two k e a b)) (bh := bh) (at_ := at_) (pl := at_ + 1 + sz a) (j := 1) (kd := k) (told := [.int bh] ++ fol a (aft k true (at_ + 1 + sz a) at_ bh) (at_ + 1)) (as := [enc true a, enc true b]) (s7 := .d (.int 0)) (s8 := .d (.int (sz a))) (s9 := .d (.int (aft k true (at_ + 1 + sz a) at_ bh))) (z := false) rfl rfl rfl rfl rfl (law_parts_ok b (Rt.lt r.2.2) (n + 1) (by omega) (by omega)) (aft_f k _ 0 at_ bh) (follow_ok b r.2.2 (n + 1) (aft k false 0 at_ bh) (at_ + 1 + sz a) (by omega) (by omega)) (by simp; omega)
    exact lf_run (law_arms_ok n (Rt.lt r)) (by simp) ((ft_nx e1).trans ((ft_nx e2).trans ft_nil))
end K07
end
section
set_option linter.all false
set_option maxRecDepth 100000
set_option maxHeartbeats 4000000
namespace Cz
theorem set_get {l : List D} {i j : Nat} {v : D} (h : i < l.length) : (l.set i v)[j]? = if j = i then some v else l[j]? := by
  rw [List.getElem?_set]
  by_cases e : i = j
  · subst e
    simp [h]
  · rw [if_neg e, if_neg (fun q => e q.symm)]
end Cz
namespace K07
open Cz
section
variable {C : Nat → List Arg → Rc}
/-- a turn of the inner loop: told[arm] = .. -/
theorem as_turn {P I pt : D} {told as : List D} {sp j : Int} {q : Nat} {bh nx v : Int} {kd : List Nat} {s7 s8 : Sl} {z : Bool} (h7 : fr s7 = true) (h8 : fr s8 = true) (hz : D.beq (.int j) (.int 0) = z) (hq : q < told.length) (hs : item (.lst told) (.int sp) = some (.int bh)) (hn : (th kd && z) = true → item (.tup as) (.int 1) = some (.int nx)) (hv : aft kd z nx sp bh = v) :
    turn mo C [7, 8] b_after_spots_1a_2a [.d P, .d I, .own false told, .d (.int sp), .d pt, .d (.str kd), .d (.tup as), s7, s8] (.tup [.int j, .int (q : Int)]) = .nx [.d P, .d I, .own false (told.set q (.int v)), .d (.int sp), .d pt, .d (.str kd), .d (.tup as), .d (.int j), .d (.int (q : Int))] := by
  refine turn_ev (ρ2 := [.d P, .d I, .own false told, .d (.int sp), .d pt, .d (.str kd), .d (.tup as), .d (.int j), .d (.int (q : Int))]) (bind2 rfl h7 rfl h8) ?_
  refine ss_nx ((if_ev (v := .p (.bl (th kd && z))) (k := th kd && z) (and2_ev rfl (by rw [← hz]; rfl)) rfl).trans ?_)
  unfold aft at hv
  cases hc : th kd && z with
  | true =>
    rw [hc] at hv hn
    simp only [if_true] at hv ⊢
    subst hv
    exact ss_nx (asgIx_ev (ρ2 := [.d P, .d I, .own false told, .d (.int sp), .d pt, .d (.str kd), .d (.tup as), .d (.int j), .d (.int (q : Int))]) (d := .int nx) (ix_ev (v := .p (.tup as)) (w := .p (.int 1)) rfl rfl rfl rfl (hn rfl)) rfl rfl rfl rfl (pix_nat hq))
  | false =>
    rw [hc] at hv
    simp only [Bool.false_eq_true, if_false] at hv ⊢
    refine ss_nx ((if_ev (v := .p (.bl (wm kd))) (k := wm kd) rfl rfl).trans ?_)
    cases hw : wm kd with
    | true =>
      rw [hw] at hv
      simp only [if_true] at hv ⊢
      subst hv
      exact ss_nx (asgIx_ev (ρ2 := [.d P, .d I, .own false told, .d (.int sp), .d pt, .d (.str kd), .d (.tup as), .d (.int j), .d (.int (q : Int))]) (d := .int sp) rfl rfl rfl rfl rfl (pix_nat hq))
    | false =>
      rw [hw] at hv
      simp only [Bool.false_eq_true, if_false] at hv ⊢
      subst hv
      exact ss_nx (asgIx_ev (ρ2 := [.d P, .d I, .own false told, .d (.int sp), .d pt, .d (.str kd), .d (.tup as), .d (.int j), .d (.int (q : Int))]) (d := .int bh) (ix_ev (v := .b 2) (w := .p (.int sp)) rfl rfl rfl rfl hs) rfl rfl rfl rfl (pix_nat hq))
/-- what stands in the slots -/
def E9 (P I : D) (told : List D) (ρ : Env) : Prop := ∃ s3 s4 s5 s6 s7 s8, fr s3 = true ∧ fr s4 = true ∧ fr s5 = true ∧ fr s6 = true ∧ fr s7 = true ∧ fr s8 = true ∧ ρ = [.d P, .d I, .own false told, s3, s4, s5, s6, s7, s8]
theorem as_out {P x : D} {I told told2 as : List D} {ρ : Env} {s : Nat} {kd : List Nat} (he : E9 P (.lst I) told ρ) (hk : item x (.int 0) = some (.str kd)) (hi : I[s]? = some (.tup as)) (hf : ∀ s7 s8, fr s7 = true → fr s8 = true → ∃ s7' s8', fr s7' = true ∧ fr s8' = true ∧ Goes (turn mo C [7, 8] b_after_spots_1a_2a) [.d P, .d (.lst I), .own false told, .d (.int s), .d x, .d (.str kd), .d (.tup as), s7, s8] (enumFrom 0 as) [.d P, .d (.lst I), .own false told2, .d (.int s), .d x, .d (.str kd), .d (.tup as), s7', s8']) :
    ∃ ρ', turn mo C [3, 4] b_after_spots_1a ρ (.tup [.int s, x]) = .nx ρ' ∧ E9 P (.lst I) told2 ρ' := by
  obtain ⟨s3, s4, s5, s6, s7, s8, h3, h4, h5, h6, h7, h8, rfl⟩ := he
  obtain ⟨s7', s8', h7', h8', g⟩ := hf s7 s8 h7 h8
  have hl : s < I.length := by
    rw [List.getElem?_eq_some_iff] at hi
    exact hi.1
  refine ⟨_, turn_ev (ρ2 := [.d P, .d (.lst I), .own false told, .d (.int s), .d x, s5, s6, s7, s8]) (bind2 rfl h3 rfl h4) ?_, .d (.int s), .d x, .d (.str kd), .d (.tup as), s7', s8', rfl, rfl, rfl, rfl, h7', h8', rfl⟩
  refine (ss_nx (ρ1 := [.d P, .d (.lst I), .own false told, .d (.int s), .d x, .d (.str kd), s6, s7, s8]) (asg_ev (ix_ev (v := .p x) (w := .p (.int 0)) rfl rfl rfl rfl hk) (put_p rfl h5))).trans ?_
  refine (ss_nx (ρ1 := [.d P, .d (.lst I), .own false told, .d (.int s), .d x, .d (.str kd), .d (.tup as), s7, s8]) (asg_ev (ix_ev (v := .p (.lst I)) (w := .p (.int s)) rfl rfl rfl rfl (by simp only [item, pix_nat hl, Option.bind_some, hi])) (put_p rfl h6))).trans ?_
  exact ss_nx ((for_ev (ds := enumFrom 0 as) rfl).trans g.ft)
theorem seg (P : D) (I : List D) : ∀ (t : Tr), Rt t → ∀ (s : Nat) (bh : Int) (told : List D) (ρ : Env), E9 P (.lst I) told ρ → s + sz t ≤ told.length → told[s]? = some (.int bh) → (∀ i, i < sz t → I[s + i]? = (innD t s)[i]?) →
    ∃ told' ρ', E9 P (.lst I) told' ρ' ∧ Goes (turn mo C [3, 4] b_after_spots_1a) ρ (enumFrom s ((parts t).map (enc true))) ρ' ∧ told'.length = told.length ∧ (∀ i, i < s ∨ s + sz t ≤ i → told'[i]? = told[i]?) ∧ (∀ i, i < sz t → told'[s + i]? = (fol t bh s)[i]?)
  | .leaf k e, r, s, bh, told, ρ, he, hl, hb, hI => by
    have hi : I[s]? = some (.tup []) := hI 0 (by simp [sz])
    obtain ⟨ρ', e1, g⟩ := as_out (C := C) (told2 := told) (x := enc true (.leaf k e)) (kd := k) he (item0 _ _).1 hi (fun s7 s8 h7 h8 => ⟨s7, s8, h7, h8, rfl⟩)
    refine ⟨told, ρ', g, ⟨_, .inl e1, rfl⟩, rfl, fun i _ => rfl, fun i hi => ?_⟩
    have : i = 0 := by simp [sz] at hi; exact hi
    subst this
    simpa [fol] using hb
  | .one k e a, r, s, bh, told, ρ, he, hl, hb, hI => by
    simp only [sz] at hl hI
    have hi : I[s]? = some (.tup [.int (s + 1 : Nat)]) := hI 0 (by omega)
    have hs : s < told.length := by omega
    have pa : 0 < sz a := by cases a <;> simp [sz] <;> omega
    have hs1 : s + 1 < told.length := by omega
    obtain ⟨ρ1, e1, g1⟩ := as_out (C := C) (told2 := told.set (s + 1) (.int (aft k true ((s : Int) + 1 + sz a) s bh))) (x := enc true (.one k e a)) (kd := k) he (item0 _ _).1 hi (fun s7 s8 h7 h8 => ⟨_, _, rfl, rfl, _, .inl (as_turn (j := 0) (z := true) (q := s + 1) (bh := bh) (nx := (s : Int) + 1 + sz a) h7 h8 rfl hs1 (by simp only [item, pix_nat hs, Option.bind_some, hb]) (fun q => by rw [one_th r.1] at q; cases q) rfl), rfl⟩)
    obtain ⟨told', ρ', g2, go, hl2, ho, hn⟩ := seg P I a r.2 (s + 1) _ _ ρ1 g1 (by rw [List.length_set]; omega) (by rw [set_get hs1, if_pos rfl]) (fun i hi => by
      have := hI (i + 1) (by omega)
      rw [show s + (i + 1) = s + 1 + i by omega] at this
      rw [this]
      rfl)
    refine ⟨told', ρ', g2, ⟨ρ1, .inl e1, go⟩, by rw [hl2, List.length_set], fun i hi => ?_, fun i hi => ?_⟩
    · simp only [sz] at hi
      rw [ho i (by omega), set_get hs1, if_neg (by omega)]
    · simp only [sz] at hi
      cases i with
      | zero =>
        rw [ho (s + 0) (by omega), set_get hs1, if_neg (by omega)]
        exact hb
      | succ i =>
        have := hn i (by omega)
        rw [show s + (i + 1) = s + 1 + i by omega, this]
        rfl
  | .two k e a b, r, s, bh, told, ρ, he, hl, hb, hI => by
    simp only [sz] at hl hI
    have hi : I[s]? = some (.tup [.int (s + 1 : Nat), .int (s + 1 + sz a : Nat)]) := hI 0 (by omega)
    have hs : s < told.length := by omega
    have pa : 0 < sz a := by cases a <;> simp [sz] <;> omega
    have pb : 0 < sz b := by cases b <;> simp [sz] <;> omega
    have hs1 : s + 1 < told.length := by omega
    have hs2 : s + 1 + sz a < told.length := by omega
    have hs2' : s + 1 + sz a < (told.set (s + 1) (.int (aft k true ((s : Int) + 1 + sz a) s bh))).length := by rw [List.length_set]; omega
    have hs' : s < (told.set (s + 1) (.int (aft k true ((s : Int) + 1 + sz a) s bh))).length := by rw [List.length_set]; omega
    have hb1 : (told.set (s + 1) (.int (aft k true ((s : Int) + 1 + sz a) s bh)))[s]? = some (.int bh) := by rw [set_get hs1, if_neg (by omega), hb]
    obtain ⟨ρ1, e1, g1⟩ := as_out (C := C) (told2 := (told.set (s + 1) (.int (aft k true ((s : Int) + 1 + sz a) s bh))).set (s + 1 + sz a) (.int (aft k false 0 s bh))) (x := enc true (.two k e a b)) (kd := k) he (item0 _ _).1 hi (fun s7 s8 h7 h8 => ⟨_, _, rfl, rfl, _, .inl (as_turn (j := 0) (z := true) (q := s + 1) (bh := bh) (nx := (s : Int) + 1 + sz a) h7 h8 rfl hs1 (by simp only [item, pix_nat hs, Option.bind_some, hb]) (fun q => rfl) rfl), _, .inl (as_turn (j := 1) (z := false) (q := s + 1 + sz a) (bh := bh) (nx := 0) rfl rfl rfl hs2' (by simp only [item, pix_nat hs', Option.bind_some, hb1]) (fun q => by rw [Bool.and_false] at q; cases q) rfl), rfl⟩)
    obtain ⟨told2, ρ2, g2, go2, hl2, ho2, hn2⟩ := seg P I a r.2.1 (s + 1) (aft k true ((s : Int) + 1 + sz a) s bh) _ ρ1 g1 (by rw [List.length_set, List.length_set]; omega) (by rw [set_get hs2', if_neg (by omega), set_get hs1, if_pos rfl]) (fun i hi => by
      have := hI (i + 1) (by omega)
      rw [show s + (i + 1) = s + 1 + i by omega] at this
      rw [this]
      show (innD a (s + 1) ++ innD b (s + 1 + sz a))[i]? = _
      rw [List.getElem?_append_left (by rw [innD_len]; exact hi)]
      rfl)
    obtain ⟨told3, ρ3, g3, go3, hl3, ho3, hn3⟩ := seg P I b r.2.2 (s + 1 + sz a) (aft k false 0 s bh) _ ρ2 g2 (by rw [hl2, List.length_set, List.length_set]; omega) (by rw [ho2 _ (by omega), set_get hs2', if_pos rfl]) (fun i hi => by
      have := hI (i + 1 + sz a) (by omega)
      rw [show s + (i + 1 + sz a) = s + 1 + sz a + i by omega] at this
      rw [this]
      show (.tup [.int (s + 1), .int (s + 1 + sz a)] :: (innD a (s + 1) ++ innD b (s + 1 + sz a)) : List D)[i + 1 + sz a]? = _
      rw [show i + 1 + sz a = (i + sz a) + 1 by omega, List.getElem?_cons_succ, List.getElem?_append_right (by rw [innD_len]; omega), innD_len, show i + sz a - sz a = i by omega]
      rfl)
    refine ⟨told3, ρ3, g3, ⟨ρ1, .inl e1, ?_⟩, by rw [hl3, hl2, List.length_set, List.length_set], fun i hi => ?_, fun i hi => ?_⟩
    · show Goes _ ρ1 (enumFrom (s + 1) ((parts a ++ parts b).map (enc true))) ρ3
      rw [List.map_append, enumFrom_app, List.length_map, parts_len]
      exact go2.app go3
    · simp only [sz] at hi
      rw [ho3 i (by omega), ho2 i (by omega), set_get hs2', if_neg (by omega), set_get hs1, if_neg (by omega)]
    · simp only [sz] at hi
      cases i with
      | zero =>
        rw [ho3 _ (by omega), ho2 _ (by omega), set_get hs2', if_neg (by omega), set_get hs1, if_neg (by omega)]
        exact hb
      | succ i =>
        show _ = (fol a (aft k true ((s : Int) + 1 + sz a) s bh) ((s : Int) + 1) ++ fol b (aft k false 0 s bh) ((s : Int) + 1 + sz a))[i]?
        by_cases hia : i < sz a
        · rw [ho3 _ (by omega), show s + (i + 1) = s + 1 + i by omega, hn2 i hia, List.getElem?_append_left (by rw [fol_len]; exact hia)]
          rfl
        · have := hn3 (i - sz a) (by omega)
          rw [show s + 1 + sz a + (i - sz a) = s + (i + 1) by omega] at this
          rw [this, List.getElem?_append_right (by rw [fol_len]; omega), fol_len]
          rfl
end
end K07
end
section
set_option linter.all false
set_option maxRecDepth 100000
set_option maxHeartbeats 4000000
namespace K07
open Cz
theorem sz_pos (t : Tr) : 0 < sz t := by cases t <;> simp [sz] <;> omega
theorem rt_fb : ∀ {t : Tr}, Rt t → fb t = none
  | .leaf _ _, _ => rfl
  | .one _ _ a, r => by simp [fb, rt_fb r.2]
  | .two _ _ a b, r => by simp [fb, rt_fb r.2.1, rt_fb r.2.2]
  | .bad _, r => r.elim
theorem after_ok (n : Nat) {t : Tr} (r : Rt t) (hz : sz t ≤ 90000) : call mo prog (n + 1) 12 [.a (.lst ((parts t).map (enc true))), .a (.lst (innD t 0))] = .ok (.p (.tup (fol t (sz t) 0))) [] := by
  generalize hP : (parts t).map (enc true) = P
  have lP : P.length = sz t := by rw [← hP, List.length_map, parts_len]
  have pz := sz_pos t
  rw [call_s _ _ _ F_after_spots rfl]
  obtain ⟨ρ1, e1, s4, rfl⟩ := lc_map (f := lcf mo (call mo prog n) [4] .nil (.bi .len (.cons (.bor 0) .nil))) (fun ρ => ∃ s, ρ = [.d (.lst P), .d (.lst (innD t 0)), .no, .no, s, .no, .no, .no, .no]) (fun _ => .int (P.length : Int)) P [.d (.lst P), .d (.lst (innD t 0)), .no, .no, .no, .no, .no, .no, .no] ⟨_, rfl⟩ (by
    rintro d _ ρ ⟨s, rfl⟩
    exact ⟨[.d (.lst P), .d (.lst (innD t 0)), .no, .no, .d d, .no, .no, .no, .no], rfl, _, rfl⟩)
  have hg : ∀ i, i < sz t → (P.map fun _ => D.int (P.length : Int))[i]? = some (.int (sz t : Int)) := by
    intro i hi
    rw [List.getElem?_map, List.getElem?_eq_getElem (by omega), Option.map_some, lP]
  obtain ⟨told', ρ2, g2, go, hl, ho, hn⟩ := seg (C := call mo prog n) (.lst P) (innD t 0) t r 0 (sz t) (P.map fun _ => D.int (P.length : Int)) [.d (.lst P), .d (.lst (innD t 0)), .own false (P.map fun _ => D.int (P.length : Int)), .no, .no, .no, .no, .no, .no] ⟨_, _, _, _, _, _, rfl, rfl, rfl, rfl, rfl, rfl, rfl⟩ (by rw [List.length_map]; omega) (hg 0 pz) (fun i _ => by rw [Nat.zero_add]; rfl)
  have ht : told' = fol t (sz t) 0 := by
    refine List.ext_getElem? fun i => ?_
    by_cases hi : i < sz t
    · have := hn i hi
      rw [Nat.zero_add] at this
      exact this
    · rw [ho i (by omega), List.getElem?_eq_none (by rw [List.length_map]; omega), List.getElem?_eq_none (by rw [fol_len]; omega)]
  subst ht
  rw [hP] at go
  obtain ⟨s3, s4, s5, s6, s7, s8, _, _, _, _, _, _, rfl⟩ := g2
  refine run0 (ρ0 := [.d (.lst P), .d (.lst (innD t 0)), .no, .no, .no, .no, .no, .no, .no]) (ρ := [.d (.lst P), .d (.lst (innD t 0)), .own false (fol t (sz t) 0), s3, s4, s5, s6, s7, s8]) ?_ rfl rfl (by intro i h; cases h) rfl
  refine (ss_nx (ρ1 := [.d (.lst P), .d (.lst (innD t 0)), .own false (P.map fun _ => D.int (P.length : Int)), .no, .no, .no, .no, .no, .no]) (asg_ev (lc_ev (ds := P) rfl rfl e1) rfl)).trans ?_
  exact (ss_nx ((for_ev (ds := enumFrom 0 P) rfl).trans go.ft)).trans (ss_rt rfl)
theorem followers_ok (t : Tr) (r : Rt t) (m : Bool) (N : Nat) (h1 : ht t ≤ 20) (h2 : sz t ≤ 60) (h3 : ht t + 11 ≤ N) : call mo prog N 13 [.a (enc m t)] = .ok (.p (.tup (fol t (sz t) 0))) [] := by
  obtain ⟨n, rfl⟩ : ∃ n, N = n + 1 + 1 := ⟨N - 2, by omega⟩
  have hc := checked_ok t (Rt.ok r) m (n + 1) h1 h2 (by omega)
  rw [rt_fb r] at hc
  rw [call_s _ _ _ F_followers rfl]
  refine run0 (ρ0 := [.d (enc m t), .no]) (ρ := [.d (enc m t), .d (enc true t)]) ?_ rfl rfl (by intro i h; cases h) rfl
  refine (ss_nx (ρ1 := [.d (enc m t), .d (enc true t)]) (asg_ev (call_ev (vs := [.p (enc m t)]) (as := [.a (enc m t)]) rfl rfl rfl hc rfl) rfl)).trans ?_
  refine ss_rt (ret_ev ?_ (by intro i h; cases h) (by intro i h; cases h))
  exact call_ev (es_cons (v := .f ((parts t).map (enc true))) (call_ev (vs := [.p (enc true t)]) (as := [.a (enc true t)]) rfl rfl rfl (all_ok t r (n + 1) (by omega) (by omega)) rfl) (es_cons (v := .f (innD t 0)) (call_ev (vs := [.p (enc true t), .p (.int 0)]) (as := [.a (enc true t), .a (.int 0)]) rfl rfl rfl (inner_ok t r (n + 1) 0 (by omega) (by omega)) rfl) rfl)) (as := [.a (.lst ((parts t).map (enc true))), .a (.lst (innD t 0))]) rfl rfl (after_ok n r (by omega)) rfl
theorem parts_ok (t : Tr) (r : Rt t) (m : Bool) (N : Nat) (h1 : ht t ≤ 20) (h2 : sz t ≤ 60) (h3 : ht t + 11 ≤ N) : call mo prog N 10 [.a (enc m t)] = .ok (.p (.tup ((parts t).map (enc true)))) [] := by
  obtain ⟨n, rfl⟩ : ∃ n, N = n + 1 := ⟨N - 1, by omega⟩
  have hc := checked_ok t (Rt.ok r) m n h1 h2 (by omega)
  rw [rt_fb r] at hc
  rw [call_s _ _ _ F_parts_of rfl]
  refine run0 (ρ0 := [.d (enc m t)]) (ρ := [.d (enc m t)]) (ss_rt (ret_ev (v := .p (.tup ((parts t).map (enc true)))) ?_ (by intro i h; cases h) (by intro i h; cases h))) rfl rfl (by intro i h; cases h) rfl
  have ha := call_ev (M := mo) (C := call mo prog n) (f := 9) (es := .cons (.call 8 (.cons (.var 0) .nil)) .nil) (ρ := [.d (enc m t)]) (es_cons (v := .p (enc true t)) (call_ev (vs := [.p (enc m t)]) (as := [.a (enc m t)]) rfl rfl rfl hc rfl) rfl) (as := [.a (enc true t)]) rfl rfl (all_ok t r n (by omega) (by omega)) rfl
  rw [evE, evEs, ha]
  rfl
/-- the same where a part is wrong -/
theorem parts_bad (t : Tr) (ok : Ok t) {k : Nat} (hk : fb t = some k) (m : Bool) (N : Nat) (h1 : ht t ≤ 20) (h2 : sz t ≤ 60) (h3 : ht t + 11 ≤ N) : call mo prog N 10 [.a (enc m t)] = .ex ⟨2, .int k⟩ [] := by
  obtain ⟨n, rfl⟩ : ∃ n, N = n + 1 := ⟨N - 1, by omega⟩
  have hc := checked_ok t ok m n h1 h2 (by omega)
  rw [hk] at hc
  rw [call_s _ _ _ F_parts_of rfl]
  refine run0x (ρ0 := [.d (enc m t)]) (ρ := [.d (enc m t)]) (ss_ex ?_) rfl rfl rfl
  simp [evS, evE, evEs, res, ress, fz, args, lentOnce, back, hc]
theorem followers_bad (t : Tr) (ok : Ok t) {k : Nat} (hk : fb t = some k) (m : Bool) (N : Nat) (h1 : ht t ≤ 20) (h2 : sz t ≤ 60) (h3 : ht t + 11 ≤ N) : call mo prog N 13 [.a (enc m t)] = .ex ⟨2, .int k⟩ [] := by
  obtain ⟨n, rfl⟩ : ∃ n, N = n + 1 := ⟨N - 1, by omega⟩
  have hc := checked_ok t ok m n h1 h2 (by omega)
  rw [hk] at hc
  rw [call_s _ _ _ F_followers rfl]
  refine run0x (ρ0 := [.d (enc m t), .no]) (ρ := [.d (enc m t), .no]) (ss_ex ?_) rfl rfl rfl
  simp [evS, evE, evEs, res, ress, fz, args, lentOnce, back, hc]
end K07
end
section
set_option linter.all false
set_option maxRecDepth 100000
set_option maxHeartbeats 4000000
namespace Cz
theorem depsLe_mem : ∀ {xs : List D} {n : Nat}, depsLe n xs = true → ∀ x ∈ xs, depLe n x = true
  | y :: r, n, h, x, m => by
    unfold depsLe at h
    rw [Bool.and_eq_true] at h
    rcases List.mem_cons.mp m with e | m
    · rw [e]; exact h.1
    · exact depsLe_mem h.2 x m
theorem depsLe_of : ∀ {xs : List D} {n : Nat}, (∀ x ∈ xs, depLe n x = true) → depsLe n xs = true
  | [], n, _ => by unfold depsLe; rfl
  | y :: r, n, h => by
    unfold depsLe
    rw [Bool.and_eq_true]
    exact ⟨h y List.mem_cons_self, depsLe_of fun x m => h x (List.mem_cons_of_mem _ m)⟩
mutual
theorem depLe_mono : ∀ {d : D} {n m : Nat}, n ≤ m → depLe n d = true → depLe m d = true
  | .tup xs, n, m, hm, h => by
    cases n with
    | zero => unfold depLe at h; cases h
    | succ n =>
      obtain ⟨m, rfl⟩ : ∃ q, m = q + 1 := ⟨m - 1, by omega⟩
      unfold depLe at h ⊢
      exact depsLe_mono (by omega) h
  | .lst xs, n, m, hm, h => by
    cases n with
    | zero => unfold depLe at h; cases h
    | succ n =>
      obtain ⟨m, rfl⟩ : ∃ q, m = q + 1 := ⟨m - 1, by omega⟩
      unfold depLe at h ⊢
      exact depsLe_mono (by omega) h
  | .dct _ _, n, m, hm, h => by unfold depLe at h; cases h
  | .non, n, m, hm, h => by unfold depLe; rfl
  | .bl _, n, m, hm, h => by unfold depLe; rfl
  | .int _, n, m, hm, h => by unfold depLe; rfl
  | .str _, n, m, hm, h => by unfold depLe; rfl
theorem depsLe_mono : ∀ {xs : List D} {n m : Nat}, n ≤ m → depsLe n xs = true → depsLe m xs = true
  | [], n, m, hm, h => by unfold depsLe; rfl
  | x :: r, n, m, hm, h => by
    unfold depsLe at h ⊢
    rw [Bool.and_eq_true] at h ⊢
    exact ⟨depLe_mono hm h.1, depsLe_mono hm h.2⟩
end
mutual
theorem beq_self : ∀ {d : D} {n : Nat}, depLe n d = true → D.beq d d = true
  | .tup xs, n, h => by
    cases n with
    | zero => unfold depLe at h; cases h
    | succ n =>
      unfold depLe at h
      unfold D.beq
      exact beqs_self h
  | .lst xs, n, h => by
    cases n with
    | zero => unfold depLe at h; cases h
    | succ n =>
      unfold depLe at h
      unfold D.beq
      exact beqs_self h
  | .dct _ _, n, h => by unfold depLe at h; cases h
  | .non, n, h => by unfold D.beq; rfl
  | .bl _, n, h => by unfold D.beq; exact beq_self_eq_true _
  | .int _, n, h => by unfold D.beq; exact beq_self_eq_true _
  | .str _, n, h => by unfold D.beq; exact beq_self_eq_true _
theorem beqs_self : ∀ {xs : List D} {n : Nat}, depsLe n xs = true → D.beqs xs xs = true
  | [], n, h => by unfold D.beqs; rfl
  | x :: r, n, h => by
    unfold depsLe at h
    rw [Bool.and_eq_true] at h
    unfold D.beqs
    rw [Bool.and_eq_true]
    exact ⟨beq_self h.1, beqs_self h.2⟩
end
theorem ne_self {d : D} (h : depLe 100 d = true) : cmpD .ne d d = some false := by
  unfold cmpD
  simp only [h, beq_self h, Bool.and_self, if_true, Bool.not_true]
end Cz
namespace K07
open Cz
theorem lsDs_map : ∀ xs : List D, lsDs xs = xs.map lsD
  | [] => by unfold lsDs; rfl
  | x :: r => by
    unfold lsDs
    rw [lsDs_map r]
    rfl
theorem lists_ok : ∀ (n : Nat) (d : D), depLe n d = true → ∀ N, n + 1 ≤ N → ∃ v, call mo prog N 24 [.a d] = .ok v [] ∧ fz v = .p (lsD d) := by
  intro n
  induction n with
  | zero =>
    intro d h N hN
    obtain ⟨N, rfl⟩ : ∃ q, N = q + 1 := ⟨N - 1, by omega⟩
    rw [call_s _ _ _ F__law_lists rfl]
    cases d with
    | tup xs => unfold depLe at h; cases h
    | lst xs => unfold depLe at h; cases h
    | dct _ _ => unfold depLe at h; cases h
    | _ => exact ⟨_, rfl, rfl⟩
  | succ n ih =>
    intro d h N hN
    obtain ⟨N, rfl⟩ : ∃ q, N = q + 1 := ⟨N - 1, by omega⟩
    rw [call_s _ _ _ F__law_lists rfl]
    cases d with
    | dct _ _ => unfold depLe at h; cases h
    | tup xs =>
      unfold depLe at h
      have hm := depsLe_mem h
      obtain ⟨ρ1, e1, s, rfl⟩ := lc_map (f := lcf mo (call mo prog N) [1] .nil (.call 24 (.cons (.var 1) .nil))) (fun ρ => ∃ s, ρ = [.d (.tup xs), s]) lsD xs [.d (.tup xs), .no] ⟨_, rfl⟩ (by
        rintro d hd ρ ⟨s, rfl⟩
        obtain ⟨v, hv, hf⟩ := ih d (hm d hd) N (by omega)
        refine ⟨[.d (.tup xs), .d d], ?_, _, rfl⟩
        have hc := call_ev (M := mo) (C := call mo prog N) (f := 24) (es := .cons (.var 1) .nil) (ρ := [.d (.tup xs), .d d]) (vs := [.p d]) (as := [.a d]) rfl rfl rfl hv rfl
        have hb : bindT (wipe [.d (.tup xs), s] [1]) [1] d = some [.d (.tup xs), .d d] := rfl
        unfold lcf
        rw [hb]
        simp only [evAnd, res, fz, Option.bind_some, truth, hc]
        unfold fz at hf
        rw [hf])
      refine ⟨.f (xs.map lsD), ?_, ?_⟩
      · refine run0 (ρ0 := [.d (.tup xs), .no]) (ρ := [.d (.tup xs), .no]) (ss_rt (ret_ev ?_ (by intro i h; cases h) (by intro i h; cases h))) rfl rfl (by intro i h; cases h) rfl
        refine (ifE_ev (v := .p (.bl true)) (k := true) rfl rfl).trans ?_
        rw [if_pos rfl]
        exact lc_ev (ds := xs) rfl rfl e1
      · show Val.p (.lst _) = .p (.lst (lsDs xs))
        rw [lsDs_map]
    | lst xs => exact ⟨_, rfl, rfl⟩
    | _ => exact ⟨_, rfl, rfl⟩
theorem enc_f : ∀ t : Tr, lsD (enc true t) = enc false t
  | .leaf k e => by simp [enc, row, wr, lsD, lsDs, lsDs_map, inn_t]; exact fun _ _ => rfl
  | .one k e a => by simp [enc, row, wr, lsD, lsDs, lsDs_map, inn_t, ← enc_f a]; exact fun _ _ => rfl
  | .two k e a b => by simp [enc, row, wr, lsD, lsDs, lsDs_map, inn_t, ← enc_f a, ← enc_f b]; exact fun _ _ => rfl
  | .bad d => rfl
theorem says_dep : (says.all fun s => depLe 4 s) = true := by kernel_rfl
theorem hk_dep {k : List Nat} {e : List D} {n : Nat} (h : Hk k e n) : ∀ x ∈ e, depLe 4 x = true := by
  cases h with
  | pl h => intro x m; cases m
  | de h =>
    intro x m
    rw [List.mem_singleton.mp m]
    rfl
  | sa h hk =>
    intro x m
    rw [List.mem_singleton.mp m]
    exact List.all_eq_true.mp says_dep _ h
theorem row_dep {k : List Nat} {e as : List D} {n m : Nat} (h : Hk k e n) (hm : 4 ≤ m) (ha : ∀ x ∈ as, depLe m x = true) : depLe (m + 1) (row true k e as) = true := by
  show depsLe m (.str k :: (e.map (inn true) ++ as)) = true
  rw [inn_t]
  refine depsLe_of fun x hx => ?_
  rcases List.mem_cons.mp hx with rfl | hx
  · unfold depLe; rfl
  rcases List.mem_append.mp hx with hx | hx
  · exact depLe_mono hm (hk_dep h x hx)
  · exact ha x hx
theorem enc_dep {q : Nat} (hq : 5 ≤ q) {P : D → Prop} (hP : ∀ d, P d → depLe q d = true) : ∀ {t : Tr}, Good P t → depLe (ht t + q) (enc true t) = true
  | .leaf k e, g => by
    have := row_dep (as := []) (m := 4) g (by omega) (by intro x m; cases m)
    exact depLe_mono (by simp [ht]; omega) this
  | .one k e a, g => by
    have ia := enc_dep hq hP g.2
    have := row_dep (as := [enc true a]) (m := ht a + q) g.1 (by omega) (by
      intro x m
      rw [List.mem_singleton.mp m]
      exact ia)
    exact depLe_mono (by simp [ht]; omega) this
  | .two k e a b, g => by
    have ia := enc_dep hq hP g.2.1
    have ib := enc_dep hq hP g.2.2
    have := row_dep (as := [enc true a, enc true b]) (m := max (ht a) (ht b) + q) g.1 (by omega) (by
      intro x m
      simp only [List.mem_cons, List.not_mem_nil, or_false] at m
      rcases m with rfl | rfl
      · exact depLe_mono (by omega) ia
      · exact depLe_mono (by omega) ib)
    exact depLe_mono (by simp [ht]; omega) this
  | .bad d, g => depLe_mono (by simp [ht]) (hP d g)
end K07
end
section
set_option linter.all false
set_option maxRecDepth 100000
set_option maxHeartbeats 4000000
namespace Cz
variable {M : Mo} {C : Nat → List Arg → Rc}
theorem app_ev {i : Nat} {e : E} {ρ ρ1 : Env} {v : Val} {d : D} {l0 l : Bool} {ys xs : List D} (h : evE M C e ρ = .ok v ρ1) (hv : fz v = .p d) (h0 : ρ[i]? = some (.own l0 ys)) (h1 : ρ1[i]? = some (.own l xs)) (hl : xs.length < 100000) : evS M C (.app i e) ρ = .nx (ρ1.set i (.own l (xs ++ [d]))) := by
  rw [evS, h0]
  simp only [h, hv, h1, hl, if_true]
theorem cut_to (b c : List D) : cut (b ++ c) none (some (((b ++ c).length : Int) - (c.length : Int))) = b := by
  have h : six (b ++ c).length (b ++ c).length (some (((b ++ c).length : Int) - (c.length : Int))) = b.length := by
    have h2 : ((b ++ c).length : Int) - (c.length : Int) = (b.length : Int) := by rw [List.length_append]; omega
    rw [h2]
    have : ¬ ((b.length : Int) < 0) := by omega
    unfold six
    simp only []
    rw [if_neg this, Int.toNat_natCast]
    simp only [List.length_append]
    omega
  unfold cut
  rw [h]
  simp [six]
theorem slT_ev {a b : E} {ρ ρ1 ρ2 : Env} {v w r : Val} {x : D} {i : Int} (ha : evE M C a ρ = .ok v ρ1) (hb : evE M C b ρ1 = .ok w ρ2) (hx : res ρ2 (fz v) = some x) (hy : res ρ2 (fz w) = some (.int i)) (h : slice x none (some i) = some r) : evE M C (.slT a b) ρ = .ok r ρ2 := by
  rw [evE, ha]
  simp only [hb, hx, hy, h]
end Cz
namespace K07
open Cz
/-- a thing in the place of the part with a spot -/
def putT : Tr → Nat → D → Tr
  | .leaf k e, s, b => if s = 0 then .bad b else .leaf k e
  | .one k e a, s, b => if s = 0 then .bad b else if s - 1 < sz a then .one k e (putT a (s - 1) b) else .one k e a
  | .two k e a c, s, b => if s = 0 then .bad b else if s - 1 < sz a then .two k e (putT a (s - 1) b) c else if s - 1 - sz a < sz c then .two k e a (putT c (s - 1 - sz a) b) else .two k e a c
  | .bad d, s, b => if s = 0 then .bad b else .bad d
theorem fb_lt : ∀ {t : Tr} {q : Nat}, fb t = some q → q < sz t
  | .leaf _ _, q, h => by cases h
  | .one _ _ a, q, h => by
    unfold fb at h
    obtain ⟨p, hp, rfl⟩ := Option.map_eq_some_iff.mp h
    have := fb_lt hp
    simp [sz]; omega
  | .two _ _ a b, q, h => by
    unfold fb at h
    cases ha : fb a with
    | some p =>
      rw [ha] at h
      cases h
      have := fb_lt ha
      simp [sz]; omega
    | none =>
      rw [ha] at h
      obtain ⟨p, hp, rfl⟩ := Option.map_eq_some_iff.mp h
      have := fb_lt hp
      simp [sz]; omega
  | .bad _, q, h => by
    cases h
    simp [sz]
theorem put_fb (b : D) : ∀ (t : Tr) (s : Nat), s < sz t → (∀ q, fb t = some q → s ≤ q) → fb (putT t s b) = some s
  | .leaf k e, s, h, hq => by
    have : s = 0 := by simp [sz] at h; exact h
    subst this
    rfl
  | .one k e a, s, h, hq => by
    unfold putT
    by_cases h0 : s = 0
    · rw [if_pos h0, h0]; rfl
    · simp [sz] at h
      rw [if_neg h0, if_pos (by omega)]
      unfold fb
      rw [put_fb b a (s - 1) (by omega) fun q hqa => by
        have := hq (1 + q) (by simp [fb, hqa])
        omega]
      simp; omega
  | .two k e a c, s, h, hq => by
    unfold putT
    by_cases h0 : s = 0
    · rw [if_pos h0, h0]; rfl
    · simp [sz] at h
      rw [if_neg h0]
      by_cases h1 : s - 1 < sz a
      · rw [if_pos h1]
        unfold fb
        rw [put_fb b a (s - 1) h1 fun q hqa => by
          have := hq (1 + q) (by simp [fb, hqa])
          omega]
        simp; omega
      · rw [if_neg h1, if_pos (by omega)]
        have ha : fb a = none := by
          cases hfa : fb a with
          | none => rfl
          | some q =>
            have := hq (1 + q) (by simp [fb, hfa])
            have := fb_lt hfa
            omega
        unfold fb
        rw [ha]
        simp only
        rw [put_fb b c (s - 1 - sz a) (by omega) fun q hqc => by
          have := hq (1 + sz a + q) (by simp [fb, ha, hqc])
          omega]
        simp; omega
  | .bad d, s, h, hq => by
    have : s = 0 := by simp [sz] at h; exact h
    subst this
    rfl
theorem put_good {P Q : D → Prop} (b : D) (hb : Q b) (hPQ : ∀ d, P d → Q d) : ∀ (t : Tr) (s : Nat), Good P t → Good Q (putT t s b)
  | .leaf k e, s, g => by
    unfold putT
    split
    · exact hb
    · exact g
  | .one k e a, s, g => by
    unfold putT
    split
    · exact hb
    · split
      · exact ⟨g.1, put_good b hb hPQ a _ g.2⟩
      · exact g.mono hPQ
  | .two k e a c, s, g => by
    unfold putT
    split
    · exact hb
    · split
      · exact ⟨g.1, put_good b hb hPQ a _ g.2.1, g.2.2.mono hPQ⟩
      · split
        · exact ⟨g.1, g.2.1.mono hPQ, put_good b hb hPQ c _ g.2.2⟩
        · exact g.mono hPQ
  | .bad d, s, g => by
    unfold putT
    split
    · exact hb
    · exact hPQ d g
theorem put_sz (b : D) : ∀ (t : Tr) (s : Nat), sz (putT t s b) ≤ sz t
  | .leaf k e, s => by unfold putT; split <;> simp [sz]
  | .one k e a, s => by
    unfold putT
    split
    · simp [sz]
    · split
      · have := put_sz b a (s - 1)
        simp [sz]; omega
      · simp [sz]
  | .two k e a c, s => by
    unfold putT
    split
    · simp [sz]; omega
    · split
      · have := put_sz b a (s - 1)
        simp [sz]; omega
      · split
        · have := put_sz b c (s - 1 - sz a)
          simp [sz]; omega
        · simp [sz]
  | .bad d, s => by unfold putT; split <;> simp [sz]
theorem put_ht (b : D) : ∀ (t : Tr) (s : Nat), ht (putT t s b) ≤ ht t
  | .leaf k e, s => by unfold putT; split <;> simp [ht]
  | .one k e a, s => by
    unfold putT
    split
    · simp [ht]
    · split
      · have := put_ht b a (s - 1)
        simp [ht]; omega
      · simp [ht]
  | .two k e a c, s => by
    unfold putT
    split
    · simp [ht]
    · split
      · have := put_ht b a (s - 1)
        simp [ht]; omega
      · split
        · have := put_ht b c (s - 1 - sz a)
          simp [ht]; omega
        · simp [ht]
  | .bad d, s => by unfold putT; split <;> simp [ht]
section
variable {C : Nat → List Arg → Rc}
theorem pa_turn {t x y put_ : D} {sp at_ at2 : Int} {as ps told : List D} {s6 s7 : Sl} {c c1 c2 : Bool} (h6 : fr s6 = true) (h7 : fr s7 = true) (hp : C 20 [.a x] = .ok (.f ps) []) (h1 : decide (at_ ≤ sp) = c1) (h2 : decide (sp < at_ + ps.length) = c2) (hc : (c1 && c2) = c) (hy : if c then C 21 [.a x, .a (.int (sp - at_)), .a put_] = .ok (.p y) [] else y = x) (ha : at_ + ps.length = at2) (hl : told.length < 100000) :
    turn mo C [6] b__law_put_at_4a [.d t, .d (.int sp), .d put_, .d (.lst as), .own false told, .d (.int at_), s6, s7] x = .nx [.d t, .d (.int sp), .d put_, .d (.lst as), .own false (told ++ [y]), .d (.int at2), .d x, .d (.int ps.length)] := by
  subst ha
  refine turn_ev (ρ2 := [.d t, .d (.int sp), .d put_, .d (.lst as), .own false told, .d (.int at_), .d x, s7]) (bind1 rfl h6) ?_
  refine (ss_nx (ρ1 := [.d t, .d (.int sp), .d put_, .d (.lst as), .own false told, .d (.int at_), .d x, .d (.int ps.length)]) (asg_ev (len_ev (d := .lst ps) (call_ev (vs := [.p x]) (as := [.a x]) rfl rfl rfl hp rfl) rfl rfl) (put_p rfl h7))).trans ?_
  refine (ss_nx (ρ1 := [.d t, .d (.int sp), .d put_, .d (.lst as), .own false (told ++ [y]), .d (.int at_), .d x, .d (.int ps.length)]) (app_ev (ρ1 := [.d t, .d (.int sp), .d put_, .d (.lst as), .own false told, .d (.int at_), .d x, .d (.int ps.length)]) (v := .p y) ((ifE_ev (v := .p (.bl c)) (k := c) (by rw [← hc, ← h1, ← h2]; exact and2_ev rfl rfl) rfl).trans ?_) rfl rfl rfl hl)).trans ?_
  · cases c with
    | true =>
      rw [if_pos rfl] at hy ⊢
      exact call_ev (vs := [.p x, .p (.int (sp - at_)), .p put_]) (as := [.a x, .a (.int (sp - at_)), .a put_]) rfl rfl rfl hy rfl
    | false =>
      rw [if_neg (by decide)] at hy ⊢
      rw [hy]
      rfl
  exact ss_nx rfl
theorem pa_run {t put_ : D} {sp at_ : Int} {xs as told : List D} {s6 s7 : Sl} (hz : D.beq (.int sp) (.int 0) = false) (ht : t = .tup (xs ++ as)) (ha : C 19 [.a t] = .ok (.f as) []) (hf : forTurns (turn mo C [6] b__law_put_at_4a) [.d t, .d (.int sp), .d put_, .d (.lst as), .own false xs, .d (.int 1), .no, .no] as = .nx [.d t, .d (.int sp), .d put_, .d (.lst as), .own false told, .d (.int at_), s6, s7]) : runFn mo C F__law_put_at [.a t, .a (.int sp), .a put_] = .ok (.p (.tup told)) [] := by
  refine run0 (ρ0 := [.d t, .d (.int sp), .d put_, .no, .no, .no, .no, .no]) (ρ := [.d t, .d (.int sp), .d put_, .d (.lst as), .own false told, .d (.int at_), s6, s7]) ?_ rfl rfl (by intro i h; cases h) rfl
  refine (ss_nx (ρ1 := [.d t, .d (.int sp), .d put_, .no, .no, .no, .no, .no]) ((if_ev (v := .p (.bl (D.beq (.int sp) (.int 0)))) (k := false) rfl (by rw [hz]; rfl)).trans rfl)).trans ?_
  refine (ss_nx (ρ1 := [.d t, .d (.int sp), .d put_, .own false as, .no, .no, .no, .no]) (asg_ev (call_ev (vs := [.p t]) (as := [.a t]) rfl rfl rfl ha rfl) rfl)).trans ?_
  subst ht
  refine (ss_nx (ρ1 := [.d (.tup (xs ++ as)), .d (.int sp), .d put_, .own false as, .own false xs, .no, .no, .no]) (asg_ev (ρ1 := [.d (.tup (xs ++ as)), .d (.int sp), .d put_, .own false as, .no, .no, .no, .no]) (v := .f xs) ?_ rfl)).trans ?_
  · have : evE mo C (.slT (.bor 0) (.bin .sub (.bi .len (.cons (.bor 0) .nil)) (.bi .len (.cons (.bor 3) .nil)))) [.d (.tup (xs ++ as)), .d (.int sp), .d put_, .own false as, .no, .no, .no, .no] = .ok (.p (.tup xs)) [.d (.tup (xs ++ as)), .d (.int sp), .d put_, .own false as, .no, .no, .no, .no] :=
      slT_ev (v := .p (.tup (xs ++ as))) (w := .p (.int (((xs ++ as).length : Int) - (as.length : Int)))) (x := .tup (xs ++ as)) rfl rfl rfl rfl (by simp only [slice, cut_to])
    rw [evE, evEs, this]
    rfl
  refine (ss_nx (ρ1 := [.d (.tup (xs ++ as)), .d (.int sp), .d put_, .own false as, .own false xs, .d (.int 1), .no, .no]) rfl).trans ?_
  exact (ss_nx ((for_ev (ds := as) rfl).trans hf)).trans (ss_rt rfl)
end
theorem put_zero (n : Nat) (t b : D) : call mo prog (n + 1) 21 [.a t, .a (.int 0), .a b] = .ok (.p b) [] := by
  kernel_rfl
theorem beq_ne {i : Int} (h : i ≠ 0) : D.beq (.int i) (.int 0) = false := by
  unfold D.beq
  exact beq_eq_false_iff_ne.mpr h
theorem put_ok (b : D) : ∀ (t : Tr), Lt t → ∀ (s N : Nat), s < sz t → sz t ≤ 90000 → ht t + 3 ≤ N → call mo prog N 21 [.a (enc true t), .a (.int s), .a b] = .ok (.p (enc true (putT t s b))) []
  | t, l, 0, N, hs, hz, hN => by
    obtain ⟨n, rfl⟩ : ∃ n, N = n + 1 := ⟨N - 1, by omega⟩
    have : enc true (putT t 0 b) = b := by cases t <;> rfl
    rw [this]
    exact put_zero n _ b
  | .leaf k e, l, s + 1, N, hs, hz, hN => by simp [sz] at hs
  | .one k e a, l, s + 1, N, hs, hz, hN => by
    simp [ht, sz] at hs hz hN
    obtain ⟨n, rfl⟩ : ∃ n, N = n + 1 + 1 := ⟨N - 2, by omega⟩
    have la : ((parts a).map (enc true)).length = sz a := by rw [List.length_map, parts_len]
    have ih := put_ok b a l.2 s (n + 1) (by omega) (by omega) (by omega)
    have sl : (D.str k :: e).length < 100000 := by cases l.1 <;> simp
    rw [call_s _ _ _ F__law_put_at rfl]
    have e1 := pa_turn (C := call mo prog (n + 1)) (t := enc true (.one k e a)) (x := enc true a) (y := enc true (putT a s b)) (put_ := b) (sp := (s + 1 : Nat)) (at_ := 1) (at2 := 1 + sz a) (as := [enc true a]) (told := .str k :: e) (s6 := .no) (s7 := .no) (c := true) (c1 := true) (c2 := true) rfl rfl (law_parts_ok a l.2 (n + 1) (by omega) (by omega)) (by simp; omega) (by simp [parts_len]; omega) rfl (by
      rw [if_pos rfl, show ((s + 1 : Nat) : Int) - 1 = s by omega]
      exact ih) (by rw [la]) sl
    have hp : putT (.one k e a) (s + 1) b = .one k e (putT a s b) := by
      rw [putT, if_neg (by omega), Nat.add_sub_cancel, if_pos (by omega)]
    rw [hp]
    refine (pa_run (xs := .str k :: e) (as := [enc true a]) (beq_ne (by omega)) (by simp [enc, row, wr, inn_t]) (law_arms_ok n l) ((ft_nx e1).trans ft_nil)).trans ?_
    simp [enc, row, wr, inn_t]
  | .two k e a c, l, s + 1, N, hs, hz, hN => by
    simp [ht, sz] at hs hz hN
    obtain ⟨n, rfl⟩ : ∃ n, N = n + 1 + 1 := ⟨N - 2, by omega⟩
    have la : ((parts a).map (enc true)).length = sz a := by rw [List.length_map, parts_len]
    have lc : ((parts c).map (enc true)).length = sz c := by rw [List.length_map, parts_len]
    have sl : (D.str k :: e).length < 100000 := by cases l.1 <;> simp
    have sl2 : ∀ z : D, ((D.str k :: e) ++ [z]).length < 100000 := by intro z; cases l.1 <;> simp
    rw [call_s _ _ _ F__law_put_at rfl]
    by_cases h1 : s < sz a
    · have ih := put_ok b a l.2.1 s (n + 1) h1 (by omega) (by omega)
      have e1 := pa_turn (C := call mo prog (n + 1)) (t := enc true (.two k e a c)) (x := enc true a) (y := enc true (putT a s b)) (put_ := b) (sp := (s + 1 : Nat)) (at_ := 1) (at2 := 1 + sz a) (as := [enc true a, enc true c]) (told := .str k :: e) (s6 := .no) (s7 := .no) (c := true) (c1 := true) (c2 := true) rfl rfl (law_parts_ok a l.2.1 (n + 1) (by omega) (by omega)) (by simp; omega) (by simp [parts_len]; omega) rfl (by
        rw [if_pos rfl, show ((s + 1 : Nat) : Int) - 1 = s by omega]
        exact ih) (by rw [la]) sl
      have e2 := pa_turn (C := call mo prog (n + 1)) (t := enc true (.two k e a c)) (x := enc true c) (y := enc true c) (put_ := b) (sp := (s + 1 : Nat)) (at_ := 1 + sz a) (at2 := 1 + sz a + sz c) (as := [enc true a, enc true c]) (told := (.str k :: e) ++ [enc true (putT a s b)]) (s6 := .d (enc true a)) (s7 := .d (.int ((parts a).map (enc true)).length)) (c := false) (c1 := false) (c2 := true) rfl rfl (law_parts_ok c l.2.2 (n + 1) (by omega) (by omega)) (by simp; omega) (by simp [parts_len]; omega) rfl rfl (by rw [lc]) (sl2 _)
      have hp : putT (.two k e a c) (s + 1) b = .two k e (putT a s b) c := by
        rw [putT, if_neg (by omega), Nat.add_sub_cancel, if_pos (by omega)]
      rw [hp]
      refine (pa_run (xs := .str k :: e) (as := [enc true a, enc true c]) (beq_ne (by omega)) (by simp [enc, row, wr, inn_t]) (law_arms_ok n l) ((ft_nx e1).trans ((ft_nx e2).trans ft_nil))).trans ?_
      simp [enc, row, wr, inn_t]
    · have ih := put_ok b c l.2.2 (s - sz a) (n + 1) (by omega) (by omega) (by omega)
      have e1 := pa_turn (C := call mo prog (n + 1)) (t := enc true (.two k e a c)) (x := enc true a) (y := enc true a) (put_ := b) (sp := (s + 1 : Nat)) (at_ := 1) (at2 := 1 + sz a) (as := [enc true a, enc true c]) (told := .str k :: e) (s6 := .no) (s7 := .no) (c := false) (c1 := true) (c2 := false) rfl rfl (law_parts_ok a l.2.1 (n + 1) (by omega) (by omega)) (by simp; omega) (by simp [parts_len]; omega) rfl rfl (by rw [la]) sl
      have e2 := pa_turn (C := call mo prog (n + 1)) (t := enc true (.two k e a c)) (x := enc true c) (y := enc true (putT c (s - sz a) b)) (put_ := b) (sp := (s + 1 : Nat)) (at_ := 1 + sz a) (at2 := 1 + sz a + sz c) (as := [enc true a, enc true c]) (told := (.str k :: e) ++ [enc true a]) (s6 := .d (enc true a)) (s7 := .d (.int ((parts a).map (enc true)).length)) (c := true) (c1 := true) (c2 := true) rfl rfl (law_parts_ok c l.2.2 (n + 1) (by omega) (by omega)) (by simp; omega) (by simp [parts_len]; omega) rfl (by
        rw [if_pos rfl, show ((s + 1 : Nat) : Int) - (1 + sz a) = ((s - sz a : Nat) : Int) by omega]
        exact ih) (by rw [lc]) (sl2 _)
      have hp : putT (.two k e a c) (s + 1) b = .two k e a (putT c (s - sz a) b) := by
        rw [putT, if_neg (by omega), Nat.add_sub_cancel, if_neg (by omega), if_pos (by omega)]
      rw [hp]
      refine (pa_run (xs := .str k :: e) (as := [enc true a, enc true c]) (beq_ne (by omega)) (by simp [enc, row, wr, inn_t]) (law_arms_ok n l) ((ft_nx e1).trans ((ft_nx e2).trans ft_nil))).trans ?_
      simp [enc, row, wr, inn_t]
  | .bad d, l, s + 1, N, hs, hz, hN => by simp [sz] at hs
end K07
end
section
set_option linter.all false
set_option maxRecDepth 100000
set_option maxHeartbeats 4000000
namespace Cz
variable {M : Mo} {C : Nat → List Arg → Rc}
theorem try_nx {body : Ss} {hs : Hs} {ρ ρ1 : Env} (h : evSs M C body ρ = .nx ρ1) : evS M C (.try_ body hs) ρ = .nx ρ1 := by
  rw [evS, h]
theorem try_ex {body : Ss} {hs : Hs} {ρ ρ1 : Env} {x : Exn} {r : Rs} (h : evSs M C body ρ = .ex x ρ1) (g : evHs M C hs x ρ1 = r) : evS M C (.try_ body hs) ρ = r := by
  rw [evS, h]
  exact g
theorem st_ev {e : E} {ρ ρ1 : Env} {v : Val} (h : evE M C e ρ = .ok v ρ1) : evS M C (.ex e) ρ = .nx ρ1 := by
  rw [evS, h]
theorem st_ex {e : E} {ρ ρ1 : Env} {x : Exn} (h : evE M C e ρ = .ex x ρ1) : evS M C (.ex e) ρ = .ex x ρ1 := by
  rw [evS, h]
theorem and_t {a b : E} {ρ ρ1 : Env} {r : Re} (ha : evE M C a ρ = .ok (.p (.bl true)) ρ1) (hb : evE M C b ρ1 = r) (hr : ∀ v ρ2, r = .ok v ρ2 → True) : evE M C (.and (.cons a (.cons b .nil))) ρ = r := by
  rw [evE, evAnd, ha]
  simp only [fz, res, Option.bind_some, truth, evAnd, hb]
  cases r <;> rfl
theorem and_f {a b : E} {ρ ρ1 : Env} (ha : evE M C a ρ = .ok (.p (.bl false)) ρ1) : evE M C (.and (.cons a (.cons b .nil))) ρ = .ok (.p (.bl false)) ρ1 := by
  rw [evE, evAnd, ha]
  rfl
theorem or_t {a b : E} {ρ ρ1 : Env} (ha : evE M C a ρ = .ok (.p (.bl true)) ρ1) : evE M C (.or (.cons a (.cons b .nil))) ρ = .ok (.p (.bl true)) ρ1 := by
  rw [evE, evOr, ha]
  rfl
theorem or_f {a b : E} {ρ ρ1 : Env} {r : Re} (ha : evE M C a ρ = .ok (.p (.bl false)) ρ1) (hb : evE M C b ρ1 = r) : evE M C (.or (.cons a (.cons b .nil))) ρ = r := by
  rw [evE, evOr, ha]
  simp only [fz, res, Option.bind_some, truth, evOr, hb]
  cases r <;> rfl
theorem cmp_ev {o : Cop} {a b : E} {ρ ρ1 ρ2 : Env} {v w : Val} {x y : D} {r : Bool} (ha : evE M C a ρ = .ok v ρ1) (hb : evE M C b ρ1 = .ok w ρ2) (hx : res ρ2 (fz v) = some x) (hy : res ρ2 (fz w) = some y) (h : cmpD o x y = some r) : evE M C (.cmp o a b) ρ = .ok (.p (.bl r)) ρ2 := by
  rw [evE, ha]
  simp only [hb, hx, hy, h]
theorem item_in {xs : List D} {i : Int} (h0 : 0 ≤ i) (h1 : i < xs.length) : ∃ x, item (.lst xs) (.int i) = some x ∧ item (.tup xs) (.int i) = some x ∧ x ∈ xs := by
  obtain ⟨n, rfl⟩ : ∃ n : Nat, i = n := ⟨i.toNat, by omega⟩
  have hn : n < xs.length := by omega
  refine ⟨xs[n], ?_, ?_, List.getElem_mem hn⟩ <;> simp only [item, pix_nat hn, Option.bind_some, List.getElem?_eq_getElem hn]
end Cz
namespace K07
open Cz
theorem pick_ev {n i : Nat} {ρ : Env} {l : Bool} {s : Sr} {e : E} {m : Int} (hi : ρ[i]? = some (.own l s.l)) (he : evE mo (call mo prog (n + 1)) e ρ = .ok (.p (.int m)) ρ) (hm : 0 < m) (hm2 : m < 1073741824) : evE mo (call mo prog (n + 1)) (.call 15 (.cons (.bor i) (.cons e .nil))) ρ = .ok (.p (.int (pk s m))) (ρ.set i (.own l (nx s m).l)) := by
  have h1 : evE mo (call mo prog (n + 1)) (.bor i) ρ = .ok (.b i) ρ := by
    rw [evE, hi]
  refine call_ev (es_cons h1 (es_cons he rfl)) (as := [.o s.l, .a (.int m)]) ?_ rfl (pick n s m hm hm2) ?_
  · simp [fz, args, hi]
  · simp [fz, back, hi]
theorem refusal_run {C : Nat → List Arg → Rc} {w : Int} {f : Nat} {t v : D} (h : (w, f) ∈ [((0 : Int), 10), (1, 13), (2, 8)]) (hc : C f [.a t] = .ok (.p v) []) : runFn mo C F__law_refusal [.a (.int w), .a t] = .ok (.p .non) [] := by
  refine run0 (ρ0 := [.d (.int w), .d t, .no]) (ρ := [.d (.int w), .d t, .no]) ?_ rfl rfl (by intro i h; cases h) rfl
  refine (ss_nx (ρ1 := [.d (.int w), .d t, .no]) (try_nx ?_)).trans (ss_rt rfl)
  simp only [List.mem_cons, List.not_mem_nil, or_false, Prod.mk.injEq] at h
  rcases h with ⟨rfl, rfl⟩ | ⟨rfl, rfl⟩ | ⟨rfl, rfl⟩
  · refine ss_nx ((if_ev (v := .p (.bl true)) (k := true) rfl rfl).trans ?_)
    rw [if_pos rfl]
    exact ss_nx (st_ev (call_ev (vs := [.p t]) (as := [.a t]) rfl rfl rfl hc rfl))
  · refine ss_nx ((if_ev (v := .p (.bl false)) (k := false) rfl rfl).trans ?_)
    rw [if_neg (by decide)]
    refine ss_nx ((if_ev (v := .p (.bl true)) (k := true) rfl rfl).trans ?_)
    rw [if_pos rfl]
    exact ss_nx (st_ev (call_ev (vs := [.p t]) (as := [.a t]) rfl rfl rfl hc rfl))
  · refine ss_nx ((if_ev (v := .p (.bl false)) (k := false) rfl rfl).trans ?_)
    rw [if_neg (by decide)]
    refine ss_nx ((if_ev (v := .p (.bl false)) (k := false) rfl rfl).trans ?_)
    rw [if_neg (by decide)]
    exact ss_nx (st_ev (call_ev (vs := [.p t]) (as := [.a t]) rfl rfl rfl hc rfl))
theorem refusal_run_ex {C : Nat → List Arg → Rc} {w : Int} {f : Nat} {t d : D} (h : (w, f) ∈ [((0 : Int), 10), (1, 13), (2, 8)]) (hc : C f [.a t] = .ex ⟨2, d⟩ []) : runFn mo C F__law_refusal [.a (.int w), .a t] = .ok (.p d) [] := by
  refine run0 (ρ0 := [.d (.int w), .d t, .no]) (ρ := [.d (.int w), .d t, .exn ⟨2, d⟩]) ?_ rfl rfl (by intro i h; cases h) rfl
  refine ss_rt (try_ex (ρ1 := [.d (.int w), .d t, .no]) (x := ⟨2, d⟩) ?_ rfl)
  simp only [List.mem_cons, List.not_mem_nil, or_false, Prod.mk.injEq] at h
  rcases h with ⟨rfl, rfl⟩ | ⟨rfl, rfl⟩ | ⟨rfl, rfl⟩
  · refine ss_ex ((if_ev (v := .p (.bl true)) (k := true) rfl rfl).trans ?_)
    rw [if_pos rfl]
    exact ss_ex (st_ex (call_ex (vs := [.p t]) (as := [.a t]) rfl rfl rfl hc rfl))
  · refine ss_ex ((if_ev (v := .p (.bl false)) (k := false) rfl rfl).trans ?_)
    rw [if_neg (by decide)]
    refine ss_ex ((if_ev (v := .p (.bl true)) (k := true) rfl rfl).trans ?_)
    rw [if_pos rfl]
    exact ss_ex (st_ex (call_ex (vs := [.p t]) (as := [.a t]) rfl rfl rfl hc rfl))
  · refine ss_ex ((if_ev (v := .p (.bl false)) (k := false) rfl rfl).trans ?_)
    rw [if_neg (by decide)]
    refine ss_ex ((if_ev (v := .p (.bl false)) (k := false) rfl rfl).trans ?_)
    rw [if_neg (by decide)]
    exact ss_ex (st_ex (call_ex (vs := [.p t]) (as := [.a t]) rfl rfl rfl hc rfl))
def W3 (w : Int) : Prop := w = 0 ∨ w = 1 ∨ w = 2
theorem refusal_ok {w : Int} (hw : W3 w) (t : Tr) (r : Rt t) (m : Bool) (N : Nat) (h1 : ht t ≤ 20) (h2 : sz t ≤ 60) (h3 : ht t + 12 ≤ N) : call mo prog N 26 [.a (.int w), .a (enc m t)] = .ok (.p .non) [] := by
  obtain ⟨n, rfl⟩ : ∃ n, N = n + 1 := ⟨N - 1, by omega⟩
  rw [call_s _ _ _ F__law_refusal rfl]
  rcases hw with rfl | rfl | rfl
  · exact refusal_run (f := 10) (by simp) (parts_ok t r m n h1 h2 (by omega))
  · exact refusal_run (f := 13) (by simp) (followers_ok t r m n h1 h2 (by omega))
  · have hc := checked_ok t (Rt.ok r) m n h1 h2 (by omega)
    rw [rt_fb r] at hc
    exact refusal_run (f := 8) (by simp) hc
theorem refusal_bad {w : Int} (hw : W3 w) (t : Tr) (ok : Ok t) {k : Nat} (hk : fb t = some k) (m : Bool) (N : Nat) (h1 : ht t ≤ 20) (h2 : sz t ≤ 60) (h3 : ht t + 12 ≤ N) : call mo prog N 26 [.a (.int w), .a (enc m t)] = .ok (.p (.int k)) [] := by
  obtain ⟨n, rfl⟩ : ∃ n, N = n + 1 := ⟨N - 1, by omega⟩
  rw [call_s _ _ _ F__law_refusal rfl]
  rcases hw with rfl | rfl | rfl
  · exact refusal_run_ex (f := 10) (by simp) (parts_bad t ok hk m n h1 h2 (by omega))
  · exact refusal_run_ex (f := 13) (by simp) (followers_bad t ok hk m n h1 h2 (by omega))
  · have hc := checked_ok t ok m n h1 h2 (by omega)
    rw [hk] at hc
    exact refusal_run_ex (f := 8) (by simp) hc
/-! ### wrong parts -/
def wrongs (o : D) : List D := [.non, .tup [], .s "pass", .tup [.s "deed"], .tup [.s "deed", .s "pass"], .tup [.s "deed", .s "a", .s "b"], .tup [.s "need", .tup [.s "fact", .int 3]], .tup [.s "both", o],
  .tup [.s "then", o], .tup [.s "own", o, o, o], .tup [.s "while", o, o], .tup [.s "more"], .tup [.s "if", .tup [.s "yes"], o],
  .tup [.s "pass", o], .tup [.s "win", .int 1], .tup [.s "deed", .s "Ab"], .tup [.s "need"], .tup [.s "grant", .tup [.s "and", .tup [.s "yes"]]],
  .tup [o], .tup [.s "each", o, o]]
theorem while_no {k : List Nat} {e as : List D} (h : Hk k e as.length) : NoHead (.tup [.s "while", row true k e as, row true k e as]) := by
  intro n m
  generalize hl : as.length = l at h
  cases h with
  | pl h =>
    simp only [plainKd, List.mem_cons, List.not_mem_nil, or_false, Prod.mk.injEq] at h
    rcases h with ⟨rfl, ha⟩ | ⟨rfl, ha⟩ | ⟨rfl, ha⟩ | ⟨rfl, ha⟩ | ⟨rfl, ha⟩ | ⟨rfl, ha⟩ | ⟨rfl, ha⟩ | ⟨rfl, ha⟩ <;> rw [ha] at hl
    iterate 3 (rw [List.length_eq_zero_iff.mp hl]; cases m <;> kernel_rfl)
    iterate 2 (obtain ⟨a, rfl⟩ := List.length_eq_one_iff.mp hl; cases m <;> kernel_rfl)
    iterate 3 (obtain ⟨a, b, rfl⟩ := len2 hl; cases m <;> kernel_rfl)
  | de h => rw [List.length_eq_zero_iff.mp hl]; cases m <;> kernel_rfl
  | sa h hk =>
    simp only [sayKd, List.mem_cons, List.not_mem_nil, or_false, Prod.mk.injEq] at hk
    rcases hk with ⟨rfl, ha⟩ | ⟨rfl, ha⟩ | ⟨rfl, ha⟩ | ⟨rfl, ha⟩ <;> rw [ha] at hl
    iterate 2 (rw [List.length_eq_zero_iff.mp hl]; cases m <;> kernel_rfl)
    iterate 1 (obtain ⟨a, rfl⟩ := List.length_eq_one_iff.mp hl; cases m <;> kernel_rfl)
    iterate 1 (obtain ⟨a, b, rfl⟩ := len2 hl; cases m <;> kernel_rfl)
theorem wrong_no_tup (xs : List D) (hw : NoHead (.tup [.s "while", .tup xs, .tup xs])) : ∀ w ∈ wrongs (.tup xs), NoHead w := by
  intro w h
  simp only [wrongs, List.mem_cons, List.not_mem_nil, or_false] at h
  rcases h with rfl | rfl | rfl | rfl | rfl | rfl | rfl | rfl | rfl | rfl | rfl | rfl | rfl | rfl | rfl | rfl | rfl | rfl | rfl | rfl <;> first | exact hw | (intro n m; cases m <;> kernel_rfl)
theorem wrong_no : ∀ {t : Tr}, Rt t → ∀ w ∈ wrongs (enc true t), NoHead w
  | .leaf k e, r => wrong_no_tup _ (while_no (as := []) r)
  | .one k e a, r => wrong_no_tup _ (while_no (as := [enc true a]) r.1)
  | .two k e a b, r => wrong_no_tup _ (while_no (as := [enc true a, enc true b]) r.1)
  | .bad _, r => r.elim
theorem both_no : NoHead both := by
  intro n m
  cases m <;> kernel_rfl
theorem wrong_dep {o : D} {n : Nat} (hn : 3 ≤ n) (h : depLe n o = true) : ∀ w ∈ wrongs o, depLe (n + 1) w = true := by
  intro w hw
  obtain ⟨n, rfl⟩ : ∃ q, n = q + 3 := ⟨n - 3, by omega⟩
  simp only [wrongs, List.mem_cons, List.not_mem_nil, or_false] at hw
  rcases hw with rfl | rfl | rfl | rfl | rfl | rfl | rfl | rfl | rfl | rfl | rfl | rfl | rfl | rfl | rfl | rfl | rfl | rfl | rfl | rfl <;> simp [depLe, depsLe, h]
theorem wrong_ok (n : Nat) (s : Sr) (o : D) : ∃ (w : D) (s' : Sr), call mo prog (n + 2) 27 [.o s.l, .a o] = .ok (.p w) [s'.l] ∧ w ∈ wrongs o := by
  obtain ⟨p0, p1⟩ := pk_lt s 20 (by decide)
  obtain ⟨w, hw, _, mw⟩ := item_in (xs := wrongs o) (i := pk s 20) p0 (by exact p1)
  refine ⟨w, nx s 20, ?_, mw⟩
  rw [call_s _ _ _ F__law_wrong rfl]
  refine run0 (ρ0 := [.own true s.l, .d o, .no]) (ρ := [.own true (nx s 20).l, .d o, .own false (wrongs o)]) ?_ rfl rfl (by intro i h; cases h) rfl
  refine (show evSs mo (call mo prog (n + 1)) b__law_wrong [.own true s.l, .d o, .no] = evSs mo (call mo prog (n + 1)) b__law_wrong_4 [.own true s.l, .d o, .own false (wrongs o)] from rfl).trans ?_
  exact ss_rt (ret_ev (ix_ev (v := .b 2) (w := .p (.int (pk s 20))) (y := .int (pk s 20)) (x := .lst (wrongs o)) rfl (pick_ev (m := 20) (i := 0) rfl rfl (by decide) (by decide)) rfl rfl hw) (by intro i h; cases h) (by intro i h; cases h))
end K07
end
section
set_option linter.all false
set_option maxRecDepth 100000
set_option maxHeartbeats 4000000
namespace Cz
variable {M : Mo} {C : Nat → List Arg → Rc}
theorem tup_ev {es : Es} {ρ ρ1 : Env} {vs : List Val} {ds : List D} (h : evEs M C es ρ = .ok vs ρ1) (hd : ress ρ1 vs = some ds) (hb : noB vs = true) : evE M C (.tup es) ρ = .ok (.p (.tup ds)) ρ1 := by
  rw [evE, h]
  simp only [hd, hb, if_true]
theorem if_t {t : E} {a b : Ss} {ρ ρ1 : Env} {r : Rs} (h : evE M C t ρ = .ok (.p (.bl true)) ρ1) (g : evSs M C a ρ1 = r) : evS M C (.ife t a b) ρ = r := by
  have := if_ev (a := a) (b := b) h (k := true) rfl
  rw [this, if_pos rfl, g]
theorem if_f {t : E} {a b : Ss} {ρ ρ1 : Env} {r : Rs} (h : evE M C t ρ = .ok (.p (.bl false)) ρ1) (g : evSs M C b ρ1 = r) : evS M C (.ife t a b) ρ = r := by
  have := if_ev (a := a) (b := b) h (k := false) rfl
  rw [this, if_neg (by decide), g]
theorem ifE_t {t a b : E} {ρ ρ1 : Env} {r : Re} (h : evE M C t ρ = .ok (.p (.bl true)) ρ1) (g : evE M C a ρ1 = r) : evE M C (.ife t a b) ρ = r := by
  have := ifE_ev (a := a) (b := b) h (k := true) rfl
  rw [this, if_pos rfl, g]
theorem ifE_f {t a b : E} {ρ ρ1 : Env} {r : Re} (h : evE M C t ρ = .ok (.p (.bl false)) ρ1) (g : evE M C b ρ1 = r) : evE M C (.ife t a b) ρ = r := by
  have := ifE_ev (a := a) (b := b) h (k := false) rfl
  rw [this, if_neg (by decide), g]
theorem bor_lt {i : Nat} {k q : Int} {ρ : Env} {b : Bool} (h : ρ[i]? = some (.d (.int k))) (hd : decide (k < q) = b) : evE M C (.cmp .lt (.bor i) (.c (.int q))) ρ = .ok (.p (.bl b)) ρ := by
  have hb : evE M C (.bor i) ρ = .ok (.p (.int k)) ρ := by rw [evE, h]
  exact cmp_ev hb rfl rfl rfl (by rw [← hd]; rfl)
theorem bor_eq {i : Nat} {k q : Int} {ρ : Env} {b : Bool} (h : ρ[i]? = some (.d (.int k))) (hd : D.beq (.int k) (.int q) = b) : evE M C (.cmp .eq (.bor i) (.c (.int q))) ρ = .ok (.p (.bl b)) ρ := by
  have hb : evE M C (.bor i) ρ = .ok (.p (.int k)) ρ := by rw [evE, h]
  exact cmp_ev hb rfl rfl rfl (by rw [← hd]; rfl)
theorem cut_mem {α : Type} {xs : List α} {lo hi : Option Int} {x : α} (h : x ∈ cut xs lo hi) : x ∈ xs := List.mem_of_mem_drop (List.mem_of_mem_take h)
theorem cut_len {α : Type} {xs : List α} {lo hi : Option Int} : (cut xs lo hi).length ≤ xs.length := by
  unfold cut
  rw [List.length_take, List.length_drop]
  omega
theorem beq_f {i j : Int} (h : i ≠ j) : D.beq (.int i) (.int j) = false := by
  unfold D.beq
  exact beq_eq_false_iff_ne.mpr h
theorem beq_t (i : Int) : D.beq (.int i) (.int i) = true := by
  unfold D.beq
  exact beq_self_eq_true _
end Cz
namespace K07
open Cz
def rowIn (ok : List (List Nat)) (d : D) : Bool := match d with
  | .tup R => R.all (fun x => match x with | .str f => ok.contains f | _ => false) && decide (R.length ≤ 3)
  | _ => false
theorem rowIn_ok {ok : List (List Nat)} {d : D} (h : rowIn ok d = true) : ∃ R, d = .tup R ∧ (∀ x ∈ R, ∃ f ∈ ok, x = .str f) ∧ R.length ≤ 3 := by
  cases d <;> first | (cases h; done) | skip
  rename_i R
  unfold rowIn at h
  rw [Bool.and_eq_true] at h
  refine ⟨R, rfl, fun x m => ?_, of_decide_eq_true h.2⟩
  have := List.all_eq_true.mp h.1 x m
  cases x <;> first | (cases this; done) | skip
  rename_i f
  exact ⟨f, List.contains_iff_mem.mp this, rfl⟩
def factMenu : List D := [.tup [.s "p", .s "q", .s "r"], .tup [.s "wet", .s "p", .s "dusk"], .tup [.s "q", .s "p", .s "z"], .tup [.s "paid", .s "kept", .s "x"], .tup [.s "r", .s "p", .s "q"]]
def deedMenu : List D := [.tup [.s "a", .s "b", .s "c"], .tup [.s "a", .s "carry", .s "d"], .tup [.s "aa", .s "b", .s "send"], .tup [.s "b", .s "bb", .s "c"], .tup [.s "a", .s "b", .s "c"]]
theorem factMenu_ok : (factMenu.all (rowIn facts)) = true := by kernel_rfl
theorem deedMenu_ok : (deedMenu.all (rowIn names)) = true := by kernel_rfl
theorem fact_names_ok (n : Nat) (s : Sr) (m : Int) : ∃ (F : List D) (s' : Sr), call mo prog (n + 2) 22 [.o s.l, .a (.int m)] = .ok (.p (.tup F)) [s'.l] ∧ (∀ x ∈ F, ∃ f ∈ facts, x = .str f) ∧ F.length ≤ 3 := by
  obtain ⟨p0, p1⟩ := pk_lt s 5 (by decide)
  obtain ⟨w, hw, _, mw⟩ := item_in (xs := factMenu) (i := pk s 5) p0 (by exact p1)
  obtain ⟨R, rfl, hR, lR⟩ := rowIn_ok (List.all_eq_true.mp factMenu_ok w mw)
  refine ⟨cut R none (some m), nx s 5, ?_, fun x hx => hR x (cut_mem hx), Nat.le_trans cut_len lR⟩
  rw [call_s _ _ _ F__law_fact_names rfl]
  refine run0 (ρ0 := [.own true s.l, .d (.int m), .no]) (ρ := [.own true (nx s 5).l, .d (.int m), .own false factMenu]) ?_ rfl rfl (by intro i h; cases h) rfl
  refine (ss_nx (ρ1 := [.own true s.l, .d (.int m), .own false factMenu]) rfl).trans ?_
  exact ss_rt (ret_ev (slT_ev (w := .p (.int m)) (x := .tup R) (i := m) (ix_ev (v := .b 2) (w := .p (.int (pk s 5))) (y := .int (pk s 5)) (x := .lst factMenu) rfl (pick_ev (m := 5) (i := 0) rfl rfl (by decide) (by decide)) rfl rfl hw) rfl rfl rfl rfl) (by intro i h; cases h) (by intro i h; cases h))
theorem deed_names_ok (n : Nat) (s : Sr) (m : Int) : ∃ (F : List D) (s' : Sr), call mo prog (n + 2) 23 [.o s.l, .a (.int m)] = .ok (.p (.tup F)) [s'.l] ∧ (∀ x ∈ F, ∃ f ∈ names, x = .str f) ∧ F.length ≤ 3 := by
  obtain ⟨p0, p1⟩ := pk_lt s 5 (by decide)
  obtain ⟨w, hw, _, mw⟩ := item_in (xs := deedMenu) (i := pk s 5) p0 (by exact p1)
  obtain ⟨R, rfl, hR, lR⟩ := rowIn_ok (List.all_eq_true.mp deedMenu_ok w mw)
  refine ⟨cut R none (some m), nx s 5, ?_, fun x hx => hR x (cut_mem hx), Nat.le_trans cut_len lR⟩
  rw [call_s _ _ _ F__law_deed_names rfl]
  refine run0 (ρ0 := [.own true s.l, .d (.int m), .no]) (ρ := [.own true (nx s 5).l, .d (.int m), .own false deedMenu]) ?_ rfl rfl (by intro i h; cases h) rfl
  refine (ss_nx (ρ1 := [.own true s.l, .d (.int m), .own false deedMenu]) rfl).trans ?_
  exact ss_rt (ret_ev (slT_ev (w := .p (.int m)) (x := .tup R) (i := m) (ix_ev (v := .b 2) (w := .p (.int (pk s 5))) (y := .int (pk s 5)) (x := .lst deedMenu) rfl (pick_ev (m := 5) (i := 0) rfl rfl (by decide) (by decide)) rfl rfl hw) rfl rfl rfl rfl) (by intro i h; cases h) (by intro i h; cases h))
/-- names of facts -/
def FN (F : List D) : Prop := (∀ x ∈ F, ∃ f ∈ facts, x = .str f) ∧ F.length ≤ 3
def DN (F : List D) : Prop := (∀ x ∈ F, ∃ f ∈ names, x = .str f) ∧ F.length ≤ 3
/-- a test of a pick against a number -/
theorem pick_is {n i : Nat} {ρ : Env} {l : Bool} {s : Sr} {m q : Int} (hi : ρ[i]? = some (.own l s.l)) (hm : 0 < m) (hm2 : m < 1073741824) : evE mo (call mo prog (n + 1)) (.cmp .eq (.call 15 (.cons (.bor i) (.cons (.c (.int m)) .nil))) (.c (.int q))) ρ = .ok (.p (.bl (D.beq (.int (pk s m)) (.int q)))) (ρ.set i (.own l (nx s m).l)) :=
  cmp_ev (pick_ev (m := m) hi rfl hm hm2) rfl rfl rfl rfl
/-- one of the pick's -/
theorem pick_if {n i : Nat} {ρ : Env} {l : Bool} {s : Sr} {m : Int} {a b : E} {x y : D} (hi : ρ[i]? = some (.own l s.l)) (hm : 0 < m) (hm2 : m < 1073741824) (ha : ∀ ρ, evE mo (call mo prog (n + 1)) a ρ = .ok (.p x) ρ) (hb : ∀ ρ, evE mo (call mo prog (n + 1)) b ρ = .ok (.p y) ρ) : ∃ z, evE mo (call mo prog (n + 1)) (.ife (.call 15 (.cons (.bor i) (.cons (.c (.int m)) .nil))) a b) ρ = .ok (.p z) (ρ.set i (.own l (nx s m).l)) ∧ (z = x ∨ z = y) := by
  have h := ifE_ev (a := a) (b := b) (pick_ev (n := n) (e := .c (.int m)) (m := m) hi rfl hm hm2) (k := (pk s m != 0)) rfl
  cases hz : (pk s m != 0) with
  | true =>
    rw [hz, if_pos rfl, ha] at h
    exact ⟨x, h, .inl rfl⟩
  | false =>
    rw [hz, if_neg (by decide), hb] at h
    exact ⟨y, h, .inr rfl⟩
theorem len_ne {x : D} {F : List D} : D.beq (.int ((x :: F).length : Int)) (.int 0) = false := beq_f (by simp; omega)
/-- an item drawn -/
theorem pick_item {n i j : Nat} {ρ : Env} {l : Bool} {s : Sr} {F : List D} (hij : j ≠ i) (hF : F ≠ []) (hl : F.length ≤ 1000) (hi : ρ[i]? = some (.own l s.l)) (hj : ρ[j]? = some (.d (.tup F))) : ∃ x ∈ F, ∃ s' : Sr, evE mo (call mo prog (n + 1)) (.ix (.bor j) (.call 15 (.cons (.bor i) (.cons (.bi .len (.cons (.bor j) .nil)) .nil)))) ρ = .ok (.p x) (ρ.set i (.own l s'.l)) := by
  have hp : 0 < (F.length : Int) := by
    cases F with
    | nil => exact absurd rfl hF
    | cons a r => rw [List.length_cons]; omega
  obtain ⟨p0, p1⟩ := pk_lt s F.length hp
  obtain ⟨x, _, hx, mx⟩ := item_in p0 p1
  refine ⟨x, mx, nx s F.length, ?_⟩
  have hb : ∀ ρ : Env, ρ[j]? = some (.d (.tup F)) → evE mo (call mo prog (n + 1)) (.bor j) ρ = .ok (.p (.tup F)) ρ := by
    intro ρ h
    rw [evE, h]
  exact ix_ev (v := .p (.tup F)) (w := .p (.int (pk s F.length))) (hb ρ hj) (pick_ev (m := F.length) hi (len_ev (hb ρ hj) rfl rfl) hp (by omega)) rfl rfl hx
theorem say_top (n : Nat) (s : Sr) (F : List D) (hF : FN F) (dep m : Int) (hm : 0 < m) (hm2 : m ≤ 7) (he : ∀ C, evE mo C (.ife (.cmp .gt (.bor 2) (.c (.int 0))) (.c (.int 7)) (.c (.int 4))) [.own true s.l, .d (.tup F), .d (.int dep), .no, .no] = .ok (.p (.int m)) [.own true s.l, .d (.tup F), .d (.int dep), .no, .no]) :
    (∃ (x : D) (s' : Sr) (k : Int), evSs mo (call mo prog (n + 1)) b__law_say [.own true s.l, .d (.tup F), .d (.int dep), .no, .no] = .rt (.p x) [.own true s'.l, .d (.tup F), .d (.int dep), .d (.int k), .no] ∧ x ∈ say0) ∨
    (∃ (s' : Sr) (k : Int), 4 ≤ k ∧ k < m ∧ evSs mo (call mo prog (n + 1)) b__law_say [.own true s.l, .d (.tup F), .d (.int dep), .no, .no] = evSs mo (call mo prog (n + 1)) b__law_say_3 [.own true s'.l, .d (.tup F), .d (.int dep), .d (.int k), .no]) := by
  obtain ⟨k0, k1⟩ := pk_lt s m hm
  generalize hk : pk s m = k at k0 k1
  have h0 : evS mo (call mo prog (n + 1)) (.asg 3 (.call 15 (.cons (.bor 0) (.cons (.ife (.cmp .gt (.bor 2) (.c (.int 0))) (.c (.int 7)) (.c (.int 4))) .nil)))) [.own true s.l, .d (.tup F), .d (.int dep), .no, .no] = .nx [.own true (nx s m).l, .d (.tup F), .d (.int dep), .d (.int k), .no] := by
    rw [← hk]
    exact asg_ev (pick_ev (m := m) (i := 0) rfl (he _) hm (by omega)) rfl
  generalize nx s m = s1 at h0
  have hc : ∃ (s2 : Sr) (c : Bool), evE mo (call mo prog (n + 1)) (.or (.cons (.cmp .eq (.bi .len (.cons (.bor 1) .nil)) (.c (.int 0))) (.cons (.and (.cons (.cmp .eq (.bor 3) (.c (.int 3))) (.cons (.cmp .eq (.call 15 (.cons (.bor 0) (.cons (.c (.int 4)) .nil))) (.c (.int 2))) .nil))) .nil))) [.own true s1.l, .d (.tup F), .d (.int dep), .d (.int k), .no] = .ok (.p (.bl c)) [.own true s2.l, .d (.tup F), .d (.int dep), .d (.int k), .no] ∧ (c = false → F ≠ []) := by
    cases F with
    | nil => exact ⟨s1, true, or_t rfl, nofun⟩
    | cons f R =>
      have a1 : evE mo (call mo prog (n + 1)) (.cmp .eq (.bi .len (.cons (.bor 1) .nil)) (.c (.int 0))) [.own true s1.l, .d (.tup (f :: R)), .d (.int dep), .d (.int k), .no] = .ok (.p (.bl false)) [.own true s1.l, .d (.tup (f :: R)), .d (.int dep), .d (.int k), .no] := by
        rw [← len_ne (x := f) (F := R)]
        rfl
      by_cases h3 : k = 3
      · refine ⟨nx s1 4, D.beq (.int (pk s1 4)) (.int 2), or_f a1 (and_t ?_ (pick_is (ρ := [.own true s1.l, .d (.tup (f :: R)), .d (.int dep), .d (.int k), .no]) (l := true) (s := s1) (i := 0) (m := 4) rfl (by decide) (by decide)) (fun _ _ _ => trivial)), fun _ => List.cons_ne_nil _ _⟩
        rw [h3]
        rfl
      · refine ⟨s1, false, or_f a1 (and_f ?_), fun _ => List.cons_ne_nil _ _⟩
        rw [← beq_f h3]
        rfl
  obtain ⟨s2, c, hc, hcF⟩ := hc
  cases c with
  | true =>
    obtain ⟨z, hz, hzz⟩ := pick_if (n := n) (i := 0) (ρ := [.own true s2.l, .d (.tup F), .d (.int dep), .d (.int k), .no]) (l := true) (s := s2) (m := 2) (a := .tup (.cons (.c (.s "yes")) .nil)) (b := .tup (.cons (.c (.s "no")) .nil)) rfl (by decide) (by decide) (fun _ => rfl) (fun _ => rfl)
    refine .inl ⟨z, nx s2 2, k, ?_, ?_⟩
    · refine (ss_nx h0).trans (ss_rt ((if_ev hc rfl).trans ?_))
      rw [if_pos rfl]
      exact ss_rt (ret_ev hz (by intro i h; cases h) (by intro i h; cases h))
    · rcases hzz with rfl | rfl
      · exact List.mem_append_left _ (by simp)
      · exact List.mem_append_left _ (by simp)
  | false =>
    have h1 := if_ev (M := mo) (C := call mo prog (n + 1)) (a := b__law_say_1a) (b := .nil) hc (k := false) rfl
    rw [if_neg (by decide)] at h1
    by_cases h4 : k < 4
    · obtain ⟨x, mx, s3, hx⟩ := pick_item (n := n) (i := 0) (j := 1) (ρ := [.own true s2.l, .d (.tup F), .d (.int dep), .d (.int k), .no]) (l := true) (s := s2) (F := F) (by decide) (hcF rfl) (by have := hF.2; omega) rfl rfl
      obtain ⟨f, mf, rfl⟩ := hF.1 x mx
      refine .inl ⟨.tup [.s "fact", .str f], s3, k, ?_, ?_⟩
      · refine (ss_nx h0).trans ((ss_nx h1).trans (ss_rt (if_t (bor_lt (i := 3) rfl (decide_eq_true h4)) ?_)))
        exact ss_rt (ret_ev (tup_ev (es_cons (v := .p (.s "fact")) rfl (es_cons (v := .p (.str f)) hx rfl)) rfl rfl) (by intro i h; cases h) (by intro i h; cases h))
      · exact List.mem_append_right _ (List.mem_map.mpr ⟨f, mf, rfl⟩)
    · refine .inr ⟨s2, k, by omega, k1, ?_⟩
      exact (ss_nx h0).trans ((ss_nx h1).trans (ss_nx (if_f (bor_lt (i := 3) rfl (decide_eq_false h4)) rfl)))
theorem say0_ok (n : Nat) (s : Sr) (F : List D) (hF : FN F) : ∃ (x : D) (s' : Sr), call mo prog (n + 2) 16 [.o s.l, .a (.tup F), .a (.int 0)] = .ok (.p x) [s'.l] ∧ x ∈ say0 := by
  rcases say_top n s F hF 0 4 (by decide) (by decide) (fun _ => rfl) with ⟨x, s', k, hx, mx⟩ | ⟨s', k, h4, h5, _⟩
  · refine ⟨x, s', ?_, mx⟩
    rw [call_s _ _ _ F__law_say rfl]
    exact run0 (ρ0 := [.own true s.l, .d (.tup F), .d (.int 0), .no, .no]) hx rfl rfl (by intro i h; cases h) rfl
  · omega
theorem say1_ok (n : Nat) (s : Sr) (F : List D) (hF : FN F) : ∃ (x : D) (s' : Sr), call mo prog (n + 3) 16 [.o s.l, .a (.tup F), .a (.int 1)] = .ok (.p x) [s'.l] ∧ x ∈ says := by
  rw [call_s _ _ _ F__law_say rfl]
  rcases say_top (n + 1) s F hF 1 7 (by decide) (by decide) (fun _ => rfl) with ⟨x, s', k, hx, mx⟩ | ⟨s1, k, h4, h5, hb⟩
  · refine ⟨x, s', ?_, ?_⟩
    · exact run0 (ρ0 := [.own true s.l, .d (.tup F), .d (.int 1), .no, .no]) hx rfl rfl (by intro i h; cases h) rfl
    · exact List.mem_append_left _ (List.mem_append_left _ (List.mem_append_left _ mx))
  · obtain ⟨a, s2, ha, ma⟩ := say0_ok n s1 F hF
    have h3 : evS mo (call mo prog (n + 1 + 1)) (.asg 4 (.call 16 (.cons (.bor 0) (.cons (.var 1) (.cons (.bin .sub (.bor 2) (.c (.int 1))) .nil))))) [.own true s1.l, .d (.tup F), .d (.int 1), .d (.int k), .no] = .nx [.own true s2.l, .d (.tup F), .d (.int 1), .d (.int k), .d a] :=
      asg_ev (call_ev (vs := [.b 0, .p (.tup F), .p (.int 0)]) (as := [.o s1.l, .a (.tup F), .a (.int 0)]) rfl rfl rfl ha rfl) rfl
    obtain ⟨b, s3, hb2, mb⟩ := say0_ok n s2 F hF
    have hr : evE mo (call mo prog (n + 1 + 1)) (.call 16 (.cons (.bor 0) (.cons (.var 1) (.cons (.bin .sub (.bor 2) (.c (.int 1))) .nil)))) [.own true s2.l, .d (.tup F), .d (.int 1), .d (.int k), .d a] = .ok (.p b) [.own true s3.l, .d (.tup F), .d (.int 1), .d (.int k), .d a] :=
      call_ev (vs := [.b 0, .p (.tup F), .p (.int 0)]) (as := [.o s2.l, .a (.tup F), .a (.int 0)]) rfl rfl rfl hb2 rfl
    have : k = 4 ∨ k = 5 ∨ k = 6 := by omega
    rcases this with rfl | rfl | rfl
    · refine ⟨.tup [.s "not", a], s2, ?_, ?_⟩
      · exact run0 (ρ0 := [.own true s.l, .d (.tup F), .d (.int 1), .no, .no]) (hb.trans ((ss_nx h3).trans (ss_rt rfl))) rfl rfl (by intro i h; cases h) rfl
      · exact List.mem_append_left _ (List.mem_append_left _ (List.mem_append_right _ (List.mem_map.mpr ⟨a, ma, rfl⟩)))
    · refine ⟨.tup [.s "and", a, b], s3, ?_, ?_⟩
      · refine run0 (ρ0 := [.own true s.l, .d (.tup F), .d (.int 1), .no, .no]) (ρ := [.own true s3.l, .d (.tup F), .d (.int 1), .d (.int 5), .d a]) (hb.trans ((ss_nx h3).trans (ss_rt (ret_ev ((ifE_ev (v := .p (.bl false)) (k := false) rfl rfl).trans ?_) (by intro i h; cases h) (by intro i h; cases h))))) rfl rfl (by intro i h; cases h) rfl
        rw [if_neg (by decide)]
        exact tup_ev (es_cons (v := .p (.s "and")) rfl (es_cons (v := .p a) rfl (es_cons (v := .p b) hr rfl))) rfl rfl
      · exact List.mem_append_left _ (List.mem_append_right _ (List.mem_flatMap.mpr ⟨a, ma, List.mem_map.mpr ⟨b, mb, rfl⟩⟩))
    · refine ⟨.tup [.s "or", a, b], s3, ?_, ?_⟩
      · refine run0 (ρ0 := [.own true s.l, .d (.tup F), .d (.int 1), .no, .no]) (ρ := [.own true s3.l, .d (.tup F), .d (.int 1), .d (.int 6), .d a]) (hb.trans ((ss_nx h3).trans (ss_rt (ret_ev ((ifE_ev (v := .p (.bl false)) (k := false) rfl rfl).trans ?_) (by intro i h; cases h) (by intro i h; cases h))))) rfl rfl (by intro i h; cases h) rfl
        rw [if_neg (by decide)]
        exact tup_ev (es_cons (v := .p (.s "or")) rfl (es_cons (v := .p a) rfl (es_cons (v := .p b) hr rfl))) rfl rfl
      · exact List.mem_append_right _ (List.mem_flatMap.mpr ⟨a, ma, List.mem_map.mpr ⟨b, mb, rfl⟩⟩)
end K07
end
section
set_option linter.all false
set_option maxRecDepth 100000
set_option maxHeartbeats 4000000
namespace Cz
variable {M : Mo} {C : Nat → List Arg → Rc}
theorem bor_d {i : Nat} {x : D} {ρ : Env} (h : ρ[i]? = some (.d x)) : evE M C (.bor i) ρ = .ok (.p x) ρ := by rw [evE, h]
theorem var_d {i : Nat} {x : D} {ρ : Env} (h : ρ[i]? = some (.d x)) : evE M C (.var i) ρ = .ok (.p x) ρ := by rw [evE, h]
/-- one of two constants by a test that does nothing -/
theorem ife_c {t : E} {ρ ρ1 : Env} {x y : D} {k : Bool} (h : evE M C t ρ = .ok (.p (.bl k)) ρ1) : ∃ z, evE M C (.ife t (.c x) (.c y)) ρ = .ok (.p z) ρ1 ∧ (z = x ∨ z = y) := by
  cases k with
  | true => exact ⟨x, ifE_t h rfl, .inl rfl⟩
  | false => exact ⟨y, ifE_f h rfl, .inr rfl⟩
end Cz
namespace K07
open Cz
theorem leaf_ok (n : Nat) (s : Sr) (F NM : List D) (hF : FN F) (hN : DN NM) : ∃ (t : Tr) (s' : Sr), call mo prog (n + 4) 17 [.o s.l, .a (.tup F), .a (.tup NM)] = .ok (.p (enc true t)) [s'.l] ∧ Rt t ∧ sz t = 1 ∧ ht t = 0 := by
  rw [call_s _ _ _ F__law_leaf rfl]
  generalize hk : pk s 12 = k
  have h0 : evS mo (call mo prog (n + 3)) (.asg 3 (.call 15 (.cons (.bor 0) (.cons (.c (.int 12)) .nil)))) [.own true s.l, .d (.tup F), .d (.tup NM), .no] = .nx [.own true (nx s 12).l, .d (.tup F), .d (.tup NM), .d (.int k)] := by
    rw [← hk]
    exact asg_ev (pick_ev (n := n + 2) (m := 12) (i := 0) rfl rfl (by decide) (by decide)) rfl
  generalize nx s 12 = s1 at h0
  have h1 : evE mo (call mo prog (n + 3)) (.and (.cons (.cmp .in_ (.bor 3) (.tup (.cons (.c (.int 5)) (.cons (.c (.int 8)) .nil)))) (.cons (.cmp .gt (.bi .len (.cons (.bor 1) .nil)) (.c (.int 0))) .nil))) [.own true s1.l, .d (.tup F), .d (.tup NM), .d (.int k)] = .ok (.p (.bl (memD (.int k) [.int 5, .int 8] && decide (0 < (F.length : Int))))) [.own true s1.l, .d (.tup F), .d (.tup NM), .d (.int k)] := and2_ev rfl rfl
  cases hc : (memD (.int k) [.int 5, .int 8] && decide (0 < (F.length : Int))) with
  | true =>
    rw [hc] at h1
    obtain ⟨x, s2, hx, mx⟩ := say1_ok n s1 F hF
    obtain ⟨z, hz, hzz⟩ := ife_c (M := mo) (C := call mo prog (n + 3)) (t := .cmp .eq (.bor 3) (.c (.int 5))) (ρ := [.own true s1.l, .d (.tup F), .d (.tup NM), .d (.int k)]) (x := .s "need") (y := .s "grant") (bor_eq rfl rfl)
    have hr : evSs mo (call mo prog (n + 3)) b__law_leaf [.own true s.l, .d (.tup F), .d (.tup NM), .no] = .rt (.p (.tup [z, x])) [.own true s2.l, .d (.tup F), .d (.tup NM), .d (.int k)] := by
      refine (ss_nx h0).trans (ss_rt (if_t h1 ?_))
      refine ss_rt (ret_ev (tup_ev (es_cons hz (es_cons (v := .p x) (call_ev (vs := [.b 0, .p (.tup F), .p (.int 1)]) (as := [.o s1.l, .a (.tup F), .a (.int 1)]) rfl rfl rfl hx rfl) rfl)) rfl rfl) (by intro i h; cases h) (by intro i h; cases h))
    rcases hzz with rfl | rfl
    · refine ⟨.leaf (tx "need") [x], s2, ?_, .sa mx (by simp [sayKd]), rfl, rfl⟩
      exact run0 (ρ0 := [.own true s.l, .d (.tup F), .d (.tup NM), .no]) hr rfl rfl (by intro i h; cases h) rfl
    · refine ⟨.leaf (tx "grant") [x], s2, ?_, .sa mx (by simp [sayKd]), rfl, rfl⟩
      exact run0 (ρ0 := [.own true s.l, .d (.tup F), .d (.tup NM), .no]) hr rfl rfl (by intro i h; cases h) rfl
  | false =>
    rw [hc] at h1
    have h2 : ∃ (s2 : Sr) (c : Bool), evE mo (call mo prog (n + 3)) (.and (.cons (.cmp .eq (.bor 3) (.c (.int 9))) (.cons (.cmp .eq (.call 15 (.cons (.bor 0) (.cons (.c (.int 3)) .nil))) (.c (.int 1))) .nil))) [.own true s1.l, .d (.tup F), .d (.tup NM), .d (.int k)] = .ok (.p (.bl c)) [.own true s2.l, .d (.tup F), .d (.tup NM), .d (.int k)] := by
      by_cases h9 : k = 9
      · refine ⟨nx s1 3, D.beq (.int (pk s1 3)) (.int 1), and_t (bor_eq rfl ?_) (pick_is (n := n + 2) (ρ := [.own true s1.l, .d (.tup F), .d (.tup NM), .d (.int k)]) (l := true) (s := s1) (i := 0) (m := 3) rfl (by decide) (by decide)) (fun _ _ _ => trivial)⟩
        rw [h9]
        rfl
      · exact ⟨s1, false, and_f (bor_eq rfl (beq_f h9))⟩
    obtain ⟨s2, c, h2⟩ := h2
    cases c with
    | true =>
      obtain ⟨z, hz, hzz⟩ := pick_if (n := n + 2) (i := 0) (ρ := [.own true s2.l, .d (.tup F), .d (.tup NM), .d (.int k)]) (l := true) (s := s2) (m := 2) (a := .tup (.cons (.c (.s "lose")) .nil)) (b := .tup (.cons (.c (.s "win")) .nil)) rfl (by decide) (by decide) (fun _ => rfl) (fun _ => rfl)
      have hr : evSs mo (call mo prog (n + 3)) b__law_leaf [.own true s.l, .d (.tup F), .d (.tup NM), .no] = .rt (.p z) [.own true (nx s2 2).l, .d (.tup F), .d (.tup NM), .d (.int k)] :=
        (ss_nx h0).trans ((ss_nx (if_f h1 rfl)).trans (ss_rt (if_t h2 (ss_rt (ret_ev hz (by intro i h; cases h) (by intro i h; cases h))))))
      rcases hzz with rfl | rfl
      · refine ⟨.leaf (tx "lose") [], nx s2 2, ?_, .pl (by simp [plainKd]), rfl, rfl⟩
        exact run0 (ρ0 := [.own true s.l, .d (.tup F), .d (.tup NM), .no]) hr rfl rfl (by intro i h; cases h) rfl
      · refine ⟨.leaf (tx "win") [], nx s2 2, ?_, .pl (by simp [plainKd]), rfl, rfl⟩
        exact run0 (ρ0 := [.own true s.l, .d (.tup F), .d (.tup NM), .no]) hr rfl rfl (by intro i h; cases h) rfl
    | false =>
      have h3 : ∃ c, evE mo (call mo prog (n + 3)) (.or (.cons (.cmp .eq (.bor 3) (.c (.int 7))) (.cons (.cmp .eq (.bi .len (.cons (.bor 2) .nil)) (.c (.int 0))) .nil))) [.own true s2.l, .d (.tup F), .d (.tup NM), .d (.int k)] = .ok (.p (.bl c)) [.own true s2.l, .d (.tup F), .d (.tup NM), .d (.int k)] ∧ (c = false → NM ≠ []) := by
        by_cases h7 : k = 7
        · refine ⟨true, or_t (bor_eq rfl ?_), nofun⟩
          rw [h7]
          rfl
        · cases NM with
          | nil => exact ⟨true, or_f (bor_eq rfl (beq_f h7)) rfl, nofun⟩
          | cons a r =>
            refine ⟨false, or_f (bor_eq rfl (beq_f h7)) ?_, fun _ => List.cons_ne_nil _ _⟩
            rw [← len_ne (x := a) (F := r)]
            rfl
      obtain ⟨c, h3, hcN⟩ := h3
      cases c with
      | true =>
        refine ⟨.leaf (tx "pass") [], s2, ?_, .pl (by simp [plainKd]), rfl, rfl⟩
        refine run0 (ρ0 := [.own true s.l, .d (.tup F), .d (.tup NM), .no]) (ρ := [.own true s2.l, .d (.tup F), .d (.tup NM), .d (.int k)]) ?_ rfl rfl (by intro i h; cases h) rfl
        exact (ss_nx h0).trans ((ss_nx (if_f h1 rfl)).trans ((ss_nx (if_f h2 rfl)).trans (ss_rt (ret_ev (ifE_t h3 rfl) (by intro i h; cases h) (by intro i h; cases h)))))
      | false =>
        obtain ⟨x, mx, s3, hx⟩ := pick_item (n := n + 2) (i := 0) (j := 2) (ρ := [.own true s2.l, .d (.tup F), .d (.tup NM), .d (.int k)]) (l := true) (s := s2) (F := NM) (by decide) (hcN rfl) (by have := hN.2; omega) rfl rfl
        obtain ⟨f, mf, rfl⟩ := hN.1 x mx
        refine ⟨.leaf (tx "deed") [.str f], s3, ?_, .de mf, rfl, rfl⟩
        refine run0 (ρ0 := [.own true s.l, .d (.tup F), .d (.tup NM), .no]) (ρ := [.own true s3.l, .d (.tup F), .d (.tup NM), .d (.int k)]) ?_ rfl rfl (by intro i h; cases h) rfl
        exact (ss_nx h0).trans ((ss_nx (if_f h1 rfl)).trans ((ss_nx (if_f h2 rfl)).trans (ss_rt (ret_ev (ifE_f h3 (tup_ev (es_cons (v := .p (.s "deed")) rfl (es_cons (v := .p (.str f)) hx rfl)) rfl rfl)) (by intro i h; cases h) (by intro i h; cases h)))))
theorem tree_ok (F NM : List D) (hF : FN F) (hN : DN NM) : ∀ (q N : Nat) (s : Sr) (size : Int), q + 5 ≤ N → size ≤ q → q ≤ 1000 → ∃ (t : Tr) (s' : Sr), call mo prog N 18 [.o s.l, .a (.tup F), .a (.tup NM), .a (.int size)] = .ok (.p (enc true t)) [s'.l] ∧ Rt t ∧ (sz t = 1 ∨ (sz t : Int) ≤ 2 * size - 1) ∧ (ht t = 0 ∨ (ht t : Int) ≤ size - 1) := by
  intro q
  induction q with
  | zero =>
    intro N s size hN' hs hq
    obtain ⟨n, rfl⟩ : ∃ n, N = n + 4 + 1 := ⟨N - 5, by omega⟩
    obtain ⟨t, s', ht_, r, h1, h2⟩ := leaf_ok n s F NM hF hN
    refine ⟨t, s', ?_, r, .inl h1, .inl h2⟩
    rw [call_s _ _ _ F__law_tree rfl]
    refine run0 (ρ0 := [.own true s.l, .d (.tup F), .d (.tup NM), .d (.int size), .no, .no, .no, .no, .no, .no]) (ρ := [.own true s'.l, .d (.tup F), .d (.tup NM), .d (.int size), .no, .no, .no, .no, .no, .no]) ?_ rfl rfl (by intro i h; cases h) rfl
    exact ss_rt (if_t (bor_lt rfl (decide_eq_true (by omega))) (ss_rt (ret_ev (call_ev (vs := [.b 0, .p (.tup F), .p (.tup NM)]) (as := [.o s.l, .a (.tup F), .a (.tup NM)]) rfl rfl rfl ht_ rfl) (by intro i h; cases h) (by intro i h; cases h))))
  | succ q ih =>
    intro N s size hN' hs hq
    obtain ⟨n, rfl⟩ : ∃ n, N = n + 4 + 1 := ⟨N - 5, by omega⟩
    rw [call_s _ _ _ F__law_tree rfl]
    by_cases h2 : size < 2
    · obtain ⟨t, s', ht_, r, h1, h2'⟩ := leaf_ok n s F NM hF hN
      refine ⟨t, s', ?_, r, .inl h1, .inl h2'⟩
      refine run0 (ρ0 := [.own true s.l, .d (.tup F), .d (.tup NM), .d (.int size), .no, .no, .no, .no, .no, .no]) (ρ := [.own true s'.l, .d (.tup F), .d (.tup NM), .d (.int size), .no, .no, .no, .no, .no, .no]) ?_ rfl rfl (by intro i h; cases h) rfl
      exact ss_rt (if_t (bor_lt rfl (decide_eq_true h2)) (ss_rt (ret_ev (call_ev (vs := [.b 0, .p (.tup F), .p (.tup NM)]) (as := [.o s.l, .a (.tup F), .a (.tup NM)]) rfl rfl rfl ht_ rfl) (by intro i h; cases h) (by intro i h; cases h))))
    · have h0 : evS mo (call mo prog (n + 4)) (.ife (.cmp .lt (.bor 3) (.c (.int 2))) b__law_tree_0a .nil) [.own true s.l, .d (.tup F), .d (.tup NM), .d (.int size), .no, .no, .no, .no, .no, .no] = .nx [.own true s.l, .d (.tup F), .d (.tup NM), .d (.int size), .no, .no, .no, .no, .no, .no] := if_f (bor_lt rfl (decide_eq_false h2)) rfl
      generalize hk : pk s 12 = k
      have h1 : evS mo (call mo prog (n + 4)) (.asg 4 (.call 15 (.cons (.bor 0) (.cons (.c (.int 12)) .nil)))) [.own true s.l, .d (.tup F), .d (.tup NM), .d (.int size), .no, .no, .no, .no, .no, .no] = .nx [.own true (nx s 12).l, .d (.tup F), .d (.tup NM), .d (.int size), .d (.int k), .no, .no, .no, .no, .no] := by
        rw [← hk]
        exact asg_ev (pick_ev (n := n + 3) (m := 12) (i := 0) rfl rfl (by decide) (by decide)) rfl
      generalize nx s 12 = s1 at h1
      have hin : evE mo (call mo prog (n + 4)) (.cmp .in_ (.bor 4) (.tup (.cons (.c (.int 7)) (.cons (.c (.int 10)) .nil)))) [.own true s1.l, .d (.tup F), .d (.tup NM), .d (.int size), .d (.int k), .no, .no, .no, .no, .no] = .ok (.p (.bl (memD (.int k) [.int 7, .int 10]))) [.own true s1.l, .d (.tup F), .d (.tup NM), .d (.int size), .d (.int k), .no, .no, .no, .no, .no] := rfl
      cases hc : memD (.int k) [.int 7, .int 10] with
      | true =>
        rw [hc] at hin
        have hw : ∃ (w : D) (s2 : Sr), evE mo (call mo prog (n + 4)) (.ife (.and (.cons (.cmp .eq (.bor 4) (.c (.int 7))) (.cons (.cmp .gt (.bi .len (.cons (.bor 1) .nil)) (.c (.int 0))) .nil))) (.c (.s "while")) (.ife (.call 15 (.cons (.bor 0) (.cons (.c (.int 2)) .nil))) (.c (.s "more")) (.c (.s "each")))) [.own true s1.l, .d (.tup F), .d (.tup NM), .d (.int size), .d (.int k), .no, .no, .no, .no, .no] = .ok (.p w) [.own true s2.l, .d (.tup F), .d (.tup NM), .d (.int size), .d (.int k), .no, .no, .no, .no, .no] ∧ (w = .s "while" ∨ w = .s "more" ∨ w = .s "each") := by
          have ha : evE mo (call mo prog (n + 4)) (.and (.cons (.cmp .eq (.bor 4) (.c (.int 7))) (.cons (.cmp .gt (.bi .len (.cons (.bor 1) .nil)) (.c (.int 0))) .nil))) [.own true s1.l, .d (.tup F), .d (.tup NM), .d (.int size), .d (.int k), .no, .no, .no, .no, .no] = .ok (.p (.bl (D.beq (.int k) (.int 7) && decide (0 < (F.length : Int))))) [.own true s1.l, .d (.tup F), .d (.tup NM), .d (.int size), .d (.int k), .no, .no, .no, .no, .no] := and2_ev (bor_eq rfl rfl) rfl
          cases hb : (D.beq (.int k) (.int 7) && decide (0 < (F.length : Int))) with
          | true =>
            rw [hb] at ha
            exact ⟨_, s1, ifE_t ha rfl, .inl rfl⟩
          | false =>
            rw [hb] at ha
            obtain ⟨z, hz, hzz⟩ := pick_if (n := n + 3) (i := 0) (ρ := [.own true s1.l, .d (.tup F), .d (.tup NM), .d (.int size), .d (.int k), .no, .no, .no, .no, .no]) (l := true) (s := s1) (m := 2) (a := .c (.s "more")) (b := .c (.s "each")) rfl (by decide) (by decide) (fun _ => rfl) (fun _ => rfl)
            exact ⟨z, nx s1 2, ifE_f ha hz, .inr hzz⟩
        obtain ⟨w, s2, hw, hww⟩ := hw
        have h3 : evS mo (call mo prog (n + 4)) (.asg 8 (.ife (.and (.cons (.cmp .eq (.bor 4) (.c (.int 7))) (.cons (.cmp .gt (.bi .len (.cons (.bor 1) .nil)) (.c (.int 0))) .nil))) (.c (.s "while")) (.ife (.call 15 (.cons (.bor 0) (.cons (.c (.int 2)) .nil))) (.c (.s "more")) (.c (.s "each"))))) [.own true s1.l, .d (.tup F), .d (.tup NM), .d (.int size), .d (.int k), .no, .no, .no, .no, .no] = .nx [.own true s2.l, .d (.tup F), .d (.tup NM), .d (.int size), .d (.int k), .no, .no, .no, .d w, .no] := asg_ev hw rfl
        have h4 : ∃ (wd : List Nat) (e : List D) (s3 : Sr), evSs mo (call mo prog (n + 4)) b__law_tree_2a_1 [.own true s2.l, .d (.tup F), .d (.tup NM), .d (.int size), .d (.int k), .no, .no, .no, .d w, .no] = evSs mo (call mo prog (n + 4)) b__law_tree_2a_2 [.own true s3.l, .d (.tup F), .d (.tup NM), .d (.int size), .d (.int k), .no, .no, .no, .d w, .d (.tup (.str wd :: e))] ∧ Hk wd e 1 ∧ e.length ≤ 1 := by
          rcases hww with rfl | rfl | rfl
          · obtain ⟨x, s3, hx, mx⟩ := say1_ok (n + 1) s2 F hF
            refine ⟨tx "while", [x], s3, ?_, .sa mx (by simp [sayKd]), Nat.le_refl _⟩
            exact ss_nx (asg_ev (ifE_t (ρ1 := [.own true s2.l, .d (.tup F), .d (.tup NM), .d (.int size), .d (.int k), .no, .no, .no, .d (.s "while"), .no]) rfl (tup_ev (es_cons (v := .p (.s "while")) rfl (es_cons (v := .p x) (call_ev (vs := [.b 0, .p (.tup F), .p (.int 1)]) (as := [.o s2.l, .a (.tup F), .a (.int 1)]) rfl rfl rfl hx rfl) rfl)) rfl rfl)) rfl)
          · exact ⟨tx "more", [], s2, rfl, .pl (by simp [plainKd]), by decide⟩
          · exact ⟨tx "each", [], s2, rfl, .pl (by simp [plainKd]), by decide⟩
        obtain ⟨wd, e, s3, h4, hh, le⟩ := h4
        obtain ⟨a, s4, ha, ra, za, ka⟩ := ih (n + 4) s3 (size - 1) (by omega) (by omega) (by omega)
        refine ⟨.one wd e a, s4, ?_, ⟨hh, ra⟩, .inr (by simp [sz]; omega), .inr (by simp [ht]; omega)⟩
        refine run0 (ρ0 := [.own true s.l, .d (.tup F), .d (.tup NM), .d (.int size), .no, .no, .no, .no, .no, .no]) (ρ := [.own true s4.l, .d (.tup F), .d (.tup NM), .d (.int size), .d (.int k), .no, .no, .no, .d w, .d (.tup (.str wd :: e))]) ?_ rfl rfl (by intro i h; cases h) rfl
        refine (ss_nx h0).trans ((ss_nx h1).trans (ss_rt (if_t hin ((ss_nx h3).trans (h4.trans (ss_rt (ret_ev ?_ (by intro i h; cases h) (by intro i h; cases h))))))))
        have hcall : evE mo (call mo prog (n + 4)) (.tup (.cons (.call 18 (.cons (.bor 0) (.cons (.var 1) (.cons (.var 2) (.cons (.bin .sub (.bor 3) (.c (.int 1))) .nil))))) .nil)) [.own true s3.l, .d (.tup F), .d (.tup NM), .d (.int size), .d (.int k), .no, .no, .no, .d w, .d (.tup (.str wd :: e))] = .ok (.p (.tup [enc true a])) [.own true s4.l, .d (.tup F), .d (.tup NM), .d (.int size), .d (.int k), .no, .no, .no, .d w, .d (.tup (.str wd :: e))] :=
          tup_ev (es_cons (v := .p (enc true a)) (call_ev (vs := [.b 0, .p (.tup F), .p (.tup NM), .p (.int (size - 1))]) (as := [.o s3.l, .a (.tup F), .a (.tup NM), .a (.int (size - 1))]) rfl rfl rfl ha rfl) rfl) rfl rfl
        refine bin_ev (v := .p (.tup (.str wd :: e))) (w := .p (.tup [enc true a])) (x := .tup (.str wd :: e)) (y := .tup [enc true a]) rfl hcall rfl rfl ?_
        unfold binD
        simp only
        rw [if_pos (by simp; omega)]
        simp [enc, row, wr, inn_t]
      | false =>
        rw [hc] at hin
        -- how many
        obtain ⟨m, hm1, hm2, hm3⟩ : ∃ m : Int, m = (if size - 2 > 1 then size - 2 else 1) ∧ 0 < m ∧ m ≤ size - 1 := ⟨_, rfl, by split <;> omega, by split <;> omega⟩
        obtain ⟨p0, p1⟩ := pk_lt s1 m hm2
        have hmany : ∃ many : Int, many = 1 + pk s1 m ∧ 1 ≤ many ∧ many ≤ size - 1 := ⟨_, rfl, by omega, by omega⟩
        obtain ⟨many, e5, m1, m2⟩ := hmany
        by_cases hbig : q ≤ 100000000 ∧ size ≤ 100000000
        · have h3 : evS mo (call mo prog (n + 4)) (.asg 5 (.bin .add (.c (.int 1)) (.call 15 (.cons (.bor 0) (.cons (.bi .max2 (.cons (.c (.int 1)) (.cons (.bin .sub (.bor 3) (.c (.int 2))) .nil))) .nil))))) [.own true s1.l, .d (.tup F), .d (.tup NM), .d (.int size), .d (.int k), .no, .no, .no, .no, .no] = .nx [.own true (nx s1 m).l, .d (.tup F), .d (.tup NM), .d (.int size), .d (.int k), .d (.int many), .no, .no, .no, .no] := by
            rw [e5]
            refine asg_ev (bin_ev (v := .p (.int 1)) (w := .p (.int (pk s1 m))) (x := .int 1) (y := .int (pk s1 m)) rfl (pick_ev (n := n + 3) (m := m) (i := 0) (l := true) (s := s1) rfl ?_ hm2 (by omega)) rfl rfl rfl) rfl
            rw [hm1]
            rfl
          generalize nx s1 m = s2 at h3
          obtain ⟨a, s3, ha, ra, za, ka⟩ := ih (n + 4) s2 many (by omega) (by omega) (by omega)
          obtain ⟨b, s4, hb, rb, zb, kb⟩ := ih (n + 4) s3 (size - 1 - many) (by omega) (by omega) (by omega)
          have h4 : evS mo (call mo prog (n + 4)) (.asg 6 (.call 18 (.cons (.bor 0) (.cons (.var 1) (.cons (.var 2) (.cons (.var 5) .nil)))))) [.own true s2.l, .d (.tup F), .d (.tup NM), .d (.int size), .d (.int k), .d (.int many), .no, .no, .no, .no] = .nx [.own true s3.l, .d (.tup F), .d (.tup NM), .d (.int size), .d (.int k), .d (.int many), .d (enc true a), .no, .no, .no] :=
            asg_ev (call_ev (vs := [.b 0, .p (.tup F), .p (.tup NM), .p (.int many)]) (as := [.o s2.l, .a (.tup F), .a (.tup NM), .a (.int many)]) rfl rfl rfl ha rfl) rfl
          have h5 : evS mo (call mo prog (n + 4)) (.asg 7 (.call 18 (.cons (.bor 0) (.cons (.var 1) (.cons (.var 2) (.cons (.bin .sub (.bin .sub (.bor 3) (.c (.int 1))) (.bor 5)) .nil)))))) [.own true s3.l, .d (.tup F), .d (.tup NM), .d (.int size), .d (.int k), .d (.int many), .d (enc true a), .no, .no, .no] = .nx [.own true s4.l, .d (.tup F), .d (.tup NM), .d (.int size), .d (.int k), .d (.int many), .d (enc true a), .d (enc true b), .no, .no] :=
            asg_ev (call_ev (vs := [.b 0, .p (.tup F), .p (.tup NM), .p (.int (size - 1 - many))]) (as := [.o s3.l, .a (.tup F), .a (.tup NM), .a (.int (size - 1 - many))]) rfl rfl rfl hb rfl) rfl
          have h6 : evE mo (call mo prog (n + 4)) (.and (.cons (.cmp .eq (.bor 4) (.c (.int 5))) (.cons (.cmp .gt (.bi .len (.cons (.bor 1) .nil)) (.c (.int 0))) .nil))) [.own true s4.l, .d (.tup F), .d (.tup NM), .d (.int size), .d (.int k), .d (.int many), .d (enc true a), .d (enc true b), .no, .no] = .ok (.p (.bl (D.beq (.int k) (.int 5) && decide (0 < (F.length : Int))))) [.own true s4.l, .d (.tup F), .d (.tup NM), .d (.int size), .d (.int k), .d (.int many), .d (enc true a), .d (enc true b), .no, .no] := and2_ev (bor_eq rfl rfl) rfl
          have hh0 := (ss_nx (ss := b__law_tree_1) h0).trans ((ss_nx (ss := b__law_tree_2) h1).trans ((ss_nx (ss := b__law_tree_3) (if_f (a := b__law_tree_2a) (b := .nil) hin rfl)).trans ((ss_nx (ss := b__law_tree_4) h3).trans ((ss_nx (ss := b__law_tree_5) h4).trans (ss_nx (ss := b__law_tree_6) h5)))))
          cases hc6 : (D.beq (.int k) (.int 5) && decide (0 < (F.length : Int))) with
          | true =>
            rw [hc6] at h6
            obtain ⟨x, s5, hx, mx⟩ := say1_ok (n + 1) s4 F hF
            refine ⟨.two (tx "if") [x] a b, s5, ?_, ⟨.sa mx (by simp [sayKd]), ra, rb⟩, .inr (by simp [sz]; omega), .inr (by simp [ht]; omega)⟩
            refine run0 (ρ0 := [.own true s.l, .d (.tup F), .d (.tup NM), .d (.int size), .no, .no, .no, .no, .no, .no]) (ρ := [.own true s5.l, .d (.tup F), .d (.tup NM), .d (.int size), .d (.int k), .d (.int many), .d (enc true a), .d (enc true b), .no, .no]) ?_ rfl rfl (by intro i h; cases h) rfl
            refine hh0.trans (ss_rt (if_t h6 (ss_rt (ret_ev (tup_ev (es_cons (v := .p (.s "if")) rfl (es_cons (v := .p x) (call_ev (vs := [.b 0, .p (.tup F), .p (.int 1)]) (as := [.o s4.l, .a (.tup F), .a (.int 1)]) rfl rfl rfl hx rfl) (es_cons (v := .p (enc true a)) rfl (es_cons (v := .p (enc true b)) rfl rfl)))) rfl rfl) (by intro i h; cases h) (by intro i h; cases h)))))
          | false =>
            rw [hc6] at h6
            have h7 : ∃ z, evE mo (call mo prog (n + 4)) (.ife (.cmp .in_ (.bor 4) (.tup (.cons (.c (.int 0)) (.cons (.c (.int 3)) (.cons (.c (.int 5)) (.cons (.c (.int 6)) (.cons (.c (.int 9)) (.cons (.c (.int 11)) .nil)))))))) (.c (.s "then")) (.ife (.cmp .in_ (.bor 4) (.tup (.cons (.c (.int 1)) (.cons (.c (.int 4)) .nil)))) (.c (.s "own")) (.c (.s "other")))) [.own true s4.l, .d (.tup F), .d (.tup NM), .d (.int size), .d (.int k), .d (.int many), .d (enc true a), .d (enc true b), .no, .no] = .ok (.p (.str z)) [.own true s4.l, .d (.tup F), .d (.tup NM), .d (.int size), .d (.int k), .d (.int many), .d (enc true a), .d (enc true b), .no, .no] ∧ Hk z [] 2 := by
              have i1 : evE mo (call mo prog (n + 4)) (.cmp .in_ (.bor 4) (.tup (.cons (.c (.int 0)) (.cons (.c (.int 3)) (.cons (.c (.int 5)) (.cons (.c (.int 6)) (.cons (.c (.int 9)) (.cons (.c (.int 11)) .nil)))))))) [.own true s4.l, .d (.tup F), .d (.tup NM), .d (.int size), .d (.int k), .d (.int many), .d (enc true a), .d (enc true b), .no, .no] = .ok (.p (.bl (memD (.int k) [.int 0, .int 3, .int 5, .int 6, .int 9, .int 11]))) [.own true s4.l, .d (.tup F), .d (.tup NM), .d (.int size), .d (.int k), .d (.int many), .d (enc true a), .d (enc true b), .no, .no] := rfl
              cases b1 : memD (.int k) [.int 0, .int 3, .int 5, .int 6, .int 9, .int 11] with
              | true =>
                rw [b1] at i1
                exact ⟨tx "then", ifE_t i1 rfl, .pl (by simp [plainKd])⟩
              | false =>
                rw [b1] at i1
                have i2 : evE mo (call mo prog (n + 4)) (.cmp .in_ (.bor 4) (.tup (.cons (.c (.int 1)) (.cons (.c (.int 4)) .nil)))) [.own true s4.l, .d (.tup F), .d (.tup NM), .d (.int size), .d (.int k), .d (.int many), .d (enc true a), .d (enc true b), .no, .no] = .ok (.p (.bl (memD (.int k) [.int 1, .int 4]))) [.own true s4.l, .d (.tup F), .d (.tup NM), .d (.int size), .d (.int k), .d (.int many), .d (enc true a), .d (enc true b), .no, .no] := rfl
                cases b2 : memD (.int k) [.int 1, .int 4] with
                | true =>
                  rw [b2] at i2
                  exact ⟨tx "own", ifE_f i1 (ifE_t i2 rfl), .pl (by simp [plainKd])⟩
                | false =>
                  rw [b2] at i2
                  exact ⟨tx "other", ifE_f i1 (ifE_f i2 rfl), .pl (by simp [plainKd])⟩
            obtain ⟨z, h7, hh⟩ := h7
            refine ⟨.two z [] a b, s4, ?_, ⟨hh, ra, rb⟩, .inr (by simp [sz]; omega), .inr (by simp [ht]; omega)⟩
            refine run0 (ρ0 := [.own true s.l, .d (.tup F), .d (.tup NM), .d (.int size), .no, .no, .no, .no, .no, .no]) (ρ := [.own true s4.l, .d (.tup F), .d (.tup NM), .d (.int size), .d (.int k), .d (.int many), .d (enc true a), .d (enc true b), .no, .no]) ?_ rfl rfl (by intro i h; cases h) rfl
            exact hh0.trans ((ss_nx (if_f h6 rfl)).trans (ss_rt (ret_ev (tup_ev (es_cons h7 (es_cons (v := .p (enc true a)) rfl (es_cons (v := .p (enc true b)) rfl rfl))) rfl rfl) (by intro i h; cases h) (by intro i h; cases h))))
        · exact absurd ⟨by omega, by omega⟩ hbig
end K07
end
section
set_option linter.all false
set_option maxRecDepth 100000
set_option maxHeartbeats 4000000
namespace K07
open Cz
def aT : Tr := .leaf (tx "deed") [.s "a"]
theorem aT_rt : Rt aT := Hk.de (by simp [names])
def brT : Nat → Nat → Tr
  | 0, _ => aT
  | f + 1, m => if m = 1 then aT else .two (tx "then") [] (brT f (((m - 1) / 4) * 2 + 1)) (brT f (m - 1 - (((m - 1) / 4) * 2 + 1)))
theorem brT_rt : ∀ f m, Rt (brT f m)
  | 0, _ => aT_rt
  | f + 1, m => by
    unfold brT
    split
    · exact aT_rt
    · exact ⟨.pl (by simp [plainKd]), brT_rt f _, brT_rt f _⟩
def toE : Nat → Tr
  | 0 => aT
  | n + 1 => .one (tx "each") [] (toE n)
theorem toE_rt : ∀ n, Rt (toE n)
  | 0 => aT_rt
  | n + 1 => ⟨.pl (by simp [plainKd]), toE_rt n⟩
def toW : Nat → Tr
  | 0 => aT
  | n + 1 => .one (tx "while") [.tup [.s "yes"]] (toW n)
theorem toW_rt : ∀ n, Rt (toW n)
  | 0 => aT_rt
  | n + 1 => ⟨.sa (by simp [says, say0]) (by simp [sayKd]), toW_rt n⟩
def toM : Nat → Tr
  | 0 => aT
  | n + 1 => .one (tx "more") [] (toM n)
def oddTs : List Tr := [brT 10 59, .one (tx "more") [] (brT 10 59), toE 20, toW 20]
theorem oddTs_rt : ∀ t ∈ oddTs, Rt t ∧ sz t ≤ 60 ∧ ht t ≤ 20 := by
  intro t h
  simp only [oddTs, List.mem_cons, List.not_mem_nil, or_false] at h
  rcases h with rfl | rfl | rfl | rfl
  · exact ⟨brT_rt _ _, by decide +kernel, by decide +kernel⟩
  · exact ⟨⟨.pl (by simp [plainKd]), brT_rt _ _⟩, by decide +kernel, by decide +kernel⟩
  · exact ⟨toE_rt _, by decide +kernel, by decide +kernel⟩
  · exact ⟨toW_rt _, by decide +kernel, by decide +kernel⟩
theorem odd_menu (ρ : Env) : evE mo (call mo prog 60) (.lst (.cons (.call 29 (.cons (.c (.int 59)) .nil)) (.cons (.tup (.cons (.c (.str [109, 111, 114, 101])) (.cons (.call 29 (.cons (.c (.int 59)) .nil)) .nil))) (.cons (.call 28 (.cons (.c (.int 20)) (.cons (.c (.str [101, 97, 99, 104])) .nil))) (.cons (.call 28 (.cons (.c (.int 20)) (.cons (.c (.str [119, 104, 105, 108, 101])) .nil))) .nil))))) ρ = .ok (.f (oddTs.map (enc true))) ρ := by
  kernel_rfl
def bigA : D := enc true (.one (tx "more") [] (.one (tx "each") [] (brT 10 59)))
def bigB : D := enc true (toM 21)
def bigC : D := enc true (brT 10 61)
theorem bigA_ev (ρ : Env) : evE mo (call mo prog 60) (.tup (.cons (.c (.str [109, 111, 114, 101])) (.cons (.tup (.cons (.c (.str [101, 97, 99, 104])) (.cons (.call 29 (.cons (.c (.int 59)) .nil)) .nil))) .nil))) ρ = .ok (.p bigA) ρ := by
  kernel_rfl
theorem bigB_ev (ρ : Env) : evE mo (call mo prog 60) (.call 28 (.cons (.c (.int 21)) (.cons (.c (.str [109, 111, 114, 101])) .nil))) ρ = .ok (.p bigB) ρ := by
  kernel_rfl
theorem bigC_ev (ρ : Env) : evE mo (call mo prog 60) (.call 29 (.cons (.c (.int 61)) .nil)) ρ = .ok (.p bigC) ρ := by
  kernel_rfl
theorem big_ref {w : Int} (h : W3 w) : call mo prog 60 26 [.a (.int w), .a bigA] = .ok (.p (.int 60)) [] ∧ call mo prog 60 26 [.a (.int w), .a bigB] = .ok (.p (.int 21)) [] ∧ call mo prog 60 26 [.a (.int w), .a bigC] = .ok (.p (.int 60)) [] := by
  rcases h with rfl | rfl | rfl <;> exact ⟨by kernel_rfl, by kernel_rfl, by kernel_rfl⟩
theorem part_of : ∀ {t u : Tr}, Rt t → u ∈ parts t → Rt u ∧ sz u ≤ sz t ∧ ht u ≤ ht t
  | .leaf k e, u, r, h => by
    rw [List.mem_singleton.mp h]
    exact ⟨r, Nat.le_refl _, Nat.le_refl _⟩
  | .one k e a, u, r, h => by
    rcases List.mem_cons.mp h with rfl | h
    · exact ⟨r, Nat.le_refl _, Nat.le_refl _⟩
    · obtain ⟨h1, h2, h3⟩ := part_of r.2 h
      exact ⟨h1, by simp [sz]; omega, by simp [ht]; omega⟩
  | .two k e a b, u, r, h => by
    rcases List.mem_cons.mp h with rfl | h
    · exact ⟨r, Nat.le_refl _, Nat.le_refl _⟩
    · rcases List.mem_append.mp h with h | h
      · obtain ⟨h1, h2, h3⟩ := part_of r.2.1 h
        exact ⟨h1, by simp [sz]; omega, by simp [ht]; omega⟩
      · obtain ⟨h1, h2, h3⟩ := part_of r.2.2 h
        exact ⟨h1, by simp [sz]; omega, by simp [ht]; omega⟩
  | .bad _, u, r, h => r.elim
/-- a wrong part put in: both ways refused at its spot -/
theorem bent_ok {w : Int} (hw : W3 w) {P : D → Prop} (hP : ∀ d, P d → NoHead d ∧ depLe 26 d = true) (t : Tr) (g : Good P t) (h1 : ht t ≤ 20) (h2 : sz t ≤ 60) (s : Nat) (hs : s < sz t) (hq : ∀ q, fb t = some q → s ≤ q) (b : D) (hb : NoHead b) (hbd : depLe 26 b = true) :
    call mo prog 60 26 [.a (.int w), .a (enc true (putT t s b))] = .ok (.p (.int s)) [] ∧ ∃ v, call mo prog 60 24 [.a (enc true (putT t s b))] = .ok v [] ∧ fz v = .p (enc false (putT t s b)) ∧ call mo prog 60 26 [.a (.int w), .a (enc false (putT t s b))] = .ok (.p (.int s)) [] := by
  have ok : Ok (putT t s b) := put_good b hb (fun d h => (hP d h).1) t s g
  have gd : Good (fun d => depLe 26 d = true) (putT t s b) := put_good b hbd (fun d h => (hP d h).2) t s g
  have hf := put_fb b t s hs hq
  have z := put_sz b t s
  have k := put_ht b t s
  have dl := enc_dep (q := 26) (by decide) (fun _ h => h) gd
  obtain ⟨v, hv, hz⟩ := lists_ok _ _ dl 60 (by omega)
  rw [enc_f] at hz
  exact ⟨refusal_bad hw _ ok hf true 60 (by omega) (by omega) (by omega), v, hv, hz, refusal_bad hw _ ok hf false 60 (by omega) (by omega) (by omega)⟩
end K07
end
section
set_option linter.all false
set_option maxRecDepth 100000
set_option maxHeartbeats 4000000
namespace Cz
theorem lc_filter {f : Env → D → Option (Option D × Env)} (P : Env → Prop) (Q : D → Prop) : ∀ (ds : List D) (ρ : Env), P ρ → (∀ d ∈ ds, ∀ ρ, P ρ → ∃ o ρ', f ρ d = some (o, ρ') ∧ P ρ' ∧ ∀ x, o = some x → Q x) → ∃ xs ρ', lcTurns f ρ ds = some (xs, ρ') ∧ P ρ' ∧ (∀ x ∈ xs, Q x) ∧ xs.length ≤ ds.length
  | [], ρ, h, _ => ⟨[], ρ, rfl, h, (fun _ m => nomatch m), Nat.le_refl _⟩
  | d :: r, ρ, h, st => by
    obtain ⟨o, ρ1, e1, h1, q1⟩ := st d (List.mem_cons_self) ρ h
    obtain ⟨xs, ρ2, e2, h2, q2, l2⟩ := lc_filter P Q r ρ1 h1 fun d' m => st d' (List.mem_cons_of_mem _ m)
    cases o with
    | none =>
      refine ⟨xs, ρ2, ?_, h2, q2, by simp; omega⟩
      rw [lcTurns, e1]
      exact e2
    | some x =>
      refine ⟨x :: xs, ρ2, ?_, h2, ?_, by simp; omega⟩
      · rw [lcTurns, e1]
        simp only [e2, Option.map_some]
      · intro y m
        rcases List.mem_cons.mp m with rfl | m
        · exact q1 _ rfl
        · exact q2 y m
theorem mem_ints {lo : Int} {n : Nat} {d : D} (h : d ∈ intsD lo n) : ∃ k, k < n ∧ d = .int (lo + (k : Int)) := by
  unfold intsD at h
  obtain ⟨k, hk, rfl⟩ := List.mem_map.mp h
  exact ⟨k, List.mem_range.mp hk, rfl⟩
end Cz
namespace K07
open Cz
abbrev G (sc : D) (s1 s2 s3 s4 s5 s6 s7 s8 s9 s10 s11 s12 s13 s14 s15 : Sl) : Env := [.d sc, s1, s2, s3, s4, s5, s6, s7, s8, s9, s10, s11, s12, s13, s14, s15]
/-- the tree drawn -/
theorem law_tree (ns : List Int) (hb : ∀ z ∈ ns, z.natAbs.log2 < 2000000) : ∃ (t : Tr) (s : Sr) (F NM : List D) (odd : Int) (s12 : Sl), Rt t ∧ sz t ≤ 60 ∧ ht t ≤ 20 ∧ fr s12 = true ∧
    evSs mo (call mo prog 60) b_law (G (.lst (ns.map D.int)) .no .no .no .no .no .no .no .no .no .no .no .no .no .no .no) = evSs mo (call mo prog 60) b_law_6 (G (.lst (ns.map D.int)) (.own false s.l) (.d (.tup F)) (.d (.tup NM)) (.d (enc true t)) (.d (.int odd)) .no .no .no .no .no .no s12 .no .no .no) := by
  generalize hsc : D.lst (ns.map D.int) = sc
  obtain ⟨s0, h0⟩ := source 59 ns 0 (by decide) (by decide) hb
  rw [hsc] at h0
  obtain ⟨F, s1, h1, hF1, hF2⟩ := fact_names_ok 58 (nx s0 3) (pk s0 3)
  obtain ⟨NM, s2, h2, hN1, hN2⟩ := deed_names_ok 58 (nx s1 3) (1 + pk s1 3)
  obtain ⟨p0, p1⟩ := pk_lt s2 14 (by decide)
  obtain ⟨t, s3, h3, rt, hz, hh⟩ := tree_ok F NM ⟨hF1, hF2⟩ ⟨hN1, hN2⟩ 14 60 (nx s2 14) (1 + pk s2 14) (by decide) (by omega) (by decide)
  have st : evSs mo (call mo prog 60) b_law (G sc .no .no .no .no .no .no .no .no .no .no .no .no .no .no .no) = evSs mo (call mo prog 60) b_law_5 (G sc (.own false (nx s3 9).l) (.d (.tup F)) (.d (.tup NM)) (.d (enc true t)) (.d (.int (pk s3 9))) .no .no .no .no .no .no .no .no .no .no) := by
    refine (ss_nx (ρ1 := G sc (.own false s0.l) .no .no .no .no .no .no .no .no .no .no .no .no .no .no) (asg_ev (call_ev (vs := [.p sc, .p (.int 0)]) (as := [.a sc, .a (.int 0)]) rfl rfl rfl h0 rfl) rfl)).trans ?_
    refine (ss_nx (ρ1 := G sc (.own false s1.l) (.d (.tup F)) .no .no .no .no .no .no .no .no .no .no .no .no .no) (asg_ev (call_ev (es_cons (v := .b 1) rfl (es_cons (v := .p (.int (pk s0 3))) (pick_ev (n := 59) (i := 1) (m := 3) (l := false) (s := s0) rfl rfl (by decide) (by decide)) rfl)) (as := [.o (nx s0 3).l, .a (.int (pk s0 3))]) rfl rfl h1 rfl) rfl)).trans ?_
    refine (ss_nx (ρ1 := G sc (.own false s2.l) (.d (.tup F)) (.d (.tup NM)) .no .no .no .no .no .no .no .no .no .no .no .no) (asg_ev (call_ev (es_cons (v := .b 1) rfl (es_cons (v := .p (.int (1 + pk s1 3))) (bin_ev (v := .p (.int 1)) (w := .p (.int (pk s1 3))) (x := .int 1) (y := .int (pk s1 3)) rfl (pick_ev (n := 59) (i := 1) (m := 3) (l := false) (s := s1) rfl rfl (by decide) (by decide)) rfl rfl rfl) rfl)) (as := [.o (nx s1 3).l, .a (.int (1 + pk s1 3))]) rfl rfl h2 rfl) rfl)).trans ?_
    refine (ss_nx (ρ1 := G sc (.own false s3.l) (.d (.tup F)) (.d (.tup NM)) (.d (enc true t)) .no .no .no .no .no .no .no .no .no .no .no) (asg_ev (call_ev (es_cons (v := .b 1) rfl (es_cons (v := .p (.tup F)) rfl (es_cons (v := .p (.tup NM)) rfl (es_cons (v := .p (.int (1 + pk s2 14))) (bin_ev (v := .p (.int 1)) (w := .p (.int (pk s2 14))) (x := .int 1) (y := .int (pk s2 14)) rfl (pick_ev (n := 59) (i := 1) (m := 14) (l := false) (s := s2) rfl rfl (by decide) (by decide)) rfl rfl rfl) rfl)))) (as := [.o (nx s2 14).l, .a (.tup F), .a (.tup NM), .a (.int (1 + pk s2 14))]) rfl rfl h3 rfl) rfl)).trans ?_
    exact ss_nx (asg_ev (pick_ev (n := 59) (i := 1) (m := 9) (l := false) (s := s3) rfl rfl (by decide) (by decide)) rfl)
  by_cases h4 : pk s3 9 = 4
  · obtain ⟨q0, q1⟩ := pk_lt (nx s3 9) 4 (by decide)
    obtain ⟨x, hx, _, mx⟩ := item_in (xs := oddTs.map (enc true)) (i := pk (nx s3 9) 4) q0 (by exact q1)
    obtain ⟨u, mu, rfl⟩ := List.mem_map.mp mx
    obtain ⟨ru, zu, hu⟩ := oddTs_rt u mu
    refine ⟨u, nx (nx s3 9) 4, F, NM, pk s3 9, .own false (oddTs.map (enc true)), ru, zu, hu, rfl, st.trans ?_⟩
    refine ss_nx (if_t (bor_eq rfl (by rw [h4]; rfl)) ?_)
    refine (ss_nx (ρ1 := G sc (.own false (nx s3 9).l) (.d (.tup F)) (.d (.tup NM)) (.d (enc true t)) (.d (.int (pk s3 9))) .no .no .no .no .no .no (.own false (oddTs.map (enc true))) .no .no .no) (asg_ev (odd_menu _) rfl)).trans ?_
    exact ss_nx (asg_ev (ix_ev (v := .b 12) (w := .p (.int (pk (nx s3 9) 4))) (x := .lst (oddTs.map (enc true))) (y := .int (pk (nx s3 9) 4)) rfl (pick_ev (n := 59) (i := 1) (m := 4) (l := false) (s := nx s3 9) rfl rfl (by decide) (by decide)) rfl rfl hx) rfl)
  · refine ⟨t, nx s3 9, F, NM, pk s3 9, .no, rt, by omega, by omega, rfl, st.trans ?_⟩
    exact ss_nx (if_f (bor_eq rfl (beq_f h4)) rfl)
end K07
end
section
set_option linter.all false
set_option maxRecDepth 100000
set_option maxHeartbeats 4000000
namespace Cz
variable {M : Mo} {C : Nat → List Arg → Rc}
theorem tuple_ev {a : E} {ρ ρ1 : Env} {v : Val} {xs : List D} (h : evE M C a ρ = .ok v ρ1) (hx : res ρ1 (fz v) = some (.lst xs)) : evE M C (.bi .tuple (.cons a .nil)) ρ = .ok (.p (.tup xs)) ρ1 := by
  rw [evE, evEs, h]
  simp only [evEs, ress, hx, biD]
theorem isN_ev {a : E} {ρ ρ1 : Env} (h : evE M C a ρ = .ok (.p .non) ρ1) : evE M C (.cmp .isN a (.c .non)) ρ = .ok (.p (.bl true)) ρ1 :=
  cmp_ev h rfl rfl rfl rfl
end Cz
namespace K07
open Cz
theorem es_lists {C : Nat → List Arg → Rc} {ρ : Env} {i : Nat} {x y : D} {v : Val} (hi : ρ[i]? = some (.d x)) (hv : C 24 [.a x] = .ok v []) (hz : fz v = .p y) {es : Es} {vs : List Val} (he : evEs mo C es ρ = .ok vs ρ) : evEs mo C (.cons (.call 24 (.cons (.var i) .nil)) es) ρ = .ok (.p y :: vs) ρ := by
  have := es_cons (M := mo) (C := C) (e := .call 24 (.cons (.var i) .nil)) (call_ev (ρ1 := ρ) (vs := [.p x]) (as := [.a x]) (es_cons (var_d hi) rfl) rfl rfl hv rfl) he
  rw [hz] at this
  exact this
theorem law_checks {t : Tr} (rt : Rt t) (hz : sz t ≤ 60) (hh : ht t ≤ 20) (sc : D) (a1 a2 a3 a5 a12 : Sl) : evSs mo (call mo prog 60) b_law_6 (G sc a1 a2 a3 (.d (enc true t)) a5 .no .no .no .no .no .no a12 .no .no .no) = evSs mo (call mo prog 60) b_law_9 (G sc a1 a2 a3 (.d (enc true t)) a5 (.own false ((parts t).map (enc true))) .no .no .no .no .no a12 .no .no .no) := by
  have dt : depLe 25 (enc true t) = true := depLe_mono (by omega) (enc_dep (q := 5) (by decide) (fun _ h => h.elim) rt)
  obtain ⟨v, hv, hvz⟩ := lists_ok 25 _ dt 60 (by decide)
  rw [enc_f] at hvz
  have lP : ((parts t).map (enc true)).length = sz t := by rw [List.length_map, parts_len]
  have dP : depLe 100 (.tup ((parts t).map (enc true))) = true := by
    refine depsLe_of (n := 99) fun x hx => ?_
    obtain ⟨u, mu, rfl⟩ := List.mem_map.mp hx
    obtain ⟨ru, zu, hu⟩ := part_of rt mu
    exact depLe_mono (by omega) (enc_dep (q := 5) (by decide) (fun _ h => h.elim) ru)
  have dF : depLe 100 (.tup (fol t (sz t) 0)) = true := by
    have ha : ∀ (t : Tr) (b s : Int), ∀ x ∈ fol t b s, ∃ i, x = .int i := by
      intro t
      induction t with
      | leaf k e => intro b s x hx; exact ⟨_, List.mem_singleton.mp hx⟩
      | one k e a ih =>
        intro b s x hx
        rcases List.mem_cons.mp hx with rfl | hx
        · exact ⟨_, rfl⟩
        · exact ih _ _ x hx
      | two k e a c iha ihc =>
        intro b s x hx
        rcases List.mem_cons.mp hx with rfl | hx
        · exact ⟨_, rfl⟩
        · rcases List.mem_append.mp hx with hx | hx
          · exact iha _ _ x hx
          · exact ihc _ _ x hx
      | bad d => intro b s x hx; exact ⟨_, List.mem_singleton.mp hx⟩
    refine depsLe_of (n := 99) fun x hx => ?_
    obtain ⟨i, rfl⟩ := ha _ _ _ x hx
    unfold depLe
    rfl
  have hp1 := parts_ok t rt true 60 hh hz (by omega)
  have hp2 := parts_ok t rt false 60 hh hz (by omega)
  have hf1 := followers_ok t rt true 60 hh hz (by omega)
  have hf2 := follow_ok t rt 60 (sz t) 0 (by omega) (by omega)
  have hc := checked_ok t (Rt.ok rt) false 60 hh hz (by omega)
  rw [rt_fb rt] at hc
  refine (ss_nx (ρ1 := G sc a1 a2 a3 (.d (enc true t)) a5 (.own false ((parts t).map (enc true))) .no .no .no .no .no a12 .no .no .no) (asg_ev (call_ev (vs := [.p (enc true t)]) (as := [.a (enc true t)]) rfl rfl rfl (law_parts_ok t (Rt.lt rt) 60 (by omega) (by omega)) rfl) rfl)).trans ?_
  have q1 : evE mo (call mo prog 60) (.cmp .ne (.call 10 (.cons (.var 4) .nil)) (.bi .tuple (.cons (.bor 6) .nil))) (G sc a1 a2 a3 (.d (enc true t)) a5 (.own false ((parts t).map (enc true))) .no .no .no .no .no a12 .no .no .no) = .ok (.p (.bl false)) (G sc a1 a2 a3 (.d (enc true t)) a5 (.own false ((parts t).map (enc true))) .no .no .no .no .no a12 .no .no .no) :=
    cmp_ev (call_ev (vs := [.p (enc true t)]) (as := [.a (enc true t)]) rfl rfl rfl hp1 rfl) (tuple_ev (v := .b 6) rfl rfl) rfl rfl (ne_self dP)
  have q2 : evE mo (call mo prog 60) (.cmp .ne (.call 10 (.cons (.call 24 (.cons (.var 4) .nil)) .nil)) (.bi .tuple (.cons (.bor 6) .nil))) (G sc a1 a2 a3 (.d (enc true t)) a5 (.own false ((parts t).map (enc true))) .no .no .no .no .no a12 .no .no .no) = .ok (.p (.bl false)) (G sc a1 a2 a3 (.d (enc true t)) a5 (.own false ((parts t).map (enc true))) .no .no .no .no .no a12 .no .no .no) :=
    cmp_ev (call_ev (vs := [.p (enc false t)]) (as := [.a (enc false t)]) (es_lists rfl hv hvz rfl) rfl rfl hp2 rfl) (tuple_ev (v := .b 6) rfl rfl) rfl rfl (ne_self dP)
  refine (ss_nx (if_f (or_f q1 q2) rfl)).trans ?_
  have q3 : evE mo (call mo prog 60) (.cmp .ne (.call 13 (.cons (.var 4) .nil)) (.bi .tuple (.cons (.call 25 (.cons (.var 4) (.cons (.bi .len (.cons (.bor 6) .nil)) (.cons (.c (.int 0)) .nil)))) .nil))) (G sc a1 a2 a3 (.d (enc true t)) a5 (.own false ((parts t).map (enc true))) .no .no .no .no .no a12 .no .no .no) = .ok (.p (.bl false)) (G sc a1 a2 a3 (.d (enc true t)) a5 (.own false ((parts t).map (enc true))) .no .no .no .no .no a12 .no .no .no) := by
    refine cmp_ev (call_ev (vs := [.p (enc true t)]) (as := [.a (enc true t)]) rfl rfl rfl hf1 rfl) (tuple_ev (call_ev (vs := [.p (enc true t), .p (.int (sz t : Int)), .p (.int 0)]) (as := [.a (enc true t), .a (.int (sz t : Int)), .a (.int 0)]) ?_ rfl rfl hf2 rfl) rfl) rfl rfl (ne_self dF)
    rw [← lP]
    rfl
  have q4 : evE mo (call mo prog 60) (.cmp .ne (.call 8 (.cons (.call 24 (.cons (.var 4) .nil)) .nil)) (.bor 4)) (G sc a1 a2 a3 (.d (enc true t)) a5 (.own false ((parts t).map (enc true))) .no .no .no .no .no a12 .no .no .no) = .ok (.p (.bl false)) (G sc a1 a2 a3 (.d (enc true t)) a5 (.own false ((parts t).map (enc true))) .no .no .no .no .no a12 .no .no .no) :=
    cmp_ev (call_ev (vs := [.p (enc false t)]) (as := [.a (enc false t)]) (es_lists rfl hv hvz rfl) rfl rfl hc rfl) rfl rfl rfl (ne_self (depLe_mono (by decide) dt))
  exact ss_nx (if_f (or_f q3 q4) rfl)
theorem law_rest (ns : List Int) (hb : ∀ z ∈ ns, z.natAbs.log2 < 2000000) {t : Tr} (rt : Rt t) (hz : sz t ≤ 60) (hh : ht t ≤ 20) (a1 a2 a3 a5 a12 : Sl) : ∃ ρ', evSs mo (call mo prog 60) b_law_9 (G (.lst (ns.map D.int)) a1 a2 a3 (.d (enc true t)) a5 (.own false ((parts t).map (enc true))) .no .no .no .no .no a12 .no .no .no) = .rt (.p (.bl true)) (.d (.lst (ns.map D.int)) :: ρ') := by
  obtain ⟨d0, h9⟩ := source 59 ns 1 (by decide) (by decide) hb
  generalize D.lst (ns.map D.int) = sc at h9
  have lP : ((parts t).map (enc true)).length = sz t := by rw [List.length_map, parts_len]
  have pz : 0 < (sz t : Int) := by have := sz_pos t; omega
  obtain ⟨p0, p1⟩ := pk_lt d0 (sz t) pz
  obtain ⟨x, hx, _, mx⟩ := item_in (xs := (parts t).map (enc true)) (i := pk d0 (sz t)) p0 (by rw [lP]; exact p1)
  obtain ⟨u, mu, rfl⟩ := List.mem_map.mp mx
  obtain ⟨ru, zu, hu⟩ := part_of rt mu
  have lu : ((parts u).map (enc true)).length = sz u := by rw [List.length_map, parts_len]
  obtain ⟨sp, hsp⟩ : ∃ sp : Nat, pk d0 (sz t) = sp := ⟨(pk d0 (sz t)).toNat, by omega⟩
  have hs : sp < sz t := by omega
  obtain ⟨w, d1, hw, mw⟩ := wrong_ok 58 (nx d0 (sz t)) (enc true u)
  have nw := wrong_no ru w mw
  have du : depLe 25 (enc true u) = true := depLe_mono (by omega) (enc_dep (q := 5) (by decide) (fun _ h => h.elim) ru)
  have dw : depLe 26 w = true := wrong_dep (by decide) du w mw
  obtain ⟨w0, w1⟩ := pk_lt d1 3 (by decide)
  have hW : W3 (pk d1 3) := by unfold W3; omega
  have hfb : ∀ q, fb t = some q → sp ≤ q := by
    intro q h
    rw [rt_fb rt] at h
    cases h
  obtain ⟨r1, v, hv, hvz, r2⟩ := bent_ok hW (P := fun _ => False) (fun _ h => h.elim) t rt hh hz sp hs hfb w nw dw
  generalize hwh : pk d1 3 = wh at hW r1 r2
  -- up to the second test
  have st : evSs mo (call mo prog 60) b_law_9 (G sc a1 a2 a3 (.d (enc true t)) a5 (.own false ((parts t).map (enc true))) .no .no .no .no .no a12 .no .no .no) = evSs mo (call mo prog 60) b_law_14 (G sc a1 a2 a3 (.d (enc true t)) a5 (.own false ((parts t).map (enc true))) (.own false (nx d1 3).l) (.d (.int sp)) (.d (enc true (putT t sp w))) (.d (.int wh)) .no a12 .no .no .no) := by
    refine (ss_nx (ρ1 := G sc a1 a2 a3 (.d (enc true t)) a5 (.own false ((parts t).map (enc true))) (.own false d0.l) .no .no .no .no a12 .no .no .no) (asg_ev (call_ev (vs := [.p sc, .p (.int 1)]) (as := [.a sc, .a (.int 1)]) rfl rfl rfl h9 rfl) rfl)).trans ?_
    refine (ss_nx (ρ1 := G sc a1 a2 a3 (.d (enc true t)) a5 (.own false ((parts t).map (enc true))) (.own false (nx d0 (sz t)).l) (.d (.int sp)) .no .no .no a12 .no .no .no) (asg_ev (v := .p (.int sp)) (by
      rw [← hsp]
      exact pick_ev (n := 59) (i := 7) (m := sz t) (l := false) (s := d0) rfl (by rw [← lP]; rfl) pz (by omega)) rfl)).trans ?_
    rw [hsp] at hx
    refine (ss_nx (ρ1 := G sc a1 a2 a3 (.d (enc true t)) a5 (.own false ((parts t).map (enc true))) (.own false d1.l) (.d (.int sp)) (.d (enc true (putT t sp w))) .no .no a12 .no .no .no) (asg_ev (call_ev (es_cons (v := .p (enc true t)) rfl (es_cons (v := .p (.int sp)) rfl (es_cons (v := .p w) (call_ev (es_cons (v := .b 7) rfl (es_cons (v := .p (enc true u)) (ix_ev (v := .b 6) (w := .p (.int sp)) (x := .lst ((parts t).map (enc true))) (y := .int sp) rfl rfl rfl rfl hx) rfl)) (as := [.o (nx d0 (sz t)).l, .a (enc true u)]) rfl rfl hw rfl) rfl))) (as := [.a (enc true t), .a (.int sp), .a w]) rfl rfl (put_ok w t (Rt.lt rt) sp 60 hs (by omega) (by omega)) rfl) rfl)).trans ?_
    refine (ss_nx (ρ1 := G sc a1 a2 a3 (.d (enc true t)) a5 (.own false ((parts t).map (enc true))) (.own false (nx d1 3).l) (.d (.int sp)) (.d (enc true (putT t sp w))) (.d (.int wh)) .no a12 .no .no .no) (asg_ev (v := .p (.int wh)) (by
      rw [← hwh]
      exact pick_ev (n := 59) (i := 7) (m := 3) (l := false) (s := d1) rfl rfl (by decide) (by decide)) rfl)).trans ?_
    have q1 : evE mo (call mo prog 60) (.cmp .ne (.call 26 (.cons (.var 10) (.cons (.var 9) .nil))) (.bor 8)) (G sc a1 a2 a3 (.d (enc true t)) a5 (.own false ((parts t).map (enc true))) (.own false (nx d1 3).l) (.d (.int sp)) (.d (enc true (putT t sp w))) (.d (.int wh)) .no a12 .no .no .no) = .ok (.p (.bl false)) (G sc a1 a2 a3 (.d (enc true t)) a5 (.own false ((parts t).map (enc true))) (.own false (nx d1 3).l) (.d (.int sp)) (.d (enc true (putT t sp w))) (.d (.int wh)) .no a12 .no .no .no) :=
      cmp_ev (call_ev (vs := [.p (.int wh), .p (enc true (putT t sp w))]) (as := [.a (.int wh), .a (enc true (putT t sp w))]) rfl rfl rfl r1 rfl) rfl rfl rfl (ne_self (by unfold depLe; rfl))
    have q2 : evE mo (call mo prog 60) (.cmp .ne (.call 26 (.cons (.var 10) (.cons (.call 24 (.cons (.var 9) .nil)) .nil))) (.bor 8)) (G sc a1 a2 a3 (.d (enc true t)) a5 (.own false ((parts t).map (enc true))) (.own false (nx d1 3).l) (.d (.int sp)) (.d (enc true (putT t sp w))) (.d (.int wh)) .no a12 .no .no .no) = .ok (.p (.bl false)) (G sc a1 a2 a3 (.d (enc true t)) a5 (.own false ((parts t).map (enc true))) (.own false (nx d1 3).l) (.d (.int sp)) (.d (enc true (putT t sp w))) (.d (.int wh)) .no a12 .no .no .no) :=
      cmp_ev (call_ev (es_cons (v := .p (.int wh)) rfl (es_lists rfl hv hvz rfl)) (as := [.a (.int wh), .a (enc false (putT t sp w))]) rfl rfl r2 rfl) rfl rfl rfl (ne_self (by unfold depLe; rfl))
    exact ss_nx (if_f (or_f q1 q2) rfl)
  generalize nx d1 3 = d2 at st
  generalize hE : G sc a1 a2 a3 (.d (enc true t)) a5 (.own false ((parts t).map (enc true))) (.own false d2.l) (.d (.int sp)) (.d (enc true (putT t sp w))) (.d (.int wh)) .no a12 .no .no .no = ρ14 at st
  rw [hsp] at hx
  -- later ones
  obtain ⟨xs, ρ1, e1, ⟨s15, rfl⟩, hQ, hxl⟩ := lc_filter (f := lcf mo (call mo prog 60) [15] (.cons (.cmp .gt (.bor 15) (.bin .sub (.bin .add (.bor 8) (.bi .len (.cons (.call 20 (.cons (.ix (.bor 6) (.bor 8)) .nil)) .nil))) (.c (.int 1)))) .nil) (.var 15)) (fun ρ => ∃ s, ρ = G sc a1 a2 a3 (.d (enc true t)) a5 (.own false ((parts t).map (enc true))) (.own false d2.l) (.d (.int sp)) (.d (enc true (putT t sp w))) (.d (.int wh)) .no a12 .no .no s) (fun x => ∃ k : Nat, x = .int k ∧ sp < k ∧ k < sz t) (intsD 0 (sz t)) ρ14 ⟨_, hE.symm⟩ (by
    rintro d md ρ ⟨s, rfl⟩
    obtain ⟨k, hk, rfl⟩ := mem_ints md
    rw [Int.zero_add]
    have hc : evE mo (call mo prog 60) (.cmp .gt (.bor 15) (.bin .sub (.bin .add (.bor 8) (.bi .len (.cons (.call 20 (.cons (.ix (.bor 6) (.bor 8)) .nil)) .nil))) (.c (.int 1)))) (G sc a1 a2 a3 (.d (enc true t)) a5 (.own false ((parts t).map (enc true))) (.own false d2.l) (.d (.int sp)) (.d (enc true (putT t sp w))) (.d (.int wh)) .no a12 .no .no (.d (.int k))) = .ok (.p (.bl (decide ((sp : Int) + sz u - 1 < k)))) (G sc a1 a2 a3 (.d (enc true t)) a5 (.own false ((parts t).map (enc true))) (.own false d2.l) (.d (.int sp)) (.d (enc true (putT t sp w))) (.d (.int wh)) .no a12 .no .no (.d (.int k))) := by
      refine cmp_ev (v := .p (.int k)) (w := .p (.int ((sp : Int) + sz u - 1))) rfl (bin_ev (v := .p (.int ((sp : Int) + sz u))) (w := .p (.int 1)) (bin_ev (v := .p (.int sp)) (w := .p (.int (sz u))) rfl (len_ev (d := .lst ((parts u).map (enc true))) (call_ev (es_cons (v := .p (enc true u)) (ix_ev (v := .b 6) (w := .p (.int sp)) (x := .lst ((parts t).map (enc true))) (y := .int sp) rfl rfl rfl rfl hx) rfl) (as := [.a (enc true u)]) rfl rfl (law_parts_ok u (Rt.lt ru) 60 (by omega) (by omega)) rfl) rfl (by rw [← lu]; rfl)) rfl rfl rfl) rfl rfl rfl rfl) rfl rfl rfl
    by_cases hg : (sp : Int) + sz u - 1 < k
    · rw [decide_eq_true hg] at hc
      refine ⟨some (.int k), G sc a1 a2 a3 (.d (enc true t)) a5 (.own false ((parts t).map (enc true))) (.own false d2.l) (.d (.int sp)) (.d (enc true (putT t sp w))) (.d (.int wh)) .no a12 .no .no (.d (.int k)), ?_, ⟨_, rfl⟩, ?_⟩
      · have hbd : bindT (wipe (G sc a1 a2 a3 (.d (enc true t)) a5 (.own false ((parts t).map (enc true))) (.own false d2.l) (.d (.int sp)) (.d (enc true (putT t sp w))) (.d (.int wh)) .no a12 .no .no s) [15]) [15] (.int k) = some (G sc a1 a2 a3 (.d (enc true t)) a5 (.own false ((parts t).map (enc true))) (.own false d2.l) (.d (.int sp)) (.d (enc true (putT t sp w))) (.d (.int wh)) .no a12 .no .no (.d (.int k))) := rfl
        unfold lcf
        rw [hbd]
        simp only [evAnd, hc]
        rfl
      · intro y hy
        cases hy
        have := sz_pos u
        exact ⟨k, rfl, by omega, hk⟩
    · rw [decide_eq_false hg] at hc
      refine ⟨none, G sc a1 a2 a3 (.d (enc true t)) a5 (.own false ((parts t).map (enc true))) (.own false d2.l) (.d (.int sp)) (.d (enc true (putT t sp w))) (.d (.int wh)) .no a12 .no .no (.d (.int k)), ?_, ⟨_, rfl⟩, nofun⟩
      have hbd : bindT (wipe (G sc a1 a2 a3 (.d (enc true t)) a5 (.own false ((parts t).map (enc true))) (.own false d2.l) (.d (.int sp)) (.d (enc true (putT t sp w))) (.d (.int wh)) .no a12 .no .no s) [15]) [15] (.int k) = some (G sc a1 a2 a3 (.d (enc true t)) a5 (.own false ((parts t).map (enc true))) (.own false d2.l) (.d (.int sp)) (.d (enc true (putT t sp w))) (.d (.int wh)) .no a12 .no .no (.d (.int k))) := rfl
      unfold lcf
      rw [hbd]
      simp only [evAnd, hc]
      rfl)
  have h14 : evSs mo (call mo prog 60) b_law_14 ρ14 = evSs mo (call mo prog 60) b_law_15 (G sc a1 a2 a3 (.d (enc true t)) a5 (.own false ((parts t).map (enc true))) (.own false d2.l) (.d (.int sp)) (.d (enc true (putT t sp w))) (.d (.int wh)) (.own false xs) a12 .no .no .no) := by
    rw [← hE] at e1 ⊢
    refine ss_nx (asg_ev (lc_ev ?_ rfl e1) rfl)
    have hl : evE mo (call mo prog 60) (.bi .len (.cons (.bor 6) .nil)) (G sc a1 a2 a3 (.d (enc true t)) a5 (.own false ((parts t).map (enc true))) (.own false d2.l) (.d (.int sp)) (.d (enc true (putT t sp w))) (.d (.int wh)) .no a12 .no .no .no) = .ok (.p (.int (sz t))) (G sc a1 a2 a3 (.d (enc true t)) a5 (.own false ((parts t).map (enc true))) (.own false d2.l) (.d (.int sp)) (.d (enc true (putT t sp w))) (.d (.int wh)) .no a12 .no .no .no) := by
      rw [← lP]
      rfl
    rw [evIt, hl]
    simp only
    rw [if_pos (by omega), Int.toNat_natCast]
  -- a further one behind it
  have h15 : ∃ (d3 : Sr) (s13 s14 : Sl), evSs mo (call mo prog 60) b_law_15 (G sc a1 a2 a3 (.d (enc true t)) a5 (.own false ((parts t).map (enc true))) (.own false d2.l) (.d (.int sp)) (.d (enc true (putT t sp w))) (.d (.int wh)) (.own false xs) a12 .no .no .no) = evSs mo (call mo prog 60) b_law_16 (G sc a1 a2 a3 (.d (enc true t)) a5 (.own false ((parts t).map (enc true))) (.own false d3.l) (.d (.int sp)) (.d (enc true (putT t sp w))) (.d (.int wh)) (.own false xs) a12 s13 s14 .no) := by
    have hgt : evE mo (call mo prog 60) (.cmp .gt (.bi .len (.cons (.bor 11) .nil)) (.c (.int 0))) (G sc a1 a2 a3 (.d (enc true t)) a5 (.own false ((parts t).map (enc true))) (.own false d2.l) (.d (.int sp)) (.d (enc true (putT t sp w))) (.d (.int wh)) (.own false xs) a12 .no .no .no) = .ok (.p (.bl (decide (0 < (xs.length : Int))))) (G sc a1 a2 a3 (.d (enc true t)) a5 (.own false ((parts t).map (enc true))) (.own false d2.l) (.d (.int sp)) (.d (enc true (putT t sp w))) (.d (.int wh)) (.own false xs) a12 .no .no .no) := rfl
    by_cases hx0 : 0 < (xs.length : Int)
    · rw [decide_eq_true hx0] at hgt
      obtain ⟨l0, l1⟩ := pk_lt d2 xs.length hx0
      obtain ⟨y, hy, _, my⟩ := item_in (xs := xs) (i := pk d2 xs.length) l0 l1
      obtain ⟨o, rfl, ho1, ho2⟩ := hQ y my
      have hlen : xs.length ≤ 60 := by
        have : (intsD 0 (sz t)).length = sz t := by simp [intsD]
        omega
      obtain ⟨w2, d4, hw2, mw2⟩ := wrong_ok 58 (nx d2 xs.length) (enc true u)
      have nw2 := wrong_no ru w2 mw2
      have dw2 : depLe 26 w2 = true := wrong_dep (by decide) du w2 mw2
      have g1 : Lt (putT t o both) := put_good (Q := (· = both)) both rfl (fun _ f => f.elim) t o rt
      have f1 := put_fb both t o ho2 (fun q h => by rw [rt_fb rt] at h; cases h)
      have z1 := put_sz both t o
      have k1 := put_ht both t o
      have hs1 : sp < sz (putT t o both) := by
        have := fb_lt f1
        omega
      obtain ⟨r3, _⟩ := bent_ok hW (P := (· = both)) (fun d h => by rw [h]; exact ⟨both_no, by decide⟩) (putT t o both) g1 (by omega) (by omega) sp hs1 (fun q h => by rw [f1] at h; cases h; omega) w2 nw2 dw2
      refine ⟨d4, .d (.int o), .d (enc true (putT (putT t o both) sp w2)), ss_nx (if_t hgt ?_)⟩
      refine (ss_nx (ρ1 := G sc a1 a2 a3 (.d (enc true t)) a5 (.own false ((parts t).map (enc true))) (.own false (nx d2 xs.length).l) (.d (.int sp)) (.d (enc true (putT t sp w))) (.d (.int wh)) (.own false xs) a12 (.d (.int o)) .no .no) (asg_ev (ix_ev (v := .b 11) (w := .p (.int (pk d2 xs.length))) (x := .lst xs) (y := .int (pk d2 xs.length)) rfl (pick_ev (n := 59) (i := 7) (m := xs.length) (l := false) (s := d2) rfl rfl hx0 (by omega)) rfl rfl hy) rfl)).trans ?_
      refine (ss_nx (ρ1 := G sc a1 a2 a3 (.d (enc true t)) a5 (.own false ((parts t).map (enc true))) (.own false d4.l) (.d (.int sp)) (.d (enc true (putT t sp w))) (.d (.int wh)) (.own false xs) a12 (.d (.int o)) (.d (enc true (putT (putT t o both) sp w2))) .no) (asg_ev (call_ev (es_cons (v := .p (enc true (putT t o both))) (call_ev (vs := [.p (enc true t), .p (.int o), .p both]) (as := [.a (enc true t), .a (.int o), .a both]) rfl rfl rfl (put_ok both t (Rt.lt rt) o 60 ho2 (by omega) (by omega)) rfl) (es_cons (v := .p (.int sp)) rfl (es_cons (v := .p w2) (call_ev (es_cons (v := .b 7) rfl (es_cons (v := .p (enc true u)) (ix_ev (v := .b 6) (w := .p (.int sp)) (x := .lst ((parts t).map (enc true))) (y := .int sp) rfl rfl rfl rfl hx) rfl)) (as := [.o (nx d2 xs.length).l, .a (enc true u)]) rfl rfl hw2 rfl) rfl))) (as := [.a (enc true (putT t o both)), .a (.int sp), .a w2]) rfl rfl (put_ok w2 (putT t o both) g1 sp 60 hs1 (by omega) (by omega)) rfl) rfl)).trans ?_
      refine ss_nx (if_f (cmp_ev (call_ev (vs := [.p (.int wh), .p (enc true (putT (putT t o both) sp w2))]) (as := [.a (.int wh), .a (enc true (putT (putT t o both) sp w2))]) rfl rfl rfl r3 rfl) rfl rfl rfl (ne_self (by unfold depLe; rfl))) rfl)
    · rw [decide_eq_false hx0] at hgt
      exact ⟨d2, .no, .no, ss_nx (if_f hgt rfl)⟩
  obtain ⟨d3, s13, s14, h15⟩ := h15
  have h16 : evSs mo (call mo prog 60) b_law_16 (G sc a1 a2 a3 (.d (enc true t)) a5 (.own false ((parts t).map (enc true))) (.own false d3.l) (.d (.int sp)) (.d (enc true (putT t sp w))) (.d (.int wh)) (.own false xs) a12 s13 s14 .no) = evSs mo (call mo prog 60) b_law_17 (G sc a1 a2 a3 (.d (enc true t)) a5 (.own false ((parts t).map (enc true))) (.own false (nx d3 4).l) (.d (.int sp)) (.d (enc true (putT t sp w))) (.d (.int wh)) (.own false xs) a12 s13 s14 .no) := by
    have hp := pick_is (n := 59) (ρ := G sc a1 a2 a3 (.d (enc true t)) a5 (.own false ((parts t).map (enc true))) (.own false d3.l) (.d (.int sp)) (.d (enc true (putT t sp w))) (.d (.int wh)) (.own false xs) a12 s13 s14 .no) (l := false) (s := d3) (i := 7) (m := 4) (q := 2) rfl (by decide) (by decide)
    generalize D.beq (.int (pk d3 4)) (.int 2) = c at hp
    obtain ⟨bA, bB, bC⟩ := big_ref hW
    cases c with
    | false => exact ss_nx (if_f hp rfl)
    | true =>
      refine ss_nx (if_t hp ?_)
      refine (ss_nx (ρ1 := G sc a1 a2 a3 (.d (enc true t)) a5 (.own false ((parts t).map (enc true))) (.own false (nx d3 4).l) (.d (.int sp)) (.d (enc true (putT t sp w))) (.d (.int wh)) (.own false xs) a12 s13 s14 .no) (if_f (cmp_ev (call_ev (es_cons (v := .p (.int wh)) rfl (es_cons (v := .p bigA) (bigA_ev _) rfl)) (as := [.a (.int wh), .a bigA]) rfl rfl bA rfl) rfl rfl rfl (ne_self (by unfold depLe; rfl))) rfl)).trans ?_
      refine ss_nx (if_f (or_f (cmp_ev (call_ev (es_cons (v := .p (.int wh)) rfl (es_cons (v := .p bigB) (bigB_ev _) rfl)) (as := [.a (.int wh), .a bigB]) rfl rfl bB rfl) rfl rfl rfl (ne_self (by unfold depLe; rfl))) (cmp_ev (call_ev (es_cons (v := .p (.int wh)) rfl (es_cons (v := .p bigC) (bigC_ev _) rfl)) (as := [.a (.int wh), .a bigC]) rfl rfl bC rfl) rfl rfl rfl (ne_self (by unfold depLe; rfl)))) rfl)
  refine ⟨_, st.trans (h14.trans (h15.trans (h16.trans (ss_rt (ret_ev (isN_ev (call_ev (vs := [.p (.int wh), .p (enc true t)]) (as := [.a (.int wh), .a (enc true t)]) rfl rfl rfl (refusal_ok hW t rt true 60 hh hz (by omega)) rfl)) (by intro i h; cases h) (by intro i h; cases h))))))⟩
theorem law_true (ns : List Int) (hl : ns.length ≤ 63) (hb : ∀ z ∈ ns, z.natAbs.log2 < 2000000) : call mo prog 61 n_law [.a (.lst (ns.map D.int))] = .ok (.p (.bl true)) [] := by
  obtain ⟨t, s, F, NM, odd, s12, rt, hz, hh, _, h1⟩ := law_tree ns hb
  obtain ⟨ρ', h2⟩ := law_rest ns hb rt hz hh (.own false s.l) (.d (.tup F)) (.d (.tup NM)) (.d (.int odd)) s12
  rw [show n_law = 30 from rfl, call_s _ _ _ F_law rfl]
  exact run0 (ρ0 := G (.lst (ns.map D.int)) .no .no .no .no .no .no .no .no .no .no .no .no .no .no .no) (h1.trans ((law_checks rt hz hh _ _ _ _ _ _).trans h2)) rfl rfl (by intro i h; cases h) rfl
end K07
end
section
namespace K07
open PySem L2 Cz Cs PyProof.Rows
def top (i : Nat) : Stmt := PySem.Challenge.pw_eachpicks_k07_whole_trees.main.body.getD i (.Pass ⟨0, 0, 0, 0⟩)
def T : Tab := {
  defs := [("is_listed", 0, 1), ("is_letters", 1, 1), ("is_name", 2, 1), ("told_saying", 3, 3), ("saying_or_none", 4, 1), ("head_of", 5, 1), ("arms_of", 6, 1), ("walked", 7, 3), ("checked_tree", 8, 1), ("all_parts", 9, 1), ("parts_of", 10, 1), ("inner_spots", 11, 2), ("after_spots", 12, 2), ("followers", 13, 1), ("_law_source", 14, 2), ("_law_pick", 15, 2), ("_law_say", 16, 3), ("_law_leaf", 17, 3), ("_law_tree", 18, 4), ("_law_arms", 19, 1), ("_law_parts", 20, 1), ("_law_put_at", 21, 3), ("_law_fact_names", 22, 2), ("_law_deed_names", 23, 2), ("_law_lists", 24, 1), ("_law_follow", 25, 3), ("_law_refusal", 26, 2), ("_law_wrong", 27, 2), ("_law_tower", 28, 2), ("_law_broad", 29, 1), ("law", 30, 1)]
  cons := [("WORDS", 0), ("LONGEST_NAME", 1), ("MOST_TUPLES", 2), ("DEEPEST_sayings", 3), ("ARMS_sayings", 4), ("MOST_PARTS", 5), ("DEEPEST_trees", 6), ("ARMS_trees", 7)]
  cls := [("DealsError", 0), ("WrongNumber", 1), ("BadDeal", 2)]
  mks := [("WrongNumber", 1), ("BadDeal", 2)]
  fld := [("number", 0)] }
def N_is_listed : List Str := ["thing"]
theorem ok_is_listed : okSs ⟨T, N_is_listed, defScope (top 7), defScope (top 7)⟩ b_is_listed (defBody (top 7)) = true := by decide +kernel
theorem sc_is_listed : scB N_is_listed ["thing"] (defScope (top 7)) = true := by decide +kernel
def N_is_letters : List Str := ["thing", "letter"]
theorem ok_is_letters : okSs ⟨T, N_is_letters, defScope (top 8), defScope (top 8)⟩ b_is_letters (defBody (top 8)) = true := by decide +kernel
theorem sc_is_letters : scB N_is_letters ["thing"] (defScope (top 8)) = true := by decide +kernel
def N_is_name : List Str := ["thing"]
theorem ok_is_name : okSs ⟨T, N_is_name, defScope (top 9), defScope (top 9)⟩ b_is_name (defBody (top 9)) = true := by decide +kernel
theorem sc_is_name : scB N_is_name ["thing"] (defScope (top 9)) = true := by decide +kernel
def N_told_saying : List Str := ["thing", "depth", "room", "kind", "told", "left", "arm", "found"]
theorem ok_told_saying : okSs ⟨T, N_told_saying, defScope (top 14), defScope (top 14)⟩ b_told_saying (defBody (top 14)) = true := by decide +kernel
theorem sc_told_saying : scB N_told_saying ["thing", "depth", "room"] (defScope (top 14)) = true := by decide +kernel
def N_saying_or_none : List Str := ["thing", "found"]
theorem ok_saying_or_none : okSs ⟨T, N_saying_or_none, defScope (top 15), defScope (top 15)⟩ b_saying_or_none (defBody (top 15)) = true := by decide +kernel
theorem sc_saying_or_none : scB N_saying_or_none ["thing"] (defScope (top 15)) = true := by decide +kernel
def N_head_of : List Str := ["thing", "kind", "saying"]
theorem ok_head_of : okSs ⟨T, N_head_of, defScope (top 20), defScope (top 20)⟩ b_head_of (defBody (top 20)) = true := by decide +kernel
theorem sc_head_of : scB N_head_of ["thing"] (defScope (top 20)) = true := by decide +kernel
def N_arms_of : List Str := ["part"]
theorem ok_arms_of : okSs ⟨T, N_arms_of, defScope (top 21), defScope (top 21)⟩ b_arms_of (defBody (top 21)) = true := by decide +kernel
theorem sc_arms_of : scB N_arms_of ["part"] (defScope (top 21)) = true := by decide +kernel
def N_walked : List Str := ["thing", "depth", "spot", "head", "told", "at", "arm", "inner"]
theorem ok_walked : okSs ⟨T, N_walked, defScope (top 22), defScope (top 22)⟩ b_walked (defBody (top 22)) = true := by decide +kernel
theorem sc_walked : scB N_walked ["thing", "depth", "spot"] (defScope (top 22)) = true := by decide +kernel
def N_checked_tree : List Str := ["thing"]
theorem ok_checked_tree : okSs ⟨T, N_checked_tree, defScope (top 23), defScope (top 23)⟩ b_checked_tree (defBody (top 23)) = true := by decide +kernel
theorem sc_checked_tree : scB N_checked_tree ["thing"] (defScope (top 23)) = true := by decide +kernel
def N_all_parts : List Str := ["tree", "arm", "part"]
theorem ok_all_parts : okSs ⟨T, N_all_parts, defScope (top 24), defScope (top 24)⟩ b_all_parts (defBody (top 24)) = true := by decide +kernel
theorem sc_all_parts : scB N_all_parts ["tree"] (defScope (top 24)) = true := by decide +kernel
def N_parts_of : List Str := ["tree"]
theorem ok_parts_of : okSs ⟨T, N_parts_of, defScope (top 25), defScope (top 25)⟩ b_parts_of (defBody (top 25)) = true := by decide +kernel
theorem sc_parts_of : scB N_parts_of ["tree"] (defScope (top 25)) = true := by decide +kernel
def N_inner_spots : List Str := ["tree", "spot", "told", "own", "at", "arm", "found"]
theorem ok_inner_spots : okSs ⟨T, N_inner_spots, defScope (top 26), defScope (top 26)⟩ b_inner_spots (defBody (top 26)) = true := by decide +kernel
theorem sc_inner_spots : scB N_inner_spots ["tree", "spot"] (defScope (top 26)) = true := by decide +kernel
def N_after_spots : List Str := ["parts", "inner", "told", "spot", "part", "kind", "arms", "number", "arm"]
theorem ok_after_spots : okSs ⟨T, N_after_spots, defScope (top 27), defScope (top 27)⟩ b_after_spots (defBody (top 27)) = true := by decide +kernel
theorem sc_after_spots : scB N_after_spots ["parts", "inner"] (defScope (top 27)) = true := by decide +kernel
def N_followers : List Str := ["tree", "told"]
theorem ok_followers : okSs ⟨T, N_followers, defScope (top 28), defScope (top 28)⟩ b_followers (defBody (top 28)) = true := by decide +kernel
theorem sc_followers : scB N_followers ["tree"] (defScope (top 28)) = true := by decide +kernel
def N__law_source : List Str := ["script", "place", "cell", "seed", "one", "number"]
theorem ok__law_source : okSs ⟨T, N__law_source, defScope (top 30), defScope (top 30)⟩ b__law_source (defBody (top 30)) = true := by decide +kernel
theorem sc__law_source : scB N__law_source ["script", "place"] (defScope (top 30)) = true := by decide +kernel
def N__law_pick : List Str := ["source", "many", "mixed", "digit"]
theorem ok__law_pick : okSs ⟨T, N__law_pick, defScope (top 31), defScope (top 31)⟩ b__law_pick (defBody (top 31)) = true := by decide +kernel
theorem sc__law_pick : scB N__law_pick ["source", "many"] (defScope (top 31)) = true := by decide +kernel
def N__law_say : List Str := ["source", "facts", "depth", "kind", "one"]
theorem ok__law_say : okSs ⟨T, N__law_say, defScope (top 32), defScope (top 32)⟩ b__law_say (defBody (top 32)) = true := by decide +kernel
theorem sc__law_say : scB N__law_say ["source", "facts", "depth"] (defScope (top 32)) = true := by decide +kernel
def N__law_leaf : List Str := ["source", "facts", "names", "kind"]
theorem ok__law_leaf : okSs ⟨T, N__law_leaf, defScope (top 33), defScope (top 33)⟩ b__law_leaf (defBody (top 33)) = true := by decide +kernel
theorem sc__law_leaf : scB N__law_leaf ["source", "facts", "names"] (defScope (top 33)) = true := by decide +kernel
def N__law_tree : List Str := ["source", "facts", "names", "size", "kind", "many", "one", "two", "word", "head"]
theorem ok__law_tree : okSs ⟨T, N__law_tree, defScope (top 34), defScope (top 34)⟩ b__law_tree (defBody (top 34)) = true := by decide +kernel
theorem sc__law_tree : scB N__law_tree ["source", "facts", "names", "size"] (defScope (top 34)) = true := by decide +kernel
def N__law_arms : List Str := ["part", "many"]
theorem ok__law_arms : okSs ⟨T, N__law_arms, defScope (top 35), defScope (top 35)⟩ b__law_arms (defBody (top 35)) = true := by decide +kernel
theorem sc__law_arms : scB N__law_arms ["part"] (defScope (top 35)) = true := by decide +kernel
def N__law_parts : List Str := ["tree", "told", "arm"]
theorem ok__law_parts : okSs ⟨T, N__law_parts, defScope (top 36), defScope (top 36)⟩ b__law_parts (defBody (top 36)) = true := by decide +kernel
theorem sc__law_parts : scB N__law_parts ["tree"] (defScope (top 36)) = true := by decide +kernel
def N__law_put_at : List Str := ["tree", "spot", "put", "arms", "told", "at", "arm", "many"]
theorem ok__law_put_at : okSs ⟨T, N__law_put_at, defScope (top 37), defScope (top 37)⟩ b__law_put_at (defBody (top 37)) = true := by decide +kernel
theorem sc__law_put_at : scB N__law_put_at ["tree", "spot", "put"] (defScope (top 37)) = true := by decide +kernel
def N__law_fact_names : List Str := ["source", "many", "menu"]
theorem ok__law_fact_names : okSs ⟨T, N__law_fact_names, defScope (top 38), defScope (top 38)⟩ b__law_fact_names (defBody (top 38)) = true := by decide +kernel
theorem sc__law_fact_names : scB N__law_fact_names ["source", "many"] (defScope (top 38)) = true := by decide +kernel
def N__law_deed_names : List Str := ["source", "many", "menu"]
theorem ok__law_deed_names : okSs ⟨T, N__law_deed_names, defScope (top 39), defScope (top 39)⟩ b__law_deed_names (defBody (top 39)) = true := by decide +kernel
theorem sc__law_deed_names : scB N__law_deed_names ["source", "many"] (defScope (top 39)) = true := by decide +kernel
def N__law_lists : List Str := ["thing", "one"]
theorem ok__law_lists : okSs ⟨T, N__law_lists, defScope (top 40), defScope (top 40)⟩ b__law_lists (defBody (top 40)) = true := by decide +kernel
theorem sc__law_lists : scB N__law_lists ["thing"] (defScope (top 40)) = true := by decide +kernel
def N__law_follow : List Str := ["tree", "behind", "at", "kind", "told", "place", "arms", "k", "many", "after"]
theorem ok__law_follow : okSs ⟨T, N__law_follow, defScope (top 41), defScope (top 41)⟩ b__law_follow (defBody (top 41)) = true := by decide +kernel
theorem sc__law_follow : scB N__law_follow ["tree", "behind", "at"] (defScope (top 41)) = true := by decide +kernel
def N__law_refusal : List Str := ["which", "tree", "error"]
theorem ok__law_refusal : okSs ⟨T, N__law_refusal, defScope (top 42), defScope (top 42)⟩ b__law_refusal (defBody (top 42)) = true := by decide +kernel
theorem sc__law_refusal : scB N__law_refusal ["which", "tree"] (defScope (top 42)) = true := by decide +kernel
def N__law_wrong : List Str := ["source", "old", "menu"]
theorem ok__law_wrong : okSs ⟨T, N__law_wrong, defScope (top 43), defScope (top 43)⟩ b__law_wrong (defBody (top 43)) = true := by decide +kernel
theorem sc__law_wrong : scB N__law_wrong ["source", "old"] (defScope (top 43)) = true := by decide +kernel
def N__law_tower : List Str := ["many", "kind", "told", "k"]
theorem ok__law_tower : okSs ⟨T, N__law_tower, defScope (top 44), defScope (top 44)⟩ b__law_tower (defBody (top 44)) = true := by decide +kernel
theorem sc__law_tower : scB N__law_tower ["many", "kind"] (defScope (top 44)) = true := by decide +kernel
def N__law_broad : List Str := ["many", "half"]
theorem ok__law_broad : okSs ⟨T, N__law_broad, defScope (top 45), defScope (top 45)⟩ b__law_broad (defBody (top 45)) = true := by decide +kernel
theorem sc__law_broad : scB N__law_broad ["many"] (defScope (top 45)) = true := by decide +kernel
def N_law : List Str := ["script", "source", "facts", "names", "tree", "odd", "parts", "drawer", "spot", "bent", "which", "later", "menu", "other", "twice", "k"]
theorem ok_law : okSs ⟨T, N_law, defScope (top 46), defScope (top 46)⟩ b_law (defBody (top 46)) = true := by decide +kernel
theorem sc_law : scB N_law ["script"] (defScope (top 46)) = true := by decide +kernel
def xn : List (Str × Str) := [("DealsError", "number"), ("WrongNumber", "number"), ("BadDeal", "number")]
def init_WrongNumber : Stmt := inCls (top 2) 0
theorem il_WrongNumber : InitL 1 "number" init_WrongNumber := ⟨⟨_, _, _, _, _, _, _, _, _, _, _, _, rfl, by decide +kernel, rfl, ⟨_, rfl, rfl⟩, by decide +kernel, rfl, rfl, by decide, by decide, by decide, by decide, fun _ _ _ _ _ _ us hl => match us, hl with | [_, _], _ => rfl⟩⟩
section
variable {K : PySem.W.Frag}
theorem d_is_listed (h : fnR K (gAt K "is_listed") = stR "is_listed" (top 7)) : DefP T prog K "is_listed" 0 ["thing"] := ⟨top 7, N_is_listed, F_is_listed, h, sc_is_listed, rfl, rfl, by decide, ok_is_listed, rfl, fun _ _ _ _ _ _ us hl => match us, hl with | [_], _ => rfl⟩
theorem d_is_letters (h : fnR K (gAt K "is_letters") = stR "is_letters" (top 8)) : DefP T prog K "is_letters" 1 ["thing"] := ⟨top 8, N_is_letters, F_is_letters, h, sc_is_letters, rfl, rfl, by decide, ok_is_letters, rfl, fun _ _ _ _ _ _ us hl => match us, hl with | [_], _ => rfl⟩
theorem d_is_name (h : fnR K (gAt K "is_name") = stR "is_name" (top 9)) : DefP T prog K "is_name" 2 ["thing"] := ⟨top 9, N_is_name, F_is_name, h, sc_is_name, rfl, rfl, by decide, ok_is_name, rfl, fun _ _ _ _ _ _ us hl => match us, hl with | [_], _ => rfl⟩
theorem d_told_saying (h : fnR K (gAt K "told_saying") = stR "told_saying" (top 14)) : DefP T prog K "told_saying" 3 ["thing", "depth", "room"] := ⟨top 14, N_told_saying, F_told_saying, h, sc_told_saying, rfl, rfl, by decide, ok_told_saying, rfl, fun _ _ _ _ _ _ us hl => match us, hl with | [_, _, _], _ => rfl⟩
theorem d_saying_or_none (h : fnR K (gAt K "saying_or_none") = stR "saying_or_none" (top 15)) : DefP T prog K "saying_or_none" 4 ["thing"] := ⟨top 15, N_saying_or_none, F_saying_or_none, h, sc_saying_or_none, rfl, rfl, by decide, ok_saying_or_none, rfl, fun _ _ _ _ _ _ us hl => match us, hl with | [_], _ => rfl⟩
theorem d_head_of (h : fnR K (gAt K "head_of") = stR "head_of" (top 20)) : DefP T prog K "head_of" 5 ["thing"] := ⟨top 20, N_head_of, F_head_of, h, sc_head_of, rfl, rfl, by decide, ok_head_of, rfl, fun _ _ _ _ _ _ us hl => match us, hl with | [_], _ => rfl⟩
theorem d_arms_of (h : fnR K (gAt K "arms_of") = stR "arms_of" (top 21)) : DefP T prog K "arms_of" 6 ["part"] := ⟨top 21, N_arms_of, F_arms_of, h, sc_arms_of, rfl, rfl, by decide, ok_arms_of, rfl, fun _ _ _ _ _ _ us hl => match us, hl with | [_], _ => rfl⟩
theorem d_walked (h : fnR K (gAt K "walked") = stR "walked" (top 22)) : DefP T prog K "walked" 7 ["thing", "depth", "spot"] := ⟨top 22, N_walked, F_walked, h, sc_walked, rfl, rfl, by decide, ok_walked, rfl, fun _ _ _ _ _ _ us hl => match us, hl with | [_, _, _], _ => rfl⟩
theorem d_checked_tree (h : fnR K (gAt K "checked_tree") = stR "checked_tree" (top 23)) : DefP T prog K "checked_tree" 8 ["thing"] := ⟨top 23, N_checked_tree, F_checked_tree, h, sc_checked_tree, rfl, rfl, by decide, ok_checked_tree, rfl, fun _ _ _ _ _ _ us hl => match us, hl with | [_], _ => rfl⟩
theorem d_all_parts (h : fnR K (gAt K "all_parts") = stR "all_parts" (top 24)) : DefP T prog K "all_parts" 9 ["tree"] := ⟨top 24, N_all_parts, F_all_parts, h, sc_all_parts, rfl, rfl, by decide, ok_all_parts, rfl, fun _ _ _ _ _ _ us hl => match us, hl with | [_], _ => rfl⟩
theorem d_parts_of (h : fnR K (gAt K "parts_of") = stR "parts_of" (top 25)) : DefP T prog K "parts_of" 10 ["tree"] := ⟨top 25, N_parts_of, F_parts_of, h, sc_parts_of, rfl, rfl, by decide, ok_parts_of, rfl, fun _ _ _ _ _ _ us hl => match us, hl with | [_], _ => rfl⟩
theorem d_inner_spots (h : fnR K (gAt K "inner_spots") = stR "inner_spots" (top 26)) : DefP T prog K "inner_spots" 11 ["tree", "spot"] := ⟨top 26, N_inner_spots, F_inner_spots, h, sc_inner_spots, rfl, rfl, by decide, ok_inner_spots, rfl, fun _ _ _ _ _ _ us hl => match us, hl with | [_, _], _ => rfl⟩
theorem d_after_spots (h : fnR K (gAt K "after_spots") = stR "after_spots" (top 27)) : DefP T prog K "after_spots" 12 ["parts", "inner"] := ⟨top 27, N_after_spots, F_after_spots, h, sc_after_spots, rfl, rfl, by decide, ok_after_spots, rfl, fun _ _ _ _ _ _ us hl => match us, hl with | [_, _], _ => rfl⟩
theorem d_followers (h : fnR K (gAt K "followers") = stR "followers" (top 28)) : DefP T prog K "followers" 13 ["tree"] := ⟨top 28, N_followers, F_followers, h, sc_followers, rfl, rfl, by decide, ok_followers, rfl, fun _ _ _ _ _ _ us hl => match us, hl with | [_], _ => rfl⟩
theorem d__law_source (h : fnR K (gAt K "_law_source") = stR "_law_source" (top 30)) : DefP T prog K "_law_source" 14 ["script", "place"] := ⟨top 30, N__law_source, F__law_source, h, sc__law_source, rfl, rfl, by decide, ok__law_source, rfl, fun _ _ _ _ _ _ us hl => match us, hl with | [_, _], _ => rfl⟩
theorem d__law_pick (h : fnR K (gAt K "_law_pick") = stR "_law_pick" (top 31)) : DefP T prog K "_law_pick" 15 ["source", "many"] := ⟨top 31, N__law_pick, F__law_pick, h, sc__law_pick, rfl, rfl, by decide, ok__law_pick, rfl, fun _ _ _ _ _ _ us hl => match us, hl with | [_, _], _ => rfl⟩
theorem d__law_say (h : fnR K (gAt K "_law_say") = stR "_law_say" (top 32)) : DefP T prog K "_law_say" 16 ["source", "facts", "depth"] := ⟨top 32, N__law_say, F__law_say, h, sc__law_say, rfl, rfl, by decide, ok__law_say, rfl, fun _ _ _ _ _ _ us hl => match us, hl with | [_, _, _], _ => rfl⟩
theorem d__law_leaf (h : fnR K (gAt K "_law_leaf") = stR "_law_leaf" (top 33)) : DefP T prog K "_law_leaf" 17 ["source", "facts", "names"] := ⟨top 33, N__law_leaf, F__law_leaf, h, sc__law_leaf, rfl, rfl, by decide, ok__law_leaf, rfl, fun _ _ _ _ _ _ us hl => match us, hl with | [_, _, _], _ => rfl⟩
theorem d__law_tree (h : fnR K (gAt K "_law_tree") = stR "_law_tree" (top 34)) : DefP T prog K "_law_tree" 18 ["source", "facts", "names", "size"] := ⟨top 34, N__law_tree, F__law_tree, h, sc__law_tree, rfl, rfl, by decide, ok__law_tree, rfl, fun _ _ _ _ _ _ us hl => match us, hl with | [_, _, _, _], _ => rfl⟩
theorem d__law_arms (h : fnR K (gAt K "_law_arms") = stR "_law_arms" (top 35)) : DefP T prog K "_law_arms" 19 ["part"] := ⟨top 35, N__law_arms, F__law_arms, h, sc__law_arms, rfl, rfl, by decide, ok__law_arms, rfl, fun _ _ _ _ _ _ us hl => match us, hl with | [_], _ => rfl⟩
theorem d__law_parts (h : fnR K (gAt K "_law_parts") = stR "_law_parts" (top 36)) : DefP T prog K "_law_parts" 20 ["tree"] := ⟨top 36, N__law_parts, F__law_parts, h, sc__law_parts, rfl, rfl, by decide, ok__law_parts, rfl, fun _ _ _ _ _ _ us hl => match us, hl with | [_], _ => rfl⟩
theorem d__law_put_at (h : fnR K (gAt K "_law_put_at") = stR "_law_put_at" (top 37)) : DefP T prog K "_law_put_at" 21 ["tree", "spot", "put"] := ⟨top 37, N__law_put_at, F__law_put_at, h, sc__law_put_at, rfl, rfl, by decide, ok__law_put_at, rfl, fun _ _ _ _ _ _ us hl => match us, hl with | [_, _, _], _ => rfl⟩
theorem d__law_fact_names (h : fnR K (gAt K "_law_fact_names") = stR "_law_fact_names" (top 38)) : DefP T prog K "_law_fact_names" 22 ["source", "many"] := ⟨top 38, N__law_fact_names, F__law_fact_names, h, sc__law_fact_names, rfl, rfl, by decide, ok__law_fact_names, rfl, fun _ _ _ _ _ _ us hl => match us, hl with | [_, _], _ => rfl⟩
theorem d__law_deed_names (h : fnR K (gAt K "_law_deed_names") = stR "_law_deed_names" (top 39)) : DefP T prog K "_law_deed_names" 23 ["source", "many"] := ⟨top 39, N__law_deed_names, F__law_deed_names, h, sc__law_deed_names, rfl, rfl, by decide, ok__law_deed_names, rfl, fun _ _ _ _ _ _ us hl => match us, hl with | [_, _], _ => rfl⟩
theorem d__law_lists (h : fnR K (gAt K "_law_lists") = stR "_law_lists" (top 40)) : DefP T prog K "_law_lists" 24 ["thing"] := ⟨top 40, N__law_lists, F__law_lists, h, sc__law_lists, rfl, rfl, by decide, ok__law_lists, rfl, fun _ _ _ _ _ _ us hl => match us, hl with | [_], _ => rfl⟩
theorem d__law_follow (h : fnR K (gAt K "_law_follow") = stR "_law_follow" (top 41)) : DefP T prog K "_law_follow" 25 ["tree", "behind", "at"] := ⟨top 41, N__law_follow, F__law_follow, h, sc__law_follow, rfl, rfl, by decide, ok__law_follow, rfl, fun _ _ _ _ _ _ us hl => match us, hl with | [_, _, _], _ => rfl⟩
theorem d__law_refusal (h : fnR K (gAt K "_law_refusal") = stR "_law_refusal" (top 42)) : DefP T prog K "_law_refusal" 26 ["which", "tree"] := ⟨top 42, N__law_refusal, F__law_refusal, h, sc__law_refusal, rfl, rfl, by decide, ok__law_refusal, rfl, fun _ _ _ _ _ _ us hl => match us, hl with | [_, _], _ => rfl⟩
theorem d__law_wrong (h : fnR K (gAt K "_law_wrong") = stR "_law_wrong" (top 43)) : DefP T prog K "_law_wrong" 27 ["source", "old"] := ⟨top 43, N__law_wrong, F__law_wrong, h, sc__law_wrong, rfl, rfl, by decide, ok__law_wrong, rfl, fun _ _ _ _ _ _ us hl => match us, hl with | [_, _], _ => rfl⟩
theorem d__law_tower (h : fnR K (gAt K "_law_tower") = stR "_law_tower" (top 44)) : DefP T prog K "_law_tower" 28 ["many", "kind"] := ⟨top 44, N__law_tower, F__law_tower, h, sc__law_tower, rfl, rfl, by decide, ok__law_tower, rfl, fun _ _ _ _ _ _ us hl => match us, hl with | [_, _], _ => rfl⟩
theorem d__law_broad (h : fnR K (gAt K "_law_broad") = stR "_law_broad" (top 45)) : DefP T prog K "_law_broad" 29 ["many"] := ⟨top 45, N__law_broad, F__law_broad, h, sc__law_broad, rfl, rfl, by decide, ok__law_broad, rfl, fun _ _ _ _ _ _ us hl => match us, hl with | [_], _ => rfl⟩
theorem d_law (h : fnR K (gAt K "law") = stR "law" (top 46)) : DefP T prog K "law" 30 ["script"] := ⟨top 46, N_law, F_law, h, sc_law, rfl, rfl, by decide, ok_law, rfl, fun _ _ _ _ _ _ us hl => match us, hl with | [_], _ => rfl⟩
def fns : List (Str × Nat) := [("is_listed", 7), ("is_letters", 8), ("is_name", 9), ("told_saying", 14), ("saying_or_none", 15), ("head_of", 20), ("arms_of", 21), ("walked", 22), ("checked_tree", 23), ("all_parts", 24), ("parts_of", 25), ("inner_spots", 26), ("after_spots", 27), ("followers", 28), ("_law_source", 30), ("_law_pick", 31), ("_law_say", 32), ("_law_leaf", 33), ("_law_tree", 34), ("_law_arms", 35), ("_law_parts", 36), ("_law_put_at", 37), ("_law_fact_names", 38), ("_law_deed_names", 39), ("_law_lists", 40), ("_law_follow", 41), ("_law_refusal", 42), ("_law_wrong", 43), ("_law_tower", 44), ("_law_broad", 45), ("law", 46)]
theorem defs_ok (h : (fns.map fun p => fnR K (gAt K p.1)) = fns.map fun p => stR p.1 (top p.2)) : ∀ p ∈ T.defs, DefL T prog K p.1 p.2.1 p.2.2 := by
  have at_ : ∀ (i : Nat) (x : Str) (j : Nat), fns[i]? = some (x, j) → fnR K (gAt K x) = stR x (top j) := fun i x j e => by
    have e2 := congrArg (fun l : List FnR => l[i]?) h
    simp only [List.getElem?_map, e, Option.map_some] at e2
    exact Option.some.inj e2
  exact (fm_cons ((d_is_listed (at_ 0 "is_listed" 7 rfl)).l rfl)
    (fm_cons ((d_is_letters (at_ 1 "is_letters" 8 rfl)).l rfl)
    (fm_cons ((d_is_name (at_ 2 "is_name" 9 rfl)).l rfl)
    (fm_cons ((d_told_saying (at_ 3 "told_saying" 14 rfl)).l rfl)
    (fm_cons ((d_saying_or_none (at_ 4 "saying_or_none" 15 rfl)).l rfl)
    (fm_cons ((d_head_of (at_ 5 "head_of" 20 rfl)).l rfl)
    (fm_cons ((d_arms_of (at_ 6 "arms_of" 21 rfl)).l rfl)
    (fm_cons ((d_walked (at_ 7 "walked" 22 rfl)).l rfl)
    (fm_cons ((d_checked_tree (at_ 8 "checked_tree" 23 rfl)).l rfl)
    (fm_cons ((d_all_parts (at_ 9 "all_parts" 24 rfl)).l rfl)
    (fm_cons ((d_parts_of (at_ 10 "parts_of" 25 rfl)).l rfl)
    (fm_cons ((d_inner_spots (at_ 11 "inner_spots" 26 rfl)).l rfl)
    (fm_cons ((d_after_spots (at_ 12 "after_spots" 27 rfl)).l rfl)
    (fm_cons ((d_followers (at_ 13 "followers" 28 rfl)).l rfl)
    (fm_cons ((d__law_source (at_ 14 "_law_source" 30 rfl)).l rfl)
    (fm_cons ((d__law_pick (at_ 15 "_law_pick" 31 rfl)).l rfl)
    (fm_cons ((d__law_say (at_ 16 "_law_say" 32 rfl)).l rfl)
    (fm_cons ((d__law_leaf (at_ 17 "_law_leaf" 33 rfl)).l rfl)
    (fm_cons ((d__law_tree (at_ 18 "_law_tree" 34 rfl)).l rfl)
    (fm_cons ((d__law_arms (at_ 19 "_law_arms" 35 rfl)).l rfl)
    (fm_cons ((d__law_parts (at_ 20 "_law_parts" 36 rfl)).l rfl)
    (fm_cons ((d__law_put_at (at_ 21 "_law_put_at" 37 rfl)).l rfl)
    (fm_cons ((d__law_fact_names (at_ 22 "_law_fact_names" 38 rfl)).l rfl)
    (fm_cons ((d__law_deed_names (at_ 23 "_law_deed_names" 39 rfl)).l rfl)
    (fm_cons ((d__law_lists (at_ 24 "_law_lists" 40 rfl)).l rfl)
    (fm_cons ((d__law_follow (at_ 25 "_law_follow" 41 rfl)).l rfl)
    (fm_cons ((d__law_refusal (at_ 26 "_law_refusal" 42 rfl)).l rfl)
    (fm_cons ((d__law_wrong (at_ 27 "_law_wrong" 43 rfl)).l rfl)
    (fm_cons ((d__law_tower (at_ 28 "_law_tower" 44 rfl)).l rfl)
    (fm_cons ((d__law_broad (at_ 29 "_law_broad" 45 rfl)).l rfl)
    (fm_cons ((d_law (at_ 30 "law" 46 rfl)).l rfl)
    fm_nil)))))))))))))))))))))))))))))))
theorem law_def (h : (fns.map fun p => fnR K (gAt K p.1)) = fns.map fun p => stR p.1 (top p.2)) : DefP T prog K "law" 30 ["script"] := by
  have e2 := congrArg (fun l : List FnR => l[30]?) h
  exact d_law (Option.some.inj e2)
end
theorem cls_in : ∀ p ∈ T.cls, (xn[p.2]?).map (·.1) = some p.1 := by decide +kernel
theorem mks_in : ∀ p ∈ T.mks, (xn[p.2]?).map (·.1) = some p.1 := by decide +kernel
theorem fld_in : ∀ p ∈ T.fld, ∀ c < xn.length, mo.fld c = p.2 → xfOf xn c = p.1 := by decide +kernel
end K07
open PySem PySem.W PyProof.Rows
set_option maxRecDepth 100000 in
set_option maxHeartbeats 0 in
theorem PySem.Challenge.cw_eachpicks_k07_whole_trees_holds : PySem.Challenge.rw_eachpicks_k07_whole_trees.Holds := by
  w_on; o_law; k_head; (case hw => w_witness2)
  k_fill
  refine Cs.walk_by (l := PySem.Challenge.rw_eachpicks_k07_whole_trees) (T := K07.T) (M := K07.mo) (prog := K07.prog) (xn := K07.xn) (m := 63) (fuel := 60) (f := K07.n_law) (x := "law") (pn := "script") rfl (by decide) rfl ⟨rfl, by decide, by decide⟩ (fun w h Y => PySem.W.kIn_of Y) rfl ⟨(("law" : Str), K07.n_law, 1), by decide +kernel, rfl⟩ ?chk ?hlaw ?F K07.law_true
  case chk => intro w; kernel_rfl
  case hlaw => intro w; exact K07.law_def (by kernel_rfl)
  case F =>
    intro w mg h KX G base
    refine Cs.modF_of KX G ?chk (K07.defs_ok ?fns) ?lits K07.cls_in K07.mks_in K07.fld_in ?ini
    case chk => kernel_rfl
    case fns => kernel_rfl
    case lits =>
      refine (Cs.fm_cons (fun _ _ e => nomatch e)
        (Cs.fm_cons (fun _ _ e => nomatch e)
        (Cs.fm_cons (fun _ _ e => nomatch e)
        (Cs.fm_cons (fun _ _ e => nomatch e)
        (Cs.fm_cons (fun _ _ _ => ?lit_ARMS_sayings)
        (Cs.fm_cons (fun _ _ e => nomatch e)
        (Cs.fm_cons (fun _ _ e => nomatch e)
        (Cs.fm_cons (fun _ _ _ => ?lit_ARMS_trees)
        Cs.fm_nil))))))))
      case lit_ARMS_sayings => refine' Cs.lit_of ?l1_ARMS_sayings ?l2_ARMS_sayings ?l3_ARMS_sayings; (case l1_ARMS_sayings => k_is); (case l2_ARMS_sayings => k_is); (case l3_ARMS_sayings => first | k_is | (repeat (first | exact trivial | refine ⟨⟨_, _, rfl, rfl⟩, ?_⟩)))
      case lit_ARMS_trees => refine' Cs.lit_of ?l1_ARMS_trees ?l2_ARMS_trees ?l3_ARMS_trees; (case l1_ARMS_trees => k_is); (case l2_ARMS_trees => k_is); (case l3_ARMS_trees => first | k_is | (repeat (first | exact trivial | refine ⟨⟨_, _, rfl, rfl⟩, ?_⟩)))
    case ini =>
      intro hsup hst
      exact (Cs.fm_cons (Cs.initOf_at "WrongNumber" "WrongNumber.__init__" hsup hst K07.il_WrongNumber (by kernel_rfl) (by kernel_rfl) (by decide +kernel) (by kernel_rfl) (by kernel_rfl))
        (Cs.fm_cons (Cs.initOf_at "WrongNumber" "WrongNumber.__init__" hsup hst K07.il_WrongNumber (by kernel_rfl) (by kernel_rfl) (by decide +kernel) (by kernel_rfl) (by kernel_rfl))
        Cs.fm_nil))
end
