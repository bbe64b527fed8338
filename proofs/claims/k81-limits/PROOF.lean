import PyProof.Rows.All
import Wide.All
import OpenK.AllK
import Wide.FinOn
import KE.KStateDown
import Lean
import HandS.ForMost
import HandS.Style
import HandS.Defaults
import HandS.Ends
import HandS.EndBits
import HandS.Head0
import HandS.Head1
import HandS.Head2
import HandS.Head3
import HandS.HeadEnd
import HandS.HeadHook1
import HandS.HeadHook2
import HandS.HeadHook3
import HandS.HeadHook4
import HandS.Rev
import HandS.Zip
import HandS.WideBits
import HandS.IsInst
import HandS.Gcd
import KE.GoesMore
import HandS.Deep
import HandS.TupAny
import HandS.TupMul
import HandS.TupLe
import KE.KEqSeq
import PyProof.Rows.ReprOcc
import PySem.Challenge.RW_linecuts_k81_whole_limits_by_chains
set_option Elab.async false
set_option linter.all false
set_option maxRecDepth 100000
set_option autoImplicit false
section
set_option maxHeartbeats 400000
namespace Mn
open PySem

inductive D where
  | non | bl (b : Bool) | int (i : Int) | str (x : Str) | tup (xs : List D) | ref (n : Nat) | frl (xs : List D)
  deriving Inhabited

inductive C where
  | lst (xs : List D)
  | dT (kvs : List (List L2.Key × D))
  | dK (kvs : List (L2.Key × D))
  deriving Inhabited

abbrev So := List C
abbrev En := List (Option D)

inductive Op where
  | add | sub | mul | fdiv | mod | pow | shl | band
  deriving DecidableEq
inductive Cp where
  | eq | ne | lt | le | gt | ge | is | isnot | inn | notin
  deriving DecidableEq
inductive Bi where
  | abs | max2 | min2 | len | int | list | tuple | repr | gcd | lrev | trev | isi (T : String)
  | sum | all | any | maxL | minL
  deriving DecidableEq
inductive Me where
  | append | extend | pop | get2 | bits | setdef
  deriving DecidableEq
inductive Gt where
  | nm (i : Nat) | tp (gs : List Gt)
mutual
def Gt.slots : Gt → List Nat
  | .nm i => [i]
  | .tp gs => Gt.slotss gs
def Gt.slotss : List Gt → List Nat
  | [] => []
  | g :: gs => g.slots ++ Gt.slotss gs
end

mutual
inductive E where
  | var (i : Nat) | int (i : Int) | bl (b : Bool) | non | str (x : Str) | glob (x : Str)
  | bin (o : Op) (a b : E) | neg (a : E) | not (a : E)
  | cmp (o : Cp) (a b : E) | cmp2 (o1 o2 : Cp) (a b c : E)
  | and (es : Es) | or (es : Es) | ite (c a b : E)
  | tup (es : Es) | lst (es : Es) | dT | dK
  | ix (a i : E) | sl (a : E) (lo hi : Eo) | rev (a : E)
  | call (f : Str) (es : Es) | callk (f : Str) (es : Es) (ks : List Str) (kes : Es)
  | bi (b : Bi) (es : Es) | me (m : Me) (o : E) (es : Es)
  | lc (elt : E) (g : Gt) (it : It) (cs : Es) (own : List Nat)
inductive Es where
  | nil | cons (e : E) (es : Es)
inductive Eo where
  | none | some (e : E)
inductive It where
  | ex (e : E) | range (es : Es) | enum (e : E) | zip (a b : E) | rev (e : E)
end

mutual
inductive S where
  | pass | ex (e : E) | asg (g : Gt) (e : E) | put (o i e : E)
  | ret (e : E) | retN | ifs (c : E) (a b : Ss) | wh (c : E) (b : Ss) | fr (g : Gt) (it : It) (b : Ss)
  | brk | cnt | stuck
inductive Ss where
  | nil | cons (s : S) (ss : Ss)
end

structure Fn where
  np : Nat
  nl : Nat
  body : Ss

structure Tb where
  fns : List (Str × Fn)
  cons : List (Str × Int)
  kws : List ((Str × Nat × List Str) × List Nat)

mutual
def D.bel (n : Nat) : D → Bool
  | .ref k => decide (k < n)
  | .tup xs => belows n xs
  | .frl xs => belows n xs
  | _ => true
def belows (n : Nat) : List D → Bool
  | [] => true
  | x :: xs => D.bel n x && belows n xs
end
def kvBelows {κ : Type} (n : Nat) : List (κ × D) → Bool
  | [] => true
  | (_, x) :: r => D.bel n x && kvBelows n r
def C.bel (n : Nat) : C → Bool
  | .lst xs => belows n xs
  | .dT kvs => kvBelows n kvs
  | .dK kvs => kvBelows n kvs
def soBelow (n : Nat) : So → Bool
  | [] => true
  | c :: r => C.bel n c && soBelow n r

def toPy : Nat → So → D → Option PyData
  | 0, _, _ => none
  | _ + 1, _, .non => some .none
  | _ + 1, _, .bl b => some (.bool b)
  | _ + 1, _, .int i => some (.int i)
  | _ + 1, _, .str x => some (.str x)
  | n + 1, S, .tup xs => (xs.mapM (toPy n S)).map .tuple
  | n + 1, S, .frl xs => (xs.mapM (toPy n S)).map .list
  | n + 1, S, .ref k => match S[k]? with
    | some (.lst xs) => (xs.mapM (toPy n S)).map .list
    | _ => none

def eqO (S : So) (x y : D) : Option Bool := match toPy 60 S x, toPy 60 S y with
  | some p, some q => if SeqAt.shaped p = true ∧ SeqAt.shaped q = true then some (PyData.eqv p q) else none
  | _, _ => none
def flatD : D → Bool
  | .non => true
  | .bl _ => true
  | .int _ => true
  | .str _ => true
  | _ => false
def asV : D → L2.V
  | .non => .non
  | .bl b => .bl b
  | .int i => .int i
  | .str x => .str x
  | _ => .non
def keyD : D → Option L2.Key
  | .int i => some (.inl i)
  | .str x => some (.inr x)
  | _ => none
def keyT : D → Option (List L2.Key)
  | .tup xs => xs.mapM keyD
  | _ => none

def mulOk (i j : Int) : Prop := i.natAbs.log2 + j.natAbs.log2 < 134217000
instance (i j : Int) : Decidable (mulOk i j) := by unfold mulOk; infer_instance
def divOk (j : Int) : Prop := 0 < j ∧ j.natAbs.log2 < 9000
instance (j : Int) : Decidable (divOk j) := by unfold divOk; infer_instance
def powOk (i j : Int) : Prop := 2 ≤ i ∧ 1 ≤ j ∧ ((i.natAbs.log2 : Int) + 1) * j < 1000000
instance (i j : Int) : Decidable (powOk i j) := by unfold powOk; infer_instance

def opV (o : Op) (x y : D) (S : So) : Option (D × So) := match o, x, y with
  | .add, .int i, .int j => some (.int (i + j), S)
  | .sub, .int i, .int j => some (.int (i - j), S)
  | .mul, .int i, .int j => if mulOk i j then some (.int (i * j), S) else none
  | .fdiv, .int i, .int j => if divOk j then some (.int (i / j), S) else none
  | .mod, .int i, .int j => if 0 < j then some (.int (i % j), S) else none
  | .pow, .int i, .int j => if powOk i j then some (.int (i ^ j.toNat), S) else none
  | .shl, .int i, .int j => if i = 1 ∧ 0 ≤ j ∧ j ≤ 1000000 then some (.int (2 ^ j.toNat), S) else none
  | .band, .int i, .int j => if 0 ≤ i ∧ j = 1 then some (.int (i % 2), S) else none
  | .add, .tup xs, .tup ys => if xs.length + ys.length ≤ sizeLine then some (.tup (xs ++ ys), S) else none
  | .add, .str a, .str b => if a.length + b.length ≤ sizeLine then some (.str (a ++ b), S) else none
  | .add, .ref a, .ref b => match S[a]?, S[b]? with
    | some (.lst xs), some (.lst ys) => if xs.length ≤ sizeLine ∧ ys.length ≤ sizeLine ∧ xs.length + ys.length ≤ sizeLine then some (.ref S.length, S ++ [.lst (xs ++ ys)]) else none
    | _, _ => none
  | .mul, .tup xs, .int k => if 1 ≤ k ∧ k ≤ 1000 ∧ 1 ≤ xs.length ∧ xs.length ≤ 1000 then some (.tup (List.replicate k.toNat xs).flatten, S) else none
  | .mul, .ref a, .int k => match S[a]? with
    | some (.lst xs) => if 0 ≤ k ∧ k < 2 ^ 62 ∧ xs.length * k.toNat ≤ sizeLine then some (.ref S.length, S ++ [.lst (List.replicate k.toNat xs).flatten]) else none
    | _ => none
  | _, _, _ => none

def inL (S : So) (x : D) : List D → Option Bool
  | [] => some false
  | y :: r => match eqO S y x, inL S x r with
    | some b, some c => some (b || c)
    | _, _ => none

def inV (S : So) (x y : D) : Option Bool := match y with
  | .tup ys => if flatD x = true ∧ ys.all flatD = true then some (L2.inV (asV x) (ys.map asV)) else none
  | .ref n => match S[n]? with
    | some (.lst ys) => if flatD x = true ∧ ys.all flatD = true then some (L2.inV (asV x) (ys.map asV)) else none
    | some (.dT kvs) => match keyT x with
      | some k => some (kvs.any fun kv => decide (kv.1 = k))
      | none => none
    | some (.dK kvs) => match keyD x with
      | some k => some (kvs.any fun kv => decide (kv.1 = k))
      | none => none
    | none => none
  | _ => none

def cpV (o : Cp) (x y : D) (S : So) : Option Bool := match o with
  | .eq => eqO S x y
  | .ne => (eqO S x y).map (!·)
  | .lt => match x, y with
    | .int i, .int j => some (decide (i < j))
    | _, _ => none
  | .le => match x, y with
    | .int i, .int j => some (decide (i ≤ j))
    | _, _ => none
  | .gt => match x, y with
    | .int i, .int j => some (decide (j < i))
    | _, _ => none
  | .ge => match x, y with
    | .int i, .int j => some (decide (j ≤ i))
    | _, _ => none
  | .is => match x, y with
    | .non, .non => some true
    | _, .non => some false
    | .bl a, .bl b => some (decide (a = b))
    | _, _ => none
  | .isnot => match x, y with
    | .non, .non => some false
    | _, .non => some true
    | .bl a, .bl b => some (!decide (a = b))
    | _, _ => none
  | .inn => inV S x y
  | .notin => (inV S x y).map (!·)

def itemsOf (S : So) : D → Option (List D)
  | .tup xs => some xs
  | .frl xs => some xs
  | .ref n => match S[n]? with
    | some (.lst xs) => some xs
    | _ => none
  | _ => none
def listOf (S : So) : D → Option (List D)
  | .frl xs => some xs
  | .ref n => match S[n]? with
    | some (.lst xs) => some xs
    | _ => none
  | _ => none

def cut (xs : List D) (lo hi : Option Int) : List D := (xs.drop (HT.sIx xs.length 0 lo)).take (HT.sIx xs.length xs.length hi - HT.sIx xs.length 0 lo)

def ixV (x i : D) (S : So) : Option (D × So) := match i with
  | .int k => match itemsOf S x with
    | some xs => (L2.atI xs k).map fun d => (d, S)
    | none => none
  | _ => none
def slV (x : D) (lo hi : Option Int) (S : So) : Option (D × So) := match x with
  | .tup xs => some (.tup (cut xs lo hi), S)
  | x => match listOf S x with
    | some xs => some (.ref S.length, S ++ [.lst (cut xs lo hi)])
    | none => none
def revV (x : D) (S : So) : Option (D × So) := match x with
  | .tup xs => some (.tup xs.reverse, S)
  | x => match listOf S x with
    | some xs => some (.ref S.length, S ++ [.lst xs.reverse])
    | none => none

def tyN (S : So) : D → Option String
  | .non => some "NoneType"
  | .bl _ => some "bool"
  | .int _ => some "int"
  | .str _ => some "str"
  | .tup _ => some "tuple"
  | .frl _ => some "list"
  | .ref n => match S[n]? with
    | some (.lst _) => some "list"
    | some _ => some "dict"
    | none => none

def intsD : List D → Option (List Int)
  | [] => some []
  | .int i :: r => (intsD r).map (i :: ·)
  | _ :: _ => none
def blsD : List D → Option (List Bool)
  | [] => some []
  | .bl b :: r => (blsD r).map (b :: ·)
  | _ :: _ => none

def biV (b : Bi) (ds : List D) (S : So) : Option (D × So) := match b with
  | .abs => match ds with
    | [.int i] => some (.int (if i < 0 then -i else i), S)
    | _ => none
  | .max2 => match ds with
    | [.int i, .int j] => some (.int (if j > i then j else i), S)
    | _ => none
  | .min2 => match ds with
    | [.int i, .int j] => some (.int (if j < i then j else i), S)
    | _ => none
  | .len => match ds with
    | [.str z] => if z.length ≤ sizeLine then some (.int z.length, S) else none
    | [x] => (itemsOf S x).map fun xs => (.int xs.length, S)
    | _ => none
  | .int => match ds with
    | [.int i] => some (.int i, S)
    | [.bl k] => some (.int (if k then 1 else 0), S)
    | _ => none
  | .list => match ds with
    | [x] => (itemsOf S x).map fun xs => (.ref S.length, S ++ [.lst xs])
    | _ => none
  | .tuple => match ds with
    | [x] => (itemsOf S x).map fun xs => (.tup xs, S)
    | _ => none
  | .repr => match ds with
    | [x] => match toPy 60 S x with
      | some p => if p.showable = true ∧ p.hasDict = false ∧ p.depth ≤ 64 ∧ p.shown.length ≤ sizeLine then some (.str p.shown, S) else none
      | none => none
    | _ => none
  | .gcd => match ds with
    | [.int i, .int j] => some (.int ((Nat.gcd i.natAbs j.natAbs : Nat) : Int), S)
    | _ => none
  | .lrev => match ds with
    | [x] => (listOf S x).map fun xs => (.ref S.length, S ++ [.lst xs.reverse])
    | _ => none
  | .trev => match ds with
    | [x] => (listOf S x).map fun xs => (.tup xs.reverse, S)
    | _ => none
  | .isi T => match ds with
    | [x] => ((tyN S x).bind fun t => L2.kitB t T).map fun b => (.bl b, S)
    | _ => none
  | .sum => match ds with
    | [x] => match listOf S x with
      | some xs => (intsD xs).map fun ns => (.int ns.sum, S)
      | none => none
    | _ => none
  | .all => match ds with
    | [x] => match listOf S x with
      | some xs => (blsD xs).map fun ns => (.bl (ns.all id), S)
      | none => none
    | _ => none
  | .any => match ds with
    | [x] => match listOf S x with
      | some xs => (blsD xs).map fun ns => (.bl (ns.any id), S)
      | none => none
    | _ => none
  | .maxL => none
  | .minL => none

def meV (m : Me) (o : D) (ds : List D) (S : So) : Option (D × So) := match m with
  | .append => match o, ds with
    | .ref n, [y] => match S[n]? with
      | some (.lst xs) => if xs.length < sizeLine then some (.non, S.set n (.lst (xs ++ [y]))) else none
      | _ => none
    | _, _ => none
  | .extend => match o, ds with
    | .ref n, [.ref k] => match S[n]?, S[k]? with
      | some (.lst xs), some (.lst ys) => if xs.length + ys.length ≤ sizeLine then some (.non, S.set n (.lst (xs ++ ys))) else none
      | _, _ => none
    | _, _ => none
  | .pop => match o, ds with
    | .ref n, [] => match S[n]? with
      | some (.lst xs) => match xs[xs.length - 1]? with
        | some y => some (y, S.set n (.lst xs.dropLast))
        | none => none
      | _ => none
    | _, _ => none
  | .get2 => match o, ds with
    | .ref n, [k, d] => match S[n]? with
      | some (.dT kvs) => match keyT k with
        | some q => some (((kvs.find? fun kv => decide (kv.1 = q)).map (·.2)).getD d, S)
        | none => none
      | some (.dK kvs) => match keyD k with
        | some q => some (((kvs.find? fun kv => decide (kv.1 = q)).map (·.2)).getD d, S)
        | none => none
      | _ => none
    | _, _ => none
  | .bits => match o, ds with
    | .int i, [] => some (.int (Builtin.Int.intBits i : Nat), S)
    | _, _ => none
  | .setdef => none

def meTy (m : Me) (d : D) (S : So) : Bool := match m with
  | .append => match d with
    | .ref n => match S[n]? with
      | some (.lst _) => true
      | _ => false
    | _ => false
  | .extend => match d with
    | .ref n => match S[n]? with
      | some (.lst _) => true
      | _ => false
    | _ => false
  | .pop => match d with
    | .ref n => match S[n]? with
      | some (.lst _) => true
      | _ => false
    | _ => false
  | .get2 => match d with
    | .ref n => match S[n]? with
      | some (.dT _) => true
      | some (.dK _) => true
      | _ => false
    | _ => false
  | .bits => match d with
    | .int _ => true
    | _ => false
  | .setdef => false

def putKv {κ : Type} [DecidableEq κ] (kvs : List (κ × D)) (k : κ) (v : D) : List (κ × D) :=
  if kvs.any (fun kv => decide (kv.1 = k)) then kvs.map (fun kv => if kv.1 = k then (kv.1, v) else kv) else kvs ++ [(k, v)]

def putV (o i v : D) (S : So) : Option So := match o with
  | .ref n => match S[n]? with
    | some (.lst xs) => match i with
      | .int k => match L2.ixN xs.length k with
        | some j => some (S.set n (.lst (xs.set j v)))
        | none => none
      | _ => none
    | some (.dT kvs) => match keyT i with
      | some k => if kvs.length < 1000000 then some (S.set n (.dT (putKv kvs k v))) else none
      | none => none
    | some (.dK kvs) => match keyD i with
      | some k => if kvs.length < 1000000 then some (S.set n (.dK (putKv kvs k v))) else none
      | none => none
    | none => none
  | _ => none

open Classical in
noncomputable def gc (S0 : So) (d : D) (S1 : So) : D × So :=
  if S1.take S0.length = S0 ∨ soBelow S0.length (S1.take S0.length) = true then
    if d.bel 0 = true then (d, S1.take S0.length)
    else match d with
      | .ref n => match S1[n]? with
        | some c => if S0.length ≤ n ∧ c.bel 0 = true then (.ref S0.length, S1.take S0.length ++ [c]) else (d, S1)
        | none => (d, S1)
      | _ => (d, S1)
  else (d, S1)

inductive Fl where
  | nx (ρ : En) | rt (d : D) | bk (ρ : En) | ct (ρ : En)

mutual
def asgG : Gt → D → En → Option En
  | .nm i, d, ρ => some (ρ.set i (some d))
  | .tp gs, .tup xs, ρ => asgGs gs xs ρ
  | .tp _, _, _ => none
def asgGs : List Gt → List D → En → Option En
  | [], [], ρ => some ρ
  | g :: gs, x :: xs, ρ => (asgG g x ρ).bind fun ρ => asgGs gs xs ρ
  | _, _, _ => none
end

def wipe (ρ : En) : List Nat → En
  | [] => ρ
  | v :: vs => (wipe ρ vs).set v none

abbrev Walk := List D × Option (Nat × List D)
def Walk.stays (w : Option (Nat × List D)) (S : So) : Prop := match w with
  | none => True
  | some (n, xs) => S[n]? = some (.lst xs)

open Classical in
noncomputable def forL (w : Option (Nat × List D)) (step : D → En → So → Option (Fl × So)) : List D → En → So → Option (Fl × So)
  | [], ρ, S => some (.nx ρ, S)
  | x :: xs, ρ, S => (step x ρ S).bind fun r => match r with
    | (.nx ρ, S) => if Walk.stays w S then forL w step xs ρ S else none
    | (.ct ρ, S) => if Walk.stays w S then forL w step xs ρ S else none
    | (.bk ρ, S) => some (.nx ρ, S)
    | (.rt d, S) => some (.rt d, S)

def whN (c : En → So → Option (Bool × So)) (b : En → So → Option (Fl × So)) : Nat → En → So → Option (Fl × So)
  | 0, _, _ => none
  | n + 1, ρ, S => (c ρ S).bind fun r => match r with
    | (false, S) => some (.nx ρ, S)
    | (true, S) => (b ρ S).bind fun r => match r with
      | (.nx ρ, S) => whN c b n ρ S
      | (.ct ρ, S) => whN c b n ρ S
      | (.bk ρ, S) => some (.nx ρ, S)
      | (.rt d, S) => some (.rt d, S)
open Classical in
noncomputable def whL (c : En → So → Option (Bool × So)) (b : En → So → Option (Fl × So)) (ρ : En) (S : So) : Option (Fl × So) :=
  if h : ∃ n r, whN c b n ρ S = some r then some (Classical.choose (Classical.choose_spec h)) else none

noncomputable def lcL (w : Option (Nat × List D)) (n : Nat) (step : D → So → Option (Option D × So)) : List D → So → Option So
  | [], S => some S
  | x :: xs, S => (step x S).bind fun r => by
    classical
    exact if Walk.stays w r.2 then match r.1 with
      | some d => match r.2[n]? with
        | some (.lst acc) => if acc.length < sizeLine then lcL w n step xs (r.2.set n (.lst (acc ++ [d]))) else none
        | _ => none
      | none => lcL w n step xs r.2
    else none

section
variable (T : Tb) (cf : Str → List D → So → Option (D × So))
def rangeL (lo : Int) (n : Nat) : List D := (List.range n).map fun (i : Nat) => .int (lo + (i : Int))
def rangeV : List D → Option (List D)
  | [.int j] => if -(2 ^ 62) ≤ j ∧ j < 2 ^ 62 then some (rangeL 0 j.toNat) else none
  | [.int i, .int j] => if -(2 ^ 62) ≤ i ∧ i < 2 ^ 62 ∧ -(2 ^ 62) ≤ j ∧ j < 2 ^ 62 then some (rangeL i (j - i).toNat) else none
  | _ => none
def enumL (k : Nat) : List D → List D
  | [] => []
  | x :: xs => .tup [.int k, x] :: enumL (k + 1) xs
def zipL : List D → List D → List D
  | x :: xs, y :: ys => .tup [x, y] :: zipL xs ys
  | _, _ => []
def srcOf (S : So) : D → Option (Nat × List D)
  | .ref n => match S[n]? with
    | some (.lst xs) => some (n, xs)
    | _ => none
  | _ => none

mutual
noncomputable def evE : E → En → So → Option (D × So)
  | .var i, ρ, S => match ρ[i]? with
    | some (some d) => some (d, S)
    | _ => none
  | .int i, _, S => some (.int i, S)
  | .bl b, _, S => some (.bl b, S)
  | .non, _, S => some (.non, S)
  | .str x, _, S => some (.str x, S)
  | .glob x, _, S => (T.cons.lookup x).map fun i => (.int i, S)
  | .bin o a b, ρ, S => (evE a ρ S).bind fun r => (evE b ρ r.2).bind fun q => opV o r.1 q.1 q.2
  | .neg a, ρ, S => (evE a ρ S).bind fun r => match r.1 with
    | .int i => some (.int (-i), r.2)
    | _ => none
  | .not a, ρ, S => (evE a ρ S).bind fun r => match r.1 with
    | .bl b => some (.bl (!b), r.2)
    | _ => none
  | .cmp o a b, ρ, S => (evE a ρ S).bind fun r => (evE b ρ r.2).bind fun q => (cpV o r.1 q.1 q.2).map fun c => (.bl c, q.2)
  | .cmp2 o p a b c, ρ, S => (evE a ρ S).bind fun r => (evE b ρ r.2).bind fun q => (cpV o r.1 q.1 q.2).bind fun k =>
    if k = true then (evE c ρ q.2).bind fun t => (cpV p q.1 t.1 t.2).map fun c => (.bl c, t.2) else some (.bl false, q.2)
  | .and es, ρ, S => evAnd es ρ S
  | .or es, ρ, S => evOr es ρ S
  | .ite c a b, ρ, S => (evE c ρ S).bind fun r => match r.1 with
    | .bl true => evE a ρ r.2
    | .bl false => evE b ρ r.2
    | _ => none
  | .tup es, ρ, S => (evEs es ρ S).bind fun r => if r.1.length ≤ sizeLine then some (.tup r.1, r.2) else none
  | .lst es, ρ, S => (evEs es ρ S).bind fun r => if r.1.length ≤ sizeLine then some (.ref r.2.length, r.2 ++ [.lst r.1]) else none
  | .dT, _, S => some (.ref S.length, S ++ [.dT []])
  | .dK, _, S => some (.ref S.length, S ++ [.dK []])
  | .ix a i, ρ, S => (evE a ρ S).bind fun r => (evE i ρ r.2).bind fun q => ixV r.1 q.1 q.2
  | .sl a lo hi, ρ, S => (evE a ρ S).bind fun r => (evO lo ρ r.2).bind fun q => (evO hi ρ q.2).bind fun t => slV r.1 q.1 t.1 t.2
  | .rev a, ρ, S => (evE a ρ S).bind fun r => revV r.1 r.2
  | .call f es, ρ, S => (evEs es ρ S).bind fun r => cf f r.1 r.2
  | .callk f es ks kes, ρ, S => (evEs es ρ S).bind fun r => (evEs kes ρ r.2).bind fun q =>
    match T.kws.lookup (f, r.1.length, ks) with
    | some pm => (pm.mapM fun j => (r.1 ++ q.1)[j]?).bind fun ds => cf f ds q.2
    | none => none
  | .bi b es, ρ, S => (evEs es ρ S).bind fun r => (biV b r.1 r.2).map fun q => gc S q.1 q.2
  | .me m o es, ρ, S => (evE o ρ S).bind fun r => if meTy m r.1 r.2 = true then (evEs es ρ r.2).bind fun q => meV m r.1 q.1 q.2 else none
  | .lc elt g it cs own, ρ, S => (evIt it ρ S).bind fun r =>
    (lcL r.1.2 r.2.length (fun x S => (asgG g x (wipe ρ own)).bind fun ρ => (evCs cs ρ S).bind fun t => if t.1 = true then (evE elt ρ t.2).map fun q => (some q.1, q.2) else some (none, t.2)) r.1.1 (r.2 ++ [.lst []])).map
      fun S1 => gc S (.ref r.2.length) S1
noncomputable def evEs : Es → En → So → Option (List D × So)
  | .nil, _, S => some ([], S)
  | .cons e es, ρ, S => (evE e ρ S).bind fun r => (evEs es ρ r.2).map fun q => (r.1 :: q.1, q.2)
noncomputable def evO : Eo → En → So → Option (Option Int × So)
  | .none, _, S => some (none, S)
  | .some e, ρ, S => (evE e ρ S).bind fun r => match r.1 with
    | .int i => some (some i, r.2)
    | _ => none
noncomputable def evAnd : Es → En → So → Option (D × So)
  | .nil, _, _ => none
  | .cons e .nil, ρ, S => evE e ρ S
  | .cons e es, ρ, S => (evE e ρ S).bind fun r => match r.1 with
    | .bl true => evAnd es ρ r.2
    | .bl false => some (.bl false, r.2)
    | _ => none
noncomputable def evOr : Es → En → So → Option (D × So)
  | .nil, _, _ => none
  | .cons e .nil, ρ, S => evE e ρ S
  | .cons e es, ρ, S => (evE e ρ S).bind fun r => match r.1 with
    | .bl false => evOr es ρ r.2
    | .bl true => some (.bl true, r.2)
    | _ => none
noncomputable def evCs : Es → En → So → Option (Bool × So)
  | .nil, _, S => some (true, S)
  | .cons e es, ρ, S => (evE e ρ S).bind fun r => match r.1 with
    | .bl true => evCs es ρ r.2
    | .bl false => some (false, r.2)
    | _ => none
noncomputable def evIt : It → En → So → Option (Walk × So)
  | .ex e, ρ, S => (evE e ρ S).bind fun r => (itemsOf r.2 r.1).map fun xs => ((xs, srcOf r.2 r.1), r.2)
  | .range es, ρ, S => (evEs es ρ S).bind fun r => (rangeV r.1).map fun xs => ((xs, none), r.2)
  | .enum e, ρ, S => (evE e ρ S).bind fun r => (itemsOf r.2 r.1).map fun xs => ((enumL 0 xs, srcOf r.2 r.1), r.2)
  | .zip a b, ρ, S => (evE a ρ S).bind fun r => (evE b ρ r.2).bind fun q => match r.1, q.1 with
    | .tup xs, .tup ys => some ((zipL xs ys, none), q.2)
    | _, _ => none
  | .rev e, ρ, S => (evE e ρ S).bind fun r => (itemsOf r.2 r.1).map fun xs => ((xs.reverse, srcOf r.2 r.1), r.2)
end

noncomputable def evT (e : E) (ρ : En) (S : So) : Option (Bool × So) := (evE T cf e ρ S).bind fun r => match r.1 with
  | .bl b => some (b, r.2)
  | _ => none

mutual
noncomputable def exS : S → En → So → Option (Fl × So)
  | .pass, ρ, S => some (.nx ρ, S)
  | .ex e, ρ, S => (evE T cf e ρ S).map fun r => (.nx ρ, r.2)
  | .asg g e, ρ, S => (evE T cf e ρ S).bind fun r => (asgG g r.1 ρ).map fun ρ => (.nx ρ, r.2)
  | .put o i e, ρ, S => (evE T cf e ρ S).bind fun r => (evE T cf o ρ r.2).bind fun q => (evE T cf i ρ q.2).bind fun t =>
    (putV q.1 t.1 r.1 t.2).map fun S => (.nx ρ, S)
  | .ret e, ρ, S => (evE T cf e ρ S).map fun r => (.rt r.1, r.2)
  | .retN, _, S => some (.rt .non, S)
  | .ifs c a b, ρ, S => (evT T cf c ρ S).bind fun r => if r.1 = true then exSs a ρ r.2 else exSs b ρ r.2
  | .wh c b, ρ, S => whL (fun ρ S => evT T cf c ρ S) (fun ρ S => exSs b ρ S) ρ S
  | .fr g it b, ρ, S => (evIt T cf it ρ S).bind fun r => forL r.1.2 (fun x ρ S => (asgG g x ρ).bind fun ρ => exSs b ρ S) r.1.1 ρ r.2
  | .brk, ρ, S => some (.bk ρ, S)
  | .cnt, ρ, S => some (.ct ρ, S)
  | .stuck, _, _ => none
noncomputable def exSs : Ss → En → So → Option (Fl × So)
  | .nil, ρ, S => some (.nx ρ, S)
  | .cons s ss, ρ, S => (exS s ρ S).bind fun r => match r with
    | (.nx ρ, S) => exSs ss ρ S
    | r => some r
end
end

noncomputable def callF (T : Tb) : Nat → Str → List D → So → Option (D × So)
  | 0, _, _, _ => none
  | n + 1, f, ds, S => match T.fns.lookup f with
    | some F => if ds.length = F.np then
        (exSs T (callF T n) F.body (ds.map some ++ List.replicate (F.nl - F.np) none) S).bind fun r => match r with
          | (.rt d, S1) => some (gc S d S1)
          | (.nx _, S1) => some (gc S .non S1)
          | _ => none
      else none
    | none => none
end Mn
end

section
set_option maxHeartbeats 1000000
namespace Mn
open PySem L2
section
variable (K : PySem.W.Frag)
def FrL (H : Hp) (a : Addr) (vs : List V) : Prop := (∃ o, H a = some (.frz o (.lst vs))) ∨
  ∃ (o : Obj) (its : Array Value) (n : Nat), K.lookup a = some o ∧ o.cls = .type "list" ∧ o.dict = none ∧ o.data = .seq its n ∧ its.size ≤ sizeLine ∧ Vals vs its.toList
mutual
def Rep (f : List Addr) (H : Hp) : D → V → Prop
  | .non, v => v = .non
  | .bl b, v => v = .bl b
  | .int i, v => v = .int i
  | .str x, v => v = .str x
  | .tup xs, v => ∃ a vs, v = .ref a ∧ H a = some (.tup vs) ∧ Reps f H xs vs
  | .ref n, v => ∃ a, v = .ref a ∧ f[n]? = some a
  | .frl xs, v => ∃ a vs, v = .ref a ∧ FrL K H a vs ∧ Reps f H xs vs
def Reps (f : List Addr) (H : Hp) : List D → List V → Prop
  | [], vs => vs = []
  | x :: xs, vs => ∃ v r, vs = v :: r ∧ Rep f H x v ∧ Reps f H xs r
end
def KvR {κ : Type} (f : List Addr) (H : Hp) : List (κ × D) → List (κ × V) → Prop
  | [], ps => ps = []
  | x :: xs, ps => ∃ v r, ps = (x.1, v) :: r ∧ Rep K f H x.2 v ∧ KvR f H xs r
def CellR (f : List Addr) (H : Hp) (a : Addr) : C → Prop
  | .lst xs => ∃ vs, H a = some (.lst vs) ∧ Reps K f H xs vs
  | .dT kvs => ∃ ps, H a = some (.dT ps) ∧ KvR K f H kvs ps
  | .dK kvs => ∃ ps, H a = some (.dK ps) ∧ KvR K f H kvs ps
structure RepS (f : List Addr) (H : Hp) (S : So) : Prop where
  len : f.length = S.length
  nd : f.Nodup
  cell : ∀ (n : Nat) (c : C), S[n]? = some c → ∃ a, f[n]? = some a ∧ CellR K f H a c
structure RepE (f : List Addr) (H : Hp) (ρ : En) (σ : L2.St) : Prop where
  len : ρ.length = σ.length
  get : ∀ (i : Nat) (d : D), ρ[i]? = some (some d) → ∃ v, σ[i]? = some (some v) ∧ Rep K f H d v
end
structure Ext (f : List Addr) (H : Hp) (f' : List Addr) (H' : Hp) : Prop where
  pre : f <+: f'
  tups : ∀ a xs, H a = some (.tup xs) → H' a = some (.tup xs)
  frzs : ∀ a o u, H a = some (.frz o u) → H' a = some (.frz o u)
section
variable {K : PySem.W.Frag} {f f' f1 f2 : List Addr} {H H' H1 H2 : Hp} {S S' : So} {ρ : En} {σ : L2.St}
theorem Ext.refl : Ext f H f H := ⟨List.prefix_refl _, fun _ _ h => h, fun _ _ _ h => h⟩
theorem Ext.trans (a : Ext f H f1 H1) (b : Ext f1 H1 f2 H2) : Ext f H f2 H2 :=
  ⟨a.pre.trans b.pre, fun x xs h => b.tups x xs (a.tups x xs h), fun x o u h => b.frzs x o u (a.frzs x o u h)⟩
theorem SqT.ext {a : Addr} {vs : List V} (e : Ext f H f' H') (h : SqT K H a vs) : SqT K H' a vs := by
  rcases h with (h | ⟨o, h⟩) | h
  · exact .inl (.inl (e.tups _ _ h))
  · exact .inl (.inr ⟨o, e.frzs _ _ _ h⟩)
  · exact .inr h
theorem FrL.ext {a : Addr} {vs : List V} (e : Ext f H f' H') (h : FrL K H a vs) : FrL K H' a vs := by
  rcases h with ⟨o, h⟩ | h
  · exact .inl ⟨o, e.frzs _ _ _ h⟩
  · exact .inr h
theorem FrL.seq {a : Addr} {vs : List V} (h : FrL K H a vs) : SqL K H a vs := by
  rcases h with ⟨o, h⟩ | h
  · exact .inl (.inr ⟨o, h⟩)
  · exact .inr h
mutual
theorem Rep.ext (e : Ext f H f' H') : ∀ {d : D} {v : V}, Rep K f H d v → Rep K f' H' d v
  | .non, _, h => by simpa only [Rep] using h
  | .bl _, _, h => by simpa only [Rep] using h
  | .int _, _, h => by simpa only [Rep] using h
  | .str _, _, h => by simpa only [Rep] using h
  | .tup xs, v, h => by
    simp only [Rep] at h ⊢
    obtain ⟨a, vs, h1, h2, h3⟩ := h
    exact ⟨a, vs, h1, e.tups _ _ h2, Reps.ext e h3⟩
  | .ref n, v, h => by
    simp only [Rep] at h ⊢
    obtain ⟨a, h1, h2⟩ := h
    refine ⟨a, h1, ?_⟩
    obtain ⟨g, rfl⟩ := e.pre
    rw [List.getElem?_append_left (List.getElem?_eq_some_iff.mp h2).1]
    exact h2
  | .frl xs, v, h => by
    simp only [Rep] at h ⊢
    obtain ⟨a, vs, h1, h2, h3⟩ := h
    exact ⟨a, vs, h1, FrL.ext e h2, Reps.ext e h3⟩
theorem Reps.ext (e : Ext f H f' H') : ∀ {ds : List D} {vs : List V}, Reps K f H ds vs → Reps K f' H' ds vs
  | [], vs, h => by simpa only [Reps] using h
  | x :: xs, vs, h => by
    simp only [Reps] at h ⊢
    obtain ⟨v, r, h1, h2, h3⟩ := h
    exact ⟨v, r, h1, Rep.ext e h2, Reps.ext e h3⟩
end
theorem KvR.ext {κ : Type} (e : Ext f H f' H') : ∀ {ds : List (κ × D)} {ps : List (κ × V)}, KvR K f H ds ps → KvR K f' H' ds ps
  | [], vs, h => h
  | x :: xs, vs, h => by
    obtain ⟨v, r, h1, h2, h3⟩ := h
    exact ⟨v, r, h1, Rep.ext e h2, KvR.ext e h3⟩
theorem RepE.ext (e : Ext f H f' H') (h : RepE K f H ρ σ) : RepE K f' H' ρ σ :=
  ⟨h.len, fun i d q => let ⟨v, h1, h2⟩ := h.get i d q; ⟨v, h1, h2.ext e⟩⟩
theorem RepE.set {i : Nat} {d : D} {v : V} (h : RepE K f H ρ σ) (r : Rep K f H d v) : RepE K f H (ρ.set i (some d)) (σ.set i (some v)) := by
  refine ⟨by simpa using h.len, fun j e q => ?_⟩
  by_cases hj : i = j
  · subst hj
    have hl : i < ρ.length := by
      have := (List.getElem?_eq_some_iff.mp q).1
      simpa using this
    rw [List.getElem?_set_self hl] at q
    cases q
    exact ⟨v, List.getElem?_set_self (by rw [← h.len]; exact hl), r⟩
  · rw [List.getElem?_set_ne hj] at q
    rw [List.getElem?_set_ne hj]
    exact h.get j e q
theorem RepE.unset {i : Nat} (h : RepE K f H ρ σ) : RepE K f H (ρ.set i none) (σ.set i none) := by
  refine ⟨by simpa using h.len, fun j e q => ?_⟩
  by_cases hj : i = j
  · subst hj
    have hl : i < ρ.length := by
      have := (List.getElem?_eq_some_iff.mp q).1
      simpa using this
    rw [List.getElem?_set_self hl] at q
    cases q
  · rw [List.getElem?_set_ne hj] at q
    rw [List.getElem?_set_ne hj]
    exact h.get j e q
theorem Reps.length : ∀ {ds : List D} {vs : List V}, Reps K f H ds vs → ds.length = vs.length
  | [], vs, h => by simp only [Reps] at h; rw [h]; rfl
  | x :: xs, vs, h => by
    simp only [Reps] at h
    obtain ⟨v, r, h1, h2, h3⟩ := h
    rw [h1, List.length_cons, List.length_cons, Reps.length h3]
theorem Reps.nil : Reps K f H [] [] := by simp only [Reps]
theorem Reps.cons {d : D} {ds : List D} {v : V} {vs : List V} (h : Rep K f H d v) (t : Reps K f H ds vs) : Reps K f H (d :: ds) (v :: vs) := by
  simp only [Reps]
  exact ⟨v, vs, rfl, h, t⟩
theorem Reps.append : ∀ {ds es : List D} {vs ws : List V}, Reps K f H ds vs → Reps K f H es ws → Reps K f H (ds ++ es) (vs ++ ws)
  | [], es, vs, ws, h, t => by simp only [Reps] at h; rw [h]; exact t
  | x :: xs, es, vs, ws, h, t => by
    simp only [Reps] at h
    obtain ⟨v, r, h1, h2, h3⟩ := h
    rw [h1]
    exact Reps.cons h2 (Reps.append h3 t)
theorem Reps.one {d : D} {v : V} (h : Rep K f H d v) : Reps K f H [d] [v] := Reps.cons h Reps.nil
theorem Reps.get : ∀ {ds : List D} {vs : List V} {i : Nat} {d : D}, Reps K f H ds vs → ds[i]? = some d → ∃ v, vs[i]? = some v ∧ Rep K f H d v
  | [], _, _, _, _, e => by simp at e
  | x :: xs, vs, 0, d, h, e => by
    simp only [Reps] at h
    obtain ⟨v, r, h1, h2, h3⟩ := h
    simp at e
    subst e
    exact ⟨v, by simp [h1], h2⟩
  | x :: xs, vs, i + 1, d, h, e => by
    simp only [Reps] at h
    obtain ⟨v, r, h1, h2, h3⟩ := h
    rw [h1]
    simpa using Reps.get (i := i) h3 (by simpa using e)
theorem Reps.get' : ∀ {ds : List D} {vs : List V} {i : Nat} {v : V}, Reps K f H ds vs → vs[i]? = some v → ∃ d, ds[i]? = some d ∧ Rep K f H d v
  | [], vs, _, _, h, e => by simp only [Reps] at h; rw [h] at e; simp at e
  | x :: xs, vs, 0, v', h, e => by
    simp only [Reps] at h
    obtain ⟨v, r, h1, h2, h3⟩ := h
    rw [h1] at e
    simp at e
    subst e
    exact ⟨x, rfl, h2⟩
  | x :: xs, vs, i + 1, v', h, e => by
    simp only [Reps] at h
    obtain ⟨v, r, h1, h2, h3⟩ := h
    rw [h1] at e
    simpa using Reps.get' (i := i) h3 (by simpa using e)
theorem Reps.set : ∀ {ds : List D} {vs : List V} {d : D} {v : V} (i : Nat), Reps K f H ds vs → Rep K f H d v → Reps K f H (ds.set i d) (vs.set i v)
  | [], vs, d, v, i, h, r => by simp only [Reps] at h; rw [h]; exact Reps.nil
  | x :: xs, vs, d, v, 0, h, r => by
    simp only [Reps] at h
    obtain ⟨w, q, h1, h2, h3⟩ := h
    rw [h1]
    exact Reps.cons r h3
  | x :: xs, vs, d, v, i + 1, h, r => by
    simp only [Reps] at h
    obtain ⟨w, q, h1, h2, h3⟩ := h
    rw [h1]
    exact Reps.cons h2 (Reps.set i h3 r)
theorem Reps.take : ∀ {ds : List D} {vs : List V} (n : Nat), Reps K f H ds vs → Reps K f H (ds.take n) (vs.take n)
  | _, _, 0, _ => by simpa using Reps.nil
  | [], vs, n + 1, h => by simp only [Reps] at h; rw [h]; exact Reps.nil
  | x :: xs, vs, n + 1, h => by
    simp only [Reps] at h
    obtain ⟨w, q, h1, h2, h3⟩ := h
    rw [h1]
    exact Reps.cons h2 (Reps.take n h3)
theorem Reps.drop : ∀ {ds : List D} {vs : List V} (n : Nat), Reps K f H ds vs → Reps K f H (ds.drop n) (vs.drop n)
  | _, _, 0, h => by simpa using h
  | [], vs, n + 1, h => by simp only [Reps] at h; rw [h]; exact Reps.nil
  | x :: xs, vs, n + 1, h => by
    simp only [Reps] at h
    obtain ⟨w, q, h1, h2, h3⟩ := h
    rw [h1]
    exact Reps.drop n h3
theorem Reps.reverse : ∀ {ds : List D} {vs : List V}, Reps K f H ds vs → Reps K f H ds.reverse vs.reverse
  | [], vs, h => by simp only [Reps] at h; rw [h]; exact Reps.nil
  | x :: xs, vs, h => by
    simp only [Reps] at h
    obtain ⟨w, q, h1, h2, h3⟩ := h
    rw [h1, List.reverse_cons, List.reverse_cons]
    exact Reps.append (Reps.reverse h3) (Reps.one h2)
theorem Reps.dropLast {ds : List D} {vs : List V} (h : Reps K f H ds vs) : Reps K f H ds.dropLast vs.dropLast := by
  rw [List.dropLast_eq_take, List.dropLast_eq_take, h.length]
  exact Reps.take _ h
theorem Reps.flat {ds : List D} {vs : List V} (h : Reps K f H ds vs) : ∀ k, Reps K f H (List.replicate k ds).flatten (List.replicate k vs).flatten
  | 0 => by simpa using Reps.nil
  | k + 1 => by
    rw [List.replicate_succ, List.replicate_succ, List.flatten_cons, List.flatten_cons]
    exact Reps.append h (Reps.flat h k)
theorem Reps.cut {ds : List D} {vs : List V} (lo hi : Option Int) (h : Reps K f H ds vs) : Reps K f H (cut ds lo hi) (cutV vs lo hi) := by
  unfold Mn.cut cutV
  rw [h.length]
  exact Reps.take _ (Reps.drop _ h)

mutual
theorem bel_mono {n m : Nat} (hnm : n ≤ m) : ∀ {d : D}, d.bel n = true → d.bel m = true
  | .non, _ => by simp only [D.bel]
  | .bl _, _ => by simp only [D.bel]
  | .int _, _ => by simp only [D.bel]
  | .str _, _ => by simp only [D.bel]
  | .tup xs, h => by simp only [D.bel] at h ⊢; exact bels_mono hnm h
  | .ref k, h => by
    simp only [D.bel, decide_eq_true_eq] at h ⊢
    omega
  | .frl xs, h => by simp only [D.bel] at h ⊢; exact bels_mono hnm h
theorem bels_mono {n m : Nat} (hnm : n ≤ m) : ∀ {ds : List D}, belows n ds = true → belows m ds = true
  | [], _ => by simp only [belows]
  | x :: xs, h => by
    simp only [belows, Bool.and_eq_true] at h ⊢
    exact ⟨bel_mono hnm h.1, bels_mono hnm h.2⟩
end
mutual
theorem Rep.bel : ∀ {d : D} {v : V}, Rep K f H d v → d.bel f.length = true
  | .non, _, _ => by simp only [D.bel]
  | .bl _, _, _ => by simp only [D.bel]
  | .int _, _, _ => by simp only [D.bel]
  | .str _, _, _ => by simp only [D.bel]
  | .tup xs, v, h => by
    simp only [Rep] at h
    obtain ⟨a, vs, h1, h2, h3⟩ := h
    simp only [D.bel]
    exact Reps.bel h3
  | .ref n, v, h => by
    simp only [Rep] at h
    obtain ⟨a, h1, h2⟩ := h
    simp only [D.bel, decide_eq_true_eq]
    exact (List.getElem?_eq_some_iff.mp h2).1
  | .frl xs, v, h => by
    simp only [Rep] at h
    obtain ⟨a, vs, h1, h2, h3⟩ := h
    simp only [D.bel]
    exact Reps.bel h3
theorem Reps.bel : ∀ {ds : List D} {vs : List V}, Reps K f H ds vs → belows f.length ds = true
  | [], vs, h => by simp only [belows]
  | x :: xs, vs, h => by
    simp only [Reps] at h
    obtain ⟨v, r, h1, h2, h3⟩ := h
    simp only [belows, Bool.and_eq_true]
    exact ⟨Rep.bel h2, Reps.bel h3⟩
end
theorem KvR.bel {κ : Type} : ∀ {ds : List (κ × D)} {ps : List (κ × V)}, KvR K f H ds ps → kvBelows f.length ds = true
  | [], vs, h => rfl
  | (k, x) :: xs, vs, h => by
    obtain ⟨v, r, h1, h2, h3⟩ := h
    show (D.bel _ x && kvBelows _ xs) = true
    rw [Bool.and_eq_true]
    exact ⟨Rep.bel h2, KvR.bel h3⟩
theorem CellR.bel {a : Addr} : ∀ {c : C}, CellR K f H a c → c.bel f.length = true
  | .lst xs, ⟨vs, _, h⟩ => h.bel
  | .dT kvs, ⟨vs, _, h⟩ => KvR.bel h
  | .dK kvs, ⟨vs, _, h⟩ => KvR.bel h
theorem soBelow_iff {n : Nat} : ∀ {S : So}, soBelow n S = true ↔ ∀ (k : Nat) c, S[k]? = some c → c.bel n = true
  | [] => by simp [soBelow]
  | c :: r => by
    simp only [soBelow, Bool.and_eq_true]
    rw [soBelow_iff (S := r)]
    constructor
    · rintro ⟨h1, h2⟩ k d e
      cases k with
      | zero => simp at e; rw [← e]; exact h1
      | succ k => exact h2 k d (by simpa using e)
    · intro h
      exact ⟨h 0 c rfl, fun k d e => h (k + 1) d (by simpa using e)⟩
mutual
theorem Rep.re {n : Nat} (hf : ∀ k, k < n → f'[k]? = f[k]?) : ∀ {d : D} {v : V}, d.bel n = true → Rep K f H d v → Rep K f' H d v
  | .non, _, _, h => by simpa only [Rep] using h
  | .bl _, _, _, h => by simpa only [Rep] using h
  | .int _, _, _, h => by simpa only [Rep] using h
  | .str _, _, _, h => by simpa only [Rep] using h
  | .tup xs, v, b, h => by
    simp only [Rep] at h ⊢
    simp only [D.bel] at b
    obtain ⟨a, vs, h1, h2, h3⟩ := h
    exact ⟨a, vs, h1, h2, Reps.re hf b h3⟩
  | .ref k, v, b, h => by
    simp only [Rep] at h ⊢
    simp only [D.bel, decide_eq_true_eq] at b
    obtain ⟨a, h1, h2⟩ := h
    exact ⟨a, h1, (hf k b).trans h2⟩
  | .frl xs, v, b, h => by
    simp only [Rep] at h ⊢
    simp only [D.bel] at b
    obtain ⟨a, vs, h1, h2, h3⟩ := h
    exact ⟨a, vs, h1, h2, Reps.re hf b h3⟩
theorem Reps.re {n : Nat} (hf : ∀ k, k < n → f'[k]? = f[k]?) : ∀ {ds : List D} {vs : List V}, belows n ds = true → Reps K f H ds vs → Reps K f' H ds vs
  | [], vs, _, h => by simpa only [Reps] using h
  | x :: xs, vs, b, h => by
    simp only [Reps] at h ⊢
    simp only [belows, Bool.and_eq_true] at b
    obtain ⟨v, r, h1, h2, h3⟩ := h
    exact ⟨v, r, h1, Rep.re hf b.1 h2, Reps.re hf b.2 h3⟩
end
theorem KvR.re {κ : Type} {n : Nat} (hf : ∀ k, k < n → f'[k]? = f[k]?) : ∀ {ds : List (κ × D)} {ps : List (κ × V)}, kvBelows n ds = true → KvR K f H ds ps → KvR K f' H ds ps
  | [], vs, _, h => h
  | (k, x) :: xs, vs, b, h => by
    obtain ⟨v, r, h1, h2, h3⟩ := h
    have b' : (D.bel n x && kvBelows n xs) = true := b
    rw [Bool.and_eq_true] at b'
    exact ⟨v, r, h1, Rep.re hf b'.1 h2, KvR.re hf b'.2 h3⟩
theorem CellR.re {n : Nat} {a : Addr} (hf : ∀ k, k < n → f'[k]? = f[k]?) : ∀ {c : C}, c.bel n = true → CellR K f H a c → CellR K f' H a c
  | .lst xs, b, ⟨vs, h1, h⟩ => ⟨vs, h1, Reps.re hf b h⟩
  | .dT kvs, b, ⟨vs, h1, h⟩ => ⟨vs, h1, KvR.re hf b h⟩
  | .dK kvs, b, ⟨vs, h1, h⟩ => ⟨vs, h1, KvR.re hf b h⟩

theorem gc_ok {f0 : List Addr} {H0 : Hp} {S0 S1 : So} {d : D} {v : V} (r0 : RepS K f0 H0 S0) (e : Ext f0 H0 f H) (r : RepS K f H S1) (rd : Rep K f H d v) :
    ∃ g, Ext f0 H0 g H ∧ RepS K g H (gc S0 d S1).2 ∧ Rep K g H (gc S0 d S1).1 v := by
  have triv : ∃ g, Ext f0 H0 g H ∧ RepS K g H S1 ∧ Rep K g H d v := ⟨f, e, r, rd⟩
  have hl : S0.length ≤ S1.length := by
    have := e.pre.length_le
    rw [r0.len, r.len] at this
    exact this
  have hfl : S0.length ≤ f.length := by rw [r.len]; exact hl
  have hf0 : f0 = f.take S0.length := by
    obtain ⟨g, rfl⟩ := e.pre
    rw [← r0.len]
    simp
  have hg : ∀ k, k < S0.length → f0[k]? = f[k]? := fun k hk => by
    rw [hf0, List.getElem?_take_of_lt hk]
  unfold gc
  split
  · rename_i hc
    have old : soBelow S0.length (S1.take S0.length) = true := by
      rcases hc with hc | hc
      · rw [hc, soBelow_iff]
        intro k c hk
        obtain ⟨a, _, h⟩ := r0.cell k c hk
        have := h.bel
        rw [r0.len] at this
        exact this
      · exact hc
    have rs0 : ∀ g : List Addr, (∀ k, k < S0.length → g[k]? = f[k]?) → ∀ n c, (S1.take S0.length)[n]? = some c → ∃ a, g[n]? = some a ∧ CellR K g H a c := fun g hgf n c h => by
      have hn : n < S0.length := by
        have := (List.getElem?_eq_some_iff.mp h).1
        rw [List.length_take] at this
        omega
      have hb := soBelow_iff.mp old n c h
      rw [List.getElem?_take_of_lt hn] at h
      obtain ⟨a, h1, h2⟩ := r.cell n c h
      exact ⟨a, (hgf n hn).trans h1, CellR.re hgf hb h2⟩
    have base : RepS K f0 H (S1.take S0.length) := by
      refine ⟨?_, ?_, rs0 f0 hg⟩
      · rw [r0.len, List.length_take]; omega
      · exact r0.nd
    have ex0 : Ext f0 H0 f0 H := ⟨List.prefix_refl _, e.tups, e.frzs⟩
    split
    · rename_i hb
      exact ⟨f0, ex0, base, Rep.re (n := 0) (fun k hk => absurd hk (Nat.not_lt_zero _)) hb rd⟩
    · split
      · rename_i n _
        split
        · rename_i c hn
          split
          · rename_i hh
            obtain ⟨h1, h2⟩ := hh
            obtain ⟨a, ha, hca⟩ := r.cell n c hn
            have hga : ∀ k, k < S0.length → (f0 ++ [a])[k]? = f[k]? := fun k hk => by
              rw [List.getElem?_append_left (by rw [r0.len]; exact hk)]
              exact hg k hk
            have hna : a ∉ f0 := by
              intro hm
              obtain ⟨j, hj⟩ := List.mem_iff_getElem?.mp hm
              have hj1 : j < f0.length := (List.getElem?_eq_some_iff.mp hj).1
              have hj2 := hg j (by rw [← r0.len]; exact hj1)
              rw [hj] at hj2
              have hlt : j < f.length := by
                rw [r0.len] at hj1
                omega
              have e1 : f[j]? = f[n]? := by rw [ha, ← hj2]
              have := (List.getElem?_inj hlt r.nd).mp e1
              rw [r0.len] at hj1
              omega
            refine ⟨f0 ++ [a], ⟨List.prefix_append _ _, e.tups, e.frzs⟩, ⟨?_, ?_, ?_⟩, ?_⟩
            · simp only [List.length_append, List.length_take, List.length_cons, List.length_nil, r0.len]; omega
            · rw [List.nodup_append]
              refine ⟨r0.nd, by simp, fun x hx y hy => ?_⟩
              simp at hy
              subst hy
              intro z
              exact hna (z ▸ hx)
            · intro k c' hk
              by_cases hlt : k < S0.length
              · rw [List.getElem?_append_left (by rw [List.length_take]; omega)] at hk
                exact rs0 _ hga k c' hk
              · have hk1 : k = S0.length := by
                  have := (List.getElem?_eq_some_iff.mp hk).1
                  simp only [List.length_append, List.length_take, List.length_cons, List.length_nil] at this
                  omega
                subst hk1
                have hlen : (S1.take S0.length).length = S0.length := by rw [List.length_take]; omega
                rw [List.getElem?_append_right (by omega), hlen, Nat.sub_self] at hk
                simp at hk
                subst hk
                refine ⟨a, ?_, CellR.re (n := 0) (fun k hk => absurd hk (Nat.not_lt_zero _)) h2 hca⟩
                rw [List.getElem?_append_right (by rw [r0.len]; exact Nat.le_refl _), r0.len, Nat.sub_self]
                rfl
            · simp only [Rep] at rd ⊢
              obtain ⟨b, hb1, hb2⟩ := rd
              rw [ha] at hb2
              cases hb2
              refine ⟨a, hb1, ?_⟩
              rw [List.getElem?_append_right (by rw [r0.len]; exact Nat.le_refl _), r0.len, Nat.sub_self]
              rfl
          · exact triv
        · exact triv
      · exact triv
  · exact triv

theorem RepS.free {a : Addr} (r : RepS K f H S) (h : H a = none) : a ∉ f := by
  intro hm
  obtain ⟨j, hj⟩ := List.mem_iff_getElem?.mp hm
  have hlt : j < S.length := by rw [← r.len]; exact (List.getElem?_eq_some_iff.mp hj).1
  obtain ⟨b, h1, h2⟩ := r.cell j S[j] (List.getElem?_eq_getElem hlt)
  rw [hj] at h1
  cases h1
  generalize S[j] = c at h2
  cases c with
  | lst xs => obtain ⟨vs, e, _⟩ := h2; rw [h] at e; cases e
  | dT xs => obtain ⟨vs, e, _⟩ := h2; rw [h] at e; cases e
  | dK xs => obtain ⟨vs, e, _⟩ := h2; rw [h] at e; cases e
theorem CellR.cong {a : Addr} {c : C} (e : Ext f H f' H') (h : H' a = H a) : CellR K f H a c → CellR K f' H' a c := by
  cases c with
  | lst xs => rintro ⟨vs, h1, h2⟩; exact ⟨vs, h.trans h1, h2.ext e⟩
  | dT xs => rintro ⟨vs, h1, h2⟩; exact ⟨vs, h.trans h1, KvR.ext e h2⟩
  | dK xs => rintro ⟨vs, h1, h2⟩; exact ⟨vs, h.trans h1, KvR.ext e h2⟩
theorem Ext.fresh {a : Addr} {o : HO} (h : H a = none) : Ext f H f (upd H a o) :=
  ⟨List.prefix_refl _, fun b xs e => by rw [upd_ne (ne_of_none e h)]; exact e, fun b ob u e => by rw [upd_ne (ne_of_none e h)]; exact e⟩
theorem RepS.fresh {a : Addr} {o : HO} (r : RepS K f H S) (h : H a = none) : RepS K f (upd H a o) S :=
  ⟨r.len, r.nd, fun n c e => by
    obtain ⟨b, h1, h2⟩ := r.cell n c e
    refine ⟨b, h1, h2.cong (Ext.fresh h) (upd_ne fun z => ?_)⟩
    subst z
    exact r.free h (List.mem_of_getElem? h1)⟩
theorem Ext.grow {a : Addr} {o : HO} (h : H a = none) : Ext f H (f ++ [a]) (upd H a o) :=
  ⟨List.prefix_append _ _, (Ext.fresh (f := f) h).tups, (Ext.fresh (f := f) h).frzs⟩
theorem RepS.grow {a : Addr} {o : HO} {c : C} (r : RepS K f H S) (h : H a = none) (hc : CellR K (f ++ [a]) (upd H a o) a c) : RepS K (f ++ [a]) (upd H a o) (S ++ [c]) := by
  refine ⟨by simp [r.len], ?_, fun n c' e => ?_⟩
  · rw [List.nodup_append]
    refine ⟨r.nd, by simp, fun x hx y hy => ?_⟩
    simp at hy
    subst hy
    intro z
    exact r.free h (z ▸ hx)
  · by_cases hn : n < S.length
    · rw [List.getElem?_append_left hn] at e
      obtain ⟨b, h1, h2⟩ := r.cell n c' e
      refine ⟨b, ?_, h2.cong (Ext.grow h) (upd_ne fun z => ?_)⟩
      · rw [List.getElem?_append_left (by rw [r.len]; exact hn)]; exact h1
      · subst z
        exact r.free h (List.mem_of_getElem? h1)
    · have hn1 : n = S.length := by
        have := (List.getElem?_eq_some_iff.mp e).1
        simp at this
        omega
      subst hn1
      rw [List.getElem?_append_right (Nat.le_refl _), Nat.sub_self] at e
      simp at e
      subst e
      refine ⟨a, ?_, hc⟩
      rw [List.getElem?_append_right (by rw [r.len]; exact Nat.le_refl _), r.len, Nat.sub_self]
      rfl
theorem Rep.new {a : Addr} (r : RepS K f H S) : Rep K (f ++ [a]) H' (.ref S.length) (.ref a) := by
  simp only [Rep]
  refine ⟨a, rfl, ?_⟩
  rw [List.getElem?_append_right (by rw [r.len]; exact Nat.le_refl _), r.len, Nat.sub_self]
  rfl
theorem Ext.write {a : Addr} {o u : HO} (h : H a = some u) (h1 : ∀ xs, u ≠ .tup xs) (h2 : ∀ ob x, u ≠ .frz ob x) : Ext f H f (upd H a o) :=
  ⟨List.prefix_refl _, fun b xs e => by rw [upd_ne (ne_of e h fun z => h1 xs z.symm)]; exact e, fun b ob x e => by rw [upd_ne (ne_of e h fun z => h2 ob x z.symm)]; exact e⟩
theorem RepS.write {n : Nat} {a : Addr} {o : HO} {c : C} (r : RepS K f H S) (hn : f[n]? = some a) (hx : Ext f H f (upd H a o)) (hc : CellR K f (upd H a o) a c) : RepS K f (upd H a o) (S.set n c) := by
  have hlt : n < S.length := by rw [← r.len]; exact (List.getElem?_eq_some_iff.mp hn).1
  refine ⟨by simp [r.len], r.nd, fun k c' e => ?_⟩
  by_cases hk : n = k
  · subst hk
    rw [List.getElem?_set_self hlt] at e
    cases e
    exact ⟨a, hn, hc⟩
  · rw [List.getElem?_set_ne hk] at e
    obtain ⟨b, h1, h2⟩ := r.cell k c' e
    refine ⟨b, h1, h2.cong hx (upd_ne fun z => ?_)⟩
    subst z
    have hlt' : n < f.length := by rw [r.len]; exact hlt
    exact hk ((List.getElem?_inj hlt' r.nd).mp (hn.trans h1.symm))
end
end Mn
end

section
set_option maxHeartbeats 1000000
namespace Mn
open PySem PySem.Spec PyProof.Rows L2
open AutoSeq1 (wpAny_loadPart')
def KQ (K : PySem.W.Frag) (f : List Addr) (H : Hp) (S : So) (d : D) (Q : VK) : Prop :=
  ∀ v f' H', Ext f H f' H' → RepS K f' H' S → Rep K f' H' d v → Q v H'
section
variable {K : PySem.W.Frag} {f : List Addr} {H : Hp} {S : So} {Q : VK}
theorem KQ.same {d : D} {v : V} (k : KQ K f H S d Q) (rs : RepS K f H S) (r : Rep K f H d v) : Q v H := k v f H Ext.refl rs r
theorem KQ.int {i : Int} (k : KQ K f H S (.int i) Q) (rs : RepS K f H S) : Q (.int i) H := k.same rs (by simp only [Rep])
theorem KQ.bl {i : Bool} (k : KQ K f H S (.bl i) Q) (rs : RepS K f H S) : Q (.bl i) H := k.same rs (by simp only [Rep])
theorem KQ.str {i : Str} (k : KQ K f H S (.str i) Q) (rs : RepS K f H S) : Q (.str i) H := k.same rs (by simp only [Rep])
theorem KQ.non (k : KQ K f H S .non Q) (rs : RepS K f H S) : Q .non H := k.same rs (by simp only [Rep])
theorem Rep.tupNew {ds : List D} {vs : List V} {p : Addr} (hp : H p = none) (r : Reps K f H ds vs) : Rep K f (upd H p (.tup vs)) (.tup ds) (.ref p) := by
  simp only [Rep]
  exact ⟨p, vs, rfl, upd_same, r.ext (Ext.fresh hp)⟩
theorem KQ.tup {ds : List D} {vs : List V} (k : KQ K f H S (.tup ds) Q) (rs : RepS K f H S) (r : Reps K f H ds vs) (p : Addr) (hp : H p = none) : Q (.ref p) (upd H p (.tup vs)) :=
  k _ f _ (Ext.fresh hp) (rs.fresh hp) (Rep.tupNew hp r)
theorem KQ.lst {ds : List D} {vs : List V} (k : KQ K f H (S ++ [.lst ds]) (.ref S.length) Q) (rs : RepS K f H S) (r : Reps K f H ds vs) (p : Addr) (hp : H p = none) : Q (.ref p) (upd H p (.lst vs)) :=
  k _ _ _ (Ext.grow hp) (rs.grow hp ⟨vs, upd_same, r.ext (Ext.grow hp)⟩) (Rep.new rs)
theorem KQ.refl_ext {d : D} {f0 : List Addr} {H0 : Hp} (k : KQ K f0 H0 S d Q) (e : Ext f0 H0 f H) : KQ K f H S d Q := fun v f' H' e' => k v f' H' (e.trans e')

theorem Rep.tupI {xs : List D} {v : V} (r : Rep K f H (.tup xs) v) : ∃ a vs, v = .ref a ∧ H a = some (.tup vs) ∧ Reps K f H xs vs := by simpa only [Rep] using r
theorem Rep.refI {n : Nat} {v : V} (r : Rep K f H (.ref n) v) : ∃ a, v = .ref a ∧ f[n]? = some a := by simpa only [Rep] using r
theorem Rep.lstI {n : Nat} {v : V} {xs : List D} (rs : RepS K f H S) (r : Rep K f H (.ref n) v) (e : S[n]? = some (.lst xs)) : ∃ a vs, v = .ref a ∧ f[n]? = some a ∧ H a = some (.lst vs) ∧ Reps K f H xs vs := by
  obtain ⟨a, h1, h2⟩ := r.refI
  obtain ⟨b, h3, vs, h4, h5⟩ := rs.cell n _ e
  rw [h2] at h3
  cases h3
  exact ⟨a, vs, h1, h2, h4, h5⟩
theorem Rep.intI {i : Int} {v : V} (r : Rep K f H (.int i) v) : v = .int i := by simpa only [Rep] using r
theorem Rep.blI {i : Bool} {v : V} (r : Rep K f H (.bl i) v) : v = .bl i := by simpa only [Rep] using r
theorem Rep.strI {i : Str} {v : V} (r : Rep K f H (.str i) v) : v = .str i := by simpa only [Rep] using r
theorem Rep.nonI {v : V} (r : Rep K f H .non v) : v = .non := by simpa only [Rep] using r

theorem items_of {x : D} {v : V} {xs : List D} (rs : RepS K f H S) (r : Rep K f H x v) (e : itemsOf S x = some xs) : ∃ a vs, v = .ref a ∧ (SqL K H a vs ∨ SqT K H a vs) ∧ Reps K f H xs vs := by
  cases x with
  | tup ys =>
    simp only [itemsOf, Option.some.injEq] at e
    subst e
    obtain ⟨a, vs, h1, h2, h3⟩ := r.tupI
    exact ⟨a, vs, h1, .inr (SqT.of h2), h3⟩
  | frl ys =>
    simp only [itemsOf, Option.some.injEq] at e
    subst e
    simp only [Rep] at r
    obtain ⟨a, vs, h1, h2, h3⟩ := r
    exact ⟨a, vs, h1, .inl h2.seq, h3⟩
  | ref n =>
    simp only [itemsOf] at e
    cases h : S[n]? with
    | none => rw [h] at e; cases e
    | some c =>
      rw [h] at e
      cases c with
      | lst ys =>
        cases e
        obtain ⟨a, vs, h1, h2, h3, h4⟩ := r.lstI rs h
        exact ⟨a, vs, h1, .inl (SqL.of h3), h4⟩
      | dT _ => cases e
      | dK _ => cases e
  | _ => simp [itemsOf] at e
theorem list_of {x : D} {v : V} {xs : List D} (rs : RepS K f H S) (r : Rep K f H x v) (e : listOf S x = some xs) : ∃ a vs, v = .ref a ∧ SqL K H a vs ∧ Reps K f H xs vs := by
  cases x with
  | frl ys =>
    simp only [listOf, Option.some.injEq] at e
    subst e
    simp only [Rep] at r
    obtain ⟨a, vs, h1, h2, h3⟩ := r
    exact ⟨a, vs, h1, h2.seq, h3⟩
  | ref n =>
    simp only [listOf] at e
    cases h : S[n]? with
    | none => rw [h] at e; cases e
    | some c =>
      rw [h] at e
      cases c with
      | lst ys =>
        cases e
        obtain ⟨a, vs, h1, h2, h3, h4⟩ := r.lstI rs h
        exact ⟨a, vs, h1, SqL.of h3, h4⟩
      | dT _ => cases e
      | dK _ => cases e
  | _ => simp [listOf] at e
end

theorem bits_le (x : Int) : Builtin.Int.intBits x ≤ x.natAbs.log2 + 1 := by
  unfold Builtin.Int.intBits
  split <;> omega
theorem mulOk.ok {i j : Int} (h : mulOk i j) : CMulX i j := by
  have h1 := bits_le i
  have h2 := bits_le j
  unfold mulOk at h
  unfold CMulX
  omega

theorem tuple_once (l : Addr) (items : Array Value) (n : Nat) (dd : Option Addr) (sl : Array (Option Value)) (u : Tok) (hne : items.isEmpty = false) :
    Meets (Builtin.«tuple.__mul__» ⟨[.ref l, .int 1 u], []⟩) (fun _ R s => s.heap.get? l = some { cls := .type "tuple", dict := dd, data := .seq items n, slots := sl } ∧ R (.ok (.ret (Value.ref l))) s) :=
  .of_wp fun prog w A R s h => by
    obtain ⟨hp, g, d, tk, os⟩ := s
    obtain ⟨hl, h⟩ := h
    have f1 := AutoSeq1.idx_int
    have c0 : (decide ((1 : Int) < -(2 ^ 63)) || decide ((1 : Int) ≥ 2 ^ 63)) = false := by decide
    have c1 : (items.isEmpty || (1 : Int) == 1) = true := by rw [hne]; rfl
    wp_walk using wpAny_loadPart' hl
    repeat (first
      | (refine wpAny_ite_false (decide_eq_false (by rw [c0]; exact Bool.false_ne_true)) ?_; wp_walk using wpAny_loadPart' hl)
      | (refine wpAny_ite_true (decide_eq_true c1) ?_; wp_walk using wpAny_loadPart' hl))
    exact ⟨_, rfl, h⟩
section
variable {X : Cx}
theorem op_repT1 : OpR X (binaryOp .Mult) (fun x y H Q => ∃ l xs, x = .ref l ∧ y = .int 1 ∧ SqT X.K H l xs ∧ xs ≠ [] ∧ Q (.ref l) H) := by
  intro pins s σ H x y v u Q I rx ry h
  obtain ⟨l, xs, rfl, rfl, hT, hne, q⟩ := h
  cases rx
  obtain ⟨t, rfl⟩ := ry
  obtain ⟨its, r, ⟨⟨cls, dd, data, sl⟩, ho, hc, n, hd⟩, hs⟩ := I.tuple hT
  simp only at hc hd
  subst hc hd
  have hi : its.toArray.isEmpty = false := by
    cases its with
    | nil => cases r; exact absurd rfl hne
    | cons a b => rfl
  refine wpAny_binaryOp_repeat_ref (T := "tuple") (U := "int") (by decide) ⟨_, ho, rfl⟩ (fun s' => typeIs_int s' 1 t) noFill_tuple_mul F.fills_int_mul F.slot_int_rmul repeat_tuple F.slot_int_index.lookup
    (call_meets F.slot_int_rmul (typeIs_int s 1 t) F.entry_int_rmul (F.args_int_rmul_2 _ _) (int_rmul_tuple 1 t l its.toArray n dd sl)
      ⟨ho, rfl, ⟨_, ho, rfl⟩, call_meets F.slot_tuple_mul ⟨_, ho, rfl⟩ F.entry_tuple_mul (F.args_tuple_mul_2 _ _) (tuple_once l its.toArray n dd sl t hi) ⟨ho, ?_⟩⟩)
  exact ⟨.ref l, H, I, rfl, q⟩
end

def opT : Op → Operator
  | .add => .Add
  | .sub => .Sub
  | .mul => .Mult
  | .fdiv => .FloorDiv
  | .mod => .Mod
  | .pow => .Pow
  | .shl => .LShift
  | .band => .BitAnd
def rOp (K : PySem.W.Frag) (o : Op) : R2 := fun x y H Q => ∃ f S dx dy d S', RepS K f H S ∧ Rep K f H dx x ∧ Rep K f H dy y ∧ opV o dx dy S = some (d, S') ∧ KQ K f H S' d Q
theorem Reps.eq_nil {K : PySem.W.Frag} {f : List Addr} {H : Hp} {vs : List V} (r : Reps K f H [] vs) : vs = [] := by simpa only [Reps] using r
theorem op_powW {X : Cx} : OpR X (binaryOp .Pow) (rI powOk fun i j => .int (i ^ j.toNat)) := opI fun i j _ _ _ _ s hc q => by
  obtain ⟨h1, h2, h3⟩ := hc
  refine AutoIntOps.pow_4 (by omega) (by simp; omega) (by simp; omega) (by simp; omega) ?_ q
  have hb := bits_le i
  have hz : bitsLine = 134217728 := bitsLine_eq
  unfold Builtin.Int.intTooBig
  rw [hz]
  simp only [decide_eq_true_eq, gt_iff_lt]
  have a1 : ((Builtin.Int.intBits i : Nat) : Int) * j ≤ ((i.natAbs.log2 : Int) + 1) * j := Int.mul_le_mul_of_nonneg_right (by omega) (by omega)
  omega
theorem op_ok {X : Cx} (o : Op) : OpR X (binaryOp (opT o)) (rOp X.K o) := by
  intro pins s σ H x y v u Q I rx ry h
  obtain ⟨f, S, dx, dy, d, S', rs, r1, r2, e, k⟩ := h
  unfold opV at e
  split at e
  · cases e
    exact op_add pins s σ H x y v u Q I rx ry ⟨_, _, r1.intI, r2.intI, k.int rs⟩
  · cases e
    exact op_sub pins s σ H x y v u Q I rx ry ⟨_, _, r1.intI, r2.intI, k.int rs⟩
  · split at e
    · rename_i hm
      cases e
      exact op_mulX pins s σ H x y v u Q I rx ry ⟨_, _, r1.intI, r2.intI, hm.ok, k.int rs⟩
    · cases e
  · split at e
    · rename_i hm
      cases e
      exact op_fdivW pins s σ H x y v u Q I rx ry ⟨_, _, r1.intI, r2.intI, hm, k.int rs⟩
    · cases e
  · split at e
    · rename_i hm
      cases e
      exact op_mod pins s σ H x y v u Q I rx ry ⟨_, _, r1.intI, r2.intI, hm, k.int rs⟩
    · cases e
  · split at e
    · rename_i hm
      cases e
      exact op_powW pins s σ H x y v u Q I rx ry ⟨_, _, r1.intI, r2.intI, hm, k.int rs⟩
    · cases e
  · rename_i i j
    split at e
    · rename_i hm
      cases e
      obtain ⟨h1, h2, h3⟩ := hm
      subst h1
      obtain ⟨n, rfl⟩ := Int.eq_ofNat_of_zero_le h2
      exact op_oneShl pins s σ H x y v u Q I rx ry ⟨n, r1.intI, r2.intI, by omega, by simpa using k.int rs⟩
    · cases e
  · rename_i i j
    split at e
    · rename_i hm
      cases e
      obtain ⟨h1, h2⟩ := hm
      subst h2
      obtain ⟨n, rfl⟩ := Int.eq_ofNat_of_zero_le h1
      exact op_odd pins s σ H x y v u Q I rx ry ⟨n, r1.intI, r2.intI, by simpa using k.int rs⟩
    · cases e
  · rename_i xs ys
    split at e
    · rename_i hm
      cases e
      obtain ⟨a, vs, rfl, h1, h2⟩ := r1.tupI
      obtain ⟨b, ws, rfl, h3, h4⟩ := r2.tupI
      have l1 := h2.length
      have l2 := h4.length
      refine op_catA pins s σ H _ _ v u Q I rx ry ⟨a, b, vs, ws, rfl, rfl, SqT.of h1, SqT.of h3, by omega, fun z => ?_, fun z1 z2 => ?_, fun _ _ p hp => ?_⟩
      · subst z
        have : xs = [] := List.eq_nil_of_length_eq_zero (by simpa using l1)
        subst this
        exact k.same rs r2
      · subst z2
        have : ys = [] := List.eq_nil_of_length_eq_zero (by simpa using l2)
        subst this
        refine k.same rs ?_
        rw [List.append_nil]
        exact r1
      · exact k.tup rs (h2.append h4) p hp
    · cases e
  · split at e
    · rename_i hm
      cases e
      exact op_add_str pins s σ H x y v u Q I rx ry ⟨_, _, r1.strI, r2.strI, hm, k.str rs⟩
    · cases e
  · rename_i a b
    split at e
    · rename_i xs ys h1 h2
      split at e
      · rename_i hm
        cases e
        obtain ⟨a', vs, rfl, _, h3, h4⟩ := r1.lstI rs h1
        obtain ⟨b', ws, rfl, _, h5, h6⟩ := r2.lstI rs h2
        have l1 := h4.length
        have l2 := h6.length
        exact op_cat pins s σ H _ _ v u Q I rx ry ⟨a', b', vs, ws, rfl, rfl, h3, h5, by omega, fun p hp => k.lst rs (h4.append h6) p hp⟩
      · cases e
    · cases e
  · rename_i xs kk
    split at e
    · rename_i hm
      cases e
      obtain ⟨h1, h2, h3, h4⟩ := hm
      obtain ⟨a, vs, rfl, h5, h6⟩ := r1.tupI
      obtain rfl := r2.intI
      have l1 := h6.length
      have hne : vs ≠ [] := by
        intro z
        subst z
        simp at l1
        subst l1
        simp at h3
      by_cases hk : kk = 1
      · subst hk
        refine op_repT1 pins s σ H _ _ v u Q I rx ry ⟨a, vs, rfl, rfl, SqT.of h5, hne, k.same rs ?_⟩
        simpa using r1
      · exact op_repT pins s σ H _ _ v u Q I rx ry ⟨a, kk, vs, rfl, rfl, SqT.of h5, hne, by omega, h2, by omega, fun p hp => k.tup rs (h6.flat _) p hp⟩
    · cases e
  · rename_i a kk
    split at e
    · rename_i xs h1
      split at e
      · rename_i hm
        cases e
        obtain ⟨a', vs, rfl, _, h3, h4⟩ := r1.lstI rs h1
        obtain rfl := r2.intI
        have l1 := h4.length
        exact op_rep pins s σ H _ _ v u Q I rx ry ⟨a', kk, vs, rfl, rfl, h3, by omega, by omega, by rw [← l1]; exact hm.2.2, fun p hp => k.lst rs (h4.flat _) p hp⟩
      · cases e
    · cases e
  · cases e
end Mn
end

section
set_option maxHeartbeats 1000000
namespace Mn
open PySem PySem.Spec PyProof.Rows L2
section
variable {K : PySem.W.Frag} {f : List Addr} {H : Hp} {S : So}
theorem Reps.dpAll {n : Nat} (ih : ∀ {d : D} {v : V} {p : PyData}, Rep K f H d v → toPy n S d = some p → Dp K H v p) :
    ∀ {ds : List D} {vs : List V} {ps : List PyData}, Reps K f H ds vs → ds.mapM (toPy n S) = some ps → DpAll K H vs ps
  | [], vs, ps, r, e => by
    obtain rfl := r.eq_nil
    simp at e
    subst e
    exact .nil
  | x :: xs, vs, ps, r, e => by
    simp only [Reps] at r
    obtain ⟨v, q, rfl, r1, r2⟩ := r
    rw [List.mapM_cons] at e
    cases h1 : toPy n S x with
    | none => rw [h1] at e; simp at e
    | some p =>
      rw [h1] at e
      cases h2 : xs.mapM (toPy n S) with
      | none => rw [h2] at e; simp at e
      | some q' =>
        rw [h2] at e
        simp at e
        subst e
        exact .cons (ih r1 h1) (Reps.dpAll ih r2 h2)
theorem Rep.dp (rs : RepS K f H S) : ∀ {n : Nat} {d : D} {v : V} {p : PyData}, Rep K f H d v → toPy n S d = some p → Dp K H v p
  | 0, _, _, _, _, e => by simp [toPy] at e
  | n + 1, .non, _, _, r, e => by
    simp only [toPy, Option.some.injEq] at e
    rw [r.nonI, ← e]; exact .non
  | n + 1, .bl b, _, _, r, e => by
    simp only [toPy, Option.some.injEq] at e
    rw [r.blI, ← e]; exact .bl b
  | n + 1, .int b, _, _, r, e => by
    simp only [toPy, Option.some.injEq] at e
    rw [r.intI, ← e]; exact .int b
  | n + 1, .str b, _, _, r, e => by
    simp only [toPy, Option.some.injEq] at e
    rw [r.strI, ← e]; exact .str b
  | n + 1, .tup xs, _, _, r, e => by
    simp only [toPy] at e
    obtain ⟨ps, h, rfl⟩ := Option.map_eq_some_iff.mp e
    obtain ⟨a, vs, rfl, h1, h2⟩ := r.tupI
    exact .tup (SqT.of h1) (Reps.dpAll (fun r e => Rep.dp rs r e) h2 h)
  | n + 1, .frl xs, _, _, r, e => by
    simp only [toPy] at e
    obtain ⟨ps, h, rfl⟩ := Option.map_eq_some_iff.mp e
    simp only [Rep] at r
    obtain ⟨a, vs, rfl, h1, h2⟩ := r
    exact .lst h1.seq (Reps.dpAll (fun r e => Rep.dp rs r e) h2 h)
  | n + 1, .ref k, _, _, r, e => by
    simp only [toPy] at e
    split at e
    · rename_i xs hk
      obtain ⟨ps, h, rfl⟩ := Option.map_eq_some_iff.mp e
      obtain ⟨a, vs, rfl, _, h1, h2⟩ := r.lstI rs hk
      exact .lst (SqL.of h1) (Reps.dpAll (fun r e => Rep.dp rs r e) h2 h)
    · cases e
theorem asV_rep {d : D} {v : V} (h : flatD d = true) (r : Rep K f H d v) : v = asV d ∧ flatV v = true := by
  cases d with
  | non => exact ⟨r.nonI, by rw [r.nonI]; rfl⟩
  | bl b => exact ⟨r.blI, by rw [r.blI]; rfl⟩
  | int b => exact ⟨r.intI, by rw [r.intI]; rfl⟩
  | str b => exact ⟨r.strI, by rw [r.strI]; rfl⟩
  | tup _ => simp [flatD] at h
  | ref _ => simp [flatD] at h
  | frl _ => simp [flatD] at h
theorem asVs_rep : ∀ {ds : List D} {vs : List V}, ds.all flatD = true → Reps K f H ds vs → vs = ds.map asV ∧ vs.all flatV = true
  | [], vs, h, r => by obtain rfl := r.eq_nil; exact ⟨rfl, rfl⟩
  | x :: xs, vs, h, r => by
    simp only [Reps] at r
    obtain ⟨v, q, rfl, r1, r2⟩ := r
    simp only [List.all_cons, Bool.and_eq_true] at h
    obtain ⟨h1, h2⟩ := asV_rep h.1 r1
    obtain ⟨h3, h4⟩ := asVs_rep h.2 r2
    exact ⟨by rw [h1, h3]; rfl, by simp [h2, h4]⟩
theorem Rep.nonD {d : D} (r : Rep K f H d .non) : d = .non := by
  cases d with
  | non => rfl
  | bl b => exact nomatch r.blI
  | int b => exact nomatch r.intI
  | str b => exact nomatch r.strI
  | tup b => obtain ⟨_, _, h, _⟩ := r.tupI; exact nomatch h
  | ref b => obtain ⟨_, h, _⟩ := r.refI; exact nomatch h
  | frl b =>
    simp only [Rep] at r
    obtain ⟨_, _, h, _⟩ := r
    exact nomatch h
theorem keyD_rep {d : D} {v : V} {k : L2.Key} (e : keyD d = some k) (r : Rep K f H d v) : v = kV k := by
  cases d with
  | int i => simp only [keyD, Option.some.injEq] at e; subst e; exact r.intI
  | str i => simp only [keyD, Option.some.injEq] at e; subst e; exact r.strI
  | _ => simp [keyD] at e
theorem keyDs_rep : ∀ {ds : List D} {vs : List V} {ks : List L2.Key}, ds.mapM keyD = some ks → Reps K f H ds vs → vs = ks.map kV
  | [], vs, ks, e, r => by obtain rfl := r.eq_nil; simp at e; subst e; rfl
  | x :: xs, vs, ks, e, r => by
    simp only [Reps] at r
    obtain ⟨v, q, rfl, r1, r2⟩ := r
    rw [List.mapM_cons] at e
    cases h1 : keyD x with
    | none => rw [h1] at e; simp at e
    | some p =>
      rw [h1] at e
      cases h2 : xs.mapM keyD with
      | none => rw [h2] at e; simp at e
      | some q' =>
        rw [h2] at e
        simp at e
        subst e
        rw [keyD_rep h1 r1, keyDs_rep h2 r2]
        rfl
theorem keyT_rep {d : D} {v : V} {k : List L2.Key} (e : keyT d = some k) (r : Rep K f H d v) : ∃ b, v = .ref b ∧ H b = some (.tup (k.map kV)) := by
  cases d with
  | tup xs =>
    obtain ⟨a, vs, rfl, h1, h2⟩ := r.tupI
    exact ⟨a, rfl, by rw [h1, keyDs_rep e h2]⟩
  | _ => simp [keyT] at e
theorem KvR.val {κ : Type} [DecidableEq κ] : ∀ {ds : List (κ × D)} {ps : List (κ × V)} (k : κ), KvR K f H ds ps →
    (((ds.find? fun kv => decide (kv.1 = k)).map (·.2) = none ∧ valV ps k = none) ∨ ∃ d v, (ds.find? fun kv => decide (kv.1 = k)).map (·.2) = some d ∧ valV ps k = some v ∧ Rep K f H d v)
  | [], ps, k, h => by
    cases (show ps = [] from h)
    exact .inl ⟨rfl, rfl⟩
  | (k', x) :: xs, ps, k, h => by
    obtain ⟨v, r, rfl, h2, h3⟩ := h
    by_cases e : k' = k
    · exact .inr ⟨x, v, by simp [List.find?_cons, e], by simp [valV, List.find?_cons, e], h2⟩
    · have := KvR.val k h3
      simpa [valV, List.find?_cons, e] using this
theorem KvR.any {κ : Type} [DecidableEq κ] : ∀ {ds : List (κ × D)} {ps : List (κ × V)} (k : κ), KvR K f H ds ps → (valV ps k).isSome = ds.any fun kv => decide (kv.1 = k)
  | [], ps, k, h => by
    cases (show ps = [] from h)
    rfl
  | (k', x) :: xs, ps, k, h => by
    obtain ⟨v, r, rfl, h2, h3⟩ := h
    have := KvR.any k h3
    by_cases e : k' = k
    · simp [valV, List.find?_cons, e]
    · simpa [valV, List.find?_cons, e] using this
theorem KvR.put {κ : Type} [DecidableEq κ] {d : D} {v : V} {k : κ} (r : Rep K f H d v) {ds : List (κ × D)} {ps : List (κ × V)} (h : KvR K f H ds ps) : KvR K f H (putKv ds k d) (putK ps k v) := by
  have a : ∀ {ds : List (κ × D)} {ps : List (κ × V)}, KvR K f H ds ps → (ps.any fun kv => decide (kv.1 = k)) = ds.any fun kv => decide (kv.1 = k) := by
    intro ds
    induction ds with
    | nil => intro ps h; cases (show ps = [] from h); rfl
    | cons x xs ih =>
      intro ps h
      obtain ⟨v, r, rfl, h2, h3⟩ := h
      simp [ih h3]
  have b : ∀ {ds : List (κ × D)} {ps : List (κ × V)}, KvR K f H ds ps → KvR K f H (ds.map fun kv => if kv.1 = k then (kv.1, d) else kv) (ps.map fun kv => if kv.1 = k then (kv.1, v) else kv) := by
    intro ds
    induction ds with
    | nil => intro ps h; cases (show ps = [] from h); rfl
    | cons x xs ih =>
      intro ps h
      obtain ⟨w, q, rfl, h2, h3⟩ := h
      by_cases e : x.1 = k
      · exact ⟨v, _, by simp [e], by simpa [e] using r, ih h3⟩
      · exact ⟨w, _, by simp [e], by simpa [e] using h2, ih h3⟩
  have c : ∀ {ds : List (κ × D)} {ps : List (κ × V)}, KvR K f H ds ps → KvR K f H (ds ++ [(k, d)]) (ps ++ [(k, v)]) := by
    intro ds
    induction ds with
    | nil => intro ps h; cases (show ps = [] from h); exact ⟨v, [], rfl, r, rfl⟩
    | cons x xs ih =>
      intro ps h
      obtain ⟨w, q, rfl, h2, h3⟩ := h
      exact ⟨w, q ++ [(k, v)], rfl, h2, ih h3⟩
  unfold putKv putK
  rw [a h]
  split
  · exact b h
  · exact c h
end
def cpT : Cp → CmpOp
  | .eq => .Eq
  | .ne => .NotEq
  | .lt => .Lt
  | .le => .LtE
  | .gt => .Gt
  | .ge => .GtE
  | .is => .Is
  | .isnot => .IsNot
  | .inn => .In
  | .notin => .NotIn
def rCp (K : PySem.W.Frag) (o : Cp) : R2 := fun x y H Q => ∃ f S dx dy b, RepS K f H S ∧ Rep K f H dx x ∧ Rep K f H dy y ∧ cpV o dx dy S = some b ∧ Q (.bl b) H
section
variable {X : Cx}
theorem op_eqO (hu : X.A.units + 64 < cLine) : OpR X (compareOp .Eq) (fun x y H Q => ∃ f S dx dy b, RepS X.K f H S ∧ Rep X.K f H dx x ∧ Rep X.K f H dy y ∧ eqO S dx dy = some b ∧ Q (.bl b) H) := by
  intro pins s σ H x y v u Q I rx ry ⟨f, S, dx, dy, b, rs, r1, r2, e, q⟩
  unfold eqO at e
  split at e
  · rename_i p q' h1 h2
    split at e
    · rename_i hs
      cases e
      exact op_eqD hu pins s σ H x y v u Q I rx ry ⟨p, q', r1.dp rs h1, r2.dp rs h2, hs.1, hs.2, q⟩
    · cases e
  · cases e
theorem op_neO (hu : X.A.units + 64 < cLine) : OpR X (compareOp .NotEq) (fun x y H Q => ∃ f S dx dy b, RepS X.K f H S ∧ Rep X.K f H dx x ∧ Rep X.K f H dy y ∧ eqO S dx dy = some b ∧ Q (.bl (!b)) H) := by
  intro pins s σ H x y v u Q I rx ry ⟨f, S, dx, dy, b, rs, r1, r2, e, q⟩
  unfold eqO at e
  split at e
  · rename_i p q' h1 h2
    split at e
    · rename_i hs
      cases e
      exact op_neD hu pins s σ H x y v u Q I rx ry ⟨p, q', r1.dp rs h1, r2.dp rs h2, hs.1, hs.2, q⟩
    · cases e
  · cases e
theorem op_inO (hu : X.A.units + 1 < cLine) (neg : Bool) : OpR X (compareOp (if neg then .NotIn else .In)) (fun x y H Q => ∃ f S dx dy b, RepS X.K f H S ∧ Rep X.K f H dx x ∧ Rep X.K f H dy y ∧ inV S dx dy = some b ∧ Q (.bl (if neg then !b else b)) H) := by
  intro pins s σ H x y v u Q I rx ry ⟨f, S, dx, dy, b, rs, r1, r2, e, q⟩
  have sq : ∀ {p : Addr} {vs : List V} {ys : List D}, y = .ref p → (SqL X.K H p vs ∨ SqT X.K H p vs) → Reps X.K f H ys vs → flatD dx = true ∧ ys.all flatD = true → L2.inV (asV dx) (ys.map asV) = b →
      wpAny (model X.prog X.w) X.A (compareOp (if neg then .NotIn else .In) v u) (EP X pins σ Q) X.xe s := by
    intro p vs ys ey hq hr hf hb
    obtain ⟨h1, h2⟩ := asV_rep hf.1 r1
    obtain ⟨h3, h4⟩ := asVs_rep hf.2 hr
    have hb' : L2.inV x vs = b := by rw [h1, h3]; exact hb
    cases neg with
    | true => exact op_notIn_seq pins s σ H x y v u Q I rx ry ⟨p, vs, ey, hq, h2, h4, by rw [if_pos rfl, hb']; simpa using q⟩
    | false => exact op_in_seq pins s σ H x y v u Q I rx ry ⟨p, vs, ey, hq, h2, h4, by rw [if_neg Bool.false_ne_true, hb']; simpa using q⟩
  have dc : ∀ {a : Addr} {o : Option V}, y = .ref a → DGet H a x o → o.isSome = b → wpAny (model X.prog X.w) X.A (compareOp (if neg then .NotIn else .In) v u) (EP X pins σ Q) X.xe s := by
    intro a o ey g ho
    subst ey
    obtain rfl : u = Value.ref a := ry
    cases neg with
    | true => exact d_notIn hu I g rx fun s' I' => ⟨.bl _, H, I', rfl, by rw [ho]; simpa using q⟩
    | false => exact d_in hu I g rx fun s' I' => ⟨.bl _, H, I', rfl, by rw [ho]; simpa using q⟩
  unfold inV at e
  split at e
  · split at e
    · rename_i ys hf
      cases e
      obtain ⟨a, vs, ey, h1, h2⟩ := r2.tupI
      exact sq ey (.inr (SqT.of h1)) h2 hf rfl
    · cases e
  · rename_i n
    split at e
    · rename_i ys hn
      split at e
      · rename_i hf
        cases e
        obtain ⟨a, vs, ey, _, h1, h2⟩ := r2.lstI rs hn
        exact sq ey (.inl (SqL.of h1)) h2 hf rfl
      · cases e
    · rename_i kvs hn
      split at e
      · rename_i k hk
        cases e
        obtain ⟨a, ey, h1⟩ := r2.refI
        obtain ⟨a', h2, ps, h3, h4⟩ := rs.cell n _ hn
        rw [h1] at h2
        cases h2
        obtain ⟨b, ex, hb⟩ := keyT_rep hk r1
        subst ex
        exact dc ey (DGet.t h3 hb) (KvR.any k h4)
      · cases e
    · rename_i kvs hn
      split at e
      · rename_i k hk
        cases e
        obtain ⟨a, ey, h1⟩ := r2.refI
        obtain ⟨a', h2, ps, h3, h4⟩ := rs.cell n _ hn
        rw [h1] at h2
        cases h2
        have ex := keyD_rep hk r1
        subst ex
        exact dc ey (DGet.k h3) (KvR.any k h4)
      · cases e
    · cases e
  · cases e
theorem cp_ok (hu : X.A.units + 64 < cLine) (o : Cp) : OpR X (compareOp (cpT o)) (rCp X.K o) := by
  intro pins s σ H x y v u Q I rx ry ⟨f, S, dx, dy, b, rs, r1, r2, e, q⟩
  cases o with
  | eq => exact op_eqO hu pins s σ H x y v u Q I rx ry ⟨f, S, dx, dy, b, rs, r1, r2, e, q⟩
  | ne =>
    obtain ⟨c, h, rfl⟩ := Option.map_eq_some_iff.mp e
    exact op_neO hu pins s σ H x y v u Q I rx ry ⟨f, S, dx, dy, c, rs, r1, r2, h, q⟩
  | lt =>
    simp only [cpV] at e
    split at e
    · cases e
      exact op_lt pins s σ H x y v u Q I rx ry ⟨_, _, r1.intI, r2.intI, q⟩
    · cases e
  | le =>
    simp only [cpV] at e
    split at e
    · cases e
      exact op_le pins s σ H x y v u Q I rx ry ⟨_, _, r1.intI, r2.intI, q⟩
    · cases e
  | gt =>
    simp only [cpV] at e
    split at e
    · cases e
      exact op_gt pins s σ H x y v u Q I rx ry ⟨_, _, r1.intI, r2.intI, q⟩
    · cases e
  | ge =>
    simp only [cpV] at e
    split at e
    · cases e
      exact op_ge pins s σ H x y v u Q I rx ry ⟨_, _, r1.intI, r2.intI, q⟩
    · cases e
  | is =>
    simp only [cpV] at e
    split at e
    · cases e
      exact op_isN pins s σ H x y v u Q I rx ry ⟨r2.nonI, by rw [r1.nonI]; exact q⟩
    · rename_i d hd
      cases e
      refine op_isN pins s σ H x y v u Q I rx ry ⟨r2.nonI, ?_⟩
      have : x ≠ .non := by
        intro z
        exact hd (Rep.nonD (z ▸ r1))
      rw [decide_eq_false this]
      exact q
    · cases e
      exact op_is_bl pins s σ H x y v u Q I rx ry ⟨_, _, r1.blI, r2.blI, q⟩
    · cases e
  | isnot =>
    simp only [cpV] at e
    split at e
    · cases e
      exact op_notN pins s σ H x y v u Q I rx ry ⟨r2.nonI, by rw [r1.nonI]; exact q⟩
    · rename_i d hd
      cases e
      refine op_notN pins s σ H x y v u Q I rx ry ⟨r2.nonI, ?_⟩
      have : x ≠ .non := by
        intro z
        exact hd (Rep.nonD (z ▸ r1))
      rw [decide_eq_false this]
      exact q
    · cases e
      exact op_isnot_bl pins s σ H x y v u Q I rx ry ⟨_, _, r1.blI, r2.blI, q⟩
    · cases e
  | inn => exact op_inO (by omega) false pins s σ H x y v u Q I rx ry ⟨f, S, dx, dy, b, rs, r1, r2, e, q⟩
  | notin =>
    obtain ⟨c, h, rfl⟩ := Option.map_eq_some_iff.mp e
    exact op_inO (by omega) true pins s σ H x y v u Q I rx ry ⟨f, S, dx, dy, c, rs, r1, r2, h, q⟩
end
end Mn
end

section
set_option maxHeartbeats 1000000
namespace Mn
open PySem PySem.Spec PyProof.Rows L2
section
variable (T : Tb) (cf : Str → List D → So → Option (D × So)) (K : PySem.W.Frag)
def tE (m : E) : TE := fun σ H Q => ∃ ρ S f, RepE K f H ρ σ ∧ RepS K f H S ∧ ∃ d S', evE T cf m ρ S = some (d, S') ∧ KQ K f H S' d Q
def AQ (f : List Addr) (H : Hp) (S : So) (ds : List D) (Q : List V → Hp → Prop) : Prop := ∀ vs f' H', Ext f H f' H' → RepS K f' H' S → Reps K f' H' ds vs → Q vs H'
def tA (ms : Es) : TA := fun σ H Q => ∃ ρ S f, RepE K f H ρ σ ∧ RepS K f H S ∧ ∃ ds S', evEs T cf ms ρ S = some (ds, S') ∧ AQ K f H S' ds Q
def TQ (f : List Addr) (H : Hp) (S : So) (b : Bool) (Q : Bool → Hp → Prop) : Prop := ∀ f' H', Ext f H f' H' → RepS K f' H' S → Q b H'
def tT (m : E) : TT := fun σ H Q => ∃ ρ S f, RepE K f H ρ σ ∧ RepS K f H S ∧ ∃ b S', evT T cf m ρ S = some (b, S') ∧ TQ K f H S' b Q
end
theorem peMono {X : Cx} {e : Expr} {t t' : TE} (h : PE X e t) (k : ∀ σ H Q, t' σ H Q → t σ H Q) : PE X e t' := ⟨fun pins s σ H Q I q => h.run pins s σ H Q I (k σ H Q q)⟩
theorem ptMono {X : Cx} {e : Expr} {t t' : TT} (h : PT X e t) (k : ∀ σ H Q, t' σ H Q → t σ H Q) : PT X e t' := ⟨fun pins s σ H Q I q => h.run pins s σ H Q I (k σ H Q q)⟩
theorem pwMono {X : Cx} {e : Expr} {t t' : TT} (h : PW X e t) (k : ∀ σ H Q, t' σ H Q → t σ H Q) : PW X e t' := ⟨fun wh pins s σ H Q I q => h.run wh pins s σ H Q I (k σ H Q q)⟩
theorem paMono {X : Cx} {e : List Expr} {t t' : TA} (h : PA X e t) (k : ∀ σ H Q, t' σ H Q → t σ H Q) : PA X e t' := ⟨fun pos pins s σ H Q I q => h.run pos pins s σ H Q I (k σ H Q q)⟩
section
variable {X : Cx} {T : Tb} {cf : Str → List D → So → Option (D × So)} {pos : Pos} {f : List Addr} {H : Hp} {S : So} {ρ : En} {σ : L2.St}

theorem bindSome {α β : Type} {o : Option α} {g : α → Option β} {b : β} (h : o.bind g = some b) : ∃ a, o = some a ∧ g a = some b := by
  cases o with
  | none => cases h
  | some a => exact ⟨a, rfl, h⟩

theorem tE_one {K : PySem.W.Frag} {a : E} {r : D × So} {R : V → Hp → Prop} (re : RepE K f H ρ σ) (rs : RepS K f H S) (e : evE T cf a ρ S = some r)
    (h : ∀ x f' H', Ext f H f' H' → RepE K f' H' ρ σ → RepS K f' H' r.2 → Rep K f' H' r.1 x → R x H') : tE T cf K a σ H R :=
  ⟨ρ, S, f, re, rs, r.1, r.2, e, fun v f' H' x s q => h v f' H' x (re.ext x) s q⟩
theorem tE_two {K : PySem.W.Frag} {a b : E} {r q : D × So} {R : V → V → Hp → Prop} (re : RepE K f H ρ σ) (rs : RepS K f H S) (e : evE T cf a ρ S = some r) (e' : evE T cf b ρ r.2 = some q)
    (h : ∀ x y f' H', Ext f H f' H' → RepE K f' H' ρ σ → RepS K f' H' q.2 → Rep K f' H' r.1 x → Rep K f' H' q.1 y → R x y H') : tE T cf K a σ H fun x H1 => tE T cf K b σ H1 fun y H2 => R x y H2 :=
  tE_one re rs e fun x f1 H1 x1 re1 rs1 r1 => tE_one re1 rs1 e' fun y f2 H2 x2 re2 rs2 r2 => h x y f2 H2 (x1.trans x2) re2 rs2 (r1.ext x2) r2
theorem tA_one {K : PySem.W.Frag} {a : Es} {r : List D × So} {R : List V → Hp → Prop} (re : RepE K f H ρ σ) (rs : RepS K f H S) (e : evEs T cf a ρ S = some r)
    (h : ∀ x f' H', Ext f H f' H' → RepE K f' H' ρ σ → RepS K f' H' r.2 → Reps K f' H' r.1 x → R x H') : tA T cf K a σ H R :=
  ⟨ρ, S, f, re, rs, r.1, r.2, e, fun v f' H' x s q => h v f' H' x (re.ext x) s q⟩

theorem me_var {i : Nat} {x : Str} (hN : X.N[i]? = some x) (hv : Vis X.env.scope x) (hd : (x == ("__debug__" : Str)) = false) (hcd : (x == ("__classdict__" : Str)) = false) : PE X (.Name x pos) (tE T cf X.K (.var i)) := by
  refine peMono (pe_var hN hv hd hcd) fun σ H Q ⟨ρ, S, f, re, rs, d, S', e, k⟩ => ?_
  simp only [evE] at e
  split at e
  · rename_i d' hd'
    cases e
    obtain ⟨v, h1, h2⟩ := re.get i _ hd'
    exact ⟨v, h1, k.same rs h2⟩
  · cases e
theorem me_int {i : Int} {j : Nat} : PE X (.Constant (.int i) j pos) (tE T cf X.K (.int i)) := peMono pe_int fun σ H Q ⟨ρ, S, f, re, rs, d, S', e, k⟩ => by
  simp only [evE] at e
  cases e
  exact k.int rs
theorem me_bl {i : Bool} {j : Nat} : PE X (.Constant (.bool i) j pos) (tE T cf X.K (.bl i)) := peMono pe_bl fun σ H Q ⟨ρ, S, f, re, rs, d, S', e, k⟩ => by
  simp only [evE] at e
  cases e
  exact k.bl rs
theorem me_non {j : Nat} : PE X (.Constant .none j pos) (tE T cf X.K .non) := peMono pe_non fun σ H Q ⟨ρ, S, f, re, rs, d, S', e, k⟩ => by
  simp only [evE] at e
  cases e
  exact k.non rs
theorem me_str {i : Str} {j : Nat} : PE X (.Constant (.str i) j pos) (tE T cf X.K (.str i)) := peMono pe_str fun σ H Q ⟨ρ, S, f, re, rs, d, S', e, k⟩ => by
  simp only [evE] at e
  cases e
  exact k.str rs
theorem me_glob {x : Str} (hg : Gl X x) (hm : ∀ i, T.cons.lookup x = some i → ∃ t, X.mg x = some (.int i t)) (hd : (x == ("__debug__" : Str)) = false) : PE X (.Name x pos) (tE T cf X.K (.glob x)) := by
  refine ⟨fun pins s σ H Q I ⟨ρ, S, f, re, rs, d, S', e, k⟩ => ?_⟩
  simp only [evE] at e
  obtain ⟨i, h1, h2⟩ := Option.map_eq_some_iff.mp e
  cases h2
  obtain ⟨t, ht⟩ := hm i h1
  exact (pe_glob (v := .int i) hg ht ⟨t, rfl⟩ hd).run pins s σ H Q I (k.int rs)

variable {a b c : Expr} {ma mb mc : E}
theorem me_bin {o : Op} (ha : PE X a (tE T cf X.K ma)) (hb : PE X b (tE T cf X.K mb)) : PE X (.BinOp a (opT o) b pos) (tE T cf X.K (.bin o ma mb)) := by
  refine peMono (pe_op (op_ok o) ha hb) fun σ H Q ⟨ρ, S, f, re, rs, d, S', e, k⟩ => ?_
  simp only [evE] at e
  obtain ⟨r, h1, e⟩ := bindSome e
  obtain ⟨q, h2, e⟩ := bindSome e
  exact tE_two re rs h1 h2 fun x y f' H' x1 re1 rs1 r1 r2 => ⟨f', q.2, _, _, d, S', rs1, r1, r2, e, k.refl_ext x1⟩
theorem me_neg (ha : PE X a (tE T cf X.K ma)) : PE X (.UnaryOp .USub a pos) (tE T cf X.K (.neg ma)) := by
  refine peMono (pe_un un_neg ha) fun σ H Q ⟨ρ, S, f, re, rs, d, S', e, k⟩ => ?_
  simp only [evE] at e
  obtain ⟨⟨r, S1⟩, h1, e⟩ := bindSome e
  refine tE_one re rs h1 fun x f' H' x1 re1 rs1 r1 => ?_
  cases r <;> simp only [reduceCtorEq] at e
  cases e
  exact ⟨_, r1.intI, (k.refl_ext x1).int rs1⟩
theorem me_not (ha : PE X a (tE T cf X.K ma)) : PE X (.UnaryOp .Not a pos) (tE T cf X.K (.not ma)) := by
  refine peMono (pe_not ha) fun σ H Q ⟨ρ, S, f, re, rs, d, S', e, k⟩ => ?_
  simp only [evE] at e
  obtain ⟨⟨r, S1⟩, h1, e⟩ := bindSome e
  refine tE_one re rs h1 fun x f' H' x1 re1 rs1 r1 => ?_
  cases r <;> simp only [reduceCtorEq] at e
  cases e
  exact ⟨_, r1.blI, (k.refl_ext x1).bl rs1⟩
theorem cmp_go {o : Cp} {σ : L2.St} {H : Hp} {Q : VK} (h : tE T cf X.K (.cmp o ma mb) σ H Q) : tOp (rCp X.K o) (tE T cf X.K ma) (tE T cf X.K mb) σ H Q := by
  obtain ⟨ρ, S, f, re, rs, d, S', e, k⟩ := h
  simp only [evE] at e
  obtain ⟨r, h1, e⟩ := bindSome e
  obtain ⟨q, h2, e⟩ := bindSome e
  obtain ⟨c, h3, e⟩ := Option.map_eq_some_iff.mp e
  cases e
  exact tE_two re rs h1 h2 fun x y f' H' x1 re1 rs1 r1 r2 => ⟨f', q.2, _, _, c, rs1, r1, r2, h3, (k.refl_ext x1).bl rs1⟩
theorem me_cmp {o : Cp} (hu : X.A.units + 64 < cLine) (ha : PE X a (tE T cf X.K ma)) (hb : PE X b (tE T cf X.K mb)) (hm : behindInMarks (cpT o) b = false) : PE X (.Compare a [cpT o] [b] pos) (tE T cf X.K (.cmp o ma mb)) :=
  peMono (pe_cmpR (cp_ok hu o) ha hb hm) fun σ H Q h => cmp_go h
theorem tT_of {K : PySem.W.Frag} {m : E} {σ : L2.St} {H : Hp} {Q : Bool → Hp → Prop} (h : tT T cf K m σ H Q) : tE T cf K m σ H fun x H' => ∃ k, x = .bl k ∧ Q k H' := by
  obtain ⟨ρ, S, f, re, rs, b, S', e, k⟩ := h
  simp only [evT] at e
  obtain ⟨⟨r, S1⟩, h1, e⟩ := bindSome e
  refine tE_one re rs h1 fun x f' H' x1 re1 rs1 r1 => ?_
  cases r <;> simp only [reduceCtorEq] at e
  cases e
  exact ⟨_, r1.blI, k f' H' x1 rs1⟩
theorem mt_cmp {o : Cp} (hu : X.A.units + 64 < cLine) (ha : PE X a (tE T cf X.K ma)) (hb : PE X b (tE T cf X.K mb)) (hm : behindInMarks (cpT o) b = false) : PT X (.Compare a [cpT o] [b] pos) (tT T cf X.K (.cmp o ma mb)) :=
  ptMono (pt_cmpR (cp_ok hu o) ha hb hm) fun σ H Q h => cmp_go (tT_of h)
theorem chain_go {o p : Cp} {σ : L2.St} {H : Hp} {Q : VK} (h : tE T cf X.K (.cmp2 o p ma mb mc) σ H Q) : tChain (rCp X.K o) (rCp X.K p) (tE T cf X.K ma) (tE T cf X.K mb) (tE T cf X.K mc) σ H Q := by
  obtain ⟨ρ, S, f, re, rs, d, S', e, k⟩ := h
  simp only [evE] at e
  obtain ⟨r, h1, e⟩ := bindSome e
  obtain ⟨q, h2, e⟩ := bindSome e
  obtain ⟨c, h3, e⟩ := bindSome e
  refine tE_two re rs h1 h2 fun x y f' H' x1 re1 rs1 r1 r2 => ⟨f', q.2, _, _, c, rs1, r1, r2, h3, c, rfl, ?_⟩
  cases c with
  | true =>
    rw [if_pos rfl] at e ⊢
    obtain ⟨t, h4, e⟩ := bindSome e
    obtain ⟨c', h5, e⟩ := Option.map_eq_some_iff.mp e
    cases e
    exact tE_one re1 rs1 h4 fun z f2 H2 x2 re2 rs2 r3 => ⟨f2, t.2, _, _, c', rs2, r2.ext x2, r3, h5, (k.refl_ext (x1.trans x2)).bl rs2⟩
  | false =>
    rw [if_neg Bool.false_ne_true] at e ⊢
    cases e
    exact (k.refl_ext x1).bl rs1
theorem me_cmp2 {o p : Cp} (hu : X.A.units + 64 < cLine) (ha : PE X a (tE T cf X.K ma)) (hb : PE X b (tE T cf X.K mb)) (hc : PE X c (tE T cf X.K mc)) (hm : lastMarks [cpT o, cpT p] [b, c] = false) : PE X (.Compare a [cpT o, cpT p] [b, c] pos) (tE T cf X.K (.cmp2 o p ma mb mc)) :=
  peMono (pe_chain (cp_ok hu o) (cp_ok hu p) ha hb hc hm) fun σ H Q h => chain_go h
theorem mt_cmp2 {o p : Cp} (hu : X.A.units + 64 < cLine) (ha : PE X a (tE T cf X.K ma)) (hb : PE X b (tE T cf X.K mb)) (hc : PE X c (tE T cf X.K mc)) (hm : lastMarks [cpT o, cpT p] [b, c] = false) : PT X (.Compare a [cpT o, cpT p] [b, c] pos) (tT T cf X.K (.cmp2 o p ma mb mc)) :=
  ptMono (pt_chain (cp_ok hu o) (cp_ok hu p) ha hb hc hm) fun σ H Q h => chain_go (tT_of h)
theorem mt_val {e : Expr} {m : E} (h : PE X e (tE T cf X.K m)) (he : ∀ whole, isTrue e X.env whole = (do let v ← whole; standAt e.pos; holding [v] (truthy v))) : PT X e (tT T cf X.K m) :=
  ptMono (pt_val h he) fun σ H Q h => tT_of h
theorem mt_not (ha : PT X a (tT T cf X.K ma)) : PT X (.UnaryOp .Not a pos) (tT T cf X.K (.not ma)) := by
  refine ptMono (pt_not ha) fun σ H Q ⟨ρ, S, f, re, rs, b, S', e, k⟩ => ?_
  simp only [evT, evE] at e
  obtain ⟨⟨r, S1⟩, h1, e⟩ := bindSome e
  obtain ⟨⟨r', S2⟩, h2, h1⟩ := bindSome h1
  cases r' <;> simp only [reduceCtorEq] at h1
  cases h1
  cases e
  refine ⟨ρ, S, f, re, rs, _, _, ?_, fun f' H' x s => k f' H' x s⟩
  simp only [evT, h2]
  rfl

variable {rest : List Expr} {ms : Es}
theorem me_and1 (ha : PE X a (tE T cf X.K ma)) : PE X (.BoolOp .And [a] pos) (tE T cf X.K (.and (.cons ma .nil))) :=
  peMono (pe_one ha) fun σ H Q ⟨ρ, S, f, re, rs, d, S', e, k⟩ => ⟨ρ, S, f, re, rs, d, S', by simpa only [evE, evAnd] using e, k⟩
theorem me_or1 (ha : PE X a (tE T cf X.K ma)) : PE X (.BoolOp .Or [a] pos) (tE T cf X.K (.or (.cons ma .nil))) :=
  peMono (pe_one ha) fun σ H Q ⟨ρ, S, f, re, rs, d, S', e, k⟩ => ⟨ρ, S, f, re, rs, d, S', by simpa only [evE, evOr] using e, k⟩
theorem me_andC {m2 : E} (ha : PE X a (tE T cf X.K ma)) (hb : PE X (.BoolOp .And (b :: rest) pos) (tE T cf X.K (.and (.cons m2 ms)))) : PE X (.BoolOp .And (a :: b :: rest) pos) (tE T cf X.K (.and (.cons ma (.cons m2 ms)))) := by
  refine peMono (pe_and ha hb) fun σ H Q ⟨ρ, S, f, re, rs, d, S', e, k⟩ => ?_
  simp only [evE, evAnd] at e
  obtain ⟨⟨r, S1⟩, h1, e⟩ := bindSome e
  refine tE_one re rs h1 fun x f' H' x1 re1 rs1 r1 => ?_
  cases r <;> simp only [reduceCtorEq] at e
  rename_i bb
  refine ⟨bb, r1.blI, ?_⟩
  cases bb with
  | true =>
    rw [if_pos rfl]
    exact ⟨ρ, S1, f', re1, rs1, d, S', by simpa only [evE] using e, k.refl_ext x1⟩
  | false =>
    rw [if_neg Bool.false_ne_true]
    cases e
    exact (k.refl_ext x1).bl rs1
theorem me_orC {m2 : E} (ha : PE X a (tE T cf X.K ma)) (hb : PE X (.BoolOp .Or (b :: rest) pos) (tE T cf X.K (.or (.cons m2 ms)))) : PE X (.BoolOp .Or (a :: b :: rest) pos) (tE T cf X.K (.or (.cons ma (.cons m2 ms)))) := by
  refine peMono (pe_or ha hb) fun σ H Q ⟨ρ, S, f, re, rs, d, S', e, k⟩ => ?_
  simp only [evE, evOr] at e
  obtain ⟨⟨r, S1⟩, h1, e⟩ := bindSome e
  refine tE_one re rs h1 fun x f' H' x1 re1 rs1 r1 => ?_
  cases r <;> simp only [reduceCtorEq] at e
  rename_i bb
  refine ⟨bb, r1.blI, ?_⟩
  cases bb with
  | false =>
    rw [if_neg Bool.false_ne_true]
    exact ⟨ρ, S1, f', re1, rs1, d, S', by simpa only [evE] using e, k.refl_ext x1⟩
  | true =>
    rw [if_pos rfl]
    cases e
    exact (k.refl_ext x1).bl rs1
theorem mw_and1 (ha : PT X a (tT T cf X.K ma)) : PW X (.BoolOp .And [a] pos) (tT T cf X.K (.and (.cons ma .nil))) :=
  pwMono (pw_and1 ha) fun σ H Q ⟨ρ, S, f, re, rs, b, S', e, k⟩ => ⟨ρ, S, f, re, rs, b, S', by simpa only [evT, evE, evAnd] using e, k⟩
theorem mw_or1 (ha : PT X a (tT T cf X.K ma)) : PW X (.BoolOp .Or [a] pos) (tT T cf X.K (.or (.cons ma .nil))) :=
  pwMono (pw_or1 ha) fun σ H Q ⟨ρ, S, f, re, rs, b, S', e, k⟩ => ⟨ρ, S, f, re, rs, b, S', by simpa only [evT, evE, evOr] using e, k⟩
theorem tT_one {K : PySem.W.Frag} {m : E} {b : Bool} {S1 : So} {R : Bool → Hp → Prop} (re : RepE K f H ρ σ) (rs : RepS K f H S) (e : evT T cf m ρ S = some (b, S1))
    (h : ∀ f' H', Ext f H f' H' → RepE K f' H' ρ σ → RepS K f' H' S1 → R b H') : tT T cf K m σ H R :=
  ⟨ρ, S, f, re, rs, b, S1, e, fun f' H' x s => h f' H' x (re.ext x) s⟩
theorem mw_andC {m2 : E} (ha : PT X a (tT T cf X.K ma)) (hb : PW X (.BoolOp .And (b :: rest) pos) (tT T cf X.K (.and (.cons m2 ms)))) : PW X (.BoolOp .And (a :: b :: rest) pos) (tT T cf X.K (.and (.cons ma (.cons m2 ms)))) := by
  refine pwMono (pw_and ha hb) fun σ H Q ⟨ρ, S, f, re, rs, d, S', e, k⟩ => ?_
  simp only [evT, evE, evAnd] at e
  obtain ⟨⟨r0, S0⟩, e1, e⟩ := bindSome e
  obtain ⟨⟨r, S1⟩, h1, e1⟩ := bindSome e1
  cases r <;> simp only [reduceCtorEq] at e1
  rename_i bb
  refine tT_one (b := bb) (S1 := S1) re rs (by simp only [evT, h1]; rfl) fun f' H' x1 re1 rs1 => ?_
  cases bb with
  | true =>
    rw [if_pos rfl]
    exact ⟨ρ, S1, f', re1, rs1, d, S', by simp only [evT, evE]; rw [show evAnd T cf (.cons m2 ms) ρ S1 = some (r0, S0) from e1]; exact e, fun f2 H2 x2 s2 => k f2 H2 (x1.trans x2) s2⟩
  | false =>
    rw [if_neg Bool.false_ne_true]
    cases e1
    cases e
    exact k f' H' x1 rs1
theorem mw_orC {m2 : E} (ha : PT X a (tT T cf X.K ma)) (hb : PW X (.BoolOp .Or (b :: rest) pos) (tT T cf X.K (.or (.cons m2 ms)))) : PW X (.BoolOp .Or (a :: b :: rest) pos) (tT T cf X.K (.or (.cons ma (.cons m2 ms)))) := by
  refine pwMono (pw_or ha hb) fun σ H Q ⟨ρ, S, f, re, rs, d, S', e, k⟩ => ?_
  simp only [evT, evE, evOr] at e
  obtain ⟨⟨r0, S0⟩, e1, e⟩ := bindSome e
  obtain ⟨⟨r, S1⟩, h1, e1⟩ := bindSome e1
  cases r <;> simp only [reduceCtorEq] at e1
  rename_i bb
  refine tT_one (b := bb) (S1 := S1) re rs (by simp only [evT, h1]; rfl) fun f' H' x1 re1 rs1 => ?_
  cases bb with
  | false =>
    rw [if_neg Bool.false_ne_true]
    exact ⟨ρ, S1, f', re1, rs1, d, S', by simp only [evT, evE]; rw [show evOr T cf (.cons m2 ms) ρ S1 = some (r0, S0) from e1]; exact e, fun f2 H2 x2 s2 => k f2 H2 (x1.trans x2) s2⟩
  | true =>
    rw [if_pos rfl]
    cases e1
    cases e
    exact k f' H' x1 rs1
theorem me_ite (hc : PT X c (tT T cf X.K mc)) (ha : PE X a (tE T cf X.K ma)) (hb : PE X b (tE T cf X.K mb)) : PE X (.IfExp c a b pos) (tE T cf X.K (.ite mc ma mb)) := by
  refine peMono (pe_ifExp hc ha hb) fun σ H Q ⟨ρ, S, f, re, rs, d, S', e, k⟩ => ?_
  simp only [evE] at e
  obtain ⟨⟨r, S1⟩, h1, e⟩ := bindSome e
  cases r <;> simp only [reduceCtorEq] at e
  rename_i bb
  refine tT_one (b := bb) (S1 := S1) re rs (by simp only [evT, h1]; rfl) fun f' H' x1 re1 rs1 => ?_
  cases bb with
  | true =>
    rw [if_pos rfl]
    exact ⟨ρ, S1, f', re1, rs1, d, S', e, k.refl_ext x1⟩
  | false =>
    rw [if_neg Bool.false_ne_true]
    exact ⟨ρ, S1, f', re1, rs1, d, S', e, k.refl_ext x1⟩

theorem ma_nil : PA X [] (tA T cf X.K .nil) := paMono pa_nil fun σ H Q ⟨ρ, S, f, re, rs, ds, S', e, k⟩ => by
  simp only [evEs] at e
  cases e
  exact k [] f H Ext.refl rs Reps.nil
theorem ma_cons (ha : PE X a (tE T cf X.K ma)) (hr : PA X rest (tA T cf X.K ms)) (hs : starEach (a :: rest) X.env = (false, eval a X.env) :: starEach rest X.env) : PA X (a :: rest) (tA T cf X.K (.cons ma ms)) := by
  refine paMono (pa_cons ha hr hs) fun σ H Q ⟨ρ, S, f, re, rs, ds, S', e, k⟩ => ?_
  simp only [evEs] at e
  obtain ⟨r, h1, e⟩ := bindSome e
  obtain ⟨q, h2, e⟩ := Option.map_eq_some_iff.mp e
  cases e
  exact tE_one re rs h1 fun x f' H' x1 re1 rs1 r1 => tA_one re1 rs1 h2 fun xs f2 H2 x2 re2 rs2 r2 => k _ f2 H2 (x1.trans x2) rs2 (Reps.cons (r1.ext x2) r2)
theorem me_tup {es : List Expr} {j : Nat} (h : PA X es (tA T cf X.K ms)) : PE X (.Tuple es j pos) (tE T cf X.K (.tup ms)) := by
  refine peMono (pe_tup h) fun σ H Q ⟨ρ, S, f, re, rs, d, S', e, k⟩ => ?_
  simp only [evE] at e
  obtain ⟨r, h1, e⟩ := bindSome e
  split at e
  · rename_i hl
    cases e
    refine tA_one re rs h1 fun xs f' H' x1 re1 rs1 r1 => ⟨by rw [← r1.length]; exact hl, fun p hp => (k.refl_ext x1).tup rs1 r1 p hp⟩
  · cases e
theorem me_lst {es : List Expr} (h : PA X es (tA T cf X.K ms)) : PE X (.List es pos) (tE T cf X.K (.lst ms)) := by
  refine peMono (pe_lst h) fun σ H Q ⟨ρ, S, f, re, rs, d, S', e, k⟩ => ?_
  simp only [evE] at e
  obtain ⟨r, h1, e⟩ := bindSome e
  split at e
  · rename_i hl
    cases e
    refine tA_one re rs h1 fun xs f' H' x1 re1 rs1 r1 => ⟨by rw [← r1.length]; exact hl, fun p hp => (k.refl_ext x1).lst rs1 r1 p hp⟩
  · cases e
theorem me_dT : PE X (.Dict [] [] pos) (tE T cf X.K .dT) := by
  refine peMono pe_dnewT fun σ H Q ⟨ρ, S, f, re, rs, d, S', e, k⟩ => ?_
  simp only [evE] at e
  cases e
  exact fun p hp => k _ _ _ (Ext.grow hp) (rs.grow hp ⟨[], upd_same, rfl⟩) (Rep.new rs)
theorem me_dK : PE X (.Dict [] [] pos) (tE T cf X.K .dK) := by
  refine peMono pe_dnewK fun σ H Q ⟨ρ, S, f, re, rs, d, S', e, k⟩ => ?_
  simp only [evE] at e
  cases e
  exact fun p hp => k _ _ _ (Ext.grow hp) (rs.grow hp ⟨[], upd_same, rfl⟩) (Rep.new rs)

theorem Reps.atI {K : PySem.W.Frag} {f : List Addr} {H : Hp} {xs : List D} {vs : List V} {i : Int} {d : D} (r : Reps K f H xs vs) (e : L2.atI xs i = some d) : ∃ v, L2.atI vs i = some v ∧ Rep K f H d v := by
  unfold L2.atI at e ⊢
  rw [r.length] at e
  obtain ⟨j, h1, h2⟩ := bindSome e
  obtain ⟨v, h3, h4⟩ := r.get h2
  exact ⟨v, by rw [h1]; exact h3, h4⟩
theorem me_ix (ha : PE X a (tE T cf X.K ma)) (hb : PE X b (tE T cf X.K mb)) (hs : PlainIx b) : PE X (.Subscript a b pos) (tE T cf X.K (.ix ma mb)) := by
  refine peMono (pe_ix (ix_list.or ix_tup) ha hb hs) fun σ H Q ⟨ρ, S, f, re, rs, d, S', e, k⟩ => ?_
  simp only [evE] at e
  obtain ⟨r, h1, e⟩ := bindSome e
  obtain ⟨q, h2, e⟩ := bindSome e
  refine tE_two re rs h1 h2 fun x y f' H' x1 re1 rs1 r1 r2 => ?_
  unfold ixV at e
  split at e
  · rename_i kk hk
    rw [hk] at r2
    split at e
    · rename_i xs hx
      obtain ⟨d', h3, h4⟩ := Option.map_eq_some_iff.mp e
      cases h4
      obtain ⟨p, vs, ex, hq, rr⟩ := items_of rs1 r1 hx
      obtain ⟨v, h5, h6⟩ := rr.atI h3
      rcases hq with hq | hq
      · exact .inl ⟨p, vs, kk, v, ex, r2.intI, hq, h5, (k.refl_ext x1).same rs1 h6⟩
      · exact .inr ⟨p, vs, kk, v, ex, r2.intI, hq, h5, (k.refl_ext x1).same rs1 h6⟩
    · cases e
  · cases e
def tO (T : Tb) (cf : Str → List D → So → Option (D × So)) (K : PySem.W.Frag) (m : Eo) : TO := fun σ H Q => ∃ ρ S f, RepE K f H ρ σ ∧ RepS K f H S ∧ ∃ o S', evO T cf m ρ S = some (o, S') ∧ ∀ f' H', Ext f H f' H' → RepS K f' H' S' → Q o H'
theorem poMono {e : Option Expr} {t t' : TO} (h : PO X e t) (k : ∀ σ H Q, t' σ H Q → t σ H Q) : PO X e t' := ⟨fun pins s σ H Q I q => h.run pins s σ H Q I (k σ H Q q)⟩
theorem mo_none : PO X none (tO T cf X.K .none) := poMono po_none fun σ H Q ⟨ρ, S, f, re, rs, o, S', e, k⟩ => by
  simp only [evO] at e
  cases e
  exact k f H Ext.refl rs
theorem mo_some (ha : PE X a (tE T cf X.K ma)) : PO X (some a) (tO T cf X.K (.some ma)) := by
  refine poMono (po_some ha) fun σ H Q ⟨ρ, S, f, re, rs, o, S', e, k⟩ => ?_
  simp only [evO] at e
  obtain ⟨⟨r, S1⟩, h1, e⟩ := bindSome e
  refine tE_one re rs h1 fun x f' H' x1 re1 rs1 r1 => ?_
  cases r <;> simp only [reduceCtorEq] at e
  cases e
  exact ⟨_, r1.intI, k f' H' x1 rs1⟩
theorem cut_whole (xs : List D) (lo hi : Option Int) (h : HT.sIx xs.length 0 lo = 0 ∧ HT.sIx xs.length xs.length hi = xs.length) : cut xs lo hi = xs := by
  unfold cut
  rw [h.1, h.2]
  simp
theorem me_sl {lo hi : Option Expr} {ml mh : Eo} {p2 : Pos} (ha : PE X a (tE T cf X.K ma)) (hl : PO X lo (tO T cf X.K ml)) (hh : PO X hi (tO T cf X.K mh)) : PE X (.Subscript a (.Slice lo hi none p2) pos) (tE T cf X.K (.sl ma ml mh)) := by
  refine peMono (pe_slice (sl_list.or sl_tupA) ha hl hh) fun σ H Q ⟨ρ, S, f, re, rs, d, S', e, k⟩ => ?_
  simp only [evE] at e
  obtain ⟨r, h1, e⟩ := bindSome e
  obtain ⟨q, h2, e⟩ := bindSome e
  obtain ⟨t, h3, e⟩ := bindSome e
  refine tE_one re rs h1 fun x f1 H1 x1 re1 rs1 r1 => ⟨ρ, _, f1, re1, rs1, _, _, h2, fun f2 H2 x2 rs2 => ⟨ρ, _, f2, re1.ext x2, rs2, _, _, h3, fun f3 H3 x3 rs3 => ?_⟩⟩
  have r3 := (r1.ext x2).ext x3
  have k3 := k.refl_ext (x1.trans (x2.trans x3))
  unfold slV at e
  split at e
  · rename_i xs hx
    cases e
    rw [hx] at r3
    obtain ⟨p, vs, ex, h4, h5⟩ := r3.tupI
    refine .inr ⟨p, vs, ex, SqT.of h4, fun hw => ?_, fun _ p hp => k3.tup rs3 (h5.cut _ _) p hp⟩
    rw [← h5.length] at hw
    refine k3.same rs3 ?_
    rw [cut_whole _ _ _ hw, ← ex]
    exact r3
  · split at e
    · rename_i xs hx
      cases e
      obtain ⟨p, vs, ex, h4, h5⟩ := list_of rs3 r3 hx
      exact .inl ⟨p, vs, ex, h4, fun p hp => k3.lst rs3 (h5.cut _ _) p hp⟩
    · cases e
end
end Mn
end

section
set_option maxHeartbeats 1000000
namespace Mn
open PySem PySem.Spec PyProof.Rows L2
theorem back_places (n : Nat) : Builtin.Slice.slicePlaces ((n : Int) - 1) (-1) (-1) = n := by
  unfold Builtin.Slice.slicePlaces
  have h0 : ¬ ((-1 : Int) > 0) := by decide
  simp only [h0, if_false, Int.neg_neg, Int.ediv_one]
  split <;> omega
theorem fmAll {α β : Type} {p : α → Option β} {g : α → β} : ∀ {l : List α}, (∀ k ∈ l, p k = some (g k)) → l.filterMap p = l.map g
  | [], _ => rfl
  | x :: xs, h => by
    rw [List.filterMap_cons, h x List.mem_cons_self, List.map_cons, fmAll fun k hk => h k (List.mem_cons_of_mem _ hk)]
theorem back_pick (items : Array Value) : ((List.range items.size).filterMap fun (k : Nat) => items[(((items.size : Nat) : Int) - 1 + (k : Int) * (-1)).toNat]?) = items.toList.reverse := by
  apply List.ext_getElem?
  intro i
  have hall : ∀ k, k ∈ List.range items.size → (items[(((items.size : Nat) : Int) - 1 + (k : Int) * (-1)).toNat]?) = some (items.toList.reverse.getD k default) := by
    intro k hk
    have hk := List.mem_range.mp hk
    have e : (((items.size : Nat) : Int) - 1 + (k : Int) * (-1)).toNat = items.size - 1 - k := by omega
    rw [e]
    have hlt : items.size - 1 - k < items.size := by omega
    rw [List.getD_eq_getElem?_getD, List.getElem?_reverse (by simpa using hk)]
    simp [hlt]
  have e2 : (List.range items.size).filterMap (fun (k : Nat) => items[(((items.size : Nat) : Int) - 1 + (k : Int) * (-1)).toNat]?) = (List.range items.size).map fun k => items.toList.reverse.getD k default := by
    exact fmAll hall
  rw [e2]
  by_cases hi : i < items.size
  · rw [List.getElem?_map, List.getElem?_range hi]
    simp only [Option.map_some]
    rw [List.getD_eq_getElem?_getD]
    have : i < items.toList.reverse.length := by simpa using hi
    rw [List.getElem?_eq_getElem this]
    rfl
  · rw [List.getElem?_eq_none (by simpa using hi), List.getElem?_eq_none (by simpa using hi)]
section
variable {prog : Program} {w : World} {A : Around} {E : Value → Shared → Prop} {s : Shared}
theorem tup_back {a c : Addr} {its : Array Value} {v0 : Value} {Q : Value → Shared → Prop} (pt : IsTup s.heap a its) (ps : s.heap.IsSliceOf c .none .none v0) (pv : IsPart v0 (some (-1))) (hz : its.size ≤ sizeLine)
    (h : Q (.ref s.heap.objs.size) { s with heap := s.heap.push { cls := .type "tuple", data := .seq its.toList.reverse.toArray } }) : wpAny (model prog w) A (getItem (.ref a) (.ref c)) Q E s := by
  obtain ⟨oc, hoc, hk, hdat⟩ := id ps
  have tc : s.TypeIs (.ref c) "slice" := ⟨oc, hoc, hk⟩
  have room : sizeOk (.seq its.toList.reverse.toArray) := by
    show its.toList.reverse.toArray.size ≤ sizeLine
    simpa using hz
  unfold getItem
  try with_reducible refine wpAny_holding ?_
  first | refine wpAny_bind (wpAny_pure ?_) | skip
  refine wpAny_bind (wpAny_sequenceKey pt.typeIs (by decide) ?_)
  refine wpAny_bind (wpAny_callSpecial?_slot (name := Str.ofString "__getitem__") pt.typeIs PyProof.Rows.slot_tuple_getitem (wpAny_call_entry PyProof.Rows.slot_tuple_getitem pt.typeIs PyProof.Rows.entry_tuple_getitem ?_ (PyProof.Rows.args_tuple_getitem _ _)))
  show wpAny _ _ (Builtin.Tuple.tupleItemsOf (.ref a) >>= _) _ _ s
  refine wpAny_bind (tupleItemsOf_ pt ?_)
  refine wpAny_bind (wpAny_typeOf tc ?_)
  rw [if_pos (by decide)]
  have app : ∀ {R : Int × Int × Nat → Shared → Prop} {E' : Value → Shared → Prop} {A' : Around}, R (((its.size : Nat) : Int) - 1, -1, its.size) s → wpAny (model prog w) A' (Builtin.Slice.sliceApplied (.ref c) (pure ((its.size : Nat) : Int))) R E' s := by
    intro R E' A' hR
    unfold Builtin.Slice.sliceApplied Builtin.Slice.sliceFields
    refine wpAny_bind (wpAny_bind (wpAny_field hoc hdat (x := .none) rfl (wpAny_bind (wpAny_field hoc hdat (x := .none) rfl (wpAny_bind (wpAny_field hoc hdat (x := v0) rfl (wpAny_pure ?_)))))))
    refine wpAny_bind (HT.slicePart_ pv ?_)
    show wpAny _ _ (if ((-1 : Int) == 0) = true then _ else _) _ _ s
    rw [if_neg (by decide)]
    refine wpAny_bind (HT.slicePart_ .none (wpAny_bind (HT.slicePart_ .none (wpAny_bind (wpAny_pure ?_)))))
    show wpAny _ _ (pure ((((its.size : Nat) : Int) - 1), (-1 : Int), Builtin.Slice.slicePlaces (((its.size : Nat) : Int) - 1) (-1) (-1))) _ _ s
    rw [back_places]
    exact wpAny_pure hR
  refine wpAny_bind (app ?_)
  have no : ¬ (((((its.size : Nat) : Int) - 1) == 0 && (-1 : Int) == 1 && its.size == its.size) = true) := by simp
  show wpAny _ _ (if ((((its.size : Nat) : Int) - 1) == 0 && (-1 : Int) == 1 && its.size == its.size) = true then _ else _) _ _ s
  rw [if_neg no, back_pick]
  first
    | exact wpAny_bind (m := Builtin.Tuple.tupleExact _) (wpAny_newObj_type (wpAny_pure ⟨_, rfl, wpAny_pure h⟩) room)
    | exact wpAny_bind (m := Builtin.Tuple.tupleExact _) (wpAny_newObj_type (wpAny_bind (wpAny_pure (wpAny_pure ⟨_, rfl, wpAny_pure h⟩))) room)
    | exact wpAny_bind (wpAny_bind (m := Builtin.Tuple.tupleExact _) (wpAny_newObj_type (wpAny_pure (wpAny_pure ⟨_, rfl, wpAny_pure h⟩)) room))
    | exact wpAny_bind (wpAny_bind (m := Builtin.Tuple.tupleExact _) (wpAny_newObj_type (wpAny_pure ⟨_, rfl, wpAny_pure h⟩) room))
end
section
variable {X : Cx} {T : Tb} {cf : Str → List D → So → Option (D × So)}
def tRevT (K : PySem.W.Frag) (te : TE) : TE := fun σ H Q => te σ H fun x H1 => ∃ a xs, x = .ref a ∧ ((SqL K H1 a xs ∧ ∀ p, H1 p = none → Q (.ref p) (upd H1 p (.lst xs.reverse))) ∨ (SqT K H1 a xs ∧ ∀ p, H1 p = none → Q (.ref p) (upd H1 p (.tup xs.reverse))))
theorem pe_revA {e : Expr} {te : TE} {k : Nat} {p1 p2 p3 pos : Pos} (he : PE X e te) : PE X (.Subscript e (.Slice none none (some (.UnaryOp .USub (.Constant (.int 1) k p1) p2)) p3) pos) (tRevT X.K te) := by
  refine ⟨fun pins s σ H Q I h => ?_⟩
  refine Subscript_ (thn (he.run pins s σ H _ I h) fun v s1 ⟨x, H1, I1, r1, q1⟩ => ?_)
  obtain ⟨a, xs, ex, q⟩ := q1
  subst ex
  cases r1
  have step : PO X (some (.UnaryOp .USub (.Constant (.int 1) k p1) p2)) (tPart (tUn (rU fun i => .int (-i)) (tC (.int 1)))) := po_some (pe_un un_neg pe_int)
  refine wpAny_Slice (thn (po_none.run pins s1 σ H1 (fun o H2 => o = none ∧ H2 = H1) I1 ⟨rfl, rfl⟩) fun vl s2 ⟨l, H2, I2, pl, el, e2⟩ => ?_)
  subst el e2
  refine thn (po_none.run pins s2 σ H2 (fun o H3 => o = none ∧ H3 = H2) I2 ⟨rfl, rfl⟩) fun vu s3 ⟨u, H3, I3, pu, eu, e3⟩ => ?_
  subst eu e3
  refine thn (step.run pins s3 σ H3 (fun o H4 => o = some (-1) ∧ H4 = H3) I3 ⟨1, rfl, -1, rfl, rfl, rfl⟩) fun vs s4 ⟨o, H4, I4, ps, eo, e4⟩ => ?_
  subst eo e4
  have I5 : Inv X pins σ H4 { s4 with heap := s4.heap.push { cls := .type "slice", data := .fields #[vl, vu, vs] } } := I4.kept (t' := s4.toks) fun b ob z => Heap.get?_push_of_some _ z
  rcases q with ⟨hx, q⟩ | ⟨hx, q⟩
  · obtain ⟨its, r, ht, hz⟩ := I5.list hx
    have hlen := r.length
    show wpAny (model X.prog X.w) X.A (subscriptTail e (.Slice none none (some (.UnaryOp .USub (.Constant (.int 1) k p1) p2)) p3) (.ref a) (.ref s4.heap.objs.size)) (EP X pins σ Q) X.xe _
    refine tail_any (ops := [.ref a, .ref s4.heap.objs.size]) ht.isList.typeIs (PySem.slot_list_getitem.lookup) ?_ (by with_unfolding_all rfl)
    refine wpAny_getItem_list_slice ht.isList (Heap.IsSliceOf.new _ vl vu vs) pl pu ps (by decide) ?_ (by rw [List.size_toArray]; omega)
    rw [PySem.W.krv_pick]
    refine ⟨.ref _, _, I5.laid (t' := s4.toks) (o := .lst xs.reverse) (fun b ob z => Heap.get?_push_of_some _ z) (Nat.le_refl _) ?_, rfl, q _ (I5.hok.fresh (Nat.le_refl _))⟩
    exact ⟨by rw [List.length_reverse]; exact hz, _, 0, r.reverse, Heap.get?_push_size _ rfl⟩
  · obtain ⟨its, r, ht, hz⟩ := I5.tuple hx
    have hlen := r.length
    cases pl
    cases pu
    show wpAny (model X.prog X.w) X.A (subscriptTail e (.Slice none none (some (.UnaryOp .USub (.Constant (.int 1) k p1) p2)) p3) (.ref a) (.ref s4.heap.objs.size)) (EP X pins σ Q) X.xe _
    refine tail_any (ops := [.ref a, .ref s4.heap.objs.size]) ht.typeIs (PyProof.Rows.slot_tuple_getitem.lookup) ?_ (by with_unfolding_all rfl)
    refine tup_back ht (Heap.IsSliceOf.new _ .none .none vs) ps (by rw [List.size_toArray]; omega) ?_
    refine ⟨.ref _, _, I5.laid (t' := s4.toks) (o := .tup xs.reverse) (fun b ob z => Heap.get?_push_of_some _ z) (Nat.le_refl _) ?_, rfl, q _ (I5.hok.fresh (Nat.le_refl _))⟩
    exact ⟨by rw [List.length_reverse]; exact hz, _, r.reverse, IsTup.new _ _⟩
theorem me_rev {a : Expr} {ma : E} {k : Nat} {p1 p2 p3 pos : Pos} (ha : PE X a (tE T cf X.K ma)) : PE X (.Subscript a (.Slice none none (some (.UnaryOp .USub (.Constant (.int 1) k p1) p2)) p3) pos) (tE T cf X.K (.rev ma)) := by
  refine peMono (pe_revA ha) fun σ H Q ⟨ρ, S, f, re, rs, d, S', e, kk⟩ => ?_
  simp only [evE] at e
  obtain ⟨r, h1, e⟩ := bindSome e
  refine tE_one re rs h1 fun x f' H' x1 re1 rs1 r1 => ?_
  unfold revV at e
  split at e
  · rename_i xs hx
    cases e
    rw [hx] at r1
    obtain ⟨p, vs, ex, h4, h5⟩ := r1.tupI
    exact ⟨p, vs, ex, .inr ⟨SqT.of h4, fun p hp => (kk.refl_ext x1).tup rs1 h5.reverse p hp⟩⟩
  · split at e
    · rename_i xs hx
      cases e
      obtain ⟨p, vs, ex, h4, h5⟩ := list_of rs1 r1 hx
      exact ⟨p, vs, ex, .inl ⟨h4, fun p hp => (kk.refl_ext x1).lst rs1 h5.reverse p hp⟩⟩
    · cases e
end
end Mn
end

section
set_option maxHeartbeats 1000000
namespace Mn
open PySem PySem.Spec PyProof.Rows L2
open AutoSeq1 (wpAny_loadPart')
theorem enumT_new (l : Addr) (items : Array Value) (n : Nat) (dct : Option Addr) (sl : Array (Option Value)) :
    Meets (Builtin.«enumerate.__new__» ⟨[.type "enumerate", .ref l], []⟩) (fun _ R s => s.heap.get? l = some { cls := .type "tuple", dict := dct, data := .seq items n, slots := sl } ∧
      R (.ok (.ret (.ref (s.heap.push { cls := .type "tuple_iterator", data := .fields #[.ref l, .int 0 0] }).objs.size)))
        { s with heap := (s.heap.push { cls := .type "tuple_iterator", data := .fields #[.ref l, .int 0 0] }).push { cls := .type "enumerate", data := .fields #[.none, .bool false, .ref s.heap.objs.size, rawInt 0, .none, .none] } }) :=
  .of_wp fun prog w A R s h => by
    obtain ⟨hp, g, d, tk, os⟩ := s
    obtain ⟨hl, h⟩ := h
    have sub := sub_enumerate
    have hL : Heap.IsTuple (Shared.heap ⟨hp, g, d, tk, os⟩) l items := ⟨_, hl, rfl, n, rfl⟩
    wp_walk using wpAny_loadPart' hl
    refine wpAny_stack_any fun st => wpAny_pure ?_
    split
    · rename_i c _ _ _ _ _
      cases (c == Value.type "enumerate")
      · wp_walk using wpAny_loadPart' hl, wpAny_pyIter_tuple hL
        exact ⟨_, rfl, h⟩
      · wp_walk using wpAny_loadPart' hl, wpAny_pyIter_tuple hL
        exact ⟨_, rfl, h⟩
    · wp_walk using wpAny_loadPart' hl, wpAny_pyIter_tuple hL
      exact ⟨_, rfl, h⟩
section
variable {prog : Program} {w : World} {A : Around} {E : Value → Shared → Prop} {s : Shared}
theorem call_enumT {l : Addr} {items : Array Value} {Q : Value → Shared → Prop} (hL : IsTup s.heap l items)
    (h : ∀ h', IsEnum h' (s.heap.objs.size + 1) s.heap.objs.size 0 .none → h'.IsTupleIter s.heap.objs.size l 0 → h'.objs.size = s.heap.objs.size + 2 →
      (∀ b o, s.heap.get? b = some o → h'.get? b = some o) → Q (.ref (s.heap.objs.size + 1)) { s with heap := h' }) :
    wpAny (model prog w) A (call (.type "enumerate") [.ref l]) Q E s := by
  obtain ⟨⟨c, dct, dt, sl⟩, hl, hc, n, hd⟩ := hL
  replace hc : c = .type "tuple" := hc
  replace hd : dt = .seq items n := hd
  subst hc hd
  refine callType_new F.called_enumerate (by decide) (F.typeCall_enumerate_1 _) (F.newCall_enumerate_1 _) (fun obj => F.args_object_init_2 obj _) F.entry_enumerate_new (enumT_new l items n dct sl) ⟨hl, ?_⟩
  have hz : (s.heap.push { cls := .type "tuple_iterator", data := .fields #[.ref l, .int 0 0] }).objs.size = s.heap.objs.size + 1 := Heap.size_push ..
  show _ ∧ _
  rw [hz]
  have he : IsEnum ((s.heap.push { cls := .type "tuple_iterator", data := .fields #[.ref l, .int 0 0] }).push { cls := .type "enumerate", data := .fields #[.none, .bool false, .ref s.heap.objs.size, rawInt 0, .none, .none] }) (s.heap.objs.size + 1) s.heap.objs.size 0 .none := by
    have t := Heap.get?_push_size (s.heap.push { cls := .type "tuple_iterator", data := .fields #[.ref l, .int 0 0] }) (o := { cls := .type "enumerate", data := .fields #[.none, .bool false, .ref s.heap.objs.size, rawInt 0, .none, .none] }) rfl
    rw [hz] at t
    exact t
  exact ⟨⟨_, he, rfl⟩, h _ he ⟨_, Heap.get?_push_of_some _ (Heap.get?_push_size _ rfl), rfl, rfl⟩ (by rw [Heap.size_push, hz]) fun b o x => Heap.get?_push_of_some _ (Heap.get?_push_of_some _ x)⟩
end
def IteT (K : PySem.W.Frag) (a : Addr) : L2.It :=
  ⟨fun i H => ∃ (xs : List V) (x : V), SqT K H a xs ∧ xs[i]? = some x, fun i H v H' => ∃ T x, v = .ref T ∧ H T = none ∧ H' = upd H T (.tup [.int (i : Nat), x]) ∧ ∀ xs, SqT K H a xs → xs[i]? = some x, fun i H => ∃ xs : List V, SqT K H a xs ∧ xs.length = i⟩
theorem turn_enumT {P : Program} {w : World} {K : PySem.W.Frag} {elts : List Expr} {kk : Nat} {tpos : Pos} (a e it : Addr) :
    Turn P w K (.Tuple elts kk tpos) (IteT K a) [e, it] e (fun i h => (∃ old, IsEnum h e it ((i : Nat) : Int) old) ∧ h.IsTupleIter it a i ∧ e ≠ it ∧ a ≠ e ∧ a ≠ it) where
  mem := by simp
  obj := fun i h st b hb => by
    obtain ⟨⟨old, he⟩, ⟨o, ho, hc, hd⟩, _⟩ := st
    have e' : b = e ∨ b = it := by simpa using hb
    rcases e' with z | z
    · rw [z]; exact ⟨_, he, fun v q => nomatch q⟩
    · rw [z]; exact ⟨o, ho, fun v q => by rw [hd] at q; cases q⟩
  keep := fun i h h' st k => let ⟨⟨old, he⟩, hi, hne⟩ := st; ⟨⟨old, k e (by simp) _ he⟩, hi.at fun o q => k it (by simp) o q, hne⟩
  item := by
    intro X hP hw hK hc i pins s σ H E I hf st hg
    subst hP hw hK
    obtain ⟨⟨old, he⟩, hit, hne, hae, hai⟩ := st
    obtain ⟨xs, x, hq, hx⟩ := hg
    obtain ⟨its, rv, p, hz⟩ := I.tuple hq
    obtain ⟨u, hu, ru⟩ := rv.get hx
    have hel : e < s.heap.objs.size := Heap.lt_size he
    have hil : it < s.heap.objs.size := by obtain ⟨_, q, _⟩ := hit; exact Heap.lt_size q
    have hil2 : i < its.toArray.size := by
      rw [List.size_toArray]
      exact (List.getElem?_eq_some_iff.mp hu).1
    have tp : s.heap.IsTuple a its.toArray := p
    refine wpAny_pyNext_enum_itemD (Draws.tuple (A := X.A.in1) (I.ok.hd hc) it a hai its.toArray) he ⟨hit, tp⟩ hil2 hne (by simp [hne, Ne.symm hae]) fun y h' tk hy ho hst' hT hsz hk => ?_
    obtain ⟨hit', _⟩ := hst'
    have ey : y = u := by
      have q : its[i]? = some y := by simpa using hy
      rw [hu] at q
      exact (Option.some.inj q).symm
    subst ey
    refine ⟨_, rfl, wpAny_letOwnedTupleGo_enum (s := { s with heap := h', toks := tk + 1 }) ho fun h'' he' sb => ?_⟩
    have hT2 : h''.get? s.heap.objs.size = some { cls := .type "tuple", data := .seq #[.int i tk, y] } := (sb.2 _ (Nat.ne_of_gt hel)).trans hT
    have new : ObjOk X.prog X.w (upd H s.heap.objs.size (.tup [.int (i : Nat), x])) h'' s.heap.objs.size (.tup [.int (i : Nat), x]) :=
      ⟨by show 2 ≤ sizeLine; decide, [.int i tk, y], .cons ⟨_, rfl⟩ (.cons ru .nil), ⟨_, hT2, rfl, _, rfl⟩⟩
    have I1 : Inv X pins σ (upd H s.heap.objs.size (.tup [.int (i : Nat), x])) { s with heap := h'', toks := tk + 1 } :=
      I.turnedNew (ch := [e, it]) (fun b ob hb q => (sb.2 b (fun z => hb (by simp [z]))).trans (hk b ob (fun z => hb (by simp [z])) (fun z => hb (by simp [z])) q)) hf (Nat.le_refl _) new
    refine ⟨.ref s.heap.objs.size, _, I1, rfl, ⟨_, x, rfl, I.hok.fresh (Nat.le_refl _), rfl, fun ys hy => by rw [I.tuple_inj hy hq]; exact hx⟩, ⟨⟨y, ?_⟩, hit'.at fun o q => (sb.2 it (Ne.symm hne)).trans q, hne, hae, hai⟩, fun b hb => ?_⟩
    · have e1 : ((i + 1 : Nat) : Int) = (i : Int) + 1 := by omega
      rw [e1]; exact he'
    · have hb' : b < s.heap.objs.size := by
        have e' : b = e ∨ b = it := by simpa using hb
        rcases e' with z | z
        · rw [z]; exact hel
        · rw [z]; exact hil
      rw [upd_ne (Nat.ne_of_lt hb')]
      exact (hf b hb).1
  done := by
    intro X hP hw hK hc i pins s σ H E I hf st hg
    subst hP hw hK
    obtain ⟨⟨old, he⟩, hit, hne, hae, hai⟩ := st
    obtain ⟨xs, hq, hx⟩ := hg
    obtain ⟨its, rv, p, hz⟩ := I.tuple hq
    obtain ⟨f0, f1, f2, f3, f4, f5⟩ := hf it (by simp)
    have hl := rv.length
    have ei : i = its.toArray.size := by rw [List.size_toArray]; omega
    subst ei
    exact wpAny_pyNext_enum_endD (Draws.tuple (A := X.A.in1) (I.ok.hd hc) it a hai its.toArray) he ⟨hit, p⟩ fun h' eb => ⟨rfl, I.turned (t' := s.toks) (fun b o hb q => eb b o hb q) f0 f1 f3 f4 f5⟩
  self := fun A i s Q E st h => let ⟨⟨_, he⟩, _⟩ := st; wpAny_pyIter_enum he h
def iEnumA (K : PySem.W.Frag) (ta : TA) : TI := fun σ H R => ta σ H fun vs H1 => ∃ a xs, vs = [.ref a] ∧ ((SqL K H1 a xs ∧ R (Ite K a) H1) ∨ (H1 a = some (.tup xs) ∧ R (IteT K a) H1))
theorem pi_enumA {X : Cx} {e : Expr} {ta : TA} {p pos tpos : Pos} {elts : List Expr} {kk : Nat} (hg : Gl X "enumerate") (hm : X.mg "enumerate" = none) (ha : PA X [e] ta) (hs : starEach [e] X.env = [(false, eval e X.env)]) :
    PI X (.Tuple elts kk tpos) (.Call (.Name "enumerate" p) [e] [] pos) (iEnumA X.K ta) := by
  refine ⟨fun pins s σ H R I h => ?_⟩
  refine Call_ (ld_blt I hg hm boot_enumerate (PyProof.Rows.callWith_type1 (thn (ha.run pos pins s σ H _ I h) fun us s1 ⟨vs, H1, I1, r1, q1⟩ => ?_) hs rfl))
  obtain ⟨a, xs, ex, q⟩ := q1
  subst ex
  cases r1 with
  | cons r rr =>
    cases rr
    cases r
    have near : ∀ b ∈ [s1.heap.objs.size + 1, s1.heap.objs.size], s1.heap.objs.size ≤ b := fun b hb => by
      have e' : b = s1.heap.objs.size + 1 ∨ b = s1.heap.objs.size := by simpa using hb
      rcases e' with z | z
      · rw [z]; exact Nat.le_add_right _ _
      · rw [z]; exact Nat.le_refl _
    rcases q with ⟨hq, q⟩ | ⟨hq, q⟩
    · obtain ⟨its, rv, p', hz⟩ := I1.list hq
      refine call_enumerate_list p'.isList fun h' he hit hsz hk => wpAny_pyIter_enum he ?_
      have I2 : Inv X pins σ H1 { s1 with heap := h' } := I1.kept (t' := s1.toks) hk
      exact ⟨s1.heap.objs.size + 1, [s1.heap.objs.size + 1, s1.heap.objs.size], _, _, H1, rfl, I2, turn_enum a (s1.heap.objs.size + 1) s1.heap.objs.size, ⟨⟨.none, he⟩, hit, Nat.succ_ne_self _⟩, fun b hb => I1.fpOk (near b hb) (I1.hok.fresh (near b hb)), q⟩
    · obtain ⟨its, rv, p', hz⟩ := I1.tuple (SqT.of hq)
      have hal : a < s1.heap.objs.size := by obtain ⟨_, z, _⟩ := id p'; exact Heap.lt_size z
      refine call_enumT p' fun h' he hit hsz hk => wpAny_pyIter_enum he ?_
      have I2 : Inv X pins σ H1 { s1 with heap := h' } := I1.kept (t' := s1.toks) hk
      exact ⟨s1.heap.objs.size + 1, [s1.heap.objs.size + 1, s1.heap.objs.size], _, _, H1, rfl, I2, turn_enumT a (s1.heap.objs.size + 1) s1.heap.objs.size, ⟨⟨.none, he⟩, hit, Nat.succ_ne_self _, Nat.ne_of_lt (Nat.lt_succ_of_lt hal), Nat.ne_of_lt hal⟩, fun b hb => I1.fpOk (near b hb) (I1.hok.fresh (near b hb)), q⟩

section
variable {prog : Program} {w : World} {A : Around} {E : Value → Shared → Prop} {s : Shared}
theorem ext_rev {R : Result → Shared → Prop} {it l : Addr} {items : Array Value} (hh : A.handled = none) (hit : s.heap.IsRevIter it l ((items.size : Int) - 1)) (hl : s.heap.IsList l items) (hne : l ≠ it) (hn : items.size ≤ sizeLine)
    (D : Addr) (res : Value) (c₀ : Nat) (hDi : D ≠ it) (hDl : D ≠ l) (hD : s.heap.get? D = some { cls := .type "list", data := .seq #[] c₀ })
    (hR : ∀ h' tk acc' c', (∀ b o, b ≠ D → b ≠ it → s.heap.get? b = some o → h'.get? b = some o) → h'.get? D = some { cls := .type "list", dict := none, data := .seq acc' c', slots := #[] } →
      ItemsOf (fun i v => items[items.size - 1 - i]? = some v) acc' items.size → R (.ok (.ret res)) { s with heap := h', toks := tk }) :
    wpAny (model prog w) A.in1 (Builtin.List.listExtendWith (.ref D) (.ref it) res)
      (fun fin s' => match fin with | .done f => R (.ok f) s' | .again c' => c'.quiet = true ∧ codeAny (model prog w) A c' R s') (fun e s' => R (.error e) s') s := by
  have W := (Walks.listRev (prog := prog) (w := w) (A := A.in1) hh it l hne items).toS
  have nf : D ∉ [it, l] := by simp only [List.mem_cons, List.not_mem_nil, or_false, not_or]; exact ⟨hDi, hDl⟩
  have tI : s.TypeIs (.ref it) "list_reverseiterator" := hit.typeIs
  have ns : Builtin.List.listSameRef (.ref D) (.ref it) = false := by simp [Builtin.List.listSameRef, hDi]
  unfold Builtin.List.listExtendWith
  refine wpAny_bind (wpAny_typeOf tI ?_)
  rw [if_neg (by rw [ns]; decide)]
  refine wpAny_bind (wpAny_pyIter_revIter hit ?_)
  refine wpAny_bind (wpAny_holding ?_)
  unfold Builtin.List.listLengthHint
  refine wpAny_bind (wpAny_specialOf tI RT.nolen_lri ?_)
  show wpAny _ A.in1 (specialOf (Value.ref it) (Str.ofString "__length_hint__") >>= _) _ _ _
  refine wpAny_bind (wpAny_specialOf tI RT.hint_lri ?_)
  generalize hid : ("list_reverseiterator.__length_hint__" : String) = id0
  wp_delta
  rw [show splitId id0 = some ("list_reverseiterator", "__length_hint__") from by subst hid; decide +kernel]
  subst hid
  refine wpAny_bind (wpAny_isInstance (b := true) tI (by rw [isSubtype_type]; kernel_rfl) ?_)
  refine wpAny_pure ?_
  rw [if_neg (by decide)]
  have e0 : ((items.size : Nat) : Int) - 1 - ((0 : Nat) : Int) = (items.size : Int) - 1 := by omega
  refine wpAny_pure ⟨plainId_quiet F.plain_extend_loop _, codeAny_extend_loopS W hn _ nf _ items.size 0 _ _ _ rfl (Nat.zero_le _) ⟨Nat.zero_le _, by rw [e0]; exact hit, hl⟩ hD (ItemsOf.nil _) fun s' acc' c' hm hS' hacc => ?_⟩
  rw [Moved.eq_with hm]
  refine hR s'.heap s'.toks acc' c' (fun b ob hb hb2 e => hm.heap b ob (fun hmem => ?_) e) hS' hacc
  rcases List.mem_cons.mp hmem with e' | hmem
  · exact hb e'
  · exact hb2 (List.mem_singleton.mp hmem)
theorem call_list_rev {it l : Addr} {items : Array Value} {Q : Value → Shared → Prop} (hh : A.handled = none) (hit : s.heap.IsRevIter it l ((items.size : Int) - 1)) (hl : s.heap.IsList l items) (hne : l ≠ it) (hn : items.size ≤ sizeLine)
    (hQ : ∀ h' tk acc' c', (∀ b o, b ≠ it → s.heap.get? b = some o → h'.get? b = some o) → h'.get? s.heap.objs.size = some { cls := .type "list", dict := none, data := .seq acc' c', slots := #[] } →
      ItemsOf (fun i v => items[items.size - 1 - i]? = some v) acc' items.size → Q (.ref s.heap.objs.size) { s with heap := h', toks := tk }) :
    wpAny (model prog w) A (call (.type "list") [.ref it]) Q E s := by
  obtain ⟨oi, hoi, _⟩ := id hit
  obtain ⟨ol, hol, _⟩ := id hl
  refine callType_codes (Q₁ := fun obj s₁ => obj = .ref s.heap.objs.size ∧ s₁ = { s with heap := s.heap.push { cls := .type "list", data := .seq #[] } }) F.called_list (F.typeCall_list_1 _) F.entry_list_init (code_list_new _ ⟨rfl, rfl⟩) fun obj s₁ h₁ => ?_
  obtain ⟨rfl, rfl⟩ := h₁
  have hS : (s.heap.push { cls := .type "list", data := .seq #[] }).get? s.heap.objs.size = some { cls := .type "list", data := .seq #[] } := Heap.get?_push_size _ rfl
  refine ⟨⟨_, hS, rfl⟩, F.args_list_init_2 _ _, ?_⟩
  show wpAny _ _ (do let old ← Builtin.List.listItems (.ref s.heap.objs.size); Builtin.List.listUpdate (.ref s.heap.objs.size) (fun _ => #[]); letGo old.toList.reverse; Builtin.List.listExtendWith (.ref s.heap.objs.size) (.ref it) .none) _ _ _
  refine wpAny_bind ?_
  unfold Builtin.List.listItems
  refine wpAny_bind (wpAny_seqItems hS rfl (wpAny_pure ?_))
  show wpAny _ _ (updateSeq s.heap.objs.size (fun _ => #[]) >>= fun _ => letGo (#[] : Array Value).toList.reverse >>= fun _ => Builtin.List.listExtendWith (.ref s.heap.objs.size) (.ref it) .none) _ _ _
  refine wpAny_bind (wpAny_updateSeq hS rfl ?_)
  have hS2 := Heap.get?_update_self (Obj.mapSeq (fun _ => (#[] : Array Value))) hS rfl
  have oth : ∀ b o, b ≠ s.heap.objs.size → s.heap.get? b = some o → ((s.heap.push { cls := .type "list", data := .seq #[] }).update s.heap.objs.size (Obj.mapSeq (fun _ => (#[] : Array Value)))).get? b = some o :=
    fun b o hb e => (Heap.get?_update_other _ _ (Ne.symm hb)).trans (Heap.get?_push_of_some _ e)
  have hbi : it ≠ s.heap.objs.size := Nat.ne_of_lt (Heap.lt_size hoi)
  have hbl : l ≠ s.heap.objs.size := Nat.ne_of_lt (Heap.lt_size hol)
  have hl2 : Heap.IsList ((s.heap.push { cls := .type "list", data := .seq #[] }).update s.heap.objs.size (Obj.mapSeq (fun _ => (#[] : Array Value)))) l items := by
    obtain ⟨o, q, r⟩ := hl
    exact ⟨o, oth l o hbl q, r⟩
  refine wpAny_bind (wpAny_letGo ?_)
  have hit2 : Heap.IsRevIter ((s.heap.push { cls := .type "list", data := .seq #[] }).update s.heap.objs.size (Obj.mapSeq (fun _ => (#[] : Array Value)))) it l ((items.size : Int) - 1) := hit.at fun o e => oth it o hbi e
  refine ext_rev (A := A.in1) (s := { s with heap := (s.heap.push { cls := .type "list", data := .seq #[] }).update s.heap.objs.size (Obj.mapSeq (fun _ => (#[] : Array Value))) }) (show A.in1.handled = none from hh) hit2 hl2 hne hn _ _ _ (Ne.symm hbi) (Ne.symm hbl) hS2 fun h' tk acc' c' hk hS' hacc => ?_
  exact ⟨rfl, hQ h' tk acc' c' (fun b o hb e => hk b o (Nat.ne_of_lt (Heap.lt_size e)) hb (oth b o (Nat.ne_of_lt (Heap.lt_size e)) e)) hS' hacc⟩
end
def tLrev (K : PySem.W.Frag) (te : TE) : TE := fun σ H Q => te σ H fun v H1 => ∃ (a : Addr) (xs : List V), v = .ref a ∧ SqL K H1 a xs ∧ ∀ q, H1 q = none → Q (.ref q) (upd H1 q (.lst xs.reverse))
theorem pe_lstRev {X : Cx} {e : Expr} {te : TE} {p p2 pos pos2 : Pos} (hc : X.calm = true) (hg : Gl X "list") (hm : X.mg "list" = none) (hg2 : Gl X "reversed") (hm2 : X.mg "reversed" = none) (he : PE X e te)
    (hs : starEach [e] X.env = (false, eval e X.env) :: starEach [] X.env)
    (hs2 : starEach [.Call (.Name "reversed" p2) [e] [] pos2] X.env = (false, eval (.Call (.Name "reversed" p2) [e] [] pos2) X.env) :: starEach [] X.env) :
    PE X (.Call (.Name "list" p) [.Call (.Name "reversed" p2) [e] [] pos2] [] pos) (tLrev X.K te) := by
  refine ⟨fun pins s σ H Q I h => ?_⟩
  refine Call_ (ld_blt I hg hm boot_list (PyProof.Rows.callWith_type1 (args_cons (Call_ (ld_blt I hg2 hm2 PyProof.Rows.boot_reversed (PyProof.Rows.callWith_type1 (args_cons (thn (he.run pins s σ H _ I h) fun u s1 ⟨v, H1, I1, r1, q1⟩ => args_nil ?_) hs) hs rfl))) hs2) hs2 rfl))
  obtain ⟨a, xs, ev, hq, q⟩ := q1
  subst ev
  obtain rfl : u = Value.ref a := r1
  obtain ⟨its, rv, p', hz⟩ := I1.list hq
  refine call_reversed_list p'.isList (args_nil ?_)
  have k0 : ∀ b o, s1.heap.get? b = some o → (s1.heap.push (revObj a ((its.toArray.size : Int) - 1))).get? b = some o := fun b o e => Heap.get?_push_of_some _ e
  have I2 : Inv X pins σ H1 { s1 with heap := s1.heap.push (revObj a ((its.toArray.size : Int) - 1)) } := I1.kept (t' := s1.toks) k0
  obtain ⟨f0, f1, f2, f3, f4, f5⟩ := I1.fpOk (H' := H1) (b := s1.heap.objs.size) (Nat.le_refl _) (I1.hok.fresh (Nat.le_refl _))
  have hl := p'.isList
  obtain ⟨ol, hol, _⟩ := id hl
  have hne : a ≠ s1.heap.objs.size := Nat.ne_of_lt (Heap.lt_size hol)
  have hn : its.toArray.size ≤ sizeLine := by rw [List.size_toArray, ← rv.length]; exact hz
  have hz2 : (s1.heap.push (revObj a ((its.toArray.size : Int) - 1))).objs.size = s1.heap.objs.size + 1 := Heap.size_push ..
  refine call_list_rev (s := { s1 with heap := s1.heap.push (revObj a ((its.toArray.size : Int) - 1)) }) (I1.ok.hd hc) ⟨_, Heap.get?_push_size _ rfl, rfl, rfl⟩ (hl.push _) hne hn fun h' tk acc c' hk hS' hi => ?_
  have I3 : Inv X pins σ H1 { s1 with heap := h', toks := tk } := I2.turned (t' := tk) (fun b o hb e => hk b o hb e) f0 f1 f3 f4 f5
  have hfr : H1 (s1.heap.push (revObj a ((its.toArray.size : Int) - 1))).objs.size = none := I2.hok.fresh (Nat.le_refl _)
  have hle : (s1.heap.push (revObj a ((its.toArray.size : Int) - 1))).objs.size ≤ (s1.heap.push (revObj a ((its.toArray.size : Int) - 1))).objs.size := Nat.le_refl _
  refine ⟨.ref (s1.heap.push (revObj a ((its.toArray.size : Int) - 1))).objs.size, upd H1 (s1.heap.push (revObj a ((its.toArray.size : Int) - 1))).objs.size (.lst xs.reverse), ?_, rfl, q _ hfr⟩
  have ok0 : HOk X.prog X.w (upd H1 (s1.heap.push (revObj a ((its.toArray.size : Int) - 1))).objs.size (.lst xs.reverse)) h' := by
    intro b o e
    by_cases hb : b = (s1.heap.push (revObj a ((its.toArray.size : Int) - 1))).objs.size
    · subst hb
      rw [upd_same] at e
      cases e
      exact ⟨by rw [List.length_reverse]; exact hz, acc.toList, c', RT.vals_rev rv hi, by rw [Array.toArray_toList]; exact hS'⟩
    · rw [upd_ne hb] at e
      refine (I3.hok b o e).stay (fun c v _ q => q) (fun c q => by rw [upd_ne (ne_of_none q hfr)]; exact q) fun c ys q => by rw [upd_ne (ne_of_none q hfr)]; exact q
  refine I2.step (g' := s1.gens) (d' := s1.drawn) (ch := [s1.heap.objs.size]) (fun b hb => ?_) (fun b o _ _ hb e _ => hk b o (fun z => hb (by simp [z])) e) (fun b o _ _ hb e _ => ⟨o.slots, hk b o (fun z => hb (by simp [z])) e⟩) (fun b o hb e n => ?_) (fun b o hb e => ⟨o, hk b o (fun z => hb (by simp [z])) e⟩) (fun b ys e => by rw [upd_ne (ne_of_none e hfr)]; exact e) (fun b o u e => by rw [upd_ne (ne_of_none e hfr)]; exact e) (fun b ps e => ⟨#[], by rw [upd_ne (ne_of_none e hfr), e]; simp⟩) (fun m hm => ?_) ok0 I2.bare
  · have e : b = s1.heap.objs.size := by simpa using hb
    subst e
    exact ⟨f3, f1, f4, f5⟩
  · rw [upd_ne (Nat.ne_of_lt (Heap.lt_size e))]
    exact n
  · obtain ⟨o, es, ep, ho, r⟩ := hm
    exact ⟨o, es, ep, hk _ o (Ne.symm f1) ho, r⟩
end Mn
end

section
set_option maxHeartbeats 1000000
namespace Mn
open PySem PySem.Spec PyProof.Rows L2
def rBi (K : PySem.W.Frag) (b : Bi) : List V → Hp → VK → Prop := fun vs H Q => ∃ f S ds d S', RepS K f H S ∧ Reps K f H ds vs ∧ biV b ds S = some (d, S') ∧ KQ K f H S' d Q
theorem KQ.gcd {K : PySem.W.Frag} {f0 f : List Addr} {H0 H : Hp} {S0 S1 : So} {d : D} {Q : VK} (k : KQ K f0 H0 (gc S0 d S1).2 (gc S0 d S1).1 Q) (r0 : RepS K f0 H0 S0) (e : Ext f0 H0 f H) : KQ K f H S1 d Q := fun v f' H' x rs r => by
  obtain ⟨g, e', rs', r'⟩ := gc_ok r0 (e.trans x) rs r
  exact k v g H' e' rs' r'
section
variable {X : Cx} {T : Tb} {cf : Str → List D → So → Option (D × So)} {pos p : Pos} {e : Expr} {es : List Expr} {ms : Es}
theorem Reps.oneI {K : PySem.W.Frag} {f : List Addr} {H : Hp} {x : D} {vs : List V} (r : Reps K f H [x] vs) : ∃ v, vs = [v] ∧ Rep K f H x v := by
  simp only [Reps] at r
  obtain ⟨v, q, rfl, h1, h2⟩ := r
  subst h2
  exact ⟨v, rfl, h1⟩
theorem Reps.twoI {K : PySem.W.Frag} {f : List Addr} {H : Hp} {x y : D} {vs : List V} (r : Reps K f H [x, y] vs) : ∃ v w, vs = [v, w] ∧ Rep K f H x v ∧ Rep K f H y w := by
  simp only [Reps] at r
  obtain ⟨v, q, rfl, h1, w, q', rfl, h2, h3⟩ := r
  subst h3
  exact ⟨v, w, rfl, h1, h2⟩
theorem bi_abs : CallR X (.builtin "abs") (rBi X.K .abs) := by
  intro pins s σ H vs us Q I r ⟨f, S, ds, d, S', rs, rr, e, k⟩
  simp only [biV] at e
  split at e
  · cases e
    obtain ⟨v, rfl, h⟩ := rr.oneI
    exact call_abs pins s σ H _ us Q I r ⟨_, by rw [h.intI], k.int rs⟩
  · cases e
theorem bi_max2 (hc : X.calm = true) : CallR X (.builtin "max") (rBi X.K .max2) := by
  intro pins s σ H vs us Q I r ⟨f, S, ds, d, S', rs, rr, e, k⟩
  simp only [biV] at e
  split at e
  · cases e
    obtain ⟨v, w, rfl, h, h'⟩ := rr.twoI
    exact call_max2 hc pins s σ H _ us Q I r ⟨_, _, by rw [h.intI, h'.intI], k.int rs⟩
  · cases e
theorem bi_min2 (hc : X.calm = true) : CallR X (.builtin "min") (rBi X.K .min2) := by
  intro pins s σ H vs us Q I r ⟨f, S, ds, d, S', rs, rr, e, k⟩
  simp only [biV] at e
  split at e
  · cases e
    obtain ⟨v, w, rfl, h, h'⟩ := rr.twoI
    exact call_min2 hc pins s σ H _ us Q I r ⟨_, _, by rw [h.intI, h'.intI], k.int rs⟩
  · cases e
theorem bi_len : CallR X (.builtin "len") (rBi X.K .len) := by
  intro pins s σ H vs us Q I r ⟨f, S, ds, d, S', rs, rr, e, k⟩
  simp only [biV] at e
  split at e
  · split at e
    · rename_i hz
      cases e
      obtain ⟨v, rfl, h⟩ := rr.oneI
      exact call_len_str pins s σ H _ us Q I r ⟨_, by rw [h.strI], hz, k.int rs⟩
    · cases e
  · obtain ⟨xs, h1, h2⟩ := Option.map_eq_some_iff.mp e
    cases h2
    obtain ⟨v, rfl, h⟩ := rr.oneI
    obtain ⟨a, ws, rfl, hq, rw'⟩ := items_of rs h h1
    refine call_len_seq pins s σ H _ us Q I r ⟨a, ws, rfl, hq, ?_⟩
    rw [← rw'.length]
    exact k.int rs
  · cases e
theorem bi_int : CallR X (.type "int") (rBi X.K .int) := by
  intro pins s σ H vs us Q I r ⟨f, S, ds, d, S', rs, rr, e, k⟩
  simp only [biV] at e
  split at e
  · cases e
    obtain ⟨v, rfl, h⟩ := rr.oneI
    exact call_int1 pins s σ H _ us Q I r (.inl ⟨_, by rw [h.intI], k.int rs⟩)
  · cases e
    obtain ⟨v, rfl, h⟩ := rr.oneI
    exact call_int1 pins s σ H _ us Q I r (.inr ⟨_, by rw [h.blI], k.int rs⟩)
  · cases e
theorem bi_list : CallR X (.type "list") (rBi X.K .list) := by
  intro pins s σ H vs us Q I r ⟨f, S, ds, d, S', rs, rr, e, k⟩
  simp only [biV] at e
  split at e
  · obtain ⟨xs, h1, h2⟩ := Option.map_eq_some_iff.mp e
    cases h2
    obtain ⟨v, rfl, h⟩ := rr.oneI
    obtain ⟨a, ws, rfl, hq, rw'⟩ := items_of rs h h1
    exact call_list_of pins s σ H _ us Q I r ⟨a, ws, rfl, hq, fun l hl => k.lst rs rw' l hl⟩
  · cases e
theorem bi_tuple : CallR X (.type "tuple") (rBi X.K .tuple) := by
  intro pins s σ H vs us Q I r ⟨f, S, ds, d, S', rs, rr, e, k⟩
  simp only [biV] at e
  split at e
  · rename_i x
    obtain ⟨xs, h1, h2⟩ := Option.map_eq_some_iff.mp e
    cases h2
    obtain ⟨v, rfl, h⟩ := rr.oneI
    by_cases ht : ∃ ys, x = .tup ys
    · obtain ⟨ys, rfl⟩ := ht
      simp only [itemsOf, Option.some.injEq] at h1
      subst h1
      obtain ⟨a, ws, rfl, hq, rw'⟩ := h.tupI
      exact call_tuple_of pins s σ H _ us Q I r ⟨a, ws, rfl, .inr ⟨SqT.of hq, k.same rs h⟩⟩
    · have hl : listOf S x = some xs := by
        cases x <;> first | (simpa only [listOf, itemsOf] using h1) | exact absurd ⟨_, rfl⟩ ht | (simp [itemsOf] at h1)
      obtain ⟨a, ws, rfl, hq, rw'⟩ := list_of rs h hl
      exact call_tuple_of pins s σ H _ us Q I r ⟨a, ws, rfl, .inl ⟨hq, fun l hl => k.tup rs rw' l hl⟩⟩
  · cases e
theorem bi_repr (hg : X.A.guards = some []) (hu : X.A.units + 200 < cLine) : CallR X (.builtin "repr") (rBi X.K .repr) := by
  intro pins s σ H vs us Q I r ⟨f, S, ds, d, S', rs, rr, e, k⟩
  simp only [biV] at e
  split at e
  · split at e
    · rename_i x p hp
      split at e
      · rename_i hc
        cases e
        obtain ⟨h1, h2, h3, h4⟩ := hc
        obtain ⟨v, rfl, h⟩ := rr.oneI
        obtain ⟨u, rfl, ru⟩ := Vals.one r
        obtain ⟨as, rd⟩ := Dp.reads I p v u (h.dp rs hp) ru
        have fin : ∀ (h' : Heap) (t : Tok) (tk : Nat), (∀ b o, s.heap.get? b = some o → h'.get? b = some o) → EP X pins σ Q (.str p.shown t) { s with heap := h', toks := tk } := fun h' t tk hk => ⟨.str p.shown, H, I.kept hk, ⟨_, rfl⟩, k.str rs⟩
        cases rd with
        | none => exact PySem.P.repr_of_none (fin _ _ _ fun _ _ q => q)
        | bool b => exact PySem.P.repr_of_bool (fin _ _ _ fun _ _ q => q)
        | int i t => exact PySem.P.repr_of_int (by simpa [PyData.showable] using h1) (fin _ _ _ fun _ _ q => q)
        | str x t => exact PySem.P.repr_of_str (fin _ _ _ fun _ _ q => q) h4
        | list a b c d => exact repr_of_reads' (.list a b c d) h1 (PyData.noDict_hsm h2) hg (by omega) (fun _ _ q => q) (fun h' u tk hk => fin h' u tk hk) h4
        | tuple a b c d => exact repr_of_reads' (.tuple a b c d) h1 (PyData.noDict_hsm h2) hg (by omega) (fun _ _ q => q) (fun h' u tk hk => fin h' u tk hk) h4
        | dict a b c d e => simp [PyData.hasDict] at h2
      · cases e
    · cases e
  · cases e
theorem bi_sum (hc : X.calm = true) : CallR X (.builtin "sum") (rBi X.K .sum) := by
  intro pins s σ H vs us Q I r ⟨f, S, ds, d, S', rs, rr, e, k⟩
  simp only [biV] at e
  split at e
  · split at e
    · rename_i xs hx
      obtain ⟨ns, h1, h2⟩ := Option.map_eq_some_iff.mp e
      cases h2
      obtain ⟨v, rfl, h⟩ := rr.oneI
      obtain ⟨a, ws, rfl, hq, rw'⟩ := list_of rs h hx
      have ew : ∀ {xs : List D} {ns : List Int} {ws : List V}, intsD xs = some ns → Reps X.K f H xs ws → ws = ns.map V.int := by
        intro xs
        induction xs with
        | nil => intro ns ws e r; cases e; exact r.eq_nil
        | cons x xs ih =>
          intro ns ws e r
          cases x <;> simp only [intsD, reduceCtorEq] at e
          obtain ⟨ns', h3, h4⟩ := Option.map_eq_some_iff.mp e
          subst h4
          simp only [Reps] at r
          obtain ⟨w, q, rfl, r1, r2⟩ := r
          rw [r1.intI, ih h3 r2]
          rfl
      rw [ew h1 rw'] at hq
      exact cr_sum hc pins s σ H _ us Q I r ⟨a, ns, rfl, hq, k.int rs⟩
    · cases e
  · cases e
theorem blsI {K : PySem.W.Frag} {f : List Addr} {H : Hp} : ∀ {xs : List D} {ns : List Bool} {ws : List V}, blsD xs = some ns → Reps K f H xs ws → ws = ns.map V.bl := by
  intro xs
  induction xs with
  | nil => intro ns ws e r; cases e; exact r.eq_nil
  | cons x xs ih =>
    intro ns ws e r
    cases x <;> simp only [blsD, reduceCtorEq] at e
    obtain ⟨ns', h3, h4⟩ := Option.map_eq_some_iff.mp e
    subst h4
    simp only [Reps] at r
    obtain ⟨w, q, rfl, r1, r2⟩ := r
    rw [r1.blI, ih h3 r2]
    rfl
theorem bi_all (hc : X.calm = true) : CallR X (.builtin "all") (rBi X.K .all) := by
  intro pins s σ H vs us Q I r ⟨f, S, ds, d, S', rs, rr, e, k⟩
  simp only [biV] at e
  split at e
  · split at e
    · rename_i xs hx
      obtain ⟨ns, h1, h2⟩ := Option.map_eq_some_iff.mp e
      cases h2
      obtain ⟨v, rfl, h⟩ := rr.oneI
      obtain ⟨a, ws, rfl, hq, rw'⟩ := list_of rs h hx
      rw [blsI h1 rw'] at hq
      exact cr_all hc pins s σ H _ us Q I r ⟨a, ns, rfl, hq, k.bl rs⟩
    · cases e
  · cases e
theorem bi_any (hc : X.calm = true) : CallR X (.builtin "any") (rBi X.K .any) := by
  intro pins s σ H vs us Q I r ⟨f, S, ds, d, S', rs, rr, e, k⟩
  simp only [biV] at e
  split at e
  · split at e
    · rename_i xs hx
      obtain ⟨ns, h1, h2⟩ := Option.map_eq_some_iff.mp e
      cases h2
      obtain ⟨v, rfl, h⟩ := rr.oneI
      obtain ⟨a, ws, rfl, hq, rw'⟩ := list_of rs h hx
      rw [blsI h1 rw'] at hq
      exact cr_any hc pins s σ H _ us Q I r ⟨a, ns, rfl, hq, k.bl rs⟩
    · cases e
  · cases e
theorem bi_gcd : CallR X (.builtin "math.gcd") (rBi X.K .gcd) := by
  intro pins s σ H vs us Q I r ⟨f, S, ds, d, S', rs, rr, e, k⟩
  simp only [biV] at e
  split at e
  · cases e
    obtain ⟨v, w, rfl, h, h'⟩ := rr.twoI
    exact cr_gcd pins s σ H _ us Q I r ⟨_, _, by rw [h.intI, h'.intI], k.int rs⟩
  · cases e

theorem bi_go {b : Bi} {K : PySem.W.Frag} {σ : L2.St} {H : Hp} {Q : VK} (h : tE T cf K (.bi b ms) σ H Q) : tA T cf K ms σ H fun vs H1 => rBi K b vs H1 Q := by
  obtain ⟨ρ, S, f, re, rs, d, S', e, k⟩ := h
  simp only [evE] at e
  obtain ⟨r, h1, e⟩ := bindSome e
  obtain ⟨q, h2, e⟩ := Option.map_eq_some_iff.mp e
  refine tA_one re rs h1 fun xs f' H' x1 re1 rs1 r1 => ⟨f', r.2, r.1, q.1, q.2, rs1, r1, h2, ?_⟩
  have e1 : gc S q.1 q.2 = (d, S') := e
  have k' : KQ K f H (gc S q.1 q.2).2 (gc S q.1 q.2).1 Q := by rw [e1]; exact k
  exact k'.gcd rs x1
theorem me_biB {b : Bi} {id : String} {x : Str} (hcr : CallR X (.builtin id) (rBi X.K b)) (hg : Gl X x) (hm : X.mg x = none) (hv : bootBuiltins x = some (.builtin id)) (ha : PA X (e :: es) (tA T cf X.K ms)) (hn : x ≠ "__name__") (hdb : (x == ("__debug__" : Str)) = false)
    (he : starEach (e :: es) X.env = (false, eval e X.env) :: starEach es X.env) (hpl : (backTo pos (starEach es X.env)).any (·.1) = false) : PE X (.Call (.Name x p) (e :: es) [] pos) (tE T cf X.K (.bi b ms)) :=
  peMono (pe_callB hcr hg hm hv ha hn hdb he hpl) fun σ H Q h => bi_go h
theorem me_biT {b : Bi} {id : String} {x : Str} (hcr : CallR X (.type id) (rBi X.K b)) (hg : Gl X x) (hm : X.mg x = none) (hv : bootBuiltins x = some (.type id)) (ha : PA X (e :: es) (tA T cf X.K ms)) (hn : x ≠ "__name__") (hdb : (x == ("__debug__" : Str)) = false)
    (he : starEach (e :: es) X.env = (false, eval e X.env) :: starEach es X.env) (hpl : (backTo pos (starEach es X.env)).any (·.1) = false) : PE X (.Call (.Name x p) (e :: es) [] pos) (tE T cf X.K (.bi b ms)) :=
  peMono (pe_callTy hcr hg hm hv ha hn hdb he hpl) fun σ H Q h => bi_go h
theorem me_biF {b : Bi} {id : String} {x : Str} (hcr : CallR X (.builtin id) (rBi X.K b)) (hg : Gl X x) (hm : X.mg x = some (.builtin id)) (ha : PA X (e :: es) (tA T cf X.K ms)) (hdb : (x == ("__debug__" : Str)) = false)
    (he : starEach (e :: es) X.env = (false, eval e X.env) :: starEach es X.env) (hpl : (backTo pos (starEach es X.env)).any (·.1) = false) : PE X (.Call (.Name x p) (e :: es) [] pos) (tE T cf X.K (.bi b ms)) :=
  peMono (pe_callBfun hcr hg hm ha hdb he hpl) fun σ H Q h => bi_go h
theorem bi_one {b : Bi} {m : E} {K : PySem.W.Frag} {σ : L2.St} {H : Hp} {Q : VK} (h : tE T cf K (.bi b (.cons m .nil)) σ H Q) : tE T cf K m σ H fun v H1 => rBi K b [v] H1 Q := by
  have h' := bi_go h
  obtain ⟨ρ, S, f, re, rs, ds, S', e, k⟩ := h'
  simp only [evEs] at e
  obtain ⟨r, h1, e⟩ := bindSome e
  obtain ⟨q, h2, e⟩ := Option.map_eq_some_iff.mp e
  cases h2
  cases e
  exact tE_one re rs h1 fun x f' H' x1 re1 rs1 r1 => k [x] f' H' x1 rs1 (Reps.one r1)
theorem me_trev {m : E} {p2 pos2 : Pos} (hc : X.calm = true) (hg : Gl X "tuple") (hm : X.mg "tuple" = none) (hg2 : Gl X "reversed") (hm2 : X.mg "reversed" = none) (he : PE X e (tE T cf X.K m)) (hs : starEach [e] X.env = (false, eval e X.env) :: starEach [] X.env) :
    PE X (.Call (.Name "tuple" p) [.Call (.Name "reversed" p2) [e] [] pos2] [] pos) (tE T cf X.K (.bi .trev (.cons m .nil))) := by
  refine peMono (RT.pe_tupRev hc hg hm hg2 hm2 he hs) fun σ H Q h => ?_
  have h' := bi_one h
  obtain ⟨ρ, S, f, re, rs, d, S', e, k⟩ := h'
  refine ⟨ρ, S, f, re, rs, d, S', e, fun v f' H' x s r => ?_⟩
  obtain ⟨g, S2, ds, d2, S3, rs2, rr, e2, k2⟩ := k v f' H' x s r
  simp only [biV] at e2
  split at e2
  · obtain ⟨xs, h1, h2⟩ := Option.map_eq_some_iff.mp e2
    cases h2
    obtain ⟨v', ev, h⟩ := rr.oneI
    cases ev
    obtain ⟨a, ws, rfl, hq, rw'⟩ := list_of rs2 h h1
    exact ⟨a, ws, rfl, hq, fun q hq' => k2.tup rs2 rw'.reverse q hq'⟩
  · cases e2
theorem me_lrev {m : E} {p2 pos2 : Pos} (hc : X.calm = true) (hg : Gl X "list") (hm : X.mg "list" = none) (hg2 : Gl X "reversed") (hm2 : X.mg "reversed" = none) (he : PE X e (tE T cf X.K m)) (hs : starEach [e] X.env = (false, eval e X.env) :: starEach [] X.env) :
    PE X (.Call (.Name "list" p) [.Call (.Name "reversed" p2) [e] [] pos2] [] pos) (tE T cf X.K (.bi .lrev (.cons m .nil))) := by
  refine peMono (pe_lstRev hc hg hm hg2 hm2 he hs rfl) fun σ H Q h => ?_
  have h' := bi_one h
  obtain ⟨ρ, S, f, re, rs, d, S', e, k⟩ := h'
  refine ⟨ρ, S, f, re, rs, d, S', e, fun v f' H' x s r => ?_⟩
  obtain ⟨g, S2, ds, d2, S3, rs2, rr, e2, k2⟩ := k v f' H' x s r
  simp only [biV] at e2
  split at e2
  · obtain ⟨xs, h1, h2⟩ := Option.map_eq_some_iff.mp e2
    cases h2
    obtain ⟨v', ev, h⟩ := rr.oneI
    cases ev
    obtain ⟨a, ws, rfl, hq, rw'⟩ := list_of rs2 h h1
    exact ⟨a, ws, rfl, hq, fun q hq' => k2.lst rs2 rw'.reverse q hq'⟩
  · cases e2
theorem me_isi {m : E} {Ty : String} {x2 : Str} {p2 : Pos} (hg : Gl X "isinstance") (hm : X.mg "isinstance" = none) (hg2 : Gl X x2) (hm2 : X.mg x2 = none) (hv2 : bootBuiltins x2 = some (.type Ty)) (hn2 : x2 ≠ "__name__") (hd2 : (x2 == ("__debug__" : Str)) = false)
    (he : PE X e (tE T cf X.K m)) (hs : starEach [e, .Name x2 p2] X.env = (false, eval e X.env) :: starEach [.Name x2 p2] X.env) :
    PE X (.Call (.Name "isinstance" p) [e, .Name x2 p2] [] pos) (tE T cf X.K (.bi (.isi Ty) (.cons m .nil))) := by
  refine peMono (pe_callB call_isi hg hm (by decide +kernel) (pa_cons he (pa_cons (pe_bltn (v := .ty Ty) hg2 hm2 hv2 rfl hn2 hd2) pa_nil rfl) hs) (by decide) (by decide) hs rfl) fun σ H Q h => ?_
  have h' := bi_one h
  obtain ⟨ρ, S, f, re, rs, d, S', e, k⟩ := h'
  refine ⟨ρ, S, f, re, rs, d, S', e, fun v f' H' x s r => ?_⟩
  obtain ⟨g, S2, ds, d2, S3, rs2, rr, e2, k2⟩ := k v f' H' x s r
  simp only [biV] at e2
  split at e2
  · obtain ⟨b, h1, h2⟩ := Option.map_eq_some_iff.mp e2
    cases h2
    obtain ⟨t, h3, h4⟩ := bindSome h1
    obtain ⟨v', ev, h⟩ := rr.oneI
    cases ev
    refine ⟨v, .ty Ty, .type t, .type Ty, b, rfl, .ty Ty, ?_, kit_ty h4, k2.bl rs2⟩
    rename_i x'
    cases x' with
    | non => cases h3; rw [h.nonI]; exact .base .non
    | bl b => cases h3; rw [h.blI]; exact .base (.bl b)
    | int b => cases h3; rw [h.intI]; exact .base (.int b)
    | str b => cases h3; rw [h.strI]; exact .base (.str b)
    | tup b =>
      cases h3
      obtain ⟨a, ws, rfl, hq, _⟩ := h.tupI
      exact .base (.tup hq)
    | frl b =>
      cases h3
      simp only [Rep] at h
      obtain ⟨a, ws, rfl, hq, _⟩ := h
      rcases hq with ⟨o, hq⟩ | ⟨o, its, n, hq, hq2, _⟩
      · exact .base (.frz hq)
      · exact .kList hq hq2
    | ref n =>
      simp only [tyN] at h3
      obtain ⟨a, ea, ha⟩ := h.refI
      split at h3
      · rename_i ys hy
        cases h3
        obtain ⟨a', _, h5, h6, h7, _⟩ := h.lstI rs2 hy
        rw [h5]
        exact .base (.lst h7)
      · rename_i c hc hn
        cases h3
        obtain ⟨b', hb, hcell⟩ := rs2.cell n c hn
        rw [ha] at hb
        cases hb
        rw [ea]
        cases c with
        | lst ys => exact (hc ys rfl).elim
        | dT kvs => obtain ⟨ps, h8, _⟩ := hcell; exact .base (.dT h8)
        | dK kvs => obtain ⟨ps, h8, _⟩ := hcell; exact .base (.dK h8)
      · cases h3
  · cases e2
end
end Mn
end

section
set_option maxHeartbeats 1000000
namespace Mn
open PySem PySem.Spec PyProof.Rows L2
section
variable {X : Cx} {T : Tb} {cf : Str → List D → So → Option (D × So)} {pos p apos : Pos} {e o : Expr} {es : List Expr} {ms : Es} {mo : E}
def rMe (K : PySem.W.Frag) (m : Me) : V → List V → Hp → VK → Prop := fun x vs H Q => ∃ f S dx ds d S', RepS K f H S ∧ Rep K f H dx x ∧ Reps K f H ds vs ∧ meV m dx ds S = some (d, S') ∧ KQ K f H S' d Q
theorem lst_upd {K : PySem.W.Frag} {f : List Addr} {H : Hp} {S : So} {n : Nat} {a : Addr} {vs ws : List V} {xs : List D} (rs : RepS K f H S) (hn : f[n]? = some a) (hH : H a = some (.lst vs)) (r : Reps K f H xs ws) :
    Ext f H f (upd H a (.lst ws)) ∧ RepS K f (upd H a (.lst ws)) (S.set n (.lst xs)) := by
  have x : Ext f H f (upd H a (.lst ws)) := Ext.write hH (fun _ z => nomatch z) (fun _ _ z => nomatch z)
  exact ⟨x, rs.write hn x ⟨ws, upd_same, r.ext x⟩⟩
theorem me_append_v : MtM X "list.append" (rMe X.K .append) := by
  intro pins s σ H x vs v us Q I rx rv ⟨f, S, dx, ds, d, S', rs, r1, r2, e, k⟩
  simp only [meV] at e
  split at e
  · split at e
    · rename_i n y xs hn
      split at e
      · rename_i hz
        cases e
        obtain ⟨a, ws, rfl, h1, h2, h3⟩ := r1.lstI rs hn
        obtain ⟨w, rfl, h4⟩ := r2.oneI
        have up := lst_upd rs h1 h2 (h3.append (Reps.one h4))
        exact mt_append pins s σ H _ _ v us Q I rx rv ⟨a, ws, w, rfl, rfl, h2, by rw [← h3.length]; exact hz, (k.refl_ext up.1).non up.2⟩
      · cases e
    · cases e
  · cases e
theorem me_extend_v : MtM X "list.extend" (rMe X.K .extend) := by
  intro pins s σ H x vs v us Q I rx rv ⟨f, S, dx, ds, d, S', rs, r1, r2, e, k⟩
  simp only [meV] at e
  split at e
  · split at e
    · rename_i n m xs ys hn hm
      split at e
      · rename_i hz
        cases e
        obtain ⟨a, ws, rfl, h1, h2, h3⟩ := r1.lstI rs hn
        obtain ⟨w, rfl, h4⟩ := r2.oneI
        obtain ⟨b, zs, rfl, h5, h6, h7⟩ := h4.lstI rs hm
        have up := lst_upd rs h1 h2 (h3.append h7)
        exact mt_extend pins s σ H _ _ v us Q I rx rv ⟨a, b, ws, zs, rfl, rfl, h2, h6, by rw [← h3.length, ← h7.length]; exact hz, (k.refl_ext up.1).non up.2⟩
      · cases e
    · cases e
  · cases e
theorem me_pop_v : MtM X "list.pop" (rMe X.K .pop) := by
  intro pins s σ H x vs v us Q I rx rv ⟨f, S, dx, ds, d, S', rs, r1, r2, e, k⟩
  simp only [meV] at e
  split at e
  · split at e
    · rename_i n xs hn
      split at e
      · rename_i y hy
        cases e
        obtain ⟨a, ws, rfl, h1, h2, h3⟩ := r1.lstI rs hn
        obtain rfl := r2.eq_nil
        obtain ⟨w, h4, h5⟩ := h3.get hy
        have up := lst_upd rs h1 h2 h3.dropLast
        exact mt_pop pins s σ H _ _ v us Q I rx rv ⟨a, ws, w, rfl, rfl, h2, by rw [← h3.length]; exact h4, (k.refl_ext up.1).same up.2 (h5.ext up.1)⟩
      · cases e
    · cases e
  · cases e
theorem tyV_lst {K : PySem.W.Frag} {f : List Addr} {H : Hp} {S : So} {n : Nat} {v : V} {xs : List D} (rs : RepS K f H S) (r : Rep K f H (.ref n) v) (e : S[n]? = some (.lst xs)) : tyV K "list" v H := by
  obtain ⟨a, ws, rfl, h1, h2, h3⟩ := r.lstI rs e
  exact .inl ⟨rfl, ws, SqL.of h2⟩
theorem me_split {m : Me} {K : PySem.W.Frag} {σ : L2.St} {H : Hp} {Q : VK} {R : V → Hp → Prop} (h : tE T cf K (.me m mo ms) σ H Q) (hR : ∀ x H1 f1 S1 d, RepS K f1 H1 S1 → Rep K f1 H1 d x → meTy m d S1 = true → R x H1) :
    tE T cf K mo σ H fun x H1 => R x H1 ∧ tA T cf K ms σ H1 fun vs H2 => rMe K m x vs H2 Q := by
  obtain ⟨ρ, S, f, re, rs, d, S', e, k⟩ := h
  simp only [evE] at e
  obtain ⟨r, h1, e⟩ := bindSome e
  split at e
  · rename_i ht
    obtain ⟨q, h2, e⟩ := bindSome e
    refine tE_one re rs h1 fun x f1 H1 x1 re1 rs1 r1 => ⟨hR x H1 f1 _ _ rs1 r1 ht, tA_one re1 rs1 h2 fun vs f2 H2 x2 re2 rs2 r2 => ⟨f2, _, _, _, d, S', rs2, r1.ext x2, r2, e, k.refl_ext (x1.trans x2)⟩⟩
  · cases e
theorem ty_list {m : Me} (hm : m = .append ∨ m = .extend ∨ m = .pop) {K : PySem.W.Frag} (x : V) (H1 : Hp) (f1 : List Addr) (S1 : So) (d : D) (rs : RepS K f1 H1 S1) (r : Rep K f1 H1 d x) (ht : meTy m d S1 = true) : tyV K "list" x H1 := by
  have go : ∀ n xs, d = .ref n → S1[n]? = some (.lst xs) → tyV K "list" x H1 := fun n xs hd hn => by subst hd; exact tyV_lst rs r hn
  rcases hm with rfl | rfl | rfl <;> (simp only [meTy] at ht; split at ht <;> first | (split at ht <;> first | exact go _ _ rfl (by assumption) | cases ht) | cases ht)
theorem me_appendE {ma : E} (ho : PE X o (tE T cf X.K mo)) (ha : PE X e (tE T cf X.K ma)) (hbase : attributeBase o "append" X.env (eval o X.env) = eval o X.env) (hline : (apos.endLine == pos.line) = true) (hs : starEach [e] X.env = (false, eval e X.env) :: starEach [] X.env) :
    PE X (.Call (.Attribute o "append" apos) [e] [] pos) (tE T cf X.K (.me .append mo (.cons ma .nil))) :=
  peMono (pe_bm PySem.F.plainAttrs_list PySem.F.slot_list_append PySem.F.type_list_append me_append_v ho (ma_cons ha ma_nil hs) hbase (by rw [hs]; rfl) hline hs rfl) fun σ H Q h => me_split h (ty_list (.inl rfl))
theorem me_extendE {ma : E} (ho : PE X o (tE T cf X.K mo)) (ha : PE X e (tE T cf X.K ma)) (hbase : attributeBase o "extend" X.env (eval o X.env) = eval o X.env) (hline : (apos.endLine == pos.line) = true) (hs : starEach [e] X.env = (false, eval e X.env) :: starEach [] X.env) :
    PE X (.Call (.Attribute o "extend" apos) [e] [] pos) (tE T cf X.K (.me .extend mo (.cons ma .nil))) :=
  peMono (pe_bm PySem.F.plainAttrs_list PySem.F.slot_list_extend PySem.F.type_list_extend me_extend_v ho (ma_cons ha ma_nil hs) hbase (by rw [hs]; rfl) hline hs rfl) fun σ H Q h => me_split h (ty_list (.inr (.inl rfl)))
theorem nilA {K : PySem.W.Frag} {σ : L2.St} {H : Hp} {R : List V → Hp → Prop} (h : tA T cf K .nil σ H R) : R [] H := by
  obtain ⟨ρ, S, f, re, rs, ds, S', e, k⟩ := h
  simp only [evEs] at e
  cases e
  exact k [] f H Ext.refl rs Reps.nil
theorem tE_imp {m : E} {K : PySem.W.Frag} {σ : L2.St} {H : Hp} {Q R : VK} (h : tE T cf K m σ H Q) (k : ∀ v H', Q v H' → R v H') : tE T cf K m σ H R := by
  obtain ⟨ρ, S, f, re, rs, d, S', e, q⟩ := h
  exact ⟨ρ, S, f, re, rs, d, S', e, fun v f' H' x s r => k v H' (q v f' H' x s r)⟩
theorem me_popE (ho : PE X o (tE T cf X.K mo)) (hbase : attributeBase o "pop" X.env (eval o X.env) = eval o X.env) (hline : (apos.endLine == pos.line) = true) :
    PE X (.Call (.Attribute o "pop" apos) [] [] pos) (tE T cf X.K (.me .pop mo .nil)) :=
  peMono (pe_bm0 PySem.F.plainAttrs_list PySem.F.slot_list_pop PySem.F.type_list_pop me_pop_v ho hbase hline) fun σ H Q h => tE_imp (me_split h (ty_list (.inr (.inr rfl)))) fun x H1 ⟨h1, h2⟩ => ⟨h1, nilA h2⟩
theorem me_bitsE (ho : PE X o (tE T cf X.K mo)) (hbase : attributeBase o "bit_length" X.env (eval o X.env) = eval o X.env) (hline : (apos.endLine == pos.line) = true) :
    PE X (.Call (.Attribute o "bit_length" apos) [] [] pos) (tE T cf X.K (.me .bits mo .nil)) := by
  refine peMono (pe_bits ho hbase hline) fun σ H Q h => tE_imp (me_split (R := fun _ _ => True) h fun _ _ _ _ _ _ _ _ => trivial) fun x H1 ⟨_, h2⟩ => ?_
  obtain ⟨f, S, dx, ds, d, S', rs, r1, r2, e, k⟩ := nilA h2
  simp only [meV] at e
  split at e
  · cases e
    exact ⟨_, r1.intI, k.int rs⟩
  · cases e
theorem me_getE {ma mb : E} {e2 : Expr} (hu : X.A.units + 1 < cLine) (ho : PE X o (tE T cf X.K mo)) (ha : PE X e (tE T cf X.K ma)) (hb : PE X e2 (tE T cf X.K mb)) (m : M2 X o "get" apos e e2 pos) :
    PE X (.Call (.Attribute o "get" apos) [e, e2] [] pos) (tE T cf X.K (.me .get2 mo (.cons ma (.cons mb .nil)))) := by
  refine peMono (pe_dget2 hu ho ha hb m) fun σ H Q ⟨ρ, S, f, re, rs, d, S', e, k⟩ => ?_
  simp only [evE] at e
  obtain ⟨r, h1, e⟩ := bindSome e
  split at e
  · rename_i ht
    obtain ⟨q, h2, e⟩ := bindSome e
    simp only [evEs] at h2
    obtain ⟨ra, h3, h2⟩ := bindSome h2
    obtain ⟨rb, h4, h5⟩ := Option.map_eq_some_iff.mp h2
    obtain ⟨rc, h6, h7⟩ := bindSome h4
    cases h7
    cases h5
    refine tE_one re rs h1 fun x f1 H1 x1 re1 rs1 r1 => ?_
    simp only [meTy] at ht
    split at ht
    · rename_i n hn
      rw [hn] at r1
      obtain ⟨a, rfl, ha⟩ := r1.refI
      have isd : IsD H1 a := by
        split at ht
        · rename_i kvs hk
          obtain ⟨b, hb, ps, h8, _⟩ := rs1.cell n _ hk
          rw [ha] at hb
          cases hb
          exact .inr ⟨_, .inl h8⟩
        · rename_i kvs hk
          obtain ⟨b, hb, ps, h8, _⟩ := rs1.cell n _ hk
          rw [ha] at hb
          cases hb
          exact .inl ⟨_, .inl h8⟩
        · cases ht
      refine ⟨a, rfl, isd, tE_two re1 rs1 h3 h6 fun y z f2 H2 x2 re2 rs2 r2 r3 => ?_⟩
      have k2 := k.refl_ext (x1.trans x2)
      have ha2 := (r1.ext x2).refI
      obtain ⟨a', ea, ha2⟩ := ha2
      cases ea
      rw [hn] at e
      simp only [meV] at e
      have fin : ∀ {κ : Type} [DecidableEq κ] {ds : List (κ × D)} {ps : List (κ × V)} {kk : κ}, KvR X.K f2 H2 ds ps → some (((ds.find? fun kv => decide (kv.1 = kk)).map (·.2)).getD rc.1, rc.2) = some (d, S') → Q ((valV ps kk).getD z) H2 := by
        intro κ _ ds ps kk hkv he
        cases he
        rcases KvR.val kk hkv with ⟨h8, h9⟩ | ⟨d', v', h8, h9, h10⟩
        · rw [h9]
          rw [h8] at k2
          exact k2.same rs2 r3
        · rw [h9]
          rw [h8] at k2
          exact k2.same rs2 h10
      split at e
      · rename_i kvs hk
        split at e
        · rename_i qk hq
          obtain ⟨b, hb, ps, h8, h9⟩ := rs2.cell n _ hk
          rw [ha2] at hb
          cases hb
          obtain ⟨c, ey, hc⟩ := keyT_rep hq r2
          subst ey
          exact ⟨_, DGet.t h8 hc, fin h9 e⟩
        · cases e
      · rename_i kvs hk
        split at e
        · rename_i qk hq
          obtain ⟨b, hb, ps, h8, h9⟩ := rs2.cell n _ hk
          rw [ha2] at hb
          cases hb
          have ey := keyD_rep hq r2
          subst ey
          exact ⟨_, DGet.k h8, fin h9 e⟩
        · cases e
      · cases e
    · cases ht
  · cases e

def prom (cf : Str → List D → So → Option (D × So)) (K : PySem.W.Frag) (x : Str) : Sp := fun vs H Q _ => ∃ f S ds d S', RepS K f H S ∧ Reps K f H ds vs ∧ cf x ds S = some (d, S') ∧ KQ K f H S' d Q
structure FnG (P : Program) (w : World) (K : PySem.W.Frag) (mg : Str → Option Value) (base : Heap) (k : Nat) (a : Addr) (fd : FuncData) (ps : List Str) (sp : Sp) : Prop where
  len : ∀ vs H Q E, sp vs H Q E → vs.length = ps.length
  go : ∀ (A : Around) (outer : List Env) (s : Shared) (H : Hp) (args : Args) (us : List Value) (vs : List V) (Q : VK), Room k A → A.guards = some [] → Env0 P w K mg base A outer s H → BindsTo s fd args (ps.zip us) → Vals vs us →
    sp vs H Q E0 → codeAny (model P w) A (.call (.ref a) args) (CR CX0 outer P w H s Q E0) s
def KwB (K : PySem.W.Frag) (fd : FuncData) (ps : List Str) (n : Nat) (ks : List Str) (pm : List Nat) : Prop :=
  ∀ (s : Shared) (us ws : List Value), K.In s.heap → us.length = n → ws.length = ks.length → ∃ vs, pm.mapM (fun j => (us ++ ws)[j]?) = some vs ∧ BindsTo s fd ⟨us, ks.zip ws⟩ (ps.zip vs)
variable {k : Nat} {a : Addr} {fd : FuncData} {ps : List Str} {sp : Sp} {x : Str}
theorem goG {pins : List (Addr × Obj)} {σ : L2.St} {H : Hp} {s : Shared} {Q : VK} {args : Args} {us : List Value} {vs : List V} (F : FnG X.prog X.w X.K X.mg X.base k a fd ps sp) (hr : Room k X.A) (hg : X.A.guards = some []) (I : Inv X pins σ H s)
    (hb : BindsTo s fd args (ps.zip us)) (r : Vals vs us) (h : sp vs H Q E0) : wpAny (model X.prog X.w) X.A (call (.ref a) args.pos args.kw) (EP X pins σ Q) X.xe s := by
  refine wpAny_call (codeAny_mono (F.go X.A X.stack s H args us vs Q hr hg I.env0 hb r h) fun r s' hq => ?_)
  match r, hq with
  | .ok (.ret u), hq => exact I.after hq
  | .ok .next, hq => exact False.elim hq
  | .ok .brk, hq => exact False.elim hq
  | .ok .cont, hq => exact False.elim hq
  | .error _, hq => exact False.elim hq
theorem me_call (F : FnG X.prog X.w X.K X.mg X.base k a fd ps (prom cf X.K x)) (hr : Room k X.A) (hgd : X.A.guards = some []) (hg : Gl X x) (hm : X.mg x = some (.ref a)) (hk : PySem.W.keepIn X.K (.ref a) = true) (hb : Binds X.K fd ps [])
    (ha : PA X (e :: es) (tA T cf X.K ms)) (hdb : (x == ("__debug__" : Str)) = false) (he : starEach (e :: es) X.env = (false, eval e X.env) :: starEach es X.env) (hpl : (backTo pos (starEach es X.env)).any (·.1) = false) :
    PE X (.Call (.Name x p) (e :: es) [] pos) (tE T cf X.K (.call x ms)) := by
  refine ⟨fun pins s σ H Q I ⟨ρ, S, f, re, rs, d, S', ee, kk⟩ => ?_⟩
  simp only [evE] at ee
  obtain ⟨r, h1, ee⟩ := bindSome ee
  refine wpAny_Call_Name_kw (ld_glob I hg hm ?_ hdb)
  refine PySem.W.callWith_K (h₀ := X.base) I.ok.mod.kin hk (thn (ha.run pos pins s σ H _ I (tA_one re rs h1 fun vs f1 H1 x1 re1 rs1 r1 => (show prom cf X.K x vs H1 Q E0 from ⟨f1, _, _, d, S', rs1, r1, ee, kk.refl_ext x1⟩))) fun us s1 ⟨vs, H1, I1, rv, q⟩ => ⟨I1.kIn, ?_⟩) he hpl
  have hl : (us ++ ([] : List Value)).length = ps.length := by rw [List.append_nil, ← rv.length]; exact F.len _ _ _ _ q
  have hbb := hb s1 us I1.kIn hl
  rw [List.append_nil] at hbb
  exact goG (args := ⟨us, []⟩) F hr hgd I1 hbb rv q
theorem me_call0 (F : FnG X.prog X.w X.K X.mg X.base k a fd ps (prom cf X.K x)) (hr : Room k X.A) (hgd : X.A.guards = some []) (hg : Gl X x) (hm : X.mg x = some (.ref a)) (hk : PySem.W.keepIn X.K (.ref a) = true) (hb : Binds X.K fd ps [])
    (hdb : (x == ("__debug__" : Str)) = false) : PE X (.Call (.Name x p) [] [] pos) (tE T cf X.K (.call x .nil)) := by
  refine ⟨fun pins s σ H Q I ⟨ρ, S, f, re, rs, d, S', ee, kk⟩ => ?_⟩
  simp only [evE, evEs] at ee
  obtain ⟨r, h1, ee⟩ := bindSome ee
  cases h1
  refine wpAny_Call_Name_kw (ld_glob I hg hm ?_ hdb)
  have q : prom cf X.K x [] H Q E0 := ⟨f, _, [], d, S', rs, Reps.nil, ee, kk⟩
  have hl : (([] : List Value) ++ ([] : List Value)).length = ps.length := F.len _ _ _ _ q
  refine PySem.W.callWith_K0 I.kIn hk ?_
  exact goG (args := ⟨[], []⟩) (us := []) F hr hgd I (hb s [] I.kIn hl) .nil q
theorem mk_nil : PK X [] (tA T cf X.K .nil) := ⟨fun pos pins s σ H Q I h => pk_nil.run pos pins s σ H Q I (nilA h)⟩
theorem mk_cons {ma : E} {kws : List Keyword} {nm : Option Str} {kpos : Pos} (ha : PE X e (tE T cf X.K ma)) (hr : PK X kws (tA T cf X.K ms)) : PK X (⟨nm, e, kpos⟩ :: kws) (tA T cf X.K (.cons ma ms)) := by
  refine ⟨fun pos pins s σ H Q I h => (pk_cons ha hr).run pos pins s σ H Q I ?_⟩
  obtain ⟨ρ, S, f, re, rs, ds, S', e, k⟩ := h
  simp only [evEs] at e
  obtain ⟨r, h1, e⟩ := bindSome e
  obtain ⟨q, h2, e⟩ := Option.map_eq_some_iff.mp e
  cases e
  exact tE_one re rs h1 fun x f' H' x1 re1 rs1 r1 => tA_one re1 rs1 h2 fun xs f2 H2 x2 re2 rs2 r2 => k _ f2 H2 (x1.trans x2) rs2 (Reps.cons (r1.ext x2) r2)
theorem permV {K : PySem.W.Frag} {f : List Addr} {H : Hp} {ds : List D} {vs : List V} {us : List Value} (r : Reps K f H ds vs) (rv : Vals vs us) : ∀ {pm : List Nat} {es : List D} {ws : List Value}, pm.mapM (fun j => ds[j]?) = some es → pm.mapM (fun j => us[j]?) = some ws → ∃ zs, Reps K f H es zs ∧ Vals zs ws
  | [], es, ws, h1, h2 => by simp at h1 h2; subst h1 h2; exact ⟨[], Reps.nil, .nil⟩
  | j :: pm, es, ws, h1, h2 => by
    rw [List.mapM_cons] at h1 h2
    obtain ⟨d, hd, h1⟩ := bindSome h1
    obtain ⟨ds', hd', h1⟩ := bindSome h1
    obtain ⟨u, hu, h2⟩ := bindSome h2
    obtain ⟨us', hu', h2⟩ := bindSome h2
    cases h1
    cases h2
    obtain ⟨v, hv, rr⟩ := r.get hd
    obtain ⟨u', hu2, ru⟩ := rv.get hv
    rw [hu] at hu2
    cases hu2
    obtain ⟨zs, q1, q2⟩ := permV r rv hd' hu'
    exact ⟨v :: zs, Reps.cons rr q1, .cons ru q2⟩
def Es.len : Es → Nat
  | .nil => 0
  | .cons _ es => es.len + 1
theorem evEs_len : ∀ {ms : Es} {ρ : En} {S : So} {r : List D × So}, evEs T cf ms ρ S = some r → r.1.length = ms.len
  | .nil, ρ, S, r, e => by
    simp only [evEs] at e
    cases e
    rfl
  | .cons m ms, ρ, S, r, e => by
    simp only [evEs] at e
    obtain ⟨q, h1, e⟩ := bindSome e
    obtain ⟨t, h2, e⟩ := Option.map_eq_some_iff.mp e
    cases e
    show t.1.length + 1 = ms.len + 1
    rw [evEs_len h2]
theorem kw_run {kws : List Keyword} {ks : List Str} {kes : Es} (F : FnG X.prog X.w X.K X.mg X.base k a fd ps (prom cf X.K x)) (hr : Room k X.A) (hgd : X.A.guards = some [])
    (hb : ∀ n pm, T.kws.lookup (x, n, ks) = some pm → KwB X.K fd ps n ks pm) (hkw : PK X kws (tA T cf X.K kes)) (hel : kes.len = ks.length) (hks : (backToKw pos (keywordEach kws X.env)).filterMap (·.1) = ks)
    {pins : List (Addr × Obj)} {s1 : Shared} {σ : L2.St} {H1 : Hp} {Q : VK} {ρ : En} {S1 S' : So} {f1 : List Addr} {us : List Value} {vs : List V} {as : List D} {d : D} (I1 : Inv X pins σ H1 s1) (rv : Vals vs us) (re1 : RepE X.K f1 H1 ρ σ) (rs1 : RepS X.K f1 H1 S1) (r1 : Reps X.K f1 H1 as vs)
    (ee : ((evEs T cf kes ρ S1).bind fun q => match T.kws.lookup (x, as.length, ks) with | some pm => (pm.mapM fun j => (as ++ q.1)[j]?).bind fun ds => cf x ds q.2 | none => none) = some (d, S')) (kk : KQ X.K f1 H1 S' d Q) :
    wpAny (model X.prog X.w) X.A (evalAll ((backToKw pos (keywordEach kws X.env)).map (·.2))) (fun zs s2 => X.K.In s2.heap ∧ wpAny (model X.prog X.w) X.A (call (.ref a) us (((backToKw pos (keywordEach kws X.env)).filterMap (·.1)).zip zs)) (EP X pins σ Q) X.xe s2) X.xe s1 := by
  obtain ⟨q, h2, ee⟩ := bindSome ee
  split at ee
  · rename_i pm hpm
    obtain ⟨ds, h3, ee⟩ := bindSome ee
    refine thn (hkw.run pos pins s1 σ H1 _ I1 (tA_one re1 rs1 h2 fun ws f2 H2 x2 re2 rs2 r2 => (show ∃ f2, Ext f1 H1 f2 H2 ∧ RepS X.K f2 H2 q.2 ∧ Reps X.K f2 H2 q.1 ws from ⟨f2, x2, rs2, r2⟩))) fun zs s2 ⟨ws, H2, I2, rz, f2, x2, rs2, r2⟩ => ⟨I2.kIn, ?_⟩
    rw [hks]
    have hn : us.length = as.length := by rw [← rv.length, r1.length]
    have hz : zs.length = ks.length := by rw [← rz.length, ← r2.length, evEs_len h2, hel]
    obtain ⟨vs', hvs, hbb⟩ := hb _ _ hpm s2 us zs I2.kIn hn hz
    obtain ⟨ys, q1, q2⟩ := permV (Reps.append (r1.ext x2) r2) (rv.append rz) h3 hvs
    exact goG (args := ⟨us, ks.zip zs⟩) F hr hgd I2 hbb q2 ⟨f2, _, _, d, S', rs2, q1, ee, kk.refl_ext x2⟩
  · cases ee
theorem me_callk {kws : List Keyword} {ks : List Str} {kes : Es} (F : FnG X.prog X.w X.K X.mg X.base k a fd ps (prom cf X.K x)) (hr : Room k X.A) (hgd : X.A.guards = some []) (hg : Gl X x) (hm : X.mg x = some (.ref a)) (hk : PySem.W.keepIn X.K (.ref a) = true)
    (hb : ∀ n pm, T.kws.lookup (x, n, ks) = some pm → KwB X.K fd ps n ks pm) (ha : PA X (e :: es) (tA T cf X.K ms)) (hkw : PK X kws (tA T cf X.K kes)) (hel : kes.len = ks.length) (hall : (backToKw pos (keywordEach kws X.env)).all (·.1.isSome) = true) (hks : (backToKw pos (keywordEach kws X.env)).filterMap (·.1) = ks)
    (hdb : (x == ("__debug__" : Str)) = false) (he : starEach (e :: es) X.env = (false, eval e X.env) :: starEach es X.env) (hpl : ((backTo pos (starEach (e :: es) X.env)).any (·.1) || (backToKw pos (keywordEach kws X.env)).any (·.1.isNone)) = false) :
    PE X (.Call (.Name x p) (e :: es) kws pos) (tE T cf X.K (.callk x ms ks kes)) := by
  refine ⟨fun pins s σ H Q I ⟨ρ, S, f, re, rs, d, S', ee, kk⟩ => ?_⟩
  simp only [evE] at ee
  obtain ⟨r, h1, ee⟩ := bindSome ee
  refine wpAny_Call_Name_kw (ld_glob I hg hm ?_ hdb)
  refine PySem.W.callWith_KW (h₀ := X.base) I.ok.mod.kin hk hall ?_ hpl he
  refine thn (ha.run pos pins s σ H (fun vs H1 => ∃ f1, Ext f H f1 H1 ∧ RepE X.K f1 H1 ρ σ ∧ RepS X.K f1 H1 r.2 ∧ Reps X.K f1 H1 r.1 vs) I (tA_one re rs h1 fun vs f1 H1 x1 re1 rs1 r1 => ⟨f1, x1, re1, rs1, r1⟩)) fun us s1 ⟨vs, H1, I1, rv, f1, x1, re1, rs1, r1⟩ => ?_
  exact kw_run F hr hgd hb hkw hel hks I1 rv re1 rs1 r1 ee (kk.refl_ext x1)
theorem me_callk0 {kws : List Keyword} {ks : List Str} {kes : Es} (F : FnG X.prog X.w X.K X.mg X.base k a fd ps (prom cf X.K x)) (hr : Room k X.A) (hgd : X.A.guards = some []) (hg : Gl X x) (hm : X.mg x = some (.ref a)) (hk : PySem.W.keepIn X.K (.ref a) = true)
    (hb : ∀ n pm, T.kws.lookup (x, n, ks) = some pm → KwB X.K fd ps n ks pm) (hkw : PK X kws (tA T cf X.K kes)) (hel : kes.len = ks.length) (hall : (backToKw pos (keywordEach kws X.env)).all (·.1.isSome) = true) (hks : (backToKw pos (keywordEach kws X.env)).filterMap (·.1) = ks)
    (hdb : (x == ("__debug__" : Str)) = false) (hpl : ((backTo pos (starEach [] X.env)).any (·.1) || (backToKw pos (keywordEach kws X.env)).any (·.1.isNone)) = false) :
    PE X (.Call (.Name x p) [] kws pos) (tE T cf X.K (.callk x .nil ks kes)) := by
  refine ⟨fun pins s σ H Q I ⟨ρ, S, f, re, rs, d, S', ee, kk⟩ => ?_⟩
  simp only [evE] at ee
  obtain ⟨r, h1, ee⟩ := bindSome ee
  simp only [evEs] at h1
  cases h1
  refine wpAny_Call_Name_kw (ld_glob I hg hm ?_ hdb)
  refine PySem.W.callWith_KW0 (h₀ := X.base) I.ok.mod.kin hk hall ?_ hpl
  exact kw_run (us := []) (as := []) F hr hgd hb hkw hel hks I .nil re rs Reps.nil ee kk
end
end Mn
end

section
set_option maxHeartbeats 1000000
namespace Mn
open PySem PySem.Spec PyProof.Rows L2
structure Yields (K : PySem.W.Frag) (J : L2.It) (f1 : List Addr) (H1 : Hp) (xs : List D) (w : Option (Nat × List D)) : Prop where
  go : ∀ i f H S, Ext f1 H1 f H → RepS K f H S → Walk.stays w S → i < xs.length → J.go i H
  yld : ∀ i f H S v H', Ext f1 H1 f H → RepS K f H S → Walk.stays w S → i < xs.length → J.yld i H v H' → ∃ d, xs[i]? = some d ∧ Ext f H f H' ∧ RepS K f H' S ∧ Rep K f H' d v
  stop : ∀ f H S, Ext f1 H1 f H → RepS K f H S → Walk.stays w S → J.stop xs.length H
def tI (T : Tb) (cf : Str → List D → So → Option (D × So)) (K : PySem.W.Frag) (m : It) : TI := fun σ H R => ∃ ρ S f, RepE K f H ρ σ ∧ RepS K f H S ∧ ∃ wk S', evIt T cf m ρ S = some (wk, S') ∧ Walk.stays wk.2 S' ∧
  ∀ J f' H', Ext f H f' H' → RepS K f' H' S' → Yields K J f' H' wk.1 wk.2 → R J H'
theorem piMono {X : Cx} {tg e : Expr} {t t' : TI} (h : PI X tg e t) (k : ∀ σ H Q, t' σ H Q → t σ H Q) : PI X tg e t' := ⟨fun pins s σ H Q I q => h.run pins s σ H Q I (k σ H Q q)⟩
section
variable {X : Cx} {T : Tb} {cf : Str → List D → So → Option (D × So)} {pos p : Pos} {e tg : Expr} {K : PySem.W.Frag} {f : List Addr} {H : Hp} {S : So}
theorem stays_src {x : D} {xs : List D} (h : itemsOf S x = some xs) : Walk.stays (srcOf S x) S := by
  cases x with
  | ref n =>
    simp only [srcOf]
    cases hn : S[n]? with
    | none => exact trivial
    | some c =>
      cases c with
      | lst ys => exact hn
      | _ => exact trivial
  | _ => exact trivial
theorem still {x : D} {v : V} {xs : List D} (rs : RepS K f H S) (r : Rep K f H x v) (h : itemsOf S x = some xs) :
    ∃ a, v = .ref a ∧ ((∃ vs0, SqL K H a vs0 ∧ Reps K f H xs vs0 ∧ ∀ f2 H2 S2, Ext f H f2 H2 → RepS K f2 H2 S2 → Walk.stays (srcOf S x) S2 → ∃ vs, SqL K H2 a vs ∧ Reps K f2 H2 xs vs) ∨
      (∃ vs0, H a = some (.tup vs0) ∧ Reps K f H xs vs0)) := by
  cases x with
  | tup ys =>
    simp only [itemsOf, Option.some.injEq] at h
    subst h
    obtain ⟨a, vs, rfl, h1, h2⟩ := r.tupI
    exact ⟨a, rfl, .inr ⟨vs, h1, h2⟩⟩
  | frl ys =>
    simp only [itemsOf, Option.some.injEq] at h
    subst h
    simp only [Rep] at r
    obtain ⟨a, vs, rfl, h1, h2⟩ := r
    exact ⟨a, rfl, .inl ⟨vs, h1.seq, h2, fun f2 H2 S2 x2 rs2 _ => ⟨vs, (h1.ext x2).seq, h2.ext x2⟩⟩⟩
  | ref n =>
    simp only [itemsOf] at h
    cases hn : S[n]? with
    | none => rw [hn] at h; cases h
    | some c =>
      rw [hn] at h
      cases c with
      | lst ys =>
        cases h
        obtain ⟨a, vs, rfl, h1, h2, h3⟩ := r.lstI rs hn
        refine ⟨a, rfl, .inl ⟨vs, SqL.of h2, h3, fun f2 H2 S2 x2 rs2 st => ?_⟩⟩
        simp only [srcOf, hn] at st
        obtain ⟨b, h4, vs2, h5, h6⟩ := rs2.cell n _ st
        obtain ⟨g, rfl⟩ := x2.pre
        rw [List.getElem?_append_left (List.getElem?_eq_some_iff.mp h1).1, h1] at h4
        cases h4
        exact ⟨vs2, SqL.of h5, h6⟩
      | dT _ => cases h
      | dK _ => cases h
  | _ => simp [itemsOf] at h
theorem Yields.lst {a : Addr} {xs : List D} {w : Option (Nat × List D)} (h : ∀ f2 H2 S2, Ext f H f2 H2 → RepS K f2 H2 S2 → Walk.stays w S2 → ∃ vs, SqL K H2 a vs ∧ Reps K f2 H2 xs vs) : Yields K (Itl K a) f H xs w where
  go := fun i f2 H2 S2 x2 rs2 st hi => by
    obtain ⟨vs, h1, h2⟩ := h f2 H2 S2 x2 rs2 st
    obtain ⟨v, h3, _⟩ := h2.get (List.getElem?_eq_getElem hi)
    exact ⟨vs, v, h1, h3⟩
  yld := fun i f2 H2 S2 v H' x2 rs2 st hi hy => by
    obtain ⟨vs, h1, h2⟩ := h f2 H2 S2 x2 rs2 st
    obtain ⟨rfl, h3⟩ := hy
    obtain ⟨d, h4, h5⟩ := h2.get' (h3 vs h1)
    exact ⟨d, h4, Ext.refl, rs2, h5⟩
  stop := fun f2 H2 S2 x2 rs2 st => by
    obtain ⟨vs, h1, h2⟩ := h f2 H2 S2 x2 rs2 st
    exact ⟨vs, h1, by rw [h2.length]; exact Nat.le_refl _⟩
theorem Yields.tup {a : Addr} {xs : List D} {vs : List V} {w : Option (Nat × List D)} (h1 : H a = some (.tup vs)) (h2 : Reps K f H xs vs) : Yields K (Itt K a) f H xs w where
  go := fun i f2 H2 S2 x2 rs2 st hi => by
    obtain ⟨v, h3, _⟩ := h2.get (List.getElem?_eq_getElem hi)
    exact ⟨vs, v, SqT.of (x2.tups _ _ h1), h3⟩
  yld := fun i f2 H2 S2 v H' x2 rs2 st hi hy => by
    obtain ⟨rfl, h3⟩ := hy
    obtain ⟨d, h4, h5⟩ := (h2.ext x2).get' (h3 vs (SqT.of (x2.tups _ _ h1)))
    exact ⟨d, h4, Ext.refl, rs2, h5⟩
  stop := fun f2 H2 S2 x2 rs2 st => ⟨vs, SqT.of (x2.tups _ _ h1), by rw [h2.length]; exact Nat.le_refl _⟩
theorem Yields.rng {lo : Int} {n : Nat} {w : Option (Nat × List D)} : Yields K (Itr lo n) f H (rangeL lo n) w where
  go := fun i f2 H2 S2 x2 rs2 st hi => by
    show i < n
    simpa [rangeL] using hi
  yld := fun i f2 H2 S2 v H' x2 rs2 st hi hy => by
    obtain ⟨rfl, rfl⟩ := hy
    have hi' : i < n := by simpa [rangeL] using hi
    exact ⟨.int (lo + i), by simp [rangeL, hi'], Ext.refl, rs2, by simp only [Rep]⟩
  stop := fun f2 H2 S2 x2 rs2 st => by simp [rangeL, Itr]
theorem enumL_get : ∀ (xs : List D) (k i : Nat), (enumL k xs)[i]? = (xs[i]?).map fun x => D.tup [.int ((k + i : Nat) : Int), x]
  | [], k, i => by simp [enumL]
  | x :: xs, k, 0 => by simp [enumL]
  | x :: xs, k, i + 1 => by
    simp only [enumL, List.getElem?_cons_succ]
    rw [enumL_get xs (k + 1) i, show k + 1 + i = k + (i + 1) by omega]
theorem enumL_len : ∀ (xs : List D) (k : Nat), (enumL k xs).length = xs.length
  | [], k => rfl
  | x :: xs, k => by simp [enumL, enumL_len xs (k + 1)]
theorem pairR {i : Int} {d : D} {v : V} {q : Addr} (hn : H q = none) (r : Rep K f H d v) : Rep K f (upd H q (.tup [.int i, v])) (.tup [.int i, d]) (.ref q) :=
  Rep.tupNew hn (Reps.cons (by simp only [Rep]) (Reps.one r))
theorem Yields.enumL {a : Addr} {xs : List D} {w : Option (Nat × List D)} (h : ∀ f2 H2 S2, Ext f H f2 H2 → RepS K f2 H2 S2 → Walk.stays w S2 → ∃ vs, SqL K H2 a vs ∧ Reps K f2 H2 xs vs) : Yields K (Ite K a) f H (enumL 0 xs) w where
  go := fun i f2 H2 S2 x2 rs2 st hi => by
    obtain ⟨vs, h1, h2⟩ := h f2 H2 S2 x2 rs2 st
    rw [enumL_len] at hi
    obtain ⟨v, h3, _⟩ := h2.get (List.getElem?_eq_getElem hi)
    exact ⟨vs, v, h1, h3⟩
  yld := fun i f2 H2 S2 v H' x2 rs2 st hi hy => by
    obtain ⟨vs, h1, h2⟩ := h f2 H2 S2 x2 rs2 st
    obtain ⟨q, z, rfl, hn, rfl, h3⟩ := hy
    obtain ⟨d, h4, h5⟩ := h2.get' (h3 vs h1)
    exact ⟨.tup [.int (i : Nat), d], by rw [enumL_get, h4]; simp, Ext.fresh hn, rs2.fresh hn, pairR hn h5⟩
  stop := fun f2 H2 S2 x2 rs2 st => by
    obtain ⟨vs, h1, h2⟩ := h f2 H2 S2 x2 rs2 st
    exact ⟨vs, h1, by rw [enumL_len, h2.length]; exact Nat.le_refl _⟩
theorem Yields.enumT {a : Addr} {xs : List D} {vs : List V} {w : Option (Nat × List D)} (h1 : H a = some (.tup vs)) (h2 : Reps K f H xs vs) : Yields K (IteT K a) f H (Mn.enumL 0 xs) w where
  go := fun i f2 H2 S2 x2 rs2 st hi => by
    rw [enumL_len] at hi
    obtain ⟨v, h3, _⟩ := h2.get (List.getElem?_eq_getElem hi)
    exact ⟨vs, v, SqT.of (x2.tups _ _ h1), h3⟩
  yld := fun i f2 H2 S2 v H' x2 rs2 st hi hy => by
    obtain ⟨q, z, rfl, hn, rfl, h3⟩ := hy
    obtain ⟨d, h4, h5⟩ := (h2.ext x2).get' (h3 vs (SqT.of (x2.tups _ _ h1)))
    exact ⟨.tup [.int (i : Nat), d], by rw [enumL_get, h4]; simp, Ext.fresh hn, rs2.fresh hn, pairR hn h5⟩
  stop := fun f2 H2 S2 x2 rs2 st => ⟨vs, SqT.of (x2.tups _ _ h1), by rw [enumL_len, h2.length]⟩
theorem rev_get {α : Type} {xs : List α} {i : Nat} (hi : i < xs.length) : xs.reverse[i]? = xs[xs.length - 1 - i]? := by
  rw [List.getElem?_reverse hi]
theorem Yields.revL {a : Addr} {xs : List D} {w : Option (Nat × List D)} {n : Nat} (hn : n = xs.length) (h : ∀ f2 H2 S2, Ext f H f2 H2 → RepS K f2 H2 S2 → Walk.stays w S2 → ∃ vs, SqL K H2 a vs ∧ Reps K f2 H2 xs vs) : Yields K (Itv K a n) f H xs.reverse w where
  go := fun i f2 H2 S2 x2 rs2 st hi => by
    obtain ⟨vs, h1, h2⟩ := h f2 H2 S2 x2 rs2 st
    rw [List.length_reverse] at hi
    obtain ⟨v, h3, _⟩ := h2.get (List.getElem?_eq_getElem (i := n - 1 - i) (by omega))
    exact ⟨by omega, vs, v, h1, h3⟩
  yld := fun i f2 H2 S2 v H' x2 rs2 st hi hy => by
    obtain ⟨vs, h1, h2⟩ := h f2 H2 S2 x2 rs2 st
    rw [List.length_reverse] at hi
    obtain ⟨rfl, h3⟩ := hy
    obtain ⟨d, h4, h5⟩ := h2.get' (h3 vs h1)
    exact ⟨d, by rw [rev_get hi, ← hn]; exact h4, Ext.refl, rs2, h5⟩
  stop := fun f2 H2 S2 x2 rs2 st => by
    rw [List.length_reverse, ← hn]
    exact Nat.le_refl _
theorem Yields.revT {a : Addr} {xs : List D} {vs : List V} {w : Option (Nat × List D)} {n : Nat} (hn : n = xs.length) (h1 : H a = some (.tup vs)) (h2 : Reps K f H xs vs) : Yields K (RT.ItvT K a n) f H xs.reverse w where
  go := fun i f2 H2 S2 x2 rs2 st hi => by
    rw [List.length_reverse] at hi
    obtain ⟨v, h3, _⟩ := h2.get (List.getElem?_eq_getElem (i := n - 1 - i) (by omega))
    exact ⟨by omega, vs, v, SqT.of (x2.tups _ _ h1), h3⟩
  yld := fun i f2 H2 S2 v H' x2 rs2 st hi hy => by
    rw [List.length_reverse] at hi
    obtain ⟨rfl, h3⟩ := hy
    obtain ⟨d, h4, h5⟩ := (h2.ext x2).get' (h3 vs (SqT.of (x2.tups _ _ h1)))
    exact ⟨d, by rw [rev_get hi, ← hn]; exact h4, Ext.refl, rs2, h5⟩
  stop := fun f2 H2 S2 x2 rs2 st => by
    rw [List.length_reverse, ← hn]
    exact Nat.le_refl _

def iLT (K : PySem.W.Frag) (tl : TE) : TI := fun σ H R => tl σ H fun x H1 => ∃ a, x = .ref a ∧ ((∃ xs, SqL K H1 a xs) ∧ R (Itl K a) H1 ∨ (∃ xs, H1 a = some (.tup xs)) ∧ R (Itt K a) H1)
theorem pi_lt {tl : TE} (hl : PE X e tl) : PI X tg e (iLT X.K tl) := by
  refine ⟨fun pins s σ H R I h => ?_⟩
  refine thn (hl.run pins s σ H _ I h) fun v s1 ⟨x, H1, I1, r1, q1⟩ => ?_
  obtain ⟨a, e, q⟩ := q1
  subst e
  cases r1
  have new : ∀ b ∈ [s1.heap.objs.size], FpOk X pins H1 b := fun b hb => by
    have z : b = s1.heap.objs.size := by simpa using hb
    subst z
    exact I1.fpOk (Nat.le_refl _) (I1.hok.fresh (Nat.le_refl _))
  rcases q with ⟨⟨xs, hq⟩, q⟩ | ⟨⟨xs, hq⟩, q⟩
  · obtain ⟨its, rv, pl, hz⟩ := I1.list hq
    exact wpAny_pyIter_list pl.isList ⟨s1.heap.objs.size, [s1.heap.objs.size], _, _, H1, rfl, I1.kept (t' := s1.toks) fun b o z => Heap.get?_push_of_some _ z, turn_list a _, ⟨_, Heap.get?_push_size _ rfl, rfl, rfl⟩, new, q⟩
  · obtain ⟨its, rv, pl, hz⟩ := I1.tuple (SqT.of hq)
    exact wpAny_pyIter_tuple (show s1.heap.IsTuple a its.toArray from pl) ⟨s1.heap.objs.size, [s1.heap.objs.size], _, _, H1, rfl, I1.kept (t' := s1.toks) fun b o z => Heap.get?_push_of_some _ z, turn_tuple a _, ⟨_, Heap.get?_push_size _ rfl, rfl, rfl⟩, new, q⟩
variable {m : E} {ms : Es}
theorem mi_ex (he : PE X e (tE T cf X.K m)) : PI X tg e (tI T cf X.K (.ex m)) := by
  refine piMono (pi_lt he) fun σ H R ⟨ρ, S, f, re, rs, wk, S', ee, st, k⟩ => ?_
  simp only [evIt] at ee
  obtain ⟨r, h1, ee⟩ := bindSome ee
  obtain ⟨xs, h2, h3⟩ := Option.map_eq_some_iff.mp ee
  cases h3
  refine tE_one re rs h1 fun x f' H' x1 re1 rs1 r1 => ?_
  obtain ⟨a, rfl, h4 | h4⟩ := still rs1 r1 h2
  · obtain ⟨vs0, h5, _, h6⟩ := h4
    exact ⟨a, rfl, .inl ⟨⟨vs0, h5⟩, k _ f' H' x1 rs1 (Yields.lst h6)⟩⟩
  · obtain ⟨vs0, h5, h6⟩ := h4
    exact ⟨a, rfl, .inr ⟨⟨vs0, h5⟩, k _ f' H' x1 rs1 (Yields.tup h5 h6)⟩⟩
theorem mi_enum {elts : List Expr} {kk : Nat} {tpos : Pos} (hg : Gl X "enumerate") (hm : X.mg "enumerate" = none) (he : PE X e (tE T cf X.K m)) (hs : starEach [e] X.env = [(false, eval e X.env)]) :
    PI X (.Tuple elts kk tpos) (.Call (.Name "enumerate" p) [e] [] pos) (tI T cf X.K (.enum m)) := by
  refine piMono (pi_enumA hg hm (ma_cons he ma_nil hs) hs) fun σ H R ⟨ρ, S, f, re, rs, wk, S', ee, st, k⟩ => ?_
  simp only [evIt] at ee
  obtain ⟨r, h1, ee⟩ := bindSome ee
  obtain ⟨xs, h2, h3⟩ := Option.map_eq_some_iff.mp ee
  cases h3
  refine ⟨ρ, S, f, re, rs, [r.1], r.2, by simp only [evEs, h1]; rfl, fun vs f' H' x1 rs1 rr => ?_⟩
  obtain ⟨v, rfl, r1⟩ := rr.oneI
  obtain ⟨a, rfl, h4 | h4⟩ := still rs1 r1 h2
  · obtain ⟨vs0, h5, _, h6⟩ := h4
    exact ⟨a, vs0, rfl, .inl ⟨h5, k _ f' H' x1 rs1 (Yields.enumL h6)⟩⟩
  · obtain ⟨vs0, h5, h6⟩ := h4
    exact ⟨a, vs0, rfl, .inr ⟨h5, k _ f' H' x1 rs1 (Yields.enumT h5 h6)⟩⟩
theorem mi_rev (hg : Gl X "reversed") (hm : X.mg "reversed" = none) (he : PE X e (tE T cf X.K m)) (hs : starEach [e] X.env = (false, eval e X.env) :: starEach [] X.env) :
    PI X tg (.Call (.Name "reversed" p) [e] [] pos) (tI T cf X.K (.rev m)) := by
  refine piMono (RT.pi_revA hg hm he hs) fun σ H R ⟨ρ, S, f, re, rs, wk, S', ee, st, k⟩ => ?_
  simp only [evIt] at ee
  obtain ⟨r, h1, ee⟩ := bindSome ee
  obtain ⟨xs, h2, h3⟩ := Option.map_eq_some_iff.mp ee
  cases h3
  refine tE_one re rs h1 fun x f' H' x1 re1 rs1 r1 => ?_
  obtain ⟨a, rfl, h4 | h4⟩ := still rs1 r1 h2
  · obtain ⟨vs0, h5, h7, h6⟩ := h4
    have hl : vs0.length = xs.length := h7.length.symm
    exact ⟨a, vs0, rfl, .inl ⟨h5, k _ f' H' x1 rs1 (Yields.revL hl h6)⟩⟩
  · obtain ⟨vs0, h5, h6⟩ := h4
    exact ⟨a, vs0, rfl, .inr ⟨SqT.of h5, k _ f' H' x1 rs1 (Yields.revT h6.length.symm h5 h6)⟩⟩
theorem zipL_get : ∀ (xs ys : List D) (i : Nat) (x y : D), xs[i]? = some x → ys[i]? = some y → (zipL xs ys)[i]? = some (.tup [x, y])
  | [], _, _, _, _, h, _ => by simp at h
  | _ :: _, [], _, _, _, _, h => by simp at h
  | x :: xs, y :: ys, 0, _, _, h, h' => by simp at h h'; subst h h'; rfl
  | x :: xs, y :: ys, i + 1, _, _, h, h' => by
    simp only [zipL, List.getElem?_cons_succ]
    exact zipL_get xs ys i _ _ (by simpa using h) (by simpa using h')
theorem zipL_len : ∀ (xs ys : List D), (zipL xs ys).length = min xs.length ys.length
  | [], _ => by simp [zipL]
  | _ :: _, [] => by simp [zipL]
  | x :: xs, y :: ys => by simp [zipL, zipL_len xs ys]
theorem Yields.zipT {a b : Addr} {xs ys : List D} {vs ws : List V} {w : Option (Nat × List D)} (h1 : H a = some (.tup vs)) (h2 : Reps K f H xs vs) (h3 : H b = some (.tup ws)) (h4 : Reps K f H ys ws) : Yields K (RZ.ItzT K a b) f H (zipL xs ys) w where
  go := fun i f2 H2 S2 x2 rs2 st hi => by
    rw [zipL_len] at hi
    obtain ⟨v, h5, _⟩ := h2.get (List.getElem?_eq_getElem (i := i) (by omega))
    obtain ⟨u, h6, _⟩ := h4.get (List.getElem?_eq_getElem (i := i) (by omega))
    exact ⟨vs, ws, v, u, SqT.of (x2.tups _ _ h1), SqT.of (x2.tups _ _ h3), h5, h6⟩
  yld := fun i f2 H2 S2 v H' x2 rs2 st hi hy => by
    obtain ⟨q, z, y, rfl, hn, rfl, h5, h6⟩ := hy
    obtain ⟨d, h7, h8⟩ := (h2.ext x2).get' (h5 vs (SqT.of (x2.tups _ _ h1)))
    obtain ⟨e, h9, h10⟩ := (h4.ext x2).get' (h6 ws (SqT.of (x2.tups _ _ h3)))
    exact ⟨.tup [d, e], zipL_get _ _ _ _ _ h7 h9, Ext.fresh hn, rs2.fresh hn, Rep.tupNew hn (Reps.cons h8 (Reps.one h10))⟩
  stop := fun f2 H2 S2 x2 rs2 st => ⟨vs, ws, SqT.of (x2.tups _ _ h1), SqT.of (x2.tups _ _ h3), by rw [zipL_len, h2.length, h4.length]; omega⟩
theorem mi_zip {e2 : Expr} {m2 : E} {elts : List Expr} {kk : Nat} {tpos : Pos} (hg : Gl X "zip") (hm : X.mg "zip" = none) (he : PE X e (tE T cf X.K m)) (he2 : PE X e2 (tE T cf X.K m2)) (hs : starEach [e, e2] X.env = [(false, eval e X.env), (false, eval e2 X.env)]) (hs2 : starEach [e2] X.env = [(false, eval e2 X.env)]) :
    PI X (.Tuple elts kk tpos) (.Call (.Name "zip" p) [e, e2] [] pos) (tI T cf X.K (.zip m m2)) := by
  refine piMono (RZ.pi_zipA hg hm (ma_cons he (ma_cons he2 ma_nil hs2) (by rw [hs, hs2])) (by rw [hs, hs2]) (by rw [hs2]; rfl)) fun σ H R ⟨ρ, S, f, re, rs, wk, S', ee, st, k⟩ => ?_
  simp only [evIt] at ee
  obtain ⟨⟨r, S1⟩, h1, ee⟩ := bindSome ee
  obtain ⟨⟨q, S2⟩, h2, ee⟩ := bindSome ee
  refine ⟨ρ, S, f, re, rs, [r, q], S2, by simp only [evEs, h1, Option.bind_some, h2]; rfl, fun vs f' H' x1 rs1 rr => ?_⟩
  obtain ⟨v, u, rfl, r1, r2⟩ := rr.twoI
  simp only at ee
  split at ee
  · cases ee
    obtain ⟨a, ws, rfl, h3, h4⟩ := r1.tupI
    obtain ⟨b, zs, rfl, h5, h6⟩ := r2.tupI
    exact ⟨a, b, ws, zs, rfl, .inr ⟨SqT.of h3, SqT.of h5, k _ f' H' x1 rs1 (Yields.zipT h3 h4 h5 h6)⟩⟩
  · cases ee
theorem mi_range1 (hg : Gl X "range") (hm : X.mg "range" = none) (he : PE X e (tE T cf X.K m)) (hs : starEach [e] X.env = [(false, eval e X.env)]) :
    PI X tg (.Call (.Name "range" p) [e] [] pos) (tI T cf X.K (.range (.cons m .nil))) := by
  refine piMono (pi_range1 hg hm (ma_cons he ma_nil hs) hs) fun σ H R ⟨ρ, S, f, re, rs, wk, S', ee, st, k⟩ => ?_
  simp only [evIt] at ee
  obtain ⟨r, h1, ee⟩ := bindSome ee
  obtain ⟨xs, h2, h3⟩ := Option.map_eq_some_iff.mp ee
  cases h3
  refine tA_one re rs h1 fun vs f' H' x1 re1 rs1 rr => ?_
  obtain ⟨ds, hds⟩ : ∃ ds, r.1 = ds := ⟨_, rfl⟩
  rw [hds] at h2 rr
  unfold rangeV at h2
  split at h2
  · split at h2
    · rename_i hb
      cases h2
      obtain ⟨v, rfl, r1⟩ := rr.oneI
      exact ⟨_, by rw [r1.intI], hb.1, hb.2, k _ f' H' x1 rs1 Yields.rng⟩
    · cases h2
  · exfalso
    have := evEs_len h1
    rw [hds] at this
    simp [Es.len] at this
  · cases h2
theorem mi_range2 {e2 : Expr} {m2 : E} (hg : Gl X "range") (hm : X.mg "range" = none) (he : PE X e (tE T cf X.K m)) (he2 : PE X e2 (tE T cf X.K m2)) (hs : starEach [e, e2] X.env = [(false, eval e X.env), (false, eval e2 X.env)]) (hs2 : starEach [e2] X.env = [(false, eval e2 X.env)]) :
    PI X tg (.Call (.Name "range" p) [e, e2] [] pos) (tI T cf X.K (.range (.cons m (.cons m2 .nil)))) := by
  refine piMono (pi_range2 hg hm (ma_cons he (ma_cons he2 ma_nil hs2) (by rw [hs, hs2])) hs hs2) fun σ H R ⟨ρ, S, f, re, rs, wk, S', ee, st, k⟩ => ?_
  simp only [evIt] at ee
  obtain ⟨r, h1, ee⟩ := bindSome ee
  obtain ⟨xs, h2, h3⟩ := Option.map_eq_some_iff.mp ee
  cases h3
  refine tA_one re rs h1 fun vs f' H' x1 re1 rs1 rr => ?_
  obtain ⟨ds, hds⟩ : ∃ ds, r.1 = ds := ⟨_, rfl⟩
  rw [hds] at h2 rr
  unfold rangeV at h2
  split at h2
  · exfalso
    have := evEs_len h1
    rw [hds] at this
    simp [Es.len] at this
  · split at h2
    · rename_i hb
      cases h2
      obtain ⟨v, u, rfl, r1, r2⟩ := rr.twoI
      exact ⟨_, _, by rw [r1.intI, r2.intI], hb, k _ f' H' x1 rs1 Yields.rng⟩
    · cases h2
  · cases h2
end
end Mn
end

section
set_option maxHeartbeats 1000000
namespace Mn
open PySem PySem.Spec PyProof.Rows L2
def tG (K : PySem.W.Frag) (g : Gt) : TG := fun v σ H Q => ∃ ρ f d, RepE K f H ρ σ ∧ Rep K f H d v ∧ ∃ ρ', asgG g d ρ = some ρ' ∧
  ∀ σ', RepE K f H ρ' σ' → σ'.length = σ.length → (∀ i, i ∉ g.slots → σ'[i]? = σ[i]?) → Q σ' H
def tGs (K : PySem.W.Frag) (gs : List Gt) : TGs := fun vs σ H Q => ∃ ρ f ds, RepE K f H ρ σ ∧ Reps K f H ds vs ∧ ∃ ρ', asgGs gs ds ρ = some ρ' ∧
  ∀ σ', RepE K f H ρ' σ' → σ'.length = σ.length → (∀ i, i ∉ Gt.slotss gs → σ'[i]? = σ[i]?) → Q σ' H
theorem pgMono {X : Cx} {tg : Expr} {t t' : TG} (h : PG X tg t) (k : ∀ v σ H Q, t' v σ H Q → t v σ H Q) : PG X tg t' := ⟨fun pins s σ H v u Q I r q => h.run pins s σ H v u Q I r (k v σ H Q q)⟩
theorem pgsMono {X : Cx} {tg : List Expr} {t t' : TGs} (h : PGs X tg t) (k : ∀ v σ H Q, t' v σ H Q → t v σ H Q) : PGs X tg t' := ⟨fun pins s σ H v u Q I r q => h.run pins s σ H v u Q I r (k v σ H Q q)⟩
section
variable {X : Cx} {T : Tb} {cf : Str → List D → So → Option (D × So)} {pos p : Pos} {e tg : Expr} {es : List Expr} {g : Gt} {gs : List Gt}
theorem mg_nm {i : Nat} {x : Str} (hN : X.N.Nodup) (hi : X.N[i]? = some x) (hx : Loc X.env.scope x) (hf : X.fn x = true ∨ X.env.scope.names.lookup x = some .local) : PG X (.Name x pos) (tG X.K (.nm i)) :=
  pgMono (pg_name hN hi hx hf) fun v σ H Q ⟨ρ, f, d, re, r, ρ', e, k⟩ => by
    simp only [asgG] at e
    cases e
    refine k _ (re.set r) (by simp) fun j hj => ?_
    have : i ≠ j := fun z => hj (by simp [Gt.slots, z])
    exact List.getElem?_set_ne this
theorem mgs_nil : PGs X [] (tGs X.K []) := pgsMono pgs_nil fun vs σ H Q ⟨ρ, f, ds, re, r, ρ', e, k⟩ => by
  cases ds with
  | nil =>
    simp only [asgGs] at e
    cases e
    exact ⟨r.eq_nil, k σ re rfl fun _ _ => rfl⟩
  | cons d ds => simp [asgGs] at e
theorem mgs_cons (h1 : PG X e (tG X.K g)) (h2 : PGs X es (tGs X.K gs)) (hs : (assignEach (e :: es) X.env).map (·.2) = assign e X.env :: (assignEach es X.env).map (·.2)) : PGs X (e :: es) (tGs X.K (g :: gs)) :=
  pgsMono (pgs_cons h1 h2 hs) fun vs σ H Q ⟨ρ, f, ds, re, r, ρ', e, k⟩ => by
    cases ds with
    | nil => simp [asgGs] at e
    | cons d ds =>
      simp only [asgGs] at e
      obtain ⟨ρ1, e1, e2⟩ := bindSome e
      simp only [Reps] at r
      obtain ⟨v, vr, rfl, r1, r2⟩ := r
      refine ⟨v, vr, rfl, ρ, f, d, re, r1, ρ1, e1, fun σ1 re1 hl1 hk1 => ⟨ρ1, f, ds, re1, r2, ρ', e2, fun σ2 re2 hl2 hk2 => k σ2 re2 (hl2.trans hl1) fun i hi => ?_⟩⟩
      simp only [Gt.slotss, List.mem_append, not_or] at hi
      rw [hk2 i hi.2, hk1 i hi.1]
theorem asgGs_len : ∀ {gs : List Gt} {ds : List D} {ρ ρ' : En}, asgGs gs ds ρ = some ρ' → ds.length = gs.length
  | [], [], _, _, _ => rfl
  | [], _ :: _, _, _, e => by simp [asgGs] at e
  | _ :: _, [], _, _, e => by simp [asgGs] at e
  | g :: gs, d :: ds, ρ, ρ', e => by
    simp only [asgGs] at e
    obtain ⟨ρ1, e1, e2⟩ := bindSome e
    simp [asgGs_len e2]
theorem mg_tp {k : Nat} (hc : X.calm = true) (h : PGs X es (tGs X.K gs)) (hn : (assignEach es X.env).length = gs.length) (hst : (assignEach es X.env).findIdx? (·.1) = none) : PG X (.Tuple es k pos) (tG X.K (.tp gs)) :=
  pgMono (pg_tup hc h hn hst) fun v σ H Q ⟨ρ, f, d, re, r, ρ', e, k⟩ => by
    cases d <;> simp only [asgG, reduceCtorEq] at e
    obtain ⟨a, vs, rfl, h1, h2⟩ := r.tupI
    exact ⟨a, vs, rfl, SqT.of h1, by rw [← h2.length]; exact asgGs_len e, ρ, f, _, re, h2, ρ', e, fun σ' r1 r2 r3 => k σ' r1 r2 fun i hi => r3 i (by simpa only [Gt.slots] using hi)⟩

def tCs (T : Tb) (cf : Str → List D → So → Option (D × So)) (K : PySem.W.Frag) (m : Es) : TT := fun σ H Q => ∃ ρ S f, RepE K f H ρ σ ∧ RepS K f H S ∧ ∃ b S', evCs T cf m ρ S = some (b, S') ∧ TQ K f H S' b Q
theorem mcs_nil : PTs X [] (tCs T cf X.K .nil) := ⟨fun pins s σ H Q I ⟨ρ, S, f, re, rs, b, S', e, k⟩ => pts_nil.run pins s σ H Q I (by
  simp only [evCs] at e
  cases e
  exact k f H Ext.refl rs)⟩
theorem mcs_one {m : E} (h : PT X e (tT T cf X.K m)) : PTs X [e] (tCs T cf X.K (.cons m .nil)) := ⟨fun pins s σ H Q I ⟨ρ, S, f, re, rs, b, S', e, k⟩ => (pts_one h).run pins s σ H Q I (by
  simp only [evCs] at e
  obtain ⟨⟨r, S1⟩, h1, e⟩ := bindSome e
  cases r <;> simp only [reduceCtorEq] at e
  rename_i bb
  refine ⟨ρ, S, f, re, rs, b, S', ?_, k⟩
  simp only [evT, h1]
  cases bb <;> (cases e; rfl))⟩

theorem stays_app {w : Option (Nat × List D)} {S : So} {c : C} (h : Walk.stays w S) : Walk.stays w (S ++ [c]) := by
  cases w with
  | none => trivial
  | some p =>
    simp only [Walk.stays] at h ⊢
    rw [List.getElem?_append_left (List.getElem?_eq_some_iff.mp h).1]
    exact h
theorem evIt_stays : ∀ {m : It} {ρ : En} {S : So} {r : Walk × So}, evIt T cf m ρ S = some r → Walk.stays r.1.2 r.2
  | .ex e, ρ, S, r, h => by
    simp only [evIt] at h
    obtain ⟨q, h1, h⟩ := bindSome h
    obtain ⟨xs, h2, h⟩ := Option.map_eq_some_iff.mp h
    cases h
    exact stays_src h2
  | .range es, ρ, S, r, h => by
    simp only [evIt] at h
    obtain ⟨q, h1, h⟩ := bindSome h
    obtain ⟨xs, h2, h⟩ := Option.map_eq_some_iff.mp h
    cases h
    trivial
  | .enum e, ρ, S, r, h => by
    simp only [evIt] at h
    obtain ⟨q, h1, h⟩ := bindSome h
    obtain ⟨xs, h2, h⟩ := Option.map_eq_some_iff.mp h
    cases h
    exact stays_src h2
  | .zip a b, ρ, S, r, h => by
    simp only [evIt] at h
    obtain ⟨q, h1, h⟩ := bindSome h
    obtain ⟨t, h2, h⟩ := bindSome h
    split at h
    · cases h; trivial
    · cases h
  | .rev e, ρ, S, r, h => by
    simp only [evIt] at h
    obtain ⟨q, h1, h⟩ := bindSome h
    obtain ⟨xs, h2, h⟩ := Option.map_eq_some_iff.mp h
    cases h
    exact stays_src h2
theorem wipe_get : ∀ (vs : List Nat) (σ : L2.St) (i : Nat), i ∈ vs → i < σ.length → (L2.wipe σ vs)[i]? = some none
  | v :: vs, σ, i, hi, hl => by
    unfold L2.wipe
    by_cases h : v = i
    · subst h
      exact List.getElem?_set_self (by rw [wipe_length]; exact hl)
    · rw [List.getElem?_set_ne h]
      exact wipe_get vs σ i (by simpa [Ne.symm h] using hi) hl
theorem wipe_off : ∀ (vs : List Nat) (σ : L2.St) (i : Nat), i ∉ vs → (L2.wipe σ vs)[i]? = σ[i]?
  | [], σ, i, _ => rfl
  | v :: vs, σ, i, hi => by
    unfold L2.wipe
    simp only [List.mem_cons, not_or] at hi
    rw [List.getElem?_set_ne (Ne.symm hi.1)]
    exact wipe_off vs σ i hi.2
theorem wipe_congr {σ2 σ : L2.St} {vs : List Nat} (hl : σ2.length = (L2.wipe σ vs).length) (h : ∀ i, i ∉ vs → σ2[i]? = (L2.wipe σ vs)[i]?) : L2.wipe σ2 vs = L2.wipe σ vs := by
  rw [wipe_length] at hl
  apply List.ext_getElem?
  intro i
  by_cases hi : i ∈ vs
  · by_cases hlt : i < σ.length
    · rw [wipe_get vs σ i hi hlt, wipe_get vs σ2 i hi (by omega)]
    · rw [List.getElem?_eq_none (by rw [wipe_length]; omega), List.getElem?_eq_none (by rw [wipe_length]; omega)]
  · rw [wipe_off vs σ2 i hi, h i hi]
theorem RepE.wipe {K : PySem.W.Frag} {f : List Addr} {H : Hp} {ρ : En} {σ : L2.St} (re : RepE K f H ρ σ) : ∀ vs : List Nat, RepE K f H (Mn.wipe ρ vs) (L2.wipe σ vs)
  | [] => re
  | v :: vs => (re.wipe vs).unset
theorem tLc_of {it : It} {cs : Es} {elt : E} {own : List Nat} {K : PySem.W.Frag} {σ : L2.St} {H : Hp} {Q : VK} (hsl : ∀ i ∈ g.slots, i ∈ own) (h : tE T cf K (.lc elt g it cs own) σ H Q) :
    tLc (tI T cf K it) (tG K g) (tCs T cf K cs) (tE T cf K elt) own σ H Q := by
  obtain ⟨ρ, S, f, re, rs, d, S', e, k⟩ := h
  simp only [evE] at e
  obtain ⟨r, h1, e⟩ := bindSome e
  obtain ⟨S1, h2, e⟩ := Option.map_eq_some_iff.mp e
  refine ⟨ρ, S, f, re, rs, r.1, r.2, h1, evIt_stays h1, fun J f' H' x1 rs1 yl => ?_⟩
  intro L hL
  have rg : RepS K (f' ++ [L]) (upd H' L (.lst [])) (r.2 ++ [.lst []]) := rs1.grow hL ⟨[], upd_same, Reps.nil⟩
  have xg : Ext f' H' (f' ++ [L]) (upd H' L (.lst [])) := Ext.grow hL
  have hlen : f'.length = r.2.length := rs1.len
  have hat : ∀ {fc : List Addr}, (f' ++ [L]) <+: fc → fc[r.2.length]? = some L := fun {fc} hp => by
    obtain ⟨t, rfl⟩ := hp
    rw [← hlen]
    simp
  refine ⟨fun i m H => ∃ fc Sc, Ext (f' ++ [L]) (upd H' L (.lst [])) fc H ∧ RepS K fc H Sc ∧ Walk.stays r.1.2 Sc ∧ m = r.1.1.length - i ∧ i ≤ r.1.1.length ∧
    lcL r.1.2 r.2.length (fun x S => (asgG g x (Mn.wipe ρ own)).bind fun ρ => (evCs T cf cs ρ S).bind fun t => if t.1 = true then (evE T cf elt ρ t.2).map fun q => (some q.1, q.2) else some (none, t.2)) (r.1.1.drop i) Sc = some S1,
    ⟨_, f' ++ [L], r.2 ++ [.lst []], Ext.refl, rg, stays_app (evIt_stays h1), rfl, Nat.zero_le _, by rw [List.drop_zero]; exact h2⟩, ?_⟩
  rintro i m Hc ⟨fc, Sc, xc, rsc, stc, rfl, hi, hlc⟩
  by_cases hlt : i < r.1.1.length
  · refine .inr ⟨yl.go i fc Hc Sc (xg.trans xc) rsc stc hlt, fun H'' => ∃ fc Sc, Ext (f' ++ [L]) (upd H' L (.lst [])) fc H'' ∧ RepS K fc H'' Sc ∧ Walk.stays r.1.2 Sc ∧ lcL r.1.2 r.2.length (fun x S => (asgG g x (Mn.wipe ρ own)).bind fun ρ => (evCs T cf cs ρ S).bind fun t => if t.1 = true then (evE T cf elt ρ t.2).map fun q => (some q.1, q.2) else some (none, t.2)) (r.1.1.drop (i + 1)) Sc = some S1,
      fun H'' ⟨fc, Sc, a, b, c, d⟩ => ⟨r.1.1.length - (i + 1), by omega, fc, Sc, a, b, c, rfl, hlt, d⟩, fun v Hy hy => ?_⟩
    obtain ⟨dx, hdx, xy, rsy, ry⟩ := yl.yld i fc Hc Sc v Hy (xg.trans xc) rsc stc hlt hy
    rw [List.drop_eq_getElem_cons hlt] at hlc
    have hdx' : r.1.1[i] = dx := by
      rw [List.getElem?_eq_getElem hlt] at hdx
      exact Option.some.inj hdx
    rw [hdx'] at hlc
    simp only [lcL] at hlc
    obtain ⟨⟨o, S2⟩, h3, hlc⟩ := bindSome hlc
    obtain ⟨ρ2, h4, h3⟩ := bindSome h3
    obtain ⟨⟨b, S3⟩, h5, h3⟩ := bindSome h3
    have rew : RepE K fc Hy (Mn.wipe ρ own) (L2.wipe σ own) := (((re.ext x1).ext (xg.trans xc)).ext xy).wipe own
    split at hlc
    · rename_i hst2
      refine ⟨Mn.wipe ρ own, fc, dx, rew, ry, ρ2, h4, fun σ2 re2 hl2 hk2 => ⟨wipe_congr hl2 fun i hi => hk2 i fun z => hi (hsl i z), ρ2, Sc, fc, re2, rsy, b, S3, h5, fun f3 H3 x3 rs3 => ?_⟩⟩
      cases b with
      | true =>
        simp only [if_true] at h3 ⊢
        obtain ⟨⟨q, S4⟩, h6, h7⟩ := Option.map_eq_some_iff.mp h3
        cases h7
        simp only at hlc hst2
        refine ⟨ρ2, S3, f3, re2.ext x3, rs3, q, S4, h6, fun w f4 H4 x4 rs4 r4 => ?_⟩
        split at hlc
        · rename_i acc hacc
          split at hlc
          · rename_i hsz
            have xall : Ext (f' ++ [L]) (upd H' L (.lst [])) f4 H4 := (xc.trans (xy.trans x3)).trans x4
            have hL4 := hat xall.pre
            obtain ⟨a, ha, ws, hw1, hw2⟩ := rs4.cell _ _ hacc
            rw [hL4] at ha
            cases ha
            have up := lst_upd rs4 hL4 hw1 (hw2.append (Reps.one r4))
            refine ⟨ws, hw1, by rw [← hw2.length]; exact hsz, f4, _, xall.trans up.1, up.2, ?_, hlc⟩
            cases hw : r.1.2 with
            | none => trivial
            | some pp =>
              rw [hw] at hst2
              simp only [Walk.stays] at hst2 ⊢
              have hold := evIt_stays h1
              rw [hw] at hold
              simp only [Walk.stays] at hold
              have hne : r.2.length ≠ pp.1 := Nat.ne_of_gt (List.getElem?_eq_some_iff.mp hold).1
              rw [List.getElem?_set_ne hne]
              exact hst2
          · cases hlc
        · cases hlc
      | false =>
        simp only [Bool.false_eq_true, if_false] at h3 ⊢
        cases h3
        simp only at hlc hst2
        exact ⟨f3, S2, xc.trans (xy.trans x3), rs3, hst2, hlc⟩
    · cases hlc
  · have hi' : i = r.1.1.length := by omega
    subst hi'
    refine .inl ⟨yl.stop fc Hc Sc (xg.trans xc) rsc stc, ?_⟩
    rw [List.drop_length] at hlc
    simp only [lcL] at hlc
    cases hlc
    have k' : KQ K f H (gc S (.ref r.2.length) S1).2 (gc S (.ref r.2.length) S1).1 Q := by rw [e]; exact k
    have xx : Ext f H fc Hc := x1.trans (xg.trans xc)
    exact (k'.gcd rs xx) _ fc Hc Ext.refl rsc (by simp only [Rep]; exact ⟨L, rfl, hat xc.pre⟩)
theorem me_lc {elt tg iter : Expr} {ifs : List Expr} {scope : Scope} {own : List (Str × Nat)} {it : It} {cs : Es} {m : E} (hc : X.calm = true) (hN : X.N.Nodup) (hi : PI X tg iter (tI T cf X.K it)) (ok : BlkOk X.N X.env.scope scope own)
    (hsl : ∀ i ∈ g.slots, i ∈ own.map (·.2))
    (hg : ∀ (s : Shared) (H : Hp) (C : Addr) (cl : List (Str × Addr)) (fp : List Addr), PG (X.blk s H scope (compEnvC scope cl C X.env) fp) tg (tG X.K g)) (ht : ∀ (s : Shared) (H : Hp) (C : Addr) (cl : List (Str × Addr)) (fp : List Addr), PTs (X.blk s H scope (compEnvC scope cl C X.env) fp) ifs (tCs T cf X.K cs))
    (he : ∀ (s : Shared) (H : Hp) (C : Addr) (cl : List (Str × Addr)) (fp : List Addr), PE (X.blk s H scope (compEnvC scope cl C X.env) fp) elt (tE T cf X.K m)) (hs : ∀ x, foldedSetIterable iter X.env x = pure x) :
    PE X (.ListComp elt [⟨tg, iter, ifs, 0⟩] scope pos) (tE T cf X.K (.lc m g it cs (own.map (·.2)))) :=
  peMono (pe_lc hc hN hi ok hg ht he hs) fun σ H Q h => tLc_of hsl h
end
end Mn
end

section
set_option maxHeartbeats 1000000
namespace Mn
open PySem PySem.Spec PyProof.Rows L2
section
variable (K : PySem.W.Frag)
def NQ (f : List Addr) (H : Hp) (S : So) (ρ : En) (Q : L2.St → Hp → Prop) : Prop := ∀ σ f' H', Ext f H f' H' → RepS K f' H' S → RepE K f' H' ρ σ → Q σ H'
def FQ (f : List Addr) (H : Hp) (S : So) (D : Ends) : Fl → Prop
  | .nx ρ => NQ K f H S ρ D.nx
  | .rt d => KQ K f H S d D.rt
  | .bk ρ => NQ K f H S ρ D.bk
  | .ct ρ => NQ K f H S ρ D.ct
variable (T : Tb) (cf : Str → List D → So → Option (D × So))
def tS (m : S) : TS := fun D σ H => ∃ ρ S f, RepE K f H ρ σ ∧ RepS K f H S ∧ ∃ r S', exS T cf m ρ S = some (r, S') ∧ FQ K f H S' D r
def tSs (m : Ss) : TS := fun D σ H => ∃ ρ S f, RepE K f H ρ σ ∧ RepS K f H S ∧ ∃ r S', exSs T cf m ρ S = some (r, S') ∧ FQ K f H S' D r
end
theorem psMono {X : Cx} {st : Stmt} {t t' : TS} (h : PS X st t) (k : ∀ D σ H, t' D σ H → t D σ H) : PS X st t' := ⟨fun pins s σ H D I q => h.run pins s σ H D I (k D σ H q)⟩
theorem pssMono {X : Cx} {st : List Stmt} {t t' : TS} (h : PSs X st t) (k : ∀ D σ H, t' D σ H → t D σ H) : PSs X st t' := ⟨fun pins s σ H D I q => h.run pins s σ H D I (k D σ H q)⟩
section
variable {X : Cx} {T : Tb} {cf : Str → List D → So → Option (D × So)} {pos p : Pos} {e tg : Expr} {st : Stmt} {sts : List Stmt} {m : E} {ms : S} {mss : Ss} {K : PySem.W.Frag} {f f' : List Addr} {H H' : Hp} {S1 : So} {ρ : En} {σ : L2.St} {D : Ends}
theorem NQ.ext {Q : L2.St → Hp → Prop} (h : NQ K f H S1 ρ Q) (x : Ext f H f' H') : NQ K f' H' S1 ρ Q := fun σ f2 H2 x2 => h σ f2 H2 (x.trans x2)
theorem FQ.ext {r : Fl} (h : FQ K f H S1 D r) (x : Ext f H f' H') : FQ K f' H' S1 D r := by
  cases r with
  | nx ρ => exact NQ.ext h x
  | rt d => exact KQ.refl_ext h x
  | bk ρ => exact NQ.ext h x
  | ct ρ => exact NQ.ext h x
theorem ms_nil : PSs X [] (tSs X.K T cf .nil) := pssMono pss_nil fun D σ H ⟨ρ, S, f, re, rs, r, S', e, k⟩ => by
  simp only [exSs] at e
  cases e
  exact k σ f H Ext.refl rs re
theorem ms_cons (h1 : PS X st (tS X.K T cf ms)) (h2 : PSs X sts (tSs X.K T cf mss)) : PSs X (st :: sts) (tSs X.K T cf (.cons ms mss)) := pssMono (pss_cons h1 h2) fun D σ H ⟨ρ, S, f, re, rs, r, S', e, k⟩ => by
  simp only [exSs] at e
  obtain ⟨⟨q, S1⟩, h1, e⟩ := bindSome e
  refine ⟨ρ, S, f, re, rs, q, S1, h1, ?_⟩
  cases q with
  | nx ρ1 => exact fun σ1 f1 H1 x1 rs1 re1 => ⟨ρ1, S1, f1, re1, rs1, r, S', e, FQ.ext k x1⟩
  | rt d => cases e; exact k
  | bk ρ1 => cases e; exact k
  | ct ρ1 => cases e; exact k
theorem ms_pass : PS X (.Pass pos) (tS X.K T cf .pass) := psMono ps_pass fun D σ H ⟨ρ, S, f, re, rs, r, S', e, k⟩ => by
  simp only [exS] at e
  cases e
  exact k σ f H Ext.refl rs re
theorem ms_brk : PS X (.Break pos) (tS X.K T cf .brk) := psMono ps_break fun D σ H ⟨ρ, S, f, re, rs, r, S', e, k⟩ => by
  simp only [exS] at e
  cases e
  exact k σ f H Ext.refl rs re
theorem ms_cnt : PS X (.Continue pos) (tS X.K T cf .cnt) := psMono ps_continue fun D σ H ⟨ρ, S, f, re, rs, r, S', e, k⟩ => by
  simp only [exS] at e
  cases e
  exact k σ f H Ext.refl rs re
theorem ms_stuck : PS X st (tS X.K T cf .stuck) := psMono ps_never fun D σ H ⟨ρ, S, f, re, rs, r, S', e, k⟩ => by
  simp only [exS] at e
  cases e
theorem ms_retN : PS X (.Return none pos) (tS X.K T cf .retN) := psMono ps_retN fun D σ H ⟨ρ, S, f, re, rs, r, S', e, k⟩ => by
  simp only [exS] at e
  cases e
  exact KQ.non k rs
theorem ms_ret (he : PE X e (tE T cf X.K m)) : PS X (.Return (some e) pos) (tS X.K T cf (.ret m)) := psMono (ps_ret he) fun D σ H ⟨ρ, S, f, re, rs, r, S', e, k⟩ => by
  simp only [exS] at e
  obtain ⟨q, h1, e⟩ := Option.map_eq_some_iff.mp e
  cases e
  exact ⟨ρ, S, f, re, rs, q.1, q.2, h1, k⟩
theorem ms_ex (he : PE X e (tE T cf X.K m)) (hs : swapsWith e none pos.line X.env = pure false) : PS X (.Expr e pos) (tS X.K T cf (.ex m)) := psMono (ps_expr he hs) fun D σ H ⟨ρ, S, f, re, rs, r, S', e, k⟩ => by
  simp only [exS] at e
  obtain ⟨q, h1, e⟩ := Option.map_eq_some_iff.mp e
  cases e
  exact tE_one re rs h1 fun x f1 H1 x1 re1 rs1 r1 => k σ f1 H1 x1 rs1 re1
theorem ms_if {a b : List Stmt} {ma mb : Ss} (he : PT X e (tT T cf X.K m)) (ha : PSs X a (tSs X.K T cf ma)) (hb : PSs X b (tSs X.K T cf mb)) : PS X (.If e a b pos) (tS X.K T cf (.ifs m ma mb)) := psMono (ps_if he ha hb) fun D σ H ⟨ρ, S, f, re, rs, r, S', e, k⟩ => by
  simp only [exS] at e
  obtain ⟨⟨bb, S1⟩, h1, e⟩ := bindSome e
  refine tT_one re rs h1 fun f1 H1 x1 re1 rs1 => ?_
  cases bb with
  | true =>
    rw [if_pos rfl] at e ⊢
    exact ⟨ρ, S1, f1, re1, rs1, r, S', e, FQ.ext k x1⟩
  | false =>
    rw [if_neg Bool.false_ne_true] at e ⊢
    exact ⟨ρ, S1, f1, re1, rs1, r, S', e, FQ.ext k x1⟩
theorem whL_some {c : En → So → Option (Bool × So)} {b : En → So → Option (Fl × So)} {ρ : En} {S : So} {r : Fl × So} (h : whL c b ρ S = some r) : ∃ n, whN c b n ρ S = some r := by
  unfold whL at h
  split at h
  · rename_i hh
    cases h
    exact ⟨_, Classical.choose_spec (Classical.choose_spec hh)⟩
  · cases h
theorem ms_wh {b : List Stmt} {mb : Ss} (hp : PassesOwn (model X.prog X.w) X.A X.env X.xe) (he : PT X e (tT T cf X.K m)) (hb : PSs X b (tSs X.K T cf mb)) : PS X (.While e b [] pos) (tS X.K T cf (.wh m mb)) := psMono (ps_while hp he hb) fun D σ H ⟨ρ, S, f, re, rs, r, S', e, k⟩ => by
  simp only [exS] at e
  obtain ⟨n, hn⟩ := whL_some e
  refine ⟨fun j σ1 H1 => ∃ ρ1 S1 f1, Ext f H f1 H1 ∧ RepE X.K f1 H1 ρ1 σ1 ∧ RepS X.K f1 H1 S1 ∧ whN (fun ρ S => evT T cf m ρ S) (fun ρ S => exSs T cf mb ρ S) j ρ1 S1 = some (r, S'), ⟨n, ρ, S, f, Ext.refl, re, rs, hn⟩, ?_⟩
  rintro j σ1 H1 ⟨ρ1, S1, f1, x1, re1, rs1, hj⟩
  cases j with
  | zero => simp [whN] at hj
  | succ j =>
    simp only [whN] at hj
    obtain ⟨⟨bb, S2⟩, h1, hj⟩ := bindSome hj
    refine tT_one re1 rs1 h1 fun f2 H2 x2 re2 rs2 => ?_
    cases bb with
    | false =>
      rw [if_neg Bool.false_ne_true]
      cases hj
      exact k σ1 f2 H2 (x1.trans x2) rs2 re2
    | true =>
      rw [if_pos rfl]
      refine ⟨fun σ3 H3 => ∃ ρ1 S1 f1, Ext f H f1 H3 ∧ RepE X.K f1 H3 ρ1 σ3 ∧ RepS X.K f1 H3 S1 ∧ whN (fun ρ S => evT T cf m ρ S) (fun ρ S => exSs T cf mb ρ S) j ρ1 S1 = some (r, S'), fun σ3 H3 h3 => ⟨j, Nat.lt_succ_self j, h3⟩, ?_⟩
      obtain ⟨⟨q, S3⟩, h3, hj⟩ := bindSome hj
      refine ⟨ρ1, S2, f2, re2, rs2, q, S3, h3, ?_⟩
      cases q with
      | nx ρ3 => exact fun σ3 f3 H3 x3 rs3 re3 => ⟨ρ3, S3, f3, (x1.trans x2).trans x3, re3, rs3, hj⟩
      | ct ρ3 => exact fun σ3 f3 H3 x3 rs3 re3 => ⟨ρ3, S3, f3, (x1.trans x2).trans x3, re3, rs3, hj⟩
      | bk ρ3 => cases hj; exact fun σ3 f3 H3 x3 rs3 re3 => k σ3 f3 H3 ((x1.trans x2).trans x3) rs3 re3
      | rt d => cases hj; exact KQ.refl_ext k (x1.trans x2)
theorem ms_fr {it : Expr} {b : List Stmt} {mi : Mn.It} {mb : Ss} {g : Gt} (hp : PassesOwn (model X.prog X.w) X.A X.env X.xe) (hc : X.calm = true) (hi : PI X tg it (tI T cf X.K mi)) (hg : PG X tg (tG X.K g)) (hb : PSs X b (tSs X.K T cf mb)) (hs : ∀ x, foldedSetIterable it X.env x = pure x) :
    PS X (.For tg it b [] pos) (tS X.K T cf (.fr g mi mb)) := psMono (ps_for hp hc hi hg hb hs) fun D σ H ⟨ρ, S, f, re, rs, r, S', e, k⟩ => by
  simp only [exS] at e
  obtain ⟨wk, h1, e⟩ := bindSome e
  refine ⟨ρ, S, f, re, rs, wk.1, wk.2, h1, evIt_stays h1, fun J f1 H1 x1 rs1 yl => ?_⟩
  refine ⟨fun i j σ2 H2 => ∃ ρ2 S2 f2, Ext f1 H1 f2 H2 ∧ RepE X.K f2 H2 ρ2 σ2 ∧ RepS X.K f2 H2 S2 ∧ Walk.stays wk.1.2 S2 ∧ j = wk.1.1.length - i ∧ i ≤ wk.1.1.length ∧
    forL wk.1.2 (fun x ρ S => (asgG g x ρ).bind fun ρ => exSs T cf mb ρ S) (wk.1.1.drop i) ρ2 S2 = some (r, S'), ⟨_, ρ, wk.2, f1, Ext.refl, re.ext x1, rs1, evIt_stays h1, rfl, Nat.zero_le _, by rw [List.drop_zero]; exact e⟩, ?_⟩
  rintro i j σ2 H2 ⟨ρ2, S2, f2, x2, re2, rs2, st2, rfl, hi, hf⟩
  by_cases hlt : i < wk.1.1.length
  · refine .inr ⟨yl.go i f2 H2 S2 x2 rs2 st2 hlt, fun σ3 H3 => ∃ ρ2 S2 f2, Ext f1 H1 f2 H3 ∧ RepE X.K f2 H3 ρ2 σ3 ∧ RepS X.K f2 H3 S2 ∧ Walk.stays wk.1.2 S2 ∧
      forL wk.1.2 (fun x ρ S => (asgG g x ρ).bind fun ρ => exSs T cf mb ρ S) (wk.1.1.drop (i + 1)) ρ2 S2 = some (r, S'), fun σ3 H3 ⟨ρ3, S3, f3, a, b, c, d, e⟩ => ⟨wk.1.1.length - (i + 1), by omega, ρ3, S3, f3, a, b, c, d, rfl, hlt, e⟩, fun v Hy hy => ?_⟩
    obtain ⟨dx, hdx, xy, rsy, ry⟩ := yl.yld i f2 H2 S2 v Hy x2 rs2 st2 hlt hy
    rw [List.drop_eq_getElem_cons hlt] at hf
    have hdx' : wk.1.1[i] = dx := by
      rw [List.getElem?_eq_getElem hlt] at hdx
      exact Option.some.inj hdx
    rw [hdx'] at hf
    simp only [forL] at hf
    obtain ⟨⟨q, S3⟩, h3, hf⟩ := bindSome hf
    obtain ⟨ρ3, h4, h3⟩ := bindSome h3
    refine ⟨ρ2, f2, dx, re2.ext xy, ry, ρ3, h4, fun σ3 re3 hl3 hk3 => ⟨ρ3, S2, f2, re3, rsy, q, S3, h3, ?_⟩⟩
    cases q with
    | nx ρ4 =>
      simp only at hf
      split at hf
      · rename_i hst
        exact fun σ4 f4 H4 x4 rs4 re4 => ⟨ρ4, S3, f4, x2.trans (xy.trans x4), re4, rs4, hst, hf⟩
      · cases hf
    | ct ρ4 =>
      simp only at hf
      split at hf
      · rename_i hst
        exact fun σ4 f4 H4 x4 rs4 re4 => ⟨ρ4, S3, f4, x2.trans (xy.trans x4), re4, rs4, hst, hf⟩
      · cases hf
    | bk ρ4 => cases hf; exact fun σ4 f4 H4 x4 rs4 re4 => k σ4 f4 H4 (x1.trans (x2.trans (xy.trans x4))) rs4 re4
    | rt d => cases hf; exact KQ.refl_ext k (x1.trans (x2.trans xy))
  · have hi' : i = wk.1.1.length := by omega
    subst hi'
    refine .inl ⟨yl.stop f2 H2 S2 x2 rs2 st2, ?_⟩
    rw [List.drop_length] at hf
    simp only [forL] at hf
    cases hf
    exact k σ2 f2 H2 (x1.trans x2) rs2 re2

theorem asg_go {g : Gt} (h : tS K T cf (.asg g m) D σ H) : tAsg (tE T cf K m) (tG K g) D σ H := by
  obtain ⟨ρ, S, f, re, rs, r, S', e, k⟩ := h
  simp only [exS] at e
  obtain ⟨q, h1, e⟩ := bindSome e
  obtain ⟨ρ', h2, e⟩ := Option.map_eq_some_iff.mp e
  cases e
  exact tE_one re rs h1 fun x f1 H1 x1 re1 rs1 r1 => ⟨ρ, f1, q.1, re1, r1, ρ', h2, fun σ' re' _ _ => k σ' f1 H1 x1 rs1 re'⟩
theorem gn_of {i : Nat} {v : V} {Q : L2.St → Hp → Prop} (h : tG K (.nm i) v σ H Q) : gName i v σ H Q := by
  obtain ⟨ρ, f, d, re, r, ρ', e, k⟩ := h
  simp only [asgG] at e
  cases e
  refine k _ (re.set r) (by simp) fun j hj => ?_
  have : i ≠ j := fun z => hj (by simp [Gt.slots, z])
  exact List.getElem?_set_ne this
theorem ms_set {i : Nat} {x : Str} (hN : X.N.Nodup) (hi : X.N[i]? = some x) (hx : Loc X.env.scope x) (hf : X.fn x = true ∨ X.env.scope.names.lookup x = some .local) (he : PE X e (tE T cf X.K m)) (hs : swapsWith e (some (.Name x p)) pos.line X.env = pure false) :
    PS X (.Assign [.Name x p] e pos) (tS X.K T cf (.asg (.nm i) m)) := psMono (ps_set hN hi hx he hs hf) fun D σ H h => by
  obtain ⟨ρ, S, f, re, rs, d, S', e, k⟩ := asg_go h
  exact ⟨ρ, S, f, re, rs, d, S', e, fun v f' H' x s r => gn_of (k v f' H' x s r)⟩
theorem ms_asg {g : Gt} (hg : PG X tg (tG X.K g)) (he : PE X e (tE T cf X.K m)) (hs : swapsWithSole [tg] e pos.line X.env = pure false) (hw : swappedStores [tg] e X.env = pure none) (h1 : (assignEach [tg] X.env).map (·.2) = [assign tg X.env]) :
    PS X (.Assign [tg] e pos) (tS X.K T cf (.asg g m)) := psMono (ps_asg he hg hs hw h1) fun D σ H h => asg_go h
theorem tup_go {es : Es} {gs : List Gt} (h : tS K T cf (.asg (.tp gs) (.tup es)) D σ H) : ∃ ρ S f, RepE K f H ρ σ ∧ RepS K f H S ∧ ∃ ds S' ρ', evEs T cf es ρ S = some (ds, S') ∧ asgGs gs ds ρ = some ρ' ∧ NQ K f H S' ρ' D.nx := by
  obtain ⟨ρ, S, f, re, rs, r, S', e, k⟩ := h
  simp only [exS, evE] at e
  obtain ⟨q, h1, e⟩ := bindSome e
  obtain ⟨t, h3, h1⟩ := bindSome h1
  split at h1
  · cases h1
    obtain ⟨ρ', h2, e⟩ := Option.map_eq_some_iff.mp e
    cases e
    simp only [asgG] at h2
    exact ⟨ρ, S, f, re, rs, t.1, t.2, ρ', h3, h2, k⟩
  · cases h1
theorem ms_par2 {i j : Nat} {x y : Str} {a b : Expr} {ma mb : E} {px py pt : Pos} {kt k2 pt2} (hc : X.calm = true) (hN : X.N.Nodup) (hi : X.N[i]? = some x) (hj : X.N[j]? = some y) (hij : i ≠ j)
    (hx : X.env.scope.names.lookup x = some .local) (hy : X.env.scope.names.lookup y = some .local) (ha : PA X [a, b] (tA T cf X.K (.cons ma (.cons mb .nil))))
    (hw : swappedStores [.Tuple [.Name x px, .Name y py] kt pt] (.Tuple [a, b] k2 pt2) X.env = pure (some [x, y])) :
    PS X (.Assign [.Tuple [.Name x px, .Name y py] kt pt] (.Tuple [a, b] k2 pt2) pos) (tS X.K T cf (.asg (.tp [.nm i, .nm j]) (.tup (.cons ma (.cons mb .nil))))) :=
  psMono (ps_par hc hN hi hj hij hx hy ha hw rfl) fun D σ H h => by
    obtain ⟨ρ, S, f, re, rs, ds, S', ρ', h1, h2, k⟩ := tup_go h
    refine ⟨ρ, S, f, re, rs, ds, S', h1, fun vs f1 H1 x1 rs1 r1 => ?_⟩
    match ds, h2 with
    | [d1, d2], h2 =>
      simp only [asgGs, asgG, Option.bind_some] at h2
      cases h2
      obtain ⟨v, w, rfl, q1, q2⟩ := r1.twoI
      exact ⟨v, w, rfl, k _ f1 H1 x1 rs1 (((re.ext x1).set q1).set q2)⟩
    | [], h2 => simp [asgGs] at h2
    | [_], h2 => simp [asgGs, asgG] at h2
    | _ :: _ :: _ :: _, h2 => simp [asgGs, asgG] at h2
theorem ms_par3 {i j l : Nat} {x y z : Str} {a b c : Expr} {ma mb mc : E} {px py pz pt : Pos} {kt k2 pt2} (hc : X.calm = true) (hN : X.N.Nodup) (hi : X.N[i]? = some x) (hj : X.N[j]? = some y) (hl : X.N[l]? = some z) (hij : i ≠ j) (hil : i ≠ l) (hjl : j ≠ l)
    (hx : X.env.scope.names.lookup x = some .local) (hy : X.env.scope.names.lookup y = some .local) (hz : X.env.scope.names.lookup z = some .local) (ha : PA X [a, b, c] (tA T cf X.K (.cons ma (.cons mb (.cons mc .nil)))))
    (hw : swappedStores [.Tuple [.Name x px, .Name y py, .Name z pz] kt pt] (.Tuple [a, b, c] k2 pt2) X.env = pure (some [x, y, z])) :
    PS X (.Assign [.Tuple [.Name x px, .Name y py, .Name z pz] kt pt] (.Tuple [a, b, c] k2 pt2) pos) (tS X.K T cf (.asg (.tp [.nm i, .nm j, .nm l]) (.tup (.cons ma (.cons mb (.cons mc .nil)))))) :=
  psMono (ps_par3 hc hN hi hj hl hij hil hjl hx hy hz ha hw rfl) fun D σ H h => by
    obtain ⟨ρ, S, f, re, rs, ds, S', ρ', h1, h2, k⟩ := tup_go h
    refine ⟨ρ, S, f, re, rs, ds, S', h1, fun vs f1 H1 x1 rs1 r1 => ?_⟩
    match ds, h2 with
    | [d1, d2, d3], h2 =>
      simp only [asgGs, asgG, Option.bind_some] at h2
      cases h2
      simp only [Reps] at r1
      obtain ⟨u, q, rfl, q1, v, q', rfl, q2, w, q'', rfl, q3, rfl⟩ := r1
      exact ⟨u, v, w, rfl, k _ f1 H1 x1 rs1 ((((re.ext x1).set q1).set q2).set q3)⟩
    | [], h2 => simp [asgGs] at h2
    | [_], h2 => simp [asgGs, asgG] at h2
    | [_, _], h2 => simp [asgGs, asgG] at h2
    | _ :: _ :: _ :: _ :: _, h2 => simp [asgGs, asgG] at h2
theorem ms_setLc {i : Nat} {y : Str} {py spos : Pos} {elt iter : Expr} {ifs : List Expr} {scope : Scope} {own : List (Str × Nat)} {it : Mn.It} {cs : Es} {g : Gt} (hc : X.calm = true) (hN : X.N.Nodup) (hy : X.N[i]? = some y) (hyl : X.env.scope.names.lookup y = some .local)
    (hsw : swapsWith (.ListComp elt [⟨tg, iter, ifs, 0⟩] scope pos) (some (.Name y py)) spos.line X.env = pure true) (hi : PI X tg iter (tI T cf X.K it)) (ok : BlkOk X.N X.env.scope scope own)
    (hsl : ∀ i ∈ g.slots, i ∈ own.map (·.2))
    (hg : ∀ (s : Shared) (H : Hp) (C : Addr) (cl : List (Str × Addr)) (fp : List Addr), PG (X.blk s H scope (compEnvC scope cl C X.env) fp) tg (tG X.K g)) (ht : ∀ (s : Shared) (H : Hp) (C : Addr) (cl : List (Str × Addr)) (fp : List Addr), PTs (X.blk s H scope (compEnvC scope cl C X.env) fp) ifs (tCs T cf X.K cs))
    (he : ∀ (s : Shared) (H : Hp) (C : Addr) (cl : List (Str × Addr)) (fp : List Addr), PE (X.blk s H scope (compEnvC scope cl C X.env) fp) elt (tE T cf X.K m)) (hs : ∀ x, foldedSetIterable iter X.env x = pure x) :
    PS X (.Assign [.Name y py] (.ListComp elt [⟨tg, iter, ifs, 0⟩] scope pos) spos) (tS X.K T cf (.asg (.nm i) (.lc m g it cs (own.map (·.2))))) :=
  psMono (ps_setLc hc hN hy hyl hsw hi ok hg ht he hs) fun D σ H h => by
    have h' := asg_go h
    refine tLc_of hsl ?_
    obtain ⟨ρ, S, f, re, rs, d, S', e, k⟩ := h'
    exact ⟨ρ, S, f, re, rs, d, S', e, fun v f' H' x s r => gn_of (k v f' H' x s r)⟩
theorem ms_put {o i : Expr} {mo mi : E} (hu : X.A.units + 1 < cLine) (hv : PE X e (tE T cf X.K m)) (ho : PE X o (tE T cf X.K mo)) (hi : PE X i (tE T cf X.K mi)) (hs : swapsWith e (some (.Subscript o i p)) pos.line X.env = pure false) :
    PS X (.Assign [.Subscript o i p] e pos) (tS X.K T cf (.put mo mi m)) := by
  refine ⟨fun pins s σ H D I ⟨ρ, S, f, re, rs, r, S', ee, k⟩ => ?_⟩
  simp only [exS] at ee
  obtain ⟨r1, h1, ee⟩ := bindSome ee
  obtain ⟨r2, h2, ee⟩ := bindSome ee
  obtain ⟨r3, h3, ee⟩ := bindSome ee
  obtain ⟨S4, h4, ee⟩ := Option.map_eq_some_iff.mp ee
  cases ee
  have hv' : tE T cf X.K m σ H fun v H1 => tE T cf X.K mo σ H1 fun x H2 => tE T cf X.K mi σ H2 fun y H3 => ∃ f3, Ext f H f3 H3 ∧ RepE X.K f3 H3 ρ σ ∧ RepS X.K f3 H3 r3.2 ∧ Rep X.K f3 H3 r1.1 v ∧ Rep X.K f3 H3 r2.1 x ∧ Rep X.K f3 H3 r3.1 y :=
    tE_one re rs h1 fun v f1 H1 x1 re1 rs1 q1 => tE_one re1 rs1 h2 fun x f2 H2 x2 re2 rs2 q2 => tE_one re2 rs2 h3 fun y f3 H3 x3 re3 rs3 q3 => ⟨f3, x1.trans (x2.trans x3), re3, rs3, (q1.ext x2).ext x3, q2.ext x3, q3⟩
  refine wpAny_Assign_Subscript (thn (hv.run pins s σ H _ I hv') fun u s1 ⟨v, H1, I1, rv, q1⟩ => thn (ho.run pins s1 σ H1 _ I1 q1) fun ov s2 ⟨x, H2, I2, rx, q2⟩ => thn (hi.run pins s2 σ H2 _ I2 q2) fun iv s3 ⟨y, H3, I3, ry, f3, x3, re3, rs3, qv, qx, qy⟩ => ?_) hs
  unfold putV at h4
  split at h4
  · rename_i n hn
    rw [hn] at qx
    split at h4
    · rename_i xs hx
      split at h4
      · rename_i kk hk
        rw [hk] at qy
        split at h4
        · rename_i j hj
          cases h4
          obtain ⟨a, ws, rfl, g1, g2, g3⟩ := qx.lstI rs3 hx
          have up := lst_upd rs3 g1 g2 (g3.set j qv)
          refine thn (set_list pins s3 σ H3 _ y v ov iv u (fun H' => D.nx σ H') I3 rx ry rv ⟨a, ws, kk, j, rfl, qy.intI, g2, by rw [← g3.length]; exact hj, k σ f3 _ (x3.trans up.1) up.2 (re3.ext up.1)⟩) fun _ s4 ⟨H4, I4, q4⟩ => ⟨σ, H4, I4, q4⟩
        · cases h4
      · cases h4
    · rename_i kvs hk
      split at h4
      · rename_i q hq
        split at h4
        · rename_i hz
          cases h4
          obtain ⟨a, rfl, ha⟩ := qx.refI
          obtain ⟨b, hb, ps, g1, g2⟩ := rs3.cell n _ hk
          rw [ha] at hb
          cases hb
          obtain ⟨c, rfl, hc⟩ := keyT_rep hq qy
          obtain rfl : ov = Value.ref a := rx
          have hl : ps.length < sizeLine := by
            have : kvs.length = ps.length := by
              have go : ∀ {κ : Type} {ds : List (κ × Mn.D)} {ps : List (κ × V)}, KvR X.K f3 H3 ds ps → ds.length = ps.length := by
                intro κ ds
                induction ds with
                | nil => intro ps h; rw [show ps = [] from h]; rfl
                | cons d ds ih => intro ps ⟨v, r, e1, e2, e3⟩; rw [e1]; simp [ih e3]
              exact go g2
            rw [sizeLine_eq]; omega
          have x : Ext f3 H3 f3 (upd H3 a (.dT (putK ps q v))) := Ext.write g1 (fun _ z => nomatch z) (fun _ _ z => nomatch z)
          have w := rs3.write (o := .dT (putK ps q v)) (c := .dT (putKv kvs q r1.1)) ha x ⟨_, upd_same, (KvR.put qv g2).ext x⟩
          exact d_setItem hu I3 (DPut.t g1 hc hl) ry rv fun s4 I4 => ⟨σ, _, I4, k σ f3 _ (x3.trans x) w (re3.ext x)⟩
        · cases h4
      · cases h4
    · rename_i kvs hk
      split at h4
      · rename_i q hq
        split at h4
        · rename_i hz
          cases h4
          obtain ⟨a, rfl, ha⟩ := qx.refI
          obtain ⟨b, hb, ps, g1, g2⟩ := rs3.cell n _ hk
          rw [ha] at hb
          cases hb
          have hy := keyD_rep hq qy
          subst hy
          obtain rfl : ov = Value.ref a := rx
          have hl : ps.length < sizeLine := by
            have : kvs.length = ps.length := by
              have go : ∀ {κ : Type} {ds : List (κ × Mn.D)} {ps : List (κ × V)}, KvR X.K f3 H3 ds ps → ds.length = ps.length := by
                intro κ ds
                induction ds with
                | nil => intro ps h; rw [show ps = [] from h]; rfl
                | cons d ds ih => intro ps ⟨v, r, e1, e2, e3⟩; rw [e1]; simp [ih e3]
              exact go g2
            rw [sizeLine_eq]; omega
          have x : Ext f3 H3 f3 (upd H3 a (.dK (putK ps q v))) := Ext.write g1 (fun _ z => nomatch z) (fun _ _ z => nomatch z)
          have w := rs3.write (o := .dK (putK ps q v)) (c := .dK (putKv kvs q r1.1)) ha x ⟨_, upd_same, (KvR.put qv g2).ext x⟩
          exact d_setItem hu I3 (DPut.k g1 hl) ry rv fun s4 I4 => ⟨σ, _, I4, k σ f3 _ (x3.trans x) w (re3.ext x)⟩
        · cases h4
      · cases h4
    · cases h4
  · cases h4
end
end Mn
end

section
set_option maxHeartbeats 1000000
namespace Mn
open PySem PySem.Spec PyProof.Rows L2
structure Gd where
  fns : List Str
  gcd : Bool
  dk : List Nat
def bltNames : List Str := ["abs", "max", "min", "len", "int", "list", "tuple", "repr", "sum", "all", "any", "reversed", "range", "enumerate", "zip", "isinstance", "bool", "str", "dict"]
structure Facts (G : Gd) (T : Tb) (cf : Str → List D → So → Option (D × So)) (k : Nat) (P : Program) (w : World) (K : PySem.W.Frag) (mg : Str → Option Value) (base : Heap) : Prop where
  cons : ∀ x i, T.cons.lookup x = some i → ∃ t, mg x = some (.int i t)
  blt : ∀ x ∈ bltNames, mg x = none
  gcd : G.gcd = true → mg "gcd" = some (.builtin "math.gcd")
  fns : ∀ x ∈ G.fns, ∃ a fd ps, FnG P w K mg base k a fd ps (prom cf K x) ∧ mg x = some (.ref a) ∧ PySem.W.keepIn K (.ref a) = true ∧ Binds K fd ps [] ∧ ∀ n ks pm, T.kws.lookup (x, n, ks) = some pm → KwB K fd ps n ks pm
structure Cxt (G : Gd) (T : Tb) (cf : Str → List D → So → Option (D × So)) (N : List Str) (sc : Scope) (X : Cx) : Prop where
  calm : X.calm = true
  hN : X.N = N
  nd : N.Nodup
  loc : ∀ x, sc.names.lookup x = some .local → X.env.scope.names.lookup x = some .local
  cel : ∀ x, sc.names.lookup x = some .cell → X.env.scope.names.lookup x = some .cell
  fre : ∀ x, sc.names.lookup x = some .free → X.env.scope.names.lookup x = some .free ∨ X.env.scope.names.lookup x = some .cell
  glo : ∀ x, sc.names.lookup x = some .globalImplicit → X.env.scope.names.lookup x = some .globalImplicit
  fnc : ∀ x, sc.names.lookup x = some .cell → X.fn x = true
  un : X.A.units + 200 < cLine
  guards : X.A.guards = some []
  facts : ∃ k, Room k X.A ∧ Facts G T cf k X.prog X.w X.K X.mg X.base

def noStar : Expr → Bool
  | .Starred .. => false
  | _ => true
def noStars : List Expr → Bool
  | [] => true
  | e :: es => noStar e && noStars es
def notCall : Expr → Bool
  | .Call .. => false
  | _ => true
def notSlice : Expr → Bool
  | .Slice .. => false
  | _ => true
def notSet : Expr → Bool
  | .Set .. => false
  | _ => true
def notComp : Expr → Bool
  | .ListComp .. => false
  | .SetComp .. => false
  | .DictComp .. => false
  | _ => true
def notTup : Expr → Bool
  | .Tuple .. => false
  | _ => true
def plainT : Expr → Bool
  | .UnaryOp .. => false
  | .BoolOp .. => false
  | .IfExp .. => false
  | .Compare .. => false
  | _ => true
theorem star_cons {e : Expr} (h : noStar e = true) (es : List Expr) (env : Env) : starEach (e :: es) env = (false, eval e env) :: starEach es env := by
  cases e <;> first | rfl | cases h
theorem star_any : ∀ {es : List Expr} (h : noStars es = true) (pos : Pos) (env : Env), (backTo pos (starEach es env)).any (·.1) = false
  | [], _, _, _ => rfl
  | e :: es, h, pos, env => by
    simp only [noStars, Bool.and_eq_true] at h
    rw [star_cons h.1]
    show (false || (backTo pos (starEach es env)).any (·.1)) = false
    rw [star_any h.2]
    rfl
theorem base_of {o : Expr} (h : notCall o = true) (m : Str) (env : Env) (w : Sem Value) : attributeBase o m env w = w := by
  cases o <;> first | rfl | cases h
theorem plain_of {b : Expr} (h : notSlice b = true) : PlainIx b := by
  cases b <;> first | (intro _ _; rfl) | cases h
theorem truth_of {e : Expr} (h : plainT e = true) (env : Env) (whole : Sem Value) : isTrue e env whole = (do let v ← whole; standAt e.pos; holding [v] (truthy v)) := by
  cases e <;> first | rfl | cases h
theorem folded_of {e : Expr} (h : notSet e = true) (env : Env) (x : Value) : foldedSetIterable e env x = pure x := by
  cases e <;> first | rfl | cases h
theorem swaps_of {e : Expr} (h : notComp e = true) (t : Option Expr) (l : Nat) (env : Env) : swapsWith e t l env = pure false := by
  cases e <;> first | rfl | cases h
theorem swaps_sub {e : Expr} (o i : Expr) (p : Pos) (l : Nat) (env : Env) : swapsWith e (some (.Subscript o i p)) l env = pure false := by
  cases e <;> rfl
theorem swaps_tup {e : Expr} (es : List Expr) (k : Nat) (p : Pos) (l : Nat) (env : Env) : swapsWith e (some (.Tuple es k p)) l env = pure false := by
  cases e <;> rfl
theorem assign_cons {e : Expr} (h : noStar e = true) (es : List Expr) (env : Env) : assignEach (e :: es) env = (false, assign e env) :: assignEach es env := by
  cases e <;> first | rfl | cases h
theorem assign_len : ∀ {es : List Expr} (h : noStars es = true) (env : Env), (assignEach es env).length = es.length
  | [], _, _ => rfl
  | e :: es, h, env => by
    simp only [noStars, Bool.and_eq_true] at h
    rw [assign_cons h.1, List.length_cons, List.length_cons, assign_len h.2]
theorem assign_find : ∀ {es : List Expr} (h : noStars es = true) (env : Env), (assignEach es env).findIdx? (·.1) = none
  | [], _, _ => rfl
  | e :: es, h, env => by
    simp only [noStars, Bool.and_eq_true] at h
    rw [assign_cons h.1, List.findIdx?_cons]
    simp [assign_find h.2]
def opOf : (o : Operator) → Option {p : Op // opT p = o}
  | .Add => some ⟨.add, rfl⟩
  | .Sub => some ⟨.sub, rfl⟩
  | .Mult => some ⟨.mul, rfl⟩
  | .FloorDiv => some ⟨.fdiv, rfl⟩
  | .Mod => some ⟨.mod, rfl⟩
  | .Pow => some ⟨.pow, rfl⟩
  | .LShift => some ⟨.shl, rfl⟩
  | .BitAnd => some ⟨.band, rfl⟩
  | _ => none
def cpOf : (o : CmpOp) → {p : Cp // cpT p = o}
  | .Eq => ⟨.eq, rfl⟩
  | .NotEq => ⟨.ne, rfl⟩
  | .Lt => ⟨.lt, rfl⟩
  | .LtE => ⟨.le, rfl⟩
  | .Gt => ⟨.gt, rfl⟩
  | .GtE => ⟨.ge, rfl⟩
  | .Is => ⟨.is, rfl⟩
  | .IsNot => ⟨.isnot, rfl⟩
  | .In => ⟨.inn, rfl⟩
  | .NotIn => ⟨.notin, rfl⟩
def okName (x : Str) : Bool := !(x == ("__debug__" : Str)) && !(x == ("__classdict__" : Str))
theorem okName.d {x : Str} (h : okName x = true) : (x == ("__debug__" : Str)) = false := by
  unfold okName at h
  simp only [Bool.and_eq_true, Bool.not_eq_true'] at h
  exact h.1
theorem okName.c {x : Str} (h : okName x = true) : (x == ("__classdict__" : Str)) = false := by
  unfold okName at h
  simp only [Bool.and_eq_true, Bool.not_eq_true'] at h
  exact h.2

theorem lookup_rel_free {sc : Scope} : ∀ {names : List (Str × NameKind)} {x : Str}, names.lookup x = some .free →
    (names.map fun (n, k) => if (k == NameKind.free && sc.kind == .function && sc.names.lookup n == some .cell) then (n, NameKind.cell) else (n, k)).lookup x = some .free ∨
    (names.map fun (n, k) => if (k == NameKind.free && sc.kind == .function && sc.names.lookup n == some .cell) then (n, NameKind.cell) else (n, k)).lookup x = some .cell
  | [], _, h => by simp at h
  | (n, k₀) :: r, x, h => by
    have ih := @lookup_rel_free sc r x
    show List.lookup x ((if (k₀ == NameKind.free && sc.kind == .function && sc.names.lookup n == some .cell) = true then (n, NameKind.cell) else (n, k₀)) :: (r.map _)) = some .free ∨ List.lookup x ((if (k₀ == NameKind.free && sc.kind == .function && sc.names.lookup n == some .cell) = true then (n, NameKind.cell) else (n, k₀)) :: (r.map _)) = some .cell
    cases hx : x == n with
    | true =>
      simp only [List.lookup_cons, hx] at h
      cases h
      by_cases hc : (NameKind.free == NameKind.free && sc.kind == .function && sc.names.lookup n == some .cell) = true
      · rw [if_pos hc]; simp only [List.lookup_cons, hx]; exact .inr trivial
      · rw [if_neg hc]; simp only [List.lookup_cons, hx]; exact .inl trivial
    | false =>
      simp only [List.lookup_cons, hx] at h
      by_cases hc : (k₀ == NameKind.free && sc.kind == .function && sc.names.lookup n == some .cell) = true
      · rw [if_pos hc]; simp only [List.lookup_cons, hx]; exact ih h
      · rw [if_neg hc]; simp only [List.lookup_cons, hx]; exact ih h
section
variable {G : Gd} {T : Tb} {cf : Str → List D → So → Option (D × So)} {N : List Str} {sc scope : Scope} {own : List (Str × Nat)} {X : Cx}
theorem Cxt.blkOk (c : Cxt G T cf N sc X) (h : blkC N sc scope own = true) : BlkOk X.N X.env.scope scope own := by
  have ok := blkOk_by h
  rw [c.hN]
  refine ⟨ok.kind, ok.uniq, ok.ix, fun y hy e => ?_, ok.own⟩
  rcases ok.free y hy e with k | k
  · exact .inl (c.cel _ k)
  · exact (c.fre _ k).symm
theorem Cxt.blk (c : Cxt G T cf N sc X) (s : Shared) (H : Hp) (C : Addr) (cl : List (Str × Addr)) (fp : List Addr) : Cxt G T cf N scope (X.blk s H scope (compEnvC scope cl C X.env) fp) where
  calm := c.calm
  hN := c.hN
  nd := c.nd
  loc := fun x h => lookup_relS_keep (sc := X.env.scope) (by decide) h
  cel := fun x h => lookup_relS_keep (sc := X.env.scope) (by decide) h
  fre := fun x h => lookup_rel_free (sc := X.env.scope) h
  glo := fun x h => lookup_relS_keep (sc := X.env.scope) (by decide) h
  fnc := fun x h => by
    show (scope.names.lookup x == some NameKind.cell) = true
    rw [h]
    rfl
  un := c.un
  guards := c.guards
  facts := c.facts
theorem Cxt.vis (c : Cxt G T cf N sc X) {x : Str} (h : sc.names.lookup x = some .local ∨ sc.names.lookup x = some .cell ∨ sc.names.lookup x = some .free) : Vis X.env.scope x := by
  rcases h with h | h | h
  · exact .inl (c.loc x h)
  · exact .inr (.inl (c.cel x h))
  · rcases c.fre x h with h | h
    · exact .inr (.inr h)
    · exact .inr (.inl h)
theorem Cxt.u64 (c : Cxt G T cf N sc X) : X.A.units + 64 < cLine := by have := c.un; omega
theorem Cxt.u1 (c : Cxt G T cf N sc X) : X.A.units + 1 < cLine := by have := c.un; omega
theorem Cxt.bl (c : Cxt G T cf N sc X) {x : Str} (h : x ∈ bltNames) : X.mg x = none := let ⟨_, _, f⟩ := c.facts; f.blt x h
end

section
variable (G : Gd) (N : List Str)
abbrev OkE (sc : Scope) (e : Expr) := {m : E // ∀ T cf X, Cxt G T cf N sc X → PE X e (tE T cf X.K m)}
abbrev OkT (sc : Scope) (e : Expr) := {m : E // ∀ T cf X, Cxt G T cf N sc X → PT X e (tT T cf X.K m)}
abbrev OkA (sc : Scope) (es : List Expr) := {m : Es // noStars es = true ∧ ∀ T cf X, Cxt G T cf N sc X → PA X es (tA T cf X.K m)}
abbrev OkO (sc : Scope) (e : Option Expr) := {m : Eo // ∀ T cf X, Cxt G T cf N sc X → PO X e (tO T cf X.K m)}
abbrev OkG (sc : Scope) (e : Expr) := {g : Gt // ∀ T cf X, Cxt G T cf N sc X → PG X e (tG X.K g)}
abbrev OkGs (sc : Scope) (es : List Expr) := {g : List Gt // noStars es = true ∧ g.length = es.length ∧ ∀ T cf X, Cxt G T cf N sc X → PGs X es (tGs X.K g)}
abbrev OkI (sc : Scope) (tg e : Expr) := {m : It // ∀ T cf X, Cxt G T cf N sc X → PI X tg e (tI T cf X.K m)}
abbrev OkC (sc : Scope) (es : List Expr) := {m : Es // ∀ T cf X, Cxt G T cf N sc X → PTs X es (tCs T cf X.K m)}
structure Rec where
  e : ∀ sc e, Option (OkE G N sc e)
  t : ∀ sc e, Option (OkT G N sc e)
def slotOf (x : Str) : Option {i : Nat // N[i]? = some x} :=
  match h : N.findIdx? (· == x) with
  | some i => some ⟨i, by
      rw [List.findIdx?_eq_some_iff_getElem] at h
      obtain ⟨h1, h2, _⟩ := h
      rw [List.getElem?_eq_getElem h1]
      simpa using h2⟩
  | none => none
def trName (sc : Scope) (x : Str) (pos : Pos) : Option (OkE G N sc (.Name x pos)) :=
  if hok : okName x = true then
    match hk : sc.names.lookup x with
    | some .local => (slotOf N x).map fun i => ⟨.var i.1, fun T cf X c => me_var (by rw [c.hN]; exact i.2) (c.vis (.inl hk)) (okName.d hok) (okName.c hok)⟩
    | some .cell => (slotOf N x).map fun i => ⟨.var i.1, fun T cf X c => me_var (by rw [c.hN]; exact i.2) (c.vis (.inr (.inl hk))) (okName.d hok) (okName.c hok)⟩
    | some .free => (slotOf N x).map fun i => ⟨.var i.1, fun T cf X c => me_var (by rw [c.hN]; exact i.2) (c.vis (.inr (.inr hk))) (okName.d hok) (okName.c hok)⟩
    | some .globalImplicit => some ⟨.glob x, fun T cf X c => me_glob (c.glo x hk) (let ⟨_, _, f⟩ := c.facts; f.cons x) (okName.d hok)⟩
    | _ => none
  else none
def trG : Nat → ∀ (sc : Scope) (e : Expr), Option (OkG G N sc e)
  | 0, _, _ => none
  | n + 1, sc, .Name x pos =>
    match hk : sc.names.lookup x with
    | some .local => (slotOf N x).map fun i => ⟨.nm i.1, fun T cf X c => mg_nm (by rw [c.hN]; exact c.nd) (by rw [c.hN]; exact i.2) (.inl (c.loc x hk)) (.inr (c.loc x hk))⟩
    | some .cell => (slotOf N x).map fun i => ⟨.nm i.1, fun T cf X c => mg_nm (by rw [c.hN]; exact c.nd) (by rw [c.hN]; exact i.2) (.inr (c.cel x hk)) (.inl (c.fnc x hk))⟩
    | _ => none
  | n + 1, sc, .Tuple es k pos =>
    let rec go : (es : List Expr) → Option (OkGs G N sc es)
      | [] => some ⟨[], rfl, rfl, fun T cf X c => mgs_nil⟩
      | e :: es =>
        if hs : noStar e = true then
          match trG n sc e, go es with
          | some g, some gs => some ⟨g.1 :: gs.1, by simp [noStars, hs, gs.2.1], by simp [gs.2.2.1], fun T cf X c => mgs_cons (g.2 _ _ X c) (gs.2.2.2 _ _ X c) (by rw [assign_cons hs]; rfl)⟩
          | _, _ => none
        else none
    match go es with
    | some gs => some ⟨.tp gs.1, fun T cf X c => mg_tp c.calm (gs.2.2.2 _ _ X c) (by rw [assign_len gs.2.1, gs.2.2.1]) (assign_find gs.2.1 X.env)⟩
    | none => none
  | _, _, _ => none
variable {G N} (R : Rec G N)
def trEs (sc : Scope) : (es : List Expr) → Option (OkA G N sc es)
  | [] => some ⟨.nil, rfl, fun T cf X c => ma_nil⟩
  | e :: es =>
    if hs : noStar e = true then
      match R.e sc e, trEs sc es with
      | some m, some ms => some ⟨.cons m.1 ms.1, by simp [noStars, hs, ms.2.1], fun T cf X c => ma_cons (m.2 _ _ X c) (ms.2.2 _ _ X c) (star_cons hs es X.env)⟩
      | _, _ => none
    else none
def trO (sc : Scope) : (e : Option Expr) → Option (OkO G N sc e)
  | none => some ⟨.none, fun T cf X c => mo_none⟩
  | some e => (R.e sc e).map fun m => ⟨.some m.1, fun T cf X c => mo_some (m.2 _ _ X c)⟩
def trAnd (sc : Scope) (pos : Pos) : (es : List Expr) → Option {ms : Es // (∃ m r, ms = .cons m r) ∧ ∀ T cf X, Cxt G T cf N sc X → PE X (.BoolOp .And es pos) (tE T cf X.K (.and ms))}
  | [] => none
  | [a] => (R.e sc a).map fun m => ⟨.cons m.1 .nil, ⟨_, _, rfl⟩, fun T cf X c => me_and1 (m.2 _ _ X c)⟩
  | a :: b :: rest => match R.e sc a, trAnd sc pos (b :: rest) with
    | some m, some ms => some ⟨.cons m.1 ms.1, ⟨_, _, rfl⟩, fun T cf X c => by
        obtain ⟨ms, ⟨m2, r, rfl⟩, h⟩ := ms
        exact me_andC (m.2 _ _ X c) (h _ _ X c)⟩
    | _, _ => none
def trOr (sc : Scope) (pos : Pos) : (es : List Expr) → Option {ms : Es // (∃ m r, ms = .cons m r) ∧ ∀ T cf X, Cxt G T cf N sc X → PE X (.BoolOp .Or es pos) (tE T cf X.K (.or ms))}
  | [] => none
  | [a] => (R.e sc a).map fun m => ⟨.cons m.1 .nil, ⟨_, _, rfl⟩, fun T cf X c => me_or1 (m.2 _ _ X c)⟩
  | a :: b :: rest => match R.e sc a, trOr sc pos (b :: rest) with
    | some m, some ms => some ⟨.cons m.1 ms.1, ⟨_, _, rfl⟩, fun T cf X c => by
        obtain ⟨ms, ⟨m2, r, rfl⟩, h⟩ := ms
        exact me_orC (m.2 _ _ X c) (h _ _ X c)⟩
    | _, _ => none
def trAndT (sc : Scope) (pos : Pos) : (es : List Expr) → Option {ms : Es // (∃ m r, ms = .cons m r) ∧ ∀ T cf X, Cxt G T cf N sc X → PW X (.BoolOp .And es pos) (tT T cf X.K (.and ms))}
  | [] => none
  | [a] => (R.t sc a).map fun m => ⟨.cons m.1 .nil, ⟨_, _, rfl⟩, fun T cf X c => mw_and1 (m.2 _ _ X c)⟩
  | a :: b :: rest => match R.t sc a, trAndT sc pos (b :: rest) with
    | some m, some ms => some ⟨.cons m.1 ms.1, ⟨_, _, rfl⟩, fun T cf X c => by
        obtain ⟨ms, ⟨m2, r, rfl⟩, h⟩ := ms
        exact mw_andC (m.2 _ _ X c) (h _ _ X c)⟩
    | _, _ => none
def trOrT (sc : Scope) (pos : Pos) : (es : List Expr) → Option {ms : Es // (∃ m r, ms = .cons m r) ∧ ∀ T cf X, Cxt G T cf N sc X → PW X (.BoolOp .Or es pos) (tT T cf X.K (.or ms))}
  | [] => none
  | [a] => (R.t sc a).map fun m => ⟨.cons m.1 .nil, ⟨_, _, rfl⟩, fun T cf X c => mw_or1 (m.2 _ _ X c)⟩
  | a :: b :: rest => match R.t sc a, trOrT sc pos (b :: rest) with
    | some m, some ms => some ⟨.cons m.1 ms.1, ⟨_, _, rfl⟩, fun T cf X c => by
        obtain ⟨ms, ⟨m2, r, rfl⟩, h⟩ := ms
        exact mw_orC (m.2 _ _ X c) (h _ _ X c)⟩
    | _, _ => none
def trCs (sc : Scope) : (es : List Expr) → Option (OkC G N sc es)
  | [] => some ⟨.nil, fun T cf X c => mcs_nil⟩
  | [e] => (R.t sc e).map fun m => ⟨.cons m.1 .nil, fun T cf X c => mcs_one (m.2 _ _ X c)⟩
  | _ => none
theorem kw_facts {nm : Str} {v : Expr} {p : Pos} {rest : List Keyword} {pos : Pos} {env : Env} {ks : List Str} (h1 : (backToKw pos (keywordEach rest env)).all (·.1.isSome) = true) (h2 : (backToKw pos (keywordEach rest env)).filterMap (·.1) = ks) (h3 : (backToKw pos (keywordEach rest env)).any (·.1.isNone) = false) :
    (backToKw pos (keywordEach (⟨some nm, v, p⟩ :: rest) env)).all (·.1.isSome) = true ∧ (backToKw pos (keywordEach (⟨some nm, v, p⟩ :: rest) env)).filterMap (·.1) = nm :: ks ∧ (backToKw pos (keywordEach (⟨some nm, v, p⟩ :: rest) env)).any (·.1.isNone) = false := by
  have e : backToKw pos (keywordEach (⟨some nm, v, p⟩ :: rest) env) = (some nm, do let v ← eval v env; standAt pos; pure v) :: backToKw pos (keywordEach rest env) := rfl
  rw [e]
  refine ⟨?_, ?_, ?_⟩
  · rw [List.all_cons, h1]; rfl
  · rw [List.filterMap_cons]; simp only [h2]
  · rw [List.any_cons, h3]; rfl
abbrev OkK (G : Gd) (N : List Str) (sc : Scope) (kws : List Keyword) := {r : List Str × Es // r.2.len = r.1.length ∧ (∀ pos env, (backToKw pos (keywordEach kws env)).all (·.1.isSome) = true ∧ (backToKw pos (keywordEach kws env)).filterMap (·.1) = r.1 ∧ (backToKw pos (keywordEach kws env)).any (·.1.isNone) = false) ∧
  ∀ T cf X, Cxt G T cf N sc X → PK X kws (tA T cf X.K r.2)}
def trKs (sc : Scope) : (kws : List Keyword) → Option (OkK G N sc kws)
  | [] => some ⟨([], .nil), rfl, fun _ _ => ⟨rfl, rfl, rfl⟩, fun T cf X c => mk_nil⟩
  | ⟨some nm, v, p⟩ :: rest => match R.e sc v, trKs sc rest with
    | some m, some r => some ⟨(nm :: r.1.1, .cons m.1 r.1.2), by simp [Es.len, r.2.1], fun pos env => kw_facts (r.2.2.1 pos env).1 (r.2.2.1 pos env).2.1 (r.2.2.1 pos env).2.2, fun T cf X c => mk_cons (m.2 _ _ X c) (r.2.2.2 _ _ X c)⟩
    | _, _ => none
  | ⟨none, _, _⟩ :: _ => none
abbrev OkB (f : Str) := {b : Bi // f ∈ bltNames ∧ f ≠ "__name__" ∧ (f == ("__debug__" : Str)) = false ∧ ∀ X : Cx, X.calm = true → X.A.guards = some [] → X.A.units + 200 < cLine →
  (∃ id, CallR X (.builtin id) (rBi X.K b) ∧ bootBuiltins f = some (.builtin id)) ∨ (∃ id, CallR X (.type id) (rBi X.K b) ∧ bootBuiltins f = some (.type id))}
def biOf (f : Str) (n : Nat) : Option (OkB f) :=
  if h : f = "abs" then (if n = 1 then some ⟨.abs, by subst h; decide +kernel, by subst h; decide, by subst h; decide, fun X c g u => .inl ⟨"abs", bi_abs, by subst h; decide +kernel⟩⟩ else none)
  else if h : f = "max" then (if n = 2 then some ⟨.max2, by subst h; decide +kernel, by subst h; decide, by subst h; decide, fun X c g u => .inl ⟨"max", bi_max2 c, by subst h; decide +kernel⟩⟩ else none)
  else if h : f = "min" then (if n = 2 then some ⟨.min2, by subst h; decide +kernel, by subst h; decide, by subst h; decide, fun X c g u => .inl ⟨"min", bi_min2 c, by subst h; decide +kernel⟩⟩ else none)
  else if h : f = "len" then (if n = 1 then some ⟨.len, by subst h; decide +kernel, by subst h; decide, by subst h; decide, fun X c g u => .inl ⟨"len", bi_len, by subst h; decide +kernel⟩⟩ else none)
  else if h : f = "int" then (if n = 1 then some ⟨.int, by subst h; decide +kernel, by subst h; decide, by subst h; decide, fun X c g u => .inr ⟨"int", bi_int, by subst h; decide +kernel⟩⟩ else none)
  else if h : f = "list" then (if n = 1 then some ⟨.list, by subst h; decide +kernel, by subst h; decide, by subst h; decide, fun X c g u => .inr ⟨"list", bi_list, by subst h; decide +kernel⟩⟩ else none)
  else if h : f = "tuple" then (if n = 1 then some ⟨.tuple, by subst h; decide +kernel, by subst h; decide, by subst h; decide, fun X c g u => .inr ⟨"tuple", bi_tuple, by subst h; decide +kernel⟩⟩ else none)
  else if h : f = "repr" then (if n = 1 then some ⟨.repr, by subst h; decide +kernel, by subst h; decide, by subst h; decide, fun X c g u => .inl ⟨"repr", bi_repr g u, by subst h; decide +kernel⟩⟩ else none)
  else if h : f = "sum" then (if n = 1 then some ⟨.sum, by subst h; decide +kernel, by subst h; decide, by subst h; decide, fun X c g u => .inl ⟨"sum", bi_sum c, by subst h; decide +kernel⟩⟩ else none)
  else if h : f = "all" then (if n = 1 then some ⟨.all, by subst h; decide +kernel, by subst h; decide, by subst h; decide, fun X c g u => .inl ⟨"all", bi_all c, by subst h; decide +kernel⟩⟩ else none)
  else if h : f = "any" then (if n = 1 then some ⟨.any, by subst h; decide +kernel, by subst h; decide, by subst h; decide, fun X c g u => .inl ⟨"any", bi_any c, by subst h; decide +kernel⟩⟩ else none)
  else none
def tyOf (x : Str) : Option {Ty : String // x ∈ bltNames ∧ bootBuiltins x = some (.type Ty) ∧ x ≠ "__name__" ∧ (x == ("__debug__" : Str)) = false} :=
  if h : x = "int" then some ⟨"int", by subst h; decide +kernel, by subst h; decide +kernel, by subst h; decide, by subst h; decide⟩
  else if h : x = "bool" then some ⟨"bool", by subst h; decide +kernel, by subst h; decide +kernel, by subst h; decide, by subst h; decide⟩
  else if h : x = "str" then some ⟨"str", by subst h; decide +kernel, by subst h; decide +kernel, by subst h; decide, by subst h; decide⟩
  else if h : x = "list" then some ⟨"list", by subst h; decide +kernel, by subst h; decide +kernel, by subst h; decide, by subst h; decide⟩
  else if h : x = "tuple" then some ⟨"tuple", by subst h; decide +kernel, by subst h; decide +kernel, by subst h; decide, by subst h; decide⟩
  else if h : x = "dict" then some ⟨"dict", by subst h; decide +kernel, by subst h; decide +kernel, by subst h; decide, by subst h; decide⟩
  else none
end
end Mn
end

section
set_option maxHeartbeats 1000000
namespace Mn
open PySem PySem.Spec PyProof.Rows L2
def swNames (kind : Str → Option NameKind) (ts : List Expr) : List Str := ts.filterMap fun
    | .Name id pos => if kind id == some .local && pos.line == (ts.head?.map (·.pos.line)).getD 0 then some id else none
    | _ => none
def swV (kind : Str → Option NameKind) (ts vs : List Expr) : Option (Option (List Str)) :=
  if (!(ts.length == 2 || ts.length == 3) || vs.length != ts.length) = true then some none
  else if (vs.any fun | .Starred .. => true | _ => false) = true then some none
  else if ((swNames kind ts).length != ts.length || (swNames kind ts).eraseDups.length != (swNames kind ts).length) = true then some none
  else if vs.all (foldedForSure 8) = true then some none
  else if vs.all (constantsAlone 8) = true then none
  else some (some (swNames kind ts))
theorem swV_ok {ts vs : List Expr} {k k2 : Nat} {p p2 : Pos} {env : Env} {r : Option (List Str)} (hb : (env.blockKind != .function) = false) (h : swV env.kindOf ts vs = some r) : swappedStores [.Tuple ts k p] (.Tuple vs k2 p2) env = pure r := by
  unfold swV at h
  unfold swappedStores
  dsimp only
  rw [hb, Bool.or_false]
  split at h
  · rename_i hc
    cases h
    exact if_pos hc
  · rename_i hc
    refine Eq.trans (if_neg hc) ?_
    split at h
    · rename_i hc
      cases h
      exact if_pos hc
    · rename_i hc
      refine Eq.trans (if_neg hc) ?_
      split at h
      · rename_i hc
        cases h
        exact if_pos hc
      · rename_i hc
        refine Eq.trans (if_neg hc) ?_
        split at h
        · rename_i hc
          cases h
          exact if_pos hc
        · rename_i hc
          refine Eq.trans (if_neg hc) ?_
          split at h
          · cases h
          · rename_i hc
            cases h
            exact if_neg hc
theorem sw_notTup {ts : List Expr} {k : Nat} {p : Pos} {e : Expr} (h : notTup e = true) (env : Env) : swappedStores [.Tuple ts k p] e env = pure none := by
  cases e <;> first | rfl | cases h
theorem swaps_sole (t e : Expr) (l : Nat) (env : Env) : swapsWithSole [t] e l env = swapsWith e (some t) l env := rfl
def swLc (sc : Scope) (y : Str) (py pos : Pos) (scope : Scope) : Bool :=
  (sc.names.lookup y == some .local && py.line == pos.line && !(scope.names.any fun (n, k) => n == y && (k == .local || k == .cell)))
theorem sw_lc (elt : Expr) (gs : List Comprehension) (scope : Scope) (pos : Pos) (y : Str) (py : Pos) (l : Nat) (env : Env) (hb : (env.blockKind == .function) = true) : swapsWith (.ListComp elt gs scope pos) (some (.Name y py)) l env = pure (swLc env.scope y py pos scope) := by
  show (pure (env.blockKind == .function && env.kindOf y == some .local && py.line == pos.line && !(scope.names.any fun (n, k) => n == y && (k == .local || k == .cell))) : Sem Bool) = _
  rw [hb, Bool.true_and]
  rfl

section
variable {G : Gd} {N : List Str} (R : Rec G N)
def trIt (sc : Scope) (tg : Expr) : (e : Expr) → Option (OkI G N sc tg e)
  | .Call (.Name f p) [a] [] pos =>
    if h : f = "range" ∧ sc.names.lookup f = some .globalImplicit ∧ noStar a = true then
      (R.e sc a).map fun m => ⟨.range (.cons m.1 .nil), fun T cf X c => by
        obtain ⟨rfl, h1, h2⟩ := h
        exact mi_range1 (c.glo _ h1) (c.bl (by decide +kernel)) (m.2 _ _ X c) (star_cons h2 [] X.env)⟩
    else if h : f = "reversed" ∧ sc.names.lookup f = some .globalImplicit ∧ noStar a = true then
      (R.e sc a).map fun m => ⟨.rev m.1, fun T cf X c => by
        obtain ⟨rfl, h1, h2⟩ := h
        exact mi_rev (c.glo _ h1) (c.bl (by decide +kernel)) (m.2 _ _ X c) (star_cons h2 [] X.env)⟩
    else if h : f = "enumerate" ∧ sc.names.lookup f = some .globalImplicit ∧ noStar a = true then
      match tg with
      | .Tuple elts k tp => (R.e sc a).map fun m => ⟨.enum m.1, fun T cf X c => by
          obtain ⟨rfl, h1, h2⟩ := h
          exact mi_enum (c.glo _ h1) (c.bl (by decide +kernel)) (m.2 _ _ X c) (star_cons h2 [] X.env)⟩
      | _ => none
    else (R.e sc (.Call (.Name f p) [a] [] pos)).map fun m => ⟨.ex m.1, fun T cf X c => mi_ex (m.2 _ _ X c)⟩
  | .Call (.Name f p) [a, b] [] pos =>
    if h : f = "range" ∧ sc.names.lookup f = some .globalImplicit ∧ noStar a = true ∧ noStar b = true then
      match R.e sc a, R.e sc b with
      | some m, some m2 => some ⟨.range (.cons m.1 (.cons m2.1 .nil)), fun T cf X c => by
          obtain ⟨rfl, h1, h2, h3⟩ := h
          exact mi_range2 (c.glo _ h1) (c.bl (by decide +kernel)) (m.2 _ _ X c) (m2.2 _ _ X c) (by rw [star_cons h2, star_cons h3]; rfl) (star_cons h3 [] X.env)⟩
      | _, _ => none
    else if h : f = "zip" ∧ sc.names.lookup f = some .globalImplicit ∧ noStar a = true ∧ noStar b = true then
      match tg with
      | .Tuple elts k tp => match R.e sc a, R.e sc b with
        | some m, some m2 => some ⟨.zip m.1 m2.1, fun T cf X c => by
            obtain ⟨rfl, h1, h2, h3⟩ := h
            exact mi_zip (c.glo _ h1) (c.bl (by decide +kernel)) (m.2 _ _ X c) (m2.2 _ _ X c) (by rw [star_cons h2, star_cons h3]; rfl) (star_cons h3 [] X.env)⟩
        | _, _ => none
      | _ => none
    else (R.e sc (.Call (.Name f p) [a, b] [] pos)).map fun m => ⟨.ex m.1, fun T cf X c => mi_ex (m.2 _ _ X c)⟩
  | e => (R.e sc e).map fun m => ⟨.ex m.1, fun T cf X c => mi_ex (m.2 _ _ X c)⟩

def ownOf (N : List Str) (scope : Scope) : List (Str × Nat) := scope.names.filterMap fun (x, k) => match k with
  | .local => (N.findIdx? (· == x)).map fun i => (x, i)
  | .cell => (N.findIdx? (· == x)).map fun i => (x, i)
  | _ => none
structure LcP where
  m : E
  g : Gt
  it : It
  cs : Es
abbrev OkL (G : Gd) (N : List Str) (sc : Scope) (elt tg iter : Expr) (ifs : List Expr) (scope : Scope) := {r : LcP // ∀ T cf X, Cxt G T cf N sc X → PI X tg iter (tI T cf X.K r.it) ∧ BlkOk X.N X.env.scope scope (ownOf N scope) ∧ (∀ i ∈ r.g.slots, i ∈ (ownOf N scope).map (·.2)) ∧
  (∀ (s : Shared) (H : Hp) (C : Addr) (cl : List (Str × Addr)) (fp : List Addr), PG (X.blk s H scope (compEnvC scope cl C X.env) fp) tg (tG X.K r.g)) ∧ (∀ (s : Shared) (H : Hp) (C : Addr) (cl : List (Str × Addr)) (fp : List Addr), PTs (X.blk s H scope (compEnvC scope cl C X.env) fp) ifs (tCs T cf X.K r.cs)) ∧
  (∀ (s : Shared) (H : Hp) (C : Addr) (cl : List (Str × Addr)) (fp : List Addr), PE (X.blk s H scope (compEnvC scope cl C X.env) fp) elt (tE T cf X.K r.m)) ∧ (∀ x, foldedSetIterable iter X.env x = pure x)}
def trLc (sc : Scope) (elt tg iter : Expr) (ifs : List Expr) (scope : Scope) : Option (OkL G N sc elt tg iter ifs scope) :=
  if h : blkC N sc scope (ownOf N scope) = true ∧ notSet iter = true then
    match R.e scope elt, trG G N 8 scope tg, trIt R sc tg iter, trCs R scope ifs with
    | some m, some g, some it, some cs =>
      if hs : (g.1.slots.all fun i => ((ownOf N scope).map (·.2)).contains i) = true then
        some ⟨⟨m.1, g.1, it.1, cs.1⟩, fun T cf X c => ⟨it.2 _ _ X c, c.blkOk h.1, fun i hi => by simpa using List.all_eq_true.mp hs i hi, fun s H C cl fp => g.2 _ _ _ (c.blk s H C cl fp), fun s H C cl fp => cs.2 _ _ _ (c.blk s H C cl fp), fun s H C cl fp => m.2 _ _ _ (c.blk s H C cl fp), folded_of h.2 X.env⟩⟩
      else none
    | _, _, _, _ => none
  else none

def trCall (sc : Scope) (f : Str) (p : Pos) (args : List Expr) (kws : List Keyword) (pos : Pos) : Option (OkE G N sc (.Call (.Name f p) args kws pos)) :=
  if hg : sc.names.lookup f = some .globalImplicit ∧ (f == ("__debug__" : Str)) = false then
    if hf : G.fns.contains f = true then
      match args, kws with
      | [], [] => some ⟨.call f .nil, fun T cf X c => by
          obtain ⟨k, hr, F⟩ := c.facts
          obtain ⟨a, fd, ps, h1, h2, h3, h4, h5⟩ := F.fns f (by simpa using hf)
          exact me_call0 h1 hr c.guards (c.glo _ hg.1) h2 h3 h4 hg.2⟩
      | e :: es, [] => (trEs R sc (e :: es)).map fun ms => ⟨.call f ms.1, fun T cf X c => by
          obtain ⟨k, hr, F⟩ := c.facts
          obtain ⟨a, fd, ps, h1, h2, h3, h4, h5⟩ := F.fns f (by simpa using hf)
          have hs := ms.2.1
          simp only [noStars, Bool.and_eq_true] at hs
          exact me_call h1 hr c.guards (c.glo _ hg.1) h2 h3 h4 (ms.2.2 _ _ X c) hg.2 (star_cons hs.1 es X.env) (star_any hs.2 pos X.env)⟩
      | [], k :: ks => (trKs R sc (k :: ks)).map fun r => ⟨.callk f .nil r.1.1 r.1.2, fun T cf X c => by
          obtain ⟨k, hr, F⟩ := c.facts
          obtain ⟨a, fd, ps, h1, h2, h3, h4, h5⟩ := F.fns f (by simpa using hf)
          have q := r.2.2.1 pos X.env
          exact me_callk0 h1 hr c.guards (c.glo _ hg.1) h2 h3 (fun n pm => h5 n _ pm) (r.2.2.2 _ _ X c) r.2.1 q.1 q.2.1 hg.2 (by rw [q.2.2]; rfl)⟩
      | e :: es, k :: ks => match trEs R sc (e :: es), trKs R sc (k :: ks) with
        | some ms, some r => some ⟨.callk f ms.1 r.1.1 r.1.2, fun T cf X c => by
          obtain ⟨k, hr, F⟩ := c.facts
          obtain ⟨a, fd, ps, h1, h2, h3, h4, h5⟩ := F.fns f (by simpa using hf)
          have hs := ms.2.1
          simp only [noStars, Bool.and_eq_true] at hs
          have q := r.2.2.1 pos X.env
          exact me_callk h1 hr c.guards (c.glo _ hg.1) h2 h3 (fun n pm => h5 n _ pm) (ms.2.2 _ _ X c) (r.2.2.2 _ _ X c) r.2.1 q.1 q.2.1 hg.2 (star_cons hs.1 es X.env) (by rw [q.2.2, star_any ms.2.1]; rfl)⟩
        | _, _ => none
    else match args, kws with
      | e :: es, [] =>
        if hgc : f = "gcd" ∧ G.gcd = true ∧ es.length = 1 then
          (trEs R sc (e :: es)).map fun ms => ⟨.bi .gcd ms.1, fun T cf X c => by
            obtain ⟨k, hr, F⟩ := c.facts
            have hs := ms.2.1
            simp only [noStars, Bool.and_eq_true] at hs
            have hgl := c.glo _ hg.1
            obtain ⟨rfl, h2, _⟩ := hgc
            exact me_biF bi_gcd hgl (F.gcd h2) (ms.2.2 _ _ X c) hg.2 (star_cons hs.1 es X.env) (star_any hs.2 pos X.env)⟩
        else match biOf f (es.length + 1) with
          | some b => (trEs R sc (e :: es)).map fun ms => ⟨.bi b.1 ms.1, fun T cf X c => by
              have hs := ms.2.1
              simp only [noStars, Bool.and_eq_true] at hs
              rcases b.2.2.2.2 X c.calm c.guards c.un with ⟨id, h1, h2⟩ | ⟨id, h1, h2⟩
              · exact me_biB h1 (c.glo _ hg.1) (c.bl b.2.1) h2 (ms.2.2 _ _ X c) b.2.2.1 hg.2 (star_cons hs.1 es X.env) (star_any hs.2 pos X.env)
              · exact me_biT h1 (c.glo _ hg.1) (c.bl b.2.1) h2 (ms.2.2 _ _ X c) b.2.2.1 hg.2 (star_cons hs.1 es X.env) (star_any hs.2 pos X.env)⟩
          | none => none
      | _, _ => none
  else none
def trCall1 (sc : Scope) (f : Str) (p : Pos) : (args : List Expr) → (kws : List Keyword) → (pos : Pos) → Option (OkE G N sc (.Call (.Name f p) args kws pos))
  | [.Call (.Name f2 p2) [e] [] pos2], [], pos =>
    if h : f2 = "reversed" ∧ sc.names.lookup f2 = some .globalImplicit ∧ sc.names.lookup f = some .globalImplicit ∧ noStar e = true then
      if hl : f = "list" then
        (R.e sc e).map fun m => ⟨.bi .lrev (.cons m.1 .nil), fun T cf X c => by
          obtain ⟨rfl, h1, h2, h3⟩ := h
          subst hl
          exact me_lrev c.calm (c.glo _ h2) (c.bl (by decide +kernel)) (c.glo _ h1) (c.bl (by decide +kernel)) (m.2 _ _ X c) (star_cons h3 [] X.env)⟩
      else if hl : f = "tuple" then
        (R.e sc e).map fun m => ⟨.bi .trev (.cons m.1 .nil), fun T cf X c => by
          obtain ⟨rfl, h1, h2, h3⟩ := h
          subst hl
          exact me_trev c.calm (c.glo _ h2) (c.bl (by decide +kernel)) (c.glo _ h1) (c.bl (by decide +kernel)) (m.2 _ _ X c) (star_cons h3 [] X.env)⟩
      else trCall R sc f p [.Call (.Name f2 p2) [e] [] pos2] [] pos
    else trCall R sc f p [.Call (.Name f2 p2) [e] [] pos2] [] pos
  | [e, .Name x2 p2], [], pos =>
    if h : f = "isinstance" ∧ sc.names.lookup f = some .globalImplicit ∧ sc.names.lookup x2 = some .globalImplicit ∧ noStar e = true then
      match tyOf x2, R.e sc e with
      | some Ty, some m => some ⟨.bi (.isi Ty.1) (.cons m.1 .nil), fun T cf X c => by
          obtain ⟨rfl, h1, h2, h3⟩ := h
          exact me_isi (c.glo _ h1) (c.bl (by decide +kernel)) (c.glo _ h2) (c.bl Ty.2.1) Ty.2.2.1 Ty.2.2.2.1 Ty.2.2.2.2 (m.2 _ _ X c) (star_cons h3 _ X.env)⟩
      | _, _ => none
    else trCall R sc f p [e, .Name x2 p2] [] pos
  | args, kws, pos => trCall R sc f p args kws pos
def trMeth (sc : Scope) (o : Expr) (m : Str) (apos : Pos) (args : List Expr) (pos : Pos) : Option (OkE G N sc (.Call (.Attribute o m apos) args [] pos)) :=
  if h : notCall o = true ∧ (apos.endLine == pos.line) = true then
    match R.e sc o with
    | some mo =>
      match args with
      | [] =>
        if hm : m = "pop" then some ⟨.me .pop mo.1 .nil, fun T cf X c => by subst hm; exact me_popE (mo.2 _ _ X c) (base_of h.1 _ _ _) h.2⟩
        else if hm : m = "bit_length" then some ⟨.me .bits mo.1 .nil, fun T cf X c => by subst hm; exact me_bitsE (mo.2 _ _ X c) (base_of h.1 _ _ _) h.2⟩
        else none
      | [e] =>
        if hs : noStar e = true then
          match R.e sc e with
          | some me =>
            if hm : m = "append" then some ⟨.me .append mo.1 (.cons me.1 .nil), fun T cf X c => by subst hm; exact me_appendE (mo.2 _ _ X c) (me.2 _ _ X c) (base_of h.1 _ _ _) h.2 (star_cons hs [] X.env)⟩
            else if hm : m = "extend" then some ⟨.me .extend mo.1 (.cons me.1 .nil), fun T cf X c => by subst hm; exact me_extendE (mo.2 _ _ X c) (me.2 _ _ X c) (base_of h.1 _ _ _) h.2 (star_cons hs [] X.env)⟩
            else none
          | none => none
        else none
      | [e, e2] =>
        if hs : noStar e = true ∧ noStar e2 = true ∧ m = "get" then
          match R.e sc e, R.e sc e2 with
          | some ma, some mb => some ⟨.me .get2 mo.1 (.cons ma.1 (.cons mb.1 .nil)), fun T cf X c => by
              obtain ⟨h1, h2, rfl⟩ := hs
              have es : starEach [e, e2] X.env = [(false, eval e X.env), (false, eval e2 X.env)] := by rw [star_cons h1, star_cons h2]; rfl
              exact me_getE c.u1 (mo.2 _ _ X c) (ma.2 _ _ X c) (mb.2 _ _ X c) ⟨base_of h.1 _ _ _, by rw [es]; rfl, h.2, by rw [es]; rfl⟩⟩
          | _, _ => none
        else none
      | _ => none
    | none => none
  else none

def trSub (sc : Scope) (a : Expr) (pos : Pos) : (i : Expr) → Option (OkE G N sc (.Subscript a i pos))
  | .Slice none none (some (.UnaryOp .USub (.Constant (.int j) k p1) p2)) p3 =>
    if h : j = 1 then (R.e sc a).map fun m => ⟨.rev m.1, fun T cf X c => by subst h; exact me_rev (m.2 _ _ X c)⟩ else none
  | .Slice lo hi none p2 => match R.e sc a, trO R sc lo, trO R sc hi with
    | some m, some l, some h => some ⟨.sl m.1 l.1 h.1, fun T cf X c => me_sl (m.2 _ _ X c) (l.2 _ _ X c) (h.2 _ _ X c)⟩
    | _, _, _ => none
  | i => if h : notSlice i = true then match R.e sc a, R.e sc i with
      | some m, some n => some ⟨.ix m.1 n.1, fun T cf X c => me_ix (m.2 _ _ X c) (n.2 _ _ X c) (plain_of h)⟩
      | _, _ => none
    else none
def trCmp (sc : Scope) (a : Expr) (pos : Pos) : (ops : List CmpOp) → (bs : List Expr) → Option {m : E // ∀ T cf X, Cxt G T cf N sc X → PE X (.Compare a ops bs pos) (tE T cf X.K m) ∧ PT X (.Compare a ops bs pos) (tT T cf X.K m)}
  | [o], [b] => match cpOf o, R.e sc a, R.e sc b with
    | ⟨o', ho⟩, some ma, some mb =>
      if h : behindInMarks (cpT o') b = false then some ⟨.cmp o' ma.1 mb.1, fun T cf X c => by
        subst ho
        exact ⟨me_cmp c.u64 (ma.2 _ _ X c) (mb.2 _ _ X c) h, mt_cmp c.u64 (ma.2 _ _ X c) (mb.2 _ _ X c) h⟩⟩
      else none
    | _, _, _ => none
  | [o, q], [b, d] => match cpOf o, cpOf q, R.e sc a, R.e sc b, R.e sc d with
    | ⟨o', ho⟩, ⟨q', hq⟩, some ma, some mb, some md =>
      if h : lastMarks [cpT o', cpT q'] [b, d] = false then some ⟨.cmp2 o' q' ma.1 mb.1 md.1, fun T cf X c => by
        subst ho hq
        exact ⟨me_cmp2 c.u64 (ma.2 _ _ X c) (mb.2 _ _ X c) (md.2 _ _ X c) h, mt_cmp2 c.u64 (ma.2 _ _ X c) (mb.2 _ _ X c) (md.2 _ _ X c) h⟩⟩
      else none
    | _, _, _, _, _ => none
  | _, _ => none
def stE (sc : Scope) : (e : Expr) → Option (OkE G N sc e)
  | .Name x pos => trName G N sc x pos
  | .Constant (.int i) k pos => some ⟨.int i, fun T cf X c => me_int⟩
  | .Constant (.bool i) k pos => some ⟨.bl i, fun T cf X c => me_bl⟩
  | .Constant .none k pos => some ⟨.non, fun T cf X c => me_non⟩
  | .Constant (.str i) k pos => some ⟨.str i, fun T cf X c => me_str⟩
  | .BinOp a o b pos => match opOf o, R.e sc a, R.e sc b with
    | some ⟨o', ho⟩, some ma, some mb => some ⟨.bin o' ma.1 mb.1, fun T cf X c => by
        subst ho
        exact me_bin (ma.2 _ _ X c) (mb.2 _ _ X c)⟩
    | _, _, _ => none
  | .UnaryOp .USub a pos => (R.e sc a).map fun m => ⟨.neg m.1, fun T cf X c => me_neg (m.2 _ _ X c)⟩
  | .UnaryOp .Not a pos => (R.e sc a).map fun m => ⟨.not m.1, fun T cf X c => me_not (m.2 _ _ X c)⟩
  | .Compare a ops bs pos => (trCmp R sc a pos ops bs).map fun m => ⟨m.1, fun T cf X c => (m.2 _ _ X c).1⟩
  | .BoolOp .And es pos => (trAnd R sc pos es).map fun m => ⟨.and m.1, fun T cf X c => m.2.2 _ _ X c⟩
  | .BoolOp .Or es pos => (trOr R sc pos es).map fun m => ⟨.or m.1, fun T cf X c => m.2.2 _ _ X c⟩
  | .IfExp t a b pos => match R.t sc t, R.e sc a, R.e sc b with
    | some mt, some ma, some mb => some ⟨.ite mt.1 ma.1 mb.1, fun T cf X c => me_ite (mt.2 _ _ X c) (ma.2 _ _ X c) (mb.2 _ _ X c)⟩
    | _, _, _ => none
  | .Tuple es k pos => (trEs R sc es).map fun m => ⟨.tup m.1, fun T cf X c => me_tup (m.2.2 _ _ X c)⟩
  | .List es pos => (trEs R sc es).map fun m => ⟨.lst m.1, fun T cf X c => me_lst (m.2.2 _ _ X c)⟩
  | .Dict [] [] pos => if G.dk.contains pos.line = true then some ⟨.dK, fun T cf X c => me_dK⟩ else some ⟨.dT, fun T cf X c => me_dT⟩
  | .Subscript a i pos => trSub R sc a pos i
  | .Call (.Name f p) args kws pos => trCall1 R sc f p args kws pos
  | .Call (.Attribute o m apos) args [] pos => trMeth R sc o m apos args pos
  | .ListComp elt [⟨tg, iter, ifs, as⟩] scope pos =>
    if h : as = 0 then (trLc R sc elt tg iter ifs scope).map fun r => ⟨.lc r.1.m r.1.g r.1.it r.1.cs ((ownOf N scope).map (·.2)), fun T cf X c => by
      subst h
      obtain ⟨h1, h2, h3, h4, h5, h6, h7⟩ := r.2 _ _ X c
      exact me_lc c.calm (by rw [c.hN]; exact c.nd) h1 h2 h3 h4 h5 h6 h7⟩
    else none
  | _ => none
def stT (sc : Scope) : (e : Expr) → Option (OkT G N sc e)
  | .UnaryOp .Not a pos => (R.t sc a).map fun m => ⟨.not m.1, fun T cf X c => mt_not (m.2 _ _ X c)⟩
  | .Compare a ops bs pos => (trCmp R sc a pos ops bs).map fun m => ⟨m.1, fun T cf X c => (m.2 _ _ X c).2⟩
  | .BoolOp .And es pos => (trAndT R sc pos es).map fun m => ⟨.and m.1, fun T cf X c => (m.2.2 _ _ X c).pt⟩
  | .BoolOp .Or es pos => (trOrT R sc pos es).map fun m => ⟨.or m.1, fun T cf X c => (m.2.2 _ _ X c).pt⟩
  | e => if h : plainT e = true then (R.e sc e).map fun m => ⟨m.1, fun T cf X c => mt_val (m.2 _ _ X c) (truth_of h X.env)⟩ else none
end
def trR (G : Gd) (N : List Str) : Nat → Rec G N
  | 0 => ⟨fun _ _ => none, fun _ _ => none⟩
  | n + 1 => ⟨stE (trR G N n), stT (trR G N n)⟩

structure CxtS (G : Gd) (T : Tb) (cf : Str → List D → So → Option (D × So)) (N : List Str) (sc : Scope) (X : Cx) : Prop extends Cxt G T cf N sc X where
  scp : X.env.scope = sc
  kind : sc.kind = .function
  own : PassesOwn (model X.prog X.w) X.A X.env X.xe
section
variable (G : Gd) (N : List Str) (sc : Scope)
abbrev OkS (st : Stmt) := {m : S // ∀ T cf X, CxtS G T cf N sc X → PS X st (tS X.K T cf m)}
abbrev OkSs (sts : List Stmt) := {m : Ss // ∀ T cf X, CxtS G T cf N sc X → PSs X sts (tSs X.K T cf m)}
variable {G N sc} (R : Rec G N) (Q : ∀ sts, Option (OkSs G N sc sts))
theorem CxtS.bk {T : Tb} {cf : Str → List D → So → Option (D × So)} {X : Cx} (c : CxtS G T cf N sc X) : X.env.blockKind = .function := by
  unfold Env.blockKind
  rw [c.scp, c.kind]
  rfl
def trAsgN (y : Str) (py : Pos) (pos : Pos) : (e : Expr) → Option (OkS G N sc (.Assign [.Name y py] e pos))
  | .ListComp elt [⟨tg, iter, ifs, as⟩] scope lpos =>
    if h : as = 0 ∧ swLc sc y py lpos scope = true ∧ sc.names.lookup y = some .local then
      match slotOf N y, trLc R sc elt tg iter ifs scope with
      | some i, some r => some ⟨.asg (.nm i.1) (.lc r.1.m r.1.g r.1.it r.1.cs ((ownOf N scope).map (·.2))), fun T cf X c => by
          obtain ⟨rfl, hs, hl⟩ := h
          obtain ⟨h1, h2, h3, h4, h5, h6, h7⟩ := r.2 _ _ X c.toCxt
          exact ms_setLc c.calm (by rw [c.hN]; exact c.nd) (by rw [c.hN]; exact i.2) (c.loc y hl) (by rw [sw_lc _ _ _ _ _ _ _ _ (by rw [c.bk]; rfl), c.scp, hs]) h1 h2 h3 h4 h5 h6 h7⟩
      | _, _ => none
    else if h : as = 0 ∧ swLc sc y py lpos scope = false then
      match hk : sc.names.lookup y, slotOf N y, trLc R sc elt tg iter ifs scope with
      | some .local, some i, some r => some ⟨.asg (.nm i.1) (.lc r.1.m r.1.g r.1.it r.1.cs ((ownOf N scope).map (·.2))), fun T cf X c => by
          obtain ⟨rfl, hs⟩ := h
          obtain ⟨h1, h2, h3, h4, h5, h6, h7⟩ := r.2 _ _ X c.toCxt
          exact ms_set (by rw [c.hN]; exact c.nd) (by rw [c.hN]; exact i.2) (.inl (c.loc y hk)) (.inr (c.loc y hk)) (me_lc c.calm (by rw [c.hN]; exact c.nd) h1 h2 h3 h4 h5 h6 h7) (by rw [sw_lc _ _ _ _ _ _ _ _ (by rw [c.bk]; rfl), c.scp, hs])⟩
      | some .cell, some i, some r => some ⟨.asg (.nm i.1) (.lc r.1.m r.1.g r.1.it r.1.cs ((ownOf N scope).map (·.2))), fun T cf X c => by
          obtain ⟨rfl, hs⟩ := h
          obtain ⟨h1, h2, h3, h4, h5, h6, h7⟩ := r.2 _ _ X c.toCxt
          exact ms_set (by rw [c.hN]; exact c.nd) (by rw [c.hN]; exact i.2) (.inr (c.cel y hk)) (.inl (c.fnc y hk)) (me_lc c.calm (by rw [c.hN]; exact c.nd) h1 h2 h3 h4 h5 h6 h7) (by rw [sw_lc _ _ _ _ _ _ _ _ (by rw [c.bk]; rfl), c.scp, hs])⟩
      | _, _, _ => none
    else none
  | e =>
    if h : notComp e = true then
      match hk : sc.names.lookup y, slotOf N y, R.e sc e with
      | some .local, some i, some m => some ⟨.asg (.nm i.1) m.1, fun T cf X c => ms_set (by rw [c.hN]; exact c.nd) (by rw [c.hN]; exact i.2) (.inl (c.loc y hk)) (.inr (c.loc y hk)) (m.2 _ _ X c.toCxt) (swaps_of h _ _ _)⟩
      | some .cell, some i, some m => some ⟨.asg (.nm i.1) m.1, fun T cf X c => ms_set (by rw [c.hN]; exact c.nd) (by rw [c.hN]; exact i.2) (.inr (c.cel y hk)) (.inl (c.fnc y hk)) (m.2 _ _ X c.toCxt) (swaps_of h _ _ _)⟩
      | _, _, _ => none
    else none
def trAsgT (ts : List Expr) (k : Nat) (p : Pos) (pos : Pos) : (e : Expr) → Option (OkS G N sc (.Assign [.Tuple ts k p] e pos))
  | .Tuple vs k2 p2 =>
    match hw : swV (fun x => sc.names.lookup x) ts vs with
    | some none => match trG G N 8 sc (.Tuple ts k p), R.e sc (.Tuple vs k2 p2) with
      | some g, some m => some ⟨.asg g.1 m.1, fun T cf X c => ms_asg (g.2 _ _ X c.toCxt) (m.2 _ _ X c.toCxt) ((swaps_sole _ _ _ _).trans (swaps_tup _ _ _ _ _)) (swV_ok (by rw [c.bk]; rfl) (by unfold Env.kindOf; rw [c.scp]; exact hw)) rfl⟩
      | _, _ => none
    | some (some names) => match ts, vs with
      | [.Name x px, .Name y py], [a, b] =>
        match slotOf N x, slotOf N y, trEs R sc [a, b] with
        | some i, some j, some ⟨.cons ma (.cons mb .nil), hm⟩ =>
          if h : names = [x, y] ∧ i.1 ≠ j.1 ∧ sc.names.lookup x = some .local ∧ sc.names.lookup y = some .local then
            some ⟨.asg (.tp [.nm i.1, .nm j.1]) (.tup (.cons ma (.cons mb .nil))), fun T cf X c => by
              obtain ⟨rfl, h1, h2, h3⟩ := h
              exact ms_par2 c.calm (by rw [c.hN]; exact c.nd) (by rw [c.hN]; exact i.2) (by rw [c.hN]; exact j.2) h1 (c.loc _ h2) (c.loc _ h3) (hm.2 _ _ X c.toCxt) (swV_ok (by rw [c.bk]; rfl) (by unfold Env.kindOf; rw [c.scp]; exact hw))⟩
          else none
        | _, _, _ => none
      | [.Name x px, .Name y py, .Name z pz], [a, b, d] =>
        match slotOf N x, slotOf N y, slotOf N z, trEs R sc [a, b, d] with
        | some i, some j, some l, some ⟨.cons ma (.cons mb (.cons mc .nil)), hm⟩ =>
          if h : names = [x, y, z] ∧ i.1 ≠ j.1 ∧ i.1 ≠ l.1 ∧ j.1 ≠ l.1 ∧ sc.names.lookup x = some .local ∧ sc.names.lookup y = some .local ∧ sc.names.lookup z = some .local then
            some ⟨.asg (.tp [.nm i.1, .nm j.1, .nm l.1]) (.tup (.cons ma (.cons mb (.cons mc .nil)))), fun T cf X c => by
              obtain ⟨rfl, h1, h2, h3, h4, h5, h6⟩ := h
              exact ms_par3 c.calm (by rw [c.hN]; exact c.nd) (by rw [c.hN]; exact i.2) (by rw [c.hN]; exact j.2) (by rw [c.hN]; exact l.2) h1 h2 h3 (c.loc _ h4) (c.loc _ h5) (c.loc _ h6) (hm.2 _ _ X c.toCxt) (swV_ok (by rw [c.bk]; rfl) (by unfold Env.kindOf; rw [c.scp]; exact hw))⟩
          else none
        | _, _, _, _ => none
      | _, _ => none
    | none => none
  | e => if h : notTup e = true then match trG G N 8 sc (.Tuple ts k p), R.e sc e with
      | some g, some m => some ⟨.asg g.1 m.1, fun T cf X c => ms_asg (g.2 _ _ X c.toCxt) (m.2 _ _ X c.toCxt) ((swaps_sole _ _ _ _).trans (swaps_tup _ _ _ _ _)) (sw_notTup h X.env) rfl⟩
      | _, _ => none
    else none
def trStm : (st : Stmt) → Option (OkS G N sc st)
  | .Pass pos => some ⟨.pass, fun T cf X c => ms_pass⟩
  | .Break pos => some ⟨.brk, fun T cf X c => ms_brk⟩
  | .Continue pos => some ⟨.cnt, fun T cf X c => ms_cnt⟩
  | .Raise a b pos => some ⟨.stuck, fun T cf X c => ms_stuck⟩
  | .Expr e pos => if h : notComp e = true then (R.e sc e).map fun m => ⟨.ex m.1, fun T cf X c => ms_ex (m.2 _ _ X c.toCxt) (swaps_of h _ _ _)⟩ else none
  | .Return none pos => some ⟨.retN, fun T cf X c => ms_retN⟩
  | .Return (some e) pos => (R.e sc e).map fun m => ⟨.ret m.1, fun T cf X c => ms_ret (m.2 _ _ X c.toCxt)⟩
  | .If e a b pos => match R.t sc e, Q a, Q b with
    | some m, some ma, some mb => some ⟨.ifs m.1 ma.1 mb.1, fun T cf X c => ms_if (m.2 _ _ X c.toCxt) (ma.2 _ _ X c) (mb.2 _ _ X c)⟩
    | _, _, _ => none
  | .While e b [] pos => match R.t sc e, Q b with
    | some m, some mb => some ⟨.wh m.1 mb.1, fun T cf X c => ms_wh c.own (m.2 _ _ X c.toCxt) (mb.2 _ _ X c)⟩
    | _, _ => none
  | .For tg it b [] pos =>
    if h : notSet it = true then
      match trG G N 8 sc tg, trIt R sc tg it, Q b with
      | some g, some mi, some mb => some ⟨.fr g.1 mi.1 mb.1, fun T cf X c => ms_fr c.own c.calm (mi.2 _ _ X c.toCxt) (g.2 _ _ X c.toCxt) (mb.2 _ _ X c) (folded_of h X.env)⟩
      | _, _, _ => none
    else none
  | .Assign [.Name y py] e pos => trAsgN R y py pos e
  | .Assign [.Tuple ts k p] e pos => trAsgT R ts k p pos e
  | .Assign [.Subscript o i p] e pos => match R.e sc e, R.e sc o, R.e sc i with
    | some m, some mo, some mi => some ⟨.put mo.1 mi.1 m.1, fun T cf X c => ms_put c.u1 (m.2 _ _ X c.toCxt) (mo.2 _ _ X c.toCxt) (mi.2 _ _ X c.toCxt) (swaps_sub _ _ _ _ _)⟩
    | _, _, _ => none
  | _ => none
def trSeq : (sts : List Stmt) → Option (OkSs G N sc sts)
  | [] => some ⟨.nil, fun T cf X c => ms_nil⟩
  | st :: sts => match trStm R Q st, trSeq sts with
    | some m, some ms => some ⟨.cons m.1 ms.1, fun T cf X c => ms_cons (m.2 _ _ X c) (ms.2 _ _ X c)⟩
    | _, _ => none
end
def trSs (G : Gd) (N : List Str) (sc : Scope) : Nat → (sts : List Stmt) → Option (OkSs G N sc sts)
  | 0, _ => none
  | n + 1, sts => trSeq (trR G N 30) (trSs G N sc n) sts
end Mn
end

section
set_option maxHeartbeats 2000000
namespace Mn
open PySem
mutual
def Gt.eqb : Gt → Gt → Bool
  | .nm i, g => (match g with | .nm j => i == j | _ => false)
  | .tp xs, g => (match g with | .tp ys => Gt.eqbs xs ys | _ => false)
def Gt.eqbs : List Gt → List Gt → Bool
  | [], ys => ys.isEmpty
  | x :: xs, ys => (match ys with | y :: ys => Gt.eqb x y && Gt.eqbs xs ys | [] => false)
end
mutual
def E.eqb : E → E → Bool
  | .var i, e => (match e with | .var j => i == j | _ => false)
  | .int i, e => (match e with | .int j => i == j | _ => false)
  | .bl i, e => (match e with | .bl j => i == j | _ => false)
  | .non, e => (match e with | .non => true | _ => false)
  | .str x, e => (match e with | .str y => x == y | _ => false)
  | .glob x, e => (match e with | .glob y => x == y | _ => false)
  | .bin o a b, e => (match e with | .bin p c d => decide (o = p) && (E.eqb a c && E.eqb b d) | _ => false)
  | .neg a, e => (match e with | .neg c => E.eqb a c | _ => false)
  | .not a, e => (match e with | .not c => E.eqb a c | _ => false)
  | .cmp o a b, e => (match e with | .cmp p c d => decide (o = p) && (E.eqb a c && E.eqb b d) | _ => false)
  | .cmp2 o o' a b f, e => (match e with | .cmp2 p p' c d g => decide (o = p) && (decide (o' = p') && (E.eqb a c && (E.eqb b d && E.eqb f g))) | _ => false)
  | .and a, e => (match e with | .and c => Es.eqb a c | _ => false)
  | .or a, e => (match e with | .or c => Es.eqb a c | _ => false)
  | .ite a b f, e => (match e with | .ite c d g => E.eqb a c && (E.eqb b d && E.eqb f g) | _ => false)
  | .tup a, e => (match e with | .tup c => Es.eqb a c | _ => false)
  | .lst a, e => (match e with | .lst c => Es.eqb a c | _ => false)
  | .dT, e => (match e with | .dT => true | _ => false)
  | .dK, e => (match e with | .dK => true | _ => false)
  | .ix a b, e => (match e with | .ix c d => E.eqb a c && E.eqb b d | _ => false)
  | .sl a b f, e => (match e with | .sl c d g => E.eqb a c && (Eo.eqb b d && Eo.eqb f g) | _ => false)
  | .rev a, e => (match e with | .rev c => E.eqb a c | _ => false)
  | .call x a, e => (match e with | .call y c => decide (x = y) && Es.eqb a c | _ => false)
  | .callk x a ks ka, e => (match e with | .callk y c ls kc => decide (x = y) && (Es.eqb a c && (decide (ks = ls) && Es.eqb ka kc)) | _ => false)
  | .bi b a, e => (match e with | .bi d c => decide (b = d) && Es.eqb a c | _ => false)
  | .me m a b, e => (match e with | .me n c d => decide (m = n) && (E.eqb a c && Es.eqb b d) | _ => false)
  | .lc a g i cs own, e => (match e with | .lc c h j ds pwn => E.eqb a c && (Gt.eqb g h && (It.eqb i j && (Es.eqb cs ds && decide (own = pwn)))) | _ => false)
def Es.eqb : Es → Es → Bool
  | .nil, e => (match e with | .nil => true | _ => false)
  | .cons a as, e => (match e with | .cons b bs => E.eqb a b && Es.eqb as bs | _ => false)
def Eo.eqb : Eo → Eo → Bool
  | .none, e => (match e with | .none => true | _ => false)
  | .some a, e => (match e with | .some b => E.eqb a b | _ => false)
def It.eqb : It → It → Bool
  | .ex a, e => (match e with | .ex b => E.eqb a b | _ => false)
  | .range a, e => (match e with | .range b => Es.eqb a b | _ => false)
  | .enum a, e => (match e with | .enum b => E.eqb a b | _ => false)
  | .zip a b, e => (match e with | .zip c d => E.eqb a c && E.eqb b d | _ => false)
  | .rev a, e => (match e with | .rev b => E.eqb a b | _ => false)
end
mutual
def S.eqb : S → S → Bool
  | .pass, e => (match e with | .pass => true | _ => false)
  | .ex a, e => (match e with | .ex b => E.eqb a b | _ => false)
  | .asg g a, e => (match e with | .asg h b => Gt.eqb g h && E.eqb a b | _ => false)
  | .put a b c, e => (match e with | .put d f g => E.eqb a d && (E.eqb b f && E.eqb c g) | _ => false)
  | .ret a, e => (match e with | .ret b => E.eqb a b | _ => false)
  | .retN, e => (match e with | .retN => true | _ => false)
  | .ifs a b c, e => (match e with | .ifs d f g => E.eqb a d && (Ss.eqb b f && Ss.eqb c g) | _ => false)
  | .wh a b, e => (match e with | .wh d f => E.eqb a d && Ss.eqb b f | _ => false)
  | .fr g i b, e => (match e with | .fr h j c => Gt.eqb g h && (It.eqb i j && Ss.eqb b c) | _ => false)
  | .brk, e => (match e with | .brk => true | _ => false)
  | .cnt, e => (match e with | .cnt => true | _ => false)
  | .stuck, e => (match e with | .stuck => true | _ => false)
def Ss.eqb : Ss → Ss → Bool
  | .nil, e => (match e with | .nil => true | _ => false)
  | .cons a as, e => (match e with | .cons b bs => S.eqb a b && Ss.eqb as bs | _ => false)
end
mutual
theorem Gt.eqb_ok : ∀ {a b : Gt}, Gt.eqb a b = true → a = b
  | .nm i, b, h => by
    unfold Gt.eqb at h
    split at h
    · rw [eq_of_beq h]
    · cases h
  | .tp xs, b, h => by
    unfold Gt.eqb at h
    split at h
    · rw [Gt.eqbs_ok h]
    · cases h
theorem Gt.eqbs_ok : ∀ {a b : List Gt}, Gt.eqbs a b = true → a = b
  | [], b, h => by
    cases b with
    | nil => rfl
    | cons y ys => cases h
  | x :: xs, b, h => by
    unfold Gt.eqbs at h
    split at h
    · simp only [Bool.and_eq_true] at h
      rw [Gt.eqb_ok h.1, Gt.eqbs_ok h.2]
    · cases h
end
mutual
theorem E.eqb_ok : ∀ {a b : E}, E.eqb a b = true → a = b
  | .var i, b, h => by unfold E.eqb at h; split at h; (· rw [eq_of_beq h]); (· cases h)
  | .int i, b, h => by unfold E.eqb at h; split at h; (· rw [eq_of_beq h]); (· cases h)
  | .bl i, b, h => by unfold E.eqb at h; split at h; (· rw [eq_of_beq h]); (· cases h)
  | .non, b, h => by unfold E.eqb at h; split at h; (· rfl); (· cases h)
  | .str x, b, h => by unfold E.eqb at h; split at h; (· rw [eq_of_beq h]); (· cases h)
  | .glob x, b, h => by unfold E.eqb at h; split at h; (· rw [eq_of_beq h]); (· cases h)
  | .bin o a c, b, h => by
    unfold E.eqb at h; split at h
    · simp only [Bool.and_eq_true, decide_eq_true_eq] at h; obtain ⟨rfl, h1, h2⟩ := h; rw [E.eqb_ok h1, E.eqb_ok h2]
    · cases h
  | .neg a, b, h => by
    unfold E.eqb at h; split at h
    · rw [E.eqb_ok h]
    · cases h
  | .not a, b, h => by
    unfold E.eqb at h; split at h
    · rw [E.eqb_ok h]
    · cases h
  | .cmp o a c, b, h => by
    unfold E.eqb at h; split at h
    · simp only [Bool.and_eq_true, decide_eq_true_eq] at h; obtain ⟨rfl, h1, h2⟩ := h; rw [E.eqb_ok h1, E.eqb_ok h2]
    · cases h
  | .cmp2 o o' a c d, b, h => by
    unfold E.eqb at h; split at h
    · simp only [Bool.and_eq_true, decide_eq_true_eq] at h; obtain ⟨rfl, rfl, h1, h2, h3⟩ := h; rw [E.eqb_ok h1, E.eqb_ok h2, E.eqb_ok h3]
    · cases h
  | .and a, b, h => by
    unfold E.eqb at h; split at h
    · rw [Es.eqb_ok h]
    · cases h
  | .or a, b, h => by
    unfold E.eqb at h; split at h
    · rw [Es.eqb_ok h]
    · cases h
  | .ite a c d, b, h => by
    unfold E.eqb at h; split at h
    · simp only [Bool.and_eq_true] at h; rw [E.eqb_ok h.1, E.eqb_ok h.2.1, E.eqb_ok h.2.2]
    · cases h
  | .tup a, b, h => by
    unfold E.eqb at h; split at h
    · rw [Es.eqb_ok h]
    · cases h
  | .lst a, b, h => by
    unfold E.eqb at h; split at h
    · rw [Es.eqb_ok h]
    · cases h
  | .dT, b, h => by unfold E.eqb at h; split at h; (· rfl); (· cases h)
  | .dK, b, h => by unfold E.eqb at h; split at h; (· rfl); (· cases h)
  | .ix a c, b, h => by
    unfold E.eqb at h; split at h
    · simp only [Bool.and_eq_true] at h; rw [E.eqb_ok h.1, E.eqb_ok h.2]
    · cases h
  | .sl a c d, b, h => by
    unfold E.eqb at h; split at h
    · simp only [Bool.and_eq_true] at h; rw [E.eqb_ok h.1, Eo.eqb_ok h.2.1, Eo.eqb_ok h.2.2]
    · cases h
  | .rev a, b, h => by
    unfold E.eqb at h; split at h
    · rw [E.eqb_ok h]
    · cases h
  | .call x a, b, h => by
    unfold E.eqb at h; split at h
    · simp only [Bool.and_eq_true, decide_eq_true_eq] at h; obtain ⟨rfl, h1⟩ := h; rw [Es.eqb_ok h1]
    · cases h
  | .callk x a ks ka, b, h => by
    unfold E.eqb at h; split at h
    · simp only [Bool.and_eq_true, decide_eq_true_eq] at h; obtain ⟨rfl, h1, rfl, h2⟩ := h; rw [Es.eqb_ok h1, Es.eqb_ok h2]
    · cases h
  | .bi x a, b, h => by
    unfold E.eqb at h; split at h
    · simp only [Bool.and_eq_true, decide_eq_true_eq] at h; obtain ⟨rfl, h1⟩ := h; rw [Es.eqb_ok h1]
    · cases h
  | .me m a c, b, h => by
    unfold E.eqb at h; split at h
    · simp only [Bool.and_eq_true, decide_eq_true_eq] at h; obtain ⟨rfl, h1, h2⟩ := h; rw [E.eqb_ok h1, Es.eqb_ok h2]
    · cases h
  | .lc a g i cs own, b, h => by
    unfold E.eqb at h; split at h
    · simp only [Bool.and_eq_true, decide_eq_true_eq] at h; obtain ⟨h1, h2, h3, h4, rfl⟩ := h; rw [E.eqb_ok h1, Gt.eqb_ok h2, It.eqb_ok h3, Es.eqb_ok h4]
    · cases h
theorem Es.eqb_ok : ∀ {a b : Es}, Es.eqb a b = true → a = b
  | .nil, b, h => by unfold Es.eqb at h; split at h; (· rfl); (· cases h)
  | .cons a as, b, h => by
    unfold Es.eqb at h; split at h
    · simp only [Bool.and_eq_true] at h; rw [E.eqb_ok h.1, Es.eqb_ok h.2]
    · cases h
theorem Eo.eqb_ok : ∀ {a b : Eo}, Eo.eqb a b = true → a = b
  | .none, b, h => by unfold Eo.eqb at h; split at h; (· rfl); (· cases h)
  | .some a, b, h => by
    unfold Eo.eqb at h; split at h
    · rw [E.eqb_ok h]
    · cases h
theorem It.eqb_ok : ∀ {a b : It}, It.eqb a b = true → a = b
  | .ex a, b, h => by
    unfold It.eqb at h; split at h
    · rw [E.eqb_ok h]
    · cases h
  | .range a, b, h => by
    unfold It.eqb at h; split at h
    · rw [Es.eqb_ok h]
    · cases h
  | .enum a, b, h => by
    unfold It.eqb at h; split at h
    · rw [E.eqb_ok h]
    · cases h
  | .zip a c, b, h => by
    unfold It.eqb at h; split at h
    · simp only [Bool.and_eq_true] at h; rw [E.eqb_ok h.1, E.eqb_ok h.2]
    · cases h
  | .rev a, b, h => by
    unfold It.eqb at h; split at h
    · rw [E.eqb_ok h]
    · cases h
end
mutual
theorem S.eqb_ok : ∀ {a b : S}, S.eqb a b = true → a = b
  | .pass, b, h => by unfold S.eqb at h; split at h; (· rfl); (· cases h)
  | .ex a, b, h => by
    unfold S.eqb at h; split at h
    · rw [E.eqb_ok h]
    · cases h
  | .asg g a, b, h => by
    unfold S.eqb at h; split at h
    · simp only [Bool.and_eq_true] at h; rw [Gt.eqb_ok h.1, E.eqb_ok h.2]
    · cases h
  | .put a c d, b, h => by
    unfold S.eqb at h; split at h
    · simp only [Bool.and_eq_true] at h; rw [E.eqb_ok h.1, E.eqb_ok h.2.1, E.eqb_ok h.2.2]
    · cases h
  | .ret a, b, h => by
    unfold S.eqb at h; split at h
    · rw [E.eqb_ok h]
    · cases h
  | .retN, b, h => by unfold S.eqb at h; split at h; (· rfl); (· cases h)
  | .ifs a c d, b, h => by
    unfold S.eqb at h; split at h
    · simp only [Bool.and_eq_true] at h; rw [E.eqb_ok h.1, Ss.eqb_ok h.2.1, Ss.eqb_ok h.2.2]
    · cases h
  | .wh a c, b, h => by
    unfold S.eqb at h; split at h
    · simp only [Bool.and_eq_true] at h; rw [E.eqb_ok h.1, Ss.eqb_ok h.2]
    · cases h
  | .fr g i c, b, h => by
    unfold S.eqb at h; split at h
    · simp only [Bool.and_eq_true] at h; rw [Gt.eqb_ok h.1, It.eqb_ok h.2.1, Ss.eqb_ok h.2.2]
    · cases h
  | .brk, b, h => by unfold S.eqb at h; split at h; (· rfl); (· cases h)
  | .cnt, b, h => by unfold S.eqb at h; split at h; (· rfl); (· cases h)
  | .stuck, b, h => by unfold S.eqb at h; split at h; (· rfl); (· cases h)
theorem Ss.eqb_ok : ∀ {a b : Ss}, Ss.eqb a b = true → a = b
  | .nil, b, h => by unfold Ss.eqb at h; split at h; (· rfl); (· cases h)
  | .cons a as, b, h => by
    unfold Ss.eqb at h; split at h
    · simp only [Bool.and_eq_true] at h; rw [S.eqb_ok h.1, Ss.eqb_ok h.2]
    · cases h
end
open PySem.Spec PyProof.Rows L2
def chk (G : Gd) (N : List Str) (sc : Scope) (body : List Stmt) (m : Ss) : Bool := match trSs G N sc 12 body with
  | some r => Ss.eqb r.1 m
  | none => false
theorem chk_ok {G : Gd} {N : List Str} {sc : Scope} {body : List Stmt} {m : Ss} (h : chk G N sc body m = true) : ∀ T cf X, CxtS G T cf N sc X → PSs X body (tSs X.K T cf m) := by
  unfold chk at h
  split at h
  · rename_i r hr
    rw [← Ss.eqb_ok h]
    exact r.2
  · cases h
end Mn
end

section
set_option maxHeartbeats 2000000
namespace Mn
open PySem PySem.Spec PyProof.Rows L2
section
variable {P : Program} {w : World} {K : PySem.W.Frag} {mg : Str → Option Value} {base : Heap}
theorem fn_g {k : Nat} {a : Addr} {x qual : Str} {prm : Arguments} {body : List Stmt} {sc : Scope} {dfl kwd dc pm code ct ocls : Value} {an od : Option Addr} {osl : Array (Option Value)} {N ps : List Str} {sp : Sp}
    (there : K.lookup a = some ⟨ocls, od, .func (PySem.W.fnOf x qual prm body sc dfl kwd dc pm an code ct), osl⟩) (hcode : PySem.W.codeIn K code qual = true) (fs : FnScope N ps sc) (hlen : ∀ vs H Q E, sp vs H Q E → vs.length = ps.length)
    (does : ∀ (A : Around) (outer : List Env) (s : Shared) (H : Hp) (vs : List V) (Q : VK), Room k (A.deeper (envOfC qual sc s.heap.objs.size a code)) → A.guards = some [] → sp vs H Q E0 →
      ∃ t, PSs (cxOf CX0 P w K mg base N qual sc a code A outer s H E0) body t ∧ t { nx := fun _ H' => Q .non H', rt := Q } (start N vs) H) :
    FnG P w K mg base (k + 1) a (PySem.W.fnOf x qual prm body sc dfl kwd dc pm an code ct) ps sp where
  len := hlen
  go := fun A outer s H args us vs Q room hgu e0 hb rv hsp => by
    have inK : K.In s.heap := e0.mod.kin.keeps (fun b o e => (e0.bs b o e).1)
    have free : s.heap.NoLimit := e0.mod.nolimit.keeps (fun b o e => (e0.bs b o e).1)
    have places : ∀ y ∈ ps.zip us, sc.names.lookup y.1 = some .local ∨
        (sc.names.lookup y.1 = some .cell ∧ ((cellsFrom (s.heap.objs.size + 1) sc.names []).lookup y.1).isSome = true) := by
      intro y hy
      have hp := (List.of_mem_zip (a := y.1) (b := y.2) hy).1
      rcases fs.par _ hp with q | q
      · exact .inl q
      · exact .inr ⟨q, PySem.W.cellsFrom_some _ _ _ (.inl q)⟩
    refine codeAny_call_function room.depth (inK _ _ there) rfl fs.co fs.gen rfl
      (PySem.W.codeRec_of inK hcode) (hb _ _ _ _ ?_)
    refine wpAny_newFunctionEnv_cells fs.kind places ?_
    intro env henv s1 inCall
    subst henv
    refine ⟨free.keeps inCall.toInCall.keep, codeAny_func ?_⟩
    obtain ⟨t, ht, hq⟩ := does A outer s H vs Q (room.deeper _) hgu hsp
    have I := inv_start (CX := CX0) (E := E0) (N := N) fs room.hd e0 (hlen _ _ _ _ hsp) rv inCall
    refine wpAny_mono (ht.run [] s1 (start N vs) H _ I hq) ?_ (fun e s' hs => hs)
    intro fl s' hs
    cases fl with
    | brk => exact hs.elim fun _ h => h.elim fun _ h => h.2.elim
    | cont => exact hs.elim fun _ h => h.elim fun _ h => h.2.elim
    | next =>
      obtain ⟨σ', H', J, q⟩ := hs
      exact ⟨.non, H', J.os, J.bare, J.base, J.hok, rfl, q⟩
    | ret u =>
      obtain ⟨v, σ', H', J, r, q⟩ := hs
      exact ⟨v, H', J.os, J.bare, J.base, J.hok, r, q⟩

structure DefOk (G : Gd) (T : Tb) (K : PySem.W.Frag) (mg : Str → Option Value) (x : Str) (F : Fn) where
  a : Addr
  fd : FuncData
  qual : Str
  prm : Arguments
  body : List Stmt
  sc : Scope
  N : List Str
  ps : List Str
  hm : mg x = some (.ref a)
  fun_ : FunD K x qual prm body sc [] [] a fd
  fs : FnScope N ps sc
  nl : N.length = F.nl
  np : ps.length = F.np
  bs : Binds K fd ps []
  kw : ∀ n ks pm, T.kws.lookup (x, n, ks) = some pm → KwB K fd ps n ks pm
  ck : chk G N sc body F.body = true

theorem repE_start {K : PySem.W.Frag} {f : List Addr} {H : Hp} {ds : List D} {vs : List V} (r : Reps K f H ds vs) {N : List Str} {nl np : Nat} (h1 : N.length = nl) (h2 : ds.length = np) : RepE K f H (ds.map some ++ List.replicate (nl - np) none) (start N vs) := by
  have hl := r.length
  unfold L2.start
  refine ⟨by simp [h1, ← hl, h2], fun i d e => ?_⟩
  by_cases hi : i < ds.length
  · rw [List.getElem?_append_left (by simpa using hi), List.getElem?_map] at e
    cases hd : ds[i]? with
    | none => rw [hd] at e; cases e
    | some d' =>
      rw [hd] at e
      cases e
      obtain ⟨v, hv, rv⟩ := r.get hd
      refine ⟨v, ?_, rv⟩
      rw [List.getElem?_append_left (by simp; omega), List.getElem?_map, hv]
      rfl
  · rw [List.getElem?_append_right (by simpa using hi), List.getElem?_replicate] at e
    split at e <;> cases e

theorem fn_step {G : Gd} {T : Tb} {n : Nat} {x : Str} {F : Fn} (ih : Facts G T (callF T n) n P w K mg base) (hF : T.fns.lookup x = some F) (d : DefOk G T K mg x F) : FnG P w K mg base (n + 1) d.a d.fd d.ps (prom (callF T (n + 1)) K x) := by
  obtain ⟨ocls, od, dV, kV, dc, pm, an, code, ct, osl, e, there, hcode, _, _⟩ := d.fun_.ex
  rw [e] at there ⊢
  refine fn_g there hcode d.fs (fun vs H Q E ⟨f, S, ds, d', S', rs, r, ee, k⟩ => ?_) fun A outer s H vs Q room hgu ⟨f, S, ds, d', S', rs, r, ee, k⟩ => ?_
  · simp only [callF, hF] at ee
    split at ee
    · rename_i hl
      rw [← r.length, hl, d.np]
    · cases ee
  · refine ⟨tSs K T (callF T n) F.body, PSs.nox ?_, ?_⟩
    · refine chk_ok d.ck T (callF T n) _ ⟨⟨rfl, rfl, d.fs.nd, fun _ h => h, fun _ h => h, fun _ h => .inl h, fun _ h => h, fun _ _ => rfl, ?_, hgu, n, room, ih⟩, rfl, d.fs.kind, PassesOwn.never⟩
      have := room.un
      show (A.deeper (envOfC d.qual d.sc s.heap.objs.size d.a code)).units + 200 < cLine
      omega
    · simp only [callF, hF] at ee
      split at ee
      · rename_i hl
        obtain ⟨⟨q, S1⟩, h1, ee⟩ := bindSome ee
        refine ⟨_, S, f, repE_start r d.nl hl, rs, q, S1, h1, ?_⟩
        cases q with
        | rt d1 =>
          simp only [Option.some.injEq] at ee
          have k' : KQ K f H (gc S d1 S1).2 (gc S d1 S1).1 Q := by rw [ee]; exact k
          exact k'.gcd rs Ext.refl
        | nx ρ =>
          simp only [Option.some.injEq] at ee
          have k' : KQ K f H (gc S .non S1).2 (gc S .non S1).1 Q := by rw [ee]; exact k
          exact fun σ f' H' x rs' re' => (k'.gcd rs Ext.refl) .non f' H' x rs' (by simp only [Rep])
        | bk ρ => cases ee
        | ct ρ => cases ee
      · cases ee
theorem facts_all {G : Gd} {T : Tb} (cons : ∀ x i, T.cons.lookup x = some i → ∃ t, mg x = some (.int i t)) (blt : ∀ x ∈ bltNames, mg x = none) (gcd : G.gcd = true → mg "gcd" = some (.builtin "math.gcd"))
    (hG : ∀ x ∈ G.fns, ∃ F, T.fns.lookup x = some F ∧ Nonempty (DefOk G T K mg x F)) : ∀ n, Facts G T (callF T n) n P w K mg base
  | 0 => ⟨cons, blt, gcd, fun x hx => by
      obtain ⟨F, hF, ⟨d⟩⟩ := hG x hx
      exact ⟨d.a, d.fd, d.ps, ⟨fun vs H Q E ⟨_, _, _, _, _, _, _, e, _⟩ => (nomatch e), fun _ _ _ _ _ _ _ _ _ _ _ _ _ ⟨_, _, _, _, _, _, _, e, _⟩ => (nomatch e)⟩, d.hm, d.fun_.kp, d.bs, d.kw⟩⟩
  | n + 1 => ⟨cons, blt, gcd, fun x hx => by
      obtain ⟨F, hF, ⟨d⟩⟩ := hG x hx
      exact ⟨d.a, d.fd, d.ps, fn_step (facts_all cons blt gcd hG n) hF d, d.hm, d.fun_.kp, d.bs, d.kw⟩⟩
end

section
variable {P : Program} {w : World} {K : PySem.W.Frag} {mg mb : Str → Option Value}
def entryH (K : PySem.W.Frag) (a : Addr) (vs : List Value) (ns : List Int) : Hp := fun b =>
  if b = a ∧ K.lookup a = none then some (.frz { cls := .type "list", data := .seq vs.toArray } (.lst (ns.map V.int))) else none
theorem entryH_some {a b : Addr} {vs : List Value} {ns : List Int} {u : HO} (h : entryH K a vs ns b = some u) : b = a ∧ K.lookup a = none ∧ u = .frz { cls := .type "list", data := .seq vs.toArray } (.lst (ns.map V.int)) := by
  unfold entryH at h
  split at h
  · rename_i hc
    cases h
    exact ⟨hc.1, hc.2, rfl⟩
  · cases h
theorem entryH_frl {a : Addr} {vs : List Value} {ns : List Int} {h : Heap} (KX : K.In h) (ha : h.get? a = some { cls := .type "list", data := .seq vs.toArray }) (hi : IntsAre vs ns) (hl : ns.length ≤ sizeLine) : FrL K (entryH K a vs ns) a (ns.map V.int) := by
  cases hk : K.lookup a with
  | none => exact .inl ⟨_, by unfold entryH; rw [if_pos ⟨rfl, hk⟩]⟩
  | some o =>
    have e := KX a o hk
    rw [ha] at e
    cases e
    refine .inr ⟨_, vs.toArray, _, hk, rfl, rfl, rfl, ?_, by simpa using vals_ints hi⟩
    rw [List.size_toArray, hi.length]
    exact hl
theorem law_end {k : Nat} {fa a : Addr} {fd : FuncData} {x : Str} {sp : Sp} {s : Shared} {vs : List Value} {ns : List Int} (KX : K.In s.heap) (hns : s.heap.Ns mainGlobals mg) (hb : s.heap.Ns builtinsNs mb) (hbb : ∀ x : Str, x ≠ "__name__" → mb x = bootBuiltins x) (hlim : s.heap.NoLimit)
    (hgens : s.gens = #[]) (ha : s.heap.get? a = some { cls := .type "list", data := .seq vs.toArray }) (hi : IntsAre vs ns) (hl : ns.length ≤ sizeLine) (room : Room k callerA)
    (F : ∀ base : Heap, K.In base → base.Ns mainGlobals mg → FnG P w K mg base k fa fd [x] sp) (hbind : BindsTo s fd ⟨[.ref a], []⟩ [(x, .ref a)])
    (hsp : ∀ H : Hp, FrL K H a (ns.map V.int) → sp [.ref a] H (fun v _ => v = .bl true) E0) :
    codeAny (model P w) callerA (.call (.ref fa) ⟨[.ref a], []⟩) (fun r s' => r = .ok (.ret (.bool true)) ∧ OldK s.heap s'.heap ∧ s'.os = s.os ∧ AllBare s'.gens) s := by
  have hfr := entryH_frl KX ha hi hl
  have hok : HOk P w (entryH K a vs ns) s.heap := by
    intro b u hu
    obtain ⟨rfl, hk, rfl⟩ := entryH_some hu
    exact ⟨ha, by rw [List.length_map]; exact hl, vs, _, vals_ints hi, ha⟩
  -- what is no list, or stands in the written part, is not tracked
  have keepK : ∀ {b : Addr} {o : Obj}, K.lookup b = some o → entryH K a vs ns b = none := by
    intro b o hb
    cases q : entryH K a vs ns b with
    | none => rfl
    | some u =>
      obtain ⟨rfl, hk, _⟩ := entryH_some q
      rw [hk] at hb
      cases hb
  have keepN : ∀ {b : Addr} {m : Str → Option Value}, s.heap.Ns b m → (hidT s.heap (entryH K a vs ns)).Ns b m := by
    rintro b m ⟨o, es, ep, e, hd, r⟩
    refine ⟨o, es, ep, hidT_get e ?_, hd, r⟩
    cases q : entryH K a vs ns b with
    | none => rfl
    | some u =>
      obtain ⟨rfl, _, _⟩ := entryH_some q
      rw [ha] at e
      cases e
      cases (show Data.seq vs.toArray _ = Data.dict es ep from hd)
  have inB : K.In (hidT s.heap (entryH K a vs ns)) := fun b o e => hidT_get (KX b o e) (keepK e)
  have md : Mod K mg (hidT s.heap (entryH K a vs ns)) := by
    obtain ⟨mc, h1, h2⟩ := hlim
    exact ⟨inB, keepN hns, ⟨mb, keepN hb, hbb⟩, ⟨mc, keepN h1, h2⟩⟩
  have none_mem : ∀ b : Addr, b ∉ frs ([] : List Env) := fun b hb => by cases hb
  have e0 : Env0 P w K mg (hidT s.heap (entryH K a vs ns)) callerA [] s (entryH K a vs ns) :=
    { frames := rfl, mod := md, bs := fun b o e => of_hidT e, bsz := Nat.le_of_eq (hidT_size _ _), funs := trivial,
      frf := fun b hb => (none_mem b hb).elim, hok := hok, bare := .of_eq hgens }
  refine codeAny_mono ((F _ inB (keepN hns)).go callerA [] s (entryH K a vs ns) ⟨[.ref a], []⟩ [.ref a] [.ref a] _ room rfl e0 hbind (.cons rfl .nil) (hsp _ hfr)) ?_
  intro r s' h
  cases r with
  | error e => exact h.elim
  | ok fl =>
    cases fl with
    | next => exact h.elim
    | brk => exact h.elim
    | cont => exact h.elim
    | ret u =>
      obtain ⟨v, H', os, bare, un, hok', rv, hv⟩ := h
      have hv' : v = .bl true := hv
      subst hv'
      have hu : u = Value.bool true := rv
      subst hu
      refine ⟨rfl, OldK.of_keep (fun b o e => ?_), os, bare⟩
      cases q : entryH K a vs ns b with
      | none => exact un.keep b o e q (none_mem b) (by simp)
      | some t =>
        obtain ⟨rfl, hk, rfl⟩ := entryH_some q
        have q' := un.frzs _ _ _ q
        have g1 := (hok _ _ q).1
        have g2 := (hok' _ _ q').1
        rw [g1] at e
        cases e
        exact g2
end
end Mn
end

section
set_option maxHeartbeats 2000000
namespace Mn
open PySem PySem.Spec PyProof.Rows L2
def hookM (n : Nat) (fa : List He.Fa) (fn : List He.DefD) (ex : PySem.W.Frag → Bool) : PySem.W.Hook where
  α := He.AlD × Bool
  obs := fun s => (He.obsDG n fa fn s.heap.get?, ex (He.frG s.heap.get? (He.asD s.heap.get? n)))
  val := fun _ => (He.valD fn, true)
  says := fun _ h => ∃ K : PySem.W.Frag, K.In h ∧ He.SaysD fa fn K ∧ ex K = true
  of := fun _ _ e => ⟨_, He.frG_in, congrArg Prod.fst e, congrArg Prod.snd e⟩
  keeps := fun _ _ _ ⟨K, hK, c⟩ k => ⟨K, PySem.W.Frag.In.keeps hK k, c⟩
def obM (n : Nat) (fa : List He.Fa) (fn : List He.DefD) (ex : PySem.W.Frag → Bool) (s : PySem.W.SharedT) : He.AlD × Bool := (He.obsDG n fa fn (HandSHeadRun.getT s), ex (He.frG (HandSHeadRun.getT s) (He.asD (HandSHeadRun.getT s) n)))
theorem obM_eq (n : Nat) (fa : List He.Fa) (fn : List He.DefD) (ex : PySem.W.Frag → Bool) (s : PySem.W.SharedT) : obM n fa fn ex s = (hookM n fa fn ex).obs s.abs := by
  have e : HandSHeadRun.getT s = s.abs.heap.get? := funext (HandSHeadRun.getT_eq s)
  unfold obM
  rw [e]
  rfl
def gcdB (K : PySem.W.Frag) : Bool := He.eqO (PySem.W.nsIn K mainGlobals "gcd") (some (some (.builtin "math.gcd")))
theorem gcdB_ok {K : PySem.W.Frag} {h : Heap} {mg : Str → Option Value} (X : K.In h) (G : h.Ns mainGlobals mg) (c : gcdB K = true) : mg "gcd" = some (.builtin "math.gcd") := PySem.W.mg_of X G (He.eqO_ok c)
theorem mem_lk {κ β : Type} [BEq κ] [LawfulBEq κ] {k : κ} {v : β} : ∀ {l : List (κ × β)}, l.lookup k = some v → (k, v) ∈ l
  | [], h => by cases h
  | (a, b) :: r, h => by
    rw [List.lookup_cons] at h
    split at h
    · rename_i hk
      cases h
      rw [eq_of_beq hk]
      exact List.mem_cons_self
    · exact List.mem_cons_of_mem _ (mem_lk h)
theorem kw_of {T : Tb} {x : Str} {K : PySem.W.Frag} {fd : FuncData} {ps : List Str} {l : List ((Str × Nat × List Str) × List Nat)} (h : T.kws.filter (fun q => decide (q.1.1 = x)) = l) (hl : ∀ q ∈ l, KwB K fd ps q.1.2.1 q.1.2.2 q.2) :
    ∀ n ks pm, T.kws.lookup (x, n, ks) = some pm → KwB K fd ps n ks pm := fun n ks pm e => by
  have hm := mem_lk e
  exact hl _ (by rw [← h]; exact List.mem_filter.mpr ⟨hm, by simp⟩)
theorem kw_no {T : Tb} {x : Str} {K : PySem.W.Frag} {fd : FuncData} {ps : List Str} (h : T.kws.filter (fun q => decide (q.1.1 = x)) = []) : ∀ n ks pm, T.kws.lookup (x, n, ks) = some pm → KwB K fd ps n ks pm :=
  kw_of h fun q hq => by cases hq
theorem kwN {K : PySem.W.Frag} {x qual : Str} {prm : Arguments} {body : List Stmt} {sc : Scope} {kws : List (Str × V)} {a : Addr} {fd : FuncData} {ps ks : List Str} {n : Nat} {pm : List Nat} (F : FunD K x qual prm body sc [] kws a fd)
    (h : ∀ (kV dc pv : Value) (an : Option Addr) (code ct : Value) (us ws : List Value), us.length = n → ws.length = ks.length →
      ∃ vs, pm.mapM (fun j => (us ++ ws)[j]?) = some vs ∧ bindArgs (PySem.W.fnOf x qual prm body sc .none kV dc pv an code ct) ⟨us, ks.zip ws⟩ = pure (ps.zip vs)) : KwB K fd ps n ks pm := by
  obtain ⟨oc, od, dV, kV, dc, pv, an, code, ct, osl, rfl, lk, hcd, hD, hK⟩ := F.ex
  rcases hD with ⟨_, rfl⟩ | ⟨e, _⟩
  · intro s us ws _ h1 h2
    obtain ⟨vs, h3, h4⟩ := h kV dc pv an code ct us ws h1 h2
    exact ⟨vs, h3, .of_eq h4⟩
  · exact absurd rfl e

theorem walk_mn {l : PySem.W.OpenLaw} {n k : Nat} {q : Program} {loose : List Str} {XP : (Str → Option Value) → Heap → Prop} {YP : World → Heap → Prop} {d : DefRec} {G : Gd} {T : Tb}
    (hn : l.most = some n) (hn2 : n ≤ sizeLine) (hdf : d.params.defaults = []) (hr : Room (k + 1) callerA) (hmem : d.name ∈ G.fns)
    (head : ∀ (w : World) (mg : Str → Option Value) (h : Heap), YP w h → h.Ns mainGlobals mg → ∃ K : PySem.W.Frag, K.In h ∧ (∀ x i, T.cons.lookup x = some i → ∃ t, mg x = some (.int i t)) ∧ (∀ x ∈ bltNames, mg x = none) ∧ (G.gcd = true → mg "gcd" = some (.builtin "math.gcd")) ∧
      ∀ x ∈ G.fns, ∃ F, T.fns.lookup x = some F ∧ Nonempty (DefOk G T K mg x F))
    (main : ∀ ns : List Int, ns.length ≤ n → (∀ i ∈ ns, Builtin.Int.intBits i ≤ 1048576) → ∃ S', callF T (k + 1) d.name [.frl (ns.map D.int)] [] = some (.bl true, S')) :
    PySem.W.WalkO q loose XP YP l.row.toRowW d [] (fun f vs => PySem.call f vs) := by
  refine Att.attach_callB hn hdf fun w s₀ s₁ mg mb fa o pm cd doc a vs ns Gr Y ho hd hcd hmg hobj hints hlen hbits hg => ?_
  obtain ⟨K, KX, hc, hb, hgc, hall⟩ := head w mg _ Y Gr.T.g
  obtain ⟨F, hF, ⟨Dd⟩⟩ := hall d.name hmem
  obtain ⟨S', e⟩ := main ns hlen hbits
  have ha : Dd.a = fa := by
    have e := Dd.hm
    rw [hmg] at e
    cases e
    rfl
  have h1 : Dd.ps.length = 1 := by
    have e' := e
    simp only [callF, hF] at e'
    split at e'
    · rename_i hl
      rw [Dd.np, ← hl]
      rfl
    · cases e'
  obtain ⟨x, hps⟩ : ∃ x, Dd.ps = [x] := by
    match Dd.ps, h1 with
    | [x], _ => exact ⟨x, rfl⟩
  have hbd := Dd.bs s₁ [.ref a] KX (by rw [h1]; rfl)
  rw [hps] at hbd
  refine law_end (sp := prom (callF T (k + 1)) K d.name) (x := x) (fd := Dd.fd) KX Gr.T.g Gr.T.b Gr.T.builtins Gr.T.nolimit hg hobj hints (Nat.le_trans hlen hn2) hr (fun base hKb hNs => ?_) hbd fun H hS => ?_
  · have q := fn_step (P := l.prog) (w := w) (base := base) (facts_all hc hb hgc hall k) hF Dd
    rw [ha, hps] at q
    exact q
  · refine ⟨[], [], [.frl (ns.map Mn.D.int)], .bl true, S', ⟨rfl, List.nodup_nil, fun n c z => by simp at z⟩, Reps.one (by
      simp only [Rep]
      refine ⟨a, ns.map V.int, rfl, hS, ?_⟩
      clear hS hlen hbits hints e
      induction ns with
      | nil => exact Reps.nil
      | cons i is ih => exact Reps.cons (by simp only [Rep]) ih), e, fun v f' H' _ _ r => r.blI⟩
end Mn
end

section
set_option maxHeartbeats 0
namespace L81
open PySem Mn
def b_common : Ss :=
    (.cons (.wh (.cmp .gt (.var 1) (.int 0)) (.cons (.asg (.tp [(.nm 0), (.nm 1)]) (.tup (.cons (.var 1) (.cons (.bin .mod (.var 0) (.var 1)) .nil))))
    .nil))
    (.cons (.ret (.var 0))
    .nil))
def b_whole_root : Ss :=
    (.cons (.ifs (.cmp .lt (.var 0) (.int 2)) (.cons (.ret (.var 0))
    .nil) .nil)
    (.cons (.asg (.nm 1) (.bin .shl (.int 1) (.bin .fdiv (.bin .add (.me .bits (.var 0) .nil) (.int 1)) (.int 2))))
    (.cons (.asg (.nm 2) (.bin .fdiv (.bin .add (.var 1) (.bin .fdiv (.var 0) (.var 1))) (.int 2)))
    (.cons (.wh (.cmp .lt (.var 2) (.var 1)) (.cons (.asg (.tp [(.nm 1), (.nm 2)]) (.tup (.cons (.var 2) (.cons (.bin .fdiv (.bin .add (.var 2) (.bin .fdiv (.var 0) (.var 2))) (.int 2)) .nil))))
    .nil))
    (.cons (.ret (.var 1))
    .nil)))))
def b_root_parts : Ss :=
    (.cons (.ifs (.cmp .eq (.var 0) (.int 0)) (.cons (.ret (.tup (.cons (.int 0) (.cons (.int 1) .nil))))
    .nil) .nil)
    (.cons (.asg (.tp [(.nm 2), (.nm 3), (.nm 4), (.nm 5)]) (.tup (.cons (.int 1) (.cons (.int 1) (.cons (.var 0) (.cons (.int 2) .nil))))))
    (.cons (.wh (.cmp .le (.bin .mul (.bin .mul (.var 5) (.var 5)) (.var 5)) (.var 4)) (.cons (.asg (.nm 6) (.int 0))
    (.cons (.wh (.cmp .eq (.bin .mod (.var 4) (.var 5)) (.int 0)) (.cons (.asg (.tp [(.nm 4), (.nm 6)]) (.tup (.cons (.bin .fdiv (.var 4) (.var 5)) (.cons (.bin .add (.var 6) (.int 1)) .nil))))
    .nil))
    (.cons (.fr (.nm 7) (.range (.cons (.bin .fdiv (.var 6) (.int 2)) .nil)) (.cons (.asg (.nm 2) (.bin .mul (.var 2) (.var 5)))
    .nil))
    (.cons (.asg (.nm 3) (.ite (.cmp .eq (.bin .mod (.var 6) (.int 2)) (.int 1)) (.bin .mul (.var 3) (.var 5)) (.var 3)))
    (.cons (.asg (.nm 5) (.ite (.cmp .eq (.var 5) (.int 2)) (.bin .add (.var 5) (.int 1)) (.bin .add (.var 5) (.int 2))))
    .nil))))))
    (.cons (.asg (.nm 1) (.call "whole_root" (.cons (.var 4) .nil)))
    (.cons (.ifs (.cmp .eq (.bin .mul (.var 1) (.var 1)) (.var 4)) (.cons (.ret (.tup (.cons (.bin .mul (.var 2) (.var 1)) (.cons (.var 3) .nil))))
    .nil) .nil)
    (.cons (.ret (.tup (.cons (.var 2) (.cons (.bin .mul (.var 3) (.var 4)) .nil))))
    .nil))))))
def b_lowest : Ss :=
    (.cons (.ifs (.cmp .lt (.var 2) (.int 0)) (.cons (.asg (.tp [(.nm 0), (.nm 1), (.nm 2)]) (.tup (.cons (.neg (.var 0)) (.cons (.neg (.var 1)) (.cons (.neg (.var 2)) .nil)))))
    .nil) .nil)
    (.cons (.asg (.nm 4) (.call "common" (.cons (.call "common" (.cons (.bi .abs (.cons (.var 0) .nil)) (.cons (.bi .abs (.cons (.var 1) .nil)) .nil))) (.cons (.var 2) .nil))))
    (.cons (.ret (.tup (.cons (.bin .fdiv (.var 0) (.var 4)) (.cons (.bin .fdiv (.var 1) (.var 4)) (.cons (.bin .fdiv (.var 2) (.var 4)) (.cons (.ite (.cmp .ne (.var 1) (.int 0)) (.var 3) (.int 0)) .nil))))))
    .nil)))
def b_surd_sum : Ss :=
    (.cons (.asg (.nm 2) (.bin .add (.bin .mul (.ix (.var 0) (.int 0)) (.ix (.var 1) (.int 2))) (.bin .mul (.ix (.var 1) (.int 0)) (.ix (.var 0) (.int 2)))))
    (.cons (.ret (.call "lowest" (.cons (.var 2) (.cons (.bin .add (.bin .mul (.ix (.var 0) (.int 1)) (.ix (.var 1) (.int 2))) (.bin .mul (.ix (.var 1) (.int 1)) (.ix (.var 0) (.int 2)))) (.cons (.bin .mul (.ix (.var 0) (.int 2)) (.ix (.var 1) (.int 2))) (.cons (.bi .max2 (.cons (.ix (.var 0) (.int 3)) (.cons (.ix (.var 1) (.int 3)) .nil))) .nil))))))
    .nil))
def b_surd_times : Ss :=
    (.cons (.asg (.nm 2) (.bi .max2 (.cons (.ix (.var 0) (.int 3)) (.cons (.ix (.var 1) (.int 3)) .nil))))
    (.cons (.asg (.nm 3) (.bin .add (.bin .mul (.ix (.var 0) (.int 0)) (.ix (.var 1) (.int 0))) (.bin .mul (.bin .mul (.ix (.var 0) (.int 1)) (.ix (.var 1) (.int 1))) (.var 2))))
    (.cons (.ret (.call "lowest" (.cons (.var 3) (.cons (.bin .add (.bin .mul (.ix (.var 0) (.int 0)) (.ix (.var 1) (.int 1))) (.bin .mul (.ix (.var 0) (.int 1)) (.ix (.var 1) (.int 0)))) (.cons (.bin .mul (.ix (.var 0) (.int 2)) (.ix (.var 1) (.int 2))) (.cons (.var 2) .nil))))))
    .nil)))
def b_surd_turned : Ss :=
    (.cons (.ret (.tup (.cons (.neg (.ix (.var 0) (.int 0))) (.cons (.neg (.ix (.var 0) (.int 1))) (.cons (.ix (.var 0) (.int 2)) (.cons (.ix (.var 0) (.int 3)) .nil))))))
    .nil)
def b_surd_back : Ss :=
    (.cons (.asg (.tp [(.nm 1), (.nm 2), (.nm 3), (.nm 4)]) (.var 0))
    (.cons (.ifs (.and (.cons (.cmp .eq (.var 1) (.int 0)) (.cons (.cmp .eq (.var 2) (.int 0)) .nil))) (.cons .stuck
    .nil) .nil)
    (.cons (.ret (.call "lowest" (.cons (.bin .mul (.var 3) (.var 1)) (.cons (.bin .mul (.neg (.var 3)) (.var 2)) (.cons (.bin .sub (.bin .mul (.var 1) (.var 1)) (.bin .mul (.bin .mul (.var 2) (.var 2)) (.var 4))) (.cons (.var 4) .nil))))))
    .nil)))
def b_other_root : Ss :=
    (.cons (.ret (.tup (.cons (.ix (.var 0) (.int 0)) (.cons (.neg (.ix (.var 0) (.int 1))) (.cons (.ix (.var 0) (.int 2)) (.cons (.ix (.var 0) (.int 3)) .nil))))))
    .nil)
def b_surd_sign : Ss :=
    (.cons (.asg (.tp [(.nm 1), (.nm 2), (.nm 3)]) (.tup (.cons (.ix (.var 0) (.int 0)) (.cons (.ix (.var 0) (.int 1)) (.cons (.ix (.var 0) (.int 3)) .nil)))))
    (.cons (.ifs (.and (.cons (.cmp .ge (.var 1) (.int 0)) (.cons (.cmp .ge (.var 2) (.int 0)) .nil))) (.cons (.ret (.ite (.cmp .gt (.bin .add (.var 1) (.var 2)) (.int 0)) (.int 1) (.int 0)))
    .nil) .nil)
    (.cons (.ifs (.and (.cons (.cmp .le (.var 1) (.int 0)) (.cons (.cmp .le (.var 2) (.int 0)) .nil))) (.cons (.ret (.neg (.int 1)))
    .nil) .nil)
    (.cons (.ret (.ite (.cmp .eq (.cmp .gt (.bin .mul (.var 1) (.var 1)) (.bin .mul (.bin .mul (.var 2) (.var 2)) (.var 3))) (.cmp .gt (.var 1) (.int 0))) (.int 1) (.neg (.int 1))))
    .nil))))
def b_surd_order : Ss :=
    (.cons (.ret (.call "surd_sign" (.cons (.call "surd_sum" (.cons (.var 0) (.cons (.call "surd_turned" (.cons (.var 1) .nil)) .nil))) .nil)))
    .nil)
def b_whole_part : Ss :=
    (.cons (.asg (.tp [(.nm 2), (.nm 3), (.nm 4), (.nm 5)]) (.var 0))
    (.cons (.asg (.nm 1) (.call "whole_root" (.cons (.bin .mul (.bin .mul (.var 3) (.var 3)) (.var 5)) .nil)))
    (.cons (.ret (.ite (.cmp .ge (.var 3) (.int 0)) (.bin .fdiv (.bin .add (.var 2) (.var 1)) (.var 4)) (.bin .fdiv (.bin .sub (.bin .sub (.var 2) (.var 1)) (.int 1)) (.var 4))))
    .nil)))
def b_last_fractions : Ss :=
    (.cons (.asg (.tp [(.nm 2), (.nm 3)]) (.tup (.cons (.tup (.cons (.int 1) (.cons (.int 0) .nil))) (.cons (.tup (.cons (.int 0) (.cons (.int 1) .nil))) .nil))))
    (.cons (.fr (.nm 1) (.ex (.var 0)) (.cons (.asg (.tp [(.nm 2), (.nm 3)]) (.tup (.cons (.var 3) (.cons (.tup (.cons (.bin .add (.bin .mul (.var 1) (.ix (.var 3) (.int 0))) (.ix (.var 2) (.int 0))) (.cons (.bin .add (.bin .mul (.var 1) (.ix (.var 3) (.int 1))) (.ix (.var 2) (.int 1))) .nil))) .nil))))
    .nil))
    (.cons (.ret (.tup (.cons (.var 2) (.cons (.var 3) .nil))))
    .nil)))
def b_slope_of : Ss :=
    (.cons (.asg (.tp [(.nm 4), (.nm 5)]) (.var 0))
    (.cons (.asg (.nm 1) (.tup (.cons (.int 0) (.cons (.int 0) (.cons (.int 1) (.cons (.int 0) .nil))))))
    (.cons (.ifs (.cmp .ne (.var 5) (.tup .nil)) (.cons (.asg (.tp [(.tp [(.nm 12), (.nm 13)]), (.tp [(.nm 14), (.nm 15)])]) (.call "last_fractions" (.cons (.var 5) .nil)))
    (.cons (.asg (.nm 6) (.call "common" (.cons (.call "common" (.cons (.var 13) (.cons (.bi .abs (.cons (.bin .sub (.var 15) (.var 12)) .nil)) .nil))) (.cons (.var 14) .nil))))
    (.cons (.asg (.tp [(.nm 7), (.nm 8), (.nm 9)]) (.tup (.cons (.bin .fdiv (.var 13) (.var 6)) (.cons (.bin .fdiv (.bin .sub (.var 15) (.var 12)) (.var 6)) (.cons (.bin .fdiv (.neg (.var 14)) (.var 6)) .nil)))))
    (.cons (.asg (.tp [(.nm 10), (.nm 11)]) (.call "root_parts" (.cons (.bin .sub (.bin .mul (.var 8) (.var 8)) (.bin .mul (.bin .mul (.int 4) (.var 7)) (.var 9))) .nil)))
    (.cons (.asg (.nm 1) (.call "lowest" (.cons (.neg (.var 8)) (.cons (.var 10) (.cons (.bin .mul (.int 2) (.var 7)) (.cons (.var 11) .nil))))))
    .nil))))) .nil)
    (.cons (.asg (.tp [(.tp [(.nm 12), (.nm 13)]), (.tp [(.nm 14), (.nm 15)])]) (.call "last_fractions" (.cons (.var 4) .nil)))
    (.cons (.asg (.nm 2) (.call "surd_sum" (.cons (.tup (.cons (.var 14) (.cons (.int 0) (.cons (.int 1) (.cons (.int 0) .nil))))) (.cons (.call "surd_times" (.cons (.tup (.cons (.var 12) (.cons (.int 0) (.cons (.int 1) (.cons (.int 0) .nil))))) (.cons (.var 1) .nil))) .nil))))
    (.cons (.asg (.nm 3) (.call "surd_sum" (.cons (.tup (.cons (.var 15) (.cons (.int 0) (.cons (.int 1) (.cons (.int 0) .nil))))) (.cons (.call "surd_times" (.cons (.tup (.cons (.var 13) (.cons (.int 0) (.cons (.int 1) (.cons (.int 0) .nil))))) (.cons (.var 1) .nil))) .nil))))
    (.cons (.ret (.call "surd_times" (.cons (.var 2) (.cons (.call "surd_back" (.cons (.var 3) .nil)) .nil))))
    .nil)))))))
def b_chain_of : Ss :=
    (.cons (.ifs (.or (.cons (.cmp .le (.call "surd_sign" (.cons (.var 0) .nil)) (.int 0)) (.cons (.cmp .ge (.call "surd_sign" (.cons (.call "surd_sum" (.cons (.var 0) (.cons (.tup (.cons (.neg (.int 1)) (.cons (.int 0) (.cons (.int 1) (.cons (.int 0) .nil))))) .nil))) .nil)) (.int 0)) .nil))) (.cons .stuck
    .nil) .nil)
    (.cons (.asg (.tp [(.nm 2), (.nm 3), (.nm 4)]) (.tup (.cons (.var 0) (.cons (.lst .nil) (.cons .dT .nil)))))
    (.cons (.wh (.and (.cons (.cmp .ne (.var 2) (.tup (.cons (.int 0) (.cons (.int 0) (.cons (.int 1) (.cons (.int 0) .nil)))))) (.cons (.cmp .notin (.var 2) (.var 4)) .nil))) (.cons (.ifs (.cmp .eq (.bi .len (.cons (.var 3) .nil)) (.glob "MAX_CHAINED")) (.cons .stuck
    .nil) .nil)
    (.cons (.put (.var 4) (.var 2) (.bi .len (.cons (.var 3) .nil)))
    (.cons (.asg (.nm 5) (.call "surd_back" (.cons (.var 2) .nil)))
    (.cons (.ex (.me .append (.var 3) (.cons (.call "whole_part" (.cons (.var 5) .nil)) .nil)))
    (.cons (.asg (.nm 2) (.call "surd_sum" (.cons (.var 5) (.cons (.tup (.cons (.neg (.ix (.var 3) (.neg (.int 1)))) (.cons (.int 0) (.cons (.int 1) (.cons (.int 0) .nil))))) .nil))))
    .nil))))))
    (.cons (.asg (.nm 1) (.me .get2 (.var 4) (.cons (.var 2) (.cons (.bi .len (.cons (.var 3) .nil)) .nil))))
    (.cons (.ret (.tup (.cons (.bi .tuple (.cons (.sl (.var 3) .none (.some (.var 1))) .nil)) (.cons (.bi .tuple (.cons (.sl (.var 3) (.some (.var 1)) .none) .nil)) .nil))))
    .nil)))))
def b_slope_equation : Ss :=
    (.cons (.asg (.tp [(.nm 2), (.nm 3), (.nm 4), (.nm 5)]) (.call "slope_of" (.cons (.var 0) .nil)))
    (.cons (.ifs (.cmp .eq (.var 5) (.int 0)) (.cons (.ret (.tup (.cons (.int 0) (.cons (.var 4) (.cons (.neg (.var 2)) .nil)))))
    .nil) .nil)
    (.cons (.asg (.tp [(.nm 6), (.nm 7), (.nm 8)]) (.tup (.cons (.bin .mul (.var 4) (.var 4)) (.cons (.bin .mul (.bin .mul (.neg (.int 2)) (.var 2)) (.var 4)) (.cons (.bin .sub (.bin .mul (.var 2) (.var 2)) (.bin .mul (.bin .mul (.var 3) (.var 3)) (.var 5))) .nil)))))
    (.cons (.asg (.nm 1) (.call "common" (.cons (.call "common" (.cons (.var 6) (.cons (.bi .abs (.cons (.var 7) .nil)) .nil))) (.cons (.bi .abs (.cons (.var 8) .nil)) .nil))))
    (.cons (.ret (.tup (.cons (.bin .fdiv (.var 6) (.var 1)) (.cons (.bin .fdiv (.var 7) (.var 1)) (.cons (.bin .fdiv (.var 8) (.var 1)) .nil)))))
    .nil)))))
def b_mirrored_chain : Ss :=
    (.cons (.ret (.tup (.cons (.tup .nil) (.cons (.rev (.ix (.var 0) (.int 1))) .nil))))
    .nil)
def b_term_of : Ss :=
    (.cons (.asg (.tp [(.nm 2), (.nm 3)]) (.var 0))
    (.cons (.ret (.ite (.cmp .lt (.var 1) (.bi .len (.cons (.var 2) .nil))) (.ix (.var 2) (.var 1)) (.ix (.var 3) (.bin .mod (.bin .sub (.var 1) (.bi .len (.cons (.var 2) .nil))) (.bi .len (.cons (.var 3) .nil))))))
    .nil))
def b_steps_to : Ss :=
    (.cons (.asg (.tp [(.nm 3), (.nm 4)]) (.tup (.cons (.lst (.cons (.int 1) .nil)) (.cons (.int 0) .nil))))
    (.cons (.fr (.nm 2) (.range (.cons (.var 1) .nil)) (.cons (.asg (.tp [(.nm 4), (.nm 5)]) (.tup (.cons (.ix (.var 3) (.neg (.int 1))) (.cons (.var 4) .nil))))
    (.cons (.ex (.me .append (.var 3) (.cons (.bin .add (.bin .mul (.call "term_of" (.cons (.var 0) (.cons (.var 2) .nil))) (.var 4)) (.var 5)) .nil)))
    .nil)))
    (.cons (.ret (.var 3))
    .nil)))
def b_step_power : Ss :=
    (.cons (.asg (.nm 2) (.call "steps_to" (.cons (.var 0) (.cons (.bin .add (.var 1) (.int 1)) .nil))))
    (.cons (.asg (.tp [(.nm 4), (.nm 5)]) (.tup (.cons (.bin .sub (.bin .add (.ix (.var 2) (.bin .add (.var 1) (.int 1))) (.bin .mul (.int 2) (.ix (.var 2) (.var 1)))) (.int 2)) (.cons (.ix (.var 2) (.var 1)) .nil))))
    (.cons (.asg (.nm 3) (.bi .gcd (.cons (.var 4) (.cons (.var 5) .nil))))
    (.cons (.ret (.tup (.cons (.bin .fdiv (.var 4) (.var 3)) (.cons (.bin .fdiv (.var 5) (.var 3)) .nil))))
    .nil))))
def b_step_at : Ss :=
    (.cons (.asg (.nm 3) (.ite (.cmp .gt (.var 2) (.int 0)) (.ix (.var 0) (.bin .sub (.var 2) (.int 1))) (.int 0)))
    (.cons (.ret (.call "surd_sum" (.cons (.tup (.cons (.bin .add (.int 2) (.var 1)) (.cons (.int 0) (.cons (.int 1) (.cons (.int 0) .nil))))) (.cons (.call "surd_times" (.cons (.tup (.cons (.bin .sub (.var 3) (.int 2)) (.cons (.int 0) (.cons (.int 1) (.cons (.int 0) .nil))))) (.cons (.call "surd_back" (.cons (.tup (.cons (.ix (.var 0) (.var 2)) (.cons (.int 0) (.cons (.int 1) (.cons (.int 0) .nil))))) .nil)) .nil))) .nil))))
    .nil))
def b_ahead_powers : Ss :=
    (.cons (.asg (.nm 1) (.call "steps_to" (.cons (.var 0) (.cons (.bi .len (.cons (.ix (.var 0) (.int 0)) .nil)) .nil))))
    (.cons (.ret (.lc (.call "step_at" (.cons (.var 1) (.cons (.var 3) (.cons (.var 2) .nil)))) (.tp [(.nm 2), (.nm 3)]) (.enum (.ix (.var 0) (.int 0))) .nil [2, 3]))
    .nil))
def b_back_slope : Ss :=
    (.cons (.ret (.call "slope_of" (.cons (.tup (.cons (.tup .nil) (.cons (.bin .add (.rev (.sl (.var 0) .none (.some (.var 1)))) (.rev (.sl (.var 0) (.some (.var 1)) .none))) .nil))) .nil)))
    .nil)
def b_round_powers : Ss :=
    (.cons (.asg (.nm 1) (.ix (.var 0) (.int 1)))
    (.cons (.ret (.lc (.call "surd_sum" (.cons (.tup (.cons (.bin .add (.int 2) (.var 3)) (.cons (.int 0) (.cons (.int 1) (.cons (.int 0) .nil))))) (.cons (.call "back_slope" (.cons (.var 1) (.cons (.var 2) .nil))) .nil))) (.tp [(.nm 2), (.nm 3)]) (.enum (.var 1)) .nil [2, 3]))
    .nil))
def b_early_powers : Ss :=
    (.cons (.asg (.tp [(.nm 2), (.nm 3), (.nm 4)]) (.tup (.cons (.bi .len (.cons (.ix (.var 0) (.int 0)) .nil)) (.cons (.ix (.var 0) (.int 1)) (.cons (.lst .nil) .nil)))))
    (.cons (.asg (.nm 1) (.lc (.call "back_slope" (.cons (.var 3) (.cons (.var 9) .nil))) (.nm 9) (.range (.cons (.bi .len (.cons (.var 3) .nil)) .nil)) .nil [9]))
    (.cons (.asg (.tp [(.nm 5), (.nm 6)]) (.tup (.cons (.var 2) (.cons (.bl true) .nil))))
    (.cons (.wh (.var 6) (.cons (.asg (.tp [(.nm 10), (.nm 9)]) (.tup (.cons (.call "steps_to" (.cons (.var 0) (.cons (.var 5) .nil))) (.cons (.bin .mod (.bin .sub (.var 5) (.var 2)) (.bi .len (.cons (.var 3) .nil))) .nil))))
    (.cons (.asg (.nm 7) (.ite (.cmp .gt (.var 5) (.int 0)) (.ix (.var 10) (.bin .sub (.var 5) (.int 1))) (.int 0)))
    (.cons (.asg (.nm 8) (.call "surd_sum" (.cons (.tup (.cons (.var 7) (.cons (.int 0) (.cons (.int 1) (.cons (.int 0) .nil))))) (.cons (.call "surd_turned" (.cons (.call "surd_times" (.cons (.tup (.cons (.ix (.var 10) (.var 5)) (.cons (.int 0) (.cons (.int 1) (.cons (.int 0) .nil))))) (.cons (.ix (.var 1) (.var 9)) .nil))) .nil)) .nil))))
    (.cons (.ifs (.cmp .gt (.call "surd_order" (.cons (.var 8) (.cons (.tup (.cons (.int 2) (.cons (.int 0) (.cons (.int 1) (.cons (.int 0) .nil))))) .nil))) (.int 0)) (.cons (.ex (.me .append (.var 4) (.cons (.call "step_at" (.cons (.var 10) (.cons (.ix (.var 3) (.var 9)) (.cons (.var 5) .nil)))) .nil)))
    .nil) .nil)
    (.cons (.asg (.nm 6) (.or (.cons (.cmp .gt (.call "surd_order" (.cons (.var 8) (.cons (.tup (.cons (.int 2) (.cons (.int 0) (.cons (.int 1) (.cons (.int 0) .nil))))) .nil))) (.int 0)) (.cons (.cmp .lt (.call "surd_order" (.cons (.var 8) (.cons (.tup (.cons (.neg (.int 2)) (.cons (.int 0) (.cons (.int 1) (.cons (.int 0) .nil))))) .nil))) (.int 0)) .nil))))
    (.cons (.asg (.nm 5) (.bin .add (.var 5) (.int 1)))
    .nil)))))))
    (.cons (.ret (.var 4))
    .nil)))))
def b_power_limit : Ss :=
    (.cons (.asg (.nm 1) (.bin .add (.bin .add (.call "ahead_powers" (.cons (.var 0) .nil)) (.call "round_powers" (.cons (.var 0) .nil))) (.call "early_powers" (.cons (.var 0) .nil))))
    (.cons (.asg (.nm 2) (.ix (.var 1) (.int 0)))
    (.cons (.fr (.nm 3) (.ex (.sl (.var 1) (.some (.int 1)) .none)) (.cons (.asg (.nm 2) (.ite (.cmp .gt (.call "surd_order" (.cons (.var 3) (.cons (.var 2) .nil))) (.int 0)) (.var 3) (.var 2)))
    .nil))
    (.cons (.ret (.var 2))
    .nil))))
def b_limit_reached : Ss :=
    (.cons (.ret (.cmp .eq (.ix (.call "power_limit" (.cons (.var 0) .nil)) (.int 3)) (.int 0)))
    .nil)
def b_terms : Ss :=
    (.cons (.asg (.tp [(.nm 3), (.nm 4)]) (.var 0))
    (.cons (.ifs (.or (.cons (.cmp .eq (.var 4) (.tup .nil)) (.cons (.cmp .le (.var 1) (.bi .len (.cons (.var 3) .nil))) .nil))) (.cons (.ret (.sl (.var 3) .none (.some (.var 1))))
    .nil) .nil)
    (.cons (.asg (.nm 2) (.bin .add (.bin .fdiv (.bin .sub (.var 1) (.bi .len (.cons (.var 3) .nil))) (.bi .len (.cons (.var 4) .nil))) (.int 1)))
    (.cons (.ret (.sl (.bin .add (.var 3) (.bin .mul (.var 4) (.var 2))) .none (.some (.var 1))))
    .nil))))
def b_fractions : Ss :=
    (.cons (.asg (.tp [(.nm 3), (.nm 4), (.nm 5)]) (.tup (.cons (.lst (.cons (.tup (.cons (.int 0) (.cons (.int 1) .nil))) .nil)) (.cons (.int 1) (.cons (.int 0) .nil)))))
    (.cons (.fr (.nm 2) (.ex (.call "terms" (.cons (.var 0) (.cons (.var 1) .nil)))) (.cons (.asg (.nm 6) (.ix (.var 3) (.neg (.int 1))))
    (.cons (.ex (.me .append (.var 3) (.cons (.tup (.cons (.bin .add (.bin .mul (.var 2) (.ix (.var 6) (.int 0))) (.var 4)) (.cons (.bin .add (.bin .mul (.var 2) (.ix (.var 6) (.int 1))) (.var 5)) .nil))) .nil)))
    (.cons (.asg (.tp [(.nm 4), (.nm 5)]) (.var 6))
    .nil))))
    (.cons (.ret (.bi .tuple (.cons (.var 3) .nil)))
    .nil)))
def b_fraction_at : Ss :=
    (.cons (.ret (.ix (.call "fractions" (.cons (.var 0) (.cons (.var 1) .nil))) (.var 1)))
    .nil)
def b_less_times : Ss :=
    (.cons (.ret (.call "surd_sum" (.cons (.var 0) (.cons (.call "surd_turned" (.cons (.call "surd_times" (.cons (.tup (.cons (.var 1) (.cons (.int 0) (.cons (.int 1) (.cons (.int 0) .nil))))) (.cons (.var 2) .nil))) .nil)) .nil))))
    .nil)
def b_nearness : Ss :=
    (.cons (.asg (.nm 2) (.call "surd_times" (.cons (.tup (.cons (.var 1) (.cons (.int 0) (.cons (.int 1) (.cons (.int 0) .nil))))) (.cons (.var 0) .nil))))
    (.cons (.asg (.nm 2) (.call "surd_sum" (.cons (.var 2) (.cons (.tup (.cons (.neg (.call "whole_part" (.cons (.var 2) .nil))) (.cons (.int 0) (.cons (.int 1) (.cons (.int 0) .nil))))) .nil))))
    (.cons (.asg (.nm 3) (.call "surd_sum" (.cons (.tup (.cons (.int 1) (.cons (.int 0) (.cons (.int 1) (.cons (.int 0) .nil))))) (.cons (.call "surd_turned" (.cons (.var 2) .nil)) .nil))))
    (.cons (.ret (.ite (.cmp .lt (.call "surd_order" (.cons (.var 2) (.cons (.var 3) .nil))) (.int 0)) (.var 2) (.var 3)))
    .nil))))
def b_times_less : Ss :=
    (.cons (.asg (.nm 4) (.call "whole_part" (.cons (.call "surd_times" (.cons (.var 0) (.cons (.call "surd_back" (.cons (.var 1) .nil)) .nil))) .nil)))
    (.cons (.ifs (.var 3) (.cons (.ret (.var 4))
    .nil) .nil)
    (.cons (.ret (.bi .min2 (.cons (.var 4) (.cons (.bin .add (.call "whole_part" (.cons (.call "surd_times" (.cons (.call "less_times" (.cons (.var 0) (.cons (.int 1) (.cons (.var 2) .nil)))) (.cons (.call "surd_back" (.cons (.var 1) .nil)) .nil))) .nil)) (.int 1)) .nil))))
    .nil)))
def b_longest_time : Ss :=
    (.cons (.asg (.tp [(.nm 2), (.nm 3), (.nm 4), (.nm 5)]) (.tup (.cons (.int 1) (.cons (.int 1) (.cons (.var 0) (.cons (.call "surd_sum" (.cons (.tup (.cons (.int 1) (.cons (.int 0) (.cons (.int 1) (.cons (.int 0) .nil))))) (.cons (.call "surd_turned" (.cons (.var 0) .nil)) .nil))) .nil))))))
    (.cons (.asg (.tp [(.nm 6), (.nm 7)]) (.tup (.cons .non (.cons .non .nil))))
    (.cons (.wh (.or (.cons (.cmp .is (.var 6) .non) (.cons (.cmp .is (.var 7) .non) .nil))) (.cons (.ifs (.and (.cons (.cmp .is (.var 6) .non) (.cons (.cmp .lt (.call "surd_order" (.cons (.var 4) (.cons (.var 1) .nil))) (.int 0)) .nil))) (.cons (.asg (.nm 6) (.tup (.cons (.var 2) (.cons (.var 4) .nil))))
    .nil) .nil)
    (.cons (.ifs (.and (.cons (.cmp .is (.var 7) .non) (.cons (.cmp .lt (.call "surd_order" (.cons (.var 5) (.cons (.var 1) .nil))) (.int 0)) .nil))) (.cons (.asg (.nm 7) (.tup (.cons (.var 3) (.cons (.var 5) .nil))))
    .nil) .nil)
    (.cons (.ifs (.cmp .gt (.call "surd_order" (.cons (.var 4) (.cons (.var 5) .nil))) (.int 0)) (.cons (.asg (.nm 8) (.call "times_less" (.cons (.var 4) (.cons (.var 5) (.cons (.var 1) (.cons (.cmp .isnot (.var 6) .non) .nil))))))
    (.cons (.asg (.tp [(.nm 2), (.nm 4)]) (.tup (.cons (.bin .add (.var 2) (.bin .mul (.var 8) (.var 3))) (.cons (.call "less_times" (.cons (.var 4) (.cons (.var 8) (.cons (.var 5) .nil)))) .nil))))
    .nil)) (.cons (.asg (.nm 8) (.call "times_less" (.cons (.var 5) (.cons (.var 4) (.cons (.var 1) (.cons (.cmp .isnot (.var 7) .non) .nil))))))
    (.cons (.asg (.tp [(.nm 3), (.nm 5)]) (.tup (.cons (.bin .add (.var 3) (.bin .mul (.var 8) (.var 2))) (.cons (.call "less_times" (.cons (.var 5) (.cons (.var 8) (.cons (.var 4) .nil)))) .nil))))
    .nil)))
    .nil))))
    (.cons (.ifs (.cmp .gt (.call "surd_order" (.cons (.call "surd_sum" (.cons (.ix (.var 6) (.int 1)) (.cons (.ix (.var 7) (.int 1)) .nil))) (.cons (.var 1) .nil))) (.int 0)) (.cons (.ret (.bin .add (.ix (.var 6) (.int 0)) (.ix (.var 7) (.int 0))))
    .nil) .nil)
    (.cons (.ret (.bi .max2 (.cons (.ix (.var 6) (.int 0)) (.cons (.ix (.var 7) (.int 0)) .nil))))
    .nil)))))
def b_greatest_repeat : Ss :=
    (.cons (.asg (.nm 2) (.call "slope_of" (.cons (.var 0) .nil)))
    (.cons (.ret (.bin .sub (.bin .add (.var 1) (.call "longest_time" (.cons (.var 2) (.cons (.call "nearness" (.cons (.var 2) (.cons (.var 1) .nil))) .nil)))) (.int 2)))
    .nil))
def b__law_bag : Ss :=
    (.cons (.asg (.nm 1) (.lc (.bin .mod (.bi .abs (.cons (.bi .int (.cons (.var 3) .nil)) .nil)) (.bin .pow (.bin .pow (.int 10) (.int 57)) (.int 7))) (.nm 3) (.ex (.sl (.var 0) .none (.some (.int 63)))) .nil [3]))
    (.cons (.asg (.nm 2) (.bin .add (.int 8101) (.bin .mul (.int 31) (.bi .len (.cons (.var 1) .nil)))))
    (.cons (.fr (.nm 3) (.ex (.var 1)) (.cons (.asg (.nm 2) (.bin .mod (.bi .int (.cons (.bin .add (.bin .add (.bin .mul (.var 2) (.int 48271)) (.bin .mod (.bi .int (.cons (.var 3) .nil)) (.int 2147483629))) (.int 7)) .nil)) (.int 2147483647)))
    .nil))
    (.cons (.ret (.lst (.cons (.bi .lrev (.cons (.bi .list (.cons (.var 1) .nil)) .nil)) (.cons (.int 0) (.cons (.var 2) .nil)))))
    .nil))))
def b__law_draw : Ss :=
    (.cons (.wh (.and (.cons (.cmp .eq (.ix (.var 0) (.int 1)) (.int 0)) (.cons (.cmp .ne (.ix (.var 0) (.int 0)) (.lst .nil)) .nil))) (.cons (.asg (.nm 2) (.me .pop (.ix (.var 0) (.int 0)) .nil))
    (.cons (.put (.var 0) (.int 1) (.ite (.cmp .gt (.var 2) (.bin .pow (.int 10) (.int 9))) (.var 2) (.int 0)))
    .nil)))
    (.cons (.ifs (.cmp .gt (.ix (.var 0) (.int 1)) (.int 0)) (.cons (.asg (.nm 3) (.bin .mod (.bi .int (.cons (.ix (.var 0) (.int 1)) .nil)) (.var 1)))
    (.cons (.put (.var 0) (.int 1) (.bin .fdiv (.ix (.var 0) (.int 1)) (.var 1)))
    (.cons (.ret (.var 3))
    .nil))) .nil)
    (.cons (.put (.var 0) (.int 2) (.bin .mod (.bi .int (.cons (.bin .add (.bin .mul (.ix (.var 0) (.int 2)) (.int 48271)) (.int 11)) .nil)) (.int 2147483647)))
    (.cons (.ret (.bin .mod (.bi .int (.cons (.bin .fdiv (.bin .mod (.bi .int (.cons (.bin .mul (.ix (.var 0) (.int 2)) (.ix (.var 0) (.int 2))) .nil)) (.int 2147483629)) (.int 7)) .nil)) (.var 1)))
    .nil))))
def b__law_pick : Ss :=
    (.cons (.ret (.ix (.var 1) (.call "_law_draw" (.cons (.var 0) (.cons (.bi .len (.cons (.var 1) .nil)) .nil)))))
    .nil)
def b__law_same : Ss :=
    (.cons (.ret (.cmp .eq (.bi .repr (.cons (.var 0) .nil)) (.bi .repr (.cons (.var 1) .nil))))
    .nil)
def b__law_terms : Ss :=
    (.cons (.asg (.nm 2) (.bi .list (.cons (.ix (.var 0) (.int 0)) .nil)))
    (.cons (.wh (.cmp .lt (.bi .len (.cons (.var 2) .nil)) (.var 1)) (.cons (.ex (.me .extend (.var 2) (.cons (.bi .list (.cons (.ix (.var 0) (.int 1)) .nil)) .nil)))
    .nil))
    (.cons (.ret (.sl (.var 2) .none (.some (.var 1))))
    .nil)))
def b__law_steps : Ss :=
    (.cons (.asg (.tp [(.nm 2), (.nm 3), (.nm 4), (.nm 5)]) (.tup (.cons (.lst (.cons (.tup (.cons (.int 0) (.cons (.int 1) .nil))) .nil)) (.cons (.int 0) (.cons (.int 1) (.cons (.tup (.cons (.int 1) (.cons (.int 0) .nil))) .nil))))))
    (.cons (.fr (.nm 1) (.ex (.var 0)) (.cons (.asg (.tp [(.nm 3), (.nm 4), (.nm 5)]) (.tup (.cons (.bin .add (.bin .mul (.var 1) (.var 3)) (.ix (.var 5) (.int 0))) (.cons (.bin .add (.bin .mul (.var 1) (.var 4)) (.ix (.var 5) (.int 1))) (.cons (.tup (.cons (.var 3) (.cons (.var 4) .nil))) .nil)))))
    (.cons (.ex (.me .append (.var 2) (.cons (.tup (.cons (.var 3) (.cons (.var 4) .nil))) .nil)))
    .nil)))
    (.cons (.ret (.var 2))
    .nil)))
def b__law_divisor : Ss :=
    (.cons (.asg (.tp [(.nm 2), (.nm 3)]) (.tup (.cons (.bi .abs (.cons (.var 0) .nil)) (.cons (.bi .abs (.cons (.var 1) .nil)) .nil))))
    (.cons (.wh (.cmp .gt (.var 3) (.int 0)) (.cons (.asg (.tp [(.nm 2), (.nm 3)]) (.tup (.cons (.var 3) (.cons (.bin .mod (.bi .int (.cons (.var 2) .nil)) (.var 3)) .nil))))
    .nil))
    (.cons (.ret (.var 2))
    .nil)))
def b__law_low : Ss :=
    (.cons (.asg (.nm 2) (.call "_law_divisor" (.cons (.var 0) (.cons (.var 1) .nil))))
    (.cons (.ret (.tup (.cons (.bin .fdiv (.var 0) (.var 2)) (.cons (.bin .fdiv (.var 1) (.var 2)) .nil))))
    .nil))
def b__law_root : Ss :=
    (.cons (.asg (.tp [(.nm 1), (.nm 2)]) (.tup (.cons (.int 0) (.cons (.bin .add (.var 0) (.int 1)) .nil))))
    (.cons (.wh (.cmp .gt (.bin .sub (.var 2) (.var 1)) (.int 1)) (.cons (.asg (.nm 3) (.bin .fdiv (.bin .add (.var 1) (.var 2)) (.int 2)))
    (.cons (.ifs (.cmp .le (.bin .mul (.var 3) (.var 3)) (.var 0)) (.cons (.asg (.nm 1) (.var 3))
    .nil) (.cons (.asg (.nm 2) (.var 3))
    .nil))
    .nil)))
    (.cons (.ret (.var 1))
    .nil)))
def b__law_bare : Ss :=
    (.cons (.asg (.tp [(.nm 2), (.nm 3), (.nm 4), (.nm 5)]) (.tup (.cons (.int 1) (.cons (.int 1) (.cons (.var 0) (.cons (.int 2) .nil))))))
    (.cons (.wh (.cmp .le (.bin .mul (.bin .mul (.var 5) (.var 5)) (.var 5)) (.var 4)) (.cons (.ifs (.cmp .eq (.bin .mod (.bi .int (.cons (.var 4) .nil)) (.bin .mul (.var 5) (.var 5))) (.int 0)) (.cons (.asg (.tp [(.nm 2), (.nm 4)]) (.tup (.cons (.bin .mul (.var 2) (.var 5)) (.cons (.bin .fdiv (.var 4) (.bin .mul (.var 5) (.var 5))) .nil))))
    .nil) (.cons (.ifs (.cmp .eq (.bin .mod (.bi .int (.cons (.var 4) .nil)) (.var 5)) (.int 0)) (.cons (.asg (.tp [(.nm 3), (.nm 4)]) (.tup (.cons (.bin .mul (.var 3) (.var 5)) (.cons (.bin .fdiv (.var 4) (.var 5)) .nil))))
    .nil) (.cons (.asg (.nm 5) (.bin .add (.var 5) (.int 1)))
    .nil))
    .nil))
    .nil))
    (.cons (.asg (.nm 1) (.call "_law_root" (.cons (.var 4) .nil)))
    (.cons (.ret (.ite (.cmp .eq (.bin .mul (.var 1) (.var 1)) (.var 4)) (.tup (.cons (.bin .mul (.var 2) (.var 1)) (.cons (.var 3) .nil))) (.tup (.cons (.var 2) (.cons (.bin .mul (.var 3) (.var 4)) .nil)))))
    .nil))))
def b__law_table : Ss :=
    (.cons (.asg (.tp [(.nm 2), (.nm 3), (.nm 4), (.nm 5)]) (.tup (.cons (.int 1) (.cons (.int 0) (.cons (.int 0) (.cons (.int 1) .nil))))))
    (.cons (.fr (.nm 1) (.ex (.var 0)) (.cons (.asg (.tp [(.nm 2), (.nm 3), (.nm 4), (.nm 5)]) (.tup (.cons (.var 3) (.cons (.bin .add (.var 2) (.bin .mul (.var 3) (.var 1))) (.cons (.var 5) (.cons (.bin .add (.var 4) (.bin .mul (.var 5) (.var 1))) .nil))))))
    .nil))
    (.cons (.ret (.tup (.cons (.var 2) (.cons (.var 3) (.cons (.var 4) (.cons (.var 5) .nil))))))
    .nil)))
def b__law_surd : Ss :=
    (.cons (.ifs (.cmp .lt (.var 2) (.int 0)) (.cons (.asg (.tp [(.nm 0), (.nm 1), (.nm 2)]) (.tup (.cons (.neg (.var 0)) (.cons (.neg (.var 1)) (.cons (.neg (.var 2)) .nil)))))
    .nil) .nil)
    (.cons (.asg (.nm 4) (.call "_law_divisor" (.cons (.call "_law_divisor" (.cons (.var 0) (.cons (.var 1) .nil))) (.cons (.var 2) .nil))))
    (.cons (.ret (.tup (.cons (.bin .fdiv (.var 0) (.var 4)) (.cons (.bin .fdiv (.var 1) (.var 4)) (.cons (.bin .fdiv (.var 2) (.var 4)) (.cons (.var 3) .nil))))))
    .nil)))
def b__law_round_slope : Ss :=
    (.cons (.asg (.tp [(.nm 2), (.nm 3), (.nm 4), (.nm 5)]) (.call "_law_table" (.cons (.var 0) .nil)))
    (.cons (.ret (.call "_law_surd" (.cons (.bin .sub (.var 2) (.var 5)) (.cons (.ix (.var 1) (.int 0)) (.cons (.bin .mul (.int 2) (.var 4)) (.cons (.ix (.var 1) (.int 1)) .nil))))))
    .nil))
def b__law_is_more : Ss :=
    (.cons (.asg (.tp [(.nm 3), (.nm 4)]) (.tup (.cons (.bin .sub (.bin .mul (.ix (.var 0) (.int 0)) (.ix (.var 1) (.int 2))) (.bin .mul (.ix (.var 1) (.int 0)) (.ix (.var 0) (.int 2)))) (.cons (.bin .sub (.bin .mul (.ix (.var 0) (.int 1)) (.ix (.var 1) (.int 2))) (.bin .mul (.ix (.var 1) (.int 1)) (.ix (.var 0) (.int 2)))) .nil))))
    (.cons (.asg (.nm 2) (.ite (.cmp .gt (.ix (.var 0) (.int 3)) (.ix (.var 1) (.int 3))) (.ix (.var 0) (.int 3)) (.ix (.var 1) (.int 3))))
    (.cons (.ifs (.cmp .eq (.var 4) (.int 0)) (.cons (.ret (.cmp .gt (.var 3) (.int 0)))
    .nil) .nil)
    (.cons (.ifs (.and (.cons (.cmp .ge (.var 3) (.int 0)) (.cons (.cmp .gt (.var 4) (.int 0)) .nil))) (.cons (.ret (.bl true))
    .nil) .nil)
    (.cons (.ifs (.and (.cons (.cmp .le (.var 3) (.int 0)) (.cons (.cmp .lt (.var 4) (.int 0)) .nil))) (.cons (.ret (.bl false))
    .nil) .nil)
    (.cons (.ret (.ite (.cmp .gt (.var 3) (.int 0)) (.cmp .gt (.bin .mul (.var 3) (.var 3)) (.bin .mul (.bin .mul (.var 4) (.var 4)) (.var 2))) (.cmp .lt (.bin .mul (.var 3) (.var 3)) (.bin .mul (.bin .mul (.var 4) (.var 4)) (.var 2)))))
    .nil))))))
def b__law_limit : Ss :=
    (.cons (.asg (.nm 2) (.ix (.var 0) (.int 1)))
    (.cons (.asg (.nm 3) .non)
    (.cons (.fr (.tp [(.nm 6), (.nm 7)]) (.enum (.var 2)) (.cons (.asg (.nm 8) (.bi .trev (.cons (.bi .list (.cons (.bin .add (.sl (.var 2) (.some (.var 6)) .none) (.sl (.var 2) .none (.some (.var 6)))) .nil)) .nil)))
    (.cons (.asg (.nm 9) (.call "_law_round_slope" (.cons (.var 8) (.cons (.var 1) .nil))))
    (.cons (.asg (.nm 10) (.call "_law_surd" (.cons (.bin .add (.ix (.var 9) (.int 0)) (.bin .mul (.bin .add (.int 2) (.var 7)) (.ix (.var 9) (.int 2)))) (.cons (.ix (.var 9) (.int 1)) (.cons (.ix (.var 9) (.int 2)) (.cons (.ix (.var 9) (.int 3)) .nil))))))
    (.cons (.ifs (.or (.cons (.cmp .is (.var 3) .non) (.cons (.call "_law_is_more" (.cons (.var 10) (.cons (.var 3) .nil))) .nil))) (.cons (.asg (.nm 3) (.var 10))
    .nil) .nil)
    .nil)))))
    (.cons (.asg (.nm 4) (.call "_law_terms" (.cons (.var 0) (.cons (.int 90) .nil))))
    (.cons (.asg (.nm 5) (.call "_law_steps" (.cons (.var 4) .nil)))
    (.cons (.fr (.tp [(.nm 11), (.nm 7)]) (.enum (.var 4)) (.cons (.asg (.nm 12) (.ite (.cmp .gt (.var 11) (.int 0)) (.ix (.ix (.var 5) (.bin .sub (.var 11) (.int 1))) (.int 1)) (.int 0)))
    (.cons (.asg (.tp [(.nm 13), (.nm 14)]) (.call "_law_low" (.cons (.bin .sub (.bin .add (.bin .mul (.bin .add (.int 2) (.var 7)) (.ix (.ix (.var 5) (.var 11)) (.int 1))) (.var 12)) (.int 2)) (.cons (.ix (.ix (.var 5) (.var 11)) (.int 1)) .nil))))
    (.cons (.ifs (.call "_law_is_more" (.cons (.tup (.cons (.var 13) (.cons (.int 0) (.cons (.var 14) (.cons (.int 0) .nil))))) (.cons (.var 3) .nil))) (.cons (.asg (.nm 3) (.tup (.cons (.var 13) (.cons (.int 0) (.cons (.var 14) (.cons (.int 0) .nil))))))
    .nil) .nil)
    .nil))))
    (.cons (.ret (.var 3))
    .nil)))))))
def b__law_some_terms : Ss :=
    (.cons (.ret (.bi .tuple (.cons (.lc (.bin .add (.int 1) (.call "_law_draw" (.cons (.var 0) (.cons (.var 2) .nil)))) (.nm 3) (.range (.cons (.call "_law_draw" (.cons (.var 0) (.cons (.bin .add (.var 1) (.int 1)) .nil))) .nil)) .nil [3]) .nil)))
    .nil)
def b__law_chain : Ss :=
    (.cons (.asg (.nm 2) (.call "_law_some_terms" (.cons (.var 0) (.cons (.call "_law_pick" (.cons (.var 0) (.cons (.lst (.cons (.int 0) (.cons (.int 1) (.cons (.int 3) (.cons (.int 8) .nil))))) .nil))) (.cons (.call "_law_pick" (.cons (.var 0) (.cons (.lst (.cons (.int 2) (.cons (.int 4) (.cons (.int 9) .nil)))) .nil))) .nil)))))
    (.cons (.asg (.nm 3) (.call "_law_pick" (.cons (.var 0) (.cons (.lst (.cons (.int 1) (.cons (.int 2) (.cons (.int 3) (.cons (.int 9) .nil))))) .nil))))
    (.cons (.asg (.nm 4) (.bin .add (.tup (.cons (.bin .add (.int 1) (.call "_law_draw" (.cons (.var 0) (.cons (.var 3) .nil)))) .nil)) (.call "_law_some_terms" (.cons (.var 0) (.cons (.ite (.var 1) (.int 5) (.call "_law_pick" (.cons (.var 0) (.cons (.lst (.cons (.int 0) (.cons (.int 1) (.cons (.int 2) .nil)))) .nil)))) (.cons (.var 3) .nil))))))
    (.cons (.ret (.tup (.cons (.var 2) (.cons (.var 4) .nil))))
    .nil))))
def b__law_otherwise : Ss :=
    (.cons (.asg (.tp [(.nm 4), (.nm 5)]) (.var 1))
    (.cons (.fr (.nm 2) (.range (.cons (.call "_law_draw" (.cons (.var 0) (.cons (.int 3) .nil))) .nil)) (.cons (.ifs (.cmp .lt (.bi .len (.cons (.var 4) .nil)) (.int 8)) (.cons (.asg (.tp [(.nm 4), (.nm 5)]) (.tup (.cons (.bin .add (.var 4) (.sl (.var 5) .none (.some (.int 1)))) (.cons (.bin .add (.sl (.var 5) (.some (.int 1)) .none) (.sl (.var 5) .none (.some (.int 1)))) .nil))))
    .nil) .nil)
    .nil))
    (.cons (.asg (.nm 3) (.bin .fdiv (.int 6) (.bi .len (.cons (.var 5) .nil))))
    (.cons (.ret (.tup (.cons (.var 4) (.cons (.bin .mul (.var 5) (.bin .add (.int 1) (.call "_law_draw" (.cons (.var 0) (.cons (.var 3) .nil))))) .nil))))
    .nil))))
def b__law_are_slopes_right : Ss :=
    (.cons (.asg (.tp [(.nm 4), (.nm 5)]) (.tup (.cons (.tup (.cons (.tup .nil) (.cons (.var 0) .nil))) (.cons (.tup (.cons (.tup .nil) (.cons (.bi .trev (.cons (.bi .list (.cons (.var 0) .nil)) .nil)) .nil))) .nil))))
    (.cons (.asg (.tp [(.nm 6), (.nm 7)]) (.tup (.cons (.call "_law_round_slope" (.cons (.var 0) (.cons (.var 1) .nil))) (.cons (.call "_law_round_slope" (.cons (.ix (.var 5) (.int 1)) (.cons (.var 1) .nil))) .nil))))
    (.cons (.asg (.nm 2) (.lst (.cons (.call "slope_of" (.cons (.var 4) .nil)) (.cons (.callk "slope_of" .nil ["chain"] (.cons (.var 4) .nil)) (.cons (.call "slope_of" (.cons (.var 5) .nil)) (.cons (.call "slope_of" (.cons (.call "mirrored_chain" (.cons (.var 4) .nil)) .nil)) .nil))))))
    (.cons (.ifs (.or (.cons (.not (.call "_law_same" (.cons (.var 2) (.cons (.lst (.cons (.var 6) (.cons (.var 6) (.cons (.var 7) (.cons (.var 7) .nil))))) .nil)))) (.cons (.not (.call "_law_same" (.cons (.callk "mirrored_chain" .nil ["chain"] (.cons (.var 4) .nil)) (.cons (.var 5) .nil)))) .nil))) (.cons (.ret (.bl false))
    .nil) .nil)
    (.cons (.ifs (.not (.call "_law_same" (.cons (.call "surd_turned" (.cons (.call "surd_back" (.cons (.call "other_root" (.cons (.var 6) .nil)) .nil)) .nil)) (.cons (.var 7) .nil)))) (.cons (.ret (.bl false))
    .nil) .nil)
    (.cons (.asg (.tp [(.nm 8), (.nm 9), (.nm 10), (.nm 11)]) (.call "_law_table" (.cons (.var 0) .nil)))
    (.cons (.asg (.nm 3) (.call "_law_divisor" (.cons (.call "_law_divisor" (.cons (.var 10) (.cons (.bin .sub (.var 11) (.var 8)) .nil))) (.cons (.var 9) .nil))))
    (.cons (.ifs (.not (.call "_law_same" (.cons (.call "slope_equation" (.cons (.var 4) .nil)) (.cons (.tup (.cons (.bin .fdiv (.var 10) (.var 3)) (.cons (.bin .fdiv (.bin .sub (.var 11) (.var 8)) (.var 3)) (.cons (.bin .fdiv (.neg (.var 9)) (.var 3)) .nil)))) .nil)))) (.cons (.ret (.bl false))
    .nil) .nil)
    (.cons (.ret (.and (.cons (.call "_law_same" (.cons (.call "slope_of" (.cons (.call "chain_of" (.cons (.var 6) .nil)) .nil)) (.cons (.var 6) .nil))) (.cons (.call "_law_same" (.cons (.lst (.cons (.call "surd_sign" (.cons (.var 6) .nil)) (.cons (.call "whole_part" (.cons (.var 6) .nil)) .nil))) (.cons (.lst (.cons (.int 1) (.cons (.int 0) .nil))) .nil))) .nil))))
    .nil)))))))))
def b__law_are_steps_right : Ss :=
    (.cons (.asg (.nm 3) (.call "_law_steps" (.cons (.call "_law_terms" (.cons (.var 1) (.cons (.int 12) .nil))) .nil)))
    (.cons (.asg (.nm 4) (.bl false))
    (.cons (.fr (.nm 5) (.range (.cons (.int 1) (.cons (.int 9) .nil))) (.cons (.asg (.tp [(.nm 9), (.nm 10)]) (.tup (.cons (.ix (.ix (.var 3) (.var 5)) (.int 1)) (.cons (.ix (.ix (.var 3) (.bin .add (.var 5) (.int 1))) (.int 1)) .nil))))
    (.cons (.asg (.nm 6) (.call "_law_low" (.cons (.bin .sub (.bin .add (.var 10) (.bin .mul (.int 2) (.var 9))) (.int 2)) (.cons (.var 9) .nil))))
    (.cons (.asg (.nm 7) (.ite (.cmp .eq (.call "_law_draw" (.cons (.var 0) (.cons (.int 2) .nil))) (.int 0)) (.callk "step_power" .nil ["k", "chain"] (.cons (.var 5) (.cons (.var 1) .nil))) (.call "step_power" (.cons (.var 1) (.cons (.var 5) .nil)))))
    (.cons (.ifs (.or (.cons (.not (.call "_law_same" (.cons (.var 7) (.cons (.var 6) .nil)))) (.cons (.not (.call "_law_same" (.cons (.call "fraction_at" (.cons (.var 1) (.cons (.var 5) .nil))) (.cons (.ix (.var 3) (.var 5)) .nil)))) .nil))) (.cons (.ret (.bl false))
    .nil) .nil)
    (.cons (.asg (.nm 8) (.call "surd_order" (.cons (.var 2) (.cons (.tup (.cons (.ix (.var 6) (.int 0)) (.cons (.int 0) (.cons (.ix (.var 6) (.int 1)) (.cons (.int 0) .nil))))) .nil))))
    (.cons (.ifs (.or (.cons (.cmp .notin (.var 8) (.tup (.cons (.int 0) (.cons (.int 1) .nil)))) (.cons (.bi (.isi "bool") (.cons (.var 8) .nil)) .nil))) (.cons (.ret (.bl false))
    .nil) .nil)
    (.cons (.ifs (.and (.cons (.cmp .le (.var 9) (.int 100)) (.cons (.not (.call "_law_same" (.cons (.call "greatest_repeat" (.cons (.var 1) (.cons (.var 9) .nil))) (.cons (.bin .sub (.bin .add (.var 10) (.bin .mul (.int 2) (.var 9))) (.int 2)) .nil)))) .nil))) (.cons (.ret (.bl false))
    .nil) .nil)
    (.cons (.asg (.nm 4) (.or (.cons (.var 4) (.cons (.cmp .eq (.var 8) (.int 0)) .nil))))
    .nil)))))))))
    (.cons (.ret (.or (.cons (.not (.var 4)) (.cons (.cmp .eq (.ix (.var 2) (.int 3)) (.int 0)) .nil))))
    .nil))))
def b__law_is_limit_right : Ss :=
    (.cons (.asg (.tp [(.nm 6), (.nm 7)]) (.tup (.cons (.bi .repr (.cons (.var 1) .nil)) (.cons (.call "_law_limit" (.cons (.var 1) (.cons (.var 2) .nil))) .nil))))
    (.cons (.asg (.nm 3) (.call "_law_otherwise" (.cons (.var 0) (.cons (.var 1) .nil))))
    (.cons (.asg (.nm 4) (.lst (.cons (.call "power_limit" (.cons (.var 1) .nil)) (.cons (.callk "power_limit" .nil ["chain"] (.cons (.var 1) .nil)) (.cons (.call "power_limit" (.cons (.var 3) .nil)) (.cons (.call "power_limit" (.cons (.var 1) .nil)) .nil))))))
    (.cons (.ifs (.not (.call "_law_same" (.cons (.var 4) (.cons (.bin .mul (.lst (.cons (.var 7) .nil)) (.int 4)) .nil)))) (.cons (.ret (.bl false))
    .nil) .nil)
    (.cons (.asg (.nm 5) (.lst (.cons (.call "limit_reached" (.cons (.var 1) .nil)) (.cons (.callk "limit_reached" .nil ["chain"] (.cons (.var 3) .nil)) .nil))))
    (.cons (.ifs (.or (.cons (.not (.call "_law_same" (.cons (.var 5) (.cons (.bin .mul (.lst (.cons (.cmp .eq (.ix (.var 7) (.int 3)) (.int 0)) .nil)) (.int 2)) .nil)))) (.cons (.cmp .ne (.bi .repr (.cons (.var 1) .nil)) (.var 6)) .nil))) (.cons (.ret (.bl false))
    .nil) .nil)
    (.cons (.ifs (.cmp .gt (.ix (.var 7) (.int 3)) (.int 0)) (.cons (.asg (.nm 8) (.lst .nil))
    (.cons (.fr (.tp [(.nm 9), (.nm 10)]) (.enum (.ix (.var 1) (.int 1))) (.cons (.asg (.nm 11) (.bi .trev (.cons (.bi .list (.cons (.bin .add (.sl (.ix (.var 1) (.int 1)) (.some (.var 9)) .none) (.sl (.ix (.var 1) (.int 1)) .none (.some (.var 9)))) .nil)) .nil)))
    (.cons (.ex (.me .append (.var 8) (.cons (.cmp .eq (.call "surd_sum" (.cons (.tup (.cons (.bin .add (.int 2) (.var 10)) (.cons (.int 0) (.cons (.int 1) (.cons (.int 0) .nil))))) (.cons (.call "slope_of" (.cons (.tup (.cons (.tup .nil) (.cons (.var 11) .nil))) .nil)) .nil))) (.var 7)) .nil)))
    .nil)))
    (.cons (.ifs (.cmp .notin (.bl true) (.var 8)) (.cons (.ret (.bl false))
    .nil) .nil)
    .nil))) .nil)
    (.cons (.ret (.call "_law_are_steps_right" (.cons (.var 0) (.cons (.var 1) (.cons (.var 7) .nil)))))
    .nil))))))))
def b_law : Ss :=
    (.cons (.asg (.nm 1) (.call "_law_bag" (.cons (.var 0) .nil)))
    (.cons (.asg (.nm 2) (.call "_law_draw" (.cons (.var 1) (.cons (.int 4) .nil))))
    (.cons (.fr (.nm 3) (.range (.cons (.int 3) .nil)) (.cons (.asg (.nm 5) (.call "_law_chain" (.cons (.var 1) (.cons (.and (.cons (.cmp .eq (.var 3) (.int 0)) (.cons (.cmp .eq (.var 2) (.int 0)) .nil))) .nil))))
    (.cons (.asg (.tp [(.nm 7), (.nm 8), (.nm 9), (.nm 10)]) (.call "_law_table" (.cons (.ix (.var 5) (.int 1)) .nil)))
    (.cons (.asg (.nm 6) (.call "_law_bare" (.cons (.bin .add (.bin .mul (.bin .sub (.var 7) (.var 10)) (.bin .sub (.var 7) (.var 10))) (.bin .mul (.bin .mul (.int 4) (.var 8)) (.var 9))) .nil)))
    (.cons (.ifs (.or (.cons (.not (.call "_law_are_slopes_right" (.cons (.ix (.var 5) (.int 1)) (.cons (.var 6) .nil)))) (.cons (.not (.call "_law_is_limit_right" (.cons (.var 1) (.cons (.var 5) (.cons (.var 6) .nil))))) .nil))) (.cons (.ret (.bl false))
    .nil) .nil)
    .nil)))))
    (.cons (.asg (.nm 4) (.tup (.cons (.tup .nil) (.cons (.bin .mul (.tup (.cons (.int 1) .nil)) (.bin .add (.int 1) (.call "_law_draw" (.cons (.var 1) (.cons (.int 6) .nil))))) .nil))))
    (.cons (.ret (.and (.cons (.call "_law_same" (.cons (.call "power_limit" (.cons (.var 4) .nil)) (.cons (.tup (.cons (.int 5) (.cons (.int 1) (.cons (.int 2) (.cons (.int 5) .nil))))) .nil))) (.cons (.call "_law_same" (.cons (.call "limit_reached" (.cons (.var 4) .nil)) (.cons (.bl false) .nil))) .nil))))
    .nil)))))
def T : Tb := ⟨([("common", ⟨2, 2, b_common⟩), ("whole_root", ⟨1, 3, b_whole_root⟩), ("root_parts", ⟨1, 8, b_root_parts⟩), ("lowest", ⟨4, 5, b_lowest⟩), ("surd_sum", ⟨2, 3, b_surd_sum⟩), ("surd_times", ⟨2, 4, b_surd_times⟩), ("surd_turned", ⟨1, 1, b_surd_turned⟩), ("surd_back", ⟨1, 5, b_surd_back⟩), ("other_root", ⟨1, 1, b_other_root⟩), ("surd_sign", ⟨1, 4, b_surd_sign⟩), ("surd_order", ⟨2, 2, b_surd_order⟩), ("whole_part", ⟨1, 6, b_whole_part⟩), ("last_fractions", ⟨1, 4, b_last_fractions⟩), ("slope_of", ⟨1, 16, b_slope_of⟩), ("chain_of", ⟨1, 6, b_chain_of⟩), ("slope_equation", ⟨1, 9, b_slope_equation⟩), ("mirrored_chain", ⟨1, 1, b_mirrored_chain⟩), ("term_of", ⟨2, 4, b_term_of⟩), ("steps_to", ⟨2, 6, b_steps_to⟩), ("step_power", ⟨2, 6, b_step_power⟩), ("step_at", ⟨3, 4, b_step_at⟩), ("ahead_powers", ⟨1, 4, b_ahead_powers⟩), ("back_slope", ⟨2, 2, b_back_slope⟩), ("round_powers", ⟨1, 4, b_round_powers⟩), ("early_powers", ⟨1, 11, b_early_powers⟩)] : List (Str × Fn)) ++
  ([("power_limit", ⟨1, 4, b_power_limit⟩), ("limit_reached", ⟨1, 1, b_limit_reached⟩), ("terms", ⟨2, 5, b_terms⟩), ("fractions", ⟨2, 7, b_fractions⟩), ("fraction_at", ⟨2, 2, b_fraction_at⟩), ("less_times", ⟨3, 3, b_less_times⟩), ("nearness", ⟨2, 4, b_nearness⟩), ("times_less", ⟨4, 5, b_times_less⟩), ("longest_time", ⟨2, 9, b_longest_time⟩), ("greatest_repeat", ⟨2, 3, b_greatest_repeat⟩), ("_law_bag", ⟨1, 4, b__law_bag⟩), ("_law_draw", ⟨2, 4, b__law_draw⟩), ("_law_pick", ⟨2, 2, b__law_pick⟩), ("_law_same", ⟨2, 2, b__law_same⟩), ("_law_terms", ⟨2, 3, b__law_terms⟩), ("_law_steps", ⟨1, 6, b__law_steps⟩), ("_law_divisor", ⟨2, 4, b__law_divisor⟩), ("_law_low", ⟨2, 3, b__law_low⟩), ("_law_root", ⟨1, 4, b__law_root⟩), ("_law_bare", ⟨1, 6, b__law_bare⟩), ("_law_table", ⟨1, 6, b__law_table⟩), ("_law_surd", ⟨4, 5, b__law_surd⟩), ("_law_round_slope", ⟨2, 6, b__law_round_slope⟩), ("_law_is_more", ⟨2, 5, b__law_is_more⟩), ("_law_limit", ⟨2, 15, b__law_limit⟩)] : List (Str × Fn)) ++
  ([("_law_some_terms", ⟨3, 4, b__law_some_terms⟩), ("_law_chain", ⟨2, 5, b__law_chain⟩), ("_law_otherwise", ⟨2, 6, b__law_otherwise⟩), ("_law_are_slopes_right", ⟨2, 12, b__law_are_slopes_right⟩), ("_law_are_steps_right", ⟨3, 11, b__law_are_steps_right⟩), ("_law_is_limit_right", ⟨3, 12, b__law_is_limit_right⟩), ("law", ⟨1, 11, b_law⟩)] : List (Str × Fn)),
  ([("MAX_CHAINED", 200)] : List (Str × Int)),
  ([(("limit_reached", 0, ["chain"]), [0]), (("mirrored_chain", 0, ["chain"]), [0]), (("power_limit", 0, ["chain"]), [0]), (("slope_of", 0, ["chain"]), [0]), (("step_power", 0, ["k", "chain"]), [1, 0])] : List ((Str × Nat × List Str) × List Nat))⟩
theorem f_common : T.fns.lookup ("common" : Str) = some (⟨2, 2, b_common⟩ : Fn) := by kernel_rfl
theorem f_whole_root : T.fns.lookup ("whole_root" : Str) = some (⟨1, 3, b_whole_root⟩ : Fn) := by kernel_rfl
theorem f_root_parts : T.fns.lookup ("root_parts" : Str) = some (⟨1, 8, b_root_parts⟩ : Fn) := by kernel_rfl
theorem f_lowest : T.fns.lookup ("lowest" : Str) = some (⟨4, 5, b_lowest⟩ : Fn) := by kernel_rfl
theorem f_surd_sum : T.fns.lookup ("surd_sum" : Str) = some (⟨2, 3, b_surd_sum⟩ : Fn) := by kernel_rfl
theorem f_surd_times : T.fns.lookup ("surd_times" : Str) = some (⟨2, 4, b_surd_times⟩ : Fn) := by kernel_rfl
theorem f_surd_turned : T.fns.lookup ("surd_turned" : Str) = some (⟨1, 1, b_surd_turned⟩ : Fn) := by kernel_rfl
theorem f_surd_back : T.fns.lookup ("surd_back" : Str) = some (⟨1, 5, b_surd_back⟩ : Fn) := by kernel_rfl
theorem f_other_root : T.fns.lookup ("other_root" : Str) = some (⟨1, 1, b_other_root⟩ : Fn) := by kernel_rfl
theorem f_surd_sign : T.fns.lookup ("surd_sign" : Str) = some (⟨1, 4, b_surd_sign⟩ : Fn) := by kernel_rfl
theorem f_surd_order : T.fns.lookup ("surd_order" : Str) = some (⟨2, 2, b_surd_order⟩ : Fn) := by kernel_rfl
theorem f_whole_part : T.fns.lookup ("whole_part" : Str) = some (⟨1, 6, b_whole_part⟩ : Fn) := by kernel_rfl
theorem f_last_fractions : T.fns.lookup ("last_fractions" : Str) = some (⟨1, 4, b_last_fractions⟩ : Fn) := by kernel_rfl
theorem f_slope_of : T.fns.lookup ("slope_of" : Str) = some (⟨1, 16, b_slope_of⟩ : Fn) := by kernel_rfl
theorem f_chain_of : T.fns.lookup ("chain_of" : Str) = some (⟨1, 6, b_chain_of⟩ : Fn) := by kernel_rfl
theorem f_slope_equation : T.fns.lookup ("slope_equation" : Str) = some (⟨1, 9, b_slope_equation⟩ : Fn) := by kernel_rfl
theorem f_mirrored_chain : T.fns.lookup ("mirrored_chain" : Str) = some (⟨1, 1, b_mirrored_chain⟩ : Fn) := by kernel_rfl
theorem f_term_of : T.fns.lookup ("term_of" : Str) = some (⟨2, 4, b_term_of⟩ : Fn) := by kernel_rfl
theorem f_steps_to : T.fns.lookup ("steps_to" : Str) = some (⟨2, 6, b_steps_to⟩ : Fn) := by kernel_rfl
theorem f_step_power : T.fns.lookup ("step_power" : Str) = some (⟨2, 6, b_step_power⟩ : Fn) := by kernel_rfl
theorem f_step_at : T.fns.lookup ("step_at" : Str) = some (⟨3, 4, b_step_at⟩ : Fn) := by kernel_rfl
theorem f_ahead_powers : T.fns.lookup ("ahead_powers" : Str) = some (⟨1, 4, b_ahead_powers⟩ : Fn) := by kernel_rfl
theorem f_back_slope : T.fns.lookup ("back_slope" : Str) = some (⟨2, 2, b_back_slope⟩ : Fn) := by kernel_rfl
theorem f_round_powers : T.fns.lookup ("round_powers" : Str) = some (⟨1, 4, b_round_powers⟩ : Fn) := by kernel_rfl
theorem f_early_powers : T.fns.lookup ("early_powers" : Str) = some (⟨1, 11, b_early_powers⟩ : Fn) := by kernel_rfl
theorem f_power_limit : T.fns.lookup ("power_limit" : Str) = some (⟨1, 4, b_power_limit⟩ : Fn) := by kernel_rfl
theorem f_limit_reached : T.fns.lookup ("limit_reached" : Str) = some (⟨1, 1, b_limit_reached⟩ : Fn) := by kernel_rfl
theorem f_terms : T.fns.lookup ("terms" : Str) = some (⟨2, 5, b_terms⟩ : Fn) := by kernel_rfl
theorem f_fractions : T.fns.lookup ("fractions" : Str) = some (⟨2, 7, b_fractions⟩ : Fn) := by kernel_rfl
theorem f_fraction_at : T.fns.lookup ("fraction_at" : Str) = some (⟨2, 2, b_fraction_at⟩ : Fn) := by kernel_rfl
theorem f_less_times : T.fns.lookup ("less_times" : Str) = some (⟨3, 3, b_less_times⟩ : Fn) := by kernel_rfl
theorem f_nearness : T.fns.lookup ("nearness" : Str) = some (⟨2, 4, b_nearness⟩ : Fn) := by kernel_rfl
theorem f_times_less : T.fns.lookup ("times_less" : Str) = some (⟨4, 5, b_times_less⟩ : Fn) := by kernel_rfl
theorem f_longest_time : T.fns.lookup ("longest_time" : Str) = some (⟨2, 9, b_longest_time⟩ : Fn) := by kernel_rfl
theorem f_greatest_repeat : T.fns.lookup ("greatest_repeat" : Str) = some (⟨2, 3, b_greatest_repeat⟩ : Fn) := by kernel_rfl
theorem f__law_bag : T.fns.lookup ("_law_bag" : Str) = some (⟨1, 4, b__law_bag⟩ : Fn) := by kernel_rfl
theorem f__law_draw : T.fns.lookup ("_law_draw" : Str) = some (⟨2, 4, b__law_draw⟩ : Fn) := by kernel_rfl
theorem f__law_pick : T.fns.lookup ("_law_pick" : Str) = some (⟨2, 2, b__law_pick⟩ : Fn) := by kernel_rfl
theorem f__law_same : T.fns.lookup ("_law_same" : Str) = some (⟨2, 2, b__law_same⟩ : Fn) := by kernel_rfl
theorem f__law_terms : T.fns.lookup ("_law_terms" : Str) = some (⟨2, 3, b__law_terms⟩ : Fn) := by kernel_rfl
theorem f__law_steps : T.fns.lookup ("_law_steps" : Str) = some (⟨1, 6, b__law_steps⟩ : Fn) := by kernel_rfl
theorem f__law_divisor : T.fns.lookup ("_law_divisor" : Str) = some (⟨2, 4, b__law_divisor⟩ : Fn) := by kernel_rfl
theorem f__law_low : T.fns.lookup ("_law_low" : Str) = some (⟨2, 3, b__law_low⟩ : Fn) := by kernel_rfl
theorem f__law_root : T.fns.lookup ("_law_root" : Str) = some (⟨1, 4, b__law_root⟩ : Fn) := by kernel_rfl
theorem f__law_bare : T.fns.lookup ("_law_bare" : Str) = some (⟨1, 6, b__law_bare⟩ : Fn) := by kernel_rfl
theorem f__law_table : T.fns.lookup ("_law_table" : Str) = some (⟨1, 6, b__law_table⟩ : Fn) := by kernel_rfl
theorem f__law_surd : T.fns.lookup ("_law_surd" : Str) = some (⟨4, 5, b__law_surd⟩ : Fn) := by kernel_rfl
theorem f__law_round_slope : T.fns.lookup ("_law_round_slope" : Str) = some (⟨2, 6, b__law_round_slope⟩ : Fn) := by kernel_rfl
theorem f__law_is_more : T.fns.lookup ("_law_is_more" : Str) = some (⟨2, 5, b__law_is_more⟩ : Fn) := by kernel_rfl
theorem f__law_limit : T.fns.lookup ("_law_limit" : Str) = some (⟨2, 15, b__law_limit⟩ : Fn) := by kernel_rfl
theorem f__law_some_terms : T.fns.lookup ("_law_some_terms" : Str) = some (⟨3, 4, b__law_some_terms⟩ : Fn) := by kernel_rfl
theorem f__law_chain : T.fns.lookup ("_law_chain" : Str) = some (⟨2, 5, b__law_chain⟩ : Fn) := by kernel_rfl
theorem f__law_otherwise : T.fns.lookup ("_law_otherwise" : Str) = some (⟨2, 6, b__law_otherwise⟩ : Fn) := by kernel_rfl
theorem f__law_are_slopes_right : T.fns.lookup ("_law_are_slopes_right" : Str) = some (⟨2, 12, b__law_are_slopes_right⟩ : Fn) := by kernel_rfl
theorem f__law_are_steps_right : T.fns.lookup ("_law_are_steps_right" : Str) = some (⟨3, 11, b__law_are_steps_right⟩ : Fn) := by kernel_rfl
theorem f__law_is_limit_right : T.fns.lookup ("_law_is_limit_right" : Str) = some (⟨3, 12, b__law_is_limit_right⟩ : Fn) := by kernel_rfl
theorem f_law : T.fns.lookup ("law" : Str) = some (⟨1, 11, b_law⟩ : Fn) := by kernel_rfl
end L81
end

section
set_option maxHeartbeats 0
namespace L81
open PySem PySem.Spec PyProof.Rows L2 Mn
def G : Gd := ⟨(["common", "whole_root", "root_parts", "lowest", "surd_sum", "surd_times", "surd_turned", "surd_back", "other_root", "surd_sign", "surd_order", "whole_part", "last_fractions", "slope_of", "chain_of", "slope_equation", "mirrored_chain", "term_of", "steps_to", "step_power", "step_at", "ahead_powers", "back_slope", "round_powers", "early_powers"] : List Str) ++
  (["power_limit", "limit_reached", "terms", "fractions", "fraction_at", "less_times", "nearness", "times_less", "longest_time", "greatest_repeat", "_law_bag", "_law_draw", "_law_pick", "_law_same", "_law_terms", "_law_steps", "_law_divisor", "_law_low", "_law_root", "_law_bare", "_law_table", "_law_surd", "_law_round_slope", "_law_is_more", "_law_limit"] : List Str) ++
  (["_law_some_terms", "_law_chain", "_law_otherwise", "_law_are_slopes_right", "_law_are_steps_right", "_law_is_limit_right", "law"] : List Str), true, []⟩
def top (i : Nat) : Stmt := PySem.Challenge.pw_linecuts_k81_whole_limits_by_chains.main.body.getD i (.Pass ⟨0, 0, 0, 0⟩)
theorem ck_common : chk G (["one", "other"] : List Str) (defScope (top 7)) (defBody (top 7)) b_common = true := by kernel_rfl
theorem sc_common : FnScope (["one", "other"] : List Str) (["one", "other"] : List Str) (defScope (top 7)) := ⟨rfl, rfl, rfl, by decide +kernel, rfl, by decide +kernel, by decide +kernel⟩
abbrev d_common : He.DefD := ⟨("common", none), "common", "common", defArgs (top 7), defBody (top 7), defScope (top 7), [], []⟩
theorem ck_whole_root : chk G (["number", "root", "later"] : List Str) (defScope (top 8)) (defBody (top 8)) b_whole_root = true := by kernel_rfl
theorem sc_whole_root : FnScope (["number", "root", "later"] : List Str) (["number"] : List Str) (defScope (top 8)) := ⟨rfl, rfl, rfl, by decide +kernel, rfl, by decide +kernel, by decide +kernel⟩
abbrev d_whole_root : He.DefD := ⟨("whole_root", none), "whole_root", "whole_root", defArgs (top 8), defBody (top 8), defScope (top 8), [], []⟩
theorem ck_root_parts : chk G (["number", "last", "root", "rest", "left", "p", "often", "turn"] : List Str) (defScope (top 10)) (defBody (top 10)) b_root_parts = true := by kernel_rfl
theorem sc_root_parts : FnScope (["number", "last", "root", "rest", "left", "p", "often", "turn"] : List Str) (["number"] : List Str) (defScope (top 10)) := ⟨rfl, rfl, rfl, by decide +kernel, rfl, by decide +kernel, by decide +kernel⟩
abbrev d_root_parts : He.DefD := ⟨("root_parts", none), "root_parts", "root_parts", defArgs (top 10), defBody (top 10), defScope (top 10), [], []⟩
theorem ck_lowest : chk G (["a", "b", "c", "d", "by"] : List Str) (defScope (top 11)) (defBody (top 11)) b_lowest = true := by kernel_rfl
theorem sc_lowest : FnScope (["a", "b", "c", "d", "by"] : List Str) (["a", "b", "c", "d"] : List Str) (defScope (top 11)) := ⟨rfl, rfl, rfl, by decide +kernel, rfl, by decide +kernel, by decide +kernel⟩
abbrev d_lowest : He.DefD := ⟨("lowest", none), "lowest", "lowest", defArgs (top 11), defBody (top 11), defScope (top 11), [], []⟩
theorem ck_surd_sum : chk G (["one", "other", "a"] : List Str) (defScope (top 12)) (defBody (top 12)) b_surd_sum = true := by kernel_rfl
theorem sc_surd_sum : FnScope (["one", "other", "a"] : List Str) (["one", "other"] : List Str) (defScope (top 12)) := ⟨rfl, rfl, rfl, by decide +kernel, rfl, by decide +kernel, by decide +kernel⟩
abbrev d_surd_sum : He.DefD := ⟨("surd_sum", none), "surd_sum", "surd_sum", defArgs (top 12), defBody (top 12), defScope (top 12), [], []⟩
theorem ck_surd_times : chk G (["one", "other", "d", "a"] : List Str) (defScope (top 13)) (defBody (top 13)) b_surd_times = true := by kernel_rfl
theorem sc_surd_times : FnScope (["one", "other", "d", "a"] : List Str) (["one", "other"] : List Str) (defScope (top 13)) := ⟨rfl, rfl, rfl, by decide +kernel, rfl, by decide +kernel, by decide +kernel⟩
abbrev d_surd_times : He.DefD := ⟨("surd_times", none), "surd_times", "surd_times", defArgs (top 13), defBody (top 13), defScope (top 13), [], []⟩
theorem ck_surd_turned : chk G (["one"] : List Str) (defScope (top 14)) (defBody (top 14)) b_surd_turned = true := by kernel_rfl
theorem sc_surd_turned : FnScope (["one"] : List Str) (["one"] : List Str) (defScope (top 14)) := ⟨rfl, rfl, rfl, by decide +kernel, rfl, by decide +kernel, by decide +kernel⟩
abbrev d_surd_turned : He.DefD := ⟨("surd_turned", none), "surd_turned", "surd_turned", defArgs (top 14), defBody (top 14), defScope (top 14), [], []⟩
theorem ck_surd_back : chk G (["one", "a", "b", "c", "d"] : List Str) (defScope (top 15)) (defBody (top 15)) b_surd_back = true := by kernel_rfl
theorem sc_surd_back : FnScope (["one", "a", "b", "c", "d"] : List Str) (["one"] : List Str) (defScope (top 15)) := ⟨rfl, rfl, rfl, by decide +kernel, rfl, by decide +kernel, by decide +kernel⟩
abbrev d_surd_back : He.DefD := ⟨("surd_back", none), "surd_back", "surd_back", defArgs (top 15), defBody (top 15), defScope (top 15), [], []⟩
theorem ck_other_root : chk G (["one"] : List Str) (defScope (top 16)) (defBody (top 16)) b_other_root = true := by kernel_rfl
theorem sc_other_root : FnScope (["one"] : List Str) (["one"] : List Str) (defScope (top 16)) := ⟨rfl, rfl, rfl, by decide +kernel, rfl, by decide +kernel, by decide +kernel⟩
abbrev d_other_root : He.DefD := ⟨("other_root", none), "other_root", "other_root", defArgs (top 16), defBody (top 16), defScope (top 16), [], []⟩
theorem ck_surd_sign : chk G (["one", "a", "b", "d"] : List Str) (defScope (top 18)) (defBody (top 18)) b_surd_sign = true := by kernel_rfl
theorem sc_surd_sign : FnScope (["one", "a", "b", "d"] : List Str) (["one"] : List Str) (defScope (top 18)) := ⟨rfl, rfl, rfl, by decide +kernel, rfl, by decide +kernel, by decide +kernel⟩
abbrev d_surd_sign : He.DefD := ⟨("surd_sign", none), "surd_sign", "surd_sign", defArgs (top 18), defBody (top 18), defScope (top 18), [], []⟩
theorem ck_surd_order : chk G (["one", "other"] : List Str) (defScope (top 19)) (defBody (top 19)) b_surd_order = true := by kernel_rfl
theorem sc_surd_order : FnScope (["one", "other"] : List Str) (["one", "other"] : List Str) (defScope (top 19)) := ⟨rfl, rfl, rfl, by decide +kernel, rfl, by decide +kernel, by decide +kernel⟩
abbrev d_surd_order : He.DefD := ⟨("surd_order", none), "surd_order", "surd_order", defArgs (top 19), defBody (top 19), defScope (top 19), [], []⟩
theorem ck_whole_part : chk G (["one", "root", "a", "b", "c", "d"] : List Str) (defScope (top 20)) (defBody (top 20)) b_whole_part = true := by kernel_rfl
theorem sc_whole_part : FnScope (["one", "root", "a", "b", "c", "d"] : List Str) (["one"] : List Str) (defScope (top 20)) := ⟨rfl, rfl, rfl, by decide +kernel, rfl, by decide +kernel, by decide +kernel⟩
abbrev d_whole_part : He.DefD := ⟨("whole_part", none), "whole_part", "whole_part", defArgs (top 20), defBody (top 20), defScope (top 20), [], []⟩
theorem ck_last_fractions : chk G (["row", "term", "ahead", "here"] : List Str) (defScope (top 22)) (defBody (top 22)) b_last_fractions = true := by kernel_rfl
theorem sc_last_fractions : FnScope (["row", "term", "ahead", "here"] : List Str) (["row"] : List Str) (defScope (top 22)) := ⟨rfl, rfl, rfl, by decide +kernel, rfl, by decide +kernel, by decide +kernel⟩
abbrev d_last_fractions : He.DefD := ⟨("last_fractions", none), "last_fractions", "last_fractions", defArgs (top 22), defBody (top 22), defScope (top 22), [], []⟩
theorem ck_slope_of : chk G (["chain", "slope", "above", "below", "ahead", "again", "by", "x", "y", "z", "root", "rest", "p", "q", "a", "b"] : List Str) (defScope (top 23)) (defBody (top 23)) b_slope_of = true := by kernel_rfl
theorem sc_slope_of : FnScope (["chain", "slope", "above", "below", "ahead", "again", "by", "x", "y", "z", "root", "rest", "p", "q", "a", "b"] : List Str) (["chain"] : List Str) (defScope (top 23)) := ⟨rfl, rfl, rfl, by decide +kernel, rfl, by decide +kernel, by decide +kernel⟩
abbrev d_slope_of : He.DefD := ⟨("slope_of", none), "slope_of", "slope_of", defArgs (top 23), defBody (top 23), defScope (top 23), [], []⟩
theorem ck_chain_of : chk G (["surd", "begin", "rest", "found", "seen", "turned"] : List Str) (defScope (top 24)) (defBody (top 24)) b_chain_of = true := by kernel_rfl
theorem sc_chain_of : FnScope (["surd", "begin", "rest", "found", "seen", "turned"] : List Str) (["surd"] : List Str) (defScope (top 24)) := ⟨rfl, rfl, rfl, by decide +kernel, rfl, by decide +kernel, by decide +kernel⟩
abbrev d_chain_of : He.DefD := ⟨("chain_of", none), "chain_of", "chain_of", defArgs (top 24), defBody (top 24), defScope (top 24), [], []⟩
theorem ck_slope_equation : chk G (["chain", "by", "a", "b", "c", "d", "x", "y", "z"] : List Str) (defScope (top 25)) (defBody (top 25)) b_slope_equation = true := by kernel_rfl
theorem sc_slope_equation : FnScope (["chain", "by", "a", "b", "c", "d", "x", "y", "z"] : List Str) (["chain"] : List Str) (defScope (top 25)) := ⟨rfl, rfl, rfl, by decide +kernel, rfl, by decide +kernel, by decide +kernel⟩
abbrev d_slope_equation : He.DefD := ⟨("slope_equation", none), "slope_equation", "slope_equation", defArgs (top 25), defBody (top 25), defScope (top 25), [], []⟩
theorem ck_mirrored_chain : chk G (["chain"] : List Str) (defScope (top 26)) (defBody (top 26)) b_mirrored_chain = true := by kernel_rfl
theorem sc_mirrored_chain : FnScope (["chain"] : List Str) (["chain"] : List Str) (defScope (top 26)) := ⟨rfl, rfl, rfl, by decide +kernel, rfl, by decide +kernel, by decide +kernel⟩
abbrev d_mirrored_chain : He.DefD := ⟨("mirrored_chain", none), "mirrored_chain", "mirrored_chain", defArgs (top 26), defBody (top 26), defScope (top 26), [], []⟩
theorem ck_term_of : chk G (["chain", "k", "ahead", "again"] : List Str) (defScope (top 28)) (defBody (top 28)) b_term_of = true := by kernel_rfl
theorem sc_term_of : FnScope (["chain", "k", "ahead", "again"] : List Str) (["chain", "k"] : List Str) (defScope (top 28)) := ⟨rfl, rfl, rfl, by decide +kernel, rfl, by decide +kernel, by decide +kernel⟩
abbrev d_term_of : He.DefD := ⟨("term_of", none), "term_of", "term_of", defArgs (top 28), defBody (top 28), defScope (top 28), [], []⟩
theorem ck_steps_to : chk G (["chain", "many", "k", "found", "below", "last"] : List Str) (defScope (top 29)) (defBody (top 29)) b_steps_to = true := by kernel_rfl
theorem sc_steps_to : FnScope (["chain", "many", "k", "found", "below", "last"] : List Str) (["chain", "many"] : List Str) (defScope (top 29)) := ⟨rfl, rfl, rfl, by decide +kernel, rfl, by decide +kernel, by decide +kernel⟩
abbrev d_steps_to : He.DefD := ⟨("steps_to", none), "steps_to", "steps_to", defArgs (top 29), defBody (top 29), defScope (top 29), [], []⟩
theorem ck_step_power : chk G (["chain", "k", "steps", "common", "long", "step"] : List Str) (defScope (top 31)) (defBody (top 31)) b_step_power = true := by kernel_rfl
theorem sc_step_power : FnScope (["chain", "k", "steps", "common", "long", "step"] : List Str) (["chain", "k"] : List Str) (defScope (top 31)) := ⟨rfl, rfl, rfl, by decide +kernel, rfl, by decide +kernel, by decide +kernel⟩
abbrev d_step_power : He.DefD := ⟨("step_power", none), "step_power", "step_power", defArgs (top 31), defBody (top 31), defScope (top 31), [], []⟩
theorem ck_step_at : chk G (["steps", "term", "k", "below"] : List Str) (defScope (top 32)) (defBody (top 32)) b_step_at = true := by kernel_rfl
theorem sc_step_at : FnScope (["steps", "term", "k", "below"] : List Str) (["steps", "term", "k"] : List Str) (defScope (top 32)) := ⟨rfl, rfl, rfl, by decide +kernel, rfl, by decide +kernel, by decide +kernel⟩
abbrev d_step_at : He.DefD := ⟨("step_at", none), "step_at", "step_at", defArgs (top 32), defBody (top 32), defScope (top 32), [], []⟩
theorem ck_ahead_powers : chk G (["chain", "steps", "k", "term"] : List Str) (defScope (top 33)) (defBody (top 33)) b_ahead_powers = true := by kernel_rfl
theorem sc_ahead_powers : FnScope (["chain", "steps", "k", "term"] : List Str) (["chain"] : List Str) (defScope (top 33)) := ⟨rfl, rfl, rfl, by decide +kernel, rfl, by decide +kernel, by decide +kernel⟩
abbrev d_ahead_powers : He.DefD := ⟨("ahead_powers", none), "ahead_powers", "ahead_powers", defArgs (top 33), defBody (top 33), defScope (top 33), [], []⟩
theorem ck_back_slope : chk G (["again", "i"] : List Str) (defScope (top 34)) (defBody (top 34)) b_back_slope = true := by kernel_rfl
theorem sc_back_slope : FnScope (["again", "i"] : List Str) (["again", "i"] : List Str) (defScope (top 34)) := ⟨rfl, rfl, rfl, by decide +kernel, rfl, by decide +kernel, by decide +kernel⟩
abbrev d_back_slope : He.DefD := ⟨("back_slope", none), "back_slope", "back_slope", defArgs (top 34), defBody (top 34), defScope (top 34), [], []⟩
theorem ck_round_powers : chk G (["chain", "again", "i", "term"] : List Str) (defScope (top 35)) (defBody (top 35)) b_round_powers = true := by kernel_rfl
theorem sc_round_powers : FnScope (["chain", "again", "i", "term"] : List Str) (["chain"] : List Str) (defScope (top 35)) := ⟨rfl, rfl, rfl, by decide +kernel, rfl, by decide +kernel, by decide +kernel⟩
abbrev d_round_powers : He.DefD := ⟨("round_powers", none), "round_powers", "round_powers", defArgs (top 35), defBody (top 35), defScope (top 35), [], []⟩
theorem ck_early_powers : chk G (["chain", "slopes", "first", "again", "found", "k", "is_far", "below", "off", "i", "steps"] : List Str) (defScope (top 36)) (defBody (top 36)) b_early_powers = true := by kernel_rfl
theorem sc_early_powers : FnScope (["chain", "slopes", "first", "again", "found", "k", "is_far", "below", "off", "i", "steps"] : List Str) (["chain"] : List Str) (defScope (top 36)) := ⟨rfl, rfl, rfl, by decide +kernel, rfl, by decide +kernel, by decide +kernel⟩
abbrev d_early_powers : He.DefD := ⟨("early_powers", none), "early_powers", "early_powers", defArgs (top 36), defBody (top 36), defScope (top 36), [], []⟩
theorem ck_power_limit : chk G (["chain", "some", "found", "own"] : List Str) (defScope (top 37)) (defBody (top 37)) b_power_limit = true := by kernel_rfl
theorem sc_power_limit : FnScope (["chain", "some", "found", "own"] : List Str) (["chain"] : List Str) (defScope (top 37)) := ⟨rfl, rfl, rfl, by decide +kernel, rfl, by decide +kernel, by decide +kernel⟩
abbrev d_power_limit : He.DefD := ⟨("power_limit", none), "power_limit", "power_limit", defArgs (top 37), defBody (top 37), defScope (top 37), [], []⟩
theorem ck_limit_reached : chk G (["chain"] : List Str) (defScope (top 38)) (defBody (top 38)) b_limit_reached = true := by kernel_rfl
theorem sc_limit_reached : FnScope (["chain"] : List Str) (["chain"] : List Str) (defScope (top 38)) := ⟨rfl, rfl, rfl, by decide +kernel, rfl, by decide +kernel, by decide +kernel⟩
abbrev d_limit_reached : He.DefD := ⟨("limit_reached", none), "limit_reached", "limit_reached", defArgs (top 38), defBody (top 38), defScope (top 38), [], []⟩
theorem ck_terms : chk G (["chain", "many", "times", "ahead", "again"] : List Str) (defScope (top 40)) (defBody (top 40)) b_terms = true := by kernel_rfl
theorem sc_terms : FnScope (["chain", "many", "times", "ahead", "again"] : List Str) (["chain", "many"] : List Str) (defScope (top 40)) := ⟨rfl, rfl, rfl, by decide +kernel, rfl, by decide +kernel, by decide +kernel⟩
abbrev d_terms : He.DefD := ⟨("terms", none), "terms", "terms", defArgs (top 40), defBody (top 40), defScope (top 40), [], []⟩
theorem ck_fractions : chk G (["chain", "many", "term", "found", "p", "q", "here"] : List Str) (defScope (top 42)) (defBody (top 42)) b_fractions = true := by kernel_rfl
theorem sc_fractions : FnScope (["chain", "many", "term", "found", "p", "q", "here"] : List Str) (["chain", "many"] : List Str) (defScope (top 42)) := ⟨rfl, rfl, rfl, by decide +kernel, rfl, by decide +kernel, by decide +kernel⟩
abbrev d_fractions : He.DefD := ⟨("fractions", none), "fractions", "fractions", defArgs (top 42), defBody (top 42), defScope (top 42), [], []⟩
theorem ck_fraction_at : chk G (["chain", "k"] : List Str) (defScope (top 43)) (defBody (top 43)) b_fraction_at = true := by kernel_rfl
theorem sc_fraction_at : FnScope (["chain", "k"] : List Str) (["chain", "k"] : List Str) (defScope (top 43)) := ⟨rfl, rfl, rfl, by decide +kernel, rfl, by decide +kernel, by decide +kernel⟩
abbrev d_fraction_at : He.DefD := ⟨("fraction_at", none), "fraction_at", "fraction_at", defArgs (top 43), defBody (top 43), defScope (top 43), [], []⟩
theorem ck_less_times : chk G (["one", "many", "other"] : List Str) (defScope (top 45)) (defBody (top 45)) b_less_times = true := by kernel_rfl
theorem sc_less_times : FnScope (["one", "many", "other"] : List Str) (["one", "many", "other"] : List Str) (defScope (top 45)) := ⟨rfl, rfl, rfl, by decide +kernel, rfl, by decide +kernel, by decide +kernel⟩
abbrev d_less_times : He.DefD := ⟨("less_times", none), "less_times", "less_times", defArgs (top 45), defBody (top 45), defScope (top 45), [], []⟩
theorem ck_nearness : chk G (["slope", "m", "found", "back"] : List Str) (defScope (top 47)) (defBody (top 47)) b_nearness = true := by kernel_rfl
theorem sc_nearness : FnScope (["slope", "m", "found", "back"] : List Str) (["slope", "m"] : List Str) (defScope (top 47)) := ⟨rfl, rfl, rfl, by decide +kernel, rfl, by decide +kernel, by decide +kernel⟩
abbrev d_nearness : He.DefD := ⟨("nearness", none), "nearness", "nearness", defArgs (top 47), defBody (top 47), defScope (top 47), [], []⟩
theorem ck_times_less : chk G (["far", "near", "arc", "is_met", "many"] : List Str) (defScope (top 48)) (defBody (top 48)) b_times_less = true := by kernel_rfl
theorem sc_times_less : FnScope (["far", "near", "arc", "is_met", "many"] : List Str) (["far", "near", "arc", "is_met"] : List Str) (defScope (top 48)) := ⟨rfl, rfl, rfl, by decide +kernel, rfl, by decide +kernel, by decide +kernel⟩
abbrev d_times_less : He.DefD := ⟨("times_less", none), "times_less", "times_less", defArgs (top 48), defBody (top 48), defScope (top 48), [], []⟩
theorem ck_longest_time : chk G (["slope", "arc", "a", "b", "low", "high", "ups", "downs", "many"] : List Str) (defScope (top 49)) (defBody (top 49)) b_longest_time = true := by kernel_rfl
theorem sc_longest_time : FnScope (["slope", "arc", "a", "b", "low", "high", "ups", "downs", "many"] : List Str) (["slope", "arc"] : List Str) (defScope (top 49)) := ⟨rfl, rfl, rfl, by decide +kernel, rfl, by decide +kernel, by decide +kernel⟩
abbrev d_longest_time : He.DefD := ⟨("longest_time", none), "longest_time", "longest_time", defArgs (top 49), defBody (top 49), defScope (top 49), [], []⟩
theorem ck_greatest_repeat : chk G (["chain", "m", "slope"] : List Str) (defScope (top 50)) (defBody (top 50)) b_greatest_repeat = true := by kernel_rfl
theorem sc_greatest_repeat : FnScope (["chain", "m", "slope"] : List Str) (["chain", "m"] : List Str) (defScope (top 50)) := ⟨rfl, rfl, rfl, by decide +kernel, rfl, by decide +kernel, by decide +kernel⟩
abbrev d_greatest_repeat : He.DefD := ⟨("greatest_repeat", none), "greatest_repeat", "greatest_repeat", defArgs (top 50), defBody (top 50), defScope (top 50), [], []⟩
theorem ck__law_bag : chk G (["script", "cells", "mixed", "cell"] : List Str) (defScope (top 52)) (defBody (top 52)) b__law_bag = true := by kernel_rfl
theorem sc__law_bag : FnScope (["script", "cells", "mixed", "cell"] : List Str) (["script"] : List Str) (defScope (top 52)) := ⟨rfl, rfl, rfl, by decide +kernel, rfl, by decide +kernel, by decide +kernel⟩
abbrev d__law_bag : He.DefD := ⟨("_law_bag", none), "_law_bag", "_law_bag", defArgs (top 52), defBody (top 52), defScope (top 52), [], []⟩
theorem ck__law_draw : chk G (["bag", "below", "cell", "found"] : List Str) (defScope (top 53)) (defBody (top 53)) b__law_draw = true := by kernel_rfl
theorem sc__law_draw : FnScope (["bag", "below", "cell", "found"] : List Str) (["bag", "below"] : List Str) (defScope (top 53)) := ⟨rfl, rfl, rfl, by decide +kernel, rfl, by decide +kernel, by decide +kernel⟩
abbrev d__law_draw : He.DefD := ⟨("_law_draw", none), "_law_draw", "_law_draw", defArgs (top 53), defBody (top 53), defScope (top 53), [], []⟩
theorem ck__law_pick : chk G (["bag", "some"] : List Str) (defScope (top 54)) (defBody (top 54)) b__law_pick = true := by kernel_rfl
theorem sc__law_pick : FnScope (["bag", "some"] : List Str) (["bag", "some"] : List Str) (defScope (top 54)) := ⟨rfl, rfl, rfl, by decide +kernel, rfl, by decide +kernel, by decide +kernel⟩
abbrev d__law_pick : He.DefD := ⟨("_law_pick", none), "_law_pick", "_law_pick", defArgs (top 54), defBody (top 54), defScope (top 54), [], []⟩
theorem ck__law_same : chk G (["told", "due"] : List Str) (defScope (top 55)) (defBody (top 55)) b__law_same = true := by kernel_rfl
theorem sc__law_same : FnScope (["told", "due"] : List Str) (["told", "due"] : List Str) (defScope (top 55)) := ⟨rfl, rfl, rfl, by decide +kernel, rfl, by decide +kernel, by decide +kernel⟩
abbrev d__law_same : He.DefD := ⟨("_law_same", none), "_law_same", "_law_same", defArgs (top 55), defBody (top 55), defScope (top 55), [], []⟩
theorem ck__law_terms : chk G (["chain", "many", "found"] : List Str) (defScope (top 56)) (defBody (top 56)) b__law_terms = true := by kernel_rfl
theorem sc__law_terms : FnScope (["chain", "many", "found"] : List Str) (["chain", "many"] : List Str) (defScope (top 56)) := ⟨rfl, rfl, rfl, by decide +kernel, rfl, by decide +kernel, by decide +kernel⟩
abbrev d__law_terms : He.DefD := ⟨("_law_terms", none), "_law_terms", "_law_terms", defArgs (top 56), defBody (top 56), defScope (top 56), [], []⟩
theorem ck__law_steps : chk G (["terms_v", "a", "found", "p", "q", "last"] : List Str) (defScope (top 57)) (defBody (top 57)) b__law_steps = true := by kernel_rfl
theorem sc__law_steps : FnScope (["terms_v", "a", "found", "p", "q", "last"] : List Str) (["terms_v"] : List Str) (defScope (top 57)) := ⟨rfl, rfl, rfl, by decide +kernel, rfl, by decide +kernel, by decide +kernel⟩
abbrev d__law_steps : He.DefD := ⟨("_law_steps", none), "_law_steps", "_law_steps", defArgs (top 57), defBody (top 57), defScope (top 57), [], []⟩
theorem ck__law_divisor : chk G (["one", "other", "a", "b"] : List Str) (defScope (top 58)) (defBody (top 58)) b__law_divisor = true := by kernel_rfl
theorem sc__law_divisor : FnScope (["one", "other", "a", "b"] : List Str) (["one", "other"] : List Str) (defScope (top 58)) := ⟨rfl, rfl, rfl, by decide +kernel, rfl, by decide +kernel, by decide +kernel⟩
abbrev d__law_divisor : He.DefD := ⟨("_law_divisor", none), "_law_divisor", "_law_divisor", defArgs (top 58), defBody (top 58), defScope (top 58), [], []⟩
theorem ck__law_low : chk G (["p", "q", "g"] : List Str) (defScope (top 59)) (defBody (top 59)) b__law_low = true := by kernel_rfl
theorem sc__law_low : FnScope (["p", "q", "g"] : List Str) (["p", "q"] : List Str) (defScope (top 59)) := ⟨rfl, rfl, rfl, by decide +kernel, rfl, by decide +kernel, by decide +kernel⟩
abbrev d__law_low : He.DefD := ⟨("_law_low", none), "_law_low", "_law_low", defArgs (top 59), defBody (top 59), defScope (top 59), [], []⟩
theorem ck__law_root : chk G (["n", "low", "high", "middle"] : List Str) (defScope (top 60)) (defBody (top 60)) b__law_root = true := by kernel_rfl
theorem sc__law_root : FnScope (["n", "low", "high", "middle"] : List Str) (["n"] : List Str) (defScope (top 60)) := ⟨rfl, rfl, rfl, by decide +kernel, rfl, by decide +kernel, by decide +kernel⟩
abbrev d__law_root : He.DefD := ⟨("_law_root", none), "_law_root", "_law_root", defArgs (top 60), defBody (top 60), defScope (top 60), [], []⟩
theorem ck__law_bare : chk G (["n", "root", "factor", "rest", "left", "f"] : List Str) (defScope (top 61)) (defBody (top 61)) b__law_bare = true := by kernel_rfl
theorem sc__law_bare : FnScope (["n", "root", "factor", "rest", "left", "f"] : List Str) (["n"] : List Str) (defScope (top 61)) := ⟨rfl, rfl, rfl, by decide +kernel, rfl, by decide +kernel, by decide +kernel⟩
abbrev d__law_bare : He.DefD := ⟨("_law_bare", none), "_law_bare", "_law_bare", defArgs (top 61), defBody (top 61), defScope (top 61), [], []⟩
theorem ck__law_table : chk G (["again", "term", "a", "b", "c", "d"] : List Str) (defScope (top 62)) (defBody (top 62)) b__law_table = true := by kernel_rfl
theorem sc__law_table : FnScope (["again", "term", "a", "b", "c", "d"] : List Str) (["again"] : List Str) (defScope (top 62)) := ⟨rfl, rfl, rfl, by decide +kernel, rfl, by decide +kernel, by decide +kernel⟩
abbrev d__law_table : He.DefD := ⟨("_law_table", none), "_law_table", "_law_table", defArgs (top 62), defBody (top 62), defScope (top 62), [], []⟩
theorem ck__law_surd : chk G (["a", "b", "c", "rest", "g"] : List Str) (defScope (top 63)) (defBody (top 63)) b__law_surd = true := by kernel_rfl
theorem sc__law_surd : FnScope (["a", "b", "c", "rest", "g"] : List Str) (["a", "b", "c", "rest"] : List Str) (defScope (top 63)) := ⟨rfl, rfl, rfl, by decide +kernel, rfl, by decide +kernel, by decide +kernel⟩
abbrev d__law_surd : He.DefD := ⟨("_law_surd", none), "_law_surd", "_law_surd", defArgs (top 63), defBody (top 63), defScope (top 63), [], []⟩
theorem ck__law_round_slope : chk G (["again", "bare", "a", "b", "c", "d"] : List Str) (defScope (top 64)) (defBody (top 64)) b__law_round_slope = true := by kernel_rfl
theorem sc__law_round_slope : FnScope (["again", "bare", "a", "b", "c", "d"] : List Str) (["again", "bare"] : List Str) (defScope (top 64)) := ⟨rfl, rfl, rfl, by decide +kernel, rfl, by decide +kernel, by decide +kernel⟩
abbrev d__law_round_slope : He.DefD := ⟨("_law_round_slope", none), "_law_round_slope", "_law_round_slope", defArgs (top 64), defBody (top 64), defScope (top 64), [], []⟩
theorem ck__law_is_more : chk G (["one", "other", "d", "a", "b"] : List Str) (defScope (top 65)) (defBody (top 65)) b__law_is_more = true := by kernel_rfl
theorem sc__law_is_more : FnScope (["one", "other", "d", "a", "b"] : List Str) (["one", "other"] : List Str) (defScope (top 65)) := ⟨rfl, rfl, rfl, by decide +kernel, rfl, by decide +kernel, by decide +kernel⟩
abbrev d__law_is_more : He.DefD := ⟨("_law_is_more", none), "_law_is_more", "_law_is_more", defArgs (top 65), defBody (top 65), defScope (top 65), [], []⟩
theorem ck__law_limit : chk G (["chain", "bare", "again", "best", "terms_v", "steps", "i", "a", "turned", "slope", "own", "k", "before", "p", "q"] : List Str) (defScope (top 66)) (defBody (top 66)) b__law_limit = true := by kernel_rfl
theorem sc__law_limit : FnScope (["chain", "bare", "again", "best", "terms_v", "steps", "i", "a", "turned", "slope", "own", "k", "before", "p", "q"] : List Str) (["chain", "bare"] : List Str) (defScope (top 66)) := ⟨rfl, rfl, rfl, by decide +kernel, rfl, by decide +kernel, by decide +kernel⟩
abbrev d__law_limit : He.DefD := ⟨("_law_limit", none), "_law_limit", "_law_limit", defArgs (top 66), defBody (top 66), defScope (top 66), [], []⟩
theorem ck__law_some_terms : chk G (["bag", "most", "top", "turn"] : List Str) (defScope (top 67)) (defBody (top 67)) b__law_some_terms = true := by kernel_rfl
theorem sc__law_some_terms : FnScope (["bag", "most", "top", "turn"] : List Str) (["bag", "most", "top"] : List Str) (defScope (top 67)) := ⟨rfl, rfl, rfl, by decide +kernel, rfl, by decide +kernel, by decide +kernel⟩
abbrev d__law_some_terms : He.DefD := ⟨("_law_some_terms", none), "_law_some_terms", "_law_some_terms", defArgs (top 67), defBody (top 67), defScope (top 67), [], []⟩
theorem ck__law_chain : chk G (["bag", "is_great", "ahead", "top", "again"] : List Str) (defScope (top 68)) (defBody (top 68)) b__law_chain = true := by kernel_rfl
theorem sc__law_chain : FnScope (["bag", "is_great", "ahead", "top", "again"] : List Str) (["bag", "is_great"] : List Str) (defScope (top 68)) := ⟨rfl, rfl, rfl, by decide +kernel, rfl, by decide +kernel, by decide +kernel⟩
abbrev d__law_chain : He.DefD := ⟨("_law_chain", none), "_law_chain", "_law_chain", defArgs (top 68), defBody (top 68), defScope (top 68), [], []⟩
theorem ck__law_otherwise : chk G (["bag", "chain", "turn", "most", "ahead", "again"] : List Str) (defScope (top 69)) (defBody (top 69)) b__law_otherwise = true := by kernel_rfl
theorem sc__law_otherwise : FnScope (["bag", "chain", "turn", "most", "ahead", "again"] : List Str) (["bag", "chain"] : List Str) (defScope (top 69)) := ⟨rfl, rfl, rfl, by decide +kernel, rfl, by decide +kernel, by decide +kernel⟩
abbrev d__law_otherwise : He.DefD := ⟨("_law_otherwise", none), "_law_otherwise", "_law_otherwise", defArgs (top 69), defBody (top 69), defScope (top 69), [], []⟩
theorem ck__law_are_slopes_right : chk G (["again", "bare", "told", "g", "one", "turned", "due", "other", "a", "b", "c", "d"] : List Str) (defScope (top 70)) (defBody (top 70)) b__law_are_slopes_right = true := by kernel_rfl
theorem sc__law_are_slopes_right : FnScope (["again", "bare", "told", "g", "one", "turned", "due", "other", "a", "b", "c", "d"] : List Str) (["again", "bare"] : List Str) (defScope (top 70)) := ⟨rfl, rfl, rfl, by decide +kernel, rfl, by decide +kernel, by decide +kernel⟩
abbrev d__law_are_slopes_right : He.DefD := ⟨("_law_are_slopes_right", none), "_law_are_slopes_right", "_law_are_slopes_right", defArgs (top 70), defBody (top 70), defScope (top 70), [], []⟩
theorem ck__law_are_steps_right : chk G (["bag", "chain", "limit", "steps", "is_met", "k", "due", "told", "order", "q", "after"] : List Str) (defScope (top 71)) (defBody (top 71)) b__law_are_steps_right = true := by kernel_rfl
theorem sc__law_are_steps_right : FnScope (["bag", "chain", "limit", "steps", "is_met", "k", "due", "told", "order", "q", "after"] : List Str) (["bag", "chain", "limit"] : List Str) (defScope (top 71)) := ⟨rfl, rfl, rfl, by decide +kernel, rfl, by decide +kernel, by decide +kernel⟩
abbrev d__law_are_steps_right : He.DefD := ⟨("_law_are_steps_right", none), "_law_are_steps_right", "_law_are_steps_right", defArgs (top 71), defBody (top 71), defScope (top 71), [], []⟩
theorem ck__law_is_limit_right : chk G (["bag", "chain", "bare", "other", "told", "reached", "kept", "due", "found", "i", "a", "turned"] : List Str) (defScope (top 72)) (defBody (top 72)) b__law_is_limit_right = true := by kernel_rfl
theorem sc__law_is_limit_right : FnScope (["bag", "chain", "bare", "other", "told", "reached", "kept", "due", "found", "i", "a", "turned"] : List Str) (["bag", "chain", "bare"] : List Str) (defScope (top 72)) := ⟨rfl, rfl, rfl, by decide +kernel, rfl, by decide +kernel, by decide +kernel⟩
abbrev d__law_is_limit_right : He.DefD := ⟨("_law_is_limit_right", none), "_law_is_limit_right", "_law_is_limit_right", defArgs (top 72), defBody (top 72), defScope (top 72), [], []⟩
theorem ck_law : chk G (["script", "bag", "great", "turn", "golden", "chain", "bare", "a", "b", "c", "d"] : List Str) (defScope (top 73)) (defBody (top 73)) b_law = true := by kernel_rfl
theorem sc_law : FnScope (["script", "bag", "great", "turn", "golden", "chain", "bare", "a", "b", "c", "d"] : List Str) (["script"] : List Str) (defScope (top 73)) := ⟨rfl, rfl, rfl, by decide +kernel, rfl, by decide +kernel, by decide +kernel⟩
abbrev d_law : He.DefD := ⟨("law", none), "law", "law", defArgs (top 73), defBody (top 73), defScope (top 73), [], []⟩
def fn : List He.DefD := ([d_common, d_whole_root, d_root_parts, d_lowest, d_surd_sum, d_surd_times, d_surd_turned, d_surd_back, d_other_root, d_surd_sign, d_surd_order, d_whole_part, d_last_fractions, d_slope_of, d_chain_of, d_slope_equation, d_mirrored_chain, d_term_of, d_steps_to, d_step_power, d_step_at, d_ahead_powers, d_back_slope, d_round_powers, d_early_powers] : List He.DefD) ++
  ([d_power_limit, d_limit_reached, d_terms, d_fractions, d_fraction_at, d_less_times, d_nearness, d_times_less, d_longest_time, d_greatest_repeat, d__law_bag, d__law_draw, d__law_pick, d__law_same, d__law_terms, d__law_steps, d__law_divisor, d__law_low, d__law_root, d__law_bare, d__law_table, d__law_surd, d__law_round_slope, d__law_is_more, d__law_limit] : List He.DefD) ++
  ([d__law_some_terms, d__law_chain, d__law_otherwise, d__law_are_slopes_right, d__law_are_steps_right, d__law_is_limit_right, d_law] : List He.DefD)
def faG : List He.Fa := ([.glo "common", .glo "whole_root", .glo "root_parts", .glo "lowest", .glo "surd_sum", .glo "surd_times", .glo "surd_turned", .glo "surd_back", .glo "other_root", .glo "surd_sign", .glo "surd_order", .glo "whole_part", .glo "last_fractions", .glo "slope_of", .glo "chain_of", .glo "slope_equation", .glo "mirrored_chain", .glo "term_of", .glo "steps_to", .glo "step_power", .glo "step_at", .glo "ahead_powers", .glo "back_slope", .glo "round_powers", .glo "early_powers"] : List He.Fa) ++
  ([.glo "power_limit", .glo "limit_reached", .glo "terms", .glo "fractions", .glo "fraction_at", .glo "less_times", .glo "nearness", .glo "times_less", .glo "longest_time", .glo "greatest_repeat", .glo "_law_bag", .glo "_law_draw", .glo "_law_pick", .glo "_law_same", .glo "_law_terms", .glo "_law_steps", .glo "_law_divisor", .glo "_law_low", .glo "_law_root", .glo "_law_bare", .glo "_law_table", .glo "_law_surd", .glo "_law_round_slope", .glo "_law_is_more", .glo "_law_limit"] : List He.Fa) ++
  ([.glo "_law_some_terms", .glo "_law_chain", .glo "_law_otherwise", .glo "_law_are_slopes_right", .glo "_law_are_steps_right", .glo "_law_is_limit_right", .glo "law"] : List He.Fa)
def faB : List He.Fa := ([.free "abs", .free "max", .free "min", .free "len", .free "int", .free "list", .free "tuple", .free "repr", .free "sum", .free "all", .free "any", .free "reversed", .free "range", .free "enumerate", .free "zip", .free "isinstance", .free "bool", .free "str", .free "dict"] : List He.Fa)
def faI : List He.Fa := ([.int "MAX_CHAINED" 200] : List He.Fa)
def fa : List He.Fa := faG ++ (faB ++ faI)
def ex : PySem.W.Frag → Bool := gcdB
abbrev R : PySem.W.OpenRow := PySem.W.OpenLaw.row PySem.Challenge.rw_linecuts_k81_whole_limits_by_chains
abbrev hk : PySem.W.Hook := hookM 4 fa fn ex
def loose : List Str := (["gcd", "MAX_CHAINED", "LineError", "Unfit", "TooMany", "common", "whole_root", "root_parts", "lowest", "surd_sum", "surd_times", "surd_turned", "surd_back", "other_root", "surd_sign", "surd_order", "whole_part", "last_fractions", "slope_of", "chain_of", "slope_equation", "mirrored_chain", "term_of", "steps_to", "step_power"] : List Str) ++
  (["step_at", "ahead_powers", "back_slope", "round_powers", "early_powers", "power_limit", "limit_reached", "terms", "fractions", "fraction_at", "less_times", "nearness", "times_less", "longest_time", "greatest_repeat", "_law_bag", "_law_draw", "_law_pick", "_law_same", "_law_terms", "_law_steps", "_law_divisor", "_law_low", "_law_root", "_law_bare"] : List Str) ++
  (["_law_table", "_law_surd", "_law_round_slope", "_law_is_more", "_law_limit", "_law_some_terms", "_law_chain", "_law_otherwise", "_law_are_slopes_right", "_law_are_steps_right", "_law_is_limit_right"] : List Str)
theorem run (w : World) : HandSHeadRun.RunEqI R (PySem.W.view R.prog [0, 73]) hk (obM 4 fa fn ex) 4000 loose w := by
  unfold HandSHeadRun.RunEqI
  kernel_rfl
theorem ok_common {K : PySem.W.Frag} {h : Heap} {mg : Str → Option Value} (X : K.In h) (Gn : h.Ns mainGlobals mg) (c : He.SaysD fa fn K) : Nonempty (DefOk G T K mg "common" ⟨2, 2, b_common⟩) := by
  obtain ⟨fd, F⟩ := c.def_ 0 (d := d_common) (by kernel_rfl)
  exact ⟨⟨_, fd, _, _, _, _, _, _, He.glo_ok X Gn (c.fact 0 (f := .glo "common") (by kernel_rfl)), F, sc_common, rfl, rfl,
    F.bindsN fun _ _ _ _ _ _ us hl => (match us, hl with | [_, _], _ => rfl),
    kw_no (by decide +kernel), ck_common⟩⟩
theorem ok_whole_root {K : PySem.W.Frag} {h : Heap} {mg : Str → Option Value} (X : K.In h) (Gn : h.Ns mainGlobals mg) (c : He.SaysD fa fn K) : Nonempty (DefOk G T K mg "whole_root" ⟨1, 3, b_whole_root⟩) := by
  obtain ⟨fd, F⟩ := c.def_ 1 (d := d_whole_root) (by kernel_rfl)
  exact ⟨⟨_, fd, _, _, _, _, _, _, He.glo_ok X Gn (c.fact 1 (f := .glo "whole_root") (by kernel_rfl)), F, sc_whole_root, rfl, rfl,
    F.bindsN fun _ _ _ _ _ _ us hl => (match us, hl with | [_], _ => rfl),
    kw_no (by decide +kernel), ck_whole_root⟩⟩
theorem ok_root_parts {K : PySem.W.Frag} {h : Heap} {mg : Str → Option Value} (X : K.In h) (Gn : h.Ns mainGlobals mg) (c : He.SaysD fa fn K) : Nonempty (DefOk G T K mg "root_parts" ⟨1, 8, b_root_parts⟩) := by
  obtain ⟨fd, F⟩ := c.def_ 2 (d := d_root_parts) (by kernel_rfl)
  exact ⟨⟨_, fd, _, _, _, _, _, _, He.glo_ok X Gn (c.fact 2 (f := .glo "root_parts") (by kernel_rfl)), F, sc_root_parts, rfl, rfl,
    F.bindsN fun _ _ _ _ _ _ us hl => (match us, hl with | [_], _ => rfl),
    kw_no (by decide +kernel), ck_root_parts⟩⟩
theorem ok_lowest {K : PySem.W.Frag} {h : Heap} {mg : Str → Option Value} (X : K.In h) (Gn : h.Ns mainGlobals mg) (c : He.SaysD fa fn K) : Nonempty (DefOk G T K mg "lowest" ⟨4, 5, b_lowest⟩) := by
  obtain ⟨fd, F⟩ := c.def_ 3 (d := d_lowest) (by kernel_rfl)
  exact ⟨⟨_, fd, _, _, _, _, _, _, He.glo_ok X Gn (c.fact 3 (f := .glo "lowest") (by kernel_rfl)), F, sc_lowest, rfl, rfl,
    F.bindsN fun _ _ _ _ _ _ us hl => (match us, hl with | [_, _, _, _], _ => rfl),
    kw_no (by decide +kernel), ck_lowest⟩⟩
theorem ok_surd_sum {K : PySem.W.Frag} {h : Heap} {mg : Str → Option Value} (X : K.In h) (Gn : h.Ns mainGlobals mg) (c : He.SaysD fa fn K) : Nonempty (DefOk G T K mg "surd_sum" ⟨2, 3, b_surd_sum⟩) := by
  obtain ⟨fd, F⟩ := c.def_ 4 (d := d_surd_sum) (by kernel_rfl)
  exact ⟨⟨_, fd, _, _, _, _, _, _, He.glo_ok X Gn (c.fact 4 (f := .glo "surd_sum") (by kernel_rfl)), F, sc_surd_sum, rfl, rfl,
    F.bindsN fun _ _ _ _ _ _ us hl => (match us, hl with | [_, _], _ => rfl),
    kw_no (by decide +kernel), ck_surd_sum⟩⟩
theorem ok_surd_times {K : PySem.W.Frag} {h : Heap} {mg : Str → Option Value} (X : K.In h) (Gn : h.Ns mainGlobals mg) (c : He.SaysD fa fn K) : Nonempty (DefOk G T K mg "surd_times" ⟨2, 4, b_surd_times⟩) := by
  obtain ⟨fd, F⟩ := c.def_ 5 (d := d_surd_times) (by kernel_rfl)
  exact ⟨⟨_, fd, _, _, _, _, _, _, He.glo_ok X Gn (c.fact 5 (f := .glo "surd_times") (by kernel_rfl)), F, sc_surd_times, rfl, rfl,
    F.bindsN fun _ _ _ _ _ _ us hl => (match us, hl with | [_, _], _ => rfl),
    kw_no (by decide +kernel), ck_surd_times⟩⟩
theorem ok_surd_turned {K : PySem.W.Frag} {h : Heap} {mg : Str → Option Value} (X : K.In h) (Gn : h.Ns mainGlobals mg) (c : He.SaysD fa fn K) : Nonempty (DefOk G T K mg "surd_turned" ⟨1, 1, b_surd_turned⟩) := by
  obtain ⟨fd, F⟩ := c.def_ 6 (d := d_surd_turned) (by kernel_rfl)
  exact ⟨⟨_, fd, _, _, _, _, _, _, He.glo_ok X Gn (c.fact 6 (f := .glo "surd_turned") (by kernel_rfl)), F, sc_surd_turned, rfl, rfl,
    F.bindsN fun _ _ _ _ _ _ us hl => (match us, hl with | [_], _ => rfl),
    kw_no (by decide +kernel), ck_surd_turned⟩⟩
theorem ok_surd_back {K : PySem.W.Frag} {h : Heap} {mg : Str → Option Value} (X : K.In h) (Gn : h.Ns mainGlobals mg) (c : He.SaysD fa fn K) : Nonempty (DefOk G T K mg "surd_back" ⟨1, 5, b_surd_back⟩) := by
  obtain ⟨fd, F⟩ := c.def_ 7 (d := d_surd_back) (by kernel_rfl)
  exact ⟨⟨_, fd, _, _, _, _, _, _, He.glo_ok X Gn (c.fact 7 (f := .glo "surd_back") (by kernel_rfl)), F, sc_surd_back, rfl, rfl,
    F.bindsN fun _ _ _ _ _ _ us hl => (match us, hl with | [_], _ => rfl),
    kw_no (by decide +kernel), ck_surd_back⟩⟩
theorem ok_other_root {K : PySem.W.Frag} {h : Heap} {mg : Str → Option Value} (X : K.In h) (Gn : h.Ns mainGlobals mg) (c : He.SaysD fa fn K) : Nonempty (DefOk G T K mg "other_root" ⟨1, 1, b_other_root⟩) := by
  obtain ⟨fd, F⟩ := c.def_ 8 (d := d_other_root) (by kernel_rfl)
  exact ⟨⟨_, fd, _, _, _, _, _, _, He.glo_ok X Gn (c.fact 8 (f := .glo "other_root") (by kernel_rfl)), F, sc_other_root, rfl, rfl,
    F.bindsN fun _ _ _ _ _ _ us hl => (match us, hl with | [_], _ => rfl),
    kw_no (by decide +kernel), ck_other_root⟩⟩
theorem ok_surd_sign {K : PySem.W.Frag} {h : Heap} {mg : Str → Option Value} (X : K.In h) (Gn : h.Ns mainGlobals mg) (c : He.SaysD fa fn K) : Nonempty (DefOk G T K mg "surd_sign" ⟨1, 4, b_surd_sign⟩) := by
  obtain ⟨fd, F⟩ := c.def_ 9 (d := d_surd_sign) (by kernel_rfl)
  exact ⟨⟨_, fd, _, _, _, _, _, _, He.glo_ok X Gn (c.fact 9 (f := .glo "surd_sign") (by kernel_rfl)), F, sc_surd_sign, rfl, rfl,
    F.bindsN fun _ _ _ _ _ _ us hl => (match us, hl with | [_], _ => rfl),
    kw_no (by decide +kernel), ck_surd_sign⟩⟩
theorem ok_surd_order {K : PySem.W.Frag} {h : Heap} {mg : Str → Option Value} (X : K.In h) (Gn : h.Ns mainGlobals mg) (c : He.SaysD fa fn K) : Nonempty (DefOk G T K mg "surd_order" ⟨2, 2, b_surd_order⟩) := by
  obtain ⟨fd, F⟩ := c.def_ 10 (d := d_surd_order) (by kernel_rfl)
  exact ⟨⟨_, fd, _, _, _, _, _, _, He.glo_ok X Gn (c.fact 10 (f := .glo "surd_order") (by kernel_rfl)), F, sc_surd_order, rfl, rfl,
    F.bindsN fun _ _ _ _ _ _ us hl => (match us, hl with | [_, _], _ => rfl),
    kw_no (by decide +kernel), ck_surd_order⟩⟩
theorem ok_whole_part {K : PySem.W.Frag} {h : Heap} {mg : Str → Option Value} (X : K.In h) (Gn : h.Ns mainGlobals mg) (c : He.SaysD fa fn K) : Nonempty (DefOk G T K mg "whole_part" ⟨1, 6, b_whole_part⟩) := by
  obtain ⟨fd, F⟩ := c.def_ 11 (d := d_whole_part) (by kernel_rfl)
  exact ⟨⟨_, fd, _, _, _, _, _, _, He.glo_ok X Gn (c.fact 11 (f := .glo "whole_part") (by kernel_rfl)), F, sc_whole_part, rfl, rfl,
    F.bindsN fun _ _ _ _ _ _ us hl => (match us, hl with | [_], _ => rfl),
    kw_no (by decide +kernel), ck_whole_part⟩⟩
theorem ok_last_fractions {K : PySem.W.Frag} {h : Heap} {mg : Str → Option Value} (X : K.In h) (Gn : h.Ns mainGlobals mg) (c : He.SaysD fa fn K) : Nonempty (DefOk G T K mg "last_fractions" ⟨1, 4, b_last_fractions⟩) := by
  obtain ⟨fd, F⟩ := c.def_ 12 (d := d_last_fractions) (by kernel_rfl)
  exact ⟨⟨_, fd, _, _, _, _, _, _, He.glo_ok X Gn (c.fact 12 (f := .glo "last_fractions") (by kernel_rfl)), F, sc_last_fractions, rfl, rfl,
    F.bindsN fun _ _ _ _ _ _ us hl => (match us, hl with | [_], _ => rfl),
    kw_no (by decide +kernel), ck_last_fractions⟩⟩
theorem ok_slope_of {K : PySem.W.Frag} {h : Heap} {mg : Str → Option Value} (X : K.In h) (Gn : h.Ns mainGlobals mg) (c : He.SaysD fa fn K) : Nonempty (DefOk G T K mg "slope_of" ⟨1, 16, b_slope_of⟩) := by
  obtain ⟨fd, F⟩ := c.def_ 13 (d := d_slope_of) (by kernel_rfl)
  exact ⟨⟨_, fd, _, _, _, _, _, _, He.glo_ok X Gn (c.fact 13 (f := .glo "slope_of") (by kernel_rfl)), F, sc_slope_of, rfl, rfl,
    F.bindsN fun _ _ _ _ _ _ us hl => (match us, hl with | [_], _ => rfl),
    kw_of (l := [(("slope_of", 0, ["chain"]), [0])]) (by decide +kernel) (by
        intro q hq
        simp only [List.mem_cons, List.not_mem_nil, or_false] at hq
        subst hq
        exact kwN F fun _ _ _ _ _ _ us ws h1 h2 => match us, ws, h1, h2 with | [], [w0], _, _ => ⟨[w0], rfl, rfl⟩), ck_slope_of⟩⟩
theorem ok_chain_of {K : PySem.W.Frag} {h : Heap} {mg : Str → Option Value} (X : K.In h) (Gn : h.Ns mainGlobals mg) (c : He.SaysD fa fn K) : Nonempty (DefOk G T K mg "chain_of" ⟨1, 6, b_chain_of⟩) := by
  obtain ⟨fd, F⟩ := c.def_ 14 (d := d_chain_of) (by kernel_rfl)
  exact ⟨⟨_, fd, _, _, _, _, _, _, He.glo_ok X Gn (c.fact 14 (f := .glo "chain_of") (by kernel_rfl)), F, sc_chain_of, rfl, rfl,
    F.bindsN fun _ _ _ _ _ _ us hl => (match us, hl with | [_], _ => rfl),
    kw_no (by decide +kernel), ck_chain_of⟩⟩
theorem ok_slope_equation {K : PySem.W.Frag} {h : Heap} {mg : Str → Option Value} (X : K.In h) (Gn : h.Ns mainGlobals mg) (c : He.SaysD fa fn K) : Nonempty (DefOk G T K mg "slope_equation" ⟨1, 9, b_slope_equation⟩) := by
  obtain ⟨fd, F⟩ := c.def_ 15 (d := d_slope_equation) (by kernel_rfl)
  exact ⟨⟨_, fd, _, _, _, _, _, _, He.glo_ok X Gn (c.fact 15 (f := .glo "slope_equation") (by kernel_rfl)), F, sc_slope_equation, rfl, rfl,
    F.bindsN fun _ _ _ _ _ _ us hl => (match us, hl with | [_], _ => rfl),
    kw_no (by decide +kernel), ck_slope_equation⟩⟩
theorem ok_mirrored_chain {K : PySem.W.Frag} {h : Heap} {mg : Str → Option Value} (X : K.In h) (Gn : h.Ns mainGlobals mg) (c : He.SaysD fa fn K) : Nonempty (DefOk G T K mg "mirrored_chain" ⟨1, 1, b_mirrored_chain⟩) := by
  obtain ⟨fd, F⟩ := c.def_ 16 (d := d_mirrored_chain) (by kernel_rfl)
  exact ⟨⟨_, fd, _, _, _, _, _, _, He.glo_ok X Gn (c.fact 16 (f := .glo "mirrored_chain") (by kernel_rfl)), F, sc_mirrored_chain, rfl, rfl,
    F.bindsN fun _ _ _ _ _ _ us hl => (match us, hl with | [_], _ => rfl),
    kw_of (l := [(("mirrored_chain", 0, ["chain"]), [0])]) (by decide +kernel) (by
        intro q hq
        simp only [List.mem_cons, List.not_mem_nil, or_false] at hq
        subst hq
        exact kwN F fun _ _ _ _ _ _ us ws h1 h2 => match us, ws, h1, h2 with | [], [w0], _, _ => ⟨[w0], rfl, rfl⟩), ck_mirrored_chain⟩⟩
theorem ok_term_of {K : PySem.W.Frag} {h : Heap} {mg : Str → Option Value} (X : K.In h) (Gn : h.Ns mainGlobals mg) (c : He.SaysD fa fn K) : Nonempty (DefOk G T K mg "term_of" ⟨2, 4, b_term_of⟩) := by
  obtain ⟨fd, F⟩ := c.def_ 17 (d := d_term_of) (by kernel_rfl)
  exact ⟨⟨_, fd, _, _, _, _, _, _, He.glo_ok X Gn (c.fact 17 (f := .glo "term_of") (by kernel_rfl)), F, sc_term_of, rfl, rfl,
    F.bindsN fun _ _ _ _ _ _ us hl => (match us, hl with | [_, _], _ => rfl),
    kw_no (by decide +kernel), ck_term_of⟩⟩
theorem ok_steps_to {K : PySem.W.Frag} {h : Heap} {mg : Str → Option Value} (X : K.In h) (Gn : h.Ns mainGlobals mg) (c : He.SaysD fa fn K) : Nonempty (DefOk G T K mg "steps_to" ⟨2, 6, b_steps_to⟩) := by
  obtain ⟨fd, F⟩ := c.def_ 18 (d := d_steps_to) (by kernel_rfl)
  exact ⟨⟨_, fd, _, _, _, _, _, _, He.glo_ok X Gn (c.fact 18 (f := .glo "steps_to") (by kernel_rfl)), F, sc_steps_to, rfl, rfl,
    F.bindsN fun _ _ _ _ _ _ us hl => (match us, hl with | [_, _], _ => rfl),
    kw_no (by decide +kernel), ck_steps_to⟩⟩
theorem ok_step_power {K : PySem.W.Frag} {h : Heap} {mg : Str → Option Value} (X : K.In h) (Gn : h.Ns mainGlobals mg) (c : He.SaysD fa fn K) : Nonempty (DefOk G T K mg "step_power" ⟨2, 6, b_step_power⟩) := by
  obtain ⟨fd, F⟩ := c.def_ 19 (d := d_step_power) (by kernel_rfl)
  exact ⟨⟨_, fd, _, _, _, _, _, _, He.glo_ok X Gn (c.fact 19 (f := .glo "step_power") (by kernel_rfl)), F, sc_step_power, rfl, rfl,
    F.bindsN fun _ _ _ _ _ _ us hl => (match us, hl with | [_, _], _ => rfl),
    kw_of (l := [(("step_power", 0, ["k", "chain"]), [1, 0])]) (by decide +kernel) (by
        intro q hq
        simp only [List.mem_cons, List.not_mem_nil, or_false] at hq
        subst hq
        exact kwN F fun _ _ _ _ _ _ us ws h1 h2 => match us, ws, h1, h2 with | [], [w0, w1], _, _ => ⟨[w1, w0], rfl, rfl⟩), ck_step_power⟩⟩
theorem ok_step_at {K : PySem.W.Frag} {h : Heap} {mg : Str → Option Value} (X : K.In h) (Gn : h.Ns mainGlobals mg) (c : He.SaysD fa fn K) : Nonempty (DefOk G T K mg "step_at" ⟨3, 4, b_step_at⟩) := by
  obtain ⟨fd, F⟩ := c.def_ 20 (d := d_step_at) (by kernel_rfl)
  exact ⟨⟨_, fd, _, _, _, _, _, _, He.glo_ok X Gn (c.fact 20 (f := .glo "step_at") (by kernel_rfl)), F, sc_step_at, rfl, rfl,
    F.bindsN fun _ _ _ _ _ _ us hl => (match us, hl with | [_, _, _], _ => rfl),
    kw_no (by decide +kernel), ck_step_at⟩⟩
theorem ok_ahead_powers {K : PySem.W.Frag} {h : Heap} {mg : Str → Option Value} (X : K.In h) (Gn : h.Ns mainGlobals mg) (c : He.SaysD fa fn K) : Nonempty (DefOk G T K mg "ahead_powers" ⟨1, 4, b_ahead_powers⟩) := by
  obtain ⟨fd, F⟩ := c.def_ 21 (d := d_ahead_powers) (by kernel_rfl)
  exact ⟨⟨_, fd, _, _, _, _, _, _, He.glo_ok X Gn (c.fact 21 (f := .glo "ahead_powers") (by kernel_rfl)), F, sc_ahead_powers, rfl, rfl,
    F.bindsN fun _ _ _ _ _ _ us hl => (match us, hl with | [_], _ => rfl),
    kw_no (by decide +kernel), ck_ahead_powers⟩⟩
theorem ok_back_slope {K : PySem.W.Frag} {h : Heap} {mg : Str → Option Value} (X : K.In h) (Gn : h.Ns mainGlobals mg) (c : He.SaysD fa fn K) : Nonempty (DefOk G T K mg "back_slope" ⟨2, 2, b_back_slope⟩) := by
  obtain ⟨fd, F⟩ := c.def_ 22 (d := d_back_slope) (by kernel_rfl)
  exact ⟨⟨_, fd, _, _, _, _, _, _, He.glo_ok X Gn (c.fact 22 (f := .glo "back_slope") (by kernel_rfl)), F, sc_back_slope, rfl, rfl,
    F.bindsN fun _ _ _ _ _ _ us hl => (match us, hl with | [_, _], _ => rfl),
    kw_no (by decide +kernel), ck_back_slope⟩⟩
theorem ok_round_powers {K : PySem.W.Frag} {h : Heap} {mg : Str → Option Value} (X : K.In h) (Gn : h.Ns mainGlobals mg) (c : He.SaysD fa fn K) : Nonempty (DefOk G T K mg "round_powers" ⟨1, 4, b_round_powers⟩) := by
  obtain ⟨fd, F⟩ := c.def_ 23 (d := d_round_powers) (by kernel_rfl)
  exact ⟨⟨_, fd, _, _, _, _, _, _, He.glo_ok X Gn (c.fact 23 (f := .glo "round_powers") (by kernel_rfl)), F, sc_round_powers, rfl, rfl,
    F.bindsN fun _ _ _ _ _ _ us hl => (match us, hl with | [_], _ => rfl),
    kw_no (by decide +kernel), ck_round_powers⟩⟩
theorem ok_early_powers {K : PySem.W.Frag} {h : Heap} {mg : Str → Option Value} (X : K.In h) (Gn : h.Ns mainGlobals mg) (c : He.SaysD fa fn K) : Nonempty (DefOk G T K mg "early_powers" ⟨1, 11, b_early_powers⟩) := by
  obtain ⟨fd, F⟩ := c.def_ 24 (d := d_early_powers) (by kernel_rfl)
  exact ⟨⟨_, fd, _, _, _, _, _, _, He.glo_ok X Gn (c.fact 24 (f := .glo "early_powers") (by kernel_rfl)), F, sc_early_powers, rfl, rfl,
    F.bindsN fun _ _ _ _ _ _ us hl => (match us, hl with | [_], _ => rfl),
    kw_no (by decide +kernel), ck_early_powers⟩⟩
theorem ok_power_limit {K : PySem.W.Frag} {h : Heap} {mg : Str → Option Value} (X : K.In h) (Gn : h.Ns mainGlobals mg) (c : He.SaysD fa fn K) : Nonempty (DefOk G T K mg "power_limit" ⟨1, 4, b_power_limit⟩) := by
  obtain ⟨fd, F⟩ := c.def_ 25 (d := d_power_limit) (by kernel_rfl)
  exact ⟨⟨_, fd, _, _, _, _, _, _, He.glo_ok X Gn (c.fact 25 (f := .glo "power_limit") (by kernel_rfl)), F, sc_power_limit, rfl, rfl,
    F.bindsN fun _ _ _ _ _ _ us hl => (match us, hl with | [_], _ => rfl),
    kw_of (l := [(("power_limit", 0, ["chain"]), [0])]) (by decide +kernel) (by
        intro q hq
        simp only [List.mem_cons, List.not_mem_nil, or_false] at hq
        subst hq
        exact kwN F fun _ _ _ _ _ _ us ws h1 h2 => match us, ws, h1, h2 with | [], [w0], _, _ => ⟨[w0], rfl, rfl⟩), ck_power_limit⟩⟩
theorem ok_limit_reached {K : PySem.W.Frag} {h : Heap} {mg : Str → Option Value} (X : K.In h) (Gn : h.Ns mainGlobals mg) (c : He.SaysD fa fn K) : Nonempty (DefOk G T K mg "limit_reached" ⟨1, 1, b_limit_reached⟩) := by
  obtain ⟨fd, F⟩ := c.def_ 26 (d := d_limit_reached) (by kernel_rfl)
  exact ⟨⟨_, fd, _, _, _, _, _, _, He.glo_ok X Gn (c.fact 26 (f := .glo "limit_reached") (by kernel_rfl)), F, sc_limit_reached, rfl, rfl,
    F.bindsN fun _ _ _ _ _ _ us hl => (match us, hl with | [_], _ => rfl),
    kw_of (l := [(("limit_reached", 0, ["chain"]), [0])]) (by decide +kernel) (by
        intro q hq
        simp only [List.mem_cons, List.not_mem_nil, or_false] at hq
        subst hq
        exact kwN F fun _ _ _ _ _ _ us ws h1 h2 => match us, ws, h1, h2 with | [], [w0], _, _ => ⟨[w0], rfl, rfl⟩), ck_limit_reached⟩⟩
theorem ok_terms {K : PySem.W.Frag} {h : Heap} {mg : Str → Option Value} (X : K.In h) (Gn : h.Ns mainGlobals mg) (c : He.SaysD fa fn K) : Nonempty (DefOk G T K mg "terms" ⟨2, 5, b_terms⟩) := by
  obtain ⟨fd, F⟩ := c.def_ 27 (d := d_terms) (by kernel_rfl)
  exact ⟨⟨_, fd, _, _, _, _, _, _, He.glo_ok X Gn (c.fact 27 (f := .glo "terms") (by kernel_rfl)), F, sc_terms, rfl, rfl,
    F.bindsN fun _ _ _ _ _ _ us hl => (match us, hl with | [_, _], _ => rfl),
    kw_no (by decide +kernel), ck_terms⟩⟩
theorem ok_fractions {K : PySem.W.Frag} {h : Heap} {mg : Str → Option Value} (X : K.In h) (Gn : h.Ns mainGlobals mg) (c : He.SaysD fa fn K) : Nonempty (DefOk G T K mg "fractions" ⟨2, 7, b_fractions⟩) := by
  obtain ⟨fd, F⟩ := c.def_ 28 (d := d_fractions) (by kernel_rfl)
  exact ⟨⟨_, fd, _, _, _, _, _, _, He.glo_ok X Gn (c.fact 28 (f := .glo "fractions") (by kernel_rfl)), F, sc_fractions, rfl, rfl,
    F.bindsN fun _ _ _ _ _ _ us hl => (match us, hl with | [_, _], _ => rfl),
    kw_no (by decide +kernel), ck_fractions⟩⟩
theorem ok_fraction_at {K : PySem.W.Frag} {h : Heap} {mg : Str → Option Value} (X : K.In h) (Gn : h.Ns mainGlobals mg) (c : He.SaysD fa fn K) : Nonempty (DefOk G T K mg "fraction_at" ⟨2, 2, b_fraction_at⟩) := by
  obtain ⟨fd, F⟩ := c.def_ 29 (d := d_fraction_at) (by kernel_rfl)
  exact ⟨⟨_, fd, _, _, _, _, _, _, He.glo_ok X Gn (c.fact 29 (f := .glo "fraction_at") (by kernel_rfl)), F, sc_fraction_at, rfl, rfl,
    F.bindsN fun _ _ _ _ _ _ us hl => (match us, hl with | [_, _], _ => rfl),
    kw_no (by decide +kernel), ck_fraction_at⟩⟩
theorem ok_less_times {K : PySem.W.Frag} {h : Heap} {mg : Str → Option Value} (X : K.In h) (Gn : h.Ns mainGlobals mg) (c : He.SaysD fa fn K) : Nonempty (DefOk G T K mg "less_times" ⟨3, 3, b_less_times⟩) := by
  obtain ⟨fd, F⟩ := c.def_ 30 (d := d_less_times) (by kernel_rfl)
  exact ⟨⟨_, fd, _, _, _, _, _, _, He.glo_ok X Gn (c.fact 30 (f := .glo "less_times") (by kernel_rfl)), F, sc_less_times, rfl, rfl,
    F.bindsN fun _ _ _ _ _ _ us hl => (match us, hl with | [_, _, _], _ => rfl),
    kw_no (by decide +kernel), ck_less_times⟩⟩
theorem ok_nearness {K : PySem.W.Frag} {h : Heap} {mg : Str → Option Value} (X : K.In h) (Gn : h.Ns mainGlobals mg) (c : He.SaysD fa fn K) : Nonempty (DefOk G T K mg "nearness" ⟨2, 4, b_nearness⟩) := by
  obtain ⟨fd, F⟩ := c.def_ 31 (d := d_nearness) (by kernel_rfl)
  exact ⟨⟨_, fd, _, _, _, _, _, _, He.glo_ok X Gn (c.fact 31 (f := .glo "nearness") (by kernel_rfl)), F, sc_nearness, rfl, rfl,
    F.bindsN fun _ _ _ _ _ _ us hl => (match us, hl with | [_, _], _ => rfl),
    kw_no (by decide +kernel), ck_nearness⟩⟩
theorem ok_times_less {K : PySem.W.Frag} {h : Heap} {mg : Str → Option Value} (X : K.In h) (Gn : h.Ns mainGlobals mg) (c : He.SaysD fa fn K) : Nonempty (DefOk G T K mg "times_less" ⟨4, 5, b_times_less⟩) := by
  obtain ⟨fd, F⟩ := c.def_ 32 (d := d_times_less) (by kernel_rfl)
  exact ⟨⟨_, fd, _, _, _, _, _, _, He.glo_ok X Gn (c.fact 32 (f := .glo "times_less") (by kernel_rfl)), F, sc_times_less, rfl, rfl,
    F.bindsN fun _ _ _ _ _ _ us hl => (match us, hl with | [_, _, _, _], _ => rfl),
    kw_no (by decide +kernel), ck_times_less⟩⟩
theorem ok_longest_time {K : PySem.W.Frag} {h : Heap} {mg : Str → Option Value} (X : K.In h) (Gn : h.Ns mainGlobals mg) (c : He.SaysD fa fn K) : Nonempty (DefOk G T K mg "longest_time" ⟨2, 9, b_longest_time⟩) := by
  obtain ⟨fd, F⟩ := c.def_ 33 (d := d_longest_time) (by kernel_rfl)
  exact ⟨⟨_, fd, _, _, _, _, _, _, He.glo_ok X Gn (c.fact 33 (f := .glo "longest_time") (by kernel_rfl)), F, sc_longest_time, rfl, rfl,
    F.bindsN fun _ _ _ _ _ _ us hl => (match us, hl with | [_, _], _ => rfl),
    kw_no (by decide +kernel), ck_longest_time⟩⟩
theorem ok_greatest_repeat {K : PySem.W.Frag} {h : Heap} {mg : Str → Option Value} (X : K.In h) (Gn : h.Ns mainGlobals mg) (c : He.SaysD fa fn K) : Nonempty (DefOk G T K mg "greatest_repeat" ⟨2, 3, b_greatest_repeat⟩) := by
  obtain ⟨fd, F⟩ := c.def_ 34 (d := d_greatest_repeat) (by kernel_rfl)
  exact ⟨⟨_, fd, _, _, _, _, _, _, He.glo_ok X Gn (c.fact 34 (f := .glo "greatest_repeat") (by kernel_rfl)), F, sc_greatest_repeat, rfl, rfl,
    F.bindsN fun _ _ _ _ _ _ us hl => (match us, hl with | [_, _], _ => rfl),
    kw_no (by decide +kernel), ck_greatest_repeat⟩⟩
theorem ok__law_bag {K : PySem.W.Frag} {h : Heap} {mg : Str → Option Value} (X : K.In h) (Gn : h.Ns mainGlobals mg) (c : He.SaysD fa fn K) : Nonempty (DefOk G T K mg "_law_bag" ⟨1, 4, b__law_bag⟩) := by
  obtain ⟨fd, F⟩ := c.def_ 35 (d := d__law_bag) (by kernel_rfl)
  exact ⟨⟨_, fd, _, _, _, _, _, _, He.glo_ok X Gn (c.fact 35 (f := .glo "_law_bag") (by kernel_rfl)), F, sc__law_bag, rfl, rfl,
    F.bindsN fun _ _ _ _ _ _ us hl => (match us, hl with | [_], _ => rfl),
    kw_no (by decide +kernel), ck__law_bag⟩⟩
theorem ok__law_draw {K : PySem.W.Frag} {h : Heap} {mg : Str → Option Value} (X : K.In h) (Gn : h.Ns mainGlobals mg) (c : He.SaysD fa fn K) : Nonempty (DefOk G T K mg "_law_draw" ⟨2, 4, b__law_draw⟩) := by
  obtain ⟨fd, F⟩ := c.def_ 36 (d := d__law_draw) (by kernel_rfl)
  exact ⟨⟨_, fd, _, _, _, _, _, _, He.glo_ok X Gn (c.fact 36 (f := .glo "_law_draw") (by kernel_rfl)), F, sc__law_draw, rfl, rfl,
    F.bindsN fun _ _ _ _ _ _ us hl => (match us, hl with | [_, _], _ => rfl),
    kw_no (by decide +kernel), ck__law_draw⟩⟩
theorem ok__law_pick {K : PySem.W.Frag} {h : Heap} {mg : Str → Option Value} (X : K.In h) (Gn : h.Ns mainGlobals mg) (c : He.SaysD fa fn K) : Nonempty (DefOk G T K mg "_law_pick" ⟨2, 2, b__law_pick⟩) := by
  obtain ⟨fd, F⟩ := c.def_ 37 (d := d__law_pick) (by kernel_rfl)
  exact ⟨⟨_, fd, _, _, _, _, _, _, He.glo_ok X Gn (c.fact 37 (f := .glo "_law_pick") (by kernel_rfl)), F, sc__law_pick, rfl, rfl,
    F.bindsN fun _ _ _ _ _ _ us hl => (match us, hl with | [_, _], _ => rfl),
    kw_no (by decide +kernel), ck__law_pick⟩⟩
theorem ok__law_same {K : PySem.W.Frag} {h : Heap} {mg : Str → Option Value} (X : K.In h) (Gn : h.Ns mainGlobals mg) (c : He.SaysD fa fn K) : Nonempty (DefOk G T K mg "_law_same" ⟨2, 2, b__law_same⟩) := by
  obtain ⟨fd, F⟩ := c.def_ 38 (d := d__law_same) (by kernel_rfl)
  exact ⟨⟨_, fd, _, _, _, _, _, _, He.glo_ok X Gn (c.fact 38 (f := .glo "_law_same") (by kernel_rfl)), F, sc__law_same, rfl, rfl,
    F.bindsN fun _ _ _ _ _ _ us hl => (match us, hl with | [_, _], _ => rfl),
    kw_no (by decide +kernel), ck__law_same⟩⟩
theorem ok__law_terms {K : PySem.W.Frag} {h : Heap} {mg : Str → Option Value} (X : K.In h) (Gn : h.Ns mainGlobals mg) (c : He.SaysD fa fn K) : Nonempty (DefOk G T K mg "_law_terms" ⟨2, 3, b__law_terms⟩) := by
  obtain ⟨fd, F⟩ := c.def_ 39 (d := d__law_terms) (by kernel_rfl)
  exact ⟨⟨_, fd, _, _, _, _, _, _, He.glo_ok X Gn (c.fact 39 (f := .glo "_law_terms") (by kernel_rfl)), F, sc__law_terms, rfl, rfl,
    F.bindsN fun _ _ _ _ _ _ us hl => (match us, hl with | [_, _], _ => rfl),
    kw_no (by decide +kernel), ck__law_terms⟩⟩
theorem ok__law_steps {K : PySem.W.Frag} {h : Heap} {mg : Str → Option Value} (X : K.In h) (Gn : h.Ns mainGlobals mg) (c : He.SaysD fa fn K) : Nonempty (DefOk G T K mg "_law_steps" ⟨1, 6, b__law_steps⟩) := by
  obtain ⟨fd, F⟩ := c.def_ 40 (d := d__law_steps) (by kernel_rfl)
  exact ⟨⟨_, fd, _, _, _, _, _, _, He.glo_ok X Gn (c.fact 40 (f := .glo "_law_steps") (by kernel_rfl)), F, sc__law_steps, rfl, rfl,
    F.bindsN fun _ _ _ _ _ _ us hl => (match us, hl with | [_], _ => rfl),
    kw_no (by decide +kernel), ck__law_steps⟩⟩
theorem ok__law_divisor {K : PySem.W.Frag} {h : Heap} {mg : Str → Option Value} (X : K.In h) (Gn : h.Ns mainGlobals mg) (c : He.SaysD fa fn K) : Nonempty (DefOk G T K mg "_law_divisor" ⟨2, 4, b__law_divisor⟩) := by
  obtain ⟨fd, F⟩ := c.def_ 41 (d := d__law_divisor) (by kernel_rfl)
  exact ⟨⟨_, fd, _, _, _, _, _, _, He.glo_ok X Gn (c.fact 41 (f := .glo "_law_divisor") (by kernel_rfl)), F, sc__law_divisor, rfl, rfl,
    F.bindsN fun _ _ _ _ _ _ us hl => (match us, hl with | [_, _], _ => rfl),
    kw_no (by decide +kernel), ck__law_divisor⟩⟩
theorem ok__law_low {K : PySem.W.Frag} {h : Heap} {mg : Str → Option Value} (X : K.In h) (Gn : h.Ns mainGlobals mg) (c : He.SaysD fa fn K) : Nonempty (DefOk G T K mg "_law_low" ⟨2, 3, b__law_low⟩) := by
  obtain ⟨fd, F⟩ := c.def_ 42 (d := d__law_low) (by kernel_rfl)
  exact ⟨⟨_, fd, _, _, _, _, _, _, He.glo_ok X Gn (c.fact 42 (f := .glo "_law_low") (by kernel_rfl)), F, sc__law_low, rfl, rfl,
    F.bindsN fun _ _ _ _ _ _ us hl => (match us, hl with | [_, _], _ => rfl),
    kw_no (by decide +kernel), ck__law_low⟩⟩
theorem ok__law_root {K : PySem.W.Frag} {h : Heap} {mg : Str → Option Value} (X : K.In h) (Gn : h.Ns mainGlobals mg) (c : He.SaysD fa fn K) : Nonempty (DefOk G T K mg "_law_root" ⟨1, 4, b__law_root⟩) := by
  obtain ⟨fd, F⟩ := c.def_ 43 (d := d__law_root) (by kernel_rfl)
  exact ⟨⟨_, fd, _, _, _, _, _, _, He.glo_ok X Gn (c.fact 43 (f := .glo "_law_root") (by kernel_rfl)), F, sc__law_root, rfl, rfl,
    F.bindsN fun _ _ _ _ _ _ us hl => (match us, hl with | [_], _ => rfl),
    kw_no (by decide +kernel), ck__law_root⟩⟩
theorem ok__law_bare {K : PySem.W.Frag} {h : Heap} {mg : Str → Option Value} (X : K.In h) (Gn : h.Ns mainGlobals mg) (c : He.SaysD fa fn K) : Nonempty (DefOk G T K mg "_law_bare" ⟨1, 6, b__law_bare⟩) := by
  obtain ⟨fd, F⟩ := c.def_ 44 (d := d__law_bare) (by kernel_rfl)
  exact ⟨⟨_, fd, _, _, _, _, _, _, He.glo_ok X Gn (c.fact 44 (f := .glo "_law_bare") (by kernel_rfl)), F, sc__law_bare, rfl, rfl,
    F.bindsN fun _ _ _ _ _ _ us hl => (match us, hl with | [_], _ => rfl),
    kw_no (by decide +kernel), ck__law_bare⟩⟩
theorem ok__law_table {K : PySem.W.Frag} {h : Heap} {mg : Str → Option Value} (X : K.In h) (Gn : h.Ns mainGlobals mg) (c : He.SaysD fa fn K) : Nonempty (DefOk G T K mg "_law_table" ⟨1, 6, b__law_table⟩) := by
  obtain ⟨fd, F⟩ := c.def_ 45 (d := d__law_table) (by kernel_rfl)
  exact ⟨⟨_, fd, _, _, _, _, _, _, He.glo_ok X Gn (c.fact 45 (f := .glo "_law_table") (by kernel_rfl)), F, sc__law_table, rfl, rfl,
    F.bindsN fun _ _ _ _ _ _ us hl => (match us, hl with | [_], _ => rfl),
    kw_no (by decide +kernel), ck__law_table⟩⟩
theorem ok__law_surd {K : PySem.W.Frag} {h : Heap} {mg : Str → Option Value} (X : K.In h) (Gn : h.Ns mainGlobals mg) (c : He.SaysD fa fn K) : Nonempty (DefOk G T K mg "_law_surd" ⟨4, 5, b__law_surd⟩) := by
  obtain ⟨fd, F⟩ := c.def_ 46 (d := d__law_surd) (by kernel_rfl)
  exact ⟨⟨_, fd, _, _, _, _, _, _, He.glo_ok X Gn (c.fact 46 (f := .glo "_law_surd") (by kernel_rfl)), F, sc__law_surd, rfl, rfl,
    F.bindsN fun _ _ _ _ _ _ us hl => (match us, hl with | [_, _, _, _], _ => rfl),
    kw_no (by decide +kernel), ck__law_surd⟩⟩
theorem ok__law_round_slope {K : PySem.W.Frag} {h : Heap} {mg : Str → Option Value} (X : K.In h) (Gn : h.Ns mainGlobals mg) (c : He.SaysD fa fn K) : Nonempty (DefOk G T K mg "_law_round_slope" ⟨2, 6, b__law_round_slope⟩) := by
  obtain ⟨fd, F⟩ := c.def_ 47 (d := d__law_round_slope) (by kernel_rfl)
  exact ⟨⟨_, fd, _, _, _, _, _, _, He.glo_ok X Gn (c.fact 47 (f := .glo "_law_round_slope") (by kernel_rfl)), F, sc__law_round_slope, rfl, rfl,
    F.bindsN fun _ _ _ _ _ _ us hl => (match us, hl with | [_, _], _ => rfl),
    kw_no (by decide +kernel), ck__law_round_slope⟩⟩
theorem ok__law_is_more {K : PySem.W.Frag} {h : Heap} {mg : Str → Option Value} (X : K.In h) (Gn : h.Ns mainGlobals mg) (c : He.SaysD fa fn K) : Nonempty (DefOk G T K mg "_law_is_more" ⟨2, 5, b__law_is_more⟩) := by
  obtain ⟨fd, F⟩ := c.def_ 48 (d := d__law_is_more) (by kernel_rfl)
  exact ⟨⟨_, fd, _, _, _, _, _, _, He.glo_ok X Gn (c.fact 48 (f := .glo "_law_is_more") (by kernel_rfl)), F, sc__law_is_more, rfl, rfl,
    F.bindsN fun _ _ _ _ _ _ us hl => (match us, hl with | [_, _], _ => rfl),
    kw_no (by decide +kernel), ck__law_is_more⟩⟩
theorem ok__law_limit {K : PySem.W.Frag} {h : Heap} {mg : Str → Option Value} (X : K.In h) (Gn : h.Ns mainGlobals mg) (c : He.SaysD fa fn K) : Nonempty (DefOk G T K mg "_law_limit" ⟨2, 15, b__law_limit⟩) := by
  obtain ⟨fd, F⟩ := c.def_ 49 (d := d__law_limit) (by kernel_rfl)
  exact ⟨⟨_, fd, _, _, _, _, _, _, He.glo_ok X Gn (c.fact 49 (f := .glo "_law_limit") (by kernel_rfl)), F, sc__law_limit, rfl, rfl,
    F.bindsN fun _ _ _ _ _ _ us hl => (match us, hl with | [_, _], _ => rfl),
    kw_no (by decide +kernel), ck__law_limit⟩⟩
theorem ok__law_some_terms {K : PySem.W.Frag} {h : Heap} {mg : Str → Option Value} (X : K.In h) (Gn : h.Ns mainGlobals mg) (c : He.SaysD fa fn K) : Nonempty (DefOk G T K mg "_law_some_terms" ⟨3, 4, b__law_some_terms⟩) := by
  obtain ⟨fd, F⟩ := c.def_ 50 (d := d__law_some_terms) (by kernel_rfl)
  exact ⟨⟨_, fd, _, _, _, _, _, _, He.glo_ok X Gn (c.fact 50 (f := .glo "_law_some_terms") (by kernel_rfl)), F, sc__law_some_terms, rfl, rfl,
    F.bindsN fun _ _ _ _ _ _ us hl => (match us, hl with | [_, _, _], _ => rfl),
    kw_no (by decide +kernel), ck__law_some_terms⟩⟩
theorem ok__law_chain {K : PySem.W.Frag} {h : Heap} {mg : Str → Option Value} (X : K.In h) (Gn : h.Ns mainGlobals mg) (c : He.SaysD fa fn K) : Nonempty (DefOk G T K mg "_law_chain" ⟨2, 5, b__law_chain⟩) := by
  obtain ⟨fd, F⟩ := c.def_ 51 (d := d__law_chain) (by kernel_rfl)
  exact ⟨⟨_, fd, _, _, _, _, _, _, He.glo_ok X Gn (c.fact 51 (f := .glo "_law_chain") (by kernel_rfl)), F, sc__law_chain, rfl, rfl,
    F.bindsN fun _ _ _ _ _ _ us hl => (match us, hl with | [_, _], _ => rfl),
    kw_no (by decide +kernel), ck__law_chain⟩⟩
theorem ok__law_otherwise {K : PySem.W.Frag} {h : Heap} {mg : Str → Option Value} (X : K.In h) (Gn : h.Ns mainGlobals mg) (c : He.SaysD fa fn K) : Nonempty (DefOk G T K mg "_law_otherwise" ⟨2, 6, b__law_otherwise⟩) := by
  obtain ⟨fd, F⟩ := c.def_ 52 (d := d__law_otherwise) (by kernel_rfl)
  exact ⟨⟨_, fd, _, _, _, _, _, _, He.glo_ok X Gn (c.fact 52 (f := .glo "_law_otherwise") (by kernel_rfl)), F, sc__law_otherwise, rfl, rfl,
    F.bindsN fun _ _ _ _ _ _ us hl => (match us, hl with | [_, _], _ => rfl),
    kw_no (by decide +kernel), ck__law_otherwise⟩⟩
theorem ok__law_are_slopes_right {K : PySem.W.Frag} {h : Heap} {mg : Str → Option Value} (X : K.In h) (Gn : h.Ns mainGlobals mg) (c : He.SaysD fa fn K) : Nonempty (DefOk G T K mg "_law_are_slopes_right" ⟨2, 12, b__law_are_slopes_right⟩) := by
  obtain ⟨fd, F⟩ := c.def_ 53 (d := d__law_are_slopes_right) (by kernel_rfl)
  exact ⟨⟨_, fd, _, _, _, _, _, _, He.glo_ok X Gn (c.fact 53 (f := .glo "_law_are_slopes_right") (by kernel_rfl)), F, sc__law_are_slopes_right, rfl, rfl,
    F.bindsN fun _ _ _ _ _ _ us hl => (match us, hl with | [_, _], _ => rfl),
    kw_no (by decide +kernel), ck__law_are_slopes_right⟩⟩
theorem ok__law_are_steps_right {K : PySem.W.Frag} {h : Heap} {mg : Str → Option Value} (X : K.In h) (Gn : h.Ns mainGlobals mg) (c : He.SaysD fa fn K) : Nonempty (DefOk G T K mg "_law_are_steps_right" ⟨3, 11, b__law_are_steps_right⟩) := by
  obtain ⟨fd, F⟩ := c.def_ 54 (d := d__law_are_steps_right) (by kernel_rfl)
  exact ⟨⟨_, fd, _, _, _, _, _, _, He.glo_ok X Gn (c.fact 54 (f := .glo "_law_are_steps_right") (by kernel_rfl)), F, sc__law_are_steps_right, rfl, rfl,
    F.bindsN fun _ _ _ _ _ _ us hl => (match us, hl with | [_, _, _], _ => rfl),
    kw_no (by decide +kernel), ck__law_are_steps_right⟩⟩
theorem ok__law_is_limit_right {K : PySem.W.Frag} {h : Heap} {mg : Str → Option Value} (X : K.In h) (Gn : h.Ns mainGlobals mg) (c : He.SaysD fa fn K) : Nonempty (DefOk G T K mg "_law_is_limit_right" ⟨3, 12, b__law_is_limit_right⟩) := by
  obtain ⟨fd, F⟩ := c.def_ 55 (d := d__law_is_limit_right) (by kernel_rfl)
  exact ⟨⟨_, fd, _, _, _, _, _, _, He.glo_ok X Gn (c.fact 55 (f := .glo "_law_is_limit_right") (by kernel_rfl)), F, sc__law_is_limit_right, rfl, rfl,
    F.bindsN fun _ _ _ _ _ _ us hl => (match us, hl with | [_, _, _], _ => rfl),
    kw_no (by decide +kernel), ck__law_is_limit_right⟩⟩
theorem ok_law {K : PySem.W.Frag} {h : Heap} {mg : Str → Option Value} (X : K.In h) (Gn : h.Ns mainGlobals mg) (c : He.SaysD fa fn K) : Nonempty (DefOk G T K mg "law" ⟨1, 11, b_law⟩) := by
  obtain ⟨fd, F⟩ := c.def_ 56 (d := d_law) (by kernel_rfl)
  exact ⟨⟨_, fd, _, _, _, _, _, _, He.glo_ok X Gn (c.fact 56 (f := .glo "law") (by kernel_rfl)), F, sc_law, rfl, rfl,
    F.bindsN fun _ _ _ _ _ _ us hl => (match us, hl with | [_], _ => rfl),
    kw_no (by decide +kernel), ck_law⟩⟩
theorem all {K : PySem.W.Frag} {h : Heap} {mg : Str → Option Value} (X : K.In h) (Gn : h.Ns mainGlobals mg) (c : He.SaysD fa fn K) : ∀ x ∈ G.fns, ∃ F, T.fns.lookup x = some F ∧ Nonempty (DefOk G T K mg x F) := by
  intro x hx
  have e : G.fns = (["common", "whole_root", "root_parts", "lowest", "surd_sum", "surd_times", "surd_turned", "surd_back", "other_root", "surd_sign", "surd_order", "whole_part", "last_fractions", "slope_of", "chain_of", "slope_equation", "mirrored_chain", "term_of", "steps_to", "step_power", "step_at", "ahead_powers", "back_slope", "round_powers", "early_powers"] : List Str) ++ (["power_limit", "limit_reached", "terms", "fractions", "fraction_at", "less_times", "nearness", "times_less", "longest_time", "greatest_repeat", "_law_bag", "_law_draw", "_law_pick", "_law_same", "_law_terms", "_law_steps", "_law_divisor", "_law_low", "_law_root", "_law_bare", "_law_table", "_law_surd", "_law_round_slope", "_law_is_more", "_law_limit"] : List Str) ++ (["_law_some_terms", "_law_chain", "_law_otherwise", "_law_are_slopes_right", "_law_are_steps_right", "_law_is_limit_right", "law"] : List Str) := rfl
  rw [e] at hx
  simp only [List.cons_append, List.nil_append, List.mem_cons, List.not_mem_nil, or_false, List.mem_append] at hx
  rcases hx with rfl | rfl | rfl | rfl | rfl | rfl | rfl | rfl | rfl | rfl | rfl | rfl | rfl | rfl | rfl | rfl | rfl | rfl | rfl | rfl | rfl | rfl | rfl | rfl | rfl | rfl | rfl | rfl | rfl | rfl | rfl | rfl | rfl | rfl | rfl | rfl | rfl | rfl | rfl | rfl | rfl | rfl | rfl | rfl | rfl | rfl | rfl | rfl | rfl | rfl | rfl | rfl | rfl | rfl | rfl | rfl | rfl
  · exact ⟨_, f_common, ok_common X Gn c⟩
  · exact ⟨_, f_whole_root, ok_whole_root X Gn c⟩
  · exact ⟨_, f_root_parts, ok_root_parts X Gn c⟩
  · exact ⟨_, f_lowest, ok_lowest X Gn c⟩
  · exact ⟨_, f_surd_sum, ok_surd_sum X Gn c⟩
  · exact ⟨_, f_surd_times, ok_surd_times X Gn c⟩
  · exact ⟨_, f_surd_turned, ok_surd_turned X Gn c⟩
  · exact ⟨_, f_surd_back, ok_surd_back X Gn c⟩
  · exact ⟨_, f_other_root, ok_other_root X Gn c⟩
  · exact ⟨_, f_surd_sign, ok_surd_sign X Gn c⟩
  · exact ⟨_, f_surd_order, ok_surd_order X Gn c⟩
  · exact ⟨_, f_whole_part, ok_whole_part X Gn c⟩
  · exact ⟨_, f_last_fractions, ok_last_fractions X Gn c⟩
  · exact ⟨_, f_slope_of, ok_slope_of X Gn c⟩
  · exact ⟨_, f_chain_of, ok_chain_of X Gn c⟩
  · exact ⟨_, f_slope_equation, ok_slope_equation X Gn c⟩
  · exact ⟨_, f_mirrored_chain, ok_mirrored_chain X Gn c⟩
  · exact ⟨_, f_term_of, ok_term_of X Gn c⟩
  · exact ⟨_, f_steps_to, ok_steps_to X Gn c⟩
  · exact ⟨_, f_step_power, ok_step_power X Gn c⟩
  · exact ⟨_, f_step_at, ok_step_at X Gn c⟩
  · exact ⟨_, f_ahead_powers, ok_ahead_powers X Gn c⟩
  · exact ⟨_, f_back_slope, ok_back_slope X Gn c⟩
  · exact ⟨_, f_round_powers, ok_round_powers X Gn c⟩
  · exact ⟨_, f_early_powers, ok_early_powers X Gn c⟩
  · exact ⟨_, f_power_limit, ok_power_limit X Gn c⟩
  · exact ⟨_, f_limit_reached, ok_limit_reached X Gn c⟩
  · exact ⟨_, f_terms, ok_terms X Gn c⟩
  · exact ⟨_, f_fractions, ok_fractions X Gn c⟩
  · exact ⟨_, f_fraction_at, ok_fraction_at X Gn c⟩
  · exact ⟨_, f_less_times, ok_less_times X Gn c⟩
  · exact ⟨_, f_nearness, ok_nearness X Gn c⟩
  · exact ⟨_, f_times_less, ok_times_less X Gn c⟩
  · exact ⟨_, f_longest_time, ok_longest_time X Gn c⟩
  · exact ⟨_, f_greatest_repeat, ok_greatest_repeat X Gn c⟩
  · exact ⟨_, f__law_bag, ok__law_bag X Gn c⟩
  · exact ⟨_, f__law_draw, ok__law_draw X Gn c⟩
  · exact ⟨_, f__law_pick, ok__law_pick X Gn c⟩
  · exact ⟨_, f__law_same, ok__law_same X Gn c⟩
  · exact ⟨_, f__law_terms, ok__law_terms X Gn c⟩
  · exact ⟨_, f__law_steps, ok__law_steps X Gn c⟩
  · exact ⟨_, f__law_divisor, ok__law_divisor X Gn c⟩
  · exact ⟨_, f__law_low, ok__law_low X Gn c⟩
  · exact ⟨_, f__law_root, ok__law_root X Gn c⟩
  · exact ⟨_, f__law_bare, ok__law_bare X Gn c⟩
  · exact ⟨_, f__law_table, ok__law_table X Gn c⟩
  · exact ⟨_, f__law_surd, ok__law_surd X Gn c⟩
  · exact ⟨_, f__law_round_slope, ok__law_round_slope X Gn c⟩
  · exact ⟨_, f__law_is_more, ok__law_is_more X Gn c⟩
  · exact ⟨_, f__law_limit, ok__law_limit X Gn c⟩
  · exact ⟨_, f__law_some_terms, ok__law_some_terms X Gn c⟩
  · exact ⟨_, f__law_chain, ok__law_chain X Gn c⟩
  · exact ⟨_, f__law_otherwise, ok__law_otherwise X Gn c⟩
  · exact ⟨_, f__law_are_slopes_right, ok__law_are_slopes_right X Gn c⟩
  · exact ⟨_, f__law_are_steps_right, ok__law_are_steps_right X Gn c⟩
  · exact ⟨_, f__law_is_limit_right, ok__law_is_limit_right X Gn c⟩
  · exact ⟨_, f_law, ok_law X Gn c⟩
theorem head {K : PySem.W.Frag} {h : Heap} {mg : Str → Option Value} (X : K.In h) (Gn : h.Ns mainGlobals mg) (c : He.SaysD fa fn K) (g : ex K = true) : (∀ x i, T.cons.lookup x = some i → ∃ t, mg x = some (.int i t)) ∧ (∀ x ∈ bltNames, mg x = none) ∧ (G.gcd = true → mg "gcd" = some (.builtin "math.gcd")) ∧
    ∀ x ∈ G.fns, ∃ F, T.fns.lookup x = some F ∧ Nonempty (DefOk G T K mg x F) := by
  refine ⟨fun x i e => ?_, fun x hx => ?_, fun _ => gcdB_ok X Gn g, all X Gn c⟩
  · have hm := mem_lk e
    have hf : He.Fa.int x i ∈ fa := by
      have e2 : faI = T.cons.map fun q => He.Fa.int q.1 q.2 := rfl
      have : He.Fa.int x i ∈ faI := by rw [e2]; exact List.mem_map.mpr ⟨(x, i), hm, rfl⟩
      exact List.mem_append_right _ (List.mem_append_right _ this)
    exact He.int_ok X Gn (c.facts hf)
  · have hf : He.Fa.free x ∈ fa := by
      have e2 : faB = bltNames.map He.Fa.free := rfl
      have : He.Fa.free x ∈ faB := by rw [e2]; exact List.mem_map.mpr ⟨x, hx, rfl⟩
      exact List.mem_append_right _ (List.mem_append_left _ this)
    exact He.free_ok X Gn (c.facts hf)
def depth : Nat := 40
end L81
open PySem PySem.W PySem.Calls PyProof.Rows
theorem frame_holds (main : ∀ ns : List Int, ns.length ≤ 63 → (∀ i ∈ ns, Builtin.Int.intBits i ≤ 1048576) → ∃ S', Mn.callF L81.T 40 "law" [.frl (ns.map Mn.D.int)] [] = some (.bl true, S')) : PySem.Challenge.rw_linecuts_k81_whole_limits_by_chains.Holds := by
  w_on; o_law
  refine HandSHeadRun.head_imp (r := OpenLaw.row PySem.Challenge.rw_linecuts_k81_whole_limits_by_chains) (q := view (OpenLaw.row PySem.Challenge.rw_linecuts_k81_whole_limits_by_chains).prog [0, 73]) (H := L81.hk) (ob := Mn.obM 4 L81.fa L81.fn L81.ex) (M := 4000) (loose := L81.loose) (d := HandSHeadRun.topDef (OpenLaw.row PySem.Challenge.rw_linecuts_k81_whole_limits_by_chains).prog 73) (kwd := []) (Mn.obM_eq 4 L81.fa L81.fn L81.ex)
     L81.run (by kernel_rfl) (by kernel_rfl) (by kernel_rfl) (by rfl) (by first | assumption | decide +kernel) (by decide +kernel) ⟨rfl, rfl, rfl, rfl, rfl, by decide +kernel⟩ ?hw ?hc
  case hw => w_witness2
  case hc =>
    have hname : (HandSHeadRun.topDef (OpenLaw.row PySem.Challenge.rw_linecuts_k81_whole_limits_by_chains).prog 73).name = ("law" : PySem.Str) := by kernel_rfl
    refine Mn.walk_mn (l := PySem.Challenge.rw_linecuts_k81_whole_limits_by_chains) (n := 63) (k := 39) (G := L81.G) (T := L81.T) rfl (by decide) (by kernel_rfl) ⟨rfl, by decide, by decide⟩ (by rw [hname]; decide +kernel) ?_ (by rw [hname]; exact main)
    intro w mg h ⟨K, KX, c, g⟩ Gn
    exact ⟨K, KX, L81.head KX Gn c g⟩
end

section
set_option maxHeartbeats 1000000
namespace Mn
open PySem
theorem gc_same (S : So) (d : D) : gc S d S = (d, S) := by
  unfold gc
  rw [if_pos (.inl (List.take_length))]
  split
  · rw [List.take_length]
  · split
    · split
      · rename_i n c hn
        rw [if_neg]
        intro h
        have := (List.getElem?_eq_some_iff.mp hn).1
        omega
      · rfl
    · rfl
theorem gc_dat {S0 S1 : So} {d : D} (hb : d.bel 0 = true) (h : S1.take S0.length = S0 ∨ soBelow S0.length (S1.take S0.length) = true) : gc S0 d S1 = (d, S1.take S0.length) := by
  unfold gc
  rw [if_pos h, if_pos hb]
theorem gc_app {S E : So} {d : D} (hb : d.bel 0 = true) : gc S d (S ++ E) = (d, S) := by
  rw [gc_dat hb (.inl (by simp))]
  simp
theorem gc_mut {S0 S1 E : So} {d : D} (hb : d.bel 0 = true) (hl : S1.length = S0.length) (h : soBelow S0.length S1 = true) : gc S0 d (S1 ++ E) = (d, S1) := by
  have e : (S1 ++ E).take S0.length = S1 := by rw [← hl]; simp
  rw [gc_dat hb (.inr (by rw [e]; exact h)), e]
theorem gc_new (S : So) (c : C) : gc S (.ref S.length) (S ++ [c]) = (.ref S.length, S ++ [c]) := by
  unfold gc
  rw [if_pos (.inl (by simp))]
  have hb : ¬ ((D.ref S.length).bel 0 = true) := by simp [D.bel]
  rw [if_neg hb]
  simp only [List.getElem?_append_right (Nat.le_refl S.length), Nat.sub_self]
  simp
theorem gc_cell {S E E2 : So} {c : C} (hc : c.bel 0 = true) : gc S (.ref (S.length + E.length)) (S ++ E ++ c :: E2) = (.ref S.length, S ++ [c]) := by
  unfold gc
  rw [if_pos (.inl (by rw [List.append_assoc]; simp))]
  have hb : ¬ ((D.ref (S.length + E.length)).bel 0 = true) := by simp [D.bel]
  rw [if_neg hb]
  have e : (S ++ E ++ c :: E2)[S.length + E.length]? = some c := by
    rw [List.getElem?_append_right (by simp)]
    simp
  simp only [e]
  rw [if_pos ⟨by omega, hc⟩]
  rw [List.append_assoc]
  simp
theorem gc_cellM {S S1 E E2 : So} {c : C} (hl : S1.length = S.length) (h : soBelow S.length S1 = true) (hc : c.bel 0 = true) : gc S (.ref (S.length + E.length)) (S1 ++ E ++ c :: E2) = (.ref S.length, S1 ++ [c]) := by
  unfold gc
  have et : (S1 ++ E ++ c :: E2).take S.length = S1 := by rw [List.append_assoc, ← hl]; simp
  rw [if_pos (.inr (by rw [et]; exact h))]
  have hb : ¬ ((D.ref (S.length + E.length)).bel 0 = true) := by simp [D.bel]
  rw [if_neg hb]
  have e : (S1 ++ E ++ c :: E2)[S.length + E.length]? = some c := by
    rw [List.getElem?_append_right (by simp; omega)]
    simp [hl]
  simp only [e]
  rw [if_pos ⟨by omega, hc⟩, et]
theorem callF_of {T : Tb} {n : Nat} {f : Str} {np nl : Nat} {b : Ss} {ds : List D} {S S1 : So} {d : D} (hF : T.fns.lookup f = some (⟨np, nl, b⟩ : Fn)) (hl : ds.length = np)
    (h : exSs T (callF T n) b (ds.map some ++ List.replicate (nl - np) none) S = some (.rt d, S1)) : callF T (n + 1) f ds S = some (gc S d S1) := by
  simp only [callF, hF]
  rw [if_pos hl, h]
  rfl
theorem callF_pure {T : Tb} {n : Nat} {f : Str} {np nl : Nat} {b : Ss} {ds : List D} {S : So} {d : D} (hF : T.fns.lookup f = some (⟨np, nl, b⟩ : Fn)) (hl : ds.length = np)
    (h : exSs T (callF T n) b (ds.map some ++ List.replicate (nl - np) none) S = some (.rt d, S)) : callF T (n + 1) f ds S = some (d, S) := by
  rw [callF_of hF hl h, gc_same]
section
variable {c : En → So → Option (Bool × So)} {b : En → So → Option (Fl × So)}
theorem whN_mono : ∀ {n m : Nat} {ρ : En} {S : So} {r : Fl × So}, whN c b n ρ S = some r → n ≤ m → whN c b m ρ S = some r
  | 0, _, _, _, _, h, _ => by simp [whN] at h
  | n + 1, 0, _, _, _, _, hm => by omega
  | n + 1, m + 1, ρ, S, r, h, hm => by
    simp only [whN] at h ⊢
    cases hc : c ρ S with
    | none => rw [hc] at h; cases h
    | some q =>
      obtain ⟨k, S1⟩ := q
      rw [hc] at h
      simp only [Option.bind_some] at h ⊢
      cases k with
      | false => exact h
      | true =>
        simp only at h ⊢
        cases hb : b ρ S1 with
        | none => rw [hb] at h; cases h
        | some q =>
          obtain ⟨fl, S2⟩ := q
          rw [hb] at h
          simp only [Option.bind_some] at h ⊢
          cases fl with
          | nx ρ2 => exact whN_mono h (by omega)
          | ct ρ2 => exact whN_mono h (by omega)
          | bk ρ2 => exact h
          | rt d => exact h
theorem whL_of {n : Nat} {ρ : En} {S : So} {r : Fl × So} (h : whN c b n ρ S = some r) : whL c b ρ S = some r := by
  unfold whL
  have hx : ∃ n r, whN c b n ρ S = some r := ⟨n, r, h⟩
  rw [dif_pos hx]
  have h2 := Classical.choose_spec (Classical.choose_spec hx)
  have a := whN_mono h (Nat.le_max_left n (Classical.choose hx))
  have b := whN_mono h2 (Nat.le_max_right n (Classical.choose hx))
  rw [a] at b
  exact b.symm ▸ rfl
theorem whL_stop {ρ : En} {S S1 : So} (h : c ρ S = some (false, S1)) : whL c b ρ S = some (.nx ρ, S1) := whL_of (n := 1) (by simp only [whN, h, Option.bind_some])
theorem whL_ex {ρ : En} {S : So} {r : Fl × So} (h : whL c b ρ S = some r) : ∃ n, whN c b n ρ S = some r := by
  unfold whL at h
  split at h
  · rename_i hh
    cases h
    exact ⟨_, Classical.choose_spec (Classical.choose_spec hh)⟩
  · cases h
theorem whL_go {ρ ρ2 : En} {S S1 S2 : So} {r : Fl × So} (h : c ρ S = some (true, S1)) (h2 : b ρ S1 = some (.nx ρ2, S2)) (h3 : whL c b ρ2 S2 = some r) : whL c b ρ S = some r := by
  obtain ⟨n, hn⟩ := whL_ex h3
  exact whL_of (n := n + 1) (by simp only [whN, h, h2, Option.bind_some]; exact hn)
theorem whL_brk {ρ ρ2 : En} {S S1 S2 : So} (h : c ρ S = some (true, S1)) (h2 : b ρ S1 = some (.bk ρ2, S2)) : whL c b ρ S = some (.nx ρ2, S2) :=
  whL_of (n := 1) (by simp only [whN, h, h2, Option.bind_some])
theorem whL_ret {ρ : En} {S S1 S2 : So} {d : D} (h : c ρ S = some (true, S1)) (h2 : b ρ S1 = some (.rt d, S2)) : whL c b ρ S = some (.rt d, S2) :=
  whL_of (n := 1) (by simp only [whN, h, h2, Option.bind_some])
end
section
variable {w : Option (Nat × List D)} {step : D → En → So → Option (Fl × So)}
theorem forL_inv {α : Type} (emb : α → D) (I : List α → En → So → Prop) (hs : ∀ x xs ρ S, I (x :: xs) ρ S → ∃ ρ' S', (step (emb x) ρ S = some (.nx ρ', S') ∨ step (emb x) ρ S = some (.ct ρ', S')) ∧ Walk.stays w S' ∧ I xs ρ' S') :
    ∀ xs ρ S, I xs ρ S → ∃ ρ' S', forL w step (xs.map emb) ρ S = some (.nx ρ', S') ∧ I [] ρ' S'
  | [], ρ, S, h => ⟨ρ, S, rfl, h⟩
  | x :: xs, ρ, S, h => by
    obtain ⟨ρ1, S1, h1, h2, h3⟩ := hs x xs ρ S h
    obtain ⟨ρ2, S2, h4, h5⟩ := forL_inv emb I hs xs ρ1 S1 h3
    refine ⟨ρ2, S2, ?_, h5⟩
    simp only [List.map_cons, forL]
    rcases h1 with h1 | h1 <;> (rw [h1]; simp only [Option.bind_some]; rw [if_pos h2]; exact h4)
theorem forL_cons_nx {x : D} {xs : List D} {ρ ρ1 : En} {S S1 : So} (h : step x ρ S = some (.nx ρ1, S1)) (h2 : Walk.stays w S1) : forL w step (x :: xs) ρ S = forL w step xs ρ1 S1 := by
  simp only [forL]
  rw [h]
  simp only [Option.bind_some]
  rw [if_pos h2]
theorem forL_cons_ret {x : D} {xs : List D} {ρ : En} {S S1 : So} {d : D} (h : step x ρ S = some (.rt d, S1)) : forL w step (x :: xs) ρ S = some (.rt d, S1) := by
  simp only [forL]
  rw [h]
  rfl
end
section
variable {w : Option (Nat × List D)} {step : D → So → Option (Option D × So)}
theorem lcL_pure {α : Type} (emb : α → D) (g : α → Option D) {S : So} (hw : Walk.stays w S) : ∀ (xs : List α) (acc : List D), acc.length + xs.length ≤ sizeLine → (∀ x ∈ xs, ∀ acc, step (emb x) (S ++ [.lst acc]) = some (g x, S ++ [.lst acc])) →
    lcL w S.length step (xs.map emb) (S ++ [.lst acc]) = some (S ++ [.lst (acc ++ xs.filterMap g)])
  | [], acc, _, _ => by simp [lcL]
  | x :: xs, acc, hz, hs => by
    have hst : ∀ acc, Walk.stays w (S ++ [C.lst acc]) := fun acc => by
      cases w with
      | none => trivial
      | some p =>
        simp only [Walk.stays] at hw ⊢
        rw [List.getElem?_append_left (List.getElem?_eq_some_iff.mp hw).1]
        exact hw
    simp only [List.map_cons, lcL, hs x List.mem_cons_self acc, Option.bind_some]
    rw [if_pos (hst acc)]
    simp only [List.length_cons] at hz
    cases hg : g x with
    | none =>
      rw [List.filterMap_cons_none hg]
      exact lcL_pure emb g hw xs acc (by omega) fun y hy => hs y (List.mem_cons_of_mem _ hy)
    | some d =>
      simp only [List.getElem?_append_right (Nat.le_refl S.length), Nat.sub_self, List.getElem?_cons_zero]
      rw [if_pos (by omega), List.filterMap_cons_some hg]
      have e : (S ++ [C.lst acc]).set S.length (.lst (acc ++ [d])) = S ++ [.lst (acc ++ [d])] := by simp
      rw [e, lcL_pure emb g hw xs (acc ++ [d]) (by simp; omega) fun y hy => hs y (List.mem_cons_of_mem _ hy)]
      simp
end
def Ss.hd : Ss → S
  | .cons s _ => s
  | .nil => .pass
def Ss.tl : Ss → Ss
  | .cons _ ss => ss
  | .nil => .nil
def S.bd : S → Ss
  | .wh _ b => b
  | .fr _ _ b => b
  | .ifs _ a _ => a
  | _ => .nil
def S.els : S → Ss
  | .ifs _ _ b => b
  | _ => .nil
section
variable {T : Tb} {cf : Str → List D → So → Option (D × So)} {s : S} {ss : Ss} {ρ ρ1 ρ2 : En} {S0 S1 S2 : So} {r : Fl × So} {d : D} {c : E} {b : Ss}
theorem exSs_nx (h : exS T cf s ρ S0 = some (.nx ρ1, S1)) (h2 : exSs T cf ss ρ1 S1 = some r) : exSs T cf (.cons s ss) ρ S0 = some r := by
  simp only [exSs, h, Option.bind_some]
  exact h2
theorem exSs_rt (h : exS T cf s ρ S0 = some (.rt d, S1)) : exSs T cf (.cons s ss) ρ S0 = some (.rt d, S1) := by
  simp only [exSs, h, Option.bind_some]
theorem wh_go (hc : evT T cf c ρ S0 = some (true, S1)) (hb : exSs T cf b ρ S1 = some (.nx ρ2, S2)) (h : exS T cf (.wh c b) ρ2 S2 = some r) : exS T cf (.wh c b) ρ S0 = some r := by
  simp only [exS] at h ⊢
  exact whL_go hc hb h
theorem wh_stop (hc : evT T cf c ρ S0 = some (false, S1)) : exS T cf (.wh c b) ρ S0 = some (.nx ρ, S1) := by
  simp only [exS]
  exact whL_stop hc
theorem wh_brk (hc : evT T cf c ρ S0 = some (true, S1)) (hb : exSs T cf b ρ S1 = some (.bk ρ2, S2)) : exS T cf (.wh c b) ρ S0 = some (.nx ρ2, S2) := by
  simp only [exS]
  exact whL_brk hc hb
theorem wh_ret (hc : evT T cf c ρ S0 = some (true, S1)) (hb : exSs T cf b ρ S1 = some (.rt d, S2)) : exS T cf (.wh c b) ρ S0 = some (.rt d, S2) := by
  simp only [exS]
  exact whL_ret hc hb
end
theorem toPy_ints {n : Nat} {S : So} (xs : List Int) : (xs.map D.int).mapM (toPy (n + 1) S) = some (xs.map PyData.int) := by
  induction xs with
  | nil => rfl
  | cons x xs ih => simp [List.mapM_cons, toPy, ih]
end Mn
end

section
set_option maxHeartbeats 1000000
namespace Mn
open PySem
section
variable {T : Tb} {cf : Str → List D → So → Option (D × So)} {ρ ρ1 ρ2 : En} {S0 S1 S2 S3 S4 : So} {a b c e f : E} {es : Es} {d x y z : D} {ds : List D} {i j : Int} {k : Bool} {r : D × So} {o p : Op} {q q' : Cp}
theorem e_var {n : Nat} (h : ρ[n]? = some (some d)) : evE T cf (.var n) ρ S0 = some (d, S0) := by simp only [evE, h]
theorem e_int : evE T cf (.int i) ρ S0 = some (.int i, S0) := by simp only [evE]
theorem e_bl : evE T cf (.bl k) ρ S0 = some (.bl k, S0) := by simp only [evE]
theorem e_non : evE T cf .non ρ S0 = some (.non, S0) := by simp only [evE]
theorem e_str {t : Str} : evE T cf (.str t) ρ S0 = some (.str t, S0) := by simp only [evE]
theorem e_glob {t : Str} (h : T.cons.lookup t = some i) : evE T cf (.glob t) ρ S0 = some (.int i, S0) := by simp only [evE, h, Option.map_some]
theorem e_bin (h1 : evE T cf a ρ S0 = some (x, S1)) (h2 : evE T cf b ρ S1 = some (y, S2)) (h3 : opV o x y S2 = some (z, S3)) : evE T cf (.bin o a b) ρ S0 = some (z, S3) := by
  simp only [evE, h1, h2, Option.bind_some]
  exact h3
theorem e_neg (h : evE T cf a ρ S0 = some (.int i, S1)) : evE T cf (.neg a) ρ S0 = some (.int (-i), S1) := by simp only [evE, h, Option.bind_some]
theorem e_not (h : evE T cf a ρ S0 = some (.bl k, S1)) : evE T cf (.not a) ρ S0 = some (.bl (!k), S1) := by simp only [evE, h, Option.bind_some]
theorem e_cmp (h1 : evE T cf a ρ S0 = some (x, S1)) (h2 : evE T cf b ρ S1 = some (y, S2)) (h3 : cpV q x y S2 = some k) : evE T cf (.cmp q a b) ρ S0 = some (.bl k, S2) := by
  simp only [evE, h1, h2, Option.bind_some, h3, Option.map_some]
theorem e_cmp2_t (h1 : evE T cf a ρ S0 = some (x, S1)) (h2 : evE T cf b ρ S1 = some (y, S2)) (h3 : cpV q x y S2 = some true) (h4 : evE T cf c ρ S2 = some (z, S3)) (h5 : cpV q' y z S3 = some k) : evE T cf (.cmp2 q q' a b c) ρ S0 = some (.bl k, S3) := by
  simp only [evE, h1, h2, Option.bind_some, h3, if_true, h4, h5, Option.map_some]
theorem e_cmp2_f (h1 : evE T cf a ρ S0 = some (x, S1)) (h2 : evE T cf b ρ S1 = some (y, S2)) (h3 : cpV q x y S2 = some false) : evE T cf (.cmp2 q q' a b c) ρ S0 = some (.bl false, S2) := by
  simp only [evE, h1, h2, Option.bind_some, h3, Bool.false_eq_true, if_false]
theorem e_and1 (h : evE T cf a ρ S0 = some r) : evE T cf (.and (.cons a .nil)) ρ S0 = some r := by simp only [evE, evAnd, h]
theorem e_and_t (h : evE T cf a ρ S0 = some (.bl true, S1)) (h2 : evE T cf (.and (.cons b es)) ρ S1 = some r) : evE T cf (.and (.cons a (.cons b es))) ρ S0 = some r := by
  simp only [evE] at h2
  simp only [evE, evAnd, h, Option.bind_some]
  exact h2
theorem e_and_f (h : evE T cf a ρ S0 = some (.bl false, S1)) : evE T cf (.and (.cons a (.cons b es))) ρ S0 = some (.bl false, S1) := by simp only [evE, evAnd, h, Option.bind_some]
theorem e_or1 (h : evE T cf a ρ S0 = some r) : evE T cf (.or (.cons a .nil)) ρ S0 = some r := by simp only [evE, evOr, h]
theorem e_or_f (h : evE T cf a ρ S0 = some (.bl false, S1)) (h2 : evE T cf (.or (.cons b es)) ρ S1 = some r) : evE T cf (.or (.cons a (.cons b es))) ρ S0 = some r := by
  simp only [evE] at h2
  simp only [evE, evOr, h, Option.bind_some]
  exact h2
theorem e_or_t (h : evE T cf a ρ S0 = some (.bl true, S1)) : evE T cf (.or (.cons a (.cons b es))) ρ S0 = some (.bl true, S1) := by simp only [evE, evOr, h, Option.bind_some]
theorem e_ite_t (h : evE T cf c ρ S0 = some (.bl true, S1)) (h2 : evE T cf a ρ S1 = some r) : evE T cf (.ite c a b) ρ S0 = some r := by simp only [evE, h, Option.bind_some, h2]
theorem e_ite_f (h : evE T cf c ρ S0 = some (.bl false, S1)) (h2 : evE T cf b ρ S1 = some r) : evE T cf (.ite c a b) ρ S0 = some r := by simp only [evE, h, Option.bind_some, h2]
theorem e_nil : evEs T cf .nil ρ S0 = some ([], S0) := by simp only [evEs]
theorem e_cons (h : evE T cf a ρ S0 = some (x, S1)) (h2 : evEs T cf es ρ S1 = some (ds, S2)) : evEs T cf (.cons a es) ρ S0 = some (x :: ds, S2) := by simp only [evEs, h, Option.bind_some, h2, Option.map_some]
theorem e_tup (h : evEs T cf es ρ S0 = some (ds, S1)) (hl : ds.length ≤ 1000) : evE T cf (.tup es) ρ S0 = some (.tup ds, S1) := by
  simp only [evE, h, Option.bind_some]
  rw [if_pos (by rw [sizeLine_eq]; omega)]
theorem e_lst (h : evEs T cf es ρ S0 = some (ds, S1)) (hl : ds.length ≤ 1000) : evE T cf (.lst es) ρ S0 = some (.ref S1.length, S1 ++ [.lst ds]) := by
  simp only [evE, h, Option.bind_some]
  rw [if_pos (by rw [sizeLine_eq]; omega)]
theorem e_dT : evE T cf .dT ρ S0 = some (.ref S0.length, S0 ++ [.dT []]) := by simp only [evE]
theorem e_dK : evE T cf .dK ρ S0 = some (.ref S0.length, S0 ++ [.dK []]) := by simp only [evE]
theorem e_ix (h1 : evE T cf a ρ S0 = some (x, S1)) (h2 : evE T cf b ρ S1 = some (y, S2)) (h3 : ixV x y S2 = some (z, S3)) : evE T cf (.ix a b) ρ S0 = some (z, S3) := by
  simp only [evE, h1, h2, Option.bind_some]
  exact h3
theorem e_call {g : Str} (h : evEs T cf es ρ S0 = some (ds, S1)) (h2 : cf g ds S1 = some r) : evE T cf (.call g es) ρ S0 = some r := by simp only [evE, h, Option.bind_some, h2]
theorem e_callk {g : Str} {es2 : Es} {ks : List Str} {ds2 ds3 : List D} {pm : List Nat} (h : evEs T cf es ρ S0 = some (ds, S1)) (h1 : evEs T cf es2 ρ S1 = some (ds2, S2)) (hk : T.kws.lookup (g, ds.length, ks) = some pm)
    (hp : pm.mapM (fun j => (ds ++ ds2)[j]?) = some ds3) (h2 : cf g ds3 S2 = some r) : evE T cf (.callk g es ks es2) ρ S0 = some r := by
  simp only [evE, h, Option.bind_some, h1, hk, hp, h2]
theorem e_bi {g : Bi} (h : evEs T cf es ρ S0 = some (ds, S0)) (h2 : biV g ds S0 = some (d, S0)) : evE T cf (.bi g es) ρ S0 = some (d, S0) := by
  simp only [evE, h, Option.bind_some, h2, Option.map_some, gc_same]
theorem e_biN {g : Bi} {c : C} (h : evEs T cf es ρ S0 = some (ds, S0)) (h2 : biV g ds S0 = some (.ref S0.length, S0 ++ [c])) : evE T cf (.bi g es) ρ S0 = some (.ref S0.length, S0 ++ [c]) := by
  simp only [evE, h, Option.bind_some, h2, Option.map_some, gc_new]
theorem e_biA {g : Bi} {E : So} (h : evEs T cf es ρ S0 = some (ds, S0 ++ E)) (h2 : biV g ds (S0 ++ E) = some (d, S0 ++ E)) (hb : d.bel 0 = true) : evE T cf (.bi g es) ρ S0 = some (d, S0) := by
  simp only [evE, h, Option.bind_some, h2, Option.map_some, gc_app hb]
theorem e_me {m : Me} (h : evE T cf a ρ S0 = some (x, S1)) (ht : meTy m x S1 = true) (h2 : evEs T cf es ρ S1 = some (ds, S2)) (h3 : meV m x ds S2 = some r) : evE T cf (.me m a es) ρ S0 = some r := by
  simp only [evE, h, Option.bind_some]
  rw [if_pos ht, h2]
  simp only [Option.bind_some, h3]
theorem e_rev (h : evE T cf a ρ S0 = some (x, S1)) (h2 : revV x S1 = some r) : evE T cf (.rev a) ρ S0 = some r := by simp only [evE, h, Option.bind_some, h2]
theorem e_sl {lo hi : Eo} {l u : Option Int} (h : evE T cf a ρ S0 = some (x, S1)) (h1 : evO T cf lo ρ S1 = some (l, S2)) (h2 : evO T cf hi ρ S2 = some (u, S3)) (h3 : slV x l u S3 = some r) : evE T cf (.sl a lo hi) ρ S0 = some r := by
  simp only [evE, h, Option.bind_some, h1, h2, h3]
theorem eo_none : evO T cf .none ρ S0 = some (none, S0) := by simp only [evO]
theorem eo_some (h : evE T cf a ρ S0 = some (.int i, S1)) : evO T cf (.some a) ρ S0 = some (some i, S1) := by simp only [evO, h, Option.bind_some]
theorem o_add : opV .add (.int i) (.int j) S0 = some (.int (i + j), S0) := rfl
theorem o_sub : opV .sub (.int i) (.int j) S0 = some (.int (i - j), S0) := rfl
theorem o_mul (h : mulOk i j) : opV .mul (.int i) (.int j) S0 = some (.int (i * j), S0) := by simp only [opV]; rw [if_pos h]
theorem o_fdiv (h : divOk j) : opV .fdiv (.int i) (.int j) S0 = some (.int (i / j), S0) := by simp only [opV]; rw [if_pos h]
theorem o_mod (h : 0 < j) : opV .mod (.int i) (.int j) S0 = some (.int (i % j), S0) := by simp only [opV]; rw [if_pos h]
theorem o_pow (h : powOk i j) : opV .pow (.int i) (.int j) S0 = some (.int (i ^ j.toNat), S0) := by simp only [opV]; rw [if_pos h]
theorem o_shl (h : 0 ≤ j ∧ j ≤ 1000000) : opV .shl (.int 1) (.int j) S0 = some (.int (2 ^ j.toNat), S0) := by simp only [opV]; rw [if_pos ⟨trivial, h⟩]
theorem o_addT {xs ys : List D} (h : xs.length + ys.length ≤ 1000000) : opV .add (.tup xs) (.tup ys) S0 = some (.tup (xs ++ ys), S0) := by simp only [opV]; rw [if_pos (by rw [sizeLine_eq]; omega)]
theorem o_mulT {xs : List D} (h : 1 ≤ i ∧ i ≤ 1000 ∧ 1 ≤ xs.length ∧ xs.length ≤ 1000) : opV .mul (.tup xs) (.int i) S0 = some (.tup (List.replicate i.toNat xs).flatten, S0) := by simp only [opV]; rw [if_pos h]
theorem o_addL {n m : Nat} {xs ys : List D} (h1 : S0[n]? = some (.lst xs)) (h2 : S0[m]? = some (.lst ys)) (h : xs.length + ys.length ≤ 1000000) : opV .add (.ref n) (.ref m) S0 = some (.ref S0.length, S0 ++ [.lst (xs ++ ys)]) := by
  simp only [opV, h1, h2]
  rw [if_pos (by rw [sizeLine_eq]; omega)]
theorem o_mulL {n : Nat} {xs : List D} (h1 : S0[n]? = some (.lst xs)) (h : 0 ≤ i ∧ i ≤ 1000 ∧ xs.length ≤ 1000) : opV .mul (.ref n) (.int i) S0 = some (.ref S0.length, S0 ++ [.lst (List.replicate i.toNat xs).flatten]) := by
  simp only [opV, h1]
  rw [if_pos]
  refine ⟨h.1, by omega, ?_⟩
  have h2 : i.toNat ≤ 1000 := by omega
  have := Nat.mul_le_mul h.2.2 h2
  rw [sizeLine_eq]
  omega
theorem c_lt : cpV .lt (.int i) (.int j) S0 = some (decide (i < j)) := rfl
theorem c_le : cpV .le (.int i) (.int j) S0 = some (decide (i ≤ j)) := rfl
theorem c_gt : cpV .gt (.int i) (.int j) S0 = some (decide (j < i)) := rfl
theorem c_ge : cpV .ge (.int i) (.int j) S0 = some (decide (j ≤ i)) := rfl
theorem c_lt_t (h : i < j) : cpV .lt (.int i) (.int j) S0 = some true := by rw [c_lt, decide_eq_true h]
theorem c_le_t (h : i ≤ j) : cpV .le (.int i) (.int j) S0 = some true := by rw [c_le, decide_eq_true h]
theorem c_gt_t (h : j < i) : cpV .gt (.int i) (.int j) S0 = some true := by rw [c_gt, decide_eq_true h]
theorem c_ge_t (h : j ≤ i) : cpV .ge (.int i) (.int j) S0 = some true := by rw [c_ge, decide_eq_true h]
theorem c_lt_f (h : ¬ i < j) : cpV .lt (.int i) (.int j) S0 = some false := by rw [c_lt, decide_eq_false h]
theorem c_le_f (h : ¬ i ≤ j) : cpV .le (.int i) (.int j) S0 = some false := by rw [c_le, decide_eq_false h]
theorem c_gt_f (h : ¬ j < i) : cpV .gt (.int i) (.int j) S0 = some false := by rw [c_gt, decide_eq_false h]
theorem c_ge_f (h : ¬ j ≤ i) : cpV .ge (.int i) (.int j) S0 = some false := by rw [c_ge, decide_eq_false h]
theorem toPy_tup {n : Nat} {xs : List D} {ps : List PyData} (h : xs.mapM (toPy n S0) = some ps) : toPy (n + 1) S0 (.tup xs) = some (.tuple ps) := by simp only [toPy, h, Option.map_some]
theorem toPy_tints {n : Nat} (xs : List Int) : toPy (n + 2) S0 (.tup (xs.map D.int)) = some (.tuple (xs.map PyData.int)) := toPy_tup (toPy_ints xs)
theorem c_eq : cpV .eq (.int i) (.int j) S0 = some (decide (i = j)) := by
  simp only [cpV, eqO, toPy]
  rw [if_pos ⟨rfl, rfl⟩]
  simp [PyData.eqv, Bool.beq_eq_decide_eq]
theorem c_eq_t (h : i = j) : cpV .eq (.int i) (.int j) S0 = some true := by rw [c_eq, decide_eq_true h]
theorem c_eq_f (h : ¬ i = j) : cpV .eq (.int i) (.int j) S0 = some false := by rw [c_eq, decide_eq_false h]
theorem c_ne : cpV .ne (.int i) (.int j) S0 = some (!decide (i = j)) := by
  have h := c_eq (S0 := S0) (i := i) (j := j)
  simp only [cpV] at h ⊢
  rw [h]
  rfl
theorem c_ne_t (h : ¬ i = j) : cpV .ne (.int i) (.int j) S0 = some true := by rw [c_ne, decide_eq_false h]; rfl
theorem c_ne_f (h : i = j) : cpV .ne (.int i) (.int j) S0 = some false := by rw [c_ne, decide_eq_true h]; rfl
theorem ix_tup {xs : List D} (h : L2.atI xs i = some d) : ixV (.tup xs) (.int i) S0 = some (d, S0) := by simp only [ixV, itemsOf, h, Option.map_some]
theorem ix_ref {n : Nat} {xs : List D} (hn : S0[n]? = some (.lst xs)) (h : L2.atI xs i = some d) : ixV (.ref n) (.int i) S0 = some (d, S0) := by simp only [ixV, itemsOf, hn, h, Option.map_some]
theorem t_of (h : evE T cf e ρ S0 = some (.bl k, S1)) : evT T cf e ρ S0 = some (k, S1) := by simp only [evT, h, Option.bind_some]
theorem s_pass : exS T cf .pass ρ S0 = some (.nx ρ, S0) := by simp only [exS]
theorem s_brk : exS T cf .brk ρ S0 = some (.bk ρ, S0) := by simp only [exS]
theorem s_cnt : exS T cf .cnt ρ S0 = some (.ct ρ, S0) := by simp only [exS]
theorem s_ex (h : evE T cf e ρ S0 = some (d, S1)) : exS T cf (.ex e) ρ S0 = some (.nx ρ, S1) := by simp only [exS, h, Option.map_some]
theorem s_asg {g : Gt} (h : evE T cf e ρ S0 = some (d, S1)) (h2 : asgG g d ρ = some ρ1) : exS T cf (.asg g e) ρ S0 = some (.nx ρ1, S1) := by simp only [exS, h, Option.bind_some, h2, Option.map_some]
theorem s_ret (h : evE T cf e ρ S0 = some (d, S1)) : exS T cf (.ret e) ρ S0 = some (.rt d, S1) := by simp only [exS, h, Option.map_some]
theorem s_put (h : evE T cf e ρ S0 = some (d, S1)) (h1 : evE T cf a ρ S1 = some (x, S2)) (h2 : evE T cf b ρ S2 = some (y, S3)) (h3 : putV x y d S3 = some S4) : exS T cf (.put a b e) ρ S0 = some (.nx ρ, S4) := by
  simp only [exS, h, Option.bind_some, h1, h2, h3, Option.map_some]
variable {A B : Ss} {fl : Fl × So} {s : S} {ss : Ss}
theorem s_if_t (h : evT T cf c ρ S0 = some (true, S1)) (h2 : exSs T cf A ρ S1 = some fl) : exS T cf (.ifs c A B) ρ S0 = some fl := by simp only [exS, h, Option.bind_some, if_true, h2]
theorem s_if_f (h : evT T cf c ρ S0 = some (false, S1)) (h2 : exSs T cf B ρ S1 = some fl) : exS T cf (.ifs c A B) ρ S0 = some fl := by simp only [exS, h, Option.bind_some, Bool.false_eq_true, if_false, h2]
theorem ss_nil : exSs T cf .nil ρ S0 = some (.nx ρ, S0) := by simp only [exSs]
theorem ss_nl (h : ρ = ρ1) : exSs T cf .nil ρ S0 = some (.nx ρ1, S0) := by rw [h]; exact ss_nil
theorem ss_bk (h : exS T cf s ρ S0 = some (.bk ρ1, S1)) : exSs T cf (.cons s ss) ρ S0 = some (.bk ρ1, S1) := by simp only [exSs, h, Option.bind_some]
theorem ss_ct (h : exS T cf s ρ S0 = some (.ct ρ1, S1)) : exSs T cf (.cons s ss) ρ S0 = some (.ct ρ1, S1) := by simp only [exSs, h, Option.bind_some]
end

section
variable {T : Tb} {cf : Str → List D → So → Option (D × So)} {ρ : En} {S0 S1 S2 : So} {a b : E} {x y : D} {xs : List D} {i j : Int} {w : Option (Nat × List D)} {g : Gt} {it : It} {body : Ss} {r : Fl × So}
theorem s_fr (h : evIt T cf it ρ S0 = some ((xs, w), S1)) (h2 : forL w (fun x ρ S => (asgG g x ρ).bind fun ρ => exSs T cf body ρ S) xs ρ S1 = some r) : exS T cf (.fr g it body) ρ S0 = some r := by
  simp only [exS, h, Option.bind_some]
  exact h2
theorem it_range1 (h : evE T cf a ρ S0 = some (.int j, S1)) (h0 : 0 ≤ j) (h1 : j < 2 ^ 62) : evIt T cf (.range (.cons a .nil)) ρ S0 = some ((rangeL 0 j.toNat, none), S1) := by
  simp only [evIt, evEs, h, Option.bind_some, Option.map_some, rangeV]
  rw [if_pos ⟨by omega, h1⟩]
  rfl
theorem it_range2 (h : evE T cf a ρ S0 = some (.int i, S1)) (h2 : evE T cf b ρ S1 = some (.int j, S2)) (h0 : -(2 ^ 62) ≤ i ∧ i < 2 ^ 62 ∧ -(2 ^ 62) ≤ j ∧ j < 2 ^ 62) : evIt T cf (.range (.cons a (.cons b .nil))) ρ S0 = some ((rangeL i (j - i).toNat, none), S2) := by
  simp only [evIt, evEs, h, h2, Option.bind_some, Option.map_some, rangeV]
  rw [if_pos h0]
  rfl
theorem it_ex (h : evE T cf a ρ S0 = some (x, S1)) (h2 : itemsOf S1 x = some xs) : evIt T cf (.ex a) ρ S0 = some ((xs, srcOf S1 x), S1) := by
  simp only [evIt, h, Option.bind_some, h2, Option.map_some]
theorem it_exT (h : evE T cf a ρ S0 = some (.tup xs, S1)) : evIt T cf (.ex a) ρ S0 = some ((xs, none), S1) := it_ex h rfl
theorem it_enumT (h : evE T cf a ρ S0 = some (.tup xs, S1)) : evIt T cf (.enum a) ρ S0 = some ((enumL 0 xs, none), S1) := by
  simp only [evIt, h, Option.bind_some, itemsOf, Option.map_some, srcOf]
theorem rangeL_length (i : Int) (n : Nat) : (rangeL i n).length = n := by simp [rangeL]
end
theorem asg_i {g : Gt} {d : D} {ρ ρ1 : En} (h : asgG g d ρ = some ρ1) : asgG g d ρ = some ρ1 := h
theorem at_i {xs : List D} {i : Int} {d : D} (h : L2.atI xs i = some d) : L2.atI xs i = some d := h
theorem ty_i {m : Me} {x : D} {S : So} (h : meTy m x S = true) : meTy m x S = true := h
theorem mv_i {m : Me} {x : D} {ds : List D} {S : So} {r : D × So} (h : meV m x ds S = some r) : meV m x ds S = some r := h
theorem bi_i {b : Bi} {ds : List D} {S : So} {r : D × So} (h : biV b ds S = some r) : biV b ds S = some r := h
theorem len_i {ds : List D} (h : Nat.ble ds.length 1000 = true) : ds.length ≤ 1000 := Nat.le_of_ble_eq_true h
def Sz (n : Nat) (i : Int) : Prop := i.natAbs < 2 ^ n
section
variable {m n k : Nat} {i j : Int}
theorem Sz.id (h : Sz m i) : Sz m i := h
theorem Sz.mono (h : Sz m i) (hl : m ≤ n) : Sz n i := Nat.lt_of_lt_of_le h (Nat.pow_le_pow_right (by decide) hl)
theorem Sz.mul (h : Sz m i) (h2 : Sz n j) : Sz (m + n) (i * j) := by
  unfold Sz at *
  rw [Int.natAbs_mul, Nat.pow_add]
  exact Nat.mul_lt_mul'' h h2
theorem Sz.add (h : Sz m i) (h2 : Sz n j) : Sz (max m n + 1) (i + j) := by
  unfold Sz at *
  have a := Int.natAbs_add_le i j
  have b : 2 ^ m ≤ 2 ^ (max m n) := Nat.pow_le_pow_right (by decide) (Nat.le_max_left m n)
  have c : 2 ^ n ≤ 2 ^ (max m n) := Nat.pow_le_pow_right (by decide) (Nat.le_max_right m n)
  rw [Nat.pow_succ]
  omega
theorem Sz.neg (h : Sz m i) : Sz m (-i) := by
  unfold Sz at *
  rw [Int.natAbs_neg]
  exact h
theorem Sz.sub (h : Sz m i) (h2 : Sz n j) : Sz (max m n + 1) (i - j) := by
  rw [Int.sub_eq_add_neg]
  exact h.add h2.neg
theorem Sz.le (h : Sz m i) (hl : j.natAbs ≤ i.natAbs) : Sz m j := Nat.lt_of_le_of_lt hl h
theorem Sz.lit (h : i.natAbs < 2 ^ n) : Sz n i := h
theorem Sz.div (h : Sz m i) : Sz m (i / j) := by
  exact h.le (Int.natAbs_ediv_le_natAbs i j)
theorem Sz.log (h : Sz m i) : i.natAbs.log2 ≤ m := by
  by_cases h0 : i.natAbs = 0
  · rw [h0]; simp
  · have := (Nat.log2_lt h0).mpr h
    omega
theorem mul_sz (h : Sz m i) (h2 : Sz n j) (h3 : m + n ≤ 100000) : mulOk i j := by
  unfold mulOk
  have := h.log
  have := h2.log
  omega
theorem div_lit {k : Nat} (h : (0 < k ∧ k < 2 ^ 16)) : divOk (OfNat.ofNat k) := by
  refine ⟨by have := h.1; show (0 : Int) < (k : Int); omega, ?_⟩
  have h1 : Sz 16 (OfNat.ofNat k : Int) := by unfold Sz; show ((k : Int)).natAbs < _; simpa using h.2
  have := h1.log
  omega
theorem div_sz (h0 : 0 < j) (h : Sz m j) (h3 : m ≤ 8999) : divOk j := ⟨h0, by have := h.log; omega⟩
end
end Mn
end

section
set_option maxHeartbeats 1000000
namespace Mn
open PySem
theorem canLayAll0_ints : ∀ ns : List Int, PyData.canLayAll0 (ns.map PyData.int) = true
  | [] => rfl
  | _ :: r => by simp [PyData.canLayAll0, PyData.canLay0, canLayAll0_ints r]
theorem depthAll_ints : ∀ ns : List Int, PyData.depthAll (ns.map PyData.int) = 0
  | [] => rfl
  | _ :: r => by simp [PyData.depthAll, PyData.depth, depthAll_ints r]
theorem shaped_tup (ns : List Int) : SeqAt.shaped (.tuple (ns.map PyData.int)) = true := by
  simp [SeqAt.shaped, PyData.canLay0, PyData.depth, canLayAll0_ints, depthAll_ints]
theorem eqvAll_ints : ∀ ns ms : List Int, PyData.eqvAll (ns.map PyData.int) (ms.map PyData.int) = decide (ns = ms)
  | [], [] => by simp [PyData.eqvAll]
  | [], _ :: _ => by simp [PyData.eqvAll]
  | _ :: _, [] => by simp [PyData.eqvAll]
  | a :: r, b :: t => by
    simp only [List.map_cons, PyData.eqvAll, PyData.eqv, eqvAll_ints r t]
    by_cases h : a = b <;> by_cases h' : r = t <;> simp [h, h']
variable {S0 : So}
theorem c_eqT {xs ys : List Int} : cpV .eq (.tup (xs.map D.int)) (.tup (ys.map D.int)) S0 = some (decide (xs = ys)) := by
  simp only [cpV, eqO]
  rw [toPy_tints (n := 58) xs, toPy_tints (n := 58) ys]
  simp only
  rw [if_pos ⟨shaped_tup xs, shaped_tup ys⟩]
  simp only [PyData.eqv, eqvAll_ints]
theorem c_neT {xs ys : List Int} : cpV .ne (.tup (xs.map D.int)) (.tup (ys.map D.int)) S0 = some (!decide (xs = ys)) := by
  have h := c_eqT (S0 := S0) (xs := xs) (ys := ys)
  simp only [cpV] at h ⊢
  rw [h]
  rfl
theorem c_ne0_t {x : Int} {xs : List Int} : cpV .ne (.tup ((x :: xs).map D.int)) (.tup []) S0 = some true := c_neT (xs := x :: xs) (ys := [])
theorem c_ne0_f : cpV .ne (.tup []) (.tup []) S0 = some false := c_neT (xs := []) (ys := [])
theorem c_eq0_f {x : Int} {xs : List Int} : cpV .eq (.tup ((x :: xs).map D.int)) (.tup []) S0 = some false := c_eqT (xs := x :: xs) (ys := [])
theorem c_eq4 {a b c d a' b' c' d' : Int} : cpV .eq (.tup [.int a, .int b, .int c, .int d]) (.tup [.int a', .int b', .int c', .int d']) S0 = some (decide ([a, b, c, d] = [a', b', c', d'])) := c_eqT (xs := [a, b, c, d]) (ys := [a', b', c', d'])
theorem c_ne4 {a b c d a' b' c' d' : Int} : cpV .ne (.tup [.int a, .int b, .int c, .int d]) (.tup [.int a', .int b', .int c', .int d']) S0 = some (!decide ([a, b, c, d] = [a', b', c', d'])) := c_neT (xs := [a, b, c, d]) (ys := [a', b', c', d'])
end Mn
end

section
set_option maxHeartbeats 1000000
namespace Mn
open PySem
variable {S0 : So} {T : Tb} {cf : Str → List D → So → Option (D × So)} {ρ : En}
theorem at_nat {α : Type} {xs : List α} {k : Nat} : L2.atI xs (k : Int) = xs[k]? := by
  unfold L2.atI L2.ixN
  rw [if_pos (by omega)]
  by_cases h : k < xs.length
  · rw [if_pos (by omega)]
    simp
  · rw [if_neg (by omega)]
    simp only [Option.bind_none]
    rw [List.getElem?_eq_none (by omega)]
theorem at_pos {α : Type} {xs : List α} {i : Int} (h : 0 ≤ i) : L2.atI xs i = xs[i.toNat]? := by
  rw [← at_nat]
  congr 1
  omega
theorem at_last {α : Type} {xs : List α} {x : α} : L2.atI (xs ++ [x]) (-1) = some x := by
  unfold L2.atI L2.ixN
  rw [if_neg (by omega), if_pos (by rw [List.length_append, List.length_singleton]; omega)]
  have e : (-1 + ((xs ++ [x]).length : Int)).toNat = xs.length := by rw [List.length_append, List.length_singleton]; omega
  simp only [Option.bind_some]
  rw [e]
  simp
theorem get_new {c : C} : (S0 ++ [c])[S0.length]? = some c := by simp
theorem set_new {c c' : C} : (S0 ++ [c]).set S0.length c' = S0 ++ [c'] := by simp
theorem ix_last {xs : List D} {x : D} : ixV (.ref S0.length) (.int (-1)) (S0 ++ [.lst (xs ++ [x])]) = some (x, S0 ++ [.lst (xs ++ [x])]) := ix_ref get_new at_last
theorem ix_new {xs : List D} {i : Int} {d : D} (h : L2.atI xs i = some d) : ixV (.ref S0.length) (.int i) (S0 ++ [.lst xs]) = some (d, S0 ++ [.lst xs]) := ix_ref get_new h
theorem me_app {xs : List D} {y : D} (h : xs.length < 1000000) : meV .append (.ref S0.length) [y] (S0 ++ [.lst xs]) = some (.non, S0 ++ [.lst (xs ++ [y])]) := by
  simp only [meV, get_new, set_new]
  rw [if_pos (by rw [sizeLine_eq]; omega)]
theorem ty_app {xs : List D} : meTy .append (.ref S0.length) (S0 ++ [.lst xs]) = true := by
  simp only [meTy, get_new]
theorem s_app {v : Nat} {e : E} {xs : List D} {d : D} (h : ρ[v]? = some (some (.ref S0.length))) (he : evE T cf e ρ (S0 ++ [.lst xs]) = some (d, S0 ++ [.lst xs])) (hl : xs.length < 1000000) :
    exS T cf (.ex (.me .append (.var v) (.cons e .nil))) ρ (S0 ++ [.lst xs]) = some (.nx ρ, S0 ++ [.lst (xs ++ [d])]) :=
  s_ex (e_me (e_var h) ty_app (e_cons he e_nil) (me_app hl))
theorem rangeL_succ (lo : Int) (n : Nat) : rangeL lo (n + 1) = .int lo :: rangeL (lo + 1) n := by
  unfold rangeL
  rw [List.range_succ_eq_map]
  simp [List.map_map, Function.comp_def]
  intro a _
  omega
theorem enumL_cons (k : Nat) (x : D) (xs : List D) : enumL k (x :: xs) = .tup [.int k, x] :: enumL (k + 1) xs := rfl
theorem ints_bel (n : Nat) (xs : List Int) : D.bel n (.tup (xs.map D.int)) = true := by
  show belows n _ = true
  induction xs with
  | nil => rfl
  | cons x xs ih => simp only [List.map_cons, belows, ih, D.bel, Bool.and_self]
theorem e_lc0 {α : Type} (emb : α → D) (h : α → D) {w : Option (Nat × List D)} {elt : E} {gt : Gt} {it : It} {own : List Nat} {xs : List α} (hit : evIt T cf it ρ S0 = some ((xs.map emb, w), S0)) (hw : Walk.stays w S0) (hl : xs.length ≤ 100000)
    (hs : ∀ x ∈ xs, ∀ acc, ∃ ρ', asgG gt (emb x) (wipe ρ own) = some ρ' ∧ evE T cf elt ρ' (S0 ++ [.lst acc]) = some (h x, S0 ++ [.lst acc])) :
    evE T cf (.lc elt gt it .nil own) ρ S0 = some (.ref S0.length, S0 ++ [.lst (xs.map h)]) := by
  simp only [evE, hit, Option.bind_some]
  rw [lcL_pure emb (fun x => some (h x)) hw xs [] (by rw [sizeLine_eq]; simp; omega) (fun x hx acc => by
    obtain ⟨ρ', h1, h2⟩ := hs x hx acc
    simp only [h1, evCs, h2, Option.bind_some, Option.map_some, if_true])]
  simp only [Option.map_some, List.nil_append, gc_new]
  congr 4
  induction xs with
  | nil => rfl
  | cons x xs ih => simp
theorem enumL_ints : ∀ (xs : List Int) (k : Nat), enumL k (xs.map D.int) = (xs.zipIdx k).map fun p => .tup [.int (p.2 : Nat), .int p.1]
  | [], _ => rfl
  | x :: xs, k => by
    rw [List.map_cons, enumL_cons, enumL_ints xs (k + 1), List.zipIdx_cons]
    rfl
theorem cut_to {xs : List D} {i : Nat} (h : i ≤ xs.length) : cut xs none (some (i : Int)) = xs.take i := by
  unfold cut
  rw [HT.sIx_nat, HT.sIx_none, Nat.min_eq_left h]
  simp
theorem cut_from {xs : List D} {i : Nat} (h : i ≤ xs.length) : cut xs (some (i : Int)) none = xs.drop i := by
  unfold cut
  rw [HT.sIx_nat, HT.sIx_none, Nat.min_eq_left h]
  rw [List.take_of_length_le (by rw [List.length_drop]; omega)]
theorem e_to {xs : List D} {a b : E} {i : Nat} (h : evE T cf a ρ S0 = some (.tup xs, S0)) (h2 : evE T cf b ρ S0 = some (.int i, S0)) (hl : i ≤ xs.length) : evE T cf (.sl a .none (.some b)) ρ S0 = some (.tup (xs.take i), S0) :=
  e_sl h eo_none (eo_some h2) (by simp only [slV]; rw [cut_to hl])
theorem e_from {xs : List D} {a b : E} {i : Nat} (h : evE T cf a ρ S0 = some (.tup xs, S0)) (h2 : evE T cf b ρ S0 = some (.int i, S0)) (hl : i ≤ xs.length) : evE T cf (.sl a (.some b) .none) ρ S0 = some (.tup (xs.drop i), S0) :=
  e_sl h (eo_some h2) eo_none (by simp only [slV]; rw [cut_from hl])
end Mn
end

section
set_option maxHeartbeats 1000000
namespace Mn
structure NSq where
  d : Nat
  ns : ∀ m : Nat, m * m ≠ d
theorem NSq.pos (Q : NSq) : (0 : Rat) < (Q.d : Rat) := by
  have h : Q.d ≠ 0 := fun e => Q.ns 0 (by rw [e])
  have : (0 : Int) < (Q.d : Int) := by omega
  have := Rat.intCast_pos.mpr this
  rw [Rat.intCast_natCast] at this
  exact this
theorem sq_nonneg (r : Rat) : 0 ≤ r * r := by
  by_cases h : 0 ≤ r
  · exact Rat.mul_nonneg h h
  · have : 0 ≤ (-r) * (-r) := Rat.mul_nonneg (by grind) (by grind)
    grind
theorem rat_sq {r : Rat} {d : Nat} (h : r * r = (d : Rat)) : ∃ m : Nat, m * m = d := by
  have h2 : r ^ 2 = (d : Rat) := by rw [Rat.pow_succ, Rat.pow_succ, Rat.pow_zero, Rat.one_mul]; exact h
  have h3 : r.num ^ 2 = (d : Int) := congrArg Rat.num h2
  refine ⟨r.num.natAbs, ?_⟩
  have : r.num * r.num = (d : Int) := by rw [← h3]; grind
  have := congrArg Int.natAbs this
  rw [Int.natAbs_mul] at this
  simpa using this
@[ext] structure Kd (Q : NSq) where
  x : Rat
  y : Rat
namespace Kd
variable {Q : NSq}
instance : DecidableEq (Kd Q) := fun a b => if h : a.x = b.x ∧ a.y = b.y then .isTrue (by cases a; cases b; cases h; simp_all) else .isFalse (fun e => h (by rw [e]; exact ⟨rfl, rfl⟩))
instance : Add (Kd Q) := ⟨fun a b => ⟨a.x + b.x, a.y + b.y⟩⟩
instance : Mul (Kd Q) := ⟨fun a b => ⟨a.x * b.x + Q.d * a.y * b.y, a.x * b.y + a.y * b.x⟩⟩
instance : Neg (Kd Q) := ⟨fun a => ⟨-a.x, -a.y⟩⟩
instance : Sub (Kd Q) := ⟨fun a b => ⟨a.x - b.x, a.y - b.y⟩⟩
instance (n : Nat) : OfNat (Kd Q) n := ⟨⟨n, 0⟩⟩
instance : NatCast (Kd Q) := ⟨fun n => ⟨n, 0⟩⟩
instance : IntCast (Kd Q) := ⟨fun n => ⟨n, 0⟩⟩
instance : SMul Nat (Kd Q) := ⟨fun n a => (n : Kd Q) * a⟩
instance : SMul Int (Kd Q) := ⟨fun n a => (n : Kd Q) * a⟩
def npw (a : Kd Q) : Nat → Kd Q
  | 0 => 1
  | n + 1 => npw a n * a
instance : HPow (Kd Q) Nat (Kd Q) := ⟨npw⟩
def nrm (a : Kd Q) : Rat := a.x * a.x - Q.d * a.y * a.y
instance : Inv (Kd Q) := ⟨fun a => ⟨a.x / nrm a, -a.y / nrm a⟩⟩
instance : Div (Kd Q) := ⟨fun a b => a * b⁻¹⟩
@[simp] theorem add_x (a b : Kd Q) : (a + b).x = a.x + b.x := rfl
@[simp] theorem add_y (a b : Kd Q) : (a + b).y = a.y + b.y := rfl
@[simp] theorem mul_x (a b : Kd Q) : (a * b).x = a.x * b.x + Q.d * a.y * b.y := rfl
@[simp] theorem mul_y (a b : Kd Q) : (a * b).y = a.x * b.y + a.y * b.x := rfl
@[simp] theorem neg_x (a : Kd Q) : (-a).x = -a.x := rfl
@[simp] theorem neg_y (a : Kd Q) : (-a).y = -a.y := rfl
@[simp] theorem sub_x (a b : Kd Q) : (a - b).x = a.x - b.x := rfl
@[simp] theorem sub_y (a b : Kd Q) : (a - b).y = a.y - b.y := rfl
@[simp] theorem nat_x (n : Nat) : ((n : Kd Q)).x = n := rfl
@[simp] theorem nat_y (n : Nat) : ((n : Kd Q)).y = 0 := rfl
@[simp] theorem int_x (n : Int) : ((n : Kd Q)).x = n := rfl
@[simp] theorem int_y (n : Int) : ((n : Kd Q)).y = 0 := rfl
theorem of_x (n : Nat) : (OfNat.ofNat n : Kd Q).x = (n : Rat) := rfl
theorem of_y (n : Nat) : (OfNat.ofNat n : Kd Q).y = 0 := rfl
@[simp] theorem zero_x : (0 : Kd Q).x = 0 := rfl
@[simp] theorem zero_y : (0 : Kd Q).y = 0 := rfl
@[simp] theorem one_x : (1 : Kd Q).x = 1 := rfl
@[simp] theorem one_y : (1 : Kd Q).y = 0 := rfl
instance : Lean.Grind.CommRing (Kd Q) where
  add_zero a := by ext <;> simp <;> grind
  add_comm a b := by ext <;> simp <;> grind
  add_assoc a b c := by ext <;> simp <;> grind
  mul_assoc a b c := by ext <;> simp <;> grind
  mul_one a := by ext <;> simp <;> grind
  one_mul a := by ext <;> simp <;> grind
  left_distrib a b c := by ext <;> simp <;> grind
  right_distrib a b c := by ext <;> simp <;> grind
  zero_mul a := by ext <;> simp <;> grind
  mul_zero a := by ext <;> simp <;> grind
  pow_zero a := rfl
  pow_succ a n := rfl
  ofNat_succ n := by
    ext
    · show ((n + 1 : Nat) : Rat) = (n : Rat) + ((1 : Nat) : Rat)
      rw [Rat.natCast_add]
    · show (0 : Rat) = 0 + 0
      grind
  ofNat_eq_natCast n := rfl
  nsmul_eq_natCast_mul n a := rfl
  neg_add_cancel a := by ext <;> simp <;> grind
  sub_eq_add_neg a b := by ext <;> simp <;> grind
  neg_zsmul i a := by
    show ((-i : Int) : Kd Q) * a = -((i : Kd Q) * a)
    ext <;> simp <;> grind
  zsmul_natCast_eq_nsmul n a := by
    show (((n : Int)) : Kd Q) * a = (n : Kd Q) * a
    ext <;> simp [Rat.intCast_natCast]
  intCast_ofNat n := rfl
  intCast_neg i := by ext <;> simp
  mul_comm a b := by ext <;> simp <;> grind
theorem nrm_mul (a b : Kd Q) : nrm (a * b) = nrm a * nrm b := by
  unfold nrm
  simp only [mul_x, mul_y]
  grind
theorem nrm_ne {a : Kd Q} (h : a ≠ 0) : nrm a ≠ 0 := by
  intro e
  unfold nrm at e
  by_cases hy : a.y = 0
  · rw [hy] at e
    have : a.x * a.x = 0 := by grind
    have hx : a.x = 0 := by
      rcases Rat.mul_eq_zero.mp this with h | h <;> exact h
    exact h (by ext <;> simp [hx, hy])
  · have : (a.x / a.y) * (a.x / a.y) = (Q.d : Rat) := by grind
    obtain ⟨m, hm⟩ := rat_sq this
    exact Q.ns m hm
theorem mul_inv {a : Kd Q} (h : a ≠ 0) : a * a⁻¹ = 1 := by
  have hn := nrm_ne h
  have e : a⁻¹ = ⟨a.x / nrm a, -a.y / nrm a⟩ := rfl
  rw [e]
  ext
  · simp only [mul_x, one_x]
    have : a.x * (a.x / nrm a) + Q.d * a.y * (-a.y / nrm a) = (a.x * a.x - Q.d * a.y * a.y) / nrm a := by grind
    rw [this]
    show nrm a / nrm a = 1
    grind
  · simp only [mul_y, one_y]
    grind
def Pos (a : Kd Q) : Prop := (0 < a.x ∧ 0 < nrm a) ∨ (0 < a.y ∧ nrm a < 0)
theorem not_pos_zero : ¬ Pos (0 : Kd Q) := by
  unfold Pos nrm
  simp
theorem nrm_neg (a : Kd Q) : nrm (-a) = nrm a := by
  unfold nrm
  simp
  grind
theorem pos_or {a : Kd Q} (h : a ≠ 0) : Pos a ∨ Pos (-a) := by
  have hn := nrm_ne h
  unfold Pos
  rw [nrm_neg]
  simp only [neg_x, neg_y]
  by_cases h0 : 0 < nrm a
  · have hx : a.x ≠ 0 := by
      intro e
      unfold nrm at h0
      rw [e] at h0
      have := Q.pos
      have h1 : 0 ≤ a.y * a.y := sq_nonneg _
      have : 0 ≤ (Q.d : Rat) * (a.y * a.y) := Rat.mul_nonneg (by grind) h1
      grind
    grind
  · have hlt : nrm a < 0 := by grind
    have hy : a.y ≠ 0 := by
      intro e
      unfold nrm at hlt
      rw [e] at hlt
      have h1 : 0 ≤ a.x * a.x := sq_nonneg _
      grind
    grind
theorem pos_asym {a : Kd Q} (h : Pos a) : ¬ Pos (-a) := by
  unfold Pos at h ⊢
  rw [nrm_neg]
  simp only [neg_x, neg_y]
  grind
theorem lt_of_sq {a b : Rat} (ha : 0 ≤ a) (h : b * b < a * a) : -a < b ∧ b < a := by
  constructor
  · by_cases hb : -a < b
    · exact hb
    · exfalso
      have h1 : a ≤ -b := by grind
      have h2 : a * a ≤ (-b) * (-b) := by
        have h3 : a * a ≤ a * (-b) := Rat.mul_le_mul_of_nonneg_left h1 ha
        have h4 : a * (-b) ≤ (-b) * (-b) := Rat.mul_le_mul_of_nonneg_right h1 (by grind)
        grind
      grind
  · by_cases hb : b < a
    · exact hb
    · exfalso
      have h1 : a ≤ b := by grind
      have h3 : a * a ≤ a * b := Rat.mul_le_mul_of_nonneg_left h1 ha
      have h4 : a * b ≤ b * b := Rat.mul_le_mul_of_nonneg_right h1 (by grind)
      grind
theorem sq_mul_lt {a b c d : Rat} (ha : 0 ≤ b) (hd : 0 ≤ d) (h1 : b < a) (h2 : d < c) : b * d < a * c := by
  have h3 : b * d ≤ b * c := Rat.mul_le_mul_of_nonneg_left (by grind) ha
  have h4 : b * c < a * c := Rat.mul_lt_mul_of_pos_right h1 (by grind)
  grind
theorem pos_mul {a b : Kd Q} (ha : Pos a) (hb : Pos b) : Pos (a * b) := by
  have hd := Q.pos
  have sx := sq_nonneg a.x
  have sy : 0 ≤ (Q.d : Rat) * (a.y * a.y) := Rat.mul_nonneg (by grind) (sq_nonneg a.y)
  have tx := sq_nonneg b.x
  have ty : 0 ≤ (Q.d : Rat) * (b.y * b.y) := Rat.mul_nonneg (by grind) (sq_nonneg b.y)
  unfold Pos at ha hb ⊢
  rw [nrm_mul]
  simp only [mul_x, mul_y]
  rcases ha with ⟨a1, a2⟩ | ⟨a1, a2⟩ <;> rcases hb with ⟨b1, b2⟩ | ⟨b1, b2⟩
  · left
    refine ⟨?_, Rat.mul_pos a2 b2⟩
    unfold nrm at a2 b2
    have h1 := sq_mul_lt sy ty (a := a.x * a.x) (c := b.x * b.x) (by grind) (by grind)
    have h2 : (Q.d * a.y * b.y) * (Q.d * a.y * b.y) < (a.x * b.x) * (a.x * b.x) := by grind
    have h3 := lt_of_sq (Rat.mul_nonneg (by grind) (by grind)) h2
    grind
  · right
    refine ⟨?_, by have := Rat.mul_pos a2 (show 0 < -nrm b by grind); grind⟩
    unfold nrm at a2 b2
    have h1 := sq_mul_lt sy tx (a := a.x * a.x) (c := Q.d * (b.y * b.y)) (by grind) (by grind)
    have h2 : Q.d * ((a.y * b.x) * (a.y * b.x)) < Q.d * ((a.x * b.y) * (a.x * b.y)) := by grind
    have h2 : (a.y * b.x) * (a.y * b.x) < (a.x * b.y) * (a.x * b.y) := Rat.lt_of_mul_lt_mul_left h2 (by grind)
    have h3 := lt_of_sq (Rat.mul_nonneg (by grind) (by grind)) h2
    grind
  · right
    refine ⟨?_, by have := Rat.mul_pos b2 (show 0 < -nrm a by grind); grind⟩
    unfold nrm at a2 b2
    have h1 := sq_mul_lt sx ty (a := Q.d * (a.y * a.y)) (c := b.x * b.x) (by grind) (by grind)
    have h2 : Q.d * ((a.x * b.y) * (a.x * b.y)) < Q.d * ((a.y * b.x) * (a.y * b.x)) := by grind
    have h2 : (a.x * b.y) * (a.x * b.y) < (a.y * b.x) * (a.y * b.x) := Rat.lt_of_mul_lt_mul_left h2 (by grind)
    have h3 := lt_of_sq (Rat.mul_nonneg (by grind) (by grind)) h2
    grind
  · left
    refine ⟨?_, by have := Rat.mul_pos (show 0 < -nrm a by grind) (show 0 < -nrm b by grind); grind⟩
    unfold nrm at a2 b2
    have h1 := sq_mul_lt sx tx (a := Q.d * (a.y * a.y)) (c := Q.d * (b.y * b.y)) (by grind) (by grind)
    have h2 : (a.x * b.x) * (a.x * b.x) < (Q.d * a.y * b.y) * (Q.d * a.y * b.y) := by grind
    have h3 := lt_of_sq (by have := Rat.mul_nonneg (show 0 ≤ (Q.d : Rat) by grind) (Rat.mul_nonneg (show 0 ≤ a.y by grind) (show 0 ≤ b.y by grind)); grind) h2
    grind
theorem pos_one_add {a : Kd Q} (ha : Pos a) : Pos (1 + a) := by
  have hd := Q.pos
  have sy : 0 ≤ (Q.d : Rat) * (a.y * a.y) := Rat.mul_nonneg (by grind) (sq_nonneg a.y)
  have hne : 1 + a ≠ 0 := by
    intro e
    have ex : 1 + a.x = 0 := by have := congrArg Kd.x e; simp at this; grind
    have ey : a.y = 0 := by have := congrArg Kd.y e; simp at this; grind
    unfold Pos nrm at ha
    rw [ey] at ha
    grind
  have hn := nrm_ne hne
  unfold Pos at ha ⊢
  have en : nrm (1 + a) = nrm a + 2 * a.x + 1 := by unfold nrm; simp; grind
  simp only [add_x, add_y, one_x, one_y]
  rcases ha with ⟨a1, a2⟩ | ⟨a1, a2⟩
  · left
    grind
  · by_cases h0 : nrm (1 + a) < 0
    · right
      grind
    · left
      refine ⟨?_, by grind⟩
      by_cases hx : 0 < 1 + a.x
      · exact hx
      · exfalso
        have : nrm a + 2 * a.x + 1 > 0 := by grind
        grind
theorem pos_inv {a : Kd Q} (ha : Pos a) : Pos a⁻¹ := by
  have hne : a ≠ 0 := fun e => not_pos_zero (e ▸ ha)
  have h1 := mul_inv hne
  have hi : a⁻¹ ≠ 0 := by
    intro e
    rw [e] at h1
    have h2 := congrArg Kd.x h1
    simp at h2
    grind
  rcases pos_or hi with h | h
  · exact h
  · exfalso
    have := pos_mul ha h
    have e : a * -a⁻¹ = -1 := by grind
    rw [e] at this
    unfold Pos nrm at this
    simp at this
    grind
theorem pos_add {a b : Kd Q} (ha : Pos a) (hb : Pos b) : Pos (a + b) := by
  have hne : a ≠ 0 := fun e => not_pos_zero (e ▸ ha)
  have h1 := mul_inv hne
  have h2 := pos_mul ha (pos_one_add (pos_mul hb (pos_inv ha)))
  have e : a * (1 + b * a⁻¹) = a + b := by grind
  rw [e] at h2
  exact h2
instance : LT (Kd Q) := ⟨fun a b => Pos (b - a)⟩
instance : LE (Kd Q) := ⟨fun a b => Pos (b - a) ∨ a = b⟩
theorem lt_def {a b : Kd Q} : a < b ↔ Pos (b - a) := Iff.rfl
theorem le_def {a b : Kd Q} : a ≤ b ↔ Pos (b - a) ∨ a = b := Iff.rfl
instance : Std.IsLinearOrder (Kd Q) where
  le_refl a := .inr rfl
  le_trans a b c h1 h2 := by
    rcases h1 with h1 | rfl
    · rcases h2 with h2 | rfl
      · left
        have := pos_add h1 h2
        have e : b - a + (c - b) = c - a := by grind
        rw [e] at this
        exact this
      · exact .inl h1
    · exact h2
  le_antisymm a b h1 h2 := by
    rcases h1 with h1 | h1
    · rcases h2 with h2 | h2
      · exfalso
        have e : -(b - a) = a - b := by grind
        exact pos_asym h1 (by rw [e]; exact h2)
      · exact h2.symm
    · exact h1
  le_total a b := by
    by_cases h : a = b
    · exact .inl (.inr h)
    · have hne : b - a ≠ 0 := by
        intro e
        apply h
        grind
      rcases pos_or hne with h | h
      · exact .inl (.inl h)
      · right
        left
        have e : -(b - a) = a - b := by grind
        rw [e] at h
        exact h
instance : Std.LawfulOrderLT (Kd Q) where
  lt_iff a b := by
    constructor
    · intro h
      refine ⟨.inl h, ?_⟩
      rintro (h2 | h2)
      · have e : -(b - a) = a - b := by grind
        exact pos_asym h (by rw [e]; exact h2)
      · subst h2
        have e : b - b = (0 : Kd Q) := by grind
        have h' : Pos (b - b) := h
        rw [e] at h'
        exact not_pos_zero h'
    · rintro ⟨h1, h2⟩
      rcases h1 with h1 | h1
      · exact h1
      · exact absurd (.inr h1.symm) h2
theorem pos_one : Pos (1 : Kd Q) := by
  left
  unfold nrm
  simp
  grind
instance : Lean.Grind.OrderedRing (Kd Q) where
  add_le_left_iff {a b} c := by
    have e : b + c - (a + c) = b - a := by grind
    rw [le_def, le_def, e]
    constructor
    · rintro (h | rfl)
      · exact .inl h
      · exact .inr rfl
    · rintro (h | h)
      · exact .inl h
      · right
        grind
  zero_lt_one := by
    have e : (1 : Kd Q) - 0 = 1 := by grind
    rw [lt_def, e]
    exact pos_one
  mul_lt_mul_of_pos_left {a b c} h hc := by
    rw [lt_def] at h hc ⊢
    have e : c - 0 = c := by grind
    rw [e] at hc
    have := pos_mul hc h
    have e2 : c * (b - a) = c * b - c * a := by grind
    rw [e2] at this
    exact this
  mul_lt_mul_of_pos_right {a b c} h hc := by
    rw [lt_def] at h hc ⊢
    have e : c - 0 = c := by grind
    rw [e] at hc
    have := pos_mul h hc
    have e2 : (b - a) * c = b * c - a * c := by grind
    rw [e2] at this
    exact this
def zpw (a : Kd Q) : Int → Kd Q
  | .ofNat n => a ^ n
  | .negSucc n => (a ^ (n + 1))⁻¹
instance : HPow (Kd Q) Int (Kd Q) := ⟨zpw⟩
theorem inv_zero : (0 : Kd Q)⁻¹ = 0 := by
  show (⟨(0 : Kd Q).x / nrm (0 : Kd Q), -(0 : Kd Q).y / nrm (0 : Kd Q)⟩ : Kd Q) = 0
  ext <;> simp <;> grind
theorem inv_uniq {a b : Kd Q} (h : a * b = 1) : b = a⁻¹ := by
  have hne : a ≠ 0 := by
    intro e
    rw [e] at h
    have := congrArg Kd.x h
    simp at this
    grind
  have h1 := mul_inv hne
  have : a⁻¹ * (a * b) = a⁻¹ * (a * a⁻¹) := by rw [h, h1]
  grind
theorem inv_inv (a : Kd Q) : a⁻¹⁻¹ = a := by
  by_cases h : a = 0
  · rw [h, inv_zero, inv_zero]
  · have h1 := mul_inv h
    exact (inv_uniq (a := a⁻¹) (b := a) (by grind)).symm
instance : Lean.Grind.Field (Kd Q) where
  div_eq_mul_inv a b := rfl
  zero_ne_one h := by
    have := congrArg Kd.x h
    simp at this
  inv_zero := inv_zero
  mul_inv_cancel h := mul_inv h
  zpow_zero a := rfl
  zpow_succ a n := rfl
  zpow_neg a n := by
    cases n with
    | ofNat k =>
      cases k with
      | zero =>
        show (1 : Kd Q) = (1 : Kd Q)⁻¹
        exact inv_uniq (by grind)
      | succ k => rfl
    | negSucc k =>
      show a ^ (k + 1) = ((a ^ (k + 1))⁻¹)⁻¹
      exact (inv_inv _).symm
example (a b : Kd Q) (h : 0 < a) (h2 : a < b) : a + 1 < b + 2 := by grind
example (a b : Kd Q) (h : a ≠ 0) (h2 : a * b = 1) : b = 1 / a := by grind
end Kd
end Mn
end

section
set_option maxHeartbeats 1000000
namespace Mn
open Kd
variable {Q : NSq}
namespace Kd
theorem cadd (a b : Int) : ((a + b : Int) : Kd Q) = (a : Kd Q) + (b : Kd Q) := by ext <;> simp <;> grind
theorem cmul (a b : Int) : ((a * b : Int) : Kd Q) = (a : Kd Q) * (b : Kd Q) := by ext <;> simp <;> grind
theorem cneg (a : Int) : ((-a : Int) : Kd Q) = -(a : Kd Q) := by ext <;> simp
theorem csub (a b : Int) : ((a - b : Int) : Kd Q) = (a : Kd Q) - (b : Kd Q) := by ext <;> simp <;> grind
theorem c0 : ((0 : Int) : Kd Q) = 0 := rfl
theorem c1 : ((1 : Int) : Kd Q) = 1 := rfl
theorem cof (n : Nat) : ((OfNat.ofNat n : Int) : Kd Q) = OfNat.ofNat n := rfl
theorem cinj {a b : Int} (h : (a : Kd Q) = (b : Kd Q)) : a = b := Rat.intCast_inj.mp (by have := congrArg Kd.x h; simpa using this)
theorem cpos {a : Int} : (0 : Kd Q) < (a : Kd Q) ↔ 0 < a := by
  rw [lt_def]
  have e : ((a : Kd Q) - 0) = (a : Kd Q) := by grind
  rw [e]
  unfold Pos nrm
  simp only [int_x, int_y]
  rw [← Rat.intCast_pos]
  constructor
  · rintro (⟨h, _⟩ | ⟨h, _⟩)
    · exact h
    · exact absurd h (Rat.lt_irrefl)
  · intro h
    left
    refine ⟨h, ?_⟩
    have := Rat.mul_pos h h
    grind
theorem clt {a b : Int} : (a : Kd Q) < (b : Kd Q) ↔ a < b := by
  have h := cpos (Q := Q) (a := b - a)
  rw [csub] at h
  constructor
  · intro k
    have := h.mp (by grind)
    omega
  · intro k
    have := h.mpr (by omega)
    grind
theorem cle {a b : Int} : (a : Kd Q) ≤ (b : Kd Q) ↔ a ≤ b := by
  have h := clt (Q := Q) (a := b) (b := a)
  constructor
  · intro k
    by_cases hb : b < a
    · have := h.mpr hb
      grind
    · omega
  · intro k
    by_cases hb : (b : Kd Q) < (a : Kd Q)
    · have := h.mp hb
      omega
    · grind
theorem cne {a : Int} (h : a ≠ 0) : (a : Kd Q) ≠ 0 := fun e => h (cinj (Q := Q) (by rw [e]; rfl))
end Kd
def rt (Q : NSq) : Kd Q := ⟨0, 1⟩
theorem rt_sq : rt Q * rt Q = (Q.d : Kd Q) := by
  unfold rt
  ext <;> simp <;> grind
theorem rt_pos : 0 < rt Q := by
  rw [lt_def]
  have e : rt Q - 0 = rt Q := by grind
  rw [e]
  right
  unfold rt nrm
  have := Q.pos
  simp
  grind
def vl (Q : NSq) (a b c : Int) : Kd Q := ((a : Kd Q) + (b : Kd Q) * rt Q) / (c : Kd Q)
theorem ab_inj {a b a' b' : Int} (h : (a : Kd Q) + (b : Kd Q) * rt Q = (a' : Kd Q) + (b' : Kd Q) * rt Q) : a = a' ∧ b = b' := by
  have hx := congrArg Kd.x h
  have hy := congrArg Kd.y h
  unfold rt at hx hy
  simp at hx hy
  constructor
  · apply Rat.intCast_inj.mp
    grind
  · apply Rat.intCast_inj.mp
    grind
structure NF (Q : NSq) (a b c d : Int) : Prop where
  pos : 0 < c
  cop : Int.gcd (Int.gcd a b) c = 1
  rad : d = if b = 0 then 0 else (Q.d : Int)
theorem vl_eq {a b c a' b' c' : Int} (hc : c ≠ 0) (hc' : c' ≠ 0) : vl Q a b c = vl Q a' b' c' ↔ a * c' = a' * c ∧ b * c' = b' * c := by
  have k := cne (Q := Q) hc
  have k' := cne (Q := Q) hc'
  unfold vl
  constructor
  · intro h
    have h2 : ((a * c' : Int) : Kd Q) + ((b * c' : Int) : Kd Q) * rt Q = ((a' * c : Int) : Kd Q) + ((b' * c : Int) : Kd Q) * rt Q := by
      rw [cmul, cmul, cmul, cmul]
      grind
    exact ab_inj h2
  · rintro ⟨h1, h2⟩
    have h1 := congrArg (fun z : Int => (z : Kd Q)) h1
    have h2 := congrArg (fun z : Int => (z : Kd Q)) h2
    simp only [cmul] at h1 h2
    grind
theorem NF.uniq {a b c d a' b' c' d' : Int} (h : NF Q a b c d) (h' : NF Q a' b' c' d') (e : vl Q a b c = vl Q a' b' c') : a = a' ∧ b = b' ∧ c = c' ∧ d = d' := by
  have p := h.pos
  have p' := h'.pos
  obtain ⟨h1, h2⟩ := (vl_eq (by omega) (by omega)).mp e
  have key : ∀ {a b c a' b' c' : Int}, Int.gcd (Int.gcd a b) c = 1 → a * c' = a' * c → b * c' = b' * c → c ∣ c' := by
    intro a b c a' b' c' hg h1 h2
    have d1 : c ∣ a * c' := ⟨a', by rw [h1]; exact Int.mul_comm _ _⟩
    have d2 : c ∣ b * c' := ⟨b', by rw [h2]; exact Int.mul_comm _ _⟩
    have d3 : c ∣ (Int.gcd (a * c') (b * c') : Int) := Int.dvd_coe_gcd d1 d2
    rw [Int.gcd_mul_right] at d3
    have d4 : c ∣ ((Int.gcd a b : Int) * c') := by
      have : ((Int.gcd a b * c'.natAbs : Nat) : Int) ∣ (Int.gcd a b : Int) * c' := by
        rw [Int.natCast_mul]
        exact Int.mul_dvd_mul (Int.dvd_refl _) (Int.natAbs_dvd.mpr (Int.dvd_refl _))
      exact Int.dvd_trans d3 this
    have d5 : c ∣ (c : Int) * c' := ⟨c', rfl⟩
    have d6 : c ∣ (Int.gcd ((Int.gcd a b : Int) * c') (c * c') : Int) := Int.dvd_coe_gcd d4 d5
    rw [Int.gcd_mul_right, hg, Nat.one_mul] at d6
    exact Int.dvd_natAbs.mp d6
  have c1 := key h.cop h1 h2
  have c2 := key h'.cop h1.symm h2.symm
  have hc : c = c' := Int.dvd_antisymm (by omega) (by omega) c1 c2
  subst hc
  have ha : a = a' := Int.eq_of_mul_eq_mul_right (by omega) h1
  have hb : b = b' := Int.eq_of_mul_eq_mul_right (by omega) h2
  refine ⟨ha, hb, rfl, ?_⟩
  rw [h.rad, h'.rad, hb]
theorem low_ok {a b c d : Int} (hc : 0 < c) (hd : b = 0 ∨ d = Q.d) :
    NF Q (a / (Int.gcd (Int.gcd a b) c : Int)) (b / (Int.gcd (Int.gcd a b) c : Int)) (c / (Int.gcd (Int.gcd a b) c : Int)) (if b ≠ 0 then d else 0) ∧
    vl Q (a / (Int.gcd (Int.gcd a b) c : Int)) (b / (Int.gcd (Int.gcd a b) c : Int)) (c / (Int.gcd (Int.gcd a b) c : Int)) = vl Q a b c ∧
    (a / (Int.gcd (Int.gcd a b) c : Int)).natAbs ≤ a.natAbs ∧ (b / (Int.gcd (Int.gcd a b) c : Int)).natAbs ≤ b.natAbs ∧ (c / (Int.gcd (Int.gcd a b) c : Int)).natAbs ≤ c.natAbs := by
  generalize hg : Int.gcd (Int.gcd a b) c = g
  have g0 : 0 < g := by rw [← hg]; exact Int.gcd_pos_of_ne_zero_right _ (by omega)
  have gi : (0 : Int) < (g : Int) := by omega
  have dc : (g : Int) ∣ c := by rw [← hg]; exact Int.gcd_dvd_right _ _
  have dab : (g : Int) ∣ (Int.gcd a b : Int) := by rw [← hg]; exact Int.gcd_dvd_left _ _
  have da : (g : Int) ∣ a := Int.dvd_trans dab (Int.gcd_dvd_left _ _)
  have db : (g : Int) ∣ b := Int.dvd_trans dab (Int.gcd_dvd_right _ _)
  obtain ⟨a1, ea⟩ := da
  obtain ⟨b1, eb⟩ := db
  obtain ⟨c1, ec⟩ := dc
  have qa : a / (g : Int) = a1 := by rw [ea]; exact Int.mul_ediv_cancel_left _ (by omega)
  have qb : b / (g : Int) = b1 := by rw [eb]; exact Int.mul_ediv_cancel_left _ (by omega)
  have qc : c / (g : Int) = c1 := by rw [ec]; exact Int.mul_ediv_cancel_left _ (by omega)
  rw [qa, qb, qc]
  have c1p : 0 < c1 := by
    have : 0 < (g : Int) * c1 := by omega
    rcases Int.lt_or_le 0 c1 with h | h
    · exact h
    · have := Int.mul_nonpos_of_nonneg_of_nonpos (Int.le_of_lt gi) h
      omega
  have bnd : ∀ {x y : Int}, x = (g : Int) * y → y.natAbs ≤ x.natAbs := fun {x y} e => by
    rw [e, Int.natAbs_mul, Int.natAbs_natCast]
    exact Nat.le_mul_of_pos_left _ g0
  refine ⟨⟨c1p, ?_, ?_⟩, ?_, bnd ea, bnd eb, bnd ec⟩
  · have k1 : ((g * Int.gcd (Int.gcd a1 b1) c1 : Nat) : Int) ∣ a ∧ ((g * Int.gcd (Int.gcd a1 b1) c1 : Nat) : Int) ∣ b ∧ ((g * Int.gcd (Int.gcd a1 b1) c1 : Nat) : Int) ∣ c := by
      rw [Int.natCast_mul, ea, eb, ec]
      have e1 : (Int.gcd (Int.gcd a1 b1) c1 : Int) ∣ (Int.gcd a1 b1 : Int) := Int.gcd_dvd_left _ _
      exact ⟨Int.mul_dvd_mul (Int.dvd_refl _) (Int.dvd_trans e1 (Int.gcd_dvd_left _ _)), Int.mul_dvd_mul (Int.dvd_refl _) (Int.dvd_trans e1 (Int.gcd_dvd_right _ _)), Int.mul_dvd_mul (Int.dvd_refl _) (Int.gcd_dvd_right _ _)⟩
    have k2 : (g * Int.gcd (Int.gcd a1 b1) c1) ∣ g := by
      rw [← hg]
      rw [hg]
      have := Int.dvd_gcd (Int.dvd_coe_gcd k1.1 k1.2.1) k1.2.2
      rw [hg] at this
      exact this
    have k3 := Nat.le_of_dvd g0 k2
    have k4 : 0 < Int.gcd (Int.gcd a1 b1) c1 := Int.gcd_pos_of_ne_zero_right _ (by omega)
    have k5 : g * Int.gcd (Int.gcd a1 b1) c1 ≤ g * 1 := by omega
    have := Nat.le_of_mul_le_mul_left k5 g0
    omega
  · have : b1 = 0 ↔ b = 0 := by
      rw [eb]
      constructor
      · intro h; rw [h]; simp
      · intro h
        rcases Int.mul_eq_zero.mp h with h | h
        · omega
        · exact h
    by_cases hb : b = 0
    · rw [if_neg (by simpa using hb), if_pos (this.mpr hb)]
    · rw [if_pos hb, if_neg (fun h => hb (this.mp h))]
      exact hd.resolve_left hb
  · rw [vl_eq (by omega) (by omega), ea, eb, ec]
    constructor <;> grind
theorem vl_neg {a b c : Int} (hc : c ≠ 0) : vl Q (-a) (-b) (-c) = vl Q a b c := by
  rw [vl_eq (by omega) hc]
  constructor <;> grind
theorem le_sq {u w : Kd Q} (hw : 0 ≤ w) (h : u * u ≤ w * w) : u ≤ w := by
  by_cases k : u ≤ w
  · exact k
  · exfalso
    have h1 : w < u := by grind
    have h2 : 0 < u := by grind
    have h3 : w * u < u * u := Lean.Grind.OrderedRing.mul_lt_mul_of_pos_right h1 h2
    have h4 : w * w ≤ w * u := by
      by_cases hz : w = 0
      · rw [hz]; grind
      · have : 0 < w := by grind
        have := Lean.Grind.OrderedRing.mul_lt_mul_of_pos_left h1 this
        grind
    grind
theorem lt_sq {u w : Kd Q} (hw : 0 ≤ w) (h : u * u < w * w) : u < w := by
  by_cases k : u < w
  · exact k
  · exfalso
    have h1 : w ≤ u := by grind
    by_cases e : w = u
    · rw [e] at h; grind
    · have h1 : w < u := by grind
      have h2 : 0 < u := by grind
      have h3 : w * u < u * u := Lean.Grind.OrderedRing.mul_lt_mul_of_pos_right h1 h2
      have h4 : w * w ≤ w * u := by
        by_cases hz : w = 0
        · rw [hz]; grind
        · have : 0 < w := by grind
          have := Lean.Grind.OrderedRing.mul_lt_mul_of_pos_left h1 this
          grind
      grind
theorem mul_pos' {u w : Kd Q} (h : 0 < u) (h2 : 0 < w) : 0 < u * w := by
  have := Lean.Grind.OrderedRing.mul_lt_mul_of_pos_left h2 h
  grind
theorem sq_nn (u : Kd Q) : 0 ≤ u * u := by
  by_cases h : 0 < u
  · have := mul_pos' h h
    grind
  · by_cases e : u = 0
    · rw [e]; grind
    · have := mul_pos' (u := -u) (w := -u) (by grind) (by grind)
      grind
theorem inv_pos' {u : Kd Q} (h : 0 < u) : 0 < 1 / u := by
  have hne : u ≠ 0 := by grind
  have e : u * (1 / u) = 1 := by grind
  by_cases k : 0 < 1 / u
  · exact k
  · exfalso
    by_cases z : 1 / u = 0
    · rw [z] at e; grind
    · have := mul_pos' h (w := -(1 / u)) (by grind)
      grind
theorem div_pos' {u w : Kd Q} (h : 0 < u) (h2 : 0 < w) : 0 < u / w := by
  have := mul_pos' h (inv_pos' h2)
  grind
end Mn
end

section
set_option maxHeartbeats 1000000
namespace Mn
open Kd
variable {Q : NSq}
theorem NF.bd {a b c d : Int} (h : NF Q a b c d) : b * b * d = b * b * (Q.d : Int) := by
  rw [h.rad]
  by_cases hb : b = 0
  · rw [hb]; simp
  · rw [if_neg hb]
theorem vl_mul {a b c : Int} (hc : c ≠ 0) : vl Q a b c * (c : Kd Q) = (a : Kd Q) + (b : Kd Q) * rt Q := by
  have := cne (Q := Q) hc
  unfold vl
  grind
theorem vl_pos {a b c : Int} (hc : 0 < c) : 0 < vl Q a b c ↔ 0 < (a : Kd Q) + (b : Kd Q) * rt Q := by
  have e := vl_mul (Q := Q) (a := a) (b := b) (c := c) (by omega)
  have hp : (0 : Kd Q) < (c : Kd Q) := cpos.mpr hc
  constructor
  · intro h
    have := mul_pos' h hp
    grind
  · intro h
    unfold vl
    exact div_pos' h hp
theorem vl_zero {a b c : Int} (hc : 0 < c) : vl Q a b c = 0 ↔ a = 0 ∧ b = 0 := by
  have e := vl_mul (Q := Q) (a := a) (b := b) (c := c) (by omega)
  constructor
  · intro h
    rw [h] at e
    have e2 : ((0 : Int) : Kd Q) + ((0 : Int) : Kd Q) * rt Q = (a : Kd Q) + (b : Kd Q) * rt Q := by rw [c0]; grind
    have := ab_inj e2
    exact ⟨this.1.symm, this.2.symm⟩
  · rintro ⟨rfl, rfl⟩
    unfold vl
    rw [c0]
    have := cne (Q := Q) (a := c) (by omega)
    grind
theorem vl_flip {a b c : Int} : vl Q (-a) (-b) c = -vl Q a b c := by
  unfold vl
  rw [cneg, cneg]
  grind
theorem bb_sq (b : Int) : ((b : Kd Q) * rt Q) * ((b : Kd Q) * rt Q) = ((b * b * (Q.d : Int) : Int) : Kd Q) := by
  rw [cmul, cmul]
  have := rt_sq (Q := Q)
  have e : (((Q.d : Int)) : Kd Q) = (Q.d : Kd Q) := by ext <;> simp [Rat.intCast_natCast]
  rw [e]
  grind
theorem sgn_mix {a b : Int} (ha : 0 < a) (hb : b < 0) : (b * b * (Q.d : Int) < a * a → 0 < (a : Kd Q) + (b : Kd Q) * rt Q) ∧ (¬ b * b * (Q.d : Int) < a * a → (a : Kd Q) + (b : Kd Q) * rt Q < 0) := by
  have pa : (0 : Kd Q) < (a : Kd Q) := cpos.mpr ha
  have pb : (0 : Kd Q) < ((-b : Int) : Kd Q) := cpos.mpr (by omega)
  have pr := mul_pos' pb (rt_pos (Q := Q))
  rw [cneg] at pr
  have e := bb_sq (Q := Q) b
  have ea : ((a * a : Int) : Kd Q) = (a : Kd Q) * (a : Kd Q) := cmul _ _
  constructor
  · intro h
    have h := (clt (Q := Q)).mpr h
    rw [← e, ea] at h
    have := lt_sq (u := -((b : Kd Q) * rt Q)) (w := (a : Kd Q)) (by grind) (by grind)
    grind
  · intro h
    have h : a * a ≤ b * b * (Q.d : Int) := by omega
    have h := (cle (Q := Q)).mpr h
    rw [← e, ea] at h
    have h1 := le_sq (u := (a : Kd Q)) (w := -((b : Kd Q) * rt Q)) (by grind) (by grind)
    by_cases hz : (a : Kd Q) + (b : Kd Q) * rt Q = 0
    · exfalso
      have e2 : (a : Kd Q) + (b : Kd Q) * rt Q = ((0 : Int) : Kd Q) + ((0 : Int) : Kd Q) * rt Q := by rw [hz, c0]; grind
      have := (ab_inj e2).1
      omega
    · grind
def signP (a b d : Int) : Int := if a ≥ 0 ∧ b ≥ 0 then (if a + b > 0 then 1 else 0) else if a ≤ 0 ∧ b ≤ 0 then -1 else if (decide (a * a > b * b * d)) = (decide (a > 0)) then 1 else -1
theorem sign_ok {a b c d : Int} (h : NF Q a b c d) : (signP a b d = 1 ∧ 0 < vl Q a b c) ∨ (signP a b d = 0 ∧ vl Q a b c = 0) ∨ (signP a b d = -1 ∧ vl Q a b c < 0) := by
  have hp := h.pos
  have neg : ∀ {a b c : Int}, 0 < c → (a : Kd Q) + (b : Kd Q) * rt Q < 0 → vl Q a b c < 0 := by
    intro a b c hc h
    have h2 : 0 < vl Q (-a) (-b) c := by
      rw [vl_pos hc, cneg, cneg]
      grind
    rw [vl_flip] at h2
    grind
  have r0 := rt_pos (Q := Q)
  unfold signP
  by_cases h1 : a ≥ 0 ∧ b ≥ 0
  · rw [if_pos h1]
    by_cases h2 : a + b > 0
    · rw [if_pos h2]
      refine .inl ⟨rfl, ?_⟩
      rw [vl_pos hp]
      by_cases hb : b = 0
      · rw [hb, c0]
        have : (0 : Kd Q) < (a : Kd Q) := cpos.mpr (by omega)
        grind
      · have k1 : (0 : Kd Q) < (b : Kd Q) := cpos.mpr (by omega)
        have k2 := mul_pos' k1 r0
        have k3 : ((0 : Int) : Kd Q) ≤ (a : Kd Q) := cle.mpr h1.1
        rw [c0] at k3
        grind
    · rw [if_neg h2]
      refine .inr (.inl ⟨rfl, ?_⟩)
      rw [vl_zero hp]
      omega
  · rw [if_neg h1]
    by_cases h2 : a ≤ 0 ∧ b ≤ 0
    · rw [if_pos h2]
      refine .inr (.inr ⟨rfl, neg hp ?_⟩)
      by_cases hb : b = 0
      · rw [hb, c0]
        have : (0 : Kd Q) < ((-a : Int) : Kd Q) := cpos.mpr (by omega)
        rw [cneg] at this
        grind
      · have k1 : (0 : Kd Q) < ((-b : Int) : Kd Q) := cpos.mpr (by omega)
        have k2 := mul_pos' k1 r0
        rw [cneg] at k2
        have k3 : (a : Kd Q) ≤ ((0 : Int) : Kd Q) := cle.mpr h2.1
        rw [c0] at k3
        grind
    · rw [if_neg h2, h.bd]
      have hab : (0 < a ∧ b < 0) ∨ (a < 0 ∧ 0 < b) := by omega
      rcases hab with ⟨ha, hb⟩ | ⟨ha, hb⟩
      · have k := sgn_mix (Q := Q) ha hb
        by_cases hq : b * b * (Q.d : Int) < a * a
        · rw [if_pos (by rw [decide_eq_true (show a * a > b * b * (Q.d : Int) from hq), decide_eq_true (show a > 0 from ha)])]
          exact .inl ⟨rfl, (vl_pos hp).mpr (k.1 hq)⟩
        · rw [if_neg (by rw [decide_eq_false (show ¬ a * a > b * b * (Q.d : Int) from hq), decide_eq_true (show a > 0 from ha)]; decide)]
          exact .inr (.inr ⟨rfl, neg hp (k.2 hq)⟩)
      · have k := sgn_mix (Q := Q) (a := -a) (b := -b) (by omega) (by omega)
        have e1 : -b * -b * (Q.d : Int) = b * b * (Q.d : Int) := by grind
        have e2 : -a * -a = a * a := by grind
        rw [e1, e2, cneg, cneg] at k
        by_cases hq : b * b * (Q.d : Int) < a * a
        · rw [if_neg (by rw [decide_eq_true (show a * a > b * b * (Q.d : Int) from hq), decide_eq_false (show ¬ a > 0 by omega)]; decide)]
          refine .inr (.inr ⟨rfl, neg hp ?_⟩)
          have := k.1 hq
          grind
        · rw [if_pos (by rw [decide_eq_false (show ¬ a * a > b * b * (Q.d : Int) from hq), decide_eq_false (show ¬ a > 0 by omega)])]
          refine .inl ⟨rfl, (vl_pos hp).mpr ?_⟩
          have := k.2 hq
          grind
theorem signP_pos {a b c d : Int} (h : NF Q a b c d) : signP a b d = 1 ↔ 0 < vl Q a b c := by
  rcases sign_ok h with ⟨h1, h2⟩ | ⟨h1, h2⟩ | ⟨h1, h2⟩
  · rw [h1]; simp [h2]
  · rw [h1, h2]; simp; grind
  · rw [h1]; simp; grind
theorem signP_gt {a b c d : Int} (h : NF Q a b c d) : signP a b d > 0 ↔ 0 < vl Q a b c := by
  rcases sign_ok h with ⟨h1, h2⟩ | ⟨h1, h2⟩ | ⟨h1, h2⟩
  · rw [h1]; simp [h2]
  · rw [h1, h2]; simp; grind
  · rw [h1]; simp; grind
theorem signP_lt {a b c d : Int} (h : NF Q a b c d) : signP a b d < 0 ↔ vl Q a b c < 0 := by
  rcases sign_ok h with ⟨h1, h2⟩ | ⟨h1, h2⟩ | ⟨h1, h2⟩
  · rw [h1]; simp; grind
  · rw [h1, h2]; simp; grind
  · rw [h1]; simp [h2]
theorem signP_0 {a b c d : Int} (h : NF Q a b c d) : signP a b d = 0 ↔ vl Q a b c = 0 := by
  rcases sign_ok h with ⟨h1, h2⟩ | ⟨h1, h2⟩ | ⟨h1, h2⟩
  · rw [h1]; simp; grind
  · rw [h1, h2]; simp
  · rw [h1]; simp; grind
theorem floor_ok {a b c d r : Int} (h : NF Q a b c d) (hr : 0 ≤ r) (h1 : r * r ≤ b * b * d) (h2 : b * b * d < (r + 1) * (r + 1)) :
    let m : Int := if b ≥ 0 then (a + r) / c else (a - r - 1) / c
    (m : Kd Q) ≤ vl Q a b c ∧ vl Q a b c < (m : Kd Q) + 1 := by
  have hp := h.pos
  have r0 := rt_pos (Q := Q)
  rw [h.bd] at h1 h2
  have e := bb_sq (Q := Q) b
  have cp : (0 : Kd Q) < (c : Kd Q) := cpos.mpr hp
  have ev := vl_mul (Q := Q) (a := a) (b := b) (c := c) (by omega)
  have k1 := (cle (Q := Q)).mpr h1
  have k2 := (clt (Q := Q)).mpr h2
  rw [← e, cmul] at k1
  rw [← e, cmul, cadd, c1] at k2
  have rn : ((0 : Int) : Kd Q) ≤ (r : Kd Q) := cle.mpr hr
  rw [c0] at rn
  -- from bounds of the numerator
  have fin : ∀ {m : Int}, (m : Kd Q) * (c : Kd Q) ≤ (a : Kd Q) + (b : Kd Q) * rt Q → (a : Kd Q) + (b : Kd Q) * rt Q < ((m : Kd Q) + 1) * (c : Kd Q) → (m : Kd Q) ≤ vl Q a b c ∧ vl Q a b c < (m : Kd Q) + 1 := by
    intro m q1 q2
    rw [← ev] at q1 q2
    constructor
    · by_cases k : (m : Kd Q) ≤ vl Q a b c
      · exact k
      · exfalso
        have : vl Q a b c * (c : Kd Q) < (m : Kd Q) * (c : Kd Q) := Lean.Grind.OrderedRing.mul_lt_mul_of_pos_right (by grind) cp
        grind
    · by_cases k : vl Q a b c < (m : Kd Q) + 1
      · exact k
      · exfalso
        by_cases z : vl Q a b c = (m : Kd Q) + 1
        · rw [z] at q2; grind
        · have : ((m : Kd Q) + 1) * (c : Kd Q) < vl Q a b c * (c : Kd Q) := Lean.Grind.OrderedRing.mul_lt_mul_of_pos_right (by grind) cp
          grind
  by_cases hb : b ≥ 0
  · simp only [if_pos hb]
    have bn : (0 : Kd Q) ≤ (b : Kd Q) * rt Q := by
      by_cases z : b = 0
      · rw [z, c0]; grind
      · have := mul_pos' (cpos.mpr (show 0 < b by omega)) r0
        grind
    have u1 := le_sq bn k1
    have u2 := lt_sq (u := (b : Kd Q) * rt Q) (w := (r : Kd Q) + 1) (by grind) k2
    have d1 : (a + r) / c * c ≤ a + r := Int.ediv_mul_le _ (by omega)
    have d2 : a + r + 1 ≤ ((a + r) / c + 1) * c := by
      have := Int.lt_ediv_add_one_mul_self (a + r) hp
      omega
    have d1 := (cle (Q := Q)).mpr d1
    have d2 := (cle (Q := Q)).mpr d2
    rw [cmul, cadd] at d1
    rw [cmul, cadd, cadd, cadd, c1] at d2
    exact fin (by grind) (by grind)
  · simp only [if_neg hb]
    have bn : (0 : Kd Q) ≤ -((b : Kd Q) * rt Q) := by
      have := mul_pos' (cpos.mpr (show 0 < -b by omega)) r0
      rw [cneg] at this
      grind
    have u1 := le_sq bn (u := (r : Kd Q)) (by grind)
    have u2 := lt_sq (u := -((b : Kd Q) * rt Q)) (w := (r : Kd Q) + 1) (by grind) (by grind)
    have u1' : (r : Kd Q) ≠ -((b : Kd Q) * rt Q) := by
      intro z
      have e2 : (r : Kd Q) + (b : Kd Q) * rt Q = ((0 : Int) : Kd Q) + ((0 : Int) : Kd Q) * rt Q := by rw [c0]; grind
      have := (ab_inj e2).2
      omega
    have d1 : (a - r - 1) / c * c ≤ a - r - 1 := Int.ediv_mul_le _ (by omega)
    have d2 : a - r ≤ ((a - r - 1) / c + 1) * c := by
      have := Int.lt_ediv_add_one_mul_self (a - r - 1) hp
      omega
    have d1 := (cle (Q := Q)).mpr d1
    have d2 := (cle (Q := Q)).mpr d2
    rw [cmul, csub, csub, c1] at d1
    rw [cmul, cadd, csub, c1] at d2
    exact fin (by grind) (by grind)
theorem floor_uniq {v : Kd Q} {m n : Int} (h1 : (m : Kd Q) ≤ v) (h2 : v < (m : Kd Q) + 1) (k1 : (n : Kd Q) ≤ v) (k2 : v < (n : Kd Q) + 1) : m = n := by
  have a : (m : Kd Q) < ((n + 1 : Int) : Kd Q) := by rw [cadd, c1]; grind
  have b : (n : Kd Q) < ((m + 1 : Int) : Kd Q) := by rw [cadd, c1]; grind
  have := clt.mp a
  have := clt.mp b
  omega
theorem newton {n x : Int} (hn : 0 ≤ n) (hx : 0 < x) : n < ((x + n / x) / 2 + 1) * ((x + n / x) / 2 + 1) := by
  have h1 : n + 1 ≤ (n / x + 1) * x := by
    have := Int.lt_ediv_add_one_mul_self n hx
    omega
  have hq : 0 ≤ n / x := Int.ediv_nonneg hn (by omega)
  generalize n / x = q at *
  have h2 : x + q + 1 ≤ 2 * ((x + q) / 2 + 1) := by omega
  have h0 : 0 ≤ x + q + 1 := by omega
  generalize (x + q) / 2 + 1 = m at *
  have h3 : (x + q + 1) * (x + q + 1) ≤ (2 * m) * (2 * m) := Int.mul_le_mul h2 h2 h0 (by omega)
  have h4 : 4 * ((q + 1) * x) ≤ (x + q + 1) * (x + q + 1) := by
    have : 0 ≤ (x - (q + 1)) * (x - (q + 1)) := by
      by_cases h : 0 ≤ x - (q + 1)
      · exact Int.mul_nonneg h h
      · exact Int.mul_nonneg_of_nonpos_of_nonpos (by omega) (by omega)
    grind
  grind
def Pr (p : Nat) : Prop := 2 ≤ p ∧ ∀ m, m ∣ p → m = 1 ∨ m = p
def Sqf (s : Nat) : Prop := ∀ p, Pr p → ¬ p * p ∣ s
theorem pr_least {p n : Nat} (h2 : 2 ≤ p) (hd : p ∣ n) (h : ∀ r, 2 ≤ r → r < p → ¬ r ∣ n) : Pr p := by
  refine ⟨h2, fun m hm => ?_⟩
  have hle := Nat.le_of_dvd (by omega) hm
  by_cases h1 : m = 1
  · exact .inl h1
  · by_cases hp : m = p
    · exact .inr hp
    · have h0 : m ≠ 0 := by
        intro e
        rw [e] at hm
        have := Nat.eq_zero_of_zero_dvd hm
        omega
      exact absurd (Nat.dvd_trans hm hd) (h m (by omega) (by omega))
theorem pr_ex : ∀ (n : Nat), 2 ≤ n → ∃ p, Pr p ∧ p ∣ n := by
  intro n hn
  have key : ∀ k, ∀ p, 2 ≤ p → p ≤ n → (∀ r, 2 ≤ r → r < p → ¬ r ∣ n) → n - p = k → ∃ p, Pr p ∧ p ∣ n := by
    intro k
    induction k with
    | zero =>
      intro p h2 hle hr hk
      have : p = n := by omega
      subst this
      exact ⟨p, pr_least h2 (Nat.dvd_refl _) hr, Nat.dvd_refl _⟩
    | succ k ih =>
      intro p h2 hle hr hk
      by_cases hd : p ∣ n
      · exact ⟨p, pr_least h2 hd hr, hd⟩
      · refine ih (p + 1) (by omega) (by omega) (fun r h3 h4 => ?_) (by omega)
        by_cases e : r = p
        · rw [e]; exact hd
        · exact hr r h3 (by omega)
  exact key _ 2 (Nat.le_refl _) hn (fun r h1 h2 => by omega) rfl
theorem pr_cop {p n : Nat} (hp : Pr p) (h : ¬ p ∣ n) : Nat.Coprime p n := by
  rcases hp.2 _ (Nat.gcd_dvd_left p n) with e | e
  · exact e
  · exact absurd (e ▸ Nat.gcd_dvd_right p n) h
theorem pr_mul {p a b : Nat} (hp : Pr p) (h : p ∣ a * b) : p ∣ a ∨ p ∣ b := by
  by_cases k : p ∣ a
  · exact .inl k
  · exact .inr ((pr_cop hp k).dvd_of_dvd_mul_left h)
theorem sqf_uniq : ∀ (m n s t : Nat), 1 ≤ m → 1 ≤ n → Sqf s → Sqf t → m * m * s = n * n * t → m = n ∧ s = t := by
  intro m
  induction m using Nat.strongRecOn with
  | ind m ih =>
    intro n s t hm hn hs ht e
    by_cases h1 : m = 1
    · subst h1
      by_cases h2 : n = 1
      · subst h2
        exact ⟨rfl, by omega⟩
      · obtain ⟨p, hp, k, hk⟩ := pr_ex n (by omega)
        exfalso
        apply hs p hp
        exact ⟨k * k * t, by rw [hk] at e; grind⟩
    · obtain ⟨p, hp, k, hk⟩ := pr_ex m (by omega)
      have p2 := hp.1
      have hpp : p * p ∣ n * n * t := ⟨k * k * s, by rw [← e, hk]; grind⟩
      by_cases hpn : p ∣ n
      · obtain ⟨l, hl⟩ := hpn
        have e2 : k * k * s = l * l * t := by
          have : (p * p) * (k * k * s) = (p * p) * (l * l * t) := by
            rw [hk, hl] at e
            grind
          exact Nat.eq_of_mul_eq_mul_left (Nat.mul_pos (by omega) (by omega)) this
        have hk0 : 1 ≤ k := by
          rcases Nat.eq_zero_or_pos k with h | h
          · rw [h] at hk; omega
          · exact h
        have hl0 : 1 ≤ l := by
          rcases Nat.eq_zero_or_pos l with h | h
          · rw [h] at hl; omega
          · exact h
        have hkm : k < m := by
          rw [hk]
          have : 2 * k ≤ p * k := Nat.mul_le_mul_right k p2
          omega
        obtain ⟨h3, h4⟩ := ih k hkm l s t hk0 hl0 hs ht e2
        exact ⟨by rw [hk, hl, h3], h4⟩
      · exfalso
        have c := pr_cop hp hpn
        have c2 : Nat.Coprime (p * p) (n * n) := (c.mul_left c).mul_right (c.mul_left c)
        exact ht p hp (c2.dvd_of_dvd_mul_left hpp)
theorem sqf_nsq {s : Nat} (h : Sqf s) (h2 : 2 ≤ s) : ∀ m : Nat, m * m ≠ s := by
  intro m e
  by_cases hm : 2 ≤ m
  · obtain ⟨p, hp, k, hk⟩ := pr_ex m hm
    exact h p hp ⟨k * k, by rw [← e, hk]; grind⟩
  · have : m = 0 ∨ m = 1 := by omega
    rcases this with rfl | rfl <;> omega
theorem sqf_mul_pr {s p : Nat} (h : Sqf s) (hp : Pr p) (hd : ¬ p ∣ s) : Sqf (s * p) := by
  intro q hq hqq
  by_cases e : q = p
  · subst e
    have : q ∣ s := by
      obtain ⟨k, hk⟩ := hqq
      have q0 := hq.1
      exact ⟨k, Nat.eq_of_mul_eq_mul_right (show 0 < q by omega) (by rw [hk]; grind)⟩
    exact hd this
  · have c : Nat.Coprime q p := pr_cop hq fun k => by
      rcases hp.2 q k with h | h
      · have := hq.1; omega
      · exact e h
    exact h q hq ((c.mul_left c).dvd_of_dvd_mul_right hqq)
theorem sqf_end {s l p : Nat} (h : Sqf s) (hl : 1 ≤ l) (hno : ∀ r, 2 ≤ r → r < p → ¬ r ∣ l) (hc : ∀ r, Pr r → r ∣ s → ¬ r ∣ l) (hp : l < p * p * p) (hsq : ∀ m : Nat, m * m ≠ l) : Sqf (s * l) := by
  intro q hq hqq
  have q2 := hq.1
  by_cases hs : q ∣ s
  · have c := pr_cop hq (hc q hq hs)
    exact h q hq ((c.mul_left c).dvd_of_dvd_mul_right hqq)
  · have c := pr_cop hq hs
    obtain ⟨m, hm⟩ := (c.mul_left c).dvd_of_dvd_mul_left hqq
    have hqp : p ≤ q := by
      rcases Nat.lt_or_ge q p with k | k
      · exact absurd ⟨q * m, by rw [hm]; grind⟩ (hno q q2 k)
      · exact k
    have hmp : m < p := by
      rcases Nat.lt_or_ge m p with k | k
      · exact k
      · exfalso
        have h1 : p * p ≤ q * q := Nat.mul_le_mul hqp hqp
        have h2 : p * p * p ≤ q * q * m := Nat.mul_le_mul h1 k
        omega
    have hm1 : m = 1 := by
      have m0 : m ≠ 0 := by
        intro e
        rw [e] at hm
        omega
      by_cases e : m = 1
      · exact e
      · exact absurd ⟨q * q, by rw [hm]; grind⟩ (hno m (by omega) hmp)
    rw [hm1] at hm
    exact hsq q (by omega)
end Mn
end

section
set_option maxHeartbeats 1000000
namespace Mn
open Kd
variable {Q : NSq}
def act : List Int → Kd Q → Kd Q
  | [], x => x
  | t :: w, x => 1 / ((t : Kd Q) + act w x)
def Ps (row : List Int) : Prop := ∀ t ∈ row, 1 ≤ t
theorem Ps.tl {t : Int} {w : List Int} (h : Ps (t :: w)) : Ps w := fun u hu => h u (List.mem_cons_of_mem _ hu)
theorem Ps.hd {t : Int} {w : List Int} (h : Ps (t :: w)) : 1 ≤ t := h t List.mem_cons_self
theorem Ps.app {u w : List Int} : Ps (u ++ w) ↔ Ps u ∧ Ps w := by
  unfold Ps
  simp only [List.mem_append]
  exact ⟨fun h => ⟨fun t k => h t (.inl k), fun t k => h t (.inr k)⟩, fun h t k => k.elim (h.1 t) (h.2 t)⟩
theorem Ps.rev {w : List Int} (h : Ps w) : Ps w.reverse := fun t k => h t (by simpa using k)
theorem c_one_le {t : Int} (h : 1 ≤ t) : (1 : Kd Q) ≤ (t : Kd Q) := by
  have := (cle (Q := Q)).mpr h
  rw [c1] at this
  exact this
theorem act_app : ∀ (u w : List Int) (x : Kd Q), act (u ++ w) x = act u (act w x)
  | [], _, _ => rfl
  | t :: u, w, x => by simp only [List.cons_append, act, act_app u w x]
theorem act_pos : ∀ {w : List Int} {x : Kd Q}, Ps w → 0 < x → 0 < act w x
  | [], _, _, h => h
  | t :: w, x, hp, h => by
    have h1 := act_pos hp.tl h
    have h2 := c_one_le (Q := Q) hp.hd
    exact inv_pos' (by grind)
theorem act_lt {t : Int} {w : List Int} {x : Kd Q} (hp : Ps (t :: w)) (h : 0 < x) : act (t :: w) x < 1 := by
  have h1 := act_pos hp.tl h
  have h2 := c_one_le (Q := Q) hp.hd
  have h3 : (1 : Kd Q) < (t : Kd Q) + act w x := by grind
  have h4 := inv_pos' (show 0 < (t : Kd Q) + act w x by grind)
  have h5 := Lean.Grind.OrderedRing.mul_lt_mul_of_pos_right h3 h4
  show 1 / ((t : Kd Q) + act w x) < 1
  grind
theorem act_inj : ∀ {w : List Int} {x y : Kd Q}, act w x = act w y → x = y
  | [], _, _, h => h
  | t :: w, x, y, h => by
    have h : 1 / ((t : Kd Q) + act w x) = 1 / ((t : Kd Q) + act w y) := h
    have e : ∀ z : Kd Q, (1 / z)⁻¹ = z := fun z => by
      have : (1 : Kd Q) / z = z⁻¹ := by grind
      rw [this, Kd.inv_inv]
    have h2 : (t : Kd Q) + act w x = (t : Kd Q) + act w y := by rw [← e ((t : Kd Q) + act w x), h, e]
    exact act_inj (w := w) (by grind)
def tabF : List Int → Int → Int → Int → Int → Int × Int × Int × Int
  | [], a, b, c, d => (a, b, c, d)
  | t :: w, a, b, c, d => tabF w b (a + b * t) d (c + d * t)
theorem tabF_app : ∀ (u w : List Int) (a b c d : Int), tabF (u ++ w) a b c d = tabF w (tabF u a b c d).1 (tabF u a b c d).2.1 (tabF u a b c d).2.2.1 (tabF u a b c d).2.2.2
  | [], _, _, _, _, _ => rfl
  | t :: u, w, a, b, c, d => by simp only [List.cons_append, tabF, tabF_app u w]
theorem tabF_act : ∀ (w : List Int) (a b c d : Int) (x : Kd Q), Ps w → 0 < x →
    ((a : Kd Q) * act w x + (b : Kd Q)) * (((tabF w a b c d).2.2.1 : Kd Q) * x + ((tabF w a b c d).2.2.2 : Kd Q)) = ((c : Kd Q) * act w x + (d : Kd Q)) * (((tabF w a b c d).1 : Kd Q) * x + ((tabF w a b c d).2.1 : Kd Q))
  | [], a, b, c, d, x, _, _ => by simp only [tabF, act]; grind
  | t :: w, a, b, c, d, x, hp, hx => by
    have ih := tabF_act w b (a + b * t) d (c + d * t) x hp.tl hx
    simp only [tabF, act]
    have h1 := act_pos hp.tl hx
    have h2 := c_one_le (Q := Q) hp.hd
    have h3 : (t : Kd Q) + act w x ≠ 0 := by grind
    have h4 : ((t : Kd Q) + act w x) * (1 / ((t : Kd Q) + act w x)) = 1 := by grind
    generalize 1 / ((t : Kd Q) + act w x) = y at *
    simp only [cadd, cmul] at ih
    generalize ((tabF w b (a + b * t) d (c + d * t)).2.2.1 : Kd Q) * x + ((tabF w b (a + b * t) d (c + d * t)).2.2.2 : Kd Q) = p at *
    generalize ((tabF w b (a + b * t) d (c + d * t)).1 : Kd Q) * x + ((tabF w b (a + b * t) d (c + d * t)).2.1 : Kd Q) = q at *
    have e1 : (b : Kd Q) + (a : Kd Q) * y = ((b : Kd Q) * act w x + ((a : Kd Q) + (b : Kd Q) * (t : Kd Q))) * y := by grind
    have e2 : (d : Kd Q) + (c : Kd Q) * y = ((d : Kd Q) * act w x + ((c : Kd Q) + (d : Kd Q) * (t : Kd Q))) * y := by grind
    grind
theorem tabF_pos : ∀ (w : List Int) (a b c d : Int), Ps w → 0 ≤ a → 1 ≤ b → 0 ≤ c → 1 ≤ d → 0 ≤ (tabF w a b c d).1 ∧ 1 ≤ (tabF w a b c d).2.1 ∧ 0 ≤ (tabF w a b c d).2.2.1 ∧ 1 ≤ (tabF w a b c d).2.2.2
  | [], a, b, c, d, _, h1, h2, h3, h4 => ⟨h1, h2, h3, h4⟩
  | t :: w, a, b, c, d, hp, h1, h2, h3, h4 => by
    have ht := hp.hd
    have e1 : b * 1 ≤ b * t := Int.mul_le_mul_of_nonneg_left ht (by omega)
    have e2 : d * 1 ≤ d * t := Int.mul_le_mul_of_nonneg_left ht (by omega)
    exact tabF_pos w b (a + b * t) d (c + d * t) hp.tl (by omega) (by omega) (by omega) (by omega)
def tab (row : List Int) : Int × Int × Int × Int := tabF row 1 0 0 1
theorem tabF_pos1 : ∀ (w : List Int) (a b c d : Int), Ps w → 0 ≤ a → 1 ≤ b → 1 ≤ c → 1 ≤ d → 0 ≤ (tabF w a b c d).1 ∧ 1 ≤ (tabF w a b c d).2.1 ∧ 1 ≤ (tabF w a b c d).2.2.1 ∧ 1 ≤ (tabF w a b c d).2.2.2
  | [], a, b, c, d, _, h1, h2, h3, h4 => ⟨h1, h2, h3, h4⟩
  | t :: w, a, b, c, d, hp, h1, h2, h3, h4 => by
    have ht := hp.hd
    have e1 : b * 1 ≤ b * t := Int.mul_le_mul_of_nonneg_left ht (by omega)
    have e2 : d * 1 ≤ d * t := Int.mul_le_mul_of_nonneg_left ht (by omega)
    exact tabF_pos1 w b (a + b * t) d (c + d * t) hp.tl (by omega) (by omega) (by omega) (by omega)
theorem tab_cons (t : Int) (w : List Int) : tab (t :: w) = tabF w 0 1 1 t := by
  unfold tab
  simp only [tabF]
  rw [show (1 : Int) + 0 * t = 1 by omega, show (0 : Int) + 1 * t = t by omega]
theorem tab_pos {t : Int} {w : List Int} (hp : Ps (t :: w)) : 0 ≤ (tab (t :: w)).1 ∧ 1 ≤ (tab (t :: w)).2.1 ∧ 1 ≤ (tab (t :: w)).2.2.1 ∧ 1 ≤ (tab (t :: w)).2.2.2 := by
  rw [tab_cons]
  exact tabF_pos1 w 0 1 1 t hp.tl (by omega) (by omega) (by omega) hp.hd
theorem tab_act {w : List Int} {x : Kd Q} (hp : Ps w) (hx : 0 < x) : act w x * (((tab w).2.2.1 : Kd Q) * x + ((tab w).2.2.2 : Kd Q)) = ((tab w).1 : Kd Q) * x + ((tab w).2.1 : Kd Q) := by
  have h := tabF_act (Q := Q) w 1 0 0 1 x hp hx
  rw [c0, c1] at h
  unfold tab
  grind
def Fix (w : List Int) (s : Kd Q) : Prop := 0 < s ∧ act w s = s
theorem Fix.quad {w : List Int} {s : Kd Q} (hp : Ps w) (h : Fix w s) : ((tab w).2.2.1 : Kd Q) * s * s + ((tab w).2.2.2 : Kd Q) * s = ((tab w).1 : Kd Q) * s + ((tab w).2.1 : Kd Q) := by
  have := tab_act hp h.1
  rw [h.2] at this
  grind
theorem Fix.uniq {t : Int} {w : List Int} {s s' : Kd Q} (hp : Ps (t :: w)) (h : Fix (t :: w) s) (h' : Fix (t :: w) s') : s = s' := by
  have q := h.quad hp
  have q' := h'.quad hp
  obtain ⟨_, p2, p3, _⟩ := tab_pos hp
  have b1 := c_one_le (Q := Q) p2
  have c1' := c_one_le (Q := Q) p3
  generalize ((tab (t :: w)).1 : Kd Q) = a at *
  generalize ((tab (t :: w)).2.1 : Kd Q) = b at *
  generalize ((tab (t :: w)).2.2.1 : Kd Q) = c at *
  generalize ((tab (t :: w)).2.2.2 : Kd Q) = d at *
  by_cases e : s = s'
  · exact e
  · exfalso
    have hne : s - s' ≠ 0 := fun k => e (by grind)
    have k1 : (s - s') * (c * (s + s') + d - a) = 0 := by grind
    have k2 : c * (s + s') + d - a = 0 := by
      have := Kd.mul_inv hne
      have : (s - s')⁻¹ * ((s - s') * (c * (s + s') + d - a)) = 0 := by rw [k1]; grind
      grind
    have k3 : b = -(c * (s * s')) := by grind
    have k4 := mul_pos' (show 0 < c by grind) (mul_pos' h.1 h'.1)
    grind
theorem fix_of_quad {w : List Int} {s : Kd Q} (hp : Ps w) (hs : 0 < s) (h : ((tab w).2.2.1 : Kd Q) * s * s + ((tab w).2.2.2 : Kd Q) * s = ((tab w).1 : Kd Q) * s + ((tab w).2.1 : Kd Q)) : Fix w s := by
  refine ⟨hs, ?_⟩
  have k := tab_act hp hs
  cases w with
  | nil => rfl
  | cons t w =>
    obtain ⟨_, p2, p3, p4⟩ := tab_pos hp
    have c1' := c_one_le (Q := Q) p3
    have d1' := c_one_le (Q := Q) p4
    have hm := mul_pos' (show 0 < ((tab (t :: w)).2.2.1 : Kd Q) by grind) hs
    have hne : ((tab (t :: w)).2.2.1 : Kd Q) * s + ((tab (t :: w)).2.2.2 : Kd Q) ≠ 0 := by grind
    have := Kd.mul_inv hne
    generalize hz : ((tab (t :: w)).2.2.1 : Kd Q) * s + ((tab (t :: w)).2.2.2 : Kd Q) = z at *
    have e : act (t :: w) s * z = s * z := by rw [k, ← hz]; grind
    have : act (t :: w) s * z * z⁻¹ = s * z * z⁻¹ := by rw [e]
    grind
theorem Fix.rot {u w : List Int} {s : Kd Q} (hp : Ps (u ++ w)) (h : Fix (u ++ w) s) : Fix (w ++ u) (act w s) := by
  refine ⟨act_pos (Ps.app.mp hp).2 h.1, ?_⟩
  have := h.2
  rw [act_app] at this
  rw [act_app, this]
theorem fix_rep {w : List Int} {s : Kd Q} (h : Fix w s) : ∀ k, act (List.replicate k w).flatten s = s
  | 0 => rfl
  | k + 1 => by rw [List.replicate_succ, List.flatten_cons, act_app, fix_rep h k, h.2]
def cj (v : Kd Q) : Kd Q := ⟨v.x, -v.y⟩
theorem cj_add (a b : Kd Q) : cj (a + b) = cj a + cj b := by unfold cj; ext <;> simp <;> grind
theorem cj_mul (a b : Kd Q) : cj (a * b) = cj a * cj b := by unfold cj; ext <;> simp <;> grind
theorem cj_int (n : Int) : cj (n : Kd Q) = (n : Kd Q) := by unfold cj; ext <;> simp
theorem cj_cj (a : Kd Q) : cj (cj a) = a := by unfold cj; ext <;> simp
theorem cj_inv (a : Kd Q) : cj (1 / a) = 1 / cj a := by
  by_cases h : a = 0
  · subst h
    have e : (1 : Kd Q) / 0 = 0 := by grind
    have e2 : cj (0 : Kd Q) = 0 := by unfold cj; ext <;> simp
    rw [e, e2, e]
  · have h1 : a * (1 / a) = 1 := by grind
    have h2 : cj a * cj (1 / a) = 1 := by
      rw [← cj_mul, h1]
      unfold cj
      ext <;> simp
    have := Kd.inv_uniq h2
    rw [this]
    grind
theorem cj_act (w : List Int) (x : Kd Q) : cj (act w x) = act w (cj x) := by
  induction w with
  | nil => rfl
  | cons t w ih => simp only [act, cj_inv, cj_add, cj_int, ih]
theorem act_rev : ∀ (w : List Int) (x : Kd Q), act w.reverse (-(1 / act w x)) = -(1 / x)
  | [], x => rfl
  | t :: w, x => by
    rw [List.reverse_cons, act_app]
    simp only [act]
    have e : ∀ z : Kd Q, 1 / (1 / z) = z := fun z => by
      have h1 : (1 : Kd Q) / z = z⁻¹ := by grind
      have h2 : (1 : Kd Q) / z⁻¹ = z⁻¹⁻¹ := by grind
      rw [h1, h2, Kd.inv_inv]
    rw [e]
    have e2 : (t : Kd Q) + -((t : Kd Q) + act w x) = -act w x := by grind
    rw [e2]
    have e3 : 1 / (-act w x) = -(1 / act w x) := by
      by_cases h : act w x = 0
      · rw [h]
        grind
      · grind
    rw [e3]
    exact act_rev w x
theorem Fix.cj_neg {t : Int} {w : List Int} {s : Kd Q} (hp : Ps (t :: w)) (h : Fix (t :: w) s) (hi : cj s ≠ s) : cj s < 0 := by
  by_cases h0 : 0 < cj s
  · exfalso
    apply hi
    refine Fix.uniq hp ⟨h0, ?_⟩ h
    rw [← cj_act, h.2]
  · by_cases h1 : cj s = 0
    · exfalso
      have : s = 0 := by
        rw [← cj_cj s, h1]
        unfold cj
        ext <;> simp
      have := h.1
      grind
    · grind
theorem Fix.rev {t : Int} {w : List Int} {s : Kd Q} (hp : Ps (t :: w)) (h : Fix (t :: w) s) (hi : cj s ≠ s) : Fix (t :: w).reverse (-(1 / cj s)) := by
  have hn := h.cj_neg hp hi
  refine ⟨?_, ?_⟩
  · have := inv_pos' (show 0 < -cj s by grind)
    grind
  · have e : act (t :: w) (cj s) = cj s := by rw [← cj_act, h.2]
    have := act_rev (t :: w) (cj s)
    rw [e] at this
    exact this
theorem irr_act {w : List Int} {s : Kd Q} (hi : cj s ≠ s) : cj (act w s) ≠ act w s := fun h => hi (act_inj (w := w) (by rw [← cj_act]; exact h))
theorem sqf_ex : ∀ n : Nat, 1 ≤ n → ∃ m s, n = m * m * s ∧ Sqf s ∧ 1 ≤ m := by
  intro n
  induction n using Nat.strongRecOn with
  | ind n ih =>
    intro hn
    by_cases h : Sqf n
    · exact ⟨1, n, by simp, h, Nat.le_refl _⟩
    · unfold Sqf at h
      simp only [Classical.not_forall, Classical.not_not] at h
      obtain ⟨p, hp, k, hk⟩ := h
      have p2 := hp.1
      have hk0 : 1 ≤ k := by
        rcases Nat.eq_zero_or_pos k with h | h
        · rw [h] at hk; omega
        · exact h
      have hkn : k < n := by
        rw [hk]
        have : 2 * 2 ≤ p * p := Nat.mul_le_mul p2 p2
        have : 4 * k ≤ p * p * k := Nat.mul_le_mul_right k (by omega)
        omega
      obtain ⟨m, s, e, hs, hm⟩ := ih k hkn hk0
      exact ⟨p * m, s, by rw [hk, e]; grind, hs, Nat.mul_pos (by omega) hm⟩
def dsc (w : List Int) : Int := ((tab w).1 - (tab w).2.2.2) * ((tab w).1 - (tab w).2.2.2) + 4 * (tab w).2.1 * (tab w).2.2.1
theorem dsc_pos {t : Int} {w : List Int} (hp : Ps (t :: w)) : ((tab (t :: w)).1 - (tab (t :: w)).2.2.2) * ((tab (t :: w)).1 - (tab (t :: w)).2.2.2) < dsc (t :: w) ∧ 4 ≤ dsc (t :: w) := by
  obtain ⟨_, p2, p3, _⟩ := tab_pos hp
  unfold dsc
  have h1 : 1 ≤ (tab (t :: w)).2.1 * (tab (t :: w)).2.2.1 := by
    have := Int.mul_pos (show 0 < (tab (t :: w)).2.1 by omega) (show 0 < (tab (t :: w)).2.2.1 by omega)
    omega
  have h2 : 0 ≤ ((tab (t :: w)).1 - (tab (t :: w)).2.2.2) * ((tab (t :: w)).1 - (tab (t :: w)).2.2.2) := by
    generalize (tab (t :: w)).1 - (tab (t :: w)).2.2.2 = z
    by_cases hz : 0 ≤ z
    · exact Int.mul_nonneg hz hz
    · exact Int.mul_nonneg_of_nonpos_of_nonpos (by omega) (by omega)
  have e : 4 * (tab (t :: w)).2.1 * (tab (t :: w)).2.2.1 = 4 * ((tab (t :: w)).2.1 * (tab (t :: w)).2.2.1) := by grind
  omega
theorem natD : (((Q.d : Int)) : Kd Q) = (Q.d : Kd Q) := by ext <;> simp [Rat.intCast_natCast]
theorem fix_formula {t : Int} {w : List Int} {m : Nat} (hp : Ps (t :: w)) (hm : 1 ≤ m) (hd : dsc (t :: w) = (m : Int) * m * (Q.d : Int)) : Fix (t :: w) (vl Q ((tab (t :: w)).1 - (tab (t :: w)).2.2.2) m (2 * (tab (t :: w)).2.2.1)) := by
  obtain ⟨p1, p2, p3, p4⟩ := tab_pos hp
  have hlt := (dsc_pos hp).1
  have c1' := c_one_le (Q := Q) p3
  apply fix_of_quad hp
  · rw [vl_pos (by omega)]
    have hmp := mul_pos' (cpos.mpr (show (0 : Int) < (m : Int) by omega)) (rt_pos (Q := Q))
    have k := (clt (Q := Q)).mpr hlt
    rw [hd, ← bb_sq] at k
    have e : ((((tab (t :: w)).1 - (tab (t :: w)).2.2.2) * ((tab (t :: w)).1 - (tab (t :: w)).2.2.2) : Int) : Kd Q) = (-(((tab (t :: w)).1 - (tab (t :: w)).2.2.2 : Int) : Kd Q)) * (-(((tab (t :: w)).1 - (tab (t :: w)).2.2.2 : Int) : Kd Q)) := by rw [cmul]; grind
    rw [e] at k
    have := lt_sq (by grind) k
    grind
  · have e1 := vl_mul (Q := Q) (a := (tab (t :: w)).1 - (tab (t :: w)).2.2.2) (b := m) (c := 2 * (tab (t :: w)).2.2.1) (by omega)
    have e2 := bb_sq (Q := Q) (m : Int)
    rw [← hd] at e2
    unfold dsc at e2
    generalize vl Q ((tab (t :: w)).1 - (tab (t :: w)).2.2.2) m (2 * (tab (t :: w)).2.2.1) = s at *
    simp only [cmul, csub, cadd] at e1 e2
    have f2 : ((2 : Int) : Kd Q) = 2 := rfl
    have f4 : ((4 : Int) : Kd Q) = 4 := rfl
    rw [f2] at e1
    rw [f4] at e2
    generalize ((tab (t :: w)).1 : Kd Q) = a at *
    generalize ((tab (t :: w)).2.1 : Kd Q) = b at *
    generalize ((tab (t :: w)).2.2.1 : Kd Q) = c at *
    generalize ((tab (t :: w)).2.2.2 : Kd Q) = d at *
    generalize ((m : Int) : Kd Q) * rt Q = r at *
    have k1 : r = 2 * c * s - a + d := by grind
    rw [k1] at e2
    have k2 : (4 * c) * (c * s * s + d * s - (a * s + b)) = 0 := by grind
    have hc : (4 * c) ≠ 0 := by grind
    have k3 := Kd.mul_inv hc
    have : (4 * c)⁻¹ * ((4 * c) * (c * s * s + d * s - (a * s + b))) = 0 := by rw [k2]; grind
    grind
end Mn
end

section
set_option maxHeartbeats 1000000
namespace L81
open PySem Mn
variable {S : So}
local macro_rules
  | `(tactic| keq_rows) => `(tactic| (repeat' (first
      | with_reducible exact e_int | with_reducible exact e_bl | with_reducible exact e_non | with_reducible exact e_str | with_reducible exact e_nil | with_reducible exact s_pass | with_reducible exact eo_none | with_reducible exact o_add | with_reducible exact o_sub | with_reducible exact c_eq | with_reducible exact c_lt | with_reducible exact c_le | with_reducible exact c_gt | with_reducible exact c_ge | with_reducible exact c_ne
      | ((with_reducible refine' ss_nl ?mnh); (case mnh => exact rfl)) | ((with_reducible refine' e_var ?mnh); (case mnh => exact rfl)) | ((with_reducible refine' asg_i ?mnh); (case mnh => exact rfl)) | ((with_reducible refine' at_i ?mnh); (case mnh => exact rfl)) | ((with_reducible refine' ty_i ?mnh); (case mnh => exact rfl)) | ((with_reducible refine' mv_i ?mnh); (case mnh => exact rfl)) | ((with_reducible refine' bi_i ?mnh); (case mnh => exact rfl)) | ((with_reducible refine' e_glob ?mnh); (case mnh => kernel_rfl)) | (with_reducible exact div_lit (by decide)) | ((with_reducible refine' len_i ?mnh); (case mnh => exact rfl))
      | with_reducible refine' exSs_rt (s_ret ?_) | with_reducible refine' exSs_nx (s_asg ?_ ?_) ?_ | with_reducible refine' exSs_nx (s_ex ?_) ?_ | with_reducible refine' exSs_nx (s_put ?_ ?_ ?_ ?_) ?_ | with_reducible refine' t_of ?_ | with_reducible refine' e_bin ?_ ?_ ?_ | with_reducible refine' e_neg ?_ | with_reducible refine' e_cons ?_ ?_ | with_reducible refine' e_tup ?_ ?_ | with_reducible refine' e_lst ?_ ?_ | with_reducible refine' e_ix ?_ ?_ ?_ | with_reducible refine' e_cmp ?_ ?_ ?_ | with_reducible refine' e_not ?_ | with_reducible refine' e_call ?_ ?_ | with_reducible refine' e_bi ?_ ?_ | with_reducible refine' e_me ?_ ?_ ?_ ?_ | with_reducible refine' eo_some ?_ | with_reducible refine' e_sl ?_ ?_ ?_ ?_ | with_reducible refine' e_rev ?_ ?_ | with_reducible refine' ix_tup ?_
      | (with_reducible refine' e_callk ?_ ?_ (by kernel_rfl) rfl ?_)
      | keq_hits
      | with_reducible refine' o_mul ?_ | with_reducible refine' o_fdiv ?_ | with_reducible refine' o_mod ?_)))
  | `(tactic| kas_types) => `(tactic| (repeat' (first
      | exact Sz.id (by assumption) | exact Sz.lit (n := 16) (by decide) | with_reducible refine' Sz.mul ?_ ?_ | with_reducible refine' Sz.add ?_ ?_ | with_reducible refine' Sz.sub ?_ ?_ | with_reducible refine' Sz.neg ?_ | with_reducible refine' Sz.div ?_)))
  | `(tactic| lcg_sub) => `(tactic| ((refine' mul_sz ?mza ?mzb ?mzc); (case mza => kas_types); (case mzb => kas_types); (case mzc => omega)))
theorem l_common {cf} : ∀ (k : Nat) (a b : Int), 0 ≤ a → 0 ≤ b → b.toNat = k → exS T cf b_common.hd [some (.int a), some (.int b)] S = some (.nx [some (.int (Int.gcd a b)), some (.int 0)], S) := by
  intro k
  induction k using Nat.strongRecOn with
  | ind k ih =>
    intro a b ha hb hk
    by_cases h0 : b = 0
    · subst h0
      have e : (Int.gcd a 0 : Int) = a := by simp; omega
      rw [e]
      exact wh_stop (t_of (e_cmp (e_var rfl) e_int (c_gt_f (by omega))))
    · have h1 : 0 < b := by omega
      have hm : 0 ≤ a % b := Int.emod_nonneg _ (by omega)
      have hlt : a % b < b := Int.emod_lt_of_pos _ h1
      have e : (Int.gcd a b : Int) = (Int.gcd b (a % b) : Int) := by
        have := Int.gcd_add_mul_left_right b (a % b) (a / b)
        rw [Int.emod_add_mul_ediv] at this
        rw [Int.gcd_comm a b, this]
      rw [e]
      refine wh_go (t_of (e_cmp (e_var rfl) e_int (c_gt_t h1))) ?_ (ih (a % b).toNat (by omega) b (a % b) hb hm rfl)
      keq_rows
      exact h1
theorem c_common {n : Nat} {a b : Int} (ha : 0 ≤ a) (hb : 0 ≤ b) : callF T (n + 1) "common" [.int a, .int b] S = some (.int (Int.gcd a b), S) :=
  callF_pure f_common rfl (exSs_nx (l_common _ a b ha hb rfl) (by keq_rows))
local macro_rules | `(tactic| keq_hits) => `(tactic| refine' c_common ?_ ?_)
def IsRoot (n r : Int) : Prop := 0 ≤ r ∧ r * r ≤ n ∧ n < (r + 1) * (r + 1)
theorem l_root {cf} {n : Int} (hn : 2 ≤ n) : ∀ (k : Nat) (x : Int), 0 < x → Sz 8999 x → n < (x + 1) * (x + 1) → x.toNat = k → ∃ r l, exS T cf b_whole_root.tl.tl.tl.hd [some (.int n), some (.int x), some (.int ((x + n / x) / 2))] S = some (.nx [some (.int n), some (.int r), some (.int l)], S) ∧ IsRoot n r := by
  intro k
  induction k using Nat.strongRecOn with
  | ind k ih =>
    intro x hx hz hb hk
    by_cases h : (x + n / x) / 2 < x
    · have hl := newton (n := n) (by omega) hx
      have hp : 0 < (x + n / x) / 2 := by
        have : 0 ≤ (x + n / x) / 2 := by
          have : 0 ≤ n / x := Int.ediv_nonneg (by omega) (by omega)
          omega
        rcases Int.lt_or_eq_of_le this with h | h
        · exact h
        · rw [← h] at hl; omega
      have hz2 : Sz 8999 ((x + n / x) / 2) := hz.le (by omega)
      generalize hy : (x + n / x) / 2 = y at *
      obtain ⟨r, l, h1, h2⟩ := ih y.toNat (by omega) y hp hz2 hl rfl
      refine ⟨r, l, wh_go (t_of (e_cmp (e_var rfl) (e_var rfl) (c_lt_t h))) ?_ h1, h2⟩
      keq_rows
      exact div_sz hp hz2 (by decide)
    · refine ⟨x, _, wh_stop (t_of (e_cmp (e_var rfl) (e_var rfl) (c_lt_f h))), by omega, ?_, hb⟩
      have h1 : x ≤ n / x := by omega
      have h2 : n / x * x ≤ n := Int.ediv_mul_le _ (by omega)
      have h3 : x * x ≤ n / x * x := Int.mul_le_mul_of_nonneg_right h1 (by omega)
      omega
theorem c_whole_root {m : Nat} {n : Int} (h0 : 0 ≤ n) (hz : Sz 8000 n) : ∃ r, callF T (m + 1) "whole_root" [.int n] S = some (.int r, S) ∧ IsRoot n r := by
  by_cases h2 : n < 2
  · refine ⟨n, callF_pure f_whole_root rfl (exSs_rt (s_if_t (t_of (e_cmp (e_var rfl) e_int (c_lt_t h2))) (exSs_rt (s_ret (e_var rfl))))), h0, ?_⟩
    have : n = 0 ∨ n = 1 := by omega
    rcases this with rfl | rfl <;> decide
  · have hn : 2 ≤ n := by omega
    have eb : (Builtin.Int.intBits n : Int) = (n.natAbs.log2 : Int) + 1 := by
      unfold Builtin.Int.intBits
      rw [if_neg (by simp; omega)]
      simp
    have hlog := hz.log
    have hlt : n.natAbs < 2 ^ (n.natAbs.log2 + 1) := Nat.lt_log2_self
    generalize hj : (((Builtin.Int.intBits n : Nat) : Int) + 1) / 2 = j
    have hjn : n.natAbs.log2 + 1 ≤ j.toNat + j.toNat ∧ j.toNat ≤ 4001 ∧ 0 ≤ j := by omega
    have hlt2 : n.natAbs < 2 ^ j.toNat * 2 ^ j.toNat := by
      rw [← Nat.pow_add]
      exact Nat.lt_of_lt_of_le hlt (Nat.pow_le_pow_right (by decide) hjn.1)
    have ex : ((2 ^ j.toNat : Nat) : Int) = (2 : Int) ^ j.toNat := by simp
    have hx0 : 0 < 2 ^ j.toNat := Nat.pow_pos (by decide)
    have hxz : Sz 8999 ((2 ^ j.toNat : Nat) : Int) := by
      unfold Sz
      rw [Int.natAbs_natCast]
      exact Nat.pow_lt_pow_right (by decide) (by omega)
    have hbig : n < (((2 ^ j.toNat : Nat) : Int) + 1) * (((2 ^ j.toNat : Nat) : Int) + 1) := by
      generalize 2 ^ j.toNat = q at *
      have h3 : n < (q : Int) * (q : Int) := by
        have : ((n.natAbs : Nat) : Int) < ((q * q : Nat) : Int) := Int.ofNat_lt.mpr hlt2
        rw [Int.natCast_mul] at this
        omega
      grind
    have hxi : (0 : Int) < ((2 ^ j.toNat : Nat) : Int) := by omega
    obtain ⟨r, l, h3, h4⟩ := l_root (S := S) (cf := callF T m) hn _ _ hxi hxz hbig rfl
    rw [ex] at h3 hxz hxi
    refine' ⟨r, callF_pure f_whole_root rfl (exSs_nx (s_if_f (t_of (e_cmp (e_var rfl) e_int (c_lt_f h2))) ss_nil) (exSs_nx (ρ1 := [some (.int n), some (.int (2 ^ j.toNat)), none]) (s_asg ?_ rfl) (exSs_nx (ρ1 := [some (.int n), some (.int (2 ^ j.toNat)), some (.int ((2 ^ j.toNat + n / 2 ^ j.toNat) / 2))]) (s_asg ?_ rfl) (exSs_nx h3 (exSs_rt (s_ret (e_var rfl))))))), h4⟩
    · refine' e_bin e_int (y := .int j) ?_ (o_shl ⟨hjn.2.2, by omega⟩)
      rw [← hj]
      keq_rows
    · keq_rows
      exact div_sz hxi hxz (by decide)
local macro_rules | `(tactic| keq_hits) => `(tactic| refine' c_common ?_ ?_)
variable {Q : NSq}
abbrev sd (a b c d : Int) : D := .tup [.int a, .int b, .int c, .int d]
def Rp (Q : NSq) (B : Nat) (t : D) (v : Kd Q) : Prop := ∃ a b c d, t = sd a b c d ∧ NF Q a b c d ∧ vl Q a b c = v ∧ Sz B a ∧ Sz B b ∧ Sz B c ∧ Q.d < 2 ^ 64
theorem Rp.mono {B B' : Nat} {t : D} {v : Kd Q} (h : Rp Q B t v) (hb : B ≤ B') : Rp Q B' t v := by
  obtain ⟨a, b, c, d, h1, h2, h3, h4, h5, h6, h7⟩ := h
  exact ⟨a, b, c, d, h1, h2, h3, h4.mono hb, h5.mono hb, h6.mono hb, h7⟩
theorem Rp.uniq {B B' : Nat} {t t' : D} {v : Kd Q} (h : Rp Q B t v) (h' : Rp Q B' t' v) : t = t' := by
  obtain ⟨a, b, c, d, rfl, h2, h3, _⟩ := h
  obtain ⟨a', b', c', d', rfl, k2, k3, _⟩ := h'
  obtain ⟨rfl, rfl, rfl, rfl⟩ := h2.uniq k2 (h3.trans k3.symm)
  rfl
theorem Rp.inj {B B' : Nat} {t : D} {v v' : Kd Q} (h : Rp Q B t v) (h' : Rp Q B' t v') : v = v' := by
  obtain ⟨a, b, c, d, rfl, h2, h3, _⟩ := h
  obtain ⟨a', b', c', d', e, k2, k3, _⟩ := h'
  cases e
  exact h3.symm.trans k3
theorem abs_gcd (a b : Int) : Int.gcd (if a < 0 then -a else a) (if b < 0 then -b else b) = Int.gcd a b := by
  split <;> split <;> simp
theorem abs_nn (a : Int) : 0 ≤ (if a < 0 then -a else a) := by split <;> omega
theorem lowest_pos {n : Nat} {a b c d : Int} {B : Nat} (hc : 0 < c) (hd : b = 0 ∨ d = Q.d) (hB : B ≤ 8999) (ha : Sz B a) (hb : Sz B b) (hcz : Sz B c) (hQ : Q.d < 2 ^ 64) :
    ∃ t, exSs T (callF T (n + 1)) b_lowest.tl [some (.int a), some (.int b), some (.int c), some (.int d), none] S = some (.rt t, S) ∧ Rp Q B t (vl Q a b c) := by
  obtain ⟨h1, h2, h3, h4, h5⟩ := low_ok (Q := Q) (a := a) (b := b) (c := c) (d := d) hc hd
  generalize hg : (Int.gcd (Int.gcd a b) c : Int) = g at *
  have g0 : 0 < g := by
    rw [← hg]
    have : 0 < Int.gcd (Int.gcd a b) c := Int.gcd_pos_of_ne_zero_right _ (by omega)
    omega
  have gz : Sz B g := hcz.le (by
    rw [← hg, Int.natAbs_natCast]
    exact Int.gcd_le_natAbs_right _ (by omega))
  have gd := div_sz g0 gz hB
  have hcall : exS T (callF T (n + 1)) b_lowest.tl.hd [some (.int a), some (.int b), some (.int c), some (.int d), none] S = some (.nx [some (.int a), some (.int b), some (.int c), some (.int d), some (.int g)], S) := by
    refine s_asg (d := .int g) ?_ rfl
    rw [← hg, ← abs_gcd a b]
    keq_rows
    · exact abs_nn a
    · exact abs_nn b
    · omega
    · omega
  refine ⟨sd (a / g) (b / g) (c / g) (if b ≠ 0 then d else 0), exSs_nx hcall ?_, _, _, _, _, rfl, h1, h2, ha.le h3, hb.le h4, hcz.le h5, hQ⟩
  by_cases hz : b = 0
  · rw [if_neg (by simpa using hz)]
    refine' exSs_rt (s_ret (e_tup (e_cons ?_ (e_cons ?_ (e_cons ?_ (e_cons (e_ite_f (e_cmp (e_var rfl) e_int (c_ne_f hz)) e_int) e_nil)))) (Nat.le_of_ble_eq_true rfl))) <;> (keq_rows) <;> exact gd
  · rw [if_pos hz]
    refine' exSs_rt (s_ret (e_tup (e_cons ?_ (e_cons ?_ (e_cons ?_ (e_cons (e_ite_t (e_cmp (e_var rfl) e_int (c_ne_t hz)) (e_var rfl)) e_nil)))) (Nat.le_of_ble_eq_true rfl))) <;> (keq_rows) <;> exact gd
theorem c_lowest {n : Nat} {a b c d : Int} {B : Nat} (hc : c ≠ 0) (hd : b = 0 ∨ d = Q.d) (hB : B ≤ 8999) (ha : Sz B a) (hb : Sz B b) (hcz : Sz B c) (hQ : Q.d < 2 ^ 64) :
    ∃ t, callF T (n + 2) "lowest" [.int a, .int b, .int c, .int d] S = some (t, S) ∧ Rp Q B t (vl Q a b c) := by
  by_cases hn : c < 0
  · obtain ⟨t, h1, h2⟩ := lowest_pos (S := S) (n := n) (Q := Q) (a := -a) (b := -b) (c := -c) (d := d) (by omega) (by omega) hB ha.neg hb.neg hcz.neg hQ
    rw [vl_neg hc] at h2
    refine ⟨t, callF_pure f_lowest rfl (exSs_nx (s_if_t (t_of (e_cmp (e_var rfl) e_int (c_lt_t hn))) ?_) h1), h2⟩
    keq_rows
  · obtain ⟨t, h1, h2⟩ := lowest_pos (S := S) (n := n) (Q := Q) (a := a) (b := b) (c := c) (d := d) (by omega) hd hB ha hb hcz hQ
    exact ⟨t, callF_pure f_lowest rfl (exSs_nx (s_if_f (t_of (e_cmp (e_var rfl) e_int (c_lt_f hn))) ss_nil) h1), h2⟩
theorem max_d {a b c d a' b' c' d' : Int} (h : NF Q a b c d) (h' : NF Q a' b' c' d') : (b = 0 ∧ b' = 0) ∨ (if d' > d then d' else d) = Q.d := by
  rw [h.rad, h'.rad]
  by_cases h1 : b = 0 <;> by_cases h2 : b' = 0 <;> simp [h1, h2] <;> omega
theorem _root_.Mn.NF.rad_le {a b c d : Int} (h : NF Q a b c d) : d.natAbs ≤ Q.d := by
  rw [h.rad]
  split <;> simp
theorem c_surd_sum {n : Nat} {B B' : Nat} {t t' : D} {v v' : Kd Q} (h : Rp Q B t v) (h' : Rp Q B' t' v') (hB : B + B' ≤ 8000) :
    ∃ r, callF T (n + 3) "surd_sum" [t, t'] S = some (r, S) ∧ Rp Q (B + B' + 1) r (v + v') := by
  obtain ⟨a, b, c, d, rfl, h2, h3, za, zb, zc, hQ⟩ := h
  obtain ⟨a', b', c', d', rfl, k2, k3, wa, wb, wc, _⟩ := h'
  have p := h2.pos
  have p' := k2.pos
  have hm := max_d h2 k2
  have hcc : c * c' ≠ 0 := Int.mul_ne_zero (by omega) (by omega)
  obtain ⟨r, e1, e2⟩ := c_lowest (S := S) (n := n) (Q := Q) (a := a * c' + a' * c) (b := b * c' + b' * c) (c := c * c') (d := if d' > d then d' else d) (B := B + B' + 1) hcc
    (by
      rcases hm with ⟨rfl, rfl⟩ | hm
      · left; simp
      · right; exact hm) (by omega)
    (((za.mul wc).add (wa.mul zc)).mono (by omega)) (((zb.mul wc).add (wb.mul zc)).mono (by omega)) ((zc.mul wc).mono (by omega)) hQ
  refine' ⟨r, callF_pure f_surd_sum rfl (exSs_nx (ρ1 := [some (sd a b c d), some (sd a' b' c' d'), some (.int (a * c' + a' * c))]) (s_asg (d := .int (a * c' + a' * c)) ?_ rfl) (exSs_rt (s_ret (e_call (ds := [.int (a * c' + a' * c), .int (b * c' + b' * c), .int (c * c'), .int (if d' > d then d' else d)]) ?_ e1)))), ?_⟩
  · keq_rows
    · lcg_sub
    · lcg_sub
  · keq_rows
    · lcg_sub
    · lcg_sub
    · lcg_sub
  · have e : vl Q (a * c' + a' * c) (b * c' + b' * c) (c * c') = v + v' := by
      have := Kd.cne (Q := Q) (a := c) (by omega)
      have := Kd.cne (Q := Q) (a := c') (by omega)
      rw [← h3, ← k3]
      unfold vl
      simp only [Kd.cadd, Kd.cmul]
      grind
    rw [e] at e2
    exact e2
end L81
end

section
set_option maxHeartbeats 1000000
namespace L81
open PySem Mn
variable {S : So} {Q : NSq}
local macro_rules
  | `(tactic| keq_rows) => `(tactic| (repeat' (first
      | with_reducible exact e_int | with_reducible exact e_bl | with_reducible exact e_non | with_reducible exact e_str | with_reducible exact e_nil | with_reducible exact s_pass | with_reducible exact eo_none | with_reducible exact o_add | with_reducible exact o_sub | with_reducible exact c_eq | with_reducible exact c_lt | with_reducible exact c_le | with_reducible exact c_gt | with_reducible exact c_ge | with_reducible exact c_ne
      | ((with_reducible refine' ss_nl ?mnh); (case mnh => exact rfl)) | ((with_reducible refine' e_var ?mnh); (case mnh => exact rfl)) | ((with_reducible refine' asg_i ?mnh); (case mnh => exact rfl)) | ((with_reducible refine' at_i ?mnh); (case mnh => exact rfl)) | ((with_reducible refine' ty_i ?mnh); (case mnh => exact rfl)) | ((with_reducible refine' mv_i ?mnh); (case mnh => exact rfl)) | ((with_reducible refine' bi_i ?mnh); (case mnh => exact rfl)) | ((with_reducible refine' e_glob ?mnh); (case mnh => kernel_rfl)) | (with_reducible exact div_lit (by decide)) | ((with_reducible refine' len_i ?mnh); (case mnh => exact rfl))
      | with_reducible refine' exSs_rt (s_ret ?_) | with_reducible refine' exSs_nx (s_asg ?_ ?_) ?_ | with_reducible refine' exSs_nx (s_ex ?_) ?_ | with_reducible refine' exSs_nx (s_put ?_ ?_ ?_ ?_) ?_ | with_reducible refine' t_of ?_ | with_reducible refine' e_bin ?_ ?_ ?_ | with_reducible refine' e_neg ?_ | with_reducible refine' e_cons ?_ ?_ | with_reducible refine' e_tup ?_ ?_ | with_reducible refine' e_lst ?_ ?_ | with_reducible refine' e_ix ?_ ?_ ?_ | with_reducible refine' e_cmp ?_ ?_ ?_ | with_reducible refine' e_not ?_ | with_reducible refine' e_call ?_ ?_ | with_reducible refine' e_bi ?_ ?_ | with_reducible refine' e_me ?_ ?_ ?_ ?_ | with_reducible refine' eo_some ?_ | with_reducible refine' e_sl ?_ ?_ ?_ ?_ | with_reducible refine' e_rev ?_ ?_ | with_reducible refine' ix_tup ?_
      | (with_reducible refine' e_callk ?_ ?_ (by kernel_rfl) rfl ?_)
      | keq_hits
      | with_reducible refine' o_mul ?_ | with_reducible refine' o_fdiv ?_ | with_reducible refine' o_mod ?_)))
  | `(tactic| kas_types) => `(tactic| (repeat' (first
      | exact Sz.id (by assumption) | exact Sz.lit (n := 16) (by decide) | with_reducible refine' Sz.mul ?_ ?_ | with_reducible refine' Sz.add ?_ ?_ | with_reducible refine' Sz.sub ?_ ?_ | with_reducible refine' Sz.neg ?_ | with_reducible refine' Sz.div ?_)))
  | `(tactic| lcg_sub) => `(tactic| ((refine' mul_sz ?mza ?mzb ?mzc); (case mza => kas_types); (case mzb => kas_types); (case mzc => omega)))
local macro_rules | `(tactic| keq_hits) => `(tactic| with_reducible refine' c_common ?_ ?_)
theorem c_surd_times {n : Nat} {B B' : Nat} {t t' : D} {v v' : Kd Q} (h : Rp Q B t v) (h' : Rp Q B' t' v') (hB : B + B' ≤ 8000) :
    ∃ r, callF T (n + 3) "surd_times" [t, t'] S = some (r, S) ∧ Rp Q (B + B' + 65) r (v * v') := by
  obtain ⟨a, b, c, d, rfl, h2, h3, za, zb, zc, hQ⟩ := h
  obtain ⟨a', b', c', d', rfl, k2, k3, wa, wb, wc, _⟩ := h'
  have p := h2.pos
  have p' := k2.pos
  have hm := max_d h2 k2
  have hcc : c * c' ≠ 0 := Int.mul_ne_zero (by omega) (by omega)
  have zd : Sz 64 (if d' > d then d' else d) := by
    have e1 : Sz 64 d := Nat.lt_of_le_of_lt h2.rad_le hQ
    have e2 : Sz 64 d' := Nat.lt_of_le_of_lt k2.rad_le hQ
    split
    · exact e2
    · exact e1
  generalize hdm : (if d' > d then d' else d) = dm at *
  have eb : b * b' * dm = b * b' * (Q.d : Int) := by
    rcases hm with ⟨h, _⟩ | h
    · rw [h]; simp
    · rw [h]
  obtain ⟨r, e1, e2⟩ := c_lowest (S := S) (n := n) (Q := Q) (a := a * a' + b * b' * dm) (b := a * b' + b * a') (c := c * c') (d := dm) (B := B + B' + 65) hcc
    (by
      rcases hm with ⟨rfl, rfl⟩ | hm
      · left; simp
      · right; exact hm) (by omega)
    (((za.mul wa).add ((zb.mul wb).mul zd)).mono (by omega)) (((za.mul wb).add (zb.mul wa)).mono (by omega)) ((zc.mul wc).mono (by omega)) hQ
  refine' ⟨r, callF_pure f_surd_times rfl (exSs_nx (ρ1 := [some (sd a b c d), some (sd a' b' c' d'), some (.int dm), none]) (s_asg (d := .int dm) ?_ rfl) (exSs_nx (ρ1 := [some (sd a b c d), some (sd a' b' c' d'), some (.int dm), some (.int (a * a' + b * b' * dm))]) (s_asg (d := .int (a * a' + b * b' * dm)) ?_ rfl) (exSs_rt (s_ret (e_call (ds := [.int (a * a' + b * b' * dm), .int (a * b' + b * a'), .int (c * c'), .int dm]) ?_ e1))))), ?_⟩
  · rw [← hdm]
    keq_rows
  · keq_rows
    · lcg_sub
    · lcg_sub
    · lcg_sub
  · keq_rows
    · lcg_sub
    · lcg_sub
    · lcg_sub
  · have e : vl Q (a * a' + b * b' * dm) (a * b' + b * a') (c * c') = v * v' := by
      have := Kd.cne (Q := Q) (a := c) (by omega)
      have := Kd.cne (Q := Q) (a := c') (by omega)
      have hr := rt_sq (Q := Q)
      have ed : (((Q.d : Int)) : Kd Q) = (Q.d : Kd Q) := by ext <;> simp [Rat.intCast_natCast]
      rw [← h3, ← k3, eb]
      unfold vl
      simp only [Kd.cadd, Kd.cmul, ed]
      rw [← hr]
      grind
    rw [e] at e2
    exact e2
theorem c_surd_turned {n : Nat} {B : Nat} {t : D} {v : Kd Q} (h : Rp Q B t v) : ∃ r, callF T (n + 1) "surd_turned" [t] S = some (r, S) ∧ Rp Q B r (-v) := by
  obtain ⟨a, b, c, d, rfl, h2, h3, za, zb, zc, hQ⟩ := h
  refine ⟨sd (-a) (-b) c d, callF_pure f_surd_turned rfl ?_, _, _, _, _, rfl, ⟨h2.pos, by rw [Int.gcd_neg, Int.neg_gcd]; exact h2.cop, ?_⟩, by rw [vl_flip, h3], za.neg, zb.neg, zc, hQ⟩
  · show exSs T (callF T n) (.cons _ _) _ _ = _
    keq_rows
  · rw [h2.rad]
    by_cases hb : b = 0
    · rw [if_pos hb, if_pos (by omega)]
    · rw [if_neg hb, if_neg (by omega)]
theorem cj_vl {a b c : Int} (hc : c ≠ 0) : cj (vl Q a b c) = vl Q a (-b) c := by
  have e1 := vl_mul (Q := Q) (a := a) (b := b) (c := c) hc
  have e2 := vl_mul (Q := Q) (a := a) (b := -b) (c := c) hc
  have hc' := Kd.cne (Q := Q) hc
  have k : cj (vl Q a b c) * (c : Kd Q) = vl Q a (-b) c * (c : Kd Q) := by
    rw [e2]
    have x1 := congrArg Kd.x e1
    have x2 := congrArg Kd.y e1
    unfold cj
    unfold rt at *
    ext
    · simp at x1 x2 ⊢
      grind
    · simp at x1 x2 ⊢
      grind
  have : (c : Kd Q) * (1 / (c : Kd Q)) = 1 := by grind
  have k2 : cj (vl Q a b c) * (c : Kd Q) * (1 / (c : Kd Q)) = vl Q a (-b) c * (c : Kd Q) * (1 / (c : Kd Q)) := by rw [k]
  grind
theorem c_other_root {n : Nat} {B : Nat} {t : D} {v : Kd Q} (h : Rp Q B t v) : ∃ r, callF T (n + 1) "other_root" [t] S = some (r, S) ∧ Rp Q B r (cj v) := by
  obtain ⟨a, b, c, d, rfl, h2, h3, za, zb, zc, hQ⟩ := h
  have hp := h2.pos
  refine ⟨sd a (-b) c d, callF_pure f_other_root rfl ?_, _, _, _, _, rfl, ⟨h2.pos, by rw [Int.gcd_neg]; exact h2.cop, ?_⟩, by rw [← h3, cj_vl (by omega)], za, zb.neg, zc, hQ⟩
  · show exSs T (callF T n) (.cons _ _) _ _ = _
    keq_rows
  · rw [h2.rad]
    by_cases hb : b = 0
    · rw [if_pos hb, if_pos (by omega)]
    · rw [if_neg hb, if_neg (by omega)]
theorem c_surd_back {n : Nat} {B : Nat} {t : D} {v : Kd Q} (h : Rp Q B t v) (hv : v ≠ 0) (hB : B ≤ 4000) : ∃ r, callF T (n + 3) "surd_back" [t] S = some (r, S) ∧ Rp Q (2 * B + 65) r (1 / v) := by
  obtain ⟨a, b, c, d, rfl, h2, h3, za, zb, zc, hQ⟩ := h
  have p := h2.pos
  have zd : Sz 64 d := Nat.lt_of_le_of_lt h2.rad_le hQ
  have hab : ¬ (a = 0 ∧ b = 0) := fun k => hv (by rw [← h3]; exact (vl_zero p).mpr k)
  have ebb := h2.bd
  have hdd : b = 0 ∨ d = Q.d := by
    rw [h2.rad]
    by_cases hb : b = 0
    · exact .inl hb
    · rw [if_neg hb]; exact .inr rfl
  have hr := rt_sq (Q := Q)
  have ed : (((Q.d : Int)) : Kd Q) = (Q.d : Kd Q) := by ext <;> simp [Rat.intCast_natCast]
  have en : ((a * a - b * b * d : Int) : Kd Q) = ((a : Kd Q) + (b : Kd Q) * rt Q) * ((a : Kd Q) - (b : Kd Q) * rt Q) := by
    rw [ebb]
    simp only [Kd.csub, Kd.cmul, ed]
    rw [← hr]
    grind
  have hw : (a : Kd Q) + (b : Kd Q) * rt Q ≠ 0 := fun k => hab (by
    have := ab_inj (Q := Q) (a := a) (b := b) (a' := 0) (b' := 0) (by rw [k, Kd.c0]; grind)
    exact this)
  have hw2 : (a : Kd Q) - (b : Kd Q) * rt Q ≠ 0 := fun k => hab (by
    have := ab_inj (Q := Q) (a := a) (b := -b) (a' := 0) (b' := 0) (by rw [Kd.cneg, Kd.c0]; grind)
    omega)
  have hn : a * a - b * b * d ≠ 0 := by
    intro k
    rw [k, Kd.c0] at en
    have k1 := Kd.mul_inv hw
    have k2 := Kd.mul_inv hw2
    grind
  obtain ⟨r, e1, e2⟩ := c_lowest (S := S) (n := n) (Q := Q) (a := c * a) (b := -c * b) (c := a * a - b * b * d) (d := d) (B := 2 * B + 65) hn
    (by
      rcases hdd with h | h
      · left; rw [h]; simp
      · exact .inr h) (by omega) ((zc.mul za).mono (by omega)) ((zc.neg.mul zb).mono (by omega)) (((za.mul za).sub ((zb.mul zb).mul zd)).mono (by omega)) hQ
  have hif : exS T (callF T (n + 2)) b_surd_back.tl.hd [some (sd a b c d), some (.int a), some (.int b), some (.int c), some (.int d)] S = some (.nx [some (sd a b c d), some (.int a), some (.int b), some (.int c), some (.int d)], S) := by
    refine s_if_f (t_of ?_) ss_nil
    by_cases ha : a = 0
    · exact e_and_t (e_cmp (e_var rfl) e_int (c_eq_t ha)) (e_and1 (e_cmp (e_var rfl) e_int (c_eq_f (fun k => hab ⟨ha, k⟩))))
    · exact e_and_f (e_cmp (e_var rfl) e_int (c_eq_f ha))
  refine' ⟨r, callF_pure f_surd_back rfl (exSs_nx (s_asg (e_var rfl) rfl) (exSs_nx hif (exSs_rt (s_ret (e_call (ds := [.int (c * a), .int (-c * b), .int (a * a - b * b * d), .int d]) ?_ e1))))), ?_⟩
  · keq_rows
    · lcg_sub
    · lcg_sub
    · lcg_sub
    · lcg_sub
    · lcg_sub
  · have e : vl Q (c * a) (-c * b) (a * a - b * b * d) = 1 / v := by
      have := Kd.cne (Q := Q) (a := c) (by omega)
      rw [← h3]
      unfold vl
      rw [en]
      simp only [Kd.cmul, Kd.cneg]
      grind
    rw [e] at e2
    exact e2
def Sg (s : Int) (v : Kd Q) : Prop := (s = 1 ∧ 0 < v) ∨ (s = 0 ∧ v = 0) ∨ (s = -1 ∧ v < 0)
theorem c_eqb {x y : Bool} : cpV .eq (.bl x) (.bl y) S = some (decide (x = y)) := by
  simp only [cpV, eqO, toPy]
  rw [if_pos ⟨rfl, rfl⟩]
  simp [PyData.eqv, Bool.beq_eq_decide_eq]
theorem c_surd_sign {n : Nat} {B : Nat} {t : D} {v : Kd Q} (h : Rp Q B t v) (hB : B ≤ 4000) : ∃ s, callF T (n + 1) "surd_sign" [t] S = some (.int s, S) ∧ Sg s v := by
  obtain ⟨a, b, c, d, rfl, h2, h3, za, zb, zc, hQ⟩ := h
  have zd : Sz 64 d := Nat.lt_of_le_of_lt h2.rad_le hQ
  have hs := sign_ok h2
  rw [h3] at hs
  refine ⟨signP a b d, callF_pure f_surd_sign rfl (exSs_nx (ρ1 := [some (sd a b c d), some (.int a), some (.int b), some (.int d)]) (S1 := S) (by refine' s_asg ?_ ?_ <;> keq_rows) ?_), hs⟩
  unfold signP
  by_cases h1 : a ≥ 0 ∧ b ≥ 0
  · rw [if_pos h1]
    refine exSs_rt (s_if_t (t_of (e_and_t (e_cmp (e_var rfl) e_int (c_ge_t h1.1)) (e_and1 (e_cmp (e_var rfl) e_int (c_ge_t h1.2))))) (exSs_rt (s_ret ?_)))
    by_cases h2 : a + b > 0
    · rw [if_pos h2]
      exact e_ite_t (e_cmp (e_bin (e_var rfl) (e_var rfl) o_add) e_int (c_gt_t h2)) e_int
    · rw [if_neg h2]
      exact e_ite_f (e_cmp (e_bin (e_var rfl) (e_var rfl) o_add) e_int (c_gt_f h2)) e_int
  · rw [if_neg h1]
    have f1 : evT T (callF T n) (.and (.cons (.cmp .ge (.var 1) (.int 0)) (.cons (.cmp .ge (.var 2) (.int 0)) .nil))) [some (sd a b c d), some (.int a), some (.int b), some (.int d)] S = some (false, S) := by
      refine t_of ?_
      by_cases ha : a ≥ 0
      · exact e_and_t (e_cmp (e_var rfl) e_int (c_ge_t ha)) (e_and1 (e_cmp (e_var rfl) e_int (c_ge_f fun k => h1 ⟨ha, k⟩)))
      · exact e_and_f (e_cmp (e_var rfl) e_int (c_ge_f ha))
    refine exSs_nx (s_if_f f1 ss_nil) ?_
    by_cases h2 : a ≤ 0 ∧ b ≤ 0
    · rw [if_pos h2]
      exact exSs_rt (s_if_t (t_of (e_and_t (e_cmp (e_var rfl) e_int (c_le_t h2.1)) (e_and1 (e_cmp (e_var rfl) e_int (c_le_t h2.2))))) (exSs_rt (s_ret (e_neg e_int))))
    · rw [if_neg h2]
      have f2 : evT T (callF T n) (.and (.cons (.cmp .le (.var 1) (.int 0)) (.cons (.cmp .le (.var 2) (.int 0)) .nil))) [some (sd a b c d), some (.int a), some (.int b), some (.int d)] S = some (false, S) := by
        refine t_of ?_
        by_cases ha : a ≤ 0
        · exact e_and_t (e_cmp (e_var rfl) e_int (c_le_t ha)) (e_and1 (e_cmp (e_var rfl) e_int (c_le_f fun k => h2 ⟨ha, k⟩)))
        · exact e_and_f (e_cmp (e_var rfl) e_int (c_le_f ha))
      refine exSs_nx (s_if_f f2 ss_nil) (exSs_rt (s_ret ?_))
      have ecmp : evE T (callF T n) (.cmp .eq (.cmp .gt (.bin .mul (.var 1) (.var 1)) (.bin .mul (.bin .mul (.var 2) (.var 2)) (.var 3))) (.cmp .gt (.var 1) (.int 0))) [some (sd a b c d), some (.int a), some (.int b), some (.int d)] S = some (.bl (decide ((decide (b * b * d < a * a)) = (decide (0 < a)))), S) := by
        refine' e_cmp (e_cmp ?_ ?_ c_gt) (e_cmp ?_ ?_ c_gt) c_eqb <;> keq_rows <;> lcg_sub
      by_cases h3 : (decide (a * a > b * b * d)) = (decide (a > 0))
      · rw [if_pos h3]
        rw [decide_eq_true (show (decide (b * b * d < a * a)) = (decide (0 < a)) from h3)] at ecmp
        exact e_ite_t ecmp e_int
      · rw [if_neg h3]
        rw [decide_eq_false (show ¬ (decide (b * b * d < a * a)) = (decide (0 < a)) from h3)] at ecmp
        exact e_ite_f ecmp (e_neg e_int)
theorem c_surd_order {n : Nat} {B B' : Nat} {t t' : D} {v v' : Kd Q} (h : Rp Q B t v) (h' : Rp Q B' t' v') (hB : B + B' ≤ 3999) : ∃ s, callF T (n + 4) "surd_order" [t, t'] S = some (.int s, S) ∧ Sg s (v - v') := by
  obtain ⟨r, e1, k1⟩ := c_surd_turned (S := S) (n := n + 2) h'
  obtain ⟨r2, e2, k2⟩ := c_surd_sum (S := S) (n := n) h k1 (by omega)
  obtain ⟨s, e3, k3⟩ := c_surd_sign (S := S) (n := n + 2) k2 (by omega)
  refine ⟨s, callF_pure f_surd_order rfl (exSs_rt (s_ret (e_call (e_cons (e_call (e_cons (e_var rfl) (e_cons (e_call (e_cons (e_var rfl) e_nil) e1) e_nil)) e2) e_nil) e3))), ?_⟩
  have : v - v' = v + -v' := by grind
  rw [this]
  exact k3
theorem c_whole_part {n : Nat} {B : Nat} {t : D} {v : Kd Q} (h : Rp Q B t v) (hB : B ≤ 3900) : ∃ m : Int, callF T (n + 2) "whole_part" [t] S = some (.int m, S) ∧ (m : Kd Q) ≤ v ∧ v < (m : Kd Q) + 1 := by
  obtain ⟨a, b, c, d, rfl, h2, h3, za, zb, zc, hQ⟩ := h
  have p := h2.pos
  have zd : Sz 64 d := Nat.lt_of_le_of_lt h2.rad_le hQ
  have hd0 : 0 ≤ d := by rw [h2.rad]; split <;> omega
  have hn0 : 0 ≤ b * b * d := Int.mul_nonneg (by
    by_cases hb : 0 ≤ b
    · exact Int.mul_nonneg hb hb
    · exact Int.mul_nonneg_of_nonpos_of_nonpos (by omega) (by omega)) hd0
  obtain ⟨r, e1, q1, q2, q3⟩ := c_whole_root (S := S) (m := n) hn0 (((zb.mul zb).mul zd).mono (by omega))
  have hf := floor_ok h2 q1 q2 q3
  simp only [h3] at hf
  have hdv := div_sz p zc (by omega)
  refine' ⟨_, callF_pure f_whole_part rfl (exSs_nx (s_asg (e_var rfl) rfl) (exSs_nx (ρ1 := [some (sd a b c d), some (.int r), some (.int a), some (.int b), some (.int c), some (.int d)]) (s_asg (e_call (ds := [.int (b * b * d)]) ?_ e1) rfl) (exSs_rt (s_ret ?_)))), hf⟩
  · keq_rows <;> lcg_sub
  · by_cases hb : b ≥ 0
    · rw [if_pos hb]
      refine' e_ite_t (e_cmp (e_var rfl) e_int (c_ge_t hb)) ?_
      keq_rows
      exact hdv
    · rw [if_neg hb]
      refine' e_ite_f (e_cmp (e_var rfl) e_int (c_ge_f hb)) ?_
      keq_rows
      exact hdv
end L81
end

section
set_option maxHeartbeats 1000000
namespace L81
open PySem Mn
variable {S : So} {Q : NSq}
local macro_rules
  | `(tactic| keq_rows) => `(tactic| (repeat' (first
      | with_reducible exact e_int | with_reducible exact e_bl | with_reducible exact e_non | with_reducible exact e_str | with_reducible exact e_nil | with_reducible exact s_pass | with_reducible exact eo_none | with_reducible exact o_add | with_reducible exact o_sub | with_reducible exact c_eq | with_reducible exact c_lt | with_reducible exact c_le | with_reducible exact c_gt | with_reducible exact c_ge | with_reducible exact c_ne
      | ((with_reducible refine' ss_nl ?mnh); (case mnh => exact rfl)) | ((with_reducible refine' e_var ?mnh); (case mnh => exact rfl)) | ((with_reducible refine' asg_i ?mnh); (case mnh => exact rfl)) | ((with_reducible refine' at_i ?mnh); (case mnh => exact rfl)) | ((with_reducible refine' ty_i ?mnh); (case mnh => exact rfl)) | ((with_reducible refine' mv_i ?mnh); (case mnh => exact rfl)) | ((with_reducible refine' bi_i ?mnh); (case mnh => exact rfl)) | ((with_reducible refine' e_glob ?mnh); (case mnh => kernel_rfl)) | (with_reducible exact div_lit (by decide)) | ((with_reducible refine' len_i ?mnh); (case mnh => exact rfl))
      | with_reducible refine' exSs_rt (s_ret ?_) | with_reducible refine' exSs_nx (s_asg ?_ ?_) ?_ | with_reducible refine' exSs_nx (s_ex ?_) ?_ | with_reducible refine' exSs_nx (s_put ?_ ?_ ?_ ?_) ?_ | with_reducible refine' t_of ?_ | with_reducible refine' e_bin ?_ ?_ ?_ | with_reducible refine' e_neg ?_ | with_reducible refine' e_cons ?_ ?_ | with_reducible refine' e_tup ?_ ?_ | with_reducible refine' e_lst ?_ ?_ | with_reducible refine' e_ix ?_ ?_ ?_ | with_reducible refine' e_cmp ?_ ?_ ?_ | with_reducible refine' e_not ?_ | with_reducible refine' e_call ?_ ?_ | with_reducible refine' e_bi ?_ ?_ | with_reducible refine' e_me ?_ ?_ ?_ ?_ | with_reducible refine' eo_some ?_ | with_reducible refine' e_sl ?_ ?_ ?_ ?_ | with_reducible refine' e_rev ?_ ?_ | with_reducible refine' ix_tup ?_
      | (with_reducible refine' e_callk ?_ ?_ (by kernel_rfl) rfl ?_)
      | keq_hits
      | with_reducible refine' o_mul ?_ | with_reducible refine' o_fdiv ?_ | with_reducible refine' o_mod ?_)))
  | `(tactic| kas_types) => `(tactic| (repeat' (first
      | exact Sz.id (by assumption) | exact Sz.lit (n := 16) (by decide) | with_reducible refine' Sz.mul ?_ ?_ | with_reducible refine' Sz.add ?_ ?_ | with_reducible refine' Sz.sub ?_ ?_ | with_reducible refine' Sz.neg ?_ | with_reducible refine' Sz.div ?_)))
  | `(tactic| lcg_sub) => `(tactic| ((refine' mul_sz ?mza ?mzb ?mzc); (case mza => kas_types); (case mzb => kas_types); (case mzc => omega)))
structure Trial (n r s l p : Nat) : Prop where
  num : r * r * (s * l) = n
  r1 : 1 ≤ r
  s1 : 1 ≤ s
  l1 : 1 ≤ l
  p2 : 2 ≤ p
  no : ∀ q, 2 ≤ q → q < p → ¬ q ∣ l
  sq : Sqf s
  cop : ∀ q, Pr q → q ∣ s → ¬ q ∣ l
theorem sqf_one : Sqf 1 := fun p hp h => by
  have := Nat.le_of_dvd (by decide) h
  have h2 := Nat.mul_le_mul hp.1 hp.1
  omega
theorem Trial.start {n : Nat} (h : 1 ≤ n) : Trial n 1 1 n 2 := ⟨by omega, by omega, by omega, h, by omega, fun q h1 h2 => by omega, sqf_one, fun q hq hd => by
  have := Nat.le_of_dvd (by decide) hd
  have := hq.1
  omega⟩
theorem Trial.take {n r s l p k l' : Nat} (h : Trial n r s l p) (hl : l = p ^ k * l') (hn : ¬ p ∣ l') : Trial n (r * p ^ (k / 2)) (if k % 2 = 1 then s * p else s) l' p := by
  have hl1 : 1 ≤ l' := by
    rcases Nat.eq_zero_or_pos l' with e | e
    · rw [e] at hn; exact absurd (Nat.dvd_zero p) hn
    · exact e
  have hd : l' ∣ l := ⟨p ^ k, by rw [hl, Nat.mul_comm]⟩
  have hpp : k % 2 = 1 → Pr p ∧ ¬ p ∣ s := fun hk => by
    have hpl : p ∣ l := by
      rw [hl]
      refine Nat.dvd_mul_right_of_dvd ?_ l'
      have : k = (k - 1) + 1 := by omega
      rw [this, Nat.pow_succ]
      exact Nat.dvd_mul_left _ _
    have hp := pr_least h.p2 hpl h.no
    exact ⟨hp, fun hs => h.cop p hp hs hpl⟩
  have hpw : ∀ j, 1 ≤ p ^ j := fun j => Nat.pow_pos (by have := h.p2; omega)
  refine ⟨?_, Nat.mul_pos h.r1 (hpw _), ?_, hl1, h.p2, fun q h1 h2 h3 => h.no q h1 h2 (Nat.dvd_trans h3 hd), ?_, ?_⟩
  · rw [← h.num, hl]
    have hk : k = k / 2 + k / 2 + k % 2 := by omega
    by_cases h1 : k % 2 = 1
    · rw [if_pos h1]
      have e : p ^ k = p ^ (k / 2) * p ^ (k / 2) * p := by
        conv => lhs; rw [hk, h1]
        rw [Nat.pow_succ, Nat.pow_add]
      rw [e]
      generalize p ^ (k / 2) = z
      grind
    · rw [if_neg h1]
      have e : p ^ k = p ^ (k / 2) * p ^ (k / 2) := by
        conv => lhs; rw [hk, show k % 2 = 0 by omega]
        rw [Nat.add_zero, Nat.pow_add]
      rw [e]
      generalize p ^ (k / 2) = z
      grind
  · split
    · exact Nat.mul_pos h.s1 (by have := h.p2; omega)
    · exact h.s1
  · split
    · rename_i hk
      exact sqf_mul_pr h.sq (hpp hk).1 (hpp hk).2
    · exact h.sq
  · intro q hq hqs hql
    split at hqs
    · rename_i hk
      rcases pr_mul hq hqs with h1 | h1
      · exact h.cop q hq h1 (Nat.dvd_trans hql hd)
      · rcases (hpp hk).1.2 q h1 with e | e
        · have := hq.1; omega
        · rw [e] at hql; exact hn hql
    · exact h.cop q hq hqs (Nat.dvd_trans hql hd)
theorem Trial.next {n r s l p : Nat} (h : Trial n r s l p) (hn : ¬ p ∣ l) : Trial n r s l (p + 1) := ⟨h.num, h.r1, h.s1, h.l1, by have := h.p2; omega, fun q h1 h2 => by
  by_cases e : q = p
  · rw [e]; exact hn
  · exact h.no q h1 (by omega), h.sq, h.cop⟩
theorem Trial.next2 {n r s l p : Nat} (h : Trial n r s l p) (hn : ¬ p ∣ l) (ho : p % 2 = 1) : Trial n r s l (p + 2) := by
  refine (h.next hn).next fun hd => ?_
  have h2 : 2 ∣ l := Nat.dvd_trans ⟨(p + 1) / 2, by omega⟩ hd
  exact h.no 2 (Nat.le_refl _) (by have := h.p2; omega) h2
theorem Trial.done {n r s l p : Nat} (h : Trial n r s l p) (hp : l < p * p * p) {m : Nat} (h1 : m * m ≤ l) (h2 : l < (m + 1) * (m + 1)) :
    (m * m = l → (r * m) * (r * m) * s = n ∧ Sqf s) ∧ (m * m ≠ l → r * r * (s * l) = n ∧ Sqf (s * l)) := by
  constructor
  · intro e
    refine ⟨?_, h.sq⟩
    rw [← h.num, ← e]
    grind
  · intro e
    refine ⟨h.num, sqf_end h.sq h.l1 h.no h.cop hp fun j hj => e ?_⟩
    have : j = m := by
      rcases Nat.lt_trichotomy j m with k | k | k
      · have := Nat.mul_self_lt_mul_self k
        omega
      · exact k
      · have : (m + 1) * (m + 1) ≤ j * j := Nat.mul_self_le_mul_self k
        omega
    rw [← this]
    exact hj
abbrev en8 (n : Int) (a : Option D) (r s l p : Int) (o t : Option D) : En := [some (.int n), a, some (.int r), some (.int s), some (.int l), some (.int p), o, t]
theorem l_often {cf} {n r s : Int} {a t : Option D} {p : Nat} (hp : 2 ≤ p) (hpz : Sz 7000 (p : Int)) : ∀ (m l : Nat) (o : Nat), l = m → 1 ≤ l → ∃ k l' : Nat, exS T cf b_root_parts.tl.tl.hd.bd.tl.hd (en8 n a r s l p (some (.int (o : Int))) t) S = some (.nx (en8 n a r s (l' : Int) p (some (.int ((o + k : Nat) : Int))) t), S) ∧ l = p ^ k * l' ∧ ¬ p ∣ l' := by
  intro m
  induction m using Nat.strongRecOn with
  | ind m ih =>
    intro l o hm hl
    have pi : (0 : Int) < (p : Int) := by omega
    have em : (l : Int) % (p : Int) = ((l % p : Nat) : Int) := by simp
    by_cases hd : p ∣ l
    · obtain ⟨j, hj⟩ := hd
      have ed : l / p = j := by rw [hj]; exact Nat.mul_div_cancel_left _ (by omega)
      have ej : (l : Int) / (p : Int) = (j : Int) := by rw [← ed]; simp
      have hj1 : 1 ≤ j := by
        rcases Nat.eq_zero_or_pos j with h | h
        · rw [h] at hj; omega
        · exact h
      have hlt : j < l := by
        rw [hj]
        have : 2 * j ≤ p * j := Nat.mul_le_mul_right j hp
        omega
      obtain ⟨k, l', h1, h2, h3⟩ := ih j (by omega) j (o + 1) rfl hj1
      refine ⟨k + 1, l', ?_, by rw [hj, h2, Nat.pow_succ]; grind, h3⟩
      rw [show o + (k + 1) = o + 1 + k by omega]
      refine wh_go (t_of (e_cmp (e_bin (e_var rfl) (e_var rfl) (o_mod pi)) e_int (c_eq_t (by rw [em, hj]; simp)))) ?_ h1
      rw [← ej]
      keq_rows
      exact div_sz pi hpz (by decide)
    · refine ⟨0, l, wh_stop (t_of (e_cmp (e_bin (e_var rfl) (e_var rfl) (o_mod pi)) e_int (c_eq_f ?_))), by simp, hd⟩
      rw [em]
      intro k
      exact hd (Nat.dvd_of_mod_eq_zero (by omega))
theorem l_turns {cf} {n s l : Int} {a o : Option D} {p : Nat} (hpz : Sz 7000 (p : Int)) : ∀ (xs : List D) (r : Nat) (t : Option D), (∀ j, j ≤ xs.length → Sz 7000 ((r * p ^ j : Nat) : Int)) →
    ∃ t', forL none (fun x ρ S => (asgG (.nm 7) x ρ).bind fun ρ => exSs T cf b_root_parts.tl.tl.hd.bd.tl.tl.hd.bd ρ S) xs (en8 n a r s l p o t) S = some (.nx (en8 n a ((r * p ^ xs.length : Nat) : Int) s l p o t'), S)
  | [], r, t, _ => ⟨t, by simp [forL]⟩
  | x :: xs, r, t, h => by
    obtain ⟨t', h1⟩ := l_turns (cf := cf) (n := n) (s := s) (l := l) (a := a) (o := o) hpz xs (r * p) (some x) (fun j hj => by
      have := h (j + 1) (by simp; omega)
      rw [Nat.pow_succ] at this
      rw [Nat.mul_assoc, Nat.mul_comm p]
      exact this)
    refine ⟨t', ?_⟩
    have e : (forL none (fun x ρ S => (asgG (.nm 7) x ρ).bind fun ρ => exSs T cf b_root_parts.tl.tl.hd.bd.tl.tl.hd.bd ρ S) (x :: xs) (en8 n a r s l p o t) S) = forL none (fun x ρ S => (asgG (.nm 7) x ρ).bind fun ρ => exSs T cf b_root_parts.tl.tl.hd.bd.tl.tl.hd.bd ρ S) xs (en8 n a ((r * p : Nat) : Int) s l p o (some x)) S := by
      refine forL_cons_nx ?_ trivial
      show exSs T cf (.cons (.asg (.nm 2) (.bin .mul (.var 2) (.var 5))) .nil) (en8 n a r s l p o (some x)) S = _
      have hr := h 0 (by omega)
      simp only [Nat.pow_zero, Nat.mul_one] at hr
      rw [show ((r * p : Nat) : Int) = (r : Int) * (p : Int) by simp]
      keq_rows
      lcg_sub
    rw [e, h1, List.length_cons, Nat.pow_succ, Nat.mul_assoc, Nat.mul_comm p]
theorem Trial.le {n r s l p : Nat} (h : Trial n r s l p) : r ≤ n ∧ s ≤ n ∧ l ≤ n ∧ s * l ≤ n ∧ r * r ≤ n := by
  have h1 := h.r1
  have h2 := h.s1
  have h3 := h.l1
  have e := h.num
  have hsl : 1 ≤ s * l := Nat.mul_pos h2 h3
  have hrr : 1 ≤ r * r := Nat.mul_pos h1 h1
  have a1 : r * 1 ≤ r * r := Nat.mul_le_mul_left r h1
  have a2 : s * 1 ≤ s * l := Nat.mul_le_mul_left s h3
  have a3 : 1 * l ≤ s * l := Nat.mul_le_mul_right l h2
  have a4 : 1 * (s * l) ≤ r * r * (s * l) := Nat.mul_le_mul_right _ hrr
  have a5 : r * r * 1 ≤ r * r * (s * l) := Nat.mul_le_mul_left _ hsl
  omega
theorem nz {n m B : Nat} (h : Sz B (n : Int)) (hl : m ≤ n) : Sz B (m : Int) := by
  unfold Sz at *
  simp at *
  omega
theorem l_trial {cf} {n : Nat} (hz : Sz 6000 (n : Int)) : ∀ (m r s l p : Nat) (a o t : Option D), n + 4 - p = m → Trial n r s l p → (p = 2 ∨ p % 2 = 1) → p ≤ n + 3 →
    ∃ (r' s' l' p' : Nat) (o' t' : Option D), exS T cf b_root_parts.tl.tl.hd (en8 n a r s l p o t) S = some (.nx (en8 n a r' s' l' p' o' t'), S) ∧ Trial n r' s' l' p' ∧ l' < p' * p' * p' := by
  intro m
  induction m using Nat.strongRecOn with
  | ind m ih =>
    intro r s l p a o t hm hT ho hpn
    have p2 := hT.p2
    have pz : Sz 6002 (p : Int) := by
      unfold Sz at *
      simp at *
      have : 2 ^ 6002 = 4 * 2 ^ 6000 := by rw [show 6002 = 6000 + 2 by rfl, Nat.pow_add]; omega
      have : 2 ^ 2 ≤ 2 ^ 6000 := Nat.pow_le_pow_right (by decide) (by decide)
      omega
    obtain ⟨hr, hs, hl, hsl, hrr⟩ := hT.le
    have ec : ((p * p * p : Nat) : Int) = (p : Int) * (p : Int) * (p : Int) := by simp
    have hcube : ∀ k, cpV .le (.int ((p : Int) * (p : Int) * (p : Int))) (.int (l : Int)) S = some k → evT T cf (.cmp .le (.bin .mul (.bin .mul (.var 5) (.var 5)) (.var 5)) (.var 4)) (en8 n a r s l p o t) S = some (k, S) := fun k hk => by
      refine' t_of (e_cmp ?_ ?_ hk) <;> keq_rows <;> lcg_sub
    by_cases hc : p * p * p ≤ l
    · have hpl : p ≤ l := by
        have : p * 1 ≤ p * (p * p) := Nat.mul_le_mul_left p (Nat.mul_pos (by omega) (by omega))
        have e : p * (p * p) = p * p * p := by rw [Nat.mul_assoc]
        omega
      obtain ⟨k, l', h1, h2, h3⟩ := l_often (S := S) (cf := cf) (n := n) (r := r) (s := s) (a := a) (t := t) p2 (pz.mono (by decide)) l l 0 rfl hT.l1
      have hT2 := hT.take h2 h3
      obtain ⟨hr2, hs2, hl2, _⟩ := hT2.le
      have hk : k ≤ 6000 := by
        have h4 : p ^ k ≤ n := by
          have h5 : p ^ k * 1 ≤ p ^ k * l' := Nat.mul_le_mul_left _ hT2.l1
          omega
        have h6 : 2 ^ k ≤ p ^ k := Nat.pow_le_pow_left p2 k
        unfold Sz at hz
        simp at hz
        rcases Nat.lt_or_ge 6000 k with h7 | h7
        · have : 2 ^ 6000 ≤ 2 ^ k := Nat.pow_le_pow_right (by decide) (by omega)
          omega
        · exact h7
      have e0 : (0 + k : Nat) = k := by omega
      rw [e0] at h1
      have ek : ((k : Int) / 2).toNat = k / 2 := by omega
      obtain ⟨t2, h4⟩ := l_turns (S := S) (cf := cf) (n := n) (s := s) (l := l') (a := a) (o := some (.int k)) (pz.mono (by decide)) (rangeL 0 ((k : Int) / 2).toNat) r t (fun j hj => by
        rw [rangeL_length, ek] at hj
        refine (nz (m := r * p ^ j) hz ?_).mono (by decide)
        have : r * p ^ j ≤ r * p ^ (k / 2) := Nat.mul_le_mul_left r (Nat.pow_le_pow_right (by omega) hj)
        omega)
      rw [rangeL_length, ek] at h4
      have hodd : ∃ q : Nat, (p = 2 ∧ q = 3 ∨ p ≠ 2 ∧ q = p + 2) := by
        by_cases h : p = 2
        · exact ⟨3, .inl ⟨h, rfl⟩⟩
        · exact ⟨p + 2, .inr ⟨h, rfl⟩⟩
      obtain ⟨q, hq⟩ := hodd
      have hT3 : Trial n (r * p ^ (k / 2)) (if k % 2 = 1 then s * p else s) l' q := by
        rcases hq with ⟨e, e'⟩ | ⟨e, e'⟩
        · have := hT2.next h3
          rw [e'] 
          rw [e] at this ⊢
          exact this
        · rw [e']
          exact hT2.next2 h3 (ho.resolve_left e)
      obtain ⟨r', s', l2, p', o', t', k1, k2, k3⟩ := ih (n + 4 - q) (by omega) _ _ _ q a (some (.int k)) t2 rfl hT3 (by omega) (by omega)
      refine ⟨r', s', l2, p', o', t', ?_, k2, k3⟩
      refine wh_go (hcube true (c_le_t (by rw [← ec]; exact Int.ofNat_le.mpr hc))) ?_ k1
      refine exSs_nx (s_asg (d := .int 0) e_int rfl) (exSs_nx h1 (exSs_nx (s_fr (it_range1 (e_bin (e_var rfl) e_int (o_fdiv (div_lit (by decide)))) (by omega) (by omega)) h4) ?_))
      refine exSs_nx (ρ1 := en8 n a ((r * p ^ (k / 2) : Nat) : Int) ((if k % 2 = 1 then s * p else s : Nat) : Int) l' p (some (.int k)) t2) (S1 := S) (s_asg (d := .int ((if k % 2 = 1 then s * p else s : Nat) : Int)) ?_ rfl) (exSs_nx (ρ1 := en8 n a ((r * p ^ (k / 2) : Nat) : Int) ((if k % 2 = 1 then s * p else s : Nat) : Int) l' q (some (.int k)) t2) (S1 := S) (s_asg (d := .int (q : Int)) ?_ rfl) ss_nil)
      · by_cases h : k % 2 = 1
        · rw [if_pos h]
          refine e_ite_t (e_cmp (e_bin (e_var rfl) e_int (o_mod (by decide))) e_int (c_eq_t (by omega))) ?_
          rw [show ((s * p : Nat) : Int) = (s : Int) * (p : Int) by simp]
          have sz := nz (m := s) hz hs
          keq_rows
          lcg_sub
        · rw [if_neg h]
          exact e_ite_f (e_cmp (e_bin (e_var rfl) e_int (o_mod (by decide))) e_int (c_eq_f (by omega))) (e_var rfl)
      · rcases hq with ⟨e, e'⟩ | ⟨e, e'⟩
        · refine e_ite_t (e_cmp (e_var rfl) e_int (c_eq_t (by omega))) ?_
          rw [e', show ((3 : Nat) : Int) = (p : Int) + 1 by omega]
          keq_rows
        · refine e_ite_f (e_cmp (e_var rfl) e_int (c_eq_f (by omega))) ?_
          rw [e', show ((p + 2 : Nat) : Int) = (p : Int) + 2 by omega]
          keq_rows
    · refine ⟨r, s, l, p, o, t, wh_stop (hcube false (c_le_f ?_)), hT, by omega⟩
      rw [← ec]
      intro h
      exact hc (Int.ofNat_le.mp h)
theorem c_root_parts {m n : Nat} (h1 : 1 ≤ n) (hz : Sz 6000 (n : Int)) : ∃ r s : Nat, callF T (m + 2) "root_parts" [.int n] S = some (.tup [.int r, .int s], S) ∧ r * r * s = n ∧ Sqf s := by
  obtain ⟨r, s, l, p, o, t, e1, hT, hlt⟩ := l_trial (S := S) (cf := callF T (m + 1)) hz _ 1 1 n 2 none none none rfl (Trial.start h1) (.inl rfl) (by omega)
  obtain ⟨hr, hs, hl, hsl, hrr⟩ := hT.le
  have zl := nz (m := l) hz hl
  have zr := nz (m := r) hz hr
  have zs := nz (m := s) hz hs
  obtain ⟨x, e2, x0, x1, x2⟩ := c_whole_root (S := S) (m := m) (n := (l : Int)) (by omega) (zl.mono (by decide))
  have ex : x = (x.toNat : Int) := by omega
  generalize x.toNat = y at *
  subst ex
  have y1 : y * y ≤ l := by
    have : ((y * y : Nat) : Int) ≤ (l : Int) := by simpa using x1
    omega
  have y2 : l < (y + 1) * (y + 1) := by
    have : ((l : Nat) : Int) < (((y + 1) * (y + 1) : Nat) : Int) := by simpa using x2
    omega
  have zy : Sz 6000 (y : Int) := by
    refine nz hz (Nat.le_trans ?_ hl)
    have : y * 1 ≤ y * y ∨ y = 0 := by
      rcases Nat.eq_zero_or_pos y with h | h
      · exact .inr h
      · exact .inl (Nat.mul_le_mul_left y h)
    omega
  have hd := hT.done hlt y1 y2
  have hn0 : ¬ (n : Int) = 0 := by omega
  have start : ∀ {fl}, exSs T (callF T (m + 1)) b_root_parts.tl.tl.tl (en8 n none r s l p o t) S = some fl → exSs T (callF T (m + 1)) b_root_parts ([.int (n : Int)].map some ++ List.replicate (8 - 1) none) S = some fl := fun {fl} h => by
    refine exSs_nx (s_if_f (t_of (e_cmp (e_var rfl) e_int (c_eq_f hn0))) ss_nil) (exSs_nx (ρ1 := en8 n none 1 1 n 2 none none) (S1 := S) ?_ (exSs_nx e1 h))
    refine' s_asg ?_ ?_ <;> keq_rows
  have ey : ((y * y : Nat) : Int) = (y : Int) * (y : Int) := by simp
  by_cases h : y * y = l
  · refine ⟨r * y, s, callF_pure f_root_parts rfl (start ?_), (hd.1 h).1, (hd.1 h).2⟩
    refine exSs_nx (s_asg (e_call (e_cons (e_var rfl) e_nil) e2) rfl) (exSs_rt (s_if_t (t_of (e_cmp (e_bin (e_var rfl) (e_var rfl) (o_mul ?_)) (e_var rfl) (c_eq_t (by rw [← ey, h])))) (exSs_rt (s_ret (S1 := S) ?_))))
    · lcg_sub
    · rw [show ((r * y : Nat) : Int) = (r : Int) * (y : Int) by simp]
      keq_rows
      lcg_sub
  · refine ⟨r, s * l, callF_pure f_root_parts rfl (start ?_), (hd.2 h).1, (hd.2 h).2⟩
    refine exSs_nx (s_asg (e_call (e_cons (e_var rfl) e_nil) e2) rfl) (exSs_nx (s_if_f (t_of (e_cmp (e_bin (e_var rfl) (e_var rfl) (o_mul ?_)) (e_var rfl) (c_eq_f ?_))) ss_nil) (exSs_rt (s_ret ?_)))
    · lcg_sub
    · rw [← ey]
      omega
    · rw [show ((s * l : Nat) : Int) = (s : Int) * (l : Int) by simp]
      keq_rows
      lcg_sub
end L81
end

section
set_option maxHeartbeats 1000000
namespace L81
open PySem Mn
variable {S : So} {Q : NSq}
local macro_rules
  | `(tactic| keq_rows) => `(tactic| (repeat' (first
      | with_reducible exact e_int | with_reducible exact e_bl | with_reducible exact e_non | with_reducible exact e_str | with_reducible exact e_nil | with_reducible exact s_pass | with_reducible exact eo_none | with_reducible exact o_add | with_reducible exact o_sub | with_reducible exact c_eq | with_reducible exact c_lt | with_reducible exact c_le | with_reducible exact c_gt | with_reducible exact c_ge | with_reducible exact c_ne
      | ((with_reducible refine' ss_nl ?mnh); (case mnh => exact rfl)) | ((with_reducible refine' e_var ?mnh); (case mnh => exact rfl)) | ((with_reducible refine' asg_i ?mnh); (case mnh => exact rfl)) | ((with_reducible refine' at_i ?mnh); (case mnh => exact rfl)) | ((with_reducible refine' ty_i ?mnh); (case mnh => exact rfl)) | ((with_reducible refine' mv_i ?mnh); (case mnh => exact rfl)) | ((with_reducible refine' bi_i ?mnh); (case mnh => exact rfl)) | ((with_reducible refine' e_glob ?mnh); (case mnh => kernel_rfl)) | (with_reducible exact div_lit (by decide)) | ((with_reducible refine' len_i ?mnh); (case mnh => exact rfl))
      | with_reducible refine' exSs_rt (s_ret ?_) | with_reducible refine' exSs_nx (s_asg ?_ ?_) ?_ | with_reducible refine' exSs_nx (s_ex ?_) ?_ | with_reducible refine' exSs_nx (s_put ?_ ?_ ?_ ?_) ?_ | with_reducible refine' t_of ?_ | with_reducible refine' e_bin ?_ ?_ ?_ | with_reducible refine' e_neg ?_ | with_reducible refine' e_cons ?_ ?_ | with_reducible refine' e_tup ?_ ?_ | with_reducible refine' e_lst ?_ ?_ | with_reducible refine' e_ix ?_ ?_ ?_ | with_reducible refine' e_cmp ?_ ?_ ?_ | with_reducible refine' e_not ?_ | with_reducible refine' e_call ?_ ?_ | with_reducible refine' e_bi ?_ ?_ | with_reducible refine' e_me ?_ ?_ ?_ ?_ | with_reducible refine' eo_some ?_ | with_reducible refine' e_sl ?_ ?_ ?_ ?_ | with_reducible refine' e_rev ?_ ?_ | with_reducible refine' ix_tup ?_
      | (with_reducible refine' e_callk ?_ ?_ (by kernel_rfl) rfl ?_)
      | keq_hits
      | with_reducible refine' o_mul ?_ | with_reducible refine' o_fdiv ?_ | with_reducible refine' o_mod ?_)))
  | `(tactic| kas_types) => `(tactic| (repeat' (first
      | exact Sz.id (by assumption) | exact Sz.lit (n := 16) (by decide) | with_reducible refine' Sz.mul ?_ ?_ | with_reducible refine' Sz.add ?_ ?_ | with_reducible refine' Sz.sub ?_ ?_ | with_reducible refine' Sz.neg ?_ | with_reducible refine' Sz.div ?_)))
  | `(tactic| lcg_sub) => `(tactic| ((refine' mul_sz ?mza ?mzb ?mzc); (case mza => kas_types); (case mzb => kas_types); (case mzc => omega)))
local macro_rules | `(tactic| keq_hits) => `(tactic| with_reducible refine' c_common ?_ ?_)
theorem Rp.shrink {B B' : Nat} {t : D} {v : Kd Q} (h : Rp Q B t v) {x y z : Int} (hz : z ≠ 0) (e : vl Q x y z = v) (sx : Sz B' x) (sy : Sz B' y) (sz : Sz B' z) : Rp Q B' t v := by
  have key : ∀ {x y z : Int}, 0 < z → vl Q x y z = v → Sz B' x → Sz B' y → Sz B' z → Rp Q B' t v := by
    intro x y z hz e sx sy sz
    obtain ⟨a, b, c, d, rfl, h2, h3, za, zb, zc, hQ⟩ := h
    obtain ⟨k1, k2, k3, k4, k5⟩ := low_ok (Q := Q) (a := x) (b := y) (c := z) (d := Q.d) hz (.inr rfl)
    obtain ⟨e1, e2, e3, e4⟩ := h2.uniq k1 (h3.trans (e.symm.trans k2.symm))
    refine ⟨a, b, c, d, rfl, h2, h3, sx.le (by rw [e1]; exact k3), sy.le (by rw [e2]; exact k4), sz.le (by rw [e3]; exact k5), hQ⟩
  by_cases hp : 0 < z
  · exact key hp e sx sy sz
  · exact key (x := -x) (y := -y) (z := -z) (by omega) (by rw [vl_neg hz]; exact e) sx.neg sy.neg sz.neg
theorem rp_int {B : Nat} {k : Int} (hk : Sz B k) (hB : 1 ≤ B) (hQ : Q.d < 2 ^ 64) : Rp Q B (sd k 0 1 0) (k : Kd Q) := by
  have one : Sz B 1 := (Sz.lit (n := 1) (by decide)).mono hB
  refine ⟨k, 0, 1, 0, rfl, ⟨by decide, by simp, by simp⟩, ?_, hk, (Sz.lit (n := 1) (by decide) : Sz 1 0).mono hB, one, hQ⟩
  unfold vl
  rw [Kd.c0, Kd.c1]
  grind
def Rw (row : List Int) : Prop := ∀ t ∈ row, 1 ≤ t ∧ t ≤ 9
theorem Rw.ps {row : List Int} (h : Rw row) : Ps row := fun t k => (h t k).1
theorem Rw.tl {t : Int} {w : List Int} (h : Rw (t :: w)) : Rw w := fun u k => h u (List.mem_cons_of_mem _ k)
theorem Rw.sz {t : Int} {w : List Int} (h : Rw (t :: w)) : Sz 4 t := by
  have := h t List.mem_cons_self
  unfold Sz
  omega
theorem tabF_sz : ∀ {w : List Int} {a b c d : Int} {B : Nat}, Rw w → Sz B a → Sz B b → Sz B c → Sz B d →
    Sz (B + 5 * w.length) (tabF w a b c d).1 ∧ Sz (B + 5 * w.length) (tabF w a b c d).2.1 ∧ Sz (B + 5 * w.length) (tabF w a b c d).2.2.1 ∧ Sz (B + 5 * w.length) (tabF w a b c d).2.2.2
  | [], a, b, c, d, B, _, h1, h2, h3, h4 => ⟨h1, h2, h3, h4⟩
  | t :: w, a, b, c, d, B, hw, h1, h2, h3, h4 => by
    have ht := hw.sz
    have := tabF_sz (w := w) (a := b) (b := a + b * t) (c := d) (d := c + d * t) (B := B + 5) hw.tl (h2.mono (by omega)) ((h1.add (h2.mul ht)).mono (by omega)) (h4.mono (by omega)) ((h3.add (h4.mul ht)).mono (by omega))
    simp only [tabF, List.length_cons]
    rw [show B + 5 * (w.length + 1) = B + 5 + 5 * w.length by omega]
    exact this
theorem l_lf {cf} {R : D} : ∀ (w : List Int) (a b c d : Int) (B : Nat) (t : Option D), Rw w → Sz B a → Sz B b → Sz B c → Sz B d → B + 5 * w.length ≤ 9000 →
    ∃ t', forL none (fun x ρ S => (asgG (.nm 1) x ρ).bind fun ρ => exSs T cf b_last_fractions.tl.hd.bd ρ S) (w.map D.int) [some R, t, some (.tup [.int a, .int c]), some (.tup [.int b, .int d])] S =
      some (.nx [some R, t', some (.tup [.int (tabF w a b c d).1, .int (tabF w a b c d).2.2.1]), some (.tup [.int (tabF w a b c d).2.1, .int (tabF w a b c d).2.2.2])], S)
  | [], a, b, c, d, B, t, _, _, _, _, _, _ => ⟨t, by simp only [List.map_nil, forL, tabF]⟩
  | u :: w, a, b, c, d, B, t, hw, h1, h2, h3, h4, hB => by
    have hu := hw.sz
    rw [List.length_cons] at hB
    obtain ⟨t', k⟩ := l_lf (cf := cf) (R := R) w b (a + b * u) d (c + d * u) (B + 5) (some (.int u)) hw.tl (h2.mono (by omega)) ((h1.add (h2.mul hu)).mono (by omega)) (h4.mono (by omega)) ((h3.add (h4.mul hu)).mono (by omega)) (by omega)
    refine ⟨t', ?_⟩
    rw [List.map_cons, forL_cons_nx (w := none) (ρ1 := [some R, some (.int u), some (.tup [.int b, .int d]), some (.tup [.int (u * b + a), .int (u * d + c)])]) (S1 := S) ?_ trivial]
    · rw [show u * b + a = a + b * u by rw [Int.mul_comm, Int.add_comm], show u * d + c = c + d * u by rw [Int.mul_comm, Int.add_comm]]
      exact k
    · show exSs T cf (.cons (.asg (.tp [(.nm 2), (.nm 3)]) (.tup (.cons (.var 3) (.cons (.tup (.cons (.bin .add (.bin .mul (.var 1) (.ix (.var 3) (.int 0))) (.ix (.var 2) (.int 0))) (.cons (.bin .add (.bin .mul (.var 1) (.ix (.var 3) (.int 1))) (.ix (.var 2) (.int 1))) .nil))) .nil)))) .nil) [some R, some (.int u), some (.tup [.int a, .int c]), some (.tup [.int b, .int d])] S = _
      keq_rows
      · lcg_sub
      · lcg_sub
theorem c_last_fractions {n : Nat} {row : List Int} (h : Rw row) (hl : row.length ≤ 1000) : callF T (n + 1) "last_fractions" [.tup (row.map D.int)] S = some (.tup [.tup [.int (tab row).1, .int (tab row).2.2.1], .tup [.int (tab row).2.1, .int (tab row).2.2.2]], S) := by
  obtain ⟨t, k⟩ := l_lf (S := S) (cf := callF T n) (R := .tup (row.map D.int)) row 1 0 0 1 1 none h (Sz.lit (by decide)) (Sz.lit (by decide)) (Sz.lit (by decide)) (Sz.lit (by decide)) (by omega)
  refine callF_pure f_last_fractions rfl (exSs_nx (ρ1 := [some (.tup (row.map D.int)), none, some (.tup [.int 1, .int 0]), some (.tup [.int 0, .int 1])]) (S1 := S) ?_ (exSs_nx (s_fr (it_exT (e_var rfl)) k) ?_))
  · refine' s_asg ?_ ?_ <;> keq_rows
  · refine' exSs_rt (s_ret ?_)
    keq_rows
theorem act_frac {w : List Int} {x : Kd Q} (hp : Ps w) (hx : 0 < x) : 0 < ((tab w).2.2.2 : Kd Q) + ((tab w).2.2.1 : Kd Q) * x ∧ (((tab w).2.1 : Kd Q) + ((tab w).1 : Kd Q) * x) * (1 / (((tab w).2.2.2 : Kd Q) + ((tab w).2.2.1 : Kd Q) * x)) = act w x := by
  have k := tab_act hp hx
  have hpos : 0 < ((tab w).2.2.2 : Kd Q) + ((tab w).2.2.1 : Kd Q) * x := by
    cases w with
    | nil =>
      have e1 : ((tab []).2.2.2 : Kd Q) = 1 := Kd.c1
      have e2 : ((tab []).2.2.1 : Kd Q) = 0 := Kd.c0
      rw [e1, e2]
      grind
    | cons t w =>
      obtain ⟨_, _, p3, p4⟩ := tab_pos hp
      have h1 := c_one_le (Q := Q) p3
      have h2 := c_one_le (Q := Q) p4
      have := mul_pos' (show 0 < ((tab (t :: w)).2.2.1 : Kd Q) by grind) hx
      grind
  refine ⟨hpos, ?_⟩
  generalize hz : ((tab w).2.2.2 : Kd Q) + ((tab w).2.2.1 : Kd Q) * x = z at *
  have e : act w x * z = ((tab w).2.1 : Kd Q) + ((tab w).1 : Kd Q) * x := by rw [← hz]; grind
  rw [← e]
  have hz0 : z ≠ 0 := by grind
  grind
theorem shaped_nil {S : So} : True := trivial
end L81
end

section
set_option maxHeartbeats 1000000
namespace Mn
open Kd
variable {Q : NSq}
theorem NSq.one_le (Q : NSq) : 1 ≤ Q.d := by
  rcases Nat.eq_zero_or_pos Q.d with h | h
  · exact absurd h.symm (Q.ns 0)
  · exact h
def Own (Q : NSq) (row : List Int) : Prop := ∃ m : Nat, 1 ≤ m ∧ dsc row = (m : Int) * m * (Q.d : Int)
theorem tabF_det : ∀ (w : List Int) (a b c d : Int), (tabF w a b c d).1 * (tabF w a b c d).2.2.2 - (tabF w a b c d).2.1 * (tabF w a b c d).2.2.1 = a * d - b * c ∨ (tabF w a b c d).1 * (tabF w a b c d).2.2.2 - (tabF w a b c d).2.1 * (tabF w a b c d).2.2.1 = -(a * d - b * c)
  | [], _, _, _, _ => .inl rfl
  | t :: w, a, b, c, d => by
    have := tabF_det w b (a + b * t) d (c + d * t)
    simp only [tabF]
    rcases this with h | h
    · right; rw [h]; grind
    · left; rw [h]; grind
theorem dsc_ns {t : Int} {w : List Int} (hp : Ps (t :: w)) (k : Int) : k * k ≠ dsc (t :: w) := by
  intro h
  obtain ⟨p1, _, _, p4⟩ := tab_pos hp
  have h4 := (dsc_pos hp).2
  have hdet := tabF_det (t :: w) 1 0 0 1
  rw [← h] at h4
  unfold dsc at h
  unfold tab at *
  generalize (tabF (t :: w) 1 0 0 1).1 = a at *
  generalize (tabF (t :: w) 1 0 0 1).2.1 = b at *
  generalize (tabF (t :: w) 1 0 0 1).2.2.1 = c at *
  generalize (tabF (t :: w) 1 0 0 1).2.2.2 = d at *
  have key : ∀ k : Int, 0 ≤ k → k * k = (a - d) * (a - d) + 4 * b * c → False := by
    intro k hk h
    generalize hT : a + d = T at *
    have hT1 : 1 ≤ T := by omega
    have e : (a - d) * (a - d) + 4 * b * c = T * T - 4 * (a * d - b * c) := by rw [← hT]; grind
    rcases hdet with h1 | h1
    · have e2 : k * k = T * T - 4 := by rw [h, e, h1]; grind
      have e4 : 4 ≤ k * k := by
        have := (dsc_pos hp).2
        rw [h]
        unfold dsc tab at this
        omega
      have hk2 : 2 ≤ k := by
        rcases Int.lt_or_le k 2 with h | h
        · have : k = 0 ∨ k = 1 := by omega
          rcases this with rfl | rfl <;> omega
        · exact h
      have hlt : k < T := by
        rcases Int.lt_or_le k T with h | h
        · exact h
        · have := Int.mul_le_mul h h (by omega) (by omega)
          omega
      have h5 : (k + 1) * (k + 1) ≤ T * T := Int.mul_le_mul (by omega) (by omega) (by omega) (by omega)
      have h6 : (k + 1) * (k + 1) = k * k + 2 * k + 1 := by grind
      by_cases hk3 : k + 1 = T
      · have : T * T = k * k + 2 * k + 1 := by rw [← hk3]; exact h6
        omega
      · have h7 : (k + 2) * (k + 2) ≤ T * T := Int.mul_le_mul (by omega) (by omega) (by omega) (by omega)
        have h8 : (k + 2) * (k + 2) = k * k + 4 * k + 4 := by grind
        omega
    · have e2 : k * k = T * T + 4 := by rw [h, e, h1]; grind
      have hlt : T < k := by
        rcases Int.lt_or_le T k with h | h
        · exact h
        · have := Int.mul_le_mul h h hk (by omega)
          omega
      have h6 : (T + 1) * (T + 1) = T * T + 2 * T + 1 := by grind
      by_cases hk3 : T + 1 = k
      · have : k * k = T * T + 2 * T + 1 := by rw [← hk3]; exact h6
        omega
      · have h7 : (T + 2) * (T + 2) ≤ k * k := Int.mul_le_mul (by omega) (by omega) (by omega) (by omega)
        have h8 : (T + 2) * (T + 2) = T * T + 4 * T + 4 := by grind
        omega
  by_cases hk : 0 ≤ k
  · exact key k hk h
  · exact key (-k) (by omega) (by rw [← h]; grind)
theorem ns_of_sqf {n : Nat} (h : Sqf n) (h1 : n ≠ 1) (h0 : n ≠ 0) : ∀ m : Nat, m * m ≠ n := by
  intro m e
  by_cases hm : m = 1
  · rw [hm] at e; omega
  · by_cases hm0 : m = 0
    · rw [hm0] at e; omega
    · obtain ⟨p, hp, k, hk⟩ := pr_ex m (by omega)
      exact h p hp ⟨k * k, by rw [← e, hk]; grind⟩
theorem Own.irr {t : Int} {w : List Int} {s : Kd Q} (hp : Ps (t :: w)) (h : Own Q (t :: w)) (hf : Fix (t :: w) s) : cj s ≠ s := by
  obtain ⟨m, hm, hd⟩ := h
  have hs := Fix.uniq hp hf (fix_formula hp hm hd)
  obtain ⟨_, _, p3, _⟩ := tab_pos hp
  intro hc
  have e := vl_mul (Q := Q) (a := (tab (t :: w)).1 - (tab (t :: w)).2.2.2) (b := m) (c := 2 * (tab (t :: w)).2.2.1) (by omega)
  rw [← hs] at e
  have e2 := congrArg cj e
  rw [cj_mul, hc, cj_int, e, cj_add, cj_mul, cj_int, cj_int] at e2
  have e3 : cj (rt Q) = -rt Q := by unfold cj rt; ext <;> simp
  rw [e3] at e2
  have h1 := mul_pos' (cpos.mpr (show (0 : Int) < (m : Int) by omega)) (rt_pos (Q := Q))
  grind
theorem own_of_fix {t : Int} {w : List Int} {s : Kd Q} (hp : Ps (t :: w)) (hf : Fix (t :: w) s) (hi : cj s ≠ s) (hQ : Sqf Q.d) : Own Q (t :: w) := by
  unfold Own
  have q := hf.quad hp
  obtain ⟨_, _, p3, _⟩ := tab_pos hp
  have h4 := (dsc_pos hp).2
  have hdsc : ((dsc (t :: w) : Int) : Kd Q) = (2 * ((tab (t :: w)).2.2.1 : Kd Q) * s + ((tab (t :: w)).2.2.2 : Kd Q) - ((tab (t :: w)).1 : Kd Q)) * (2 * ((tab (t :: w)).2.2.1 : Kd Q) * s + ((tab (t :: w)).2.2.2 : Kd Q) - ((tab (t :: w)).1 : Kd Q)) := by
    unfold dsc
    simp only [cadd, cmul, csub]
    have f4 : ((4 : Int) : Kd Q) = 4 := rfl
    rw [f4]
    grind
  have hne : cj (2 * ((tab (t :: w)).2.2.1 : Kd Q) * s + ((tab (t :: w)).2.2.2 : Kd Q) - ((tab (t :: w)).1 : Kd Q)) ≠ 2 * ((tab (t :: w)).2.2.1 : Kd Q) * s + ((tab (t :: w)).2.2.2 : Kd Q) - ((tab (t :: w)).1 : Kd Q) := by
    have e : 2 * ((tab (t :: w)).2.2.1 : Kd Q) * s + ((tab (t :: w)).2.2.2 : Kd Q) - ((tab (t :: w)).1 : Kd Q) = ((2 * (tab (t :: w)).2.2.1 : Int) : Kd Q) * s + (((tab (t :: w)).2.2.2 - (tab (t :: w)).1 : Int) : Kd Q) := by
      rw [cmul, csub]
      have f2 : ((2 : Int) : Kd Q) = 2 := rfl
      rw [f2]
      grind
    rw [e, cj_add, cj_mul, cj_int, cj_int]
    intro h
    apply hi
    have h2 := cne (Q := Q) (a := 2 * (tab (t :: w)).2.2.1) (by omega)
    have h3 : ((2 * (tab (t :: w)).2.2.1 : Int) : Kd Q) * (cj s - s) = 0 := by grind
    have := Kd.mul_inv h2
    have : ((2 * (tab (t :: w)).2.2.1 : Int) : Kd Q)⁻¹ * (((2 * (tab (t :: w)).2.2.1 : Int) : Kd Q) * (cj s - s)) = 0 := by rw [h3]; grind
    grind
  generalize 2 * ((tab (t :: w)).2.2.1 : Kd Q) * s + ((tab (t :: w)).2.2.2 : Kd Q) - ((tab (t :: w)).1 : Kd Q) = z at *
  generalize dsc (t :: w) = n at *
  have hx := congrArg Kd.x hdsc
  have hy := congrArg Kd.y hdsc
  simp at hx hy
  have zy : z.y ≠ 0 := fun h => hne (by unfold cj; ext <;> simp [h])
  have zx : z.x = 0 := by
    have : z.x * z.y = 0 := by grind
    rcases Rat.mul_eq_zero.mp this with h | h
    · exact h
    · exact absurd h zy
  rw [zx] at hx
  have e1 : (z.y.num : Rat) / ((z.y.den : Int) : Rat) = z.y := by rw [← Rat.divInt_eq_div, Rat.num_divInt_den]
  have hden : ((z.y.den : Int) : Rat) ≠ 0 := by
    have := z.y.den_nz
    intro h
    exact this (by have := Rat.intCast_inj.mp (h.trans (by rfl : (0 : Rat) = ((0 : Int) : Rat))); omega)
  have hk : (Q.d : Rat) * (z.y.num : Rat) * (z.y.num : Rat) = (n : Rat) * ((z.y.den : Int) : Rat) * ((z.y.den : Int) : Rat) := by
    rw [hx]
    have e2 : (z.y.num : Rat) = z.y * ((z.y.den : Int) : Rat) := by
      have : (z.y.num : Rat) / ((z.y.den : Int) : Rat) * ((z.y.den : Int) : Rat) = z.y * ((z.y.den : Int) : Rat) := by rw [e1]
      grind
    rw [e2]
    grind
  have hk2 : (Q.d : Int) * z.y.num * z.y.num = n * (z.y.den : Int) * (z.y.den : Int) := by
    apply Rat.intCast_inj.mp
    simp only [Rat.intCast_mul, Rat.intCast_natCast] at hk ⊢
    exact hk
  have en : n = (n.toNat : Int) := by omega
  obtain ⟨k, u, f1, f2, f3⟩ := sqf_ex n.toNat (by omega)
  have hk3 : z.y.num.natAbs * z.y.num.natAbs * Q.d = (k * z.y.den) * (k * z.y.den) * u := by
    have e : (((z.y.num.natAbs * z.y.num.natAbs * Q.d : Nat)) : Int) = (((k * z.y.den) * (k * z.y.den) * u : Nat) : Int) := by
      rw [en, f1] at hk2
      simp only [Int.natCast_mul] at hk2 ⊢
      have : ((z.y.num.natAbs : Int)) * (z.y.num.natAbs : Int) = z.y.num * z.y.num := Int.natAbs_mul_self
      grind
    exact Int.ofNat.inj e
  have hnum : 1 ≤ z.y.num.natAbs := by
    rcases Nat.eq_zero_or_pos z.y.num.natAbs with h | h
    · exfalso
      apply zy
      rw [← e1, show z.y.num = 0 by omega]
      simp
      grind
    · exact h
  obtain ⟨_, g⟩ := sqf_uniq _ _ _ _ hnum (Nat.mul_pos f3 (by have := z.y.den_nz; omega)) hQ f2 hk3
  refine ⟨k, f3, ?_⟩
  rw [en, f1, g]
  simp
end Mn
end

section
set_option maxHeartbeats 1000000
namespace L81
open PySem Mn
variable {S : So} {Q : NSq}
local macro_rules
  | `(tactic| keq_rows) => `(tactic| (repeat' (first
      | with_reducible exact e_int | with_reducible exact e_bl | with_reducible exact e_non | with_reducible exact e_str | with_reducible exact e_nil | with_reducible exact s_pass | with_reducible exact eo_none | with_reducible exact o_add | with_reducible exact o_sub | with_reducible exact c_eq | with_reducible exact c_lt | with_reducible exact c_le | with_reducible exact c_gt | with_reducible exact c_ge | with_reducible exact c_ne
      | ((with_reducible refine' ss_nl ?mnh); (case mnh => exact rfl)) | ((with_reducible refine' e_var ?mnh); (case mnh => exact rfl)) | ((with_reducible refine' asg_i ?mnh); (case mnh => exact rfl)) | ((with_reducible refine' at_i ?mnh); (case mnh => exact rfl)) | ((with_reducible refine' ty_i ?mnh); (case mnh => exact rfl)) | ((with_reducible refine' mv_i ?mnh); (case mnh => exact rfl)) | ((with_reducible refine' bi_i ?mnh); (case mnh => exact rfl)) | ((with_reducible refine' e_glob ?mnh); (case mnh => kernel_rfl)) | (with_reducible exact div_lit (by decide)) | ((with_reducible refine' len_i ?mnh); (case mnh => exact rfl))
      | with_reducible refine' exSs_rt (s_ret ?_) | with_reducible refine' exSs_nx (s_asg ?_ ?_) ?_ | with_reducible refine' exSs_nx (s_ex ?_) ?_ | with_reducible refine' exSs_nx (s_put ?_ ?_ ?_ ?_) ?_ | with_reducible refine' t_of ?_ | with_reducible refine' e_bin ?_ ?_ ?_ | with_reducible refine' e_neg ?_ | with_reducible refine' e_cons ?_ ?_ | with_reducible refine' e_tup ?_ ?_ | with_reducible refine' e_lst ?_ ?_ | with_reducible refine' e_ix ?_ ?_ ?_ | with_reducible refine' e_cmp ?_ ?_ ?_ | with_reducible refine' e_not ?_ | with_reducible refine' e_call ?_ ?_ | with_reducible refine' e_bi ?_ ?_ | with_reducible refine' e_me ?_ ?_ ?_ ?_ | with_reducible refine' eo_some ?_ | with_reducible refine' e_sl ?_ ?_ ?_ ?_ | with_reducible refine' e_rev ?_ ?_ | with_reducible refine' ix_tup ?_
      | (with_reducible refine' e_callk ?_ ?_ (by kernel_rfl) rfl ?_)
      | keq_hits
      | with_reducible refine' o_mul ?_ | with_reducible refine' o_fdiv ?_ | with_reducible refine' o_mod ?_)))
  | `(tactic| kas_types) => `(tactic| (repeat' (first
      | exact Sz.id (by assumption) | exact Sz.lit (n := 16) (by decide) | with_reducible refine' Sz.mul ?_ ?_ | with_reducible refine' Sz.add ?_ ?_ | with_reducible refine' Sz.sub ?_ ?_ | with_reducible refine' Sz.neg ?_ | with_reducible refine' Sz.div ?_)))
  | `(tactic| lcg_sub) => `(tactic| ((refine' mul_sz ?mza ?mzb ?mzc); (case mza => kas_types); (case mzb => kas_types); (case mzc => omega)))
local macro_rules | `(tactic| keq_hits) => `(tactic| with_reducible refine' c_common ?_ ?_)
def Tld (Q : NSq) : Prop := Sqf Q.d ∧ Q.d < 2 ^ 64
theorem tab_sz {w : List Int} (h : Rw w) : Sz (1 + 5 * w.length) (tab w).1 ∧ Sz (1 + 5 * w.length) (tab w).2.1 ∧ Sz (1 + 5 * w.length) (tab w).2.2.1 ∧ Sz (1 + 5 * w.length) (tab w).2.2.2 := tabF_sz h (Sz.lit (by decide)) (Sz.lit (by decide)) (Sz.lit (by decide)) (Sz.lit (by decide))
theorem own_parts {a b c d g A B C : Int} {m r u : Nat} (hb : 1 ≤ b) (hc : 1 ≤ c) (hg : 0 < g) (eA : c = g * A) (eB : d - a = g * B) (eC : -b = g * C) (hm : 1 ≤ m)
    (hd : (a - d) * (a - d) + 4 * b * c = (m : Int) * m * (Q.d : Int)) (hQ : Sqf Q.d) (hr : (r : Int) * r * u = B * B - 4 * A * C) (hu : Sqf u) : u = Q.d ∧ vl Q (-B) r (2 * A) = vl Q (a - d) m (2 * c) := by
  have eg : g = (g.toNat : Int) := by omega
  generalize g.toNat = G at *
  subst eg
  have e1 : ((G * r) * (G * r) * u : Int) = (m : Int) * m * (Q.d : Int) := by
    rw [← hd]
    have : (G : Int) * G * ((r : Int) * r * u) = (a - d) * (a - d) + 4 * b * c := by
      rw [hr]
      have e : (a - d) * (a - d) = (d - a) * (d - a) := by grind
      rw [e, eB, eA]
      have : b = -(G * C) := by omega
      rw [this]
      grind
    rw [← this]
    grind
  have e2 : (G * r) * (G * r) * u = m * m * Q.d := by
    have : (((G * r) * (G * r) * u : Nat) : Int) = ((m * m * Q.d : Nat) : Int) := by simpa using e1
    exact Int.ofNat.inj this
  have hr1 : 1 ≤ r := by
    rcases Nat.eq_zero_or_pos r with h | h
    · exfalso
      rw [h] at e2
      have : 1 * 1 * 1 ≤ m * m * Q.d := Nat.mul_le_mul (Nat.mul_le_mul hm hm) (NSq.one_le Q)
      simp at e2
      omega
    · exact h
  obtain ⟨f1, f2⟩ := sqf_uniq (G * r) m u Q.d (Nat.mul_pos (by omega) hr1) hm hu hQ e2
  refine ⟨f2, ?_⟩
  have hA : A ≠ 0 := fun h => by rw [h] at eA; omega
  rw [vl_eq (by omega) (by omega)]
  have f3 : (m : Int) = G * r := by rw [← f1]; simp
  have f4 : a - d = -(G * B) := by omega
  rw [f3, f4, eA]
  constructor <;> grind
abbrev chn (a w : List Int) : D := .tup [.tup (a.map D.int), .tup (w.map D.int)]
theorem int_gcd_dvd {a b c : Int} (h : c ≠ 0) : ∃ A B C : Int, 0 < (Int.gcd (Int.gcd a b) c : Int) ∧ a = (Int.gcd (Int.gcd a b) c : Int) * A ∧ b = (Int.gcd (Int.gcd a b) c : Int) * B ∧ c = (Int.gcd (Int.gcd a b) c : Int) * C := by
  have h1 : (Int.gcd (Int.gcd a b) c : Int) ∣ (Int.gcd a b : Int) := Int.gcd_dvd_left _ _
  obtain ⟨A, hA⟩ := Int.dvd_trans h1 (Int.gcd_dvd_left a b)
  obtain ⟨B, hB⟩ := Int.dvd_trans h1 (Int.gcd_dvd_right a b)
  obtain ⟨C, hC⟩ := Int.gcd_dvd_right (Int.gcd a b : Int) c
  have : 0 < Int.gcd (Int.gcd a b) c := Int.gcd_pos_of_ne_zero_right _ h
  exact ⟨A, B, C, by omega, hA, hB, hC⟩
theorem l_round {n : Nat} {t : Int} {w : List Int} {s : Kd Q} {x y : D} (hw : Rw (t :: w)) (hl : (t :: w).length ≤ 12) (hf : Fix (t :: w) s) (ho : Own Q (t :: w)) (hQ : Tld Q) :
    ∃ v ρ, exS T (callF T (n + 4)) b_slope_of.tl.tl.hd [some x, some (sd 0 0 1 0), none, none, some y, some (.tup ((t :: w).map D.int)), none, none, none, none, none, none, none, none, none, none] S = some (.nx ([some x, some v, none, none, some y, some (.tup ((t :: w).map D.int))] ++ ρ), S) ∧ ρ.length = 10 ∧ Rp Q 70 v s := by
  obtain ⟨m, hm, hd⟩ := ho
  obtain ⟨_, p2, p3, _⟩ := tab_pos hw.ps
  obtain ⟨z1, z2, z3, z4⟩ := tab_sz hw
  have hs := Fix.uniq hw.ps hf (fix_formula hw.ps hm hd)
  have ef := c_last_fractions (S := S) (n := n + 3) hw (by omega)
  unfold dsc at hd
  replace z1 := z1.mono (show 1 + 5 * (t :: w).length ≤ 61 by omega)
  replace z2 := z2.mono (show 1 + 5 * (t :: w).length ≤ 61 by omega)
  replace z3 := z3.mono (show 1 + 5 * (t :: w).length ≤ 61 by omega)
  replace z4 := z4.mono (show 1 + 5 * (t :: w).length ≤ 61 by omega)
  generalize (tab (t :: w)).1 = a at *
  generalize (tab (t :: w)).2.1 = b at *
  generalize (tab (t :: w)).2.2.1 = c at *
  generalize (tab (t :: w)).2.2.2 = d at *
  obtain ⟨A, B, C, g0, eA, eB, eb⟩ := int_gcd_dvd (a := c) (b := d - a) (c := b) (by omega)
  have eg : Int.gcd (Int.gcd c (if d - a < 0 then -(d - a) else d - a)) b = Int.gcd (Int.gcd c (d - a)) b := by
    congr 2
    split <;> simp
  generalize hg : (Int.gcd (Int.gcd c (d - a)) b : Int) = g at *
  have zg : Sz 61 g := z2.le (by
    rw [← hg, Int.natAbs_natCast]
    exact Int.gcd_le_natAbs_right _ (by omega))
  have gd := div_sz g0 zg (by decide)
  have qA : c / g = A := by rw [eA]; exact Int.mul_ediv_cancel_left _ (by omega)
  have qB : (d - a) / g = B := by rw [eB]; exact Int.mul_ediv_cancel_left _ (by omega)
  have qC : -b / g = -C := by rw [eb, show -(g * C) = g * (-C) by grind]; exact Int.mul_ediv_cancel_left _ (by omega)
  have zA : Sz 61 A := by rw [← qA]; exact z3.div
  have zB : Sz 62 B := by rw [← qB]; exact (z4.sub z1).div
  have zC : Sz 61 (-C) := by rw [← qC]; exact z2.neg.div
  have hA1 : 1 ≤ A := by
    have : 0 < g * A := by omega
    have := Int.pos_of_mul_pos_right this (by omega)
    omega
  have hC1 : 1 ≤ C := by
    have : 0 < g * C := by omega
    have := Int.pos_of_mul_pos_right this (by omega)
    omega
  have zn : Sz 130 (B * B - 4 * A * -C) := ((zB.mul zB).sub (((Sz.lit (n := 3) (by decide)).mul zA).mul zC)).mono (by decide)
  have hn1 : 1 ≤ B * B - 4 * A * -C := by
    have h1 : 0 < A * C := Int.mul_pos (by omega) (by omega)
    have h2 : 0 ≤ B * B := by
      by_cases h : 0 ≤ B
      · exact Int.mul_nonneg h h
      · exact Int.mul_nonneg_of_nonpos_of_nonpos (by omega) (by omega)
    have : 4 * A * -C = -(4 * (A * C)) := by grind
    omega
  have en : B * B - 4 * A * -C = ((B * B - 4 * A * -C).toNat : Int) := by omega
  obtain ⟨r, u, e2, e3, e4⟩ := c_root_parts (S := S) (m := n + 2) (n := (B * B - 4 * A * -C).toNat) (by omega) (by rw [← en]; exact zn.mono (by decide))
  rw [← en] at e2
  have er : (r : Int) * r * u = B * B - 4 * A * -C := by
    rw [en, ← e3]
    simp
  obtain ⟨f1, f2⟩ := own_parts (Q := Q) (C := -C) p2 p3 g0 eA eB (by rw [eb]; grind) hm hd hQ.1 er e4
  have zr : Sz 130 (r : Int) := by
    refine nz (n := (B * B - 4 * A * -C).toNat) (by rw [← en]; exact zn) ?_
    rw [← e3]
    have hu1 : 1 ≤ u := by rw [f1]; exact NSq.one_le Q
    have : r * 1 ≤ r * (r * u) ∨ r = 0 := by
      rcases Nat.eq_zero_or_pos r with h | h
      · exact .inr h
      · exact .inl (Nat.mul_le_mul_left r (Nat.mul_pos h hu1))
    rcases this with h | h
    · rw [Nat.mul_assoc]; omega
    · rw [h]; simp
  obtain ⟨v, e5, e6⟩ := c_lowest (S := S) (n := n + 2) (Q := Q) (a := -B) (b := r) (c := 2 * A) (d := u) (B := 130) (by omega) (.inr (by rw [f1])) (by decide) (zB.neg.mono (by decide)) zr (((Sz.lit (n := 2) (by decide)).mul zA).mono (by decide)) hQ.2
  have zm : Sz 63 (m : Int) := by
    have zd : Sz 126 ((a - d) * (a - d) + 4 * b * c) := ((((z1.sub z4).mul (z1.sub z4))).add (((Sz.lit (n := 3) (by decide)).mul z2).mul z3)).mono (by decide)
    rw [hd] at zd
    unfold Sz at *
    have h1 := NSq.one_le Q
    have e : ((m : Int) * m * (Q.d : Int)).natAbs = m * m * Q.d := by simp [Int.natAbs_mul]
    rw [e] at zd
    rw [Int.natAbs_natCast]
    have h2 : m * m * 1 ≤ m * m * Q.d := Nat.mul_le_mul_left _ h1
    rcases Nat.lt_or_ge m (2 ^ 63) with h | h
    · exact h
    · have := Nat.mul_le_mul h h
      have e2 : (2 : Nat) ^ 63 * 2 ^ 63 = 2 ^ 126 := by decide
      omega
  have hv : Rp Q 70 v s := by
    rw [f2, ← hs] at e6
    exact e6.shrink (x := a - d) (y := m) (z := 2 * c) (by omega) hs.symm ((z1.sub z4).mono (by decide)) (zm.mono (by decide)) (((Sz.lit (n := 2) (by decide)).mul z3).mono (by decide))
  refine ⟨v, [some (.int g), some (.int A), some (.int B), some (.int (-C)), some (.int r), some (.int u), some (.int a), some (.int c), some (.int b), some (.int d)], ?_, rfl, hv⟩
  refine s_if_t (t_of (e_cmp (e_var rfl) (e_tup e_nil (by decide)) c_ne0_t)) ?_
  refine exSs_nx (s_asg (e_call (e_cons (e_var rfl) e_nil) ef) rfl) ?_
  refine exSs_nx (ρ1 := [some x, some (sd 0 0 1 0), none, none, some y, some (.tup ((t :: w).map D.int)), some (.int g), none, none, none, none, none, some (.int a), some (.int c), some (.int b), some (.int d)]) (S1 := S) ?_ ?_
  · refine s_asg (d := .int g) ?_ rfl
    rw [← hg, ← eg]
    keq_rows
    · omega
    · exact abs_nn (d - a)
    · omega
    · omega
  refine exSs_nx (ρ1 := [some x, some (sd 0 0 1 0), none, none, some y, some (.tup ((t :: w).map D.int)), some (.int g), some (.int A), some (.int B), some (.int (-C)), none, none, some (.int a), some (.int c), some (.int b), some (.int d)]) (S1 := S) ?_ ?_
  · rw [← qA, ← qB, ← qC]
    refine' s_asg ?_ ?_ <;> (keq_rows) <;> exact gd
  refine exSs_nx (s_asg (e_call (ds := [.int (B * B - 4 * A * -C)]) ?_ e2) rfl) ?_
  · keq_rows
    · lcg_sub
    · lcg_sub
    · lcg_sub
  refine exSs_nx (s_asg (e_call (ds := [.int (-B), .int r, .int (2 * A), .int u]) ?_ e5) rfl) ss_nil
  · keq_rows
    lcg_sub
theorem rp_i {n : Nat} {B : Nat} {k : Int} (hk : Sz B k) (hB : 1 ≤ B) (hQ : Tld Q) : Rp Q B (sd k 0 1 0) (k : Kd Q) := rp_int hk hB hQ.2
theorem c_slope_of {n : Nat} {u w : List Int} {t : Int} {s : Kd Q} (hu : Rw u) (hul : u.length ≤ 12) (hw : Rw (t :: w)) (hl : (t :: w).length ≤ 12) (hf : Fix (t :: w) s) (ho : Own Q (t :: w)) (hQ : Tld Q) :
    ∃ r, callF T (n + 5) "slope_of" [chn u (t :: w)] S = some (r, S) ∧ Rp Q 1000 r (act u s) := by
  obtain ⟨v, ρ, e1, hρ, hv⟩ := l_round (S := S) (n := n) (x := chn u (t :: w)) (y := .tup (u.map D.int)) hw hl hf ho hQ
  obtain ⟨z1, z2, z3, z4⟩ := tab_sz hu
  have ef := c_last_fractions (S := S) (n := n + 3) hu (by omega)
  obtain ⟨a1, a2⟩ := act_frac hu.ps hf.1
  replace z1 := z1.mono (show 1 + 5 * u.length ≤ 61 by omega)
  replace z2 := z2.mono (show 1 + 5 * u.length ≤ 61 by omega)
  replace z3 := z3.mono (show 1 + 5 * u.length ≤ 61 by omega)
  replace z4 := z4.mono (show 1 + 5 * u.length ≤ 61 by omega)
  generalize (tab u).1 = a at *
  generalize (tab u).2.1 = b at *
  generalize (tab u).2.2.1 = c at *
  generalize (tab u).2.2.2 = d at *
  obtain ⟨p1, f1, g1⟩ := c_surd_times (S := S) (n := n + 1) (rp_i (n := 0) z1 (by decide) hQ) hv (by decide)
  obtain ⟨p2, f2, g2⟩ := c_surd_sum (S := S) (n := n + 1) (rp_i (n := 0) z2 (by decide) hQ) g1 (by decide)
  obtain ⟨p3, f3, g3⟩ := c_surd_times (S := S) (n := n + 1) (rp_i (n := 0) z3 (by decide) hQ) hv (by decide)
  obtain ⟨p4, f4, g4⟩ := c_surd_sum (S := S) (n := n + 1) (rp_i (n := 0) z4 (by decide) hQ) g3 (by decide)
  obtain ⟨p5, f5, g5⟩ := c_surd_back (S := S) (n := n + 1) g4 (by grind) (by decide)
  obtain ⟨p6, f6, g6⟩ := c_surd_times (S := S) (n := n + 1) g2 g5 (by decide)
  rw [a2] at g6
  refine ⟨p6, callF_pure f_slope_of rfl ?_, g6.mono (by decide)⟩
  refine exSs_nx (s_asg (e_var rfl) rfl) ?_
  refine exSs_nx (ρ1 := [some (chn u (t :: w)), some (sd 0 0 1 0), none, none, some (.tup (u.map D.int)), some (.tup ((t :: w).map D.int)), none, none, none, none, none, none, none, none, none, none]) (S1 := S) ?_ ?_
  · refine' s_asg ?_ ?_ <;> keq_rows
  refine exSs_nx e1 ?_
  match ρ, hρ with
  | [q1, q2, q3, q4, q5, q6, q7, q8, q9, q10], _ =>
    refine exSs_nx (s_asg (e_call (e_cons (e_var rfl) e_nil) ef) rfl) ?_
    refine' exSs_nx (s_asg (e_call (ds := [sd b 0 1 0, p1]) (S1 := S) ?_ f2) rfl) ?_
    · refine' e_cons ?_ (e_cons (e_call (ds := [sd a 0 1 0, v]) (S1 := S) ?_ f1) e_nil) <;> keq_rows
    refine' exSs_nx (s_asg (e_call (ds := [sd d 0 1 0, p3]) (S1 := S) ?_ f4) rfl) ?_
    · refine' e_cons ?_ (e_cons (e_call (ds := [sd c 0 1 0, v]) (S1 := S) ?_ f3) e_nil) <;> keq_rows
    exact exSs_rt (s_ret (e_call (e_cons (e_var rfl) (e_cons (e_call (e_cons (e_var rfl) e_nil) f5) e_nil)) f6))
end L81
end

section
set_option maxHeartbeats 1000000
namespace L81
open PySem Mn
variable {S : So} {Q : NSq}
local macro_rules
  | `(tactic| keq_rows) => `(tactic| (repeat' (first
      | with_reducible exact e_int | with_reducible exact e_bl | with_reducible exact e_non | with_reducible exact e_str | with_reducible exact e_nil | with_reducible exact s_pass | with_reducible exact eo_none | with_reducible exact o_add | with_reducible exact o_sub | with_reducible exact c_eq | with_reducible exact c_lt | with_reducible exact c_le | with_reducible exact c_gt | with_reducible exact c_ge | with_reducible exact c_ne
      | ((with_reducible refine' ss_nl ?mnh); (case mnh => exact rfl)) | ((with_reducible refine' e_var ?mnh); (case mnh => exact rfl)) | ((with_reducible refine' asg_i ?mnh); (case mnh => exact rfl)) | ((with_reducible refine' at_i ?mnh); (case mnh => exact rfl)) | ((with_reducible refine' ty_i ?mnh); (case mnh => exact rfl)) | ((with_reducible refine' mv_i ?mnh); (case mnh => exact rfl)) | ((with_reducible refine' bi_i ?mnh); (case mnh => exact rfl)) | ((with_reducible refine' e_glob ?mnh); (case mnh => kernel_rfl)) | (with_reducible exact div_lit (by decide)) | ((with_reducible refine' len_i ?mnh); (case mnh => exact rfl))
      | with_reducible refine' exSs_rt (s_ret ?_) | with_reducible refine' exSs_nx (s_asg ?_ ?_) ?_ | with_reducible refine' exSs_nx (s_ex ?_) ?_ | with_reducible refine' exSs_nx (s_put ?_ ?_ ?_ ?_) ?_ | with_reducible refine' t_of ?_ | with_reducible refine' e_bin ?_ ?_ ?_ | with_reducible refine' e_neg ?_ | with_reducible refine' e_cons ?_ ?_ | with_reducible refine' e_tup ?_ ?_ | with_reducible refine' e_lst ?_ ?_ | with_reducible refine' e_ix ?_ ?_ ?_ | with_reducible refine' e_cmp ?_ ?_ ?_ | with_reducible refine' e_not ?_ | with_reducible refine' e_call ?_ ?_ | with_reducible refine' e_bi ?_ ?_ | with_reducible refine' e_me ?_ ?_ ?_ ?_ | with_reducible refine' eo_some ?_ | with_reducible refine' e_sl ?_ ?_ ?_ ?_ | with_reducible refine' e_rev ?_ ?_ | with_reducible refine' ix_tup ?_
      | (with_reducible refine' e_callk ?_ ?_ (by kernel_rfl) rfl ?_)
      | keq_hits
      | with_reducible refine' o_mul ?_ | with_reducible refine' o_fdiv ?_ | with_reducible refine' o_mod ?_)))
  | `(tactic| kas_types) => `(tactic| (repeat' (first
      | exact Sz.id (by assumption) | exact Sz.lit (n := 16) (by decide) | with_reducible refine' Sz.mul ?_ ?_ | with_reducible refine' Sz.add ?_ ?_ | with_reducible refine' Sz.sub ?_ ?_ | with_reducible refine' Sz.neg ?_ | with_reducible refine' Sz.div ?_)))
  | `(tactic| lcg_sub) => `(tactic| ((refine' mul_sz ?mza ?mzb ?mzc); (case mza => kas_types); (case mzb => kas_types); (case mzc => omega)))
local macro_rules | `(tactic| keq_hits) => `(tactic| with_reducible refine' c_common ?_ ?_)
theorem c_mirrored {n : Nat} {u w : List Int} : callF T (n + 1) "mirrored_chain" [chn u w] S = some (chn [] w.reverse, S) := by
  refine callF_pure f_mirrored_chain rfl ?_
  rw [show chn [] w.reverse = .tup [.tup [], .tup (w.map D.int).reverse] by rw [← List.map_reverse]; rfl]
  refine exSs_rt (s_ret (e_tup (e_cons (e_tup e_nil (by decide)) (e_cons (e_rev (e_ix (e_var rfl) e_int (ix_tup rfl)) rfl) e_nil)) (len_i rfl)))
def tm (u w : List Int) (i : Nat) : Int := (if i < u.length then u[i]? else w[(i - u.length) % w.length]?).getD 0
theorem len_map {xs : List Int} : biV .len [.tup (xs.map D.int)] S = some (.int xs.length, S) := by
  simp [biV, itemsOf]
theorem c_term_of {n : Nat} {u w : List Int} {i : Nat} (hw : w ≠ []) : callF T (n + 1) "term_of" [chn u w, .int i] S = some (.int (tm u w i), S) := by
  have hl : 0 < w.length := by
    cases w with
    | nil => exact absurd rfl hw
    | cons _ _ => simp
  refine callF_pure f_term_of rfl (exSs_nx (s_asg (e_var rfl) rfl) (exSs_rt (s_ret ?_)))
  unfold tm
  by_cases h : i < u.length
  · rw [if_pos h]
    refine e_ite_t (e_cmp (e_var rfl) (e_bi (e_cons (e_var rfl) e_nil) len_map) (c_lt_t (by omega))) (e_ix (e_var rfl) (e_var rfl) (ix_tup ?_))
    rw [at_nat]
    simp [h]
  · rw [if_neg h]
    refine e_ite_f (e_cmp (e_var rfl) (e_bi (e_cons (e_var rfl) e_nil) len_map) (c_lt_f (by omega))) (e_ix (e_var rfl) (e_bin (e_bin (e_var rfl) (e_bi (e_cons (e_var rfl) e_nil) len_map) o_sub) (e_bi (e_cons (e_var rfl) e_nil) len_map) (o_mod (by omega))) (ix_tup ?_))
    have e : ((i : Int) - u.length) % w.length = (((i - u.length) % w.length : Nat) : Int) := by
      rw [← Int.ofNat_sub (by omega)]
      simp
    rw [e, at_nat]
    have hm := Nat.mod_lt (i - u.length) hl
    simp [hm]
theorem tm_bd {u w : List Int} (hu : Rw u) (hw : Rw w) (h0 : w ≠ []) (i : Nat) : 1 ≤ tm u w i ∧ tm u w i ≤ 9 := by
  have hl : 0 < w.length := by
    cases w with
    | nil => exact absurd rfl h0
    | cons _ _ => simp
  unfold tm
  by_cases h : i < u.length
  · rw [if_pos h, List.getElem?_eq_getElem h]
    exact hu _ (List.getElem_mem h)
  · rw [if_neg h]
    have hm := Nat.mod_lt (i - u.length) hl
    rw [List.getElem?_eq_getElem hm]
    exact hw _ (List.getElem_mem hm)
def stp (f : Nat → Int) : Nat → Int × Int
  | 0 => (1, 0)
  | j + 1 => (f j * (stp f j).1 + (stp f j).2, (stp f j).1)
def st (f : Nat → Int) (j : Nat) : Int := (stp f j).1
theorem stp_bd {f : Nat → Int} (h : ∀ i, 1 ≤ f i ∧ f i ≤ 9) : ∀ j, 1 ≤ (stp f j).1 ∧ 0 ≤ (stp f j).2 ∧ (stp f j).1 ≤ 10 ^ j ∧ (stp f j).2 ≤ (stp f j).1
  | 0 => by simp [stp]
  | j + 1 => by
    obtain ⟨h1, h2, h3, h4⟩ := stp_bd h j
    obtain ⟨k1, k2⟩ := h j
    simp only [stp]
    have e1 : 1 * (stp f j).1 ≤ f j * (stp f j).1 := Int.mul_le_mul_of_nonneg_right k1 (by omega)
    have e2 : f j * (stp f j).1 ≤ 9 * (stp f j).1 := Int.mul_le_mul_of_nonneg_right k2 (by omega)
    rw [Int.pow_succ]
    omega
theorem stp_sz {f : Nat → Int} (h : ∀ i, 1 ≤ f i ∧ f i ≤ 9) (j : Nat) : Sz (4 * j + 1) (stp f j).1 ∧ Sz (4 * j + 1) (stp f j).2 := by
  obtain ⟨h1, h2, h3, h4⟩ := stp_bd h j
  have e : (10 : Int) ^ j = ((10 ^ j : Nat) : Int) := by simp
  rw [e] at h3
  have e2 : 10 ^ j ≤ 2 ^ (4 * j) := by
    rw [Nat.pow_mul]
    exact Nat.pow_le_pow_left (by decide) j
  unfold Sz
  rw [Nat.pow_succ]
  have : 0 < 2 ^ (4 * j) := Nat.pow_pos (by decide)
  constructor <;> omega
abbrev stL (f : Nat → Int) (k : Nat) : List D := (List.range (k + 1)).map fun j => .int (st f j)
theorem stL_succ (f : Nat → Int) (k : Nat) : stL f (k + 1) = stL f k ++ [.int (st f (k + 1))] := by
  unfold stL
  rw [List.range_succ, List.map_append]
  rfl
theorem l_steps {n : Nat} {u w : List Int} {x : D} (hu : Rw u) (hw : Rw w) (h0 : w ≠ []) : ∀ (k j : Nat) (a b : Option D), j + k ≤ 900 →
    ∃ a' b', forL none (fun x ρ S => (asgG (.nm 2) x ρ).bind fun ρ => exSs T (callF T (n + 1)) b_steps_to.tl.hd.bd ρ S) (rangeL (j : Int) k) [some (chn u w), some x, a, some (.ref S.length), some (.int (stp (tm u w) j).2), b] (S ++ [.lst (stL (tm u w) j)]) =
      some (.nx [some (chn u w), some x, a', some (.ref S.length), some (.int (stp (tm u w) (j + k)).2), b'], S ++ [.lst (stL (tm u w) (j + k))])
  | 0, j, a, b, _ => ⟨a, b, rfl⟩
  | k + 1, j, a, b, hk => by
    obtain ⟨a', b', e⟩ := l_steps (n := n) (x := x) hu hw h0 k (j + 1) (some (.int j)) (some (.int (stp (tm u w) j).2)) (by omega)
    refine ⟨a', b', ?_⟩
    rw [rangeL_succ, forL_cons_nx (w := none) (ρ1 := [some (chn u w), some x, some (.int j), some (.ref S.length), some (.int (stp (tm u w) (j + 1)).2), some (.int (stp (tm u w) j).2)]) (S1 := S ++ [.lst (stL (tm u w) (j + 1))]) ?_ trivial]
    · rw [show j + (k + 1) = j + 1 + k by omega]
      exact e
    · have hl : stL (tm u w) j = (List.range j).map (fun j => D.int (st (tm u w) j)) ++ [.int (stp (tm u w) j).1] := by
        unfold stL
        rw [List.range_succ, List.map_append]
        rfl
      have hb := stp_sz (tm_bd hu hw h0) j
      have ht : Sz 4 (tm u w j) := by
        have := tm_bd hu hw h0 j
        unfold Sz
        omega
      refine exSs_nx (ρ1 := [some (chn u w), some x, some (.int j), some (.ref S.length), some (.int (stp (tm u w) j).1), some (.int (stp (tm u w) j).2)]) (S1 := S ++ [.lst (stL (tm u w) j)]) ?_ (exSs_nx (S1 := S ++ [.lst (stL (tm u w) (j + 1))]) ?_ ss_nil)
      · refine s_asg (d := .tup [.int (stp (tm u w) j).1, .int (stp (tm u w) j).2]) (e_tup (e_cons (e_ix (e_var rfl) (e_neg e_int) ?_) (e_cons (e_var rfl) e_nil)) (len_i rfl)) rfl
        rw [hl]
        exact ix_last
      · rw [stL_succ]
        refine s_app rfl (e_bin (e_bin (e_call (e_cons (e_var rfl) (e_cons (e_var rfl) e_nil)) (c_term_of h0)) (e_var rfl) (o_mul (mul_sz ht hb.1 (by omega)))) (e_var rfl) o_add) ?_
        simp [stL]
        omega
theorem c_steps_to {n : Nat} {u w : List Int} {k : Nat} (hu : Rw u) (hw : Rw w) (h0 : w ≠ []) (hk : k ≤ 900) : callF T (n + 2) "steps_to" [chn u w, .int k] S = some (.ref S.length, S ++ [.lst (stL (tm u w) k)]) := by
  obtain ⟨a', b', e⟩ := l_steps (S := S) (n := n) (x := .int (k : Int)) hu hw h0 k 0 none none (by omega)
  rw [Nat.zero_add] at e
  rw [callF_of f_steps_to rfl (d := .ref S.length) (S1 := S ++ [.lst (stL (tm u w) k)]) ?_, gc_new]
  refine exSs_nx (ρ1 := [some (chn u w), some (.int k), none, some (.ref S.length), some (.int 0), none]) (S1 := S ++ [.lst [.int 1]]) ?_ (exSs_nx (s_fr (it_range1 (j := (k : Int)) (e_var rfl) (by omega) (by omega)) (by rw [Int.toNat_natCast]; exact e)) (exSs_rt (s_ret (e_var rfl))))
  · refine s_asg (e_tup (e_cons (e_lst (e_cons e_int e_nil) (by decide)) (e_cons e_int e_nil)) (len_i rfl)) rfl
theorem stL_at {f : Nat → Int} {k j : Nat} (h : j ≤ k) : L2.atI (stL f k) (j : Int) = some (.int (st f j)) := by
  rw [at_nat]
  unfold stL
  rw [List.getElem?_map, List.getElem?_range (by omega)]
  rfl
def lo (x y : Int) : D := .tup [.int (x / (Nat.gcd x.natAbs y.natAbs : Nat)), .int (y / (Nat.gcd x.natAbs y.natAbs : Nat))]
theorem c_step_power {n : Nat} {u w : List Int} {k : Nat} (hu : Rw u) (hw : Rw w) (h0 : w ≠ []) (hk : k ≤ 800) :
    callF T (n + 3) "step_power" [chn u w, .int k] S = some (lo (st (tm u w) (k + 1) + 2 * st (tm u w) k - 2) (st (tm u w) k), S) := by
  have e1 := c_steps_to (S := S) (n := n) (k := k + 1) hu hw h0 (by omega)
  have hb := stp_sz (tm_bd hu hw h0) k
  have hp := stp_bd (tm_bd hu hw h0) k
  have hg0 : 0 < Nat.gcd (st (tm u w) (k + 1) + 2 * st (tm u w) k - 2).natAbs (st (tm u w) k).natAbs := Nat.gcd_pos_of_pos_right _ (by have := hp.1; unfold st; omega)
  have hgz : Sz (4 * k + 1) ((Nat.gcd (st (tm u w) (k + 1) + 2 * st (tm u w) k - 2).natAbs (st (tm u w) k).natAbs : Nat) : Int) := hb.1.le (by
    rw [Int.natAbs_natCast]
    exact Nat.gcd_le_right _ (by have := hp.1; show 0 < (stp (tm u w) k).1.natAbs; omega))
  unfold lo
  have z2 : Sz 2 2 := Sz.lit (by decide)
  have hb1 : Sz (4 * k + 1) (st (tm u w) k) := hb.1
  generalize hA : st (tm u w) (k + 1) + 2 * st (tm u w) k - 2 = A at *
  generalize hG : Nat.gcd A.natAbs (st (tm u w) k).natAbs = G at *
  have gd := div_sz (by omega) hgz (by omega)
  rw [callF_of f_step_power rfl (d := .tup [.int (A / (G : Nat)), .int (st (tm u w) k / (G : Nat))]) (S1 := S ++ [.lst (stL (tm u w) (k + 1))]) ?_, gc_app rfl]
  refine exSs_nx (s_asg (e_call (ds := [chn u w, .int ((k + 1 : Nat) : Int)]) (e_cons (e_var rfl) (e_cons (e_bin (e_var rfl) e_int rfl) e_nil)) e1) rfl) ?_
  refine exSs_nx (ρ1 := [some (chn u w), some (.int k), some (.ref S.length), none, some (.int A), some (.int (st (tm u w) k))]) (S1 := S ++ [.lst (stL (tm u w) (k + 1))]) ?_ ?_
  · rw [← hA]
    refine s_asg (e_tup (e_cons (e_bin (e_bin (e_ix (e_var rfl) (e_bin (e_var rfl) e_int o_add) (ix_new (stL_at (j := k + 1) (by omega)))) (e_bin e_int (e_ix (e_var rfl) (e_var rfl) (ix_new (stL_at (j := k) (by omega)))) (o_mul (mul_sz z2 hb1 (by omega)))) o_add) e_int o_sub) (e_cons (e_ix (e_var rfl) (e_var rfl) (ix_new (stL_at (j := k) (by omega)))) e_nil)) (len_i rfl)) rfl
  refine exSs_nx (ρ1 := [some (chn u w), some (.int k), some (.ref S.length), some (.int G), some (.int A), some (.int (st (tm u w) k))]) (S1 := S ++ [.lst (stL (tm u w) (k + 1))]) ?_ ?_
  · rw [← hG]
    exact s_asg (e_bi (e_cons (e_var rfl) (e_cons (e_var rfl) e_nil)) rfl) rfl
  · refine exSs_rt (s_ret (e_tup (e_cons (e_bin (e_var rfl) (e_var rfl) (o_fdiv gd)) (e_cons (e_bin (e_var rfl) (e_var rfl) (o_fdiv gd)) e_nil)) (len_i rfl)))
end L81
end

section
set_option maxHeartbeats 1000000
namespace L81
open PySem Mn
variable {S : So} {Q : NSq}
local macro_rules
  | `(tactic| keq_rows) => `(tactic| (repeat' (first
      | with_reducible exact e_int | with_reducible exact e_bl | with_reducible exact e_non | with_reducible exact e_str | with_reducible exact e_nil | with_reducible exact s_pass | with_reducible exact eo_none | with_reducible exact o_add | with_reducible exact o_sub | with_reducible exact c_eq | with_reducible exact c_lt | with_reducible exact c_le | with_reducible exact c_gt | with_reducible exact c_ge | with_reducible exact c_ne
      | ((with_reducible refine' ss_nl ?mnh); (case mnh => exact rfl)) | ((with_reducible refine' e_var ?mnh); (case mnh => exact rfl)) | ((with_reducible refine' asg_i ?mnh); (case mnh => exact rfl)) | ((with_reducible refine' at_i ?mnh); (case mnh => exact rfl)) | ((with_reducible refine' ty_i ?mnh); (case mnh => exact rfl)) | ((with_reducible refine' mv_i ?mnh); (case mnh => exact rfl)) | ((with_reducible refine' bi_i ?mnh); (case mnh => exact rfl)) | ((with_reducible refine' e_glob ?mnh); (case mnh => kernel_rfl)) | (with_reducible exact div_lit (by decide)) | ((with_reducible refine' len_i ?mnh); (case mnh => exact rfl))
      | with_reducible refine' exSs_rt (s_ret ?_) | with_reducible refine' exSs_nx (s_asg ?_ ?_) ?_ | with_reducible refine' exSs_nx (s_ex ?_) ?_ | with_reducible refine' exSs_nx (s_put ?_ ?_ ?_ ?_) ?_ | with_reducible refine' t_of ?_ | with_reducible refine' e_bin ?_ ?_ ?_ | with_reducible refine' e_neg ?_ | with_reducible refine' e_cons ?_ ?_ | with_reducible refine' e_tup ?_ ?_ | with_reducible refine' e_lst ?_ ?_ | with_reducible refine' e_ix ?_ ?_ ?_ | with_reducible refine' e_cmp ?_ ?_ ?_ | with_reducible refine' e_not ?_ | with_reducible refine' e_call ?_ ?_ | with_reducible refine' e_bi ?_ ?_ | with_reducible refine' e_me ?_ ?_ ?_ ?_ | with_reducible refine' eo_some ?_ | with_reducible refine' e_sl ?_ ?_ ?_ ?_ | with_reducible refine' e_rev ?_ ?_ | with_reducible refine' ix_tup ?_
      | (with_reducible refine' e_callk ?_ ?_ (by kernel_rfl) rfl ?_)
      | keq_hits
      | with_reducible refine' o_mul ?_ | with_reducible refine' o_fdiv ?_ | with_reducible refine' o_mod ?_)))
  | `(tactic| kas_types) => `(tactic| (repeat' (first
      | exact Sz.id (by assumption) | exact Sz.lit (n := 16) (by decide) | with_reducible refine' Sz.mul ?_ ?_ | with_reducible refine' Sz.add ?_ ?_ | with_reducible refine' Sz.sub ?_ ?_ | with_reducible refine' Sz.neg ?_ | with_reducible refine' Sz.div ?_)))
  | `(tactic| lcg_sub) => `(tactic| ((refine' mul_sz ?mza ?mzb ?mzc); (case mza => kas_types); (case mzb => kas_types); (case mzc => omega)))
local macro_rules | `(tactic| keq_hits) => `(tactic| with_reducible refine' c_common ?_ ?_)
def pw (Q : NSq) (t q p : Int) : Kd Q := ((2 + t : Int) : Kd Q) + ((p - 2 : Int) : Kd Q) * (1 / (q : Kd Q))
theorem pw_vl {t q p : Int} (hq : q ≠ 0) : vl Q ((2 + t) * q + (p - 2)) 0 q = pw Q t q p := by
  have := Kd.cne (Q := Q) hq
  unfold vl pw
  simp only [Kd.cadd, Kd.cmul, Kd.c0]
  grind
theorem c_step_at {n r k K : Nat} {f : Nat → Int} {t : Int} (hf : ∀ i, 1 ≤ f i ∧ f i ≤ 9) (hr : S[r]? = some (.lst (stL f K))) (hk : k ≤ K) (hk2 : k ≤ 100) (ht : Sz 4 t) (hQ : Tld Q) :
    ∃ d, callF T (n + 5) "step_at" [.ref r, .int t, .int k] S = some (d, S) ∧ Rp Q (4 * k + 9) d (pw Q t (stp f k).1 (stp f k).2) := by
  have hb := stp_sz hf k
  have hp := stp_bd hf k
  have hq0 : (stp f k).1 ≠ 0 := by omega
  have hcq := Kd.cne (Q := Q) hq0
  have e1 : exS T (callF T (n + 4)) b_step_at.hd [some (.ref r), some (.int t), some (.int k), none] S = some (.nx [some (.ref r), some (.int t), some (.int k), some (.int (stp f k).2)], S) := by
    refine s_asg (d := .int (stp f k).2) ?_ rfl
    cases k with
    | zero => exact e_ite_f (e_cmp (e_var rfl) e_int (c_gt_f (by omega))) e_int
    | succ k =>
      refine e_ite_t (e_cmp (e_var rfl) e_int (c_gt_t (by omega))) (e_ix (e_var rfl) (e_bin (e_var rfl) e_int o_sub) (ix_ref hr ?_))
      rw [show ((k + 1 : Nat) : Int) - 1 = (k : Int) by omega]
      exact stL_at (by omega)
  have z2 : Sz 2 2 := Sz.lit (by decide)
  obtain ⟨p1, f1, g1⟩ := c_surd_back (S := S) (n := n + 1) (rp_i (Q := Q) (n := 0) (B := 4 * k + 1) (k := (stp f k).1) hb.1 (by omega) hQ) hcq (by omega)
  obtain ⟨p2, f2, g2⟩ := c_surd_times (S := S) (n := n + 1) (rp_i (Q := Q) (n := 0) (B := 4 * k + 3) (k := (stp f k).2 - 2) ((hb.2.sub z2).mono (by omega)) (by omega) hQ) g1 (by omega)
  obtain ⟨p3, f3, g3⟩ := c_surd_sum (S := S) (n := n + 1) (rp_i (Q := Q) (n := 0) (B := 6) (k := 2 + t) ((z2.add ht).mono (by omega)) (by omega) hQ) g2 (by omega)
  refine ⟨p3, callF_pure f_step_at rfl (exSs_nx e1 (exSs_rt (s_ret (e_call (ds := [sd (2 + t) 0 1 0, p2]) (S1 := S) ?_ f3)))), ?_⟩
  · refine' e_cons (S1 := S) ?_ (e_cons (e_call (ds := [sd ((stp f k).2 - 2) 0 1 0, p1]) (S1 := S) (e_cons (S1 := S) ?_ (e_cons (e_call (ds := [sd (stp f k).1 0 1 0]) (S1 := S) (e_cons (e_tup (e_cons (e_ix (e_var rfl) (e_var rfl) (ix_ref hr (stL_at hk))) (e_cons e_int (e_cons e_int (e_cons e_int e_nil)))) (len_i rfl)) e_nil) f1) e_nil)) f2) e_nil)
    · keq_rows
    · keq_rows
  · exact g3.shrink (x := (2 + t) * (stp f k).1 + ((stp f k).2 - 2)) (y := 0) (z := (stp f k).1) hq0 (pw_vl hq0) ((((z2.add ht).mul hb.1).add (hb.2.sub z2)).mono (by omega)) (Sz.lit (by rw [Int.natAbs_zero]; exact Nat.pow_pos (by decide))) (hb.1.mono (by omega))
end L81
end

section
set_option maxHeartbeats 1000000
namespace L81
open PySem Mn
variable {S : So} {Q : NSq}
local macro_rules
  | `(tactic| keq_rows) => `(tactic| (repeat' (first
      | with_reducible exact e_int | with_reducible exact e_bl | with_reducible exact e_non | with_reducible exact e_str | with_reducible exact e_nil | with_reducible exact s_pass | with_reducible exact eo_none | with_reducible exact o_add | with_reducible exact o_sub | with_reducible exact c_eq | with_reducible exact c_lt | with_reducible exact c_le | with_reducible exact c_gt | with_reducible exact c_ge | with_reducible exact c_ne
      | ((with_reducible refine' ss_nl ?mnh); (case mnh => exact rfl)) | ((with_reducible refine' e_var ?mnh); (case mnh => exact rfl)) | ((with_reducible refine' asg_i ?mnh); (case mnh => exact rfl)) | ((with_reducible refine' at_i ?mnh); (case mnh => exact rfl)) | ((with_reducible refine' ty_i ?mnh); (case mnh => exact rfl)) | ((with_reducible refine' mv_i ?mnh); (case mnh => exact rfl)) | ((with_reducible refine' bi_i ?mnh); (case mnh => exact rfl)) | ((with_reducible refine' e_glob ?mnh); (case mnh => kernel_rfl)) | (with_reducible exact div_lit (by decide)) | ((with_reducible refine' len_i ?mnh); (case mnh => exact rfl))
      | with_reducible refine' exSs_rt (s_ret ?_) | with_reducible refine' exSs_nx (s_asg ?_ ?_) ?_ | with_reducible refine' exSs_nx (s_ex ?_) ?_ | with_reducible refine' exSs_nx (s_put ?_ ?_ ?_ ?_) ?_ | with_reducible refine' t_of ?_ | with_reducible refine' e_bin ?_ ?_ ?_ | with_reducible refine' e_neg ?_ | with_reducible refine' e_cons ?_ ?_ | with_reducible refine' e_tup ?_ ?_ | with_reducible refine' e_lst ?_ ?_ | with_reducible refine' e_ix ?_ ?_ ?_ | with_reducible refine' e_cmp ?_ ?_ ?_ | with_reducible refine' e_not ?_ | with_reducible refine' e_call ?_ ?_ | with_reducible refine' e_bi ?_ ?_ | with_reducible refine' e_me ?_ ?_ ?_ ?_ | with_reducible refine' eo_some ?_ | with_reducible refine' e_sl ?_ ?_ ?_ ?_ | with_reducible refine' e_rev ?_ ?_ | with_reducible refine' ix_tup ?_
      | (with_reducible refine' e_callk ?_ ?_ (by kernel_rfl) rfl ?_)
      | keq_hits
      | with_reducible refine' o_mul ?_ | with_reducible refine' o_fdiv ?_ | with_reducible refine' o_mod ?_)))
  | `(tactic| kas_types) => `(tactic| (repeat' (first
      | exact Sz.id (by assumption) | exact Sz.lit (n := 16) (by decide) | with_reducible refine' Sz.mul ?_ ?_ | with_reducible refine' Sz.add ?_ ?_ | with_reducible refine' Sz.sub ?_ ?_ | with_reducible refine' Sz.neg ?_ | with_reducible refine' Sz.div ?_)))
  | `(tactic| lcg_sub) => `(tactic| ((refine' mul_sz ?mza ?mzb ?mzc); (case mza => kas_types); (case mzb => kas_types); (case mzc => omega)))
local macro_rules | `(tactic| keq_hits) => `(tactic| with_reducible refine' c_common ?_ ?_)
noncomputable def tp (v : Kd Q) : D := by
  classical
  exact if h : ∃ t B, Rp Q B t v then Classical.choose h else .non
theorem Rp.tp {B : Nat} {t : D} {v : Kd Q} (h : Rp Q B t v) : t = tp v := by
  have hx : ∃ t B, Rp Q B t v := ⟨t, B, h⟩
  unfold L81.tp
  rw [dif_pos hx]
  obtain ⟨B', h'⟩ := Classical.choose_spec hx
  exact h.uniq h'
theorem Rp.bel {B : Nat} {t : D} {v : Kd Q} (h : Rp Q B t v) (n : Nat) : t.bel n = true := by
  obtain ⟨a, b, c, d, rfl, _⟩ := h
  rfl
theorem belows_of : ∀ {xs : List D} {n : Nat}, (∀ x ∈ xs, x.bel n = true) → belows n xs = true
  | [], _, _ => rfl
  | x :: xs, n, h => by
    simp only [belows, h x List.mem_cons_self, belows_of fun y hy => h y (List.mem_cons_of_mem _ hy), Bool.and_self]
def aheads (Q : NSq) (u w : List Int) : List (Kd Q) := u.zipIdx.map fun p => pw Q p.1 (stp (tm u w) p.2).1 (stp (tm u w) p.2).2
theorem sz9 {t : Int} (h : 1 ≤ t ∧ t ≤ 9) : Sz 4 t := by unfold Sz; omega
theorem c_ahead_powers {n : Nat} {u w : List Int} (hu : Rw u) (hw : Rw w) (h0 : w ≠ []) (hl : u.length ≤ 100) (hQ : Tld Q) :
    callF T (n + 6) "ahead_powers" [chn u w] S = some (.ref S.length, S ++ [.lst ((aheads Q u w).map tp)]) := by
  have e1 := c_steps_to (S := S) (n := n + 3) (k := u.length) hu hw h0 (by omega)
  have hat : ∀ p ∈ u.zipIdx, ∀ acc : List D, ∃ d, callF T (n + 5) "step_at" [.ref S.length, .int p.1, .int (p.2 : Nat)] (S ++ [.lst (stL (tm u w) u.length)] ++ [.lst acc]) = some (d, S ++ [.lst (stL (tm u w) u.length)] ++ [.lst acc]) ∧ Rp Q (4 * p.2 + 9) d (pw Q p.1 (stp (tm u w) p.2).1 (stp (tm u w) p.2).2) := by
    intro p hp acc
    obtain ⟨x, i⟩ := p
    have hi := List.mem_zipIdx hp
    have hx : x ∈ u := by rw [hi.2.2]; exact List.getElem_mem _
    exact c_step_at (K := u.length) (tm_bd hu hw h0) (by simp) (by omega) (by omega) (sz9 (hu x hx)) hQ
  have e2 : evE T (callF T (n + 5)) (.lc (.call "step_at" (.cons (.var 1) (.cons (.var 3) (.cons (.var 2) .nil)))) (.tp [(.nm 2), (.nm 3)]) (.enum (.ix (.var 0) (.int 0))) .nil [2, 3]) [some (chn u w), some (.ref S.length), none, none] (S ++ [.lst (stL (tm u w) u.length)]) = some (.ref (S ++ [C.lst (stL (tm u w) u.length)]).length, S ++ [.lst (stL (tm u w) u.length)] ++ [.lst ((aheads Q u w).map tp)]) := by
    unfold aheads
    rw [List.map_map]
    refine e_lc0 (fun p : Int × Nat => .tup [.int (p.2 : Nat), .int p.1]) _ (w := none) (by rw [← enumL_ints]; exact it_enumT (e_ix (e_var rfl) e_int (ix_tup rfl))) trivial (by rw [List.length_zipIdx]; omega) ?_
    intro p hp acc
    obtain ⟨d, f1, f2⟩ := hat p hp acc
    refine ⟨[some (chn u w), some (.ref S.length), some (.int (p.2 : Nat)), some (.int p.1)], rfl, ?_⟩
    show _ = some (tp (pw Q p.1 (stp (tm u w) p.2).1 (stp (tm u w) p.2).2), _)
    rw [← f2.tp]
    exact e_call (e_cons (e_var rfl) (e_cons (e_var rfl) (e_cons (e_var rfl) e_nil))) f1
  have hbel : C.bel 0 (.lst ((aheads Q u w).map tp)) = true := by
    refine belows_of fun x hx => ?_
    unfold aheads at hx
    rw [List.map_map, List.mem_map] at hx
    obtain ⟨p, hp, rfl⟩ := hx
    obtain ⟨d, f1, f2⟩ := hat p hp []
    show D.bel 0 (tp _) = true
    rw [← f2.tp]
    exact f2.bel 0
  have e3 := gc_cell (S := S) (E := [.lst (stL (tm u w) u.length)]) (E2 := []) hbel
  have e4 : callF T (n + 5 + 1) "ahead_powers" [chn u w] S = some (gc S (.ref (S ++ [C.lst (stL (tm u w) u.length)]).length) (S ++ [.lst (stL (tm u w) u.length)] ++ [.lst ((aheads Q u w).map tp)])) :=
    callF_of f_ahead_powers rfl (exSs_nx (s_asg (e_call (e_cons (e_var rfl) (e_cons (e_bi (e_cons (e_ix (e_var rfl) e_int (ix_tup rfl)) e_nil) len_map) e_nil)) e1) rfl) (exSs_rt (s_ret e2)))
  rw [e4, ← e3]
  simp
theorem Rw.app {u w : List Int} : Rw (u ++ w) ↔ Rw u ∧ Rw w := by
  unfold Rw
  simp only [List.mem_append]
  exact ⟨fun h => ⟨fun t k => h t (.inl k), fun t k => h t (.inr k)⟩, fun h t k => k.elim (h.1 t) (h.2 t)⟩
theorem Rw.rev {w : List Int} (h : Rw w) : Rw w.reverse := fun t k => h t (by simpa using k)
abbrev rot (w : List Int) (i : Nat) : List Int := w.drop i ++ w.take i
theorem rw_rot {w : List Int} (h : Rw w) (i : Nat) : Rw (rot w i) := by
  have : Rw (w.take i ++ w.drop i) := by rw [List.take_append_drop]; exact h
  have := Rw.app.mp this
  exact Rw.app.mpr ⟨this.2, this.1⟩
theorem rot_len (w : List Int) (i : Nat) : (rot w i).length = w.length := by
  have : (w.take i ++ w.drop i).length = w.length := by rw [List.take_append_drop]
  rw [List.length_append] at this ⊢
  omega
structure Rnd (Q : NSq) (w : List Int) (s : Kd Q) : Prop where
  rw : Rw w
  ne : w ≠ []
  len : w.length ≤ 12
  fix : Fix w s
  irr : cj s ≠ s
  tld : Tld Q
theorem Rnd.own {w : List Int} {s : Kd Q} (h : Rnd Q w s) : Own Q w := by
  obtain ⟨h1, h2, h3, h4, h5, h6⟩ := h
  cases w with
  | nil => exact absurd rfl h2
  | cons t w => exact own_of_fix h1.ps h4 h5 h6.1
theorem Rnd.rot {w : List Int} {s : Kd Q} (h : Rnd Q w s) (i : Nat) : Rnd Q (rot w i) (act (w.drop i) s) := by
  refine ⟨rw_rot h.rw i, ?_, by rw [rot_len]; exact h.len, ?_, irr_act h.irr, h.tld⟩
  · intro e
    have := rot_len w i
    rw [e] at this
    exact h.ne (List.eq_nil_of_length_eq_zero (by simpa using this.symm))
  · refine Fix.rot ?_ ?_
    · rw [List.take_append_drop]
      exact h.rw.ps
    · rw [List.take_append_drop]
      exact h.fix
theorem irr_neg {x : Kd Q} (h : cj x ≠ x) : cj (-(1 / cj x)) ≠ -(1 / cj x) := by
  intro e
  have e1 : cj (-(1 / cj x)) = -(1 / x) := by
    have : -(1 / cj x) = ((-1 : Int) : Kd Q) * (1 / cj x) := by
      have : ((-1 : Int) : Kd Q) = -1 := by rw [Kd.cneg, Kd.c1]
      rw [this]
      grind
    rw [this, cj_mul, cj_int, cj_inv, cj_cj, Kd.cneg, Kd.c1]
    grind
  rw [e1] at e
  apply h
  have e2 : (1 : Kd Q) / x = 1 / cj x := by grind
  have e3 : ∀ z : Kd Q, 1 / (1 / z) = z := fun z => by
    have h1 : (1 : Kd Q) / z = z⁻¹ := by grind
    have h2 : (1 : Kd Q) / z⁻¹ = z⁻¹⁻¹ := by grind
    rw [h1, h2, Kd.inv_inv]
  have k1 := e3 x
  have k2 := e3 (cj x)
  rw [← k2, ← e2]
  exact k1
theorem Rnd.rev {w : List Int} {s : Kd Q} (h : Rnd Q w s) : Rnd Q w.reverse (-(1 / cj s)) := by
  refine ⟨h.rw.rev, ?_, by rw [List.length_reverse]; exact h.len, ?_, irr_neg h.irr, h.tld⟩
  · intro e
    exact h.ne (by simpa using e)
  · obtain ⟨h1, h2, h3, h4, h5, h6⟩ := h
    cases w with
    | nil => exact absurd rfl h2
    | cons t w => exact Fix.rev h1.ps h4 h5
theorem Rnd.rp {w : List Int} {s : Kd Q} (h : Rnd Q w s) : Rp Q 70 (tp s) s := by
  have ho := h.own
  obtain ⟨h1, h2, h3, h4, h5, h6⟩ := h
  cases w with
  | nil => exact absurd rfl h2
  | cons t w =>
    obtain ⟨v, ρ, _, _, hv⟩ := l_round (S := []) (n := 0) (x := .non) (y := .non) h1 h3 h4 ho h6
    rw [← hv.tp]
    exact hv
theorem Rnd.slope {n : Nat} {u w : List Int} {s : Kd Q} (h : Rnd Q w s) (hu : Rw u) (hul : u.length ≤ 12) : callF T (n + 5) "slope_of" [chn u w] S = some (tp (act u s), S) ∧ Rp Q 1000 (tp (act u s)) (act u s) := by
  have ho := h.own
  obtain ⟨h1, h2, h3, h4, h5, h6⟩ := h
  cases w with
  | nil => exact absurd rfl h2
  | cons t w =>
    obtain ⟨r, e1, e2⟩ := c_slope_of (S := S) (n := n) hu hul h1 h3 h4 ho h6
    rw [← e2.tp]
    exact ⟨e1, e2⟩
def bs (w : List Int) (s : Kd Q) (i : Nat) : Kd Q := -(1 / cj (act (w.drop i) s))
theorem Rnd.back {w : List Int} {s : Kd Q} (h : Rnd Q w s) (i : Nat) : Rnd Q (L81.rot w i).reverse (bs w s i) := (h.rot i).rev
theorem c_back_slope {n i : Nat} {w : List Int} {s : Kd Q} (h : Rnd Q w s) (hi : i ≤ w.length) : callF T (n + 6) "back_slope" [.tup (w.map D.int), .int i] S = some (tp (bs w s i), S) := by
  have hb := h.back i
  obtain ⟨e1, e2⟩ := hb.slope (S := S) (n := n) (u := []) (fun _ k => absurd k List.not_mem_nil) (by simp)
  refine callF_pure f_back_slope rfl (exSs_rt (s_ret (e_call (ds := [chn [] (L81.rot w i).reverse]) (e_cons (e_tup (e_cons (e_tup e_nil (len_i rfl)) (e_cons (e_bin (e_rev (e_to (e_var rfl) (e_var rfl) ?_) rfl) (e_rev (e_from (e_var rfl) (e_var rfl) ?_) rfl) ?_) e_nil)) (len_i rfl)) e_nil) e1)))
  · simpa using hi
  · simpa using hi
  · rw [o_addT]
    · rw [List.reverse_append, List.map_append, List.map_reverse, List.map_reverse, List.map_take, List.map_drop]
    · have := h.len
      simp
      omega
end L81
end

section
set_option maxHeartbeats 1000000
namespace L81
open PySem Mn
variable {S : So} {Q : NSq}
local macro_rules
  | `(tactic| keq_rows) => `(tactic| (repeat' (first
      | with_reducible exact e_int | with_reducible exact e_bl | with_reducible exact e_non | with_reducible exact e_str | with_reducible exact e_nil | with_reducible exact s_pass | with_reducible exact eo_none | with_reducible exact o_add | with_reducible exact o_sub | with_reducible exact c_eq | with_reducible exact c_lt | with_reducible exact c_le | with_reducible exact c_gt | with_reducible exact c_ge | with_reducible exact c_ne
      | ((with_reducible refine' ss_nl ?mnh); (case mnh => exact rfl)) | ((with_reducible refine' e_var ?mnh); (case mnh => exact rfl)) | ((with_reducible refine' asg_i ?mnh); (case mnh => exact rfl)) | ((with_reducible refine' at_i ?mnh); (case mnh => exact rfl)) | ((with_reducible refine' ty_i ?mnh); (case mnh => exact rfl)) | ((with_reducible refine' mv_i ?mnh); (case mnh => exact rfl)) | ((with_reducible refine' bi_i ?mnh); (case mnh => exact rfl)) | ((with_reducible refine' e_glob ?mnh); (case mnh => kernel_rfl)) | (with_reducible exact div_lit (by decide)) | ((with_reducible refine' len_i ?mnh); (case mnh => exact rfl))
      | with_reducible refine' exSs_rt (s_ret ?_) | with_reducible refine' exSs_nx (s_asg ?_ ?_) ?_ | with_reducible refine' exSs_nx (s_ex ?_) ?_ | with_reducible refine' exSs_nx (s_put ?_ ?_ ?_ ?_) ?_ | with_reducible refine' t_of ?_ | with_reducible refine' e_bin ?_ ?_ ?_ | with_reducible refine' e_neg ?_ | with_reducible refine' e_cons ?_ ?_ | with_reducible refine' e_tup ?_ ?_ | with_reducible refine' e_lst ?_ ?_ | with_reducible refine' e_ix ?_ ?_ ?_ | with_reducible refine' e_cmp ?_ ?_ ?_ | with_reducible refine' e_not ?_ | with_reducible refine' e_call ?_ ?_ | with_reducible refine' e_bi ?_ ?_ | with_reducible refine' e_me ?_ ?_ ?_ ?_ | with_reducible refine' eo_some ?_ | with_reducible refine' e_sl ?_ ?_ ?_ ?_ | with_reducible refine' e_rev ?_ ?_ | with_reducible refine' ix_tup ?_
      | (with_reducible refine' e_callk ?_ ?_ (by kernel_rfl) rfl ?_)
      | keq_hits
      | with_reducible refine' o_mul ?_ | with_reducible refine' o_fdiv ?_ | with_reducible refine' o_mod ?_)))
  | `(tactic| kas_types) => `(tactic| (repeat' (first
      | exact Sz.id (by assumption) | exact Sz.lit (n := 16) (by decide) | with_reducible refine' Sz.mul ?_ ?_ | with_reducible refine' Sz.add ?_ ?_ | with_reducible refine' Sz.sub ?_ ?_ | with_reducible refine' Sz.neg ?_ | with_reducible refine' Sz.div ?_)))
  | `(tactic| lcg_sub) => `(tactic| ((refine' mul_sz ?mza ?mzb ?mzc); (case mza => kas_types); (case mzb => kas_types); (case mzc => omega)))
local macro_rules | `(tactic| keq_hits) => `(tactic| with_reducible refine' c_common ?_ ?_)
theorem e_sd {T : Tb} {cf : Str → List D → So → Option (D × So)} {ρ : En} {a : E} {i : Int} (h : evE T cf a ρ S = some (.int i, S)) : evE T cf (.tup (.cons a (.cons (.int 0) (.cons (.int 1) (.cons (.int 0) .nil))))) ρ S = some (sd i 0 1 0, S) :=
  e_tup (e_cons h (e_cons e_int (e_cons e_int (e_cons e_int e_nil)))) (len_i rfl)
def rv (w : List Int) (s : Kd Q) (t : Int) (i : Nat) : Kd Q := ((2 + t : Int) : Kd Q) + bs w s i
def rounds (w : List Int) (s : Kd Q) : List (Kd Q) := w.zipIdx.map fun p => rv w s p.1 p.2
theorem c_rv {n i : Nat} {t : Int} {w : List Int} {s : Kd Q} (h : Rnd Q w s) (ht : Sz 4 t) : callF T (n + 3) "surd_sum" [sd (2 + t) 0 1 0, tp (bs w s i)] S = some (tp (rv w s t i), S) ∧ Rp Q 77 (tp (rv w s t i)) (rv w s t i) := by
  obtain ⟨r, e1, e2⟩ := c_surd_sum (S := S) (n := n) (rp_i (Q := Q) (n := 0) (B := 6) (k := 2 + t) (((Sz.lit (n := 2) (by decide)).add ht).mono (by omega)) (by omega) h.tld) (h.back i).rp (by omega)
  have e3 : r = tp (rv w s t i) := e2.tp
  rw [← e3]
  exact ⟨e1, e2⟩
theorem c_round_powers {n : Nat} {u w : List Int} {s : Kd Q} (h : Rnd Q w s) : callF T (n + 7) "round_powers" [chn u w] S = some (.ref S.length, S ++ [.lst ((rounds w s).map tp)]) := by
  have e2 : evE T (callF T (n + 6)) (.lc (.call "surd_sum" (.cons (.tup (.cons (.bin .add (.int 2) (.var 3)) (.cons (.int 0) (.cons (.int 1) (.cons (.int 0) .nil))))) (.cons (.call "back_slope" (.cons (.var 1) (.cons (.var 2) .nil))) .nil))) (.tp [(.nm 2), (.nm 3)]) (.enum (.var 1)) .nil [2, 3]) [some (chn u w), some (.tup (w.map D.int)), none, none] S = some (.ref S.length, S ++ [.lst ((rounds w s).map tp)]) := by
    unfold rounds
    rw [List.map_map]
    have hl := h.len
    refine e_lc0 (fun p : Int × Nat => .tup [.int (p.2 : Nat), .int p.1]) _ (w := none) (by rw [← enumL_ints]; exact it_enumT (e_var rfl)) trivial (by rw [List.length_zipIdx]; omega) ?_
    intro p hp acc
    obtain ⟨x, i⟩ := p
    have hi := List.mem_zipIdx hp
    have hx : x ∈ w := by rw [hi.2.2]; exact List.getElem_mem _
    refine ⟨[some (chn u w), some (.tup (w.map D.int)), some (.int (i : Nat)), some (.int x)], rfl, ?_⟩
    exact e_call (e_cons (e_sd (e_bin e_int (e_var rfl) o_add)) (e_cons (e_call (e_cons (e_var rfl) (e_cons (e_var rfl) e_nil)) (c_back_slope (n := n) h (by omega))) e_nil)) (c_rv (n := n + 3) h (sz9 (h.rw x hx))).1
  have e4 : callF T (n + 6 + 1) "round_powers" [chn u w] S = some (gc S (.ref S.length) (S ++ [.lst ((rounds w s).map tp)])) :=
    callF_of f_round_powers rfl (exSs_nx (s_asg (e_ix (e_var rfl) e_int (ix_tup rfl)) rfl) (exSs_rt (s_ret e2)))
  rw [e4, gc_new]
end L81
end

section
set_option maxHeartbeats 1000000
namespace L81
open PySem Mn
variable {S : So} {Q : NSq}
local macro_rules
  | `(tactic| keq_rows) => `(tactic| (repeat' (first
      | with_reducible exact e_int | with_reducible exact e_bl | with_reducible exact e_non | with_reducible exact e_str | with_reducible exact e_nil | with_reducible exact s_pass | with_reducible exact eo_none | with_reducible exact o_add | with_reducible exact o_sub | with_reducible exact c_eq | with_reducible exact c_lt | with_reducible exact c_le | with_reducible exact c_gt | with_reducible exact c_ge | with_reducible exact c_ne
      | ((with_reducible refine' ss_nl ?mnh); (case mnh => exact rfl)) | ((with_reducible refine' e_var ?mnh); (case mnh => exact rfl)) | ((with_reducible refine' asg_i ?mnh); (case mnh => exact rfl)) | ((with_reducible refine' at_i ?mnh); (case mnh => exact rfl)) | ((with_reducible refine' ty_i ?mnh); (case mnh => exact rfl)) | ((with_reducible refine' mv_i ?mnh); (case mnh => exact rfl)) | ((with_reducible refine' bi_i ?mnh); (case mnh => exact rfl)) | ((with_reducible refine' e_glob ?mnh); (case mnh => kernel_rfl)) | (with_reducible exact div_lit (by decide)) | ((with_reducible refine' len_i ?mnh); (case mnh => exact rfl))
      | with_reducible refine' exSs_rt (s_ret ?_) | with_reducible refine' exSs_nx (s_asg ?_ ?_) ?_ | with_reducible refine' exSs_nx (s_ex ?_) ?_ | with_reducible refine' exSs_nx (s_put ?_ ?_ ?_ ?_) ?_ | with_reducible refine' t_of ?_ | with_reducible refine' e_bin ?_ ?_ ?_ | with_reducible refine' e_neg ?_ | with_reducible refine' e_cons ?_ ?_ | with_reducible refine' e_tup ?_ ?_ | with_reducible refine' e_lst ?_ ?_ | with_reducible refine' e_ix ?_ ?_ ?_ | with_reducible refine' e_cmp ?_ ?_ ?_ | with_reducible refine' e_not ?_ | with_reducible refine' e_call ?_ ?_ | with_reducible refine' e_bi ?_ ?_ | with_reducible refine' e_me ?_ ?_ ?_ ?_ | with_reducible refine' eo_some ?_ | with_reducible refine' e_sl ?_ ?_ ?_ ?_ | with_reducible refine' e_rev ?_ ?_ | with_reducible refine' ix_tup ?_
      | (with_reducible refine' e_callk ?_ ?_ (by kernel_rfl) rfl ?_)
      | keq_hits
      | with_reducible refine' o_mul ?_ | with_reducible refine' o_fdiv ?_ | with_reducible refine' o_mod ?_)))
  | `(tactic| kas_types) => `(tactic| (repeat' (first
      | exact Sz.id (by assumption) | exact Sz.lit (n := 16) (by decide) | with_reducible refine' Sz.mul ?_ ?_ | with_reducible refine' Sz.add ?_ ?_ | with_reducible refine' Sz.sub ?_ ?_ | with_reducible refine' Sz.neg ?_ | with_reducible refine' Sz.div ?_)))
  | `(tactic| lcg_sub) => `(tactic| ((refine' mul_sz ?mza ?mzb ?mzc); (case mza => kas_types); (case mzb => kas_types); (case mzc => omega)))
local macro_rules | `(tactic| keq_hits) => `(tactic| with_reducible refine' c_common ?_ ?_)
theorem bs_pos {w : List Int} {s : Kd Q} (h : Rnd Q w s) (i : Nat) : 0 < bs w s i := (h.back i).fix.1
theorem bs_step {w : List Int} {s : Kd Q} (h : Rnd Q w s) {i : Nat} (hi : i < w.length) : bs w s (i + 1) * ((w[i] : Kd Q) + bs w s i) = 1 := by
  have e : act (w.drop i) s = 1 / ((w[i] : Kd Q) + act (w.drop (i + 1)) s) := by
    rw [List.drop_eq_getElem_cons hi]
    rfl
  have p1 := bs_pos h i
  have p2 := bs_pos h (i + 1)
  unfold bs at *
  rw [e, cj_inv, cj_add, cj_int] at *
  generalize cj (act (w.drop (i + 1)) s) = y at *
  have e3 : ∀ z : Kd Q, 1 / (1 / z) = z := fun z => by
    have h1 : (1 : Kd Q) / z = z⁻¹ := by grind
    have h2 : (1 : Kd Q) / z⁻¹ = z⁻¹⁻¹ := by grind
    rw [h1, h2, Kd.inv_inv]
  rw [e3] at *
  have hy : y ≠ 0 := by
    intro h0
    rw [h0] at p2
    have : (1 : Kd Q) / 0 = 0 := by grind
    rw [this] at p2
    grind
  grind
theorem bs_round {w : List Int} {s : Kd Q} (h : Rnd Q w s) : bs w s w.length = bs w s 0 := by
  unfold bs
  rw [List.drop_length, List.drop_zero, h.fix.2]
  rfl
def bk (w : List Int) (s : Kd Q) (j : Nat) : Kd Q := bs w s (j % w.length)
theorem bk_step {u w : List Int} {s : Kd Q} (h : Rnd Q w s) (j : Nat) : bk w s (j + 1) * ((tm u w (u.length + j) : Kd Q) + bk w s j) = 1 := by
  have hl : 0 < w.length := List.length_pos_iff.mpr h.ne
  have hm := Nat.mod_lt j hl
  have e1 : tm u w (u.length + j) = w[j % w.length] := by
    unfold tm
    rw [if_neg (by omega), Nat.add_sub_cancel_left, List.getElem?_eq_getElem hm]
    rfl
  have e2 : bk w s (j + 1) = bs w s (j % w.length + 1) := by
    unfold bk
    have e : (j + 1) % w.length = (j % w.length + 1) % w.length := by rw [Nat.mod_add_mod]
    rw [e]
    rcases Nat.lt_or_ge (j % w.length + 1) w.length with h1 | h1
    · rw [Nat.mod_eq_of_lt h1]
    · have h2 : j % w.length + 1 = w.length := by omega
      rw [h2, Nat.mod_self, bs_round h]
  rw [e1, e2]
  exact bs_step h hm
def off (u w : List Int) (s : Kd Q) (j : Nat) : Kd Q := ((stp (tm u w) (u.length + j)).2 : Kd Q) - ((stp (tm u w) (u.length + j)).1 : Kd Q) * bk w s j
theorem off_step {u w : List Int} {s : Kd Q} (h : Rnd Q w s) (j : Nat) : off u w s (j + 1) = -(bk w s (j + 1) * off u w s j) := by
  have k := bk_step (u := u) h j
  unfold off
  rw [show u.length + (j + 1) = u.length + j + 1 by omega]
  simp only [stp, Kd.cadd, Kd.cmul]
  grind
theorem bk_pos {w : List Int} {s : Kd Q} (h : Rnd Q w s) (j : Nat) : 0 < bk w s j := bs_pos h _
theorem bk_two {u w : List Int} {s : Kd Q} (hu : Rw u) (h : Rnd Q w s) (j : Nat) : bk w s (j + 1) < 1 ∧ 2 * (bk w s (j + 2) * bk w s (j + 1)) < 1 := by
  have k := bk_step (u := u) h j
  have k2 := bk_step (u := u) h (j + 1)
  have t1 := c_one_le (Q := Q) (tm_bd hu h.rw h.ne (u.length + j)).1
  have t2 := c_one_le (Q := Q) (tm_bd hu h.rw h.ne (u.length + (j + 1))).1
  have p0 := bk_pos h j
  have p1 := bk_pos h (j + 1)
  have p2 := bk_pos h (j + 1 + 1)
  show _ ∧ 2 * (bk w s (j + 1 + 1) * bk w s (j + 1)) < 1
  generalize (tm u w (u.length + j) : Kd Q) = x at *
  generalize (tm u w (u.length + (j + 1)) : Kd Q) = y at *
  generalize bk w s (j + 1 + 1) = b2 at *
  generalize bk w s (j + 1) = b1 at *
  generalize bk w s j = b0 at *
  have l1 : b1 < 1 := by
    have := mul_pos' p1 (show 0 < x + b0 - 1 by grind)
    grind
  refine ⟨l1, ?_⟩
  have := mul_pos' p2 (show 0 < y - b1 by grind)
  grind
theorem off_bd {u w : List Int} {s : Kd Q} (hu : Rw u) (h : Rnd Q w s) (j : Nat) : (off u w s j ≤ 2 ∧ -2 ≤ off u w s j) → (off u w s (j + 1) ≤ 2 ∧ -2 ≤ off u w s (j + 1)) := by
  intro hj
  have e := off_step (u := u) h j
  have l := (bk_two hu h j).1
  have p := bk_pos h (j + 1)
  generalize off u w s (j + 1) = y at *
  generalize off u w s j = x at *
  generalize bk w s (j + 1) = b at *
  have h1 : 0 ≤ b * (2 - x) := by
    by_cases hx : x = 2
    · rw [hx]; grind
    · have := mul_pos' p (show 0 < 2 - x by grind)
      grind
  have h2 : 0 ≤ b * (x + 2) := by
    by_cases hx : x = -2
    · rw [hx]; grind
    · have := mul_pos' p (show 0 < x + 2 by grind)
      grind
  constructor <;> grind
theorem off_half {u w : List Int} {s : Kd Q} (hu : Rw u) (h : Rnd Q w s) {B : Kd Q} (hB : 0 ≤ B) (j : Nat) : (off u w s j ≤ 2 * B ∧ -(2 * B) ≤ off u w s j) → (off u w s (j + 2) ≤ B ∧ -B ≤ off u w s (j + 2)) := by
  intro hj
  have e := off_step (u := u) h j
  have e2 := off_step (u := u) h (j + 1)
  have l := (bk_two hu h j).2
  have p := mul_pos' (bk_pos h (j + 2)) (bk_pos h (j + 1))
  have e3 : off u w s (j + 2) = bk w s (j + 2) * bk w s (j + 1) * off u w s j := by
    show off u w s (j + 1 + 1) = bk w s (j + 1 + 1) * bk w s (j + 1) * off u w s j
    rw [e2, e]
    grind
  rw [e3]
  generalize off u w s j = x at *
  generalize bk w s (j + 2) * bk w s (j + 1) = b at *
  have h1 : 0 ≤ b * (2 * B - x) := by
    by_cases hx : x = 2 * B
    · rw [hx]; grind
    · have := mul_pos' p (show 0 < 2 * B - x by grind)
      grind
  have h2 : 0 ≤ b * (x + 2 * B) := by
    by_cases hx : x = -(2 * B)
    · rw [hx]; grind
    · have := mul_pos' p (show 0 < x + 2 * B by grind)
      grind
  have h3 : 0 ≤ (1 - 2 * b) * B := by
    by_cases hx : B = 0
    · rw [hx]; grind
    · have := mul_pos' (show 0 < 1 - 2 * b by grind) (show 0 < B by grind)
      grind
  constructor <;> grind
theorem bk_lt {u w : List Int} {s : Kd Q} (hu : Rw u) (h : Rnd Q w s) (j : Nat) : bk w s j < 1 := by
  cases j with
  | succ j => exact (bk_two hu h j).1
  | zero =>
    have hl : 0 < w.length := List.length_pos_iff.mpr h.ne
    have e : bk w s 0 = bk w s (w.length - 1 + 1) := by
      unfold bk
      rw [show w.length - 1 + 1 = w.length by omega, Nat.mod_self, Nat.zero_mod]
    rw [e]
    exact (bk_two hu h _).1
theorem off_start {u w : List Int} {s : Kd Q} (hu : Rw u) (h : Rnd Q w s) : off u w s 0 ≤ (((2 : Int) ^ (4 * u.length + 1) : Int) : Kd Q) ∧ -(((2 : Int) ^ (4 * u.length + 1) : Int) : Kd Q) ≤ off u w s 0 := by
  have hb := stp_sz (tm_bd hu h.rw h.ne) u.length
  have hp := stp_bd (tm_bd hu h.rw h.ne) u.length
  have b0 := bk_pos h 0
  have b1 := bk_lt hu h 0
  unfold off
  rw [Nat.add_zero]
  have e : (2 : Int) ^ (4 * u.length + 1) = ((2 ^ (4 * u.length + 1) : Nat) : Int) := by simp
  have z1 : (stp (tm u w) u.length).1 ≤ (2 : Int) ^ (4 * u.length + 1) := by have := hb.1; unfold Sz at this; omega
  have z2 : (stp (tm u w) u.length).2 ≤ (2 : Int) ^ (4 * u.length + 1) := by have := hb.2; unfold Sz at this; omega
  have y1 := (Kd.cle (Q := Q)).mpr z1
  have y2 := (Kd.cle (Q := Q)).mpr z2
  have y3 := c_one_le (Q := Q) hp.1
  have y4 := (Kd.cle (Q := Q)).mpr hp.2.1
  rw [Kd.c0] at y4
  generalize (((2 : Int) ^ (4 * u.length + 1) : Int) : Kd Q) = M at *
  generalize ((stp (tm u w) u.length).1 : Kd Q) = q at *
  generalize ((stp (tm u w) u.length).2 : Kd Q) = p at *
  have k1 := mul_pos' (show 0 < q by grind) b0
  have k2 := mul_pos' (show 0 < q by grind) (show 0 < 1 - bk w s 0 by grind)
  constructor <;> grind
theorem off_small {u w : List Int} {s : Kd Q} (hu : Rw u) (h : Rnd Q w s) : ∀ i, i ≤ 4 * u.length → off u w s (2 * i) ≤ (((2 : Int) ^ (4 * u.length + 1 - i) : Int) : Kd Q) ∧ -(((2 : Int) ^ (4 * u.length + 1 - i) : Int) : Kd Q) ≤ off u w s (2 * i)
  | 0, _ => off_start hu h
  | i + 1, hi => by
    have ih := off_small hu h i (by omega)
    have e : 4 * u.length + 1 - i = 4 * u.length + 1 - (i + 1) + 1 := by omega
    rw [e, Int.pow_succ, Int.mul_comm, Kd.cmul] at ih
    have f2 : ((2 : Int) : Kd Q) = 2 := rfl
    rw [f2] at ih
    refine off_half hu h ?_ (2 * i) ih
    have : (0 : Int) ≤ 2 ^ (4 * u.length + 1 - (i + 1)) := Int.pow_nonneg (by decide)
    have := (Kd.cle (Q := Q)).mpr this
    rw [Kd.c0] at this
    exact this
theorem off_stop {u w : List Int} {s : Kd Q} (hu : Rw u) (h : Rnd Q w s) : ∀ j, 8 * u.length ≤ j → off u w s j ≤ 2 ∧ -2 ≤ off u w s j := by
  intro j
  induction j with
  | zero =>
    intro hj
    have := off_small hu h (4 * u.length) (Nat.le_refl _)
    rw [show 2 * (4 * u.length) = 0 by omega, show 4 * u.length + 1 - 4 * u.length = 1 by omega] at this
    exact this
  | succ j ih =>
    intro hj
    rcases Nat.lt_or_ge j (8 * u.length) with h1 | h1
    · have := off_small hu h (4 * u.length) (Nat.le_refl _)
      rw [show 2 * (4 * u.length) = j + 1 by omega, show 4 * u.length + 1 - 4 * u.length = 1 by omega] at this
      exact this
    · exact off_bd hu h j (ih h1)
end L81
end

section
set_option maxHeartbeats 1000000
namespace L81
open PySem Mn
variable {S : So} {Q : NSq}
local macro_rules
  | `(tactic| keq_rows) => `(tactic| (repeat' (first
      | with_reducible exact e_int | with_reducible exact e_bl | with_reducible exact e_non | with_reducible exact e_str | with_reducible exact e_nil | with_reducible exact s_pass | with_reducible exact eo_none | with_reducible exact o_add | with_reducible exact o_sub | with_reducible exact c_eq | with_reducible exact c_lt | with_reducible exact c_le | with_reducible exact c_gt | with_reducible exact c_ge | with_reducible exact c_ne
      | ((with_reducible refine' ss_nl ?mnh); (case mnh => exact rfl)) | ((with_reducible refine' e_var ?mnh); (case mnh => exact rfl)) | ((with_reducible refine' asg_i ?mnh); (case mnh => exact rfl)) | ((with_reducible refine' at_i ?mnh); (case mnh => exact rfl)) | ((with_reducible refine' ty_i ?mnh); (case mnh => exact rfl)) | ((with_reducible refine' mv_i ?mnh); (case mnh => exact rfl)) | ((with_reducible refine' bi_i ?mnh); (case mnh => exact rfl)) | ((with_reducible refine' e_glob ?mnh); (case mnh => kernel_rfl)) | (with_reducible exact div_lit (by decide)) | ((with_reducible refine' len_i ?mnh); (case mnh => exact rfl))
      | with_reducible refine' exSs_rt (s_ret ?_) | with_reducible refine' exSs_nx (s_asg ?_ ?_) ?_ | with_reducible refine' exSs_nx (s_ex ?_) ?_ | with_reducible refine' exSs_nx (s_put ?_ ?_ ?_ ?_) ?_ | with_reducible refine' t_of ?_ | with_reducible refine' e_bin ?_ ?_ ?_ | with_reducible refine' e_neg ?_ | with_reducible refine' e_cons ?_ ?_ | with_reducible refine' e_tup ?_ ?_ | with_reducible refine' e_lst ?_ ?_ | with_reducible refine' e_ix ?_ ?_ ?_ | with_reducible refine' e_cmp ?_ ?_ ?_ | with_reducible refine' e_not ?_ | with_reducible refine' e_call ?_ ?_ | with_reducible refine' e_bi ?_ ?_ | with_reducible refine' e_me ?_ ?_ ?_ ?_ | with_reducible refine' eo_some ?_ | with_reducible refine' e_sl ?_ ?_ ?_ ?_ | with_reducible refine' e_rev ?_ ?_ | with_reducible refine' ix_tup ?_
      | (with_reducible refine' e_callk ?_ ?_ (by kernel_rfl) rfl ?_)
      | keq_hits
      | with_reducible refine' o_mul ?_ | with_reducible refine' o_fdiv ?_ | with_reducible refine' o_mod ?_)))
  | `(tactic| kas_types) => `(tactic| (repeat' (first
      | exact Sz.id (by assumption) | exact Sz.lit (n := 16) (by decide) | with_reducible refine' Sz.mul ?_ ?_ | with_reducible refine' Sz.add ?_ ?_ | with_reducible refine' Sz.sub ?_ ?_ | with_reducible refine' Sz.neg ?_ | with_reducible refine' Sz.div ?_)))
  | `(tactic| lcg_sub) => `(tactic| ((refine' mul_sz ?mza ?mzb ?mzc); (case mza => kas_types); (case mzb => kas_types); (case mzc => omega)))
local macro_rules | `(tactic| keq_hits) => `(tactic| with_reducible refine' c_common ?_ ?_)
def pk (Q : NSq) (u w : List Int) (k : Nat) : Kd Q := pw Q (tm u w k) (stp (tm u w) k).1 (stp (tm u w) k).2
theorem ord_gt {s : Int} {x y : Kd Q} (h : Sg s (x - y)) : (0 < s) ↔ y < x := by
  unfold Sg at h
  rcases h with ⟨rfl, h⟩ | ⟨rfl, h⟩ | ⟨rfl, h⟩
  · exact ⟨fun _ => by grind, fun _ => by omega⟩
  · exact ⟨fun h => by omega, fun h2 => by grind⟩
  · exact ⟨fun h => by omega, fun h2 => by grind⟩
theorem ord_lt {s : Int} {x y : Kd Q} (h : Sg s (x - y)) : (s < 0) ↔ x < y := by
  unfold Sg at h
  rcases h with ⟨rfl, h⟩ | ⟨rfl, h⟩ | ⟨rfl, h⟩
  · exact ⟨fun h => by omega, fun h2 => by grind⟩
  · exact ⟨fun h => by omega, fun h2 => by grind⟩
  · exact ⟨fun _ => by grind, fun _ => by omega⟩
abbrev eS (S : So) (ns bs : List D) (G : So) : So := S ++ .lst ns :: .lst bs :: G
theorem eS_0 {ns bs : List D} {G : So} : (eS S ns bs G)[S.length]? = some (.lst ns) := by simp [eS]
theorem eS_1 {ns bs : List D} {G : So} : (eS S ns bs G)[S.length + 1]? = some (.lst bs) := by
  unfold eS
  rw [List.getElem?_append_right (by omega), show S.length + 1 - S.length = 1 by omega]
  rfl
theorem eS_set {ns ns' bs : List D} {G : So} : (eS S ns bs G).set S.length (.lst ns') = eS S ns' bs G := by simp [eS]
theorem eS_app {ns bs : List D} {G E : So} : eS S ns bs G ++ E = eS S ns bs (G ++ E) := by simp [eS]
theorem c_off {n : Nat} {q p : Int} {b : Kd Q} (hq : Sz 401 q) (hp : Sz 401 p) (hb : Rp Q 70 (tp b) b) (hQ : Tld Q) :
    ∃ t1 t2 r, callF T (n + 3) "surd_times" [sd q 0 1 0, tp b] S = some (t1, S) ∧ callF T (n + 3) "surd_turned" [t1] S = some (t2, S) ∧ callF T (n + 3) "surd_sum" [sd p 0 1 0, t2] S = some (r, S) ∧ Rp Q 938 r ((p : Kd Q) - (q : Kd Q) * b) := by
  obtain ⟨t1, e1, k1⟩ := c_surd_times (S := S) (n := n) (rp_i (Q := Q) (n := 0) hq (by omega) hQ) hb (by omega)
  obtain ⟨t2, e2, k2⟩ := c_surd_turned (S := S) (n := n + 2) k1
  obtain ⟨r, e3, k3⟩ := c_surd_sum (S := S) (n := n) (rp_i (Q := Q) (n := 0) hp (by omega) hQ) k2 (by omega)
  refine ⟨t1, t2, r, e1, e2, e3, ?_⟩
  have e : (p : Kd Q) - (q : Kd Q) * b = (p : Kd Q) + -((q : Kd Q) * b) := by grind
  rw [e]
  exact k3.mono (by omega)
theorem c_two {n : Nat} {r : D} {v : Kd Q} (h : Rp Q 938 r v) (hQ : Tld Q) : ∃ s1 s2 : Int, callF T (n + 4) "surd_order" [r, sd 2 0 1 0] S = some (.int s1, S) ∧ callF T (n + 4) "surd_order" [r, sd (-2) 0 1 0] S = some (.int s2, S) ∧ (0 < s1 ↔ 2 < v) ∧ (s2 < 0 ↔ v < -2) := by
  obtain ⟨s1, e1, k1⟩ := c_surd_order (S := S) (n := n) h (rp_i (Q := Q) (n := 0) (B := 2) (k := 2) (Sz.lit (by decide)) (by omega) hQ) (by omega)
  obtain ⟨s2, e2, k2⟩ := c_surd_order (S := S) (n := n) h (rp_i (Q := Q) (n := 0) (B := 2) (k := -2) (Sz.lit (by decide)) (by omega) hQ) (by omega)
  refine ⟨s1, s2, e1, e2, ord_gt k1, ?_⟩
  have e : ((-2 : Int) : Kd Q) = -2 := by rw [Kd.cneg]; rfl
  rw [e] at k2
  exact ord_lt k2
noncomputable abbrev bks (w : List Int) (s : Kd Q) : List D := (List.range w.length).map fun i => tp (bs w s i)
abbrev eE (S : So) (u w : List Int) (k : Int) (g : Bool) (a b c d : Option D) : En := [some (chn u w), some (.ref (S.length + 1)), some (.int u.length), some (.tup (w.map D.int)), some (.ref S.length), some (.int k), some (.bl g), a, b, c, d]
theorem l_early_body {n j : Nat} {u w : List Int} {s : Kd Q} {ns : List D} {G : So} {a b c d : Option D} (hu : Rw u) (h : Rnd Q w s) (hul : u.length ≤ 8) (hj : j ≤ 8 * u.length) (hns : ns.length ≤ 1000) :
    ∃ (ns' : List D) (G' : So) (g : Bool) (a' b' c' d' : Option D), exSs T (callF T (n + 6)) b_early_powers.tl.tl.tl.hd.bd (eE S u w ((u.length + j : Nat) : Int) true a b c d) (eS S ns (bks w s) G) =
      some (.nx (eE S u w ((u.length + (j + 1) : Nat) : Int) g a' b' c' d'), eS S ns' (bks w s) G') ∧ (g = true ↔ 2 < off u w s j ∨ off u w s j < -2) ∧
      (2 < off u w s j → ns' = ns ++ [tp (pk Q u w (u.length + j))]) ∧ (¬ 2 < off u w s j → ns' = ns) := by
  have hL : 0 < w.length := List.length_pos_iff.mpr h.ne
  have hm := Nat.mod_lt j hL
  have hbd := tm_bd hu h.rw h.ne
  have e1 := c_steps_to (S := eS S ns (bks w s) G) (n := n + 4) (k := u.length + j) hu h.rw h.ne (by omega)
  rw [eS_app] at e1
  have hst : (eS S ns (bks w s) (G ++ [.lst (stL (tm u w) (u.length + j))]))[(eS S ns (bks w s) G).length]? = some (.lst (stL (tm u w) (u.length + j))) := by
    rw [← eS_app, get_new]
  generalize hr : (eS S ns (bks w s) G).length = r at *
  generalize hG : G ++ [C.lst (stL (tm u w) (u.length + j))] = G1 at *
  have hz := stp_sz hbd (u.length + j)
  have e2 : ((u.length + j : Nat) : Int) - (u.length : Int) = (j : Int) := by omega
  have e3 : (j : Int) % (w.length : Int) = ((j % w.length : Nat) : Int) := by simp
  obtain ⟨t1, t2, rr, f1, f2, f3, f4⟩ := c_off (S := eS S ns (bks w s) G1) (n := n + 3) (q := (stp (tm u w) (u.length + j)).1) (p := (stp (tm u w) (u.length + j)).2) (b := bk w s j) (hz.1.mono (by omega)) (hz.2.mono (by omega)) (h.back (j % w.length)).rp h.tld
  obtain ⟨s1, s2, o1, o2, o3, o4⟩ := c_two (S := eS S ns (bks w s) G1) (n := n + 2) f4 h.tld
  have x1 : exS T (callF T (n + 6)) b_early_powers.tl.tl.tl.hd.bd.hd (eE S u w ((u.length + j : Nat) : Int) true a b c d) (eS S ns (bks w s) G) = some (.nx ([some (chn u w), some (.ref (S.length + 1)), some (.int u.length), some (.tup (w.map D.int)), some (.ref S.length), some (.int ((u.length + j : Nat) : Int)), some (.bl true), a, b, some (.int ((j % w.length : Nat) : Int)), some (.ref r)]), eS S ns (bks w s) G1) := by
    refine s_asg (e_tup (e_cons (e_call (e_cons (e_var rfl) (e_cons (e_var rfl) e_nil)) e1) (e_cons (e_bin (e_bin (e_var rfl) (e_var rfl) o_sub) (e_bi (e_cons (e_var rfl) e_nil) len_map) (o_mod (by omega))) e_nil)) (len_i rfl)) ?_
    rw [e2, e3]
    rfl
  have x2 : exS T (callF T (n + 6)) b_early_powers.tl.tl.tl.hd.bd.tl.hd ([some (chn u w), some (.ref (S.length + 1)), some (.int u.length), some (.tup (w.map D.int)), some (.ref S.length), some (.int ((u.length + j : Nat) : Int)), some (.bl true), a, b, some (.int ((j % w.length : Nat) : Int)), some (.ref r)]) (eS S ns (bks w s) G1) =
      some (.nx ([some (chn u w), some (.ref (S.length + 1)), some (.int u.length), some (.tup (w.map D.int)), some (.ref S.length), some (.int ((u.length + j : Nat) : Int)), some (.bl true), some (.int (stp (tm u w) (u.length + j)).2), b, some (.int ((j % w.length : Nat) : Int)), some (.ref r)]), eS S ns (bks w s) G1) := by
    refine s_asg (d := .int (stp (tm u w) (u.length + j)).2) ?_ rfl
    rcases Nat.eq_zero_or_pos (u.length + j) with hk | hk
    · rw [hk]
      exact e_ite_f (e_cmp (e_var rfl) e_int (c_gt_f (by omega))) e_int
    · obtain ⟨k, hk⟩ : ∃ k, u.length + j = k + 1 := ⟨u.length + j - 1, by omega⟩
      rw [hk] at hst ⊢
      refine e_ite_t (e_cmp (e_var rfl) e_int (c_gt_t (by omega))) (e_ix (e_var rfl) (e_bin (e_var rfl) e_int o_sub) (ix_ref hst ?_))
      rw [show ((k + 1 : Nat) : Int) - 1 = (k : Int) by omega]
      exact stL_at (by omega)
  have hb9 : L2.atI (bks w s) ((j % w.length : Nat) : Int) = some (tp (bk w s j)) := by
    rw [at_nat]
    unfold bks
    rw [List.getElem?_map, List.getElem?_range hm]
    rfl
  have x3 : exS T (callF T (n + 6)) b_early_powers.tl.tl.tl.hd.bd.tl.tl.hd ([some (chn u w), some (.ref (S.length + 1)), some (.int u.length), some (.tup (w.map D.int)), some (.ref S.length), some (.int ((u.length + j : Nat) : Int)), some (.bl true), some (.int (stp (tm u w) (u.length + j)).2), b, some (.int ((j % w.length : Nat) : Int)), some (.ref r)]) (eS S ns (bks w s) G1) =
      some (.nx ([some (chn u w), some (.ref (S.length + 1)), some (.int u.length), some (.tup (w.map D.int)), some (.ref S.length), some (.int ((u.length + j : Nat) : Int)), some (.bl true), some (.int (stp (tm u w) (u.length + j)).2), some rr, some (.int ((j % w.length : Nat) : Int)), some (.ref r)]), eS S ns (bks w s) G1) := by
    exact s_asg (e_call (e_cons (e_sd (e_var rfl)) (e_cons (e_call (e_cons (e_call (e_cons (e_sd (e_ix (e_var rfl) (e_var rfl) (ix_ref hst (stL_at (Nat.le_refl _))))) (e_cons (e_ix (e_var rfl) (e_var rfl) (ix_ref eS_1 hb9)) e_nil)) f1) e_nil) f2) e_nil)) f3) rfl
  have ht9 : L2.atI (w.map D.int) ((j % w.length : Nat) : Int) = some (.int (tm u w (u.length + j))) := by
    rw [at_nat, List.getElem?_map]
    unfold tm
    rw [if_neg (by omega), Nat.add_sub_cancel_left, List.getElem?_eq_getElem hm]
    rfl
  obtain ⟨pd, g1, g2⟩ := c_step_at (S := eS S ns (bks w s) G1) (n := n + 1) (t := tm u w (u.length + j)) (Q := Q) hbd hst (Nat.le_refl _) (by omega) (sz9 (hbd _)) h.tld
  have g3 : pd = tp (pk Q u w (u.length + j)) := g2.tp
  rw [g3] at g1
  have hoff : off u w s j = ((stp (tm u w) (u.length + j)).2 : Kd Q) - ((stp (tm u w) (u.length + j)).1 : Kd Q) * bk w s j := rfl
  rw [← hoff] at o3 o4
  generalize hE : [some (chn u w), some (.ref (S.length + 1)), some (.int u.length), some (.tup (w.map D.int)), some (.ref S.length), some (.int ((u.length + j : Nat) : Int)), some (.bl true), some (.int (stp (tm u w) (u.length + j)).2), some rr, some (.int ((j % w.length : Nat) : Int)), some (.ref r)] = E1 at *
  have x4 : ∀ {ns' : List D}, (2 < off u w s j → ns' = ns ++ [tp (pk Q u w (u.length + j))]) → (¬ 2 < off u w s j → ns' = ns) → exS T (callF T (n + 6)) b_early_powers.tl.tl.tl.hd.bd.tl.tl.tl.hd E1 (eS S ns (bks w s) G1) = some (.nx E1, eS S ns' (bks w s) G1) := by
    intro ns' k1 k2
    subst hE
    by_cases hc : 2 < off u w s j
    · rw [k1 hc]
      refine s_if_t (t_of (e_cmp (e_call (e_cons (e_var rfl) (e_cons (e_sd e_int) e_nil)) o1) e_int (c_gt_t (o3.mpr hc)))) (exSs_nx (s_ex (e_me (e_var rfl) ?_ (e_cons (e_call (e_cons (e_var rfl) (e_cons (e_ix (e_var rfl) (e_var rfl) (ix_tup ht9)) (e_cons (e_var rfl) e_nil))) g1) e_nil) (r := (.non, eS S (ns ++ [tp (pk Q u w (u.length + j))]) (bks w s) G1)) ?_)) ss_nil)
      · simp only [meTy, eS_0]
      · simp only [meV, eS_0, eS_set]
        rw [if_pos (by rw [sizeLine_eq]; omega)]
    · rw [k2 hc]
      exact s_if_f (t_of (e_cmp (e_call (e_cons (e_var rfl) (e_cons (e_sd e_int) e_nil)) o1) e_int (c_gt_f (fun k => hc (o3.mp k))))) ss_nil
  obtain ⟨ns', k1, k2⟩ : ∃ ns', (2 < off u w s j → ns' = ns ++ [tp (pk Q u w (u.length + j))]) ∧ (¬ 2 < off u w s j → ns' = ns) := by
    by_cases hc : 2 < off u w s j
    · exact ⟨_, fun _ => rfl, fun k => absurd hc k⟩
    · exact ⟨_, fun k => absurd k hc, fun _ => rfl⟩
  have y4 := x4 k1 k2
  rw [← hoff] at f4
  obtain ⟨s3, s4, q1, q2, q3, q4⟩ := c_two (S := eS S ns' (bks w s) G1) (n := n + 2) f4 h.tld
  have x5 : exS T (callF T (n + 6)) b_early_powers.tl.tl.tl.hd.bd.tl.tl.tl.tl.hd E1 (eS S ns' (bks w s) G1) = some (.nx (E1.set 6 (some (.bl (decide (0 < s3) || decide (s4 < 0))))), eS S ns' (bks w s) G1) := by
    subst hE
    refine s_asg (d := .bl (decide (0 < s3) || decide (s4 < 0))) ?_ rfl
    by_cases hc : 0 < s3
    · rw [decide_eq_true hc, Bool.true_or]
      exact e_or_t (e_cmp (e_call (e_cons (e_var rfl) (e_cons (e_sd e_int) e_nil)) q1) e_int (c_gt_t hc))
    · rw [decide_eq_false hc, Bool.false_or]
      exact e_or_f (e_cmp (e_call (e_cons (e_var rfl) (e_cons (e_sd e_int) e_nil)) q1) e_int (c_gt_f hc)) (e_or1 (e_cmp (e_call (e_cons (e_var rfl) (e_cons (e_sd (e_neg e_int)) e_nil)) q2) e_int c_lt))
  refine ⟨ns', G1, decide (0 < s3) || decide (s4 < 0), some (.int (stp (tm u w) (u.length + j)).2), some rr, some (.int ((j % w.length : Nat) : Int)), some (.ref r), exSs_nx x1 (exSs_nx x2 (exSs_nx x3 (exSs_nx y4 (exSs_nx x5 ?_)))), ?_, k1, k2⟩
  · subst hE
    refine exSs_nx (s_asg (e_bin (e_var rfl) e_int o_add) rfl) (ss_nl ?_)
    have e : ((u.length + j : Nat) : Int) + 1 = ((u.length + (j + 1) : Nat) : Int) := by omega
    rw [e]
    rfl
  · rw [Bool.or_eq_true, decide_eq_true_iff, decide_eq_true_iff, q3, q4]
theorem l_early {n : Nat} {u w : List Int} {s : Kd Q} (hu : Rw u) (h : Rnd Q w s) (hul : u.length ≤ 8) : ∀ (m j : Nat), 8 * u.length + 1 - j = m → j ≤ 8 * u.length → ∀ (ns : List D) (G : So) (a b c d : Option D), ns.length ≤ j →
    ∃ (vs : List (Kd Q)) (ρ : En) (G' : So), exS T (callF T (n + 6)) b_early_powers.tl.tl.tl.hd (eE S u w ((u.length + j : Nat) : Int) true a b c d) (eS S ns (bks w s) G) =
      some (.nx ([some (chn u w), some (.ref (S.length + 1)), some (.int u.length), some (.tup (w.map D.int)), some (.ref S.length)] ++ ρ), eS S (ns ++ vs.map tp) (bks w s) G') ∧
      (∀ v ∈ vs, ∃ i, i ≤ 8 * u.length ∧ v = pk Q u w (u.length + i) ∧ 2 < off u w s i) ∧ (∀ i, j ≤ i → 2 < off u w s i → pk Q u w (u.length + i) ∈ vs) ∧ vs.length ≤ m := by
  intro m
  induction m with
  | zero => intro j h1 h2; omega
  | succ m ih =>
    intro j hm hj ns G a b c d hns
    obtain ⟨ns', G', g, a', b', c', d', e1, hg, k1, k2⟩ := l_early_body (S := S) (n := n) (G := G) (a := a) (b := b) (c := c) (d := d) (ns := ns) hu h hul hj (by omega)
    have hns' : ns'.length ≤ j + 1 := by
      by_cases hc : 2 < off u w s j
      · rw [k1 hc]; simp; omega
      · rw [k2 hc]; omega
    cases g with
    | false =>
      have hno : ¬ (2 < off u w s j ∨ off u w s j < -2) := fun k => Bool.false_ne_true (hg.mpr k)
      refine ⟨[], [some (.int ((u.length + (j + 1) : Nat) : Int)), some (.bl false), a', b', c', d'], G', (wh_go (t_of (e_var rfl)) e1 (wh_stop (t_of (e_var rfl)))).trans ?_, fun v k => absurd k List.not_mem_nil, ?_, Nat.zero_le _⟩
      · rw [k2 (fun k => hno (.inl k))]
        simp
      · intro i hi hoi
        exfalso
        have hall : ∀ i, j ≤ i → off u w s i ≤ 2 ∧ -2 ≤ off u w s i := by
          intro i hi
          induction i with
          | zero =>
            have : j = 0 := by omega
            subst this
            constructor <;> grind
          | succ i ih2 =>
            rcases Nat.lt_or_ge i j with h1 | h1
            · have : j = i + 1 := by omega
              subst this
              constructor <;> grind
            · exact off_bd hu h i (ih2 h1)
        have := (hall i hi).1
        grind
    | true =>
      have hyes := hg.mp rfl
      have hj2 : j < 8 * u.length := by
        rcases Nat.lt_or_ge j (8 * u.length) with h1 | h1
        · exact h1
        · have := off_stop hu h j h1
          grind
      obtain ⟨vs, ρ, G2, e2, h3, h4, h5⟩ := ih (j + 1) (by omega) (by omega) ns' G' a' b' c' d' hns'
      by_cases hc : 2 < off u w s j
      · refine ⟨pk Q u w (u.length + j) :: vs, ρ, G2, (wh_go (t_of (e_var rfl)) e1 e2).trans ?_, ?_, ?_, by rw [List.length_cons]; omega⟩
        · rw [k1 hc]
          simp
        · intro v hv
          rcases List.mem_cons.mp hv with rfl | hv
          · exact ⟨j, hj, rfl, hc⟩
          · exact h3 v hv
        · intro i hi hoi
          rcases Nat.lt_or_eq_of_le hi with h1 | h1
          · exact List.mem_cons_of_mem _ (h4 i h1 hoi)
          · rw [← h1]
            exact List.mem_cons_self
      · refine ⟨vs, ρ, G2, (wh_go (t_of (e_var rfl)) e1 e2).trans ?_, h3, ?_, by omega⟩
        · rw [k2 hc]
        · intro i hi hoi
          rcases Nat.lt_or_eq_of_le hi with h1 | h1
          · exact h4 i h1 hoi
          · rw [← h1] at hoi
            exact absurd hoi hc
end L81
end

section
set_option maxHeartbeats 1000000
namespace L81
open PySem Mn
variable {S : So} {Q : NSq}
theorem rangeL_0 (n : Nat) : rangeL 0 n = (List.range n).map fun i => .int (i : Int) := by
  unfold rangeL
  congr 1
  funext i
  rw [Int.zero_add]
theorem c_early_powers {n : Nat} {u w : List Int} {s : Kd Q} (hu : Rw u) (h : Rnd Q w s) (hul : u.length ≤ 8) : ∃ vs : List (Kd Q),
    callF T (n + 7) "early_powers" [chn u w] S = some (.ref S.length, S ++ [.lst (vs.map tp)]) ∧
    (∀ v ∈ vs, ∃ i, i ≤ 8 * u.length ∧ v = pk Q u w (u.length + i) ∧ 2 < off u w s i) ∧ (∀ i, 2 < off u w s i → pk Q u w (u.length + i) ∈ vs) ∧ vs.length ≤ 100 := by
  obtain ⟨vs, ρ, G, e, h1, h2, h5⟩ := l_early (S := S) (n := n) hu h hul (8 * u.length + 1 - 0) 0 rfl (by omega) [] [] none none none none (by simp)
  refine ⟨vs, ?_, h1, fun i hi => h2 i (by omega) hi, by omega⟩
  have hlen := h.len
  have x1 : exS T (callF T (n + 6)) b_early_powers.hd [some (chn u w), none, none, none, none, none, none, none, none, none, none] S =
      some (.nx [some (chn u w), none, some (.int u.length), some (.tup (w.map D.int)), some (.ref S.length), none, none, none, none, none, none], S ++ [.lst []]) :=
    s_asg (e_tup (e_cons (e_bi (e_cons (e_ix (e_var rfl) e_int (ix_tup rfl)) e_nil) len_map) (e_cons (e_ix (e_var rfl) e_int (ix_tup rfl)) (e_cons (e_lst e_nil (len_i rfl)) e_nil))) (len_i rfl)) rfl
  have y2 : evE T (callF T (n + 6)) (.lc (.call "back_slope" (.cons (.var 3) (.cons (.var 9) .nil))) (.nm 9) (.range (.cons (.bi .len (.cons (.var 3) .nil)) .nil)) .nil [9]) [some (chn u w), none, some (.int u.length), some (.tup (w.map D.int)), some (.ref S.length), none, none, none, none, none, none] (S ++ [.lst []]) = some (.ref (S ++ [C.lst []]).length, S ++ [.lst []] ++ [.lst (bks w s)]) := by
    refine e_lc0 (fun i : Nat => .int (i : Int)) (fun i => tp (bs w s i)) (w := none) ?_ trivial (by rw [List.length_range]; omega) ?_
    · have e := it_range1 (T := T) (cf := callF T (n + 6)) (ρ := [some (chn u w), none, some (.int u.length), some (.tup (w.map D.int)), some (.ref S.length), none, none, none, none, none, none]) (S0 := S ++ [.lst []]) (a := .bi .len (.cons (.var 3) .nil)) (e_bi (e_cons (e_var rfl) e_nil) len_map) (by omega) (by omega)
      rw [Int.toNat_natCast, rangeL_0] at e
      exact e
    · intro i hi acc
      rw [List.mem_range] at hi
      exact ⟨_, rfl, e_call (e_cons (e_var rfl) (e_cons (e_var rfl) e_nil)) (c_back_slope (n := n) h (by omega))⟩
  have hl : (S ++ [C.lst []]).length = S.length + 1 := by simp
  rw [hl, List.append_assoc] at y2
  have e9 : callF T (n + 6 + 1) "early_powers" [chn u w] S = some (gc S (.ref S.length) (eS S ([] ++ vs.map tp) (bks w s) G)) :=
    callF_of f_early_powers rfl (exSs_nx x1 (exSs_nx (s_asg y2 rfl) (exSs_nx (s_asg (e_tup (e_cons (e_var rfl) (e_cons e_bl e_nil)) (len_i rfl)) rfl) (exSs_nx e (exSs_rt (s_ret (e_var rfl)))))))
  rw [e9, List.nil_append]
  have hb : C.bel 0 (.lst (vs.map tp)) = true := by
    refine belows_of fun x hx => ?_
    obtain ⟨v, hv, rfl⟩ := List.mem_map.mp hx
    obtain ⟨i, hi, rfl, _⟩ := h1 v hv
    have hbd := tm_bd hu h.rw h.ne
    obtain ⟨pd, g1, g2⟩ := c_step_at (S := [.lst (stL (tm u w) (u.length + i))]) (r := 0) (K := u.length + i) (n := 0) (t := tm u w (u.length + i)) (Q := Q) hbd rfl (Nat.le_refl _) (by omega) (sz9 (hbd _)) h.tld
    have g3 : pd = tp (pk Q u w (u.length + i)) := g2.tp
    rw [← g3]
    exact g2.bel 0
  have e10 := gc_cell (S := S) (E := []) (c := .lst (vs.map tp)) (E2 := .lst (bks w s) :: G) hb
  simp only [List.length_nil, Nat.add_zero, List.append_nil] at e10
  rw [← e10]
theorem pk_rp {u w : List Int} (hu : Rw u) (hw : Rw w) (h0 : w ≠ []) (hQ : Tld Q) {k : Nat} (hk : k ≤ 100) : Rp Q (4 * k + 9) (tp (pk Q u w k)) (pk Q u w k) := by
  have hbd := tm_bd hu hw h0
  obtain ⟨pd, g1, g2⟩ := c_step_at (S := [.lst (stL (tm u w) k)]) (r := 0) (K := k) (n := 0) (t := tm u w k) (Q := Q) hbd rfl (Nat.le_refl _) hk (sz9 (hbd _)) hQ
  have g3 : pd = tp (pk Q u w k) := g2.tp
  rw [← g3]
  exact g2
theorem l_most {n : Nat} {W : Option (Nat × List D)} (hW : Walk.stays W S) {a b : Option D} : ∀ (vs : List (Kd Q)) (m : Kd Q) (c : Option D), (∀ v ∈ vs, Rp Q 500 (tp v) v) → Rp Q 500 (tp m) m → ∃ (m' : Kd Q) (c' : Option D),
    forL W (fun x ρ S => (asgG (.nm 3) x ρ).bind fun ρ => exSs T (callF T (n + 4)) b_power_limit.tl.tl.hd.bd ρ S) (vs.map tp) [a, b, some (tp m), c] S = some (.nx [a, b, some (tp m'), c'], S) ∧ (m' = m ∨ m' ∈ vs) ∧ m ≤ m' ∧ ∀ v ∈ vs, v ≤ m'
  | [], m, c, _, _ => ⟨m, c, rfl, .inl rfl, by grind, fun v h => absurd h List.not_mem_nil⟩
  | v :: vs, m, c, hv, hm => by
    have hv0 := hv v List.mem_cons_self
    obtain ⟨s1, o1, o2⟩ := c_surd_order (S := S) (n := n) hv0 hm (by omega)
    have o3 := ord_gt o2
    rw [List.map_cons]
    by_cases hc : m < v
    · obtain ⟨m', c', e1, e2, e3, e4⟩ := l_most hW vs v (some (tp v)) (fun x hx => hv x (List.mem_cons_of_mem _ hx)) hv0
      refine ⟨m', c', ?_, ?_, by grind, ?_⟩
      · rw [forL_cons_nx (ρ1 := [a, b, some (tp v), some (tp v)]) (S1 := S) ?_ hW]
        · exact e1
        · show exSs T (callF T (n + 4)) b_power_limit.tl.tl.hd.bd [a, b, some (tp m), some (tp v)] S = _
          exact exSs_nx (s_asg (e_ite_t (e_cmp (e_call (e_cons (e_var rfl) (e_cons (e_var rfl) e_nil)) o1) e_int (c_gt_t (o3.mpr hc))) (e_var rfl)) rfl) ss_nil
      · rcases e2 with rfl | e2
        · exact .inr List.mem_cons_self
        · exact .inr (List.mem_cons_of_mem _ e2)
      · intro x hx
        rcases List.mem_cons.mp hx with rfl | hx
        · exact e3
        · exact e4 x hx
    · obtain ⟨m', c', e1, e2, e3, e4⟩ := l_most hW vs m (some (tp v)) (fun x hx => hv x (List.mem_cons_of_mem _ hx)) hm
      refine ⟨m', c', ?_, ?_, e3, ?_⟩
      · rw [forL_cons_nx (ρ1 := [a, b, some (tp m), some (tp v)]) (S1 := S) ?_ hW]
        · exact e1
        · show exSs T (callF T (n + 4)) b_power_limit.tl.tl.hd.bd [a, b, some (tp m), some (tp v)] S = _
          exact exSs_nx (s_asg (e_ite_f (e_cmp (e_call (e_cons (e_var rfl) (e_cons (e_var rfl) e_nil)) o1) e_int (c_gt_f (fun k => hc (o3.mp k)))) (e_var rfl)) rfl) ss_nil
      · rcases e2 with rfl | e2
        · exact .inl rfl
        · exact .inr (List.mem_cons_of_mem _ e2)
      · intro x hx
        rcases List.mem_cons.mp hx with rfl | hx
        · grind
        · exact e4 x hx
theorem atI_0 {α : Type} {x : α} {xs : List α} : L2.atI (x :: xs) 0 = some x := at_nat (k := 0)
theorem c_power_max {n : Nat} {u w : List Int} {s : Kd Q} (hu : Rw u) (h : Rnd Q w s) (hul : u.length ≤ 8) : ∃ (vs : List (Kd Q)) (m : Kd Q),
    callF T (n + 8) "power_limit" [chn u w] S = some (tp m, S) ∧ Rp Q 500 (tp m) m ∧ m ∈ aheads Q u w ++ rounds w s ++ vs ∧ (∀ v ∈ aheads Q u w ++ rounds w s ++ vs, v ≤ m) ∧
    (∀ v ∈ vs, ∃ i, i ≤ 8 * u.length ∧ v = pk Q u w (u.length + i) ∧ 2 < off u w s i) ∧ (∀ i, 2 < off u w s i → pk Q u w (u.length + i) ∈ vs) := by
  have e1 := c_ahead_powers (S := S) (n := n + 1) hu h.rw h.ne (by omega) h.tld
  generalize hA : (aheads Q u w).map tp = A at *
  have e2 := c_round_powers (S := S ++ [.lst A]) (n := n) (u := u) h
  generalize hR : (rounds w s).map tp = R at *
  obtain ⟨vs, e3, h1, h2, h5⟩ := c_early_powers (S := S ++ [.lst A] ++ [.lst R] ++ [.lst (A ++ R)]) (n := n) hu h hul
  refine ⟨vs, ?_⟩
  generalize hE : vs.map tp = E at *
  have hrp : ∀ v ∈ aheads Q u w ++ rounds w s ++ vs, Rp Q 500 (tp v) v := by
    intro v hv
    rw [List.mem_append, List.mem_append] at hv
    rcases hv with (hv | hv) | hv
    · unfold aheads at hv
      obtain ⟨p, hp, rfl⟩ := List.mem_map.mp hv
      obtain ⟨x, i⟩ := p
      have hi := List.mem_zipIdx hp
      have hx : x = tm u w i := by
        rw [hi.2.2]
        unfold tm
        rw [if_pos (by omega), List.getElem?_eq_getElem (by omega)]
        simp
      have := pk_rp (Q := Q) hu h.rw h.ne h.tld (k := i) (by omega)
      unfold pk at this
      rw [← hx] at this
      exact this.mono (by omega)
    · unfold rounds at hv
      obtain ⟨p, hp, rfl⟩ := List.mem_map.mp hv
      obtain ⟨x, i⟩ := p
      have hi := List.mem_zipIdx hp
      have hx : x ∈ w := by rw [hi.2.2]; exact List.getElem_mem _
      exact (c_rv (S := []) (n := 0) h (sz9 (h.rw x hx))).2.mono (by omega)
    · obtain ⟨i, hi, rfl, _⟩ := h1 v hv
      exact (pk_rp (Q := Q) hu h.rw h.ne h.tld (k := u.length + i) (by omega)).mono (by omega)
  have hlens : A.length ≤ 8 ∧ R.length ≤ 12 := by
    rw [← hA, ← hR]
    simp [aheads, rounds, h.len, hul]
  have hlE : E.length ≤ 100 := by rw [← hE]; simpa using h5
  have hall : A ++ R ++ E = (aheads Q u w ++ rounds w s ++ vs).map tp := by rw [← hA, ← hR, ← hE, List.map_append, List.map_append]
  have hne : aheads Q u w ++ rounds w s ++ vs ≠ [] := by
    intro k
    have k2 := congrArg List.length k
    have k3 := List.length_pos_iff.mpr h.ne
    simp only [List.length_append, List.length_nil, aheads, rounds, List.length_map, List.length_zipIdx] at k2
    omega
  generalize aheads Q u w ++ rounds w s ++ vs = all at *
  cases all with
  | nil => exact absurd rfl hne
  | cons v0 rest =>
  generalize hS : S ++ [.lst A] ++ [.lst R] ++ [.lst (A ++ R)] ++ [.lst E] = S4 at *
  have x1 : evE T (callF T (n + 7)) (.bin .add (.bin .add (.call "ahead_powers" (.cons (.var 0) .nil)) (.call "round_powers" (.cons (.var 0) .nil))) (.call "early_powers" (.cons (.var 0) .nil))) [some (chn u w), none, none, none] S = some (.ref S4.length, S4 ++ [.lst ((v0 :: rest).map tp)]) := by
    rw [← hall]
    refine e_bin (e_bin (e_call (e_cons (e_var rfl) e_nil) e1) (e_call (e_cons (e_var rfl) e_nil) e2) (o_addL (xs := A) (ys := R) (by simp) (by simp) (by omega))) (e_call (e_cons (e_var rfl) e_nil) e3) ?_
    refine o_addL (xs := A ++ R) (ys := E) ?_ ?_ (by simp; omega)
    · rw [← hS]; simp
    · rw [← hS]; simp
  obtain ⟨m', c', f1, f2, f3, f4⟩ := l_most (S := S4 ++ [.lst ((v0 :: rest).map tp)] ++ [.lst (rest.map tp)]) (W := some ((S4 ++ [C.lst ((v0 :: rest).map tp)]).length, rest.map tp)) (n := n + 3) (by simp [Walk.stays]) (a := some (chn u w)) (b := some (.ref S4.length)) rest v0 none (fun v hv => hrp v (List.mem_cons_of_mem _ hv)) (hrp v0 List.mem_cons_self)
  refine ⟨m', ?_, ?_, ?_, ?_, h1, h2⟩
  · have x3 : exS T (callF T (n + 7)) b_power_limit.tl.tl.hd [some (chn u w), some (.ref S4.length), some (tp v0), none] (S4 ++ [.lst ((v0 :: rest).map tp)]) = some (.nx [some (chn u w), some (.ref S4.length), some (tp m'), c'], S4 ++ [.lst ((v0 :: rest).map tp)] ++ [.lst (rest.map tp)]) := by
      refine s_fr (it_ex (x := .ref (S4 ++ [C.lst ((v0 :: rest).map tp)]).length) (S1 := S4 ++ [.lst ((v0 :: rest).map tp)] ++ [.lst (rest.map tp)]) (xs := rest.map tp) (e_sl (e_var rfl) (eo_some e_int) eo_none ?_) ?_) ?_
      · simp only [slV, Mn.listOf, get_new]
        rw [show (1 : Int) = ((1 : Nat) : Int) from rfl, cut_from (by simp)]
        rfl
      · simp only [Mn.itemsOf, get_new]
      · have e : srcOf (S4 ++ [.lst ((v0 :: rest).map tp)] ++ [.lst (rest.map tp)]) (.ref (S4 ++ [C.lst ((v0 :: rest).map tp)]).length) = some ((S4 ++ [C.lst ((v0 :: rest).map tp)]).length, rest.map tp) := by
          simp only [srcOf, get_new]
        rw [e]
        exact f1
    have e9 : callF T (n + 7 + 1) "power_limit" [chn u w] S = some (gc S (tp m') (S4 ++ [.lst ((v0 :: rest).map tp)] ++ [.lst (rest.map tp)])) :=
      callF_of f_power_limit rfl (exSs_nx (s_asg x1 rfl) (exSs_nx (s_asg (e_ix (e_var rfl) e_int (ix_ref get_new atI_0)) rfl) (exSs_nx x3 (exSs_rt (s_ret (e_var rfl))))))
    rw [e9, ← hS]
    simp only [List.append_assoc]
    rw [gc_app]
    rcases f2 with rfl | f2
    · exact (hrp _ List.mem_cons_self).bel 0
    · exact (hrp _ (List.mem_cons_of_mem _ f2)).bel 0
  · rcases f2 with rfl | f2
    · exact hrp _ List.mem_cons_self
    · exact hrp _ (List.mem_cons_of_mem _ f2)
  · rcases f2 with rfl | f2
    · exact List.mem_cons_self
    · exact List.mem_cons_of_mem _ f2
  · intro v hv
    rcases List.mem_cons.mp hv with rfl | hv
    · exact f3
    · exact f4 v hv
end L81
end

section
set_option maxHeartbeats 1000000
namespace L81
open PySem Mn
variable {S : So} {Q : NSq}
noncomputable def ky (v : Kd Q) : List L2.Key := (keyT (tp v)).getD []
theorem ky_rp {B : Nat} {v : Kd Q} (h : Rp Q B (tp v) v) : keyT (tp v) = some (ky v) := by
  obtain ⟨a, b, c, d, e, _⟩ := h
  unfold ky
  rw [e]
  rfl
theorem ky_inj {B B' : Nat} {v v' : Kd Q} (h : Rp Q B (tp v) v) (h' : Rp Q B' (tp v') v') (e : ky v = ky v') : v = v' := by
  have e1 := ky_rp h
  have e2 := ky_rp h'
  rw [e] at e1
  obtain ⟨a, b, c, d, f1, k1⟩ := h
  obtain ⟨a', b', c', d', f2, k2⟩ := h'
  rw [f1] at e1
  rw [f2] at e2
  have e3 : keyT (sd a b c d) = keyT (sd a' b' c' d') := by rw [e1, e2]
  have e4 : keyT (sd a b c d) = some [.inl a, .inl b, .inl c, .inl d] := rfl
  have e5 : keyT (sd a' b' c' d') = some [.inl a', .inl b', .inl c', .inl d'] := rfl
  rw [e4, e5] at e3
  simp only [Option.some.injEq, List.cons.injEq, Sum.inl.injEq, and_true] at e3
  obtain ⟨rfl, rfl, rfl, rfl⟩ := e3
  rw [← k1.2.1, ← k2.2.1]
abbrev lf (w : List Int) (s : Kd Q) (j : Nat) : Kd Q := act (w.drop j) s
theorem lf_rnd {w : List Int} {s : Kd Q} (h : Rnd Q w s) (j : Nat) : Rnd Q (rot w j) (lf w s j) := h.rot j
theorem lf_step {w : List Int} {s : Kd Q} (h : Rnd Q w s) {j : Nat} (hj : j < w.length) : 1 / lf w s j = (w[j] : Kd Q) + lf w s (j + 1) ∧ 0 < lf w s (j + 1) ∧ lf w s (j + 1) < 1 := by
  have e : lf w s j = 1 / ((w[j] : Kd Q) + lf w s (j + 1)) := by
    unfold lf
    rw [List.drop_eq_getElem_cons hj]
    rfl
  have p1 := (lf_rnd h (j + 1)).fix
  have t1 := c_one_le (Q := Q) (h.rw _ (List.getElem_mem hj)).1
  refine ⟨?_, p1.1, ?_⟩
  · rw [e]
    have h1 : ∀ z : Kd Q, 1 / (1 / z) = z := fun z => by
      have h1 : (1 : Kd Q) / z = z⁻¹ := by grind
      have h2 : (1 : Kd Q) / z⁻¹ = z⁻¹⁻¹ := by grind
      rw [h1, h2, Kd.inv_inv]
    exact h1 _
  · have r := lf_rnd h (j + 1)
    have hne := r.ne
    have hps := r.rw.ps
    generalize rot w (j + 1) = q at *
    cases q with
    | nil => exact absurd rfl hne
    | cons t q =>
      rw [← r.fix.2]
      exact act_lt hps r.fix.1
theorem lf_end {w : List Int} {s : Kd Q} : lf w s w.length = s := by
  unfold lf
  rw [List.drop_length]
  rfl
theorem lf_zero {w : List Int} {s : Kd Q} (h : Rnd Q w s) : lf w s 0 = s := h.fix.2
noncomputable abbrev seenL (w : List Int) (s : Kd Q) (j : Nat) : List (List L2.Key × D) := (List.range j).map fun i => (ky (lf w s i), .int (i : Int))
theorem seen_any {w : List Int} {s : Kd Q} (h : Rnd Q w s) {j i : Nat} : ((seenL w s j).any fun kv => decide (kv.1 = ky (lf w s i))) = true ↔ ∃ i', i' < j ∧ lf w s i' = lf w s i := by
  rw [List.any_eq_true]
  constructor
  · rintro ⟨kv, hkv, e⟩
    obtain ⟨i', hi', rfl⟩ := List.mem_map.mp hkv
    exact ⟨i', List.mem_range.mp hi', ky_inj (lf_rnd h i').rp (lf_rnd h i).rp (of_decide_eq_true e)⟩
  · rintro ⟨i', hi', e⟩
    exact ⟨_, List.mem_map.mpr ⟨i', List.mem_range.mpr hi', rfl⟩, decide_eq_true (by rw [e])⟩
theorem seen_find {w : List Int} {s : Kd Q} (h : Rnd Q w s) {j i : Nat} (hx : ∃ i', i' < j ∧ lf w s i' = lf w s i) : ∃ i', i' < j ∧ lf w s i' = lf w s i ∧ ((seenL w s j).find? fun kv => decide (kv.1 = ky (lf w s i))).map (·.2) = some (.int (i' : Int)) := by
  cases hf : (seenL w s j).find? fun kv => decide (kv.1 = ky (lf w s i)) with
  | none =>
    rw [List.find?_eq_none] at hf
    obtain ⟨i', hi', e⟩ := hx
    exact absurd (decide_eq_true (by rw [e])) (hf _ (List.mem_map.mpr ⟨i', List.mem_range.mpr hi', rfl⟩))
  | some kv =>
    have h1 := List.find?_some hf
    obtain ⟨i', hi', rfl⟩ := List.mem_map.mp (List.mem_of_find?_eq_some hf)
    exact ⟨i', List.mem_range.mp hi', ky_inj (lf_rnd h i').rp (lf_rnd h i).rp (of_decide_eq_true h1), rfl⟩
theorem seen_put {w : List Int} {s : Kd Q} (h : Rnd Q w s) {j : Nat} (hx : ¬ ∃ i', i' < j ∧ lf w s i' = lf w s j) : putKv (seenL w s j) (ky (lf w s j)) (.int (j : Int)) = seenL w s (j + 1) := by
  unfold putKv
  rw [if_neg (fun k => hx ((seen_any h).mp k))]
  unfold seenL
  rw [List.range_succ, List.map_append]
  rfl
noncomputable abbrev cS (S : So) (w : List Int) (s : Kd Q) (j : Nat) : So := S ++ [.lst ((w.take j).map D.int), .dT (seenL w s j)]
theorem cS_0 {w : List Int} {s : Kd Q} {j : Nat} : (cS S w s j)[S.length]? = some (.lst ((w.take j).map D.int)) := by simp
theorem cS_1 {w : List Int} {s : Kd Q} {j : Nat} : (cS S w s j)[S.length + 1]? = some (.dT (seenL w s j)) := by
  rw [List.getElem?_append_right (by omega), show S.length + 1 - S.length = 1 by omega]
  rfl
theorem rp_ne0 {B : Nat} {v : Kd Q} (h : Rp Q B (tp v) v) (hv : v ≠ 0) : cpV .ne (tp v) (sd 0 0 1 0) S = some true := by
  obtain ⟨a, b, c, d, e, k⟩ := h
  rw [e, c_ne4]
  have : ¬ [a, b, c, d] = [0, 0, 1, 0] := by
    intro k2
    simp only [List.cons.injEq, and_true] at k2
    obtain ⟨rfl, rfl, rfl, rfl⟩ := k2
    apply hv
    rw [← k.2.1]
    unfold vl
    rw [Kd.c0, Kd.c1]
    grind
  rw [decide_eq_false this]
  rfl
def Told (w : List Int) (s : Kd Q) (i j : Nat) : Prop := i < j ∧ j ≤ w.length ∧ lf w s i = lf w s j
theorem l_chain_of {n : Nat} {w : List Int} {s : Kd Q} (h : Rnd Q w s) : ∀ (m j : Nat) (t : Option D), w.length - j = m → j ≤ w.length → ∃ (i J : Nat) (t' : Option D), Told w s i J ∧
    exS T (callF T (n + 5)) b_chain_of.tl.tl.hd [some (tp s), none, some (tp (lf w s j)), some (.ref S.length), some (.ref (S.length + 1)), t] (cS S w s j) =
      some (.nx [some (tp s), none, some (tp (lf w s J)), some (.ref S.length), some (.ref (S.length + 1)), t'], cS S w s J) ∧
      ((seenL w s J).find? fun kv => decide (kv.1 = ky (lf w s J))).map (·.2) = some (.int (i : Int)) := by
  intro m
  induction m with
  | zero =>
    intro j t hm hj
    have hj2 : j = w.length := by omega
    have hl : 0 < w.length := List.length_pos_iff.mpr h.ne
    have hx : ∃ i', i' < j ∧ lf w s i' = lf w s j := ⟨0, by omega, by rw [hj2, lf_end, lf_zero h]⟩
    obtain ⟨i, h1, h2, h3⟩ := seen_find h hx
    refine ⟨i, j, t, ⟨h1, hj, h2⟩, wh_stop (t_of (e_and_t (e_cmp (e_var rfl) (e_tup (e_cons e_int (e_cons e_int (e_cons e_int (e_cons e_int e_nil)))) (len_i rfl)) (rp_ne0 (lf_rnd h j).rp ?_)) (e_and1 (e_cmp (e_var rfl) (e_var rfl) ?_)))), h3⟩
    · have := (lf_rnd h j).fix.1
      grind
    · simp only [cpV, inV, cS_1, ky_rp (lf_rnd h j).rp, Option.map_some]
      rw [(seen_any h).mpr hx]
      rfl
  | succ m ih =>
    intro j t hm hj
    have hj2 : j < w.length := by omega
    have hlen := h.len
    have hp := (lf_rnd h j).fix.1
    have hv0 : lf w s j ≠ 0 := by grind
    by_cases hx : ∃ i', i' < j ∧ lf w s i' = lf w s j
    · obtain ⟨i, h1, h2, h3⟩ := seen_find h hx
      refine ⟨i, j, t, ⟨h1, hj, h2⟩, wh_stop (t_of (e_and_t (e_cmp (e_var rfl) (e_tup (e_cons e_int (e_cons e_int (e_cons e_int (e_cons e_int e_nil)))) (len_i rfl)) (rp_ne0 (lf_rnd h j).rp hv0)) (e_and1 (e_cmp (e_var rfl) (e_var rfl) ?_)))), h3⟩
      simp only [cpV, inV, cS_1, ky_rp (lf_rnd h j).rp, Option.map_some]
      rw [(seen_any h).mpr hx]
      rfl
    · obtain ⟨i, J, t', h1, h2, h3⟩ := ih (j + 1) (some (tp (1 / lf w s j))) (by omega) (by omega)
      refine ⟨i, J, t', h1, wh_go (t_of (e_and_t (e_cmp (e_var rfl) (e_tup (e_cons e_int (e_cons e_int (e_cons e_int (e_cons e_int e_nil)))) (len_i rfl)) (rp_ne0 (lf_rnd h j).rp hv0)) (e_and1 (e_cmp (e_var rfl) (e_var rfl) ?_)))) ?_ h2, h3⟩
      · simp only [cpV, inV, cS_1, ky_rp (lf_rnd h j).rp, Option.map_some]
        cases hb : (seenL w s j).any fun kv => decide (kv.1 = ky (lf w s j)) with
        | true => exact absurd ((seen_any h).mp hb) hx
        | false => rfl
      · obtain ⟨k1, k2, k3⟩ := lf_step h hj2
        obtain ⟨r, f1, f2⟩ := c_surd_back (S := S ++ [.lst ((w.take j).map D.int), .dT (seenL w s (j + 1))]) (n := n + 2) (lf_rnd h j).rp hv0 (by omega)
        have f3 : r = tp (1 / lf w s j) := f2.tp
        rw [f3] at f1 f2
        obtain ⟨q, g1, g2, g3⟩ := c_whole_part (S := S ++ [.lst ((w.take j).map D.int), .dT (seenL w s (j + 1))]) (n := n + 3) f2 (by omega)
        have hq : q = w[j] := floor_uniq g2 g3 (by grind) (by grind)
        rw [hq] at g1
        have hb := h.rw _ (List.getElem_mem hj2)
        obtain ⟨r2, f4, f5⟩ := c_surd_sum (S := cS S w s (j + 1)) (n := n + 2) f2 (rp_i (Q := Q) (n := 0) (B := 6) (k := -w[j]) ((sz9 hb).neg.mono (by omega)) (by omega) h.tld) (by omega)
        have e5 : 1 / lf w s j + ((-w[j] : Int) : Kd Q) = lf w s (j + 1) := by
          rw [k1, Kd.cneg]
          grind
        rw [e5] at f5
        have f6 : r2 = tp (lf w s (j + 1)) := f5.tp
        rw [f6] at f4
        have hlen2 : biV .len [.ref S.length] (cS S w s j) = some (.int (j : Int), cS S w s j) := by
          simp only [biV, Mn.itemsOf, cS_0, Option.map_some, List.length_map, List.length_take]
          rw [Nat.min_eq_left hj]
        have hap : meV .append (.ref S.length) [.int w[j]] (S ++ [.lst ((w.take j).map D.int), .dT (seenL w s (j + 1))]) = some (.non, cS S w s (j + 1)) := by
          have e0 : (S ++ [C.lst ((w.take j).map D.int), .dT (seenL w s (j + 1))])[S.length]? = some (.lst ((w.take j).map D.int)) := by simp
          simp only [meV, e0]
          rw [if_pos (by rw [sizeLine_eq]; simp; omega)]
          have e1 : (w.take j).map D.int ++ [D.int w[j]] = (w.take (j + 1)).map D.int := by
            rw [List.take_add_one, List.getElem?_eq_getElem hj2]
            simp only [Option.toList_some, List.map_append, List.map_cons, List.map_nil]
          rw [e1]
          simp
        have hput : putV (.ref (S.length + 1)) (tp (lf w s j)) (.int (j : Int)) (cS S w s j) = some (S ++ [.lst ((w.take j).map D.int), .dT (seenL w s (j + 1))]) := by
          simp only [putV, cS_1, ky_rp (lf_rnd h j).rp]
          rw [if_pos (by simp; omega), seen_put h hx]
          congr 1
          rw [List.set_append_right _ _ (by omega), show S.length + 1 - S.length = 1 by omega]
          rfl
        refine exSs_nx (s_if_f (t_of (e_cmp (e_bi (e_cons (e_var rfl) e_nil) hlen2) (e_glob (i := 200) (by kernel_rfl)) (c_eq_f (by omega)))) ss_nil) (exSs_nx (s_put (e_bi (e_cons (e_var rfl) e_nil) hlen2) (e_var rfl) (e_var rfl) hput) (exSs_nx (s_asg (e_call (e_cons (e_var rfl) e_nil) f1) rfl) (exSs_nx (s_ex (e_me (e_var rfl) ?_ (e_cons (e_call (e_cons (e_var rfl) e_nil) g1) e_nil) hap)) (exSs_nx (s_asg (e_call (e_cons (e_var rfl) (e_cons (e_sd (e_neg (e_ix (e_var rfl) (e_neg e_int) (ix_ref cS_0 ?_)))) e_nil)) f4) rfl) (ss_nl rfl)))))
        · simp only [meTy]
          have e0 : (S ++ [C.lst ((w.take j).map D.int), .dT (seenL w s (j + 1))])[S.length]? = some (.lst ((w.take j).map D.int)) := by simp
          rw [e0]
        · rw [List.take_add_one, List.getElem?_eq_getElem hj2]
          simp only [Option.toList_some, List.map_append, List.map_cons, List.map_nil]
          exact at_last
theorem cut_int {xs : List Int} {i : Nat} (h : i ≤ xs.length) : cut (xs.map D.int) none (some (i : Int)) = (xs.take i).map D.int ∧ cut (xs.map D.int) (some (i : Int)) none = (xs.drop i).map D.int := by
  rw [cut_to (by simpa using h), cut_from (by simpa using h), List.map_take, List.map_drop]
  exact ⟨rfl, rfl⟩
theorem c_chain_of {n : Nat} {w : List Int} {s : Kd Q} (h : Rnd Q w s) : ∃ (i J : Nat), Told w s i J ∧ callF T (n + 6) "chain_of" [tp s] S = some (chn (w.take i) ((w.take J).drop i), S) := by
  obtain ⟨i, J, t', h1, h2, h3⟩ := l_chain_of (S := S) (n := n) h w.length 0 none rfl (by omega)
  refine ⟨i, J, h1, ?_⟩
  have hs := h.rp
  have hp := h.fix.1
  have hlt : s < 1 := by
    have hl : 0 < w.length := List.length_pos_iff.mpr h.ne
    have := (lf_step h (j := w.length - 1) (by omega)).2.2
    rw [show w.length - 1 + 1 = w.length by omega, lf_end] at this
    exact this
  obtain ⟨s1, f1, f2⟩ := c_surd_sign (S := S) (n := n + 4) hs (by omega)
  obtain ⟨r, f3, f4⟩ := c_surd_sum (S := S) (n := n + 2) hs (rp_i (Q := Q) (n := 0) (B := 2) (k := -1) (Sz.lit (by decide)) (by omega) h.tld) (by omega)
  obtain ⟨s2, f5, f6⟩ := c_surd_sign (S := S) (n := n + 4) f4 (by omega)
  have g1 : s1 = 1 := by
    rcases f2 with ⟨h, _⟩ | ⟨_, h⟩ | ⟨_, h⟩
    · exact h
    · grind
    · grind
  have g2 : s2 = -1 := by
    rw [Kd.cneg, Kd.c1] at f6
    rcases f6 with ⟨_, h⟩ | ⟨_, h⟩ | ⟨h, _⟩
    · grind
    · grind
    · exact h
  subst g1
  subst g2
  rw [lf_zero h] at h2
  have e0 : S ++ [C.lst []] ++ [.dT []] = cS S w s 0 := by
    unfold cS seenL
    simp
  have x1 : exS T (callF T (n + 5)) b_chain_of.hd [some (tp s), none, none, none, none, none] S = some (.nx [some (tp s), none, none, none, none, none], S) :=
    s_if_f (t_of (e_or_f (e_cmp (e_call (e_cons (e_var rfl) e_nil) f1) e_int (c_le_f (by omega))) (e_or1 (e_cmp (e_call (e_cons (e_call (e_cons (e_var rfl) (e_cons (e_sd (e_neg e_int)) e_nil)) f3) e_nil) f5) e_int (c_ge_f (by omega)))))) ss_nil
  have hdT : evE T (callF T (n + 5)) .dT [some (tp s), none, none, none, none, none] (S ++ [C.lst []]) = some (.ref (S.length + 1), cS S w s 0) := by
    rw [← e0]
    simp [evE]
  have x2 : exS T (callF T (n + 5)) b_chain_of.tl.hd [some (tp s), none, none, none, none, none] S = some (.nx [some (tp s), none, some (tp s), some (.ref S.length), some (.ref (S.length + 1)), none], cS S w s 0) :=
    s_asg (e_tup (e_cons (e_var rfl) (e_cons (e_lst e_nil (len_i rfl)) (e_cons hdT e_nil))) (len_i rfl)) rfl
  have hlen := h.len
  obtain ⟨hi1, hi2, hi3⟩ := h1
  have hJ : (w.take J).length = J := by simp; omega
  have hlen2 : biV .len [.ref S.length] (cS S w s J) = some (.int (J : Int), cS S w s J) := by
    simp only [biV, Mn.itemsOf, cS_0, Option.map_some, List.length_map, hJ]
  have hget : meV .get2 (.ref (S.length + 1)) [tp (lf w s J), .int (J : Int)] (cS S w s J) = some (.int (i : Int), cS S w s J) := by
    simp only [meV, cS_1, ky_rp (lf_rnd h J).rp, h3, Option.getD_some]
  have hc := cut_int (xs := w.take J) (i := i) (by omega)
  have htk : (w.take J).take i = w.take i := by rw [List.take_take, Nat.min_eq_left (by omega)]
  refine (callF_of f_chain_of rfl (exSs_nx x1 (exSs_nx x2 (exSs_nx h2 (exSs_nx (s_asg (e_me (e_var rfl) ?_ (e_cons (e_var rfl) (e_cons (e_bi (e_cons (e_var rfl) e_nil) hlen2) e_nil)) hget) rfl) (exSs_rt (s_ret (d := chn (w.take i) ((w.take J).drop i)) (S1 := cS S w s J) ?_))))))).trans ?_
  · simp only [meTy, cS_1]
  · have y1 : evE T (callF T (n + 5)) (.sl (.var 3) .none (.some (.var 1))) [some (tp s), some (.int (i : Int)), some (tp (lf w s J)), some (.ref S.length), some (.ref (S.length + 1)), t'] (cS S w s J) = some (.ref (cS S w s J).length, cS S w s J ++ [.lst ((w.take i).map D.int)]) := by
      refine e_sl (e_var rfl) eo_none (eo_some (e_var rfl)) ?_
      simp only [slV, Mn.listOf, cS_0]
      rw [hc.1, htk]
    have y2 : evE T (callF T (n + 5)) (.sl (.var 3) (.some (.var 1)) .none) [some (tp s), some (.int (i : Int)), some (tp (lf w s J)), some (.ref S.length), some (.ref (S.length + 1)), t'] (cS S w s J) = some (.ref (cS S w s J).length, cS S w s J ++ [.lst (((w.take J).drop i).map D.int)]) := by
      refine e_sl (e_var rfl) (eo_some (e_var rfl)) eo_none ?_
      simp only [slV, Mn.listOf, cS_0]
      rw [hc.2]
    exact e_tup (e_cons (e_biA (E := [.lst ((w.take i).map D.int)]) (e_cons y1 e_nil) (by simp only [biV, Mn.itemsOf, get_new, Option.map_some]) (ints_bel _ _)) (e_cons (e_biA (E := [.lst (((w.take J).drop i).map D.int)]) (e_cons y2 e_nil) (by simp only [biV, Mn.itemsOf, get_new, Option.map_some]) (ints_bel _ _)) e_nil)) (len_i rfl)
  · unfold cS
    rw [gc_app]
    show belows 0 [_, _] = true
    simp only [belows, ints_bel, Bool.and_self]
theorem told_rnd {w : List Int} {s : Kd Q} (h : Rnd Q w s) {i J : Nat} (ht : Told w s i J) : Rnd Q ((w.take J).drop i) (lf w s i) ∧ act (w.take i) (lf w s i) = s := by
  obtain ⟨h1, h2, h3⟩ := ht
  have r := lf_rnd h i
  have hlen := h.len
  have e : w.drop i = (w.take J).drop i ++ w.drop J := by
    have : w.drop i = (w.take J ++ w.drop J).drop i := by rw [List.take_append_drop]
    rw [this, List.drop_append_of_le_length (by simp; omega)]
  refine ⟨⟨fun t ht => h.rw t (List.mem_of_mem_take (List.mem_of_mem_drop ht)), ?_, by simp; omega, ⟨r.fix.1, ?_⟩, r.irr, h.tld⟩, ?_⟩
  · intro k
    have := congrArg List.length k
    simp at this
    omega
  · have e2 : lf w s i = act ((w.take J).drop i) (lf w s J) := by
      show act (w.drop i) s = _
      rw [e, act_app]
    rw [← h3] at e2
    exact e2.symm
  · show act (w.take i) (act (w.drop i) s) = s
    rw [← act_app, List.take_append_drop]
    exact h.fix.2
end L81
end

section
set_option maxHeartbeats 1000000
namespace L81
open PySem Mn
variable {S : So} {Q : NSq}
def rvj (u w : List Int) (s : Kd Q) (j : Nat) : Kd Q := ((2 + tm u w (u.length + j) : Int) : Kd Q) + bk w s j
structure Lim (Q : NSq) (u w : List Int) (s m : Kd Q) : Prop where
  up : ∀ k, pk Q u w k ≤ m
  rv : ∀ j, rvj u w s j ≤ m
  one : (∃ k, m = pk Q u w k) ∨ (∃ j, j < w.length ∧ m = rvj u w s j)
theorem bk_per (w : List Int) (s : Kd Q) (j n : Nat) : bk w s (j + n * w.length) = bk w s j := by
  unfold bk
  rw [Nat.add_mul_mod_self_right]
theorem tm_per (u w : List Int) (j n : Nat) : tm u w (u.length + (j + n * w.length)) = tm u w (u.length + j) := by
  unfold tm
  rw [if_neg (by omega), if_neg (by omega), Nat.add_sub_cancel_left, Nat.add_sub_cancel_left, Nat.add_mul_mod_self_right]
theorem rvj_mod {u w : List Int} {s : Kd Q} (h : Rnd Q w s) (j : Nat) : rvj u w s j = rvj u w s (j % w.length) := by
  have e : j = j % w.length + j / w.length * w.length := by
    have := Nat.mod_add_div j w.length
    rw [Nat.mul_comm] at this
    exact this.symm
  unfold rvj
  rw [e, bk_per, tm_per, ← e]
theorem pk_rvj {u w : List Int} {s : Kd Q} (hu : Rw u) (h : Rnd Q w s) {j : Nat} (ho : ¬ 2 < off u w s j) : pk Q u w (u.length + j) ≤ rvj u w s j := by
  have hq := (stp_bd (tm_bd hu h.rw h.ne) (u.length + j)).1
  have hq0 := Kd.cne (Q := Q) (show (stp (tm u w) (u.length + j)).1 ≠ 0 by omega)
  have hq1 := Kd.cpos (Q := Q).mpr (show 0 < (stp (tm u w) (u.length + j)).1 by omega)
  unfold off at ho
  unfold pk pw rvj
  rw [Kd.csub]
  have f2 : ((2 : Int) : Kd Q) = 2 := rfl
  rw [f2]
  generalize ((stp (tm u w) (u.length + j)).1 : Kd Q) = q at *
  generalize ((stp (tm u w) (u.length + j)).2 : Kd Q) = p at *
  generalize ((2 + tm u w (u.length + j) : Int) : Kd Q) = t at *
  generalize bk w s j = b at *
  have hi := inv_pos' hq1
  by_cases hc : p - q * b = 2
  · have : (p - 2) * (1 / q) = b := by grind
    rw [this]
    grind
  · have := mul_pos' hi (show 0 < 2 - (p - q * b) by grind)
    have e : 1 / q * (2 - (p - q * b)) = b - (p - 2) * (1 / q) := by grind
    rw [e] at this
    grind
theorem Lim.of {u w : List Int} {s m : Kd Q} (hu : Rw u) (h : Rnd Q w s) (h1 : ∀ k, k < u.length → pk Q u w k ≤ m) (h2 : ∀ j, 2 < off u w s j → pk Q u w (u.length + j) ≤ m) (h3 : ∀ j, j < w.length → rvj u w s j ≤ m)
    (h4 : (∃ k, m = pk Q u w k) ∨ (∃ j, j < w.length ∧ m = rvj u w s j)) : Lim Q u w s m := by
  have h5 : ∀ j, rvj u w s j ≤ m := fun j => by
    rw [rvj_mod h]
    exact h3 _ (Nat.mod_lt _ (List.length_pos_iff.mpr h.ne))
  refine ⟨fun k => ?_, h5, h4⟩
  rcases Nat.lt_or_ge k u.length with hk | hk
  · exact h1 k hk
  · obtain ⟨j, rfl⟩ : ∃ j, k = u.length + j := ⟨k - u.length, by omega⟩
    by_cases ho : 2 < off u w s j
    · exact h2 j ho
    · have a := pk_rvj hu h ho
      have b := h5 j
      grind
theorem bk_same {u w u' w' : List Int} {s s' : Kd Q} (hu : Rw u) (hu' : Rw u') (h : Rnd Q w s) (h' : Rnd Q w' s') (ht : ∀ k, tm u w k = tm u' w' k) {k : Nat} (hk : u.length ≤ k) (hk' : u'.length ≤ k) : bk w s (k - u.length) = bk w' s' (k - u'.length) := by
  let A : Nat → Kd Q := fun n => bk w s (k - u.length + n)
  let B : Nat → Kd Q := fun n => bk w' s' (k - u'.length + n)
  have hstep : ∀ n, A (n + 1) - B (n + 1) = -(A (n + 1) * B (n + 1) * (A n - B n)) := by
    intro n
    have e1 := bk_step (u := u) h (k - u.length + n)
    have e2 := bk_step (u := u') h' (k - u'.length + n)
    rw [show u.length + (k - u.length + n) = k + n by omega] at e1
    rw [show u'.length + (k - u'.length + n) = k + n by omega, ← ht] at e2
    show bk w s (k - u.length + n + 1) - bk w' s' (k - u'.length + n + 1) = -(bk w s (k - u.length + n + 1) * bk w' s' (k - u'.length + n + 1) * (bk w s (k - u.length + n) - bk w' s' (k - u'.length + n)))
    generalize bk w s (k - u.length + n + 1) = a1 at *
    generalize bk w' s' (k - u'.length + n + 1) = b1 at *
    generalize bk w s (k - u.length + n) = a at *
    generalize bk w' s' (k - u'.length + n) = b at *
    grind
  have hAB : ∀ n, 0 < A n ∧ A n < 1 ∧ 0 < B n ∧ B n < 1 := fun n => ⟨bk_pos h _, bk_lt hu h _, bk_pos h' _, bk_lt hu' h' _⟩
  have hper : A (w.length * w'.length) - B (w.length * w'.length) = A 0 - B 0 := by
    show bk w s _ - bk w' s' _ = bk w s _ - bk w' s' _
    rw [Nat.add_zero, Nat.add_zero, Nat.mul_comm w.length w'.length, bk_per, Nat.mul_comm w'.length w.length, bk_per]
  have hz : A 0 - B 0 = 0 := by
    apply Classical.byContradiction
    intro hne
    have hdec : ∀ n, (A (n + 1) - B (n + 1)) * (A (n + 1) - B (n + 1)) < (A 0 - B 0) * (A 0 - B 0) ∧ A (n + 1) - B (n + 1) ≠ 0 := by
      have one : ∀ n, A n - B n ≠ 0 → (A (n + 1) - B (n + 1)) * (A (n + 1) - B (n + 1)) < (A n - B n) * (A n - B n) ∧ A (n + 1) - B (n + 1) ≠ 0 := by
        intro n hn
        have e := hstep n
        obtain ⟨a1, a2, b1, b2⟩ := hAB (n + 1)
        have p := mul_pos' a1 b1
        have p2 : A (n + 1) * B (n + 1) < 1 := by
          have := mul_pos' a1 (show 0 < 1 - B (n + 1) by grind)
          grind
        rw [e]
        generalize A (n + 1) * B (n + 1) = c at *
        generalize A n - B n = d at *
        have hd : 0 < d * d := by
          have := sq_nn d
          have : d * d ≠ 0 := by
            intro k
            have : d * (d * (1 / d)) = 0 := by grind
            grind
          grind
        have k1 := mul_pos' (mul_pos' (show 0 < 1 - c by grind) (show 0 < 1 + c by grind)) hd
        constructor
        · grind
        · intro k2
          have : c * d = 0 := by grind
          have := mul_pos' p hd
          grind
      intro n
      induction n with
      | zero => exact one 0 hne
      | succ n ih =>
        have := one (n + 1) ih.2
        exact ⟨by grind, this.2⟩
    have hl : 0 < w.length * w'.length := Nat.mul_pos (List.length_pos_iff.mpr h.ne) (List.length_pos_iff.mpr h'.ne)
    have := (hdec (w.length * w'.length - 1)).1
    rw [show w.length * w'.length - 1 + 1 = w.length * w'.length by omega, hper] at this
    grind
  show A 0 = B 0
  grind
theorem rvj_same {u w u' w' : List Int} {s s' : Kd Q} (hu : Rw u) (hu' : Rw u') (h : Rnd Q w s) (h' : Rnd Q w' s') (ht : ∀ k, tm u w k = tm u' w' k) (j : Nat) : ∃ j', rvj u w s j = rvj u' w' s' j' := by
  have hl : 0 < w.length := List.length_pos_iff.mpr h.ne
  have e1 : rvj u w s j = rvj u w s (j + u'.length * w.length) := by
    unfold rvj
    rw [bk_per, tm_per]
  have hk : u'.length ≤ u.length + (j + u'.length * w.length) := by
    have := Nat.mul_le_mul_left u'.length hl
    omega
  have e2 := bk_same hu hu' h h' ht (k := u.length + (j + u'.length * w.length)) (by omega) hk
  refine ⟨u.length + (j + u'.length * w.length) - u'.length, ?_⟩
  rw [e1]
  unfold rvj
  rw [ht, ← e2, Nat.add_sub_cancel_left, show u'.length + (u.length + (j + u'.length * w.length) - u'.length) = u.length + (j + u'.length * w.length) by omega]
theorem stp_eq {f g : Nat → Int} (h : ∀ k, f k = g k) (k : Nat) : stp f k = stp g k := by
  have : f = g := funext h
  rw [this]
theorem Lim.le {u w u' w' : List Int} {s s' m m' : Kd Q} (hu : Rw u) (hu' : Rw u') (h : Rnd Q w s) (h' : Rnd Q w' s') (ht : ∀ k, tm u w k = tm u' w' k) (hl : Lim Q u w s m) (hl' : Lim Q u' w' s' m') : m ≤ m' := by
  rcases hl.one with ⟨k, rfl⟩ | ⟨j, _, rfl⟩
  · have := hl'.up k
    unfold pk at *
    rw [ht, stp_eq ht]
    exact this
  · obtain ⟨j', e⟩ := rvj_same hu hu' h h' ht j
    rw [e]
    exact hl'.rv j'
theorem Lim.uniq {u w u' w' : List Int} {s s' m m' : Kd Q} (hu : Rw u) (hu' : Rw u') (h : Rnd Q w s) (h' : Rnd Q w' s') (ht : ∀ k, tm u w k = tm u' w' k) (hl : Lim Q u w s m) (hl' : Lim Q u' w' s' m') : m = m' := by
  have a := hl.le hu hu' h h' ht hl'
  have b := hl'.le hu' hu h' h (fun k => (ht k).symm) hl
  grind
theorem tm_ahead {u w : List Int} {i : Nat} (h : i < u.length) : tm u w i = u[i] := by
  unfold tm
  rw [if_pos h, List.getElem?_eq_getElem h]
  rfl
theorem tm_round {u w : List Int} {i : Nat} (h : i < w.length) : tm u w (u.length + i) = w[i] := by
  unfold tm
  rw [if_neg (by omega), Nat.add_sub_cancel_left, Nat.mod_eq_of_lt h, List.getElem?_eq_getElem h]
  rfl
theorem c_power_limit {n : Nat} {u w : List Int} {s : Kd Q} (hu : Rw u) (h : Rnd Q w s) (hul : u.length ≤ 8) : ∃ m : Kd Q, callF T (n + 8) "power_limit" [chn u w] S = some (tp m, S) ∧ Rp Q 500 (tp m) m ∧ Lim Q u w s m := by
  obtain ⟨vs, m, h1, h2, h3, h4, h5, h6⟩ := c_power_max (S := S) (n := n) hu h hul
  refine ⟨m, h1, h2, Lim.of hu h (fun k hk => ?_) (fun j hj => ?_) (fun j hj => ?_) ?_⟩
  · apply h4
    rw [List.mem_append, List.mem_append]
    refine .inl (.inl ?_)
    unfold aheads
    refine List.mem_map.mpr ⟨(u[k], k), ?_, ?_⟩
    · exact List.mem_iff_getElem.mpr ⟨k, by simpa using hk, by simp⟩
    · show pw Q u[k] _ _ = pk Q u w k
      unfold pk
      rw [tm_ahead hk]
  · apply h4
    rw [List.mem_append]
    exact .inr (h6 j hj)
  · apply h4
    rw [List.mem_append, List.mem_append]
    refine .inl (.inr ?_)
    unfold rounds
    refine List.mem_map.mpr ⟨(w[j], j), ?_, ?_⟩
    · exact List.mem_iff_getElem.mpr ⟨j, by simpa using hj, by simp⟩
    · show L81.rv w s w[j] j = rvj u w s j
      unfold L81.rv rvj bk
      rw [tm_round hj, Nat.mod_eq_of_lt hj]
  · rw [List.mem_append, List.mem_append] at h3
    rcases h3 with (h3 | h3) | h3
    · unfold aheads at h3
      obtain ⟨p, hp, rfl⟩ := List.mem_map.mp h3
      obtain ⟨x, i⟩ := p
      have hi := List.mem_zipIdx hp
      refine .inl ⟨i, ?_⟩
      have hi' : i < u.length := by omega
      have hx : x = u[i] := by simpa using hi.2.2
      unfold pk
      rw [tm_ahead hi', ← hx]
    · unfold rounds at h3
      obtain ⟨p, hp, rfl⟩ := List.mem_map.mp h3
      obtain ⟨x, i⟩ := p
      have hi := List.mem_zipIdx hp
      have hi' : i < w.length := by omega
      have hx : x = w[i] := by simpa using hi.2.2
      refine .inr ⟨i, hi', ?_⟩
      unfold L81.rv rvj bk
      rw [tm_round hi', Nat.mod_eq_of_lt hi', ← hx]
    · obtain ⟨i, _, rfl, _⟩ := h5 m h3
      exact .inl ⟨_, rfl⟩
theorem rp_fld {B : Nat} {v : Kd Q} (h : Rp Q B (tp v) v) : ∃ a b c d : Int, tp v = sd a b c d ∧ 0 ≤ d ∧ (d = 0 ↔ cj v = v) ∧ c ≠ 0 := by
  obtain ⟨a, b, c, d, e, k1, k2, _⟩ := h
  have hp := k1.pos
  have hd := k1.rad
  have hQ := Q.one_le
  refine ⟨a, b, c, d, e, by rw [hd]; split <;> omega, ?_, by omega⟩
  rw [← k2, cj_vl (by omega), vl_eq (by omega) (by omega), hd]
  constructor
  · intro h
    split at h
    · rename_i hb
      rw [hb]
      simp
    · omega
  · intro h
    have h2 : b * c = 0 := by have := h.2; rw [Int.neg_mul] at this; omega
    rcases Int.mul_eq_zero.mp h2 with h3 | h3
    · rw [if_pos h3]
    · omega
theorem c_limit_reached {n : Nat} {u w : List Int} {s : Kd Q} (hu : Rw u) (h : Rnd Q w s) (hul : u.length ≤ 8) : ∃ m : Kd Q, callF T (n + 9) "limit_reached" [chn u w] S = some (.bl (decide (cj m = m)), S) ∧ Lim Q u w s m := by
  obtain ⟨m, h1, h2, h3⟩ := c_power_limit (S := S) (n := n) hu h hul
  obtain ⟨a, b, c, d, e1, _, e2, _⟩ := rp_fld h2
  refine ⟨m, ?_, h3⟩
  have e3 : decide (cj m = m) = decide (d = 0) := by
    rw [decide_eq_decide]
    exact e2.symm
  rw [e3]
  rw [e1] at h1
  exact callF_pure f_limit_reached rfl (exSs_rt (s_ret (e_cmp (e_ix (e_call (e_cons (e_var rfl) e_nil) h1) e_int (ix_tup rfl)) e_int c_eq)))
theorem pk_cj (u w : List Int) (k : Nat) : cj (pk Q u w k) = pk Q u w k := by
  unfold pk pw
  rw [cj_add, cj_mul, cj_inv, cj_int, cj_int, cj_int]
end L81
end

section
set_option maxHeartbeats 1000000
namespace L81
open PySem Mn
variable {S : So} {Q : NSq}
local macro_rules
  | `(tactic| keq_rows) => `(tactic| (repeat' (first
      | with_reducible exact e_int | with_reducible exact e_bl | with_reducible exact e_non | with_reducible exact e_str | with_reducible exact e_nil | with_reducible exact s_pass | with_reducible exact eo_none | with_reducible exact o_add | with_reducible exact o_sub | with_reducible exact c_eq | with_reducible exact c_lt | with_reducible exact c_le | with_reducible exact c_gt | with_reducible exact c_ge | with_reducible exact c_ne
      | ((with_reducible refine' ss_nl ?mnh); (case mnh => exact rfl)) | ((with_reducible refine' e_var ?mnh); (case mnh => exact rfl)) | ((with_reducible refine' asg_i ?mnh); (case mnh => exact rfl)) | ((with_reducible refine' at_i ?mnh); (case mnh => exact rfl)) | ((with_reducible refine' ty_i ?mnh); (case mnh => exact rfl)) | ((with_reducible refine' mv_i ?mnh); (case mnh => exact rfl)) | ((with_reducible refine' bi_i ?mnh); (case mnh => exact rfl)) | ((with_reducible refine' e_glob ?mnh); (case mnh => kernel_rfl)) | (with_reducible exact div_lit (by decide)) | ((with_reducible refine' len_i ?mnh); (case mnh => exact rfl))
      | with_reducible refine' exSs_rt (s_ret ?_) | with_reducible refine' exSs_nx (s_asg ?_ ?_) ?_ | with_reducible refine' exSs_nx (s_ex ?_) ?_ | with_reducible refine' exSs_nx (s_put ?_ ?_ ?_ ?_) ?_ | with_reducible refine' t_of ?_ | with_reducible refine' e_bin ?_ ?_ ?_ | with_reducible refine' e_neg ?_ | with_reducible refine' e_cons ?_ ?_ | with_reducible refine' e_tup ?_ ?_ | with_reducible refine' e_lst ?_ ?_ | with_reducible refine' e_ix ?_ ?_ ?_ | with_reducible refine' e_cmp ?_ ?_ ?_ | with_reducible refine' e_not ?_ | with_reducible refine' e_call ?_ ?_ | with_reducible refine' e_bi ?_ ?_ | with_reducible refine' e_me ?_ ?_ ?_ ?_ | with_reducible refine' eo_some ?_ | with_reducible refine' e_sl ?_ ?_ ?_ ?_ | with_reducible refine' e_rev ?_ ?_ | with_reducible refine' ix_tup ?_
      | (with_reducible refine' e_callk ?_ ?_ (by kernel_rfl) rfl ?_)
      | keq_hits
      | with_reducible refine' o_mul ?_ | with_reducible refine' o_fdiv ?_ | with_reducible refine' o_mod ?_)))
  | `(tactic| kas_types) => `(tactic| (repeat' (first
      | exact Sz.id (by assumption) | exact Sz.lit (n := 16) (by decide) | with_reducible refine' Sz.mul ?_ ?_ | with_reducible refine' Sz.add ?_ ?_ | with_reducible refine' Sz.sub ?_ ?_ | with_reducible refine' Sz.neg ?_ | with_reducible refine' Sz.div ?_)))
  | `(tactic| lcg_sub) => `(tactic| ((refine' mul_sz ?mza ?mzb ?mzc); (case mza => kas_types); (case mzb => kas_types); (case mzc => omega)))
local macro_rules | `(tactic| keq_hits) => `(tactic| with_reducible refine' c_common ?_ ?_)
theorem flat_at {w : List Int} : ∀ (t j : Nat), j < t * w.length → (List.replicate t w).flatten[j]? = w[j % w.length]?
  | 0, j, h => by simp at h
  | t + 1, j, h => by
    rw [List.replicate_succ, List.flatten_cons]
    rcases Nat.lt_or_ge j w.length with h1 | h1
    · rw [List.getElem?_append_left h1, Nat.mod_eq_of_lt h1]
    · rw [Nat.succ_mul] at h
      rw [List.getElem?_append_right h1, flat_at t (j - w.length) (by omega), ← Nat.mod_eq_sub_mod h1]
abbrev tmL (u w : List Int) (k : Nat) : List Int := (List.range k).map (tm u w)
theorem tmL_at {u w : List Int} {k i : Nat} (h : i < k) : (tmL u w k)[i]? = some (tm u w i) := by
  unfold tmL
  rw [List.getElem?_map, List.getElem?_range h]
  rfl
theorem take_tm {u w : List Int} {k t : Nat} (hw : w ≠ []) (h : k ≤ u.length + t * w.length) : (u ++ (List.replicate t w).flatten).take k = tmL u w k := by
  apply List.ext_getElem?
  intro i
  rcases Nat.lt_or_ge i k with hi | hi
  · rw [tmL_at hi, List.getElem?_take_of_lt hi]
    unfold tm
    split
    · rename_i h1
      rw [List.getElem?_append_left h1, List.getElem?_eq_getElem h1]
      rfl
    · rename_i h1
      have hl : 0 < w.length := List.length_pos_iff.mpr hw
      have hm := Nat.mod_lt (i - u.length) hl
      rw [List.getElem?_append_right (by omega), flat_at _ _ (by omega), List.getElem?_eq_getElem hm]
      rfl
  · rw [List.getElem?_eq_none (by rw [List.length_take]; omega), List.getElem?_eq_none (by simp; omega)]
theorem take_tm0 {u w : List Int} {k : Nat} (hw : w ≠ []) (h : k ≤ u.length) : u.take k = tmL u w k := by
  have := take_tm (u := u) (w := w) (k := k) (t := 0) hw (by omega)
  simpa using this
theorem flat_len {w : List Int} : ∀ t, (List.replicate t w).flatten.length = t * w.length
  | 0 => by simp
  | t + 1 => by rw [List.replicate_succ, List.flatten_cons, List.length_append, flat_len t, Nat.succ_mul, Nat.add_comm]
theorem map_flat {w : List Int} : ∀ t, (List.replicate t (w.map D.int)).flatten = ((List.replicate t w).flatten).map D.int
  | 0 => rfl
  | t + 1 => by rw [List.replicate_succ, List.flatten_cons, map_flat t, List.replicate_succ, List.flatten_cons, List.map_append]
theorem c_terms {n : Nat} {u w : List Int} {k : Nat} (hw : w ≠ []) (hul : u.length ≤ 100) (hwl : w.length ≤ 100) (hk : k ≤ 500) : callF T (n + 1) "terms" [chn u w, .int k] S = some (.tup ((tmL u w k).map D.int), S) := by
  have hl : 0 < w.length := List.length_pos_iff.mpr hw
  have hne : cpV .eq (.tup (w.map D.int)) (.tup []) S = some false := by
    cases w with
    | nil => exact absurd rfl hw
    | cons x xs => exact c_eq0_f
  refine callF_pure f_terms rfl (exSs_nx (s_asg (e_var rfl) rfl) ?_)
  by_cases h : k ≤ u.length
  · refine exSs_rt (s_if_t (t_of (e_or_f (e_cmp (e_var rfl) (e_tup e_nil (len_i rfl)) hne) (e_or1 (e_cmp (e_var rfl) (e_bi (e_cons (e_var rfl) e_nil) len_map) (c_le_t (by omega)))))) (exSs_rt (s_ret ?_)))
    have := e_to (S0 := S) (T := T) (cf := callF T n) (ρ := [some (chn u w), some (.int k), none, some (.tup (u.map D.int)), some (.tup (w.map D.int))]) (a := .var 3) (b := .var 1) (xs := u.map D.int) (i := k) (e_var rfl) (e_var rfl) (by simpa using h)
    rw [← List.map_take, take_tm0 hw h] at this
    exact this
  · refine exSs_nx (s_if_f (t_of (e_or_f (e_cmp (e_var rfl) (e_tup e_nil (len_i rfl)) hne) (e_or1 (e_cmp (e_var rfl) (e_bi (e_cons (e_var rfl) e_nil) len_map) (c_le_f (by omega)))))) ss_nil) ?_
    obtain ⟨t, ht⟩ : ∃ t : Nat, t = (k - u.length) / w.length + 1 := ⟨_, rfl⟩
    have e1 : ((k : Int) - (u.length : Int)) / (w.length : Int) + 1 = (t : Int) := by
      rw [ht, show ((k : Int) - (u.length : Int)) = ((k - u.length : Nat) : Int) by omega]
      simp
    have ht1 : 1 ≤ t := by rw [ht]; exact Nat.succ_le_succ (Nat.zero_le _)
    have ht2 : k - u.length < t * w.length := by
      rw [ht, Nat.succ_mul]
      have h1 := Nat.div_add_mod (k - u.length) w.length
      have h2 := Nat.mod_lt (k - u.length) hl
      rw [Nat.mul_comm] at h1
      omega
    have ht3 : t ≤ 501 := by
      have := Nat.div_le_self (k - u.length) w.length
      omega
    have ht4 : t * w.length ≤ 501 * 100 := Nat.mul_le_mul ht3 hwl
    refine exSs_nx (ρ1 := [some (chn u w), some (.int k), some (.int (t : Int)), some (.tup (u.map D.int)), some (.tup (w.map D.int))]) (S1 := S) ?_ (exSs_rt (s_ret ?_))
    · refine s_asg (d := .int (t : Int)) ?_ rfl
      rw [← e1]
      exact e_bin (e_bin (e_bin (e_var rfl) (e_bi (e_cons (e_var rfl) e_nil) len_map) o_sub) (e_bi (e_cons (e_var rfl) e_nil) len_map) (o_fdiv (div_sz (m := 16) (by omega) (by unfold Sz; omega) (by omega)))) e_int o_add
    · have y : evE T (callF T n) (.bin .add (.var 3) (.bin .mul (.var 4) (.var 2))) [some (chn u w), some (.int k), some (.int (t : Int)), some (.tup (u.map D.int)), some (.tup (w.map D.int))] S = some (.tup ((u ++ (List.replicate t w).flatten).map D.int), S) := by
        refine e_bin (e_var rfl) (e_bin (e_var rfl) (e_var rfl) (o_mulT (i := (t : Int)) ⟨by omega, by omega, by rw [List.length_map]; omega, by rw [List.length_map]; omega⟩)) ?_
        rw [Int.toNat_natCast, map_flat, List.map_append]
        refine o_addT ?_
        rw [List.length_map, List.length_map, flat_len]
        omega
      have := e_to (b := .var 1) (i := k) y (e_var rfl) (by rw [List.length_map, List.length_append, flat_len]; omega)
      rw [← List.map_take, take_tm hw (by omega)] at this
      exact this
def ptp (f : Nat → Int) : Nat → Int × Int
  | 0 => (0, 1)
  | j + 1 => (f j * (ptp f j).1 + (ptp f j).2, (ptp f j).1)
theorem ptp_bd {f : Nat → Int} (h : ∀ i, 1 ≤ f i ∧ f i ≤ 9) : ∀ j, 0 ≤ (ptp f j).1 ∧ 0 ≤ (ptp f j).2 ∧ (ptp f j).1 ≤ 10 ^ j ∧ (ptp f j).2 ≤ 10 ^ j
  | 0 => by simp [ptp]
  | j + 1 => by
    obtain ⟨h1, h2, h3, h4⟩ := ptp_bd h j
    obtain ⟨k1, k2⟩ := h j
    simp only [ptp]
    have e1 : 0 ≤ f j * (ptp f j).1 := Int.mul_nonneg (by omega) h1
    have e2 : f j * (ptp f j).1 ≤ 9 * (ptp f j).1 := Int.mul_le_mul_of_nonneg_right k2 (by omega)
    rw [Int.pow_succ]
    omega
theorem ptp_sz {f : Nat → Int} (h : ∀ i, 1 ≤ f i ∧ f i ≤ 9) (j : Nat) : Sz (4 * j + 1) (ptp f j).1 ∧ Sz (4 * j + 1) (ptp f j).2 := by
  obtain ⟨h1, h2, h3, h4⟩ := ptp_bd h j
  have e : (10 : Int) ^ j = ((10 ^ j : Nat) : Int) := by simp
  rw [e] at h3 h4
  have e2 : 10 ^ j ≤ 2 ^ (4 * j) := by
    rw [Nat.pow_mul]
    exact Nat.pow_le_pow_left (by decide) j
  unfold Sz
  rw [Nat.pow_succ]
  have : 0 < 2 ^ (4 * j) := Nat.pow_pos (by decide)
  constructor <;> omega
abbrev frD (f : Nat → Int) (j : Nat) : D := .tup [.int (ptp f j).1, .int (stp f j).1]
abbrev frL (f : Nat → Int) (k : Nat) : List D := (List.range (k + 1)).map (frD f)
theorem frL_succ (f : Nat → Int) (k : Nat) : frL f (k + 1) = frL f k ++ [frD f (k + 1)] := by
  unfold frL
  rw [List.range_succ, List.map_append]
  rfl
theorem frL_last (f : Nat → Int) (k : Nat) : frL f k = (List.range k).map (frD f) ++ [frD f k] := by
  unfold frL
  rw [List.range_succ, List.map_append]
  rfl
theorem frL_len (f : Nat → Int) (k : Nat) : (frL f k).length = k + 1 := by simp
theorem frL_at {f : Nat → Int} {k j : Nat} (h : j ≤ k) : L2.atI (frL f k) (j : Int) = some (frD f j) := by
  rw [at_nat]
  unfold frL
  rw [List.getElem?_map, List.getElem?_range (by omega)]
  rfl
theorem frL_bel (f : Nat → Int) (k n : Nat) : belows n (frL f k) = true := belows_of fun x hx => by
  obtain ⟨j, _, rfl⟩ := List.mem_map.mp hx
  rfl
theorem l_fractions {n : Nat} {f : Nat → Int} (hf : ∀ i, 1 ≤ f i ∧ f i ≤ 9) {x y : D} : ∀ (xs : List Int) (j : Nat) (a b : Option D), (∀ i, i < xs.length → xs[i]? = some (f (j + i))) → j + xs.length ≤ 900 →
    ∃ a' b', forL none (fun x ρ S => (asgG (.nm 2) x ρ).bind fun ρ => exSs T (callF T n) b_fractions.tl.hd.bd ρ S) (xs.map D.int) [some x, some y, a, some (.ref S.length), some (.int (ptp f j).2), some (.int (stp f j).2), b] (S ++ [.lst (frL f j)]) =
      some (.nx [some x, some y, a', some (.ref S.length), some (.int (ptp f (j + xs.length)).2), some (.int (stp f (j + xs.length)).2), b'], S ++ [.lst (frL f (j + xs.length))])
  | [], j, a, b, _, _ => ⟨a, b, rfl⟩
  | t :: xs, j, a, b, h, hl => by
    have ht : t = f j := by simpa using h 0 (by simp)
    simp only [List.length_cons] at hl
    obtain ⟨a', b', e⟩ := l_fractions (n := n) (x := x) (y := y) hf xs (j + 1) (some (.int t)) (some (frD f j)) (fun i hi => by
      have := h (i + 1) (by simp; omega)
      rw [List.getElem?_cons_succ] at this
      rw [this, show j + (i + 1) = j + 1 + i by omega]) (by omega)
    refine ⟨a', b', ?_⟩
    rw [List.map_cons, forL_cons_nx (w := none) (ρ1 := [some x, some y, some (.int t), some (.ref S.length), some (.int (ptp f (j + 1)).2), some (.int (stp f (j + 1)).2), some (frD f j)]) (S1 := S ++ [.lst (frL f (j + 1))]) ?_ trivial]
    · rw [List.length_cons, show j + (xs.length + 1) = j + 1 + xs.length by omega]
      exact e
    · subst ht
      have hb := stp_sz hf j
      have hp := ptp_sz hf j
      have h4 : Sz 4 (f j) := sz9 (hf j)
      refine exSs_nx (ρ1 := [some x, some y, some (.int (f j)), some (.ref S.length), some (.int (ptp f j).2), some (.int (stp f j).2), some (frD f j)]) (S1 := S ++ [.lst (frL f j)]) ?_ (exSs_nx (ρ1 := [some x, some y, some (.int (f j)), some (.ref S.length), some (.int (ptp f j).2), some (.int (stp f j).2), some (frD f j)]) (S1 := S ++ [.lst (frL f (j + 1))]) ?_ (exSs_nx (s_asg (d := frD f j) (e_var rfl) rfl) (ss_nl rfl)))
      · refine s_asg (e_ix (e_var rfl) (e_neg e_int) ?_) rfl
        rw [frL_last]
        exact ix_last
      · rw [frL_succ]
        refine s_app rfl (e_tup (e_cons (e_bin (e_bin (e_var rfl) (e_ix (e_var rfl) e_int (ix_tup rfl)) (o_mul (mul_sz h4 hp.1 (by omega)))) (e_var rfl) o_add) (e_cons (e_bin (e_bin (e_var rfl) (e_ix (e_var rfl) e_int (ix_tup rfl)) (o_mul (mul_sz h4 hb.1 (by omega)))) (e_var rfl) o_add) e_nil)) (len_i rfl)) ?_
        rw [frL_len]
        omega
theorem c_fractions {n : Nat} {u w : List Int} {k : Nat} (hu : Rw u) (hw : Rw w) (h0 : w ≠ []) (hul : u.length ≤ 100) (hwl : w.length ≤ 100) (hk : k ≤ 500) : callF T (n + 2) "fractions" [chn u w, .int k] S = some (.tup (frL (tm u w) k), S) := by
  obtain ⟨a', b', e⟩ := l_fractions (S := S) (n := n + 1) (x := chn u w) (y := .int (k : Int)) (tm_bd hu hw h0) (tmL u w k) 0 none none (fun i hi => by
    rw [tmL_at (by simpa using hi), Nat.zero_add]) (by simp; omega)
  rw [Nat.zero_add, show (tmL u w k).length = k by simp] at e
  rw [callF_of f_fractions rfl (d := .tup (frL (tm u w) k)) (S1 := S ++ [.lst (frL (tm u w) k)]) ?_, gc_app (show D.bel 0 (.tup (frL (tm u w) k)) = true from frL_bel _ _ _)]
  refine exSs_nx (ρ1 := [some (chn u w), some (.int k), none, some (.ref S.length), some (.int 1), some (.int 0), none]) (S1 := S ++ [.lst [frD (tm u w) 0]]) ?_ (exSs_nx (ρ1 := [some (chn u w), some (.int (k : Int)), a', some (.ref S.length), some (.int (ptp (tm u w) k).2), some (.int (stp (tm u w) k).2), b']) (S1 := S ++ [.lst (frL (tm u w) k)]) (s_fr (it_exT (e_call (e_cons (e_var rfl) (e_cons (e_var rfl) e_nil)) (c_terms h0 hul hwl hk))) (by exact e)) (exSs_rt (s_ret (e_bi (e_cons (e_var rfl) e_nil) ?_))))
  · exact s_asg (e_tup (e_cons (e_lst (e_cons (e_tup (e_cons e_int (e_cons e_int e_nil)) (len_i rfl)) e_nil) (by decide)) (e_cons e_int (e_cons e_int e_nil))) (len_i rfl)) rfl
  · simp only [biV, Mn.itemsOf, get_new, Option.map_some]
theorem c_fraction_at {n : Nat} {u w : List Int} {k : Nat} (hu : Rw u) (hw : Rw w) (h0 : w ≠ []) (hul : u.length ≤ 100) (hwl : w.length ≤ 100) (hk : k ≤ 500) : callF T (n + 3) "fraction_at" [chn u w, .int k] S = some (frD (tm u w) k, S) :=
  callF_pure f_fraction_at rfl (exSs_rt (s_ret (e_ix (e_call (e_cons (e_var rfl) (e_cons (e_var rfl) e_nil)) (c_fractions hu hw h0 hul hwl hk)) (e_var rfl) (ix_tup (frL_at (Nat.le_refl _))))))
theorem gcd_pos3 {x y z : Int} (hx : 0 < x) : ∃ g A B C : Int, 0 < g ∧ g = (Int.gcd (Int.gcd x y) z : Int) ∧ x = g * A ∧ y = g * B ∧ z = g * C ∧ Int.gcd (Int.gcd A B) C = 1 ∧ 0 < A ∧ g ≤ x := by
  have h1 : (Int.gcd (Int.gcd x y) z : Int) ∣ (Int.gcd x y : Int) := Int.gcd_dvd_left _ _
  obtain ⟨A, hA⟩ := Int.dvd_trans h1 (Int.gcd_dvd_left x y)
  obtain ⟨B, hB⟩ := Int.dvd_trans h1 (Int.gcd_dvd_right x y)
  obtain ⟨C, hC⟩ := Int.gcd_dvd_right (Int.gcd x y : Int) z
  have h2 : 0 < Int.gcd x y := Int.gcd_pos_of_ne_zero_left _ (by omega)
  have h3 : 0 < Int.gcd (Int.gcd x y) z := Int.gcd_pos_of_ne_zero_left _ (by omega)
  generalize hg : Int.gcd (Int.gcd x y) z = g at *
  have hA0 : 0 < A := by
    by_cases h : 0 < A
    · exact h
    · have := Int.mul_nonpos_of_nonneg_of_nonpos (show (0 : Int) ≤ g by omega) (show A ≤ 0 by omega)
      omega
  refine ⟨(g : Int), A, B, C, by omega, rfl, hA, hB, hC, ?_, hA0, ?_⟩
  · have e1 : Int.gcd x y = g * Int.gcd A B := by rw [hA, hB, Int.gcd_mul_left]; simp
    have e2 : Int.gcd (Int.gcd x y) z = g * Int.gcd (Int.gcd A B) C := by
      rw [e1, hC, Int.natCast_mul, Int.gcd_mul_left]; simp
    rw [hg] at e2
    have : g * 1 = g * Int.gcd (Int.gcd A B) C := by omega
    exact (Nat.eq_of_mul_eq_mul_left h3 this).symm
  · rw [hA]
    have := Int.mul_le_mul_of_nonneg_left (show (1 : Int) ≤ A by omega) (show (0 : Int) ≤ g by omega)
    omega
theorem lin_zero {s : Kd Q} (hi : cj s ≠ s) {P R : Int} (h : (P : Kd Q) * s + (R : Kd Q) = 0) : P = 0 ∧ R = 0 := by
  have h2 := congrArg cj h
  rw [cj_add, cj_mul, cj_int, cj_int] at h2
  have h3 : cj (0 : Kd Q) = 0 := by
    have := cj_int (Q := Q) 0
    rw [Kd.c0] at this
    exact this
  rw [h3] at h2
  have hP : P = 0 := by
    apply Classical.byContradiction
    intro hP
    have := Kd.cne (Q := Q) hP
    apply hi
    generalize cj s = c at *
    generalize (P : Kd Q) = p at *
    have : p * (c - s) = 0 := by grind
    have : c - s = 0 := by grind
    grind
  refine ⟨hP, ?_⟩
  rw [hP, Kd.c0] at h
  exact Kd.cinj (Q := Q) (by rw [Kd.c0]; grind)
theorem eq_uniq {s : Kd Q} (hi : cj s ≠ s) {X Y Z X' Y' Z' : Int} (hX : 0 < X) (hX' : 0 < X') (g : Int.gcd (Int.gcd X Y) Z = 1) (g' : Int.gcd (Int.gcd X' Y') Z' = 1)
    (e : (X : Kd Q) * s * s + (Y : Kd Q) * s + (Z : Kd Q) = 0) (e' : (X' : Kd Q) * s * s + (Y' : Kd Q) * s + (Z' : Kd Q) = 0) : X = X' ∧ Y = Y' ∧ Z = Z' := by
  have h := lin_zero hi (P := X' * Y - X * Y') (R := X' * Z - X * Z') (by
    simp only [Kd.csub, Kd.cmul]
    grind)
  have e1 : X * Y' = X' * Y := by omega
  have e2 : X * Z' = X' * Z := by omega
  have k1 : Int.gcd (Int.gcd (X * X') (X * Y')) (X * Z') = X.natAbs := by
    rw [Int.gcd_mul_left, Int.natCast_mul, Int.natAbs_of_nonneg (by omega), Int.gcd_mul_left, g', Nat.mul_one]
  have k2 : Int.gcd (Int.gcd (X' * X) (X' * Y)) (X' * Z) = X'.natAbs := by
    rw [Int.gcd_mul_left, Int.natCast_mul, Int.natAbs_of_nonneg (by omega), Int.gcd_mul_left, g, Nat.mul_one]
  rw [e1, e2, Int.mul_comm X X', k2] at k1
  have hXX : X = X' := by omega
  subst hXX
  refine ⟨rfl, ?_, ?_⟩
  · exact (Int.eq_of_mul_eq_mul_left (by omega) e1).symm
  · exact (Int.eq_of_mul_eq_mul_left (by omega) e2).symm
theorem c_slope_equation {n : Nat} {w : List Int} {s : Kd Q} (h : Rnd Q w s) : ∃ X Y Z : Int, callF T (n + 6) "slope_equation" [chn [] w] S = some (.tup [.int X, .int Y, .int Z], S) ∧ 0 < X ∧ Int.gcd (Int.gcd X Y) Z = 1 ∧
    (X : Kd Q) * s * s + (Y : Kd Q) * s + (Z : Kd Q) = 0 := by
  obtain ⟨e1, _⟩ := h.slope (S := S) (n := n) (u := []) (fun _ k => absurd k List.not_mem_nil) (by simp)
  have es : act [] s = s := rfl
  rw [es] at e1
  obtain ⟨a, b, c, d, e2, k1, k2, za, zb, zc, _⟩ := h.rp
  have p := k1.pos
  have hb0 : b ≠ 0 := by
    intro hb
    apply h.irr
    rw [← k2, cj_vl (by omega), hb]
    rfl
  have hd : d = Q.d := by rw [k1.rad, if_neg hb0]
  have hQ := Q.one_le
  have zd : Sz 64 d := by rw [hd]; unfold Sz; have := h.tld.2; omega
  have hx : 0 < c * c := Int.mul_pos p p
  obtain ⟨g, A, B, C, g1, g2, g3, g4, g5, g6, g7, g8⟩ := gcd_pos3 (x := c * c) (y := -2 * a * c) (z := a * a - b * b * d) hx
  rw [e2] at e1
  have z2 : Sz 2 (-2) := Sz.lit (by decide)
  refine ⟨A, B, C, callF_pure f_slope_equation rfl (exSs_nx (s_asg (e_call (e_cons (e_var rfl) e_nil) e1) rfl) (exSs_nx (s_if_f (t_of (e_cmp (e_var rfl) e_int (c_eq_f (by omega)))) ss_nil) (exSs_nx (ρ1 := [some (chn [] w), none, some (.int a), some (.int b), some (.int c), some (.int d), some (.int (c * c)), some (.int (-2 * a * c)), some (.int (a * a - b * b * d))]) (S1 := S) ?_ (exSs_nx (ρ1 := [some (chn [] w), some (.int g), some (.int a), some (.int b), some (.int c), some (.int d), some (.int (c * c)), some (.int (-2 * a * c)), some (.int (a * a - b * b * d))]) (S1 := S) ?_ (exSs_rt (s_ret ?_)))))), g7, g6, ?_⟩
  · exact s_asg (e_tup (e_cons (e_bin (e_var rfl) (e_var rfl) (o_mul (mul_sz zc zc (by omega)))) (e_cons (e_bin (e_bin (e_neg e_int) (e_var rfl) (o_mul (mul_sz z2 za (by omega)))) (e_var rfl) (o_mul (mul_sz (z2.mul za) zc (by omega)))) (e_cons (e_bin (e_bin (e_var rfl) (e_var rfl) (o_mul (mul_sz za za (by omega)))) (e_bin (e_bin (e_var rfl) (e_var rfl) (o_mul (mul_sz zb zb (by omega)))) (e_var rfl) (o_mul (mul_sz (zb.mul zb) zd (by omega)))) o_sub) e_nil))) (len_i rfl)) rfl
  · refine s_asg (d := .int g) ?_ rfl
    have ea : ∀ x : Int, 0 ≤ x → (if x < 0 then -x else x) = x := fun x hx => if_neg (by omega)
    have q1 : callF T (n + 5) "common" [.int (c * c), .int (if -2 * a * c < 0 then -(-2 * a * c) else -2 * a * c)] S = some (.int (Int.gcd (c * c) (-2 * a * c)), S) := by
      have := c_common (S := S) (n := n + 4) (a := c * c) (b := if -2 * a * c < 0 then -(-2 * a * c) else -2 * a * c) (by omega) (abs_nn _)
      rw [this]
      have k := abs_gcd (c * c) (-2 * a * c)
      rw [ea _ (by omega)] at k
      rw [k]
    have q2 : callF T (n + 5) "common" [.int (Int.gcd (c * c) (-2 * a * c)), .int (if a * a - b * b * d < 0 then -(a * a - b * b * d) else a * a - b * b * d)] S = some (.int g, S) := by
      have := c_common (S := S) (n := n + 4) (a := (Int.gcd (c * c) (-2 * a * c) : Int)) (b := if a * a - b * b * d < 0 then -(a * a - b * b * d) else a * a - b * b * d) (by omega) (abs_nn _)
      rw [this]
      have k := abs_gcd ((Int.gcd (c * c) (-2 * a * c) : Nat) : Int) (a * a - b * b * d)
      rw [ea _ (by omega)] at k
      rw [k, g2]
    exact e_call (e_cons (e_call (e_cons (e_var rfl) (e_cons (e_bi (e_cons (e_var rfl) e_nil) rfl) e_nil)) q1) (e_cons (e_bi (e_cons (e_var rfl) e_nil) rfl) e_nil)) q2
  · have zg : Sz 141 g := ((zc.mul zc).mono (by omega)).le (by omega)
    have hv : divOk g := div_sz g1 zg (by omega)
    have d1 : c * c / g = A := by rw [g3, Int.mul_ediv_cancel_left _ (by omega)]
    have d2 : -2 * a * c / g = B := by rw [g4, Int.mul_ediv_cancel_left _ (by omega)]
    have d3 : (a * a - b * b * d) / g = C := by rw [g5, Int.mul_ediv_cancel_left _ (by omega)]
    rw [← d1, ← d2, ← d3]
    exact e_tup (e_cons (e_bin (e_var rfl) (e_var rfl) (o_fdiv hv)) (e_cons (e_bin (e_var rfl) (e_var rfl) (o_fdiv hv)) (e_cons (e_bin (e_var rfl) (e_var rfl) (o_fdiv hv)) e_nil))) (len_i rfl)
  · have hg0 := Kd.cne (Q := Q) (show g ≠ 0 by omega)
    have m1 : ((c * c : Int) : Kd Q) * s * s + ((-2 * a * c : Int) : Kd Q) * s + ((a * a - b * b * d : Int) : Kd Q) = 0 := by
      have hv := vl_mul (Q := Q) (a := a) (b := b) (c := c) (by omega)
      rw [k2] at hv
      have hr := rt_sq (Q := Q)
      have hD : (d : Kd Q) = (Q.d : Kd Q) := by rw [hd, natD]
      have f2 : ((-2 : Int) : Kd Q) = -2 := by rw [Kd.cneg]; rfl
      simp only [Kd.csub, Kd.cmul, f2, hD]
      rw [← hr]
      generalize rt Q = r at *
      have : ((c : Kd Q) * s - (a : Kd Q)) = (b : Kd Q) * r := by grind
      grind
    rw [g3, g4, g5, Kd.cmul, Kd.cmul, Kd.cmul] at m1
    have : (g : Kd Q) * ((A : Kd Q) * s * s + (B : Kd Q) * s + (C : Kd Q)) = 0 := by grind
    grind
end L81
end

section
set_option maxHeartbeats 1000000
namespace L81
open PySem Mn
variable {S : So} {Q : NSq}
local macro_rules
  | `(tactic| keq_rows) => `(tactic| (repeat' (first
      | with_reducible exact e_int | with_reducible exact e_bl | with_reducible exact e_non | with_reducible exact e_str | with_reducible exact e_nil | with_reducible exact s_pass | with_reducible exact eo_none | with_reducible exact o_add | with_reducible exact o_sub | with_reducible exact c_eq | with_reducible exact c_lt | with_reducible exact c_le | with_reducible exact c_gt | with_reducible exact c_ge | with_reducible exact c_ne
      | ((with_reducible refine' ss_nl ?mnh); (case mnh => exact rfl)) | ((with_reducible refine' e_var ?mnh); (case mnh => exact rfl)) | ((with_reducible refine' asg_i ?mnh); (case mnh => exact rfl)) | ((with_reducible refine' at_i ?mnh); (case mnh => exact rfl)) | ((with_reducible refine' ty_i ?mnh); (case mnh => exact rfl)) | ((with_reducible refine' mv_i ?mnh); (case mnh => exact rfl)) | ((with_reducible refine' bi_i ?mnh); (case mnh => exact rfl)) | ((with_reducible refine' e_glob ?mnh); (case mnh => kernel_rfl)) | (with_reducible exact div_lit (by decide)) | ((with_reducible refine' len_i ?mnh); (case mnh => exact rfl))
      | with_reducible refine' exSs_rt (s_ret ?_) | with_reducible refine' exSs_nx (s_asg ?_ ?_) ?_ | with_reducible refine' exSs_nx (s_ex ?_) ?_ | with_reducible refine' exSs_nx (s_put ?_ ?_ ?_ ?_) ?_ | with_reducible refine' t_of ?_ | with_reducible refine' e_bin ?_ ?_ ?_ | with_reducible refine' e_neg ?_ | with_reducible refine' e_cons ?_ ?_ | with_reducible refine' e_tup ?_ ?_ | with_reducible refine' e_lst ?_ ?_ | with_reducible refine' e_ix ?_ ?_ ?_ | with_reducible refine' e_cmp ?_ ?_ ?_ | with_reducible refine' e_not ?_ | with_reducible refine' e_call ?_ ?_ | with_reducible refine' e_bi ?_ ?_ | with_reducible refine' e_me ?_ ?_ ?_ ?_ | with_reducible refine' eo_some ?_ | with_reducible refine' e_sl ?_ ?_ ?_ ?_ | with_reducible refine' e_rev ?_ ?_ | with_reducible refine' ix_tup ?_
      | (with_reducible refine' e_callk ?_ ?_ (by kernel_rfl) rfl ?_)
      | keq_hits
      | with_reducible refine' o_mul ?_ | with_reducible refine' o_fdiv ?_ | with_reducible refine' o_mod ?_)))
  | `(tactic| kas_types) => `(tactic| (repeat' (first
      | exact Sz.id (by assumption) | exact Sz.lit (n := 16) (by decide) | with_reducible refine' Sz.mul ?_ ?_ | with_reducible refine' Sz.add ?_ ?_ | with_reducible refine' Sz.sub ?_ ?_ | with_reducible refine' Sz.neg ?_ | with_reducible refine' Sz.div ?_)))
  | `(tactic| lcg_sub) => `(tactic| ((refine' mul_sz ?mza ?mzb ?mzc); (case mza => kas_types); (case mzb => kas_types); (case mzc => omega)))
local macro_rules | `(tactic| keq_hits) => `(tactic| with_reducible refine' c_common ?_ ?_)
theorem rp_vl {B : Nat} {a b c d : Int} (hc : c ≠ 0) (hd : b = 0 ∨ d = Q.d) (hB : B ≤ 8999) (ha : Sz B a) (hb : Sz B b) (hcz : Sz B c) (hQ : Tld Q) : Rp Q B (tp (vl Q a b c)) (vl Q a b c) := by
  obtain ⟨t, _, h⟩ := c_lowest (S := []) (n := 0) hc hd hB ha hb hcz hQ.2
  have e := h.tp
  rw [← e]
  exact h
theorem rp_aff {B k : Nat} {v : Kd Q} (h : Rp Q B (tp v) v) {P R : Int} (hP : Sz k P) (hR : Sz k R) (hk : B + k + 1 ≤ 8999) (hQ : Tld Q) : Rp Q (B + k + 1) (tp ((P : Kd Q) * v + (R : Kd Q))) ((P : Kd Q) * v + (R : Kd Q)) := by
  obtain ⟨a, b, c, d, e, k1, k2, za, zb, zc, _⟩ := h
  have hc : c ≠ 0 := by have := k1.pos; omega
  have hc0 := Kd.cne (Q := Q) hc
  have e1 : (P : Kd Q) * v + (R : Kd Q) = vl Q (P * a + R * c) (P * b) c := by
    rw [← k2]
    unfold vl
    simp only [Kd.cadd, Kd.cmul]
    grind
  rw [e1]
  refine rp_vl (d := Q.d) hc (.inr rfl) hk (((hP.mul za).add (hR.mul zc)).mono (by omega)) ((hP.mul zb).mono (by omega)) (zc.mono (by omega)) hQ
theorem slope_rp {u w : List Int} {s : Kd Q} (hu : Rw u) (h : Rnd Q w s) (hul : u.length ≤ 12) : Rp Q 330 (tp (act u s)) (act u s) := by
  obtain ⟨a, b, c, d, e, k1, k2, za, zb, zc, hQ⟩ := h.rp
  have hp := k1.pos
  have hc : c ≠ 0 := by omega
  have hc0 := Kd.cne (Q := Q) hc
  obtain ⟨a1, a2⟩ := act_frac hu.ps h.fix.1
  obtain ⟨z1, z2, z3, z4⟩ := tab_sz hu
  replace z1 := z1.mono (show 1 + 5 * u.length ≤ 61 by omega)
  replace z2 := z2.mono (show 1 + 5 * u.length ≤ 61 by omega)
  replace z3 := z3.mono (show 1 + 5 * u.length ≤ 61 by omega)
  replace z4 := z4.mono (show 1 + 5 * u.length ≤ 61 by omega)
  generalize (tab u).1 = A at *
  generalize (tab u).2.1 = B at *
  generalize (tab u).2.2.1 = C at *
  generalize (tab u).2.2.2 = D at *
  have hr := rt_sq (Q := Q)
  have hv := vl_mul (Q := Q) (a := a) (b := b) (c := c) hc
  rw [k2] at hv
  have hden : ((D * c + C * a : Int) : Kd Q) + ((C * b : Int) : Kd Q) * rt Q = (c : Kd Q) * ((D : Kd Q) + (C : Kd Q) * s) := by
    simp only [Kd.cadd, Kd.cmul]
    grind
  have hnum : ((B * c + A * a : Int) : Kd Q) + ((A * b : Int) : Kd Q) * rt Q = (c : Kd Q) * ((B : Kd Q) + (A : Kd Q) * s) := by
    simp only [Kd.cadd, Kd.cmul]
    grind
  have zX : Sz 132 (B * c + A * a) := ((z2.mul zc).add (z1.mul za)).mono (by omega)
  have zY : Sz 131 (A * b) := (z1.mul zb).mono (by omega)
  have zZ : Sz 132 (D * c + C * a) := ((z4.mul zc).add (z3.mul za)).mono (by omega)
  have zW : Sz 131 (C * b) := (z3.mul zb).mono (by omega)
  generalize hX : B * c + A * a = X at *
  generalize hY : A * b = Y at *
  generalize hZ : D * c + C * a = Z at *
  generalize hW : C * b = W at *
  have hcp : 0 < (c : Kd Q) := Kd.cpos.mpr hp
  have hdp : 0 < (Z : Kd Q) + (W : Kd Q) * rt Q := by rw [hden]; exact mul_pos' hcp a1
  have zd : Sz 64 (Q.d : Int) := by unfold Sz; have := h.tld.2; omega
  have hcast : (((Q.d : Int)) : Kd Q) = (Q.d : Kd Q) := natD
  have hnz : Z * Z - W * W * (Q.d : Int) ≠ 0 := by
    intro k0
    have k1 := congrArg (fun x : Int => (x : Kd Q)) k0
    simp only [Kd.csub, Kd.cmul, Kd.c0, hcast] at k1
    rw [← hr] at k1
    have k2 : ((Z : Kd Q) + (W : Kd Q) * rt Q) * ((Z : Kd Q) - (W : Kd Q) * rt Q) = 0 := by grind
    have k3 : (Z : Kd Q) - (W : Kd Q) * rt Q = 0 := by grind
    have k4 : ((Z : Int) : Kd Q) + ((-W : Int) : Kd Q) * rt Q = ((0 : Int) : Kd Q) + ((0 : Int) : Kd Q) * rt Q := by
      rw [Kd.cneg, Kd.c0]
      grind
    obtain ⟨k5, k6⟩ := ab_inj k4
    have : W = 0 := by omega
    subst k5
    subst this
    rw [Kd.c0] at hdp
    grind
  have e1 : act u s = vl Q (X * Z - Y * W * (Q.d : Int)) (Y * Z - X * W) (Z * Z - W * W * (Q.d : Int)) := by
    have hn0 := Kd.cne (Q := Q) hnz
    rw [← a2]
    unfold vl
    simp only [Kd.csub, Kd.cmul, hcast] at hn0 ⊢
    rw [← hr] at hn0 ⊢
    generalize rt Q = r at *
    have g1 : (D : Kd Q) + (C : Kd Q) * s ≠ 0 := by grind
    generalize (D : Kd Q) + (C : Kd Q) * s = y at *
    generalize (B : Kd Q) + (A : Kd Q) * s = x at *
    have g2 : (Z : Kd Q) + (W : Kd Q) * r ≠ 0 := by grind
    have g3 : ((Z : Kd Q) + (W : Kd Q) * r) * x = ((X : Kd Q) + (Y : Kd Q) * r) * y := by
      rw [hden, hnum]
      grind
    have g4 : ((X : Kd Q) * (Z : Kd Q) - (Y : Kd Q) * (W : Kd Q) * (r * r) + ((Y : Kd Q) * (Z : Kd Q) - (X : Kd Q) * (W : Kd Q)) * r) = ((X : Kd Q) + (Y : Kd Q) * r) * ((Z : Kd Q) - (W : Kd Q) * r) := by grind
    have g5 : ((Z : Kd Q) * (Z : Kd Q) - (W : Kd Q) * (W : Kd Q) * (r * r)) = ((Z : Kd Q) + (W : Kd Q) * r) * ((Z : Kd Q) - (W : Kd Q) * r) := by grind
    rw [g4, g5]
    rw [g5] at hn0
    generalize (X : Kd Q) + (Y : Kd Q) * r = p at *
    generalize (Z : Kd Q) + (W : Kd Q) * r = q at *
    generalize (Z : Kd Q) - (W : Kd Q) * r = q' at *
    have g6 : q' ≠ 0 := by grind
    have g7 : x * (1 / y) = p / q := by grind
    have g8 : p * q' / (q * q') = p / q := by grind
    rw [g7, g8]
  rw [e1]
  exact rp_vl (d := Q.d) hnz (.inr rfl) (by omega) (((zX.mul zZ).sub ((zY.mul zW).mul zd)).mono (by omega)) (((zY.mul zZ).sub (zX.mul zW)).mono (by omega)) (((zZ.mul zZ).sub ((zW.mul zW).mul zd)).mono (by omega)) h.tld
def xk (u w : List Int) (s : Kd Q) (k : Nat) : Kd Q := if k < u.length then act (u.drop k) s else lf w s ((k - u.length) % w.length)
theorem xk_zero {u w : List Int} {s : Kd Q} (h : Rnd Q w s) : xk u w s 0 = act u s := by
  unfold xk
  split
  · rw [List.drop_zero]
  · have : u.length = 0 := by omega
    have e := List.eq_nil_of_length_eq_zero this
    subst e
    rw [Nat.zero_sub, Nat.zero_mod, lf_zero h]
    rfl
theorem xk_step {u w : List Int} {s : Kd Q} (hu : Rw u) (h : Rnd Q w s) (k : Nat) : xk u w s k * ((tm u w k : Kd Q) + xk u w s (k + 1)) = 1 ∧ 0 < xk u w s k := by
  have hl : 0 < w.length := List.length_pos_iff.mpr h.ne
  have key : ∀ j, j < w.length → lf w s j * ((w[j]?.getD 0 : Int) + lf w s (j + 1)) = 1 ∧ 0 < lf w s j := by
    intro j hj
    have k1 := (lf_step h hj).1
    have k2 := (lf_rnd h j).fix.1
    rw [List.getElem?_eq_getElem hj]
    simp only [Option.getD_some]
    rw [← k1]
    exact ⟨by grind, k2⟩
  unfold xk tm
  by_cases h1 : k < u.length
  · rw [if_pos h1, if_pos h1]
    have e : act (u.drop k) s = 1 / ((u[k] : Kd Q) + act (u.drop (k + 1)) s) := by
      rw [List.drop_eq_getElem_cons h1]
      rfl
    have hp : 0 < act (u.drop (k + 1)) s := act_pos (fun t ht => hu.ps t (List.mem_of_mem_drop ht)) h.fix.1
    have t1 := c_one_le (Q := Q) (hu _ (List.getElem_mem h1)).1
    have e2 : (if k + 1 < u.length then act (u.drop (k + 1)) s else lf w s ((k + 1 - u.length) % w.length)) = act (u.drop (k + 1)) s := by
      split
      · rfl
      · rw [show k + 1 - u.length = 0 by omega, Nat.zero_mod, lf_zero h, List.drop_eq_nil_of_le (by omega)]
        rfl
    rw [e2, e, List.getElem?_eq_getElem h1]
    simp only [Option.getD_some]
    generalize act (u.drop (k + 1)) s = y at *
    have := inv_pos' (show 0 < (u[k] : Kd Q) + y by grind)
    exact ⟨by grind, this⟩
  · rw [if_neg h1, if_neg h1, if_neg (by omega)]
    have hm := Nat.mod_lt (k - u.length) hl
    have e : lf w s ((k + 1 - u.length) % w.length) = lf w s ((k - u.length) % w.length + 1) := by
      rw [show k + 1 - u.length = k - u.length + 1 by omega]
      have e : (k - u.length + 1) % w.length = ((k - u.length) % w.length + 1) % w.length := by rw [Nat.mod_add_mod]
      rw [e]
      rcases Nat.lt_or_ge ((k - u.length) % w.length + 1) w.length with h1 | h1
      · rw [Nat.mod_eq_of_lt h1]
      · have h2 : (k - u.length) % w.length + 1 = w.length := by omega
        rw [h2, Nat.mod_self, lf_end, lf_zero h]
    rw [e]
    exact key _ hm
theorem xk_lt {u w : List Int} {s : Kd Q} (hu : Rw u) (h : Rnd Q w s) (k : Nat) : xk u w s k < 1 := by
  obtain ⟨k1, k2⟩ := xk_step hu h k
  have k3 := (xk_step hu h (k + 1)).2
  have t1 := c_one_le (Q := Q) (tm_bd hu h.rw h.ne k).1
  generalize xk u w s (k + 1) = y at *
  generalize xk u w s k = x at *
  generalize (tm u w k : Kd Q) = t at *
  have := mul_pos' k2 (show 0 < t + y - 1 by grind)
  grind
def th (u w : List Int) (s : Kd Q) : Nat → Kd Q
  | 0 => 1
  | k + 1 => th u w s k * xk u w s k
theorem th_pos {u w : List Int} {s : Kd Q} (hu : Rw u) (h : Rnd Q w s) : ∀ k, 0 < th u w s k
  | 0 => by unfold th; grind
  | k + 1 => mul_pos' (th_pos hu h k) (xk_step hu h k).2
theorem th_lt {u w : List Int} {s : Kd Q} (hu : Rw u) (h : Rnd Q w s) (k : Nat) : th u w s (k + 1) < th u w s k := by
  have a := th_pos hu h k
  have b := xk_lt hu h k
  have := mul_pos' a (show 0 < 1 - xk u w s k by grind)
  show th u w s k * xk u w s k < _
  grind
theorem th_le {u w : List Int} {s : Kd Q} (hu : Rw u) (h : Rnd Q w s) {j k : Nat} (hjk : j ≤ k) : th u w s k ≤ th u w s j := by
  induction k with
  | zero =>
    have : j = 0 := by omega
    subst this
    grind
  | succ k ih =>
    rcases Nat.lt_or_ge k j with h1 | h1
    · have : j = k + 1 := by omega
      subst this
      grind
    · have a := ih h1
      have b := th_lt hu h k
      grind
theorem th_rec {u w : List Int} {s : Kd Q} (hu : Rw u) (h : Rnd Q w s) (k : Nat) : th u w s k = (tm u w k : Kd Q) * th u w s (k + 1) + th u w s (k + 2) := by
  have k1 := (xk_step hu h k).1
  show th u w s k = (tm u w k : Kd Q) * (th u w s k * xk u w s k) + th u w s k * xk u w s k * xk u w s (k + 1)
  generalize th u w s k = t at *
  grind
def sg (Q : NSq) (k : Nat) : Kd Q := if k % 2 = 0 then 1 else -1
theorem sg_succ (k : Nat) : sg Q (k + 1) = -sg Q k := by
  unfold sg
  rcases Nat.mod_two_eq_zero_or_one k with h | h
  · rw [if_neg (by omega), if_pos h]
  · rw [if_pos (by omega), if_neg (by omega)]
    grind
theorem th_eq {u w : List Int} {s : Kd Q} (hu : Rw u) (h : Rnd Q w s) : ∀ k, th u w s (k + 1) = sg Q k * (((stp (tm u w) k).1 : Kd Q) * act u s - ((ptp (tm u w) k).1 : Kd Q)) ∧ th u w s k = -sg Q k * (((stp (tm u w) k).2 : Kd Q) * act u s - ((ptp (tm u w) k).2 : Kd Q))
  | 0 => by
    have e1 : sg Q 0 = 1 := rfl
    have e2 : th u w s 1 = act u s := by
      show (1 : Kd Q) * xk u w s 0 = _
      rw [xk_zero h]
      grind
    rw [e1, e2]
    simp only [stp, ptp, Kd.c0, Kd.c1]
    constructor
    · grind
    · show (1 : Kd Q) = _
      grind
  | k + 1 => by
    obtain ⟨a, b⟩ := th_eq hu h k
    have c := th_rec hu h k
    rw [sg_succ]
    simp only [stp, ptp, Kd.cadd, Kd.cmul]
    refine ⟨?_, by rw [a]; grind⟩
    have : th u w s (k + 1 + 1) = th u w s k - (tm u w k : Kd Q) * th u w s (k + 1) := by
      show th u w s (k + 2) = _
      grind
    rw [this, a, b]
    grind
theorem th_rp {u w : List Int} {s : Kd Q} (hu : Rw u) (h : Rnd Q w s) (hul : u.length ≤ 12) {k : Nat} (hk : k ≤ 11) {i : Int} (hi : Sz 5 i) : Rp Q 400 (tp (th u w s k - (i : Kd Q) * th u w s (k + 1))) (th u w s k - (i : Kd Q) * th u w s (k + 1)) := by
  obtain ⟨a, b⟩ := th_eq hu h k
  have hv := slope_rp hu h hul
  have z1 := stp_sz (tm_bd hu h.rw h.ne) k
  have z2 := ptp_sz (tm_bd hu h.rw h.ne) k
  have y1 : Sz 52 ((stp (tm u w) k).2 + i * (stp (tm u w) k).1) := (z1.2.add (hi.mul z1.1)).mono (by omega)
  have y2 : Sz 52 ((ptp (tm u w) k).2 + i * (ptp (tm u w) k).1) := (z2.2.add (hi.mul z2.1)).mono (by omega)
  unfold sg at a b
  by_cases hp : k % 2 = 0
  · rw [if_pos hp] at a b
    have e : th u w s k - (i : Kd Q) * th u w s (k + 1) = ((-((stp (tm u w) k).2 + i * (stp (tm u w) k).1) : Int) : Kd Q) * act u s + (((ptp (tm u w) k).2 + i * (ptp (tm u w) k).1 : Int) : Kd Q) := by
      rw [a, b]
      simp only [Kd.cneg, Kd.cadd, Kd.cmul]
      grind
    rw [e]
    exact (rp_aff hv y1.neg y2 (by omega) h.tld).mono (by omega)
  · rw [if_neg hp] at a b
    have e : th u w s k - (i : Kd Q) * th u w s (k + 1) = (((stp (tm u w) k).2 + i * (stp (tm u w) k).1 : Int) : Kd Q) * act u s + ((-((ptp (tm u w) k).2 + i * (ptp (tm u w) k).1) : Int) : Kd Q) := by
      rw [a, b]
      simp only [Kd.cneg, Kd.cadd, Kd.cmul]
      grind
    rw [e]
    exact (rp_aff hv y1 y2.neg (by omega) h.tld).mono (by omega)
theorem th_rp0 {u w : List Int} {s : Kd Q} (hu : Rw u) (h : Rnd Q w s) (hul : u.length ≤ 12) {k : Nat} (hk : k ≤ 11) : Rp Q 400 (tp (th u w s k)) (th u w s k) := by
  have := th_rp hu h hul hk (i := 0) (Sz.lit (by decide))
  have e : th u w s k - ((0 : Int) : Kd Q) * th u w s (k + 1) = th u w s k := by
    rw [Kd.c0]
    grind
  rw [e] at this
  exact this
end L81
end

section
set_option maxHeartbeats 1000000
namespace L81
open PySem Mn
variable {S : So} {Q : NSq}
theorem c_less_times {n B : Nat} {f g : Kd Q} {m : Int} (hf : Rp Q B (tp f) f) (hg : Rp Q B (tp g) g) (hm : Sz 30 m) (hB : B ≤ 1000) (hQ : Tld Q) :
    callF T (n + 4) "less_times" [tp f, .int m, tp g] S = some (tp (f - (m : Kd Q) * g), S) ∧ Rp Q (2 * B + 96) (tp (f - (m : Kd Q) * g)) (f - (m : Kd Q) * g) := by
  obtain ⟨t1, e1, k1⟩ := c_surd_times (S := S) (n := n) (rp_i (Q := Q) (n := 0) hm (by omega) hQ) hg (by omega)
  obtain ⟨t2, e2, k2⟩ := c_surd_turned (S := S) (n := n + 2) k1
  obtain ⟨r, e3, k3⟩ := c_surd_sum (S := S) (n := n) hf k2 (by omega)
  have e : f - (m : Kd Q) * g = f + -((m : Kd Q) * g) := by grind
  rw [← e] at k3
  have e4 := k3.tp
  rw [← e4]
  exact ⟨callF_pure f_less_times rfl (exSs_rt (s_ret (e_call (e_cons (e_var rfl) (e_cons (e_call (e_cons (e_call (e_cons (e_sd (e_var rfl)) (e_cons (e_var rfl) e_nil)) e1) e_nil) e2) e_nil)) e3))), k3.mono (by omega)⟩
theorem c_quot {n B B' : Nat} {f g : Kd Q} {m : Int} (hf : Rp Q B (tp f) f) (hg : Rp Q B' (tp g) g) (hB : B + 2 * B' ≤ 3700) (hg0 : 0 < g) (h1 : (m : Kd Q) * g ≤ f) (h2 : f < ((m : Kd Q) + 1) * g) :
    ∃ r1 r2, callF T (n + 3) "surd_back" [tp g] S = some (r1, S) ∧ callF T (n + 3) "surd_times" [tp f, r1] S = some (r2, S) ∧ callF T (n + 3) "whole_part" [r2] S = some (.int m, S) := by
  obtain ⟨r1, e1, k1⟩ := c_surd_back (S := S) (n := n) hg (by grind) (by omega)
  obtain ⟨r2, e2, k2⟩ := c_surd_times (S := S) (n := n) hf k1 (by omega)
  obtain ⟨q, e3, k3, k4⟩ := c_whole_part (S := S) (n := n + 1) k2 (by omega)
  have hi := inv_pos' hg0
  have eg : g * (1 / g) = 1 := by grind
  have : q = m := by
    refine floor_uniq k3 k4 ?_ ?_
    · generalize 1 / g = y at *
      by_cases hc : (m : Kd Q) * g = f
      · rw [← hc]
        have : (m : Kd Q) * g * y = m := by grind
        rw [this]
        grind
      · have := mul_pos' (show 0 < f - (m : Kd Q) * g by grind) hi
        have e5 : (f - (m : Kd Q) * g) * y = f * y - m := by grind
        rw [e5] at this
        grind
    · generalize 1 / g = y at *
      have := mul_pos' (show 0 < ((m : Kd Q) + 1) * g - f by grind) hi
      have e5 : (((m : Kd Q) + 1) * g - f) * y = (m : Kd Q) + 1 - f * y := by grind
      rw [e5] at this
      grind
  subst this
  exact ⟨r1, r2, e1, e2, e3⟩
theorem c_tl_met {n : Nat} {f g : Kd Q} {c : D} {m : Int} (hf : Rp Q 400 (tp f) f) (hg : Rp Q 400 (tp g) g) (hg0 : 0 < g) (h1 : (m : Kd Q) * g ≤ f) (h2 : f < ((m : Kd Q) + 1) * g) :
    callF T (n + 5) "times_less" [tp f, tp g, c, .bl true] S = some (.int m, S) := by
  obtain ⟨r1, r2, e1, e2, e3⟩ := c_quot (S := S) (n := n + 1) hf hg (by omega) hg0 h1 h2
  exact callF_pure f_times_less rfl (exSs_nx (s_asg (e_call (e_cons (e_call (e_cons (e_var rfl) (e_cons (e_call (e_cons (e_var rfl) e_nil) e1) e_nil)) e2) e_nil) e3) rfl) (exSs_rt (s_if_t (t_of (e_var rfl)) (exSs_rt (s_ret (e_var rfl))))))
theorem c_tl_un {n : Nat} {f g c : Kd Q} {m m2 : Int} (hf : Rp Q 400 (tp f) f) (hg : Rp Q 400 (tp g) g) (hc : Rp Q 400 (tp c) c) (hQ : Tld Q) (hg0 : 0 < g) (h1 : (m : Kd Q) * g ≤ f) (h2 : f < ((m : Kd Q) + 1) * g)
    (h3 : (m2 : Kd Q) * g ≤ f - c) (h4 : f - c < ((m2 : Kd Q) + 1) * g) :
    callF T (n + 5) "times_less" [tp f, tp g, tp c, .bl false] S = some (.int (if m2 + 1 < m then m2 + 1 else m), S) := by
  obtain ⟨r1, r2, e1, e2, e3⟩ := c_quot (S := S) (n := n + 1) hf hg (by omega) hg0 h1 h2
  obtain ⟨f1, k1⟩ := c_less_times (S := S) (n := n) (m := 1) hf hc (Sz.lit (by decide)) (by omega) hQ
  have ec : f - ((1 : Int) : Kd Q) * c = f - c := by rw [Kd.c1]; grind
  rw [ec] at f1 k1
  obtain ⟨q1, q2, g1, g2, g3⟩ := c_quot (S := S) (n := n + 1) k1 hg (by omega) hg0 h3 h4
  exact callF_pure f_times_less rfl (exSs_nx (s_asg (e_call (e_cons (e_call (e_cons (e_var rfl) (e_cons (e_call (e_cons (e_var rfl) e_nil) e1) e_nil)) e2) e_nil) e3) rfl) (exSs_nx (s_if_f (t_of (e_var rfl)) ss_nil)
    (exSs_rt (s_ret (e_bi (e_cons (e_var rfl) (e_cons (e_bin (e_call (e_cons (e_call (e_cons (e_call (e_cons (e_var rfl) (e_cons e_int (e_cons (e_var rfl) e_nil))) f1) (e_cons (e_call (e_cons (e_var rfl) e_nil) g1) e_nil)) g2) e_nil) g3) e_int o_add) e_nil)) rfl)))))
noncomputable def em : Option (Int × Kd Q) → D
  | none => .non
  | some p => .tup [.int p.1, tp p.2]
open Classical in
noncomputable def upd (U : Option (Int × Kd Q)) (a : Int) (l c : Kd Q) : Option (Int × Kd Q) := match U with
  | none => if l < c then some (a, l) else none
  | some p => some p
theorem upd_t {a : Int} {l c : Kd Q} (h : l < c) : upd none a l c = some (a, l) := by
  unfold upd
  simp only
  rw [if_pos h]
theorem upd_f {a : Int} {l c : Kd Q} (h : ¬ l < c) : upd none a l c = none := by
  unfold upd
  simp only
  rw [if_neg h]
noncomputable abbrev lE (v c : Kd Q) (a b : Int) (l h : Kd Q) (U W : Option (Int × Kd Q)) (m : Option D) : En := [some (tp v), some (tp c), some (.int a), some (.int b), some (tp l), some (tp h), some (em U), some (em W), m]
theorem l_up {n : Nat} {v c l h : Kd Q} {a b : Int} {U W : Option (Int × Kd Q)} {m : Option D} (hl : Rp Q 400 (tp l) l) (hc : Rp Q 400 (tp c) c) :
    exS T (callF T (n + 5)) b_longest_time.tl.tl.hd.bd.hd (lE v c a b l h U W m) S = some (.nx (lE v c a b l h (upd U a l c) W m), S) := by
  obtain ⟨s1, o1, o2⟩ := c_surd_order (S := S) (n := n + 1) hl hc (by omega)
  have o3 := ord_lt o2
  cases U with
  | some p => exact s_if_f (t_of (e_and_f (e_cmp (e_var rfl) e_non rfl))) ss_nil
  | none =>
    by_cases hlt : l < c
    · rw [upd_t hlt]
      exact s_if_t (t_of (e_and_t (e_cmp (e_var rfl) e_non rfl) (e_and1 (e_cmp (e_call (e_cons (e_var rfl) (e_cons (e_var rfl) e_nil)) o1) e_int (c_lt_t (o3.mpr hlt)))))) (exSs_nx (s_asg (e_tup (e_cons (e_var rfl) (e_cons (e_var rfl) e_nil)) (len_i rfl)) rfl) ss_nil)
    · rw [upd_f hlt]
      exact s_if_f (t_of (e_and_t (e_cmp (e_var rfl) e_non rfl) (e_and1 (e_cmp (e_call (e_cons (e_var rfl) (e_cons (e_var rfl) e_nil)) o1) e_int (c_lt_f (fun k => hlt (o3.mp k))))))) ss_nil
theorem l_down {n : Nat} {v c l h : Kd Q} {a b : Int} {U W : Option (Int × Kd Q)} {m : Option D} (hh : Rp Q 400 (tp h) h) (hc : Rp Q 400 (tp c) c) :
    exS T (callF T (n + 5)) b_longest_time.tl.tl.hd.bd.tl.hd (lE v c a b l h U W m) S = some (.nx (lE v c a b l h U (upd W b h c) m), S) := by
  obtain ⟨s1, o1, o2⟩ := c_surd_order (S := S) (n := n + 1) hh hc (by omega)
  have o3 := ord_lt o2
  cases W with
  | some p => exact s_if_f (t_of (e_and_f (e_cmp (e_var rfl) e_non rfl))) ss_nil
  | none =>
    by_cases hlt : h < c
    · rw [upd_t hlt]
      exact s_if_t (t_of (e_and_t (e_cmp (e_var rfl) e_non rfl) (e_and1 (e_cmp (e_call (e_cons (e_var rfl) (e_cons (e_var rfl) e_nil)) o1) e_int (c_lt_t (o3.mpr hlt)))))) (exSs_nx (s_asg (e_tup (e_cons (e_var rfl) (e_cons (e_var rfl) e_nil)) (len_i rfl)) rfl) ss_nil)
    · rw [upd_f hlt]
      exact s_if_f (t_of (e_and_t (e_cmp (e_var rfl) e_non rfl) (e_and1 (e_cmp (e_call (e_cons (e_var rfl) (e_cons (e_var rfl) e_nil)) o1) e_int (c_lt_f (fun k => hlt (o3.mp k))))))) ss_nil
theorem isnot_em {U : Option (Int × Kd Q)} : cpV .isnot (em U) .non S = some U.isSome := by cases U <;> rfl
theorem is_em {U : Option (Int × Kd Q)} : cpV .is (em U) .non S = some (!U.isSome) := by cases U <;> rfl
theorem l_hi {n : Nat} {v c l h : Kd Q} {a b M : Int} {U W : Option (Int × Kd Q)} {m : Option D} (hl : Rp Q 400 (tp l) l) (hh : Rp Q 400 (tp h) h) (hc : Rp Q 400 (tp c) c) (hQ : Tld Q) (hlt : h < l) (hM : Sz 5 M) (hb : Sz 50 b)
    (e : callF T (n + 5) "times_less" [tp l, tp h, tp c, .bl (upd U a l c).isSome] S = some (.int M, S)) :
    exSs T (callF T (n + 5)) b_longest_time.tl.tl.hd.bd (lE v c a b l h U W m) S = some (.nx (lE v c (a + M * b) b (l - (M : Kd Q) * h) h (upd U a l c) (upd W b h c) (some (.int M))), S) := by
  obtain ⟨s1, o1, o2⟩ := c_surd_order (S := S) (n := n + 1) hl hh (by omega)
  have o3 := ord_gt o2
  have f1 := (c_less_times (S := S) (n := n + 1) (m := M) hl hh (hM.mono (by omega)) (by omega) hQ).1
  exact exSs_nx (l_up hl hc) (exSs_nx (l_down hh hc) (exSs_nx (s_if_t (t_of (e_cmp (e_call (e_cons (e_var rfl) (e_cons (e_var rfl) e_nil)) o1) e_int (c_gt_t (o3.mpr hlt)))) (exSs_nx (s_asg (e_call (e_cons (e_var rfl) (e_cons (e_var rfl) (e_cons (e_var rfl) (e_cons (e_cmp (e_var rfl) e_non isnot_em) e_nil)))) e) rfl)
    (exSs_nx (s_asg (e_tup (e_cons (e_bin (e_var rfl) (e_bin (e_var rfl) (e_var rfl) (o_mul (mul_sz hM hb (by omega)))) o_add) (e_cons (e_call (e_cons (e_var rfl) (e_cons (e_var rfl) (e_cons (e_var rfl) e_nil))) f1) e_nil)) (len_i rfl)) rfl) (ss_nl rfl)))) (ss_nl rfl)))
theorem l_lo {n : Nat} {v c l h : Kd Q} {a b M : Int} {U W : Option (Int × Kd Q)} {m : Option D} (hl : Rp Q 400 (tp l) l) (hh : Rp Q 400 (tp h) h) (hc : Rp Q 400 (tp c) c) (hQ : Tld Q) (hlt : ¬ h < l) (hM : Sz 5 M) (ha : Sz 50 a)
    (e : callF T (n + 5) "times_less" [tp h, tp l, tp c, .bl (upd W b h c).isSome] S = some (.int M, S)) :
    exSs T (callF T (n + 5)) b_longest_time.tl.tl.hd.bd (lE v c a b l h U W m) S = some (.nx (lE v c a (b + M * a) l (h - (M : Kd Q) * l) (upd U a l c) (upd W b h c) (some (.int M))), S) := by
  obtain ⟨s1, o1, o2⟩ := c_surd_order (S := S) (n := n + 1) hl hh (by omega)
  have o3 := ord_gt o2
  have f1 := (c_less_times (S := S) (n := n + 1) (m := M) hh hl (hM.mono (by omega)) (by omega) hQ).1
  exact exSs_nx (l_up hl hc) (exSs_nx (l_down hh hc) (exSs_nx (s_if_f (t_of (e_cmp (e_call (e_cons (e_var rfl) (e_cons (e_var rfl) e_nil)) o1) e_int (c_gt_f (fun k => hlt (o3.mp k))))) (exSs_nx (s_asg (e_call (e_cons (e_var rfl) (e_cons (e_var rfl) (e_cons (e_var rfl) (e_cons (e_cmp (e_var rfl) e_non isnot_em) e_nil)))) e) rfl)
    (exSs_nx (s_asg (e_tup (e_cons (e_bin (e_var rfl) (e_bin (e_var rfl) (e_var rfl) (o_mul (mul_sz hM ha (by omega)))) o_add) (e_cons (e_call (e_cons (e_var rfl) (e_cons (e_var rfl) (e_cons (e_var rfl) e_nil))) f1) e_nil)) (len_i rfl)) rfl) (ss_nl rfl)))) (ss_nl rfl)))
theorem l_cond {cf} {v c l h : Kd Q} {a b : Int} {U W : Option (Int × Kd Q)} {m : Option D} : evT T cf (.or (.cons (.cmp .is (.var 6) .non) (.cons (.cmp .is (.var 7) .non) .nil))) (lE v c a b l h U W m) S = some (!(U.isSome && W.isSome), S) := by
  cases U with
  | none => exact t_of (e_or_t (e_cmp (e_var rfl) e_non is_em))
  | some p =>
    cases W with
    | none => exact t_of (e_or_f (e_cmp (e_var rfl) e_non is_em) (e_or1 (e_cmp (e_var rfl) e_non is_em)))
    | some q => exact t_of (e_or_f (e_cmp (e_var rfl) e_non is_em) (e_or1 (e_cmp (e_var rfl) e_non is_em)))
noncomputable def stE (u w : List Int) (s : Kd Q) (v c : Kd Q) (j : Nat) (i : Int) (U W : Option (Int × Kd Q)) (m : Option D) : En :=
  if j % 2 = 0 then lE v c (stp (tm u w) j).1 ((stp (tm u w) j).2 + i * (stp (tm u w) j).1) (th u w s (j + 1)) (th u w s j - (i : Kd Q) * th u w s (j + 1)) U W m
  else lE v c ((stp (tm u w) j).2 + i * (stp (tm u w) j).1) (stp (tm u w) j).1 (th u w s j - (i : Kd Q) * th u w s (j + 1)) (th u w s (j + 1)) U W m
theorem stE_next {u w : List Int} {s v c : Kd Q} (hu : Rw u) (h : Rnd Q w s) {j : Nat} {U W : Option (Int × Kd Q)} {m : Option D} : stE u w s v c j (tm u w j) U W m = stE u w s v c (j + 1) 0 U W m := by
  have e1 : th u w s j - (tm u w j : Kd Q) * th u w s (j + 1) = th u w s (j + 2) := by
    have := th_rec hu h j
    grind
  have e2 : (stp (tm u w) j).2 + tm u w j * (stp (tm u w) j).1 = (stp (tm u w) (j + 1)).1 := by
    simp only [stp]
    omega
  have e3 : (stp (tm u w) (j + 1)).2 + 0 * (stp (tm u w) (j + 1)).1 = (stp (tm u w) j).1 := by
    simp only [stp]
    omega
  have e4 : th u w s (j + 1) - ((0 : Int) : Kd Q) * th u w s (j + 1 + 1) = th u w s (j + 1) := by
    rw [Kd.c0]
    grind
  unfold stE
  rw [e1, e2, e3, e4]
  rcases Nat.mod_two_eq_zero_or_one j with hj | hj
  · rw [if_pos hj, if_neg (by omega)]
  · rw [if_neg (by omega), if_pos (by omega)]
end L81
end

section
set_option maxHeartbeats 1000000
namespace L81
open PySem Mn
variable {S : So} {Q : NSq}
theorem sz5 {t : Int} (h : 0 ≤ t ∧ t ≤ 9) : Sz 5 t := by unfold Sz; omega
theorem th_two {u w : List Int} {s : Kd Q} (hu : Rw u) (h : Rnd Q w s) (j : Nat) : 0 < th u w s (j + 2) ∧ th u w s (j + 2) < th u w s (j + 1) := ⟨th_pos hu h _, th_lt hu h _⟩
theorem l_iter {n j K : Nat} {i : Int} {u w : List Int} {s v : Kd Q} {m : Option D} (hu : Rw u) (h : Rnd Q w s) (hul : u.length ≤ 12) (hj : j ≤ K) (hK : K ≤ 9) (hi : 0 ≤ i) (hi2 : i < tm u w j) :
    exSs T (callF T (n + 5)) b_longest_time.tl.tl.hd.bd (stE u w s v (th u w s (K + 1)) j i none none m) S = some (.nx (stE u w s v (th u w s (K + 1)) (j + 1) 0 none none (some (.int (tm u w j - i)))), S) := by
  have hbd := tm_bd hu h.rw h.ne
  have rn := th_rp0 hu h hul (k := j + 1) (by omega)
  have rf := th_rp hu h hul (k := j) (by omega) (i := i) (sz5 (by have := hbd j; omega))
  have rc := th_rp0 hu h hul (k := K + 1) (by omega)
  have hrec := th_rec hu h j
  obtain ⟨p2, l2⟩ := th_two hu h j
  have pn := th_pos hu h (j + 1)
  have hc := th_le hu h (j := j + 1) (k := K + 1) (by omega)
  have ht1 := c_one_le (Q := Q) (show 1 ≤ tm u w j - i by omega)
  rw [Kd.csub] at ht1
  have hzs := stp_sz hbd j
  have hM : Sz 5 (tm u w j - i) := sz5 (by have := hbd j; omega)
  rw [← stE_next hu h]
  have hmul : 0 ≤ ((tm u w j : Kd Q) - (i : Kd Q) - 1) * th u w s (j + 1) := by
    by_cases h1 : (tm u w j : Kd Q) - (i : Kd Q) - 1 = 0
    · rw [h1]; grind
    · have := mul_pos' (show 0 < (tm u w j : Kd Q) - (i : Kd Q) - 1 by grind) pn
      grind
  have efar : th u w s j - (i : Kd Q) * th u w s (j + 1) = ((tm u w j : Kd Q) - (i : Kd Q)) * th u w s (j + 1) + th u w s (j + 2) := by grind
  have hfn : th u w s (j + 1) < th u w s j - (i : Kd Q) * th u w s (j + 1) := by grind
  have htl : callF T (n + 5) "times_less" [tp (th u w s j - (i : Kd Q) * th u w s (j + 1)), tp (th u w s (j + 1)), tp (th u w s (K + 1)), .bl false] S = some (.int (tm u w j - i), S) := by
    have q1 : ((tm u w j - i : Int) : Kd Q) * th u w s (j + 1) ≤ th u w s j - (i : Kd Q) * th u w s (j + 1) := by rw [Kd.csub]; grind
    have q2 : th u w s j - (i : Kd Q) * th u w s (j + 1) < (((tm u w j - i : Int) : Kd Q) + 1) * th u w s (j + 1) := by rw [Kd.csub]; grind
    rcases Nat.lt_or_eq_of_le hj with hjK | hjK
    · have hc2 := th_le hu h (j := j + 2) (k := K + 1) (by omega)
      have pc := th_pos hu h (K + 1)
      have e := c_tl_un (S := S) (n := n) (m := tm u w j - i) (m2 := tm u w j - i) rf rn rc h.tld pn q1 q2 (by rw [Kd.csub]; grind) (by rw [Kd.csub]; grind)
      rw [if_neg (by omega)] at e
      exact e
    · subst hjK
      have e := c_tl_un (S := S) (n := n) (m := tm u w j - i) (m2 := tm u w j - i - 1) rf rn rc h.tld pn q1 q2 (by rw [Kd.csub, Kd.csub, Kd.c1]; grind) (by rw [Kd.csub, Kd.csub, Kd.c1]; grind)
      rw [if_neg (by omega)] at e
      exact e
  have e1 : (stp (tm u w) j).2 + i * (stp (tm u w) j).1 + (tm u w j - i) * (stp (tm u w) j).1 = (stp (tm u w) j).2 + tm u w j * (stp (tm u w) j).1 := by
    rw [Int.sub_mul]
    omega
  have e2 : th u w s j - (i : Kd Q) * th u w s (j + 1) - ((tm u w j - i : Int) : Kd Q) * th u w s (j + 1) = th u w s j - (tm u w j : Kd Q) * th u w s (j + 1) := by
    rw [Kd.csub]
    grind
  have g1 : ¬ th u w s (j + 1) < th u w s (K + 1) := by grind
  have g2 : ¬ th u w s j - (i : Kd Q) * th u w s (j + 1) < th u w s (K + 1) := by grind
  unfold stE
  rcases Nat.mod_two_eq_zero_or_one j with hp | hp
  · rw [if_pos hp, if_pos hp, ← e1, ← e2]
    have := l_lo (S := S) (n := n) (v := v) (a := (stp (tm u w) j).1) (b := (stp (tm u w) j).2 + i * (stp (tm u w) j).1) (M := tm u w j - i) (U := none) (W := none) (m := m) rn rf rc h.tld (by grind) hM (hzs.1.mono (by omega)) (by rw [upd_f g2]; exact htl)
    rw [upd_f g1, upd_f g2] at this
    exact this
  · rw [if_neg (by omega), if_neg (by omega), ← e1, ← e2]
    have := l_hi (S := S) (n := n) (v := v) (b := (stp (tm u w) j).1) (a := (stp (tm u w) j).2 + i * (stp (tm u w) j).1) (M := tm u w j - i) (U := none) (W := none) (m := m) rf rn rc h.tld hfn hM (hzs.1.mono (by omega)) (by rw [upd_f g2]; exact htl)
    rw [upd_f g1, upd_f g2] at this
    exact this
theorem l_fin1 {n J : Nat} {u w : List Int} {s v : Kd Q} {m : Option D} {q b : Int} (hu : Rw u) (h : Rnd Q w s) (hul : u.length ≤ 12) (hJ : J ≤ 10) (hq : Sz 50 q) :
    exSs T (callF T (n + 5)) b_longest_time.tl.tl.hd.bd (lE v (th u w s J) q b (th u w s (J + 1)) (th u w s J) none none m) S = some (.nx (lE v (th u w s J) q (b + 1 * q) (th u w s (J + 1)) (th u w s J - ((1 : Int) : Kd Q) * th u w s (J + 1)) (some (q, th u w s (J + 1))) none (some (.int 1))), S) ∧
    exSs T (callF T (n + 5)) b_longest_time.tl.tl.hd.bd (lE v (th u w s J) b q (th u w s J) (th u w s (J + 1)) none none m) S = some (.nx (lE v (th u w s J) (b + 1 * q) q (th u w s J - ((1 : Int) : Kd Q) * th u w s (J + 1)) (th u w s (J + 1)) none (some (q, th u w s (J + 1))) (some (.int 1))), S) := by
  have hbd := tm_bd hu h.rw h.ne
  have rn := th_rp0 hu h hul (k := J + 1) (by omega)
  have rf := th_rp0 hu h hul (k := J) (by omega)
  have hlt := th_lt hu h J
  have pn := th_pos hu h (J + 1)
  have hrec := th_rec hu h J
  obtain ⟨p2, l2⟩ := th_two hu h J
  have htl : callF T (n + 5) "times_less" [tp (th u w s J), tp (th u w s (J + 1)), tp (th u w s J), .bl false] S = some (.int 1, S) := by
    have e := c_tl_un (S := S) (n := n) (m := tm u w J) (m2 := 0) rf rn rf h.tld pn (by grind) (by grind) (by rw [Kd.c0]; grind) (by rw [Kd.c0]; grind)
    have e2 : (if (0 : Int) + 1 < tm u w J then (0 : Int) + 1 else tm u w J) = 1 := by
      have := hbd J
      split <;> omega
    rw [e2] at e
    exact e
  have g1 : ¬ th u w s J < th u w s J := by grind
  have h1 : Sz 5 1 := Sz.lit (by decide)
  constructor
  · have := l_lo (S := S) (n := n) (v := v) (a := q) (b := b) (M := 1) (U := none) (W := none) (m := m) rn rf rf h.tld (by grind) h1 hq (by rw [upd_f g1]; exact htl)
    rw [upd_f g1, upd_t hlt] at this
    exact this
  · have := l_hi (S := S) (n := n) (v := v) (a := b) (b := q) (M := 1) (U := none) (W := none) (m := m) rf rn rf h.tld hlt h1 hq (by rw [upd_f g1]; exact htl)
    rw [upd_f g1, upd_t hlt] at this
    exact this
theorem l_fin2 {n J : Nat} {u w : List Int} {s v : Kd Q} {m : Option D} {q b : Int} (hu : Rw u) (h : Rnd Q w s) (hul : u.length ≤ 12) (hJ : J ≤ 9) (hq : Sz 50 q) (hb : Sz 50 b) : ∃ (a1 b1 a2 b2 : Int) (x1 y1 x2 y2 : Kd Q) (m1 m2 : Option D),
    exSs T (callF T (n + 5)) b_longest_time.tl.tl.hd.bd (lE v (th u w s J) q b (th u w s (J + 1)) (th u w s J - ((1 : Int) : Kd Q) * th u w s (J + 1)) (some (q, th u w s (J + 1))) none m) S =
      some (.nx (lE v (th u w s J) a1 b1 x1 y1 (some (q, th u w s (J + 1))) (some (b, th u w s J - ((1 : Int) : Kd Q) * th u w s (J + 1))) m1), S) ∧
    exSs T (callF T (n + 5)) b_longest_time.tl.tl.hd.bd (lE v (th u w s J) b q (th u w s J - ((1 : Int) : Kd Q) * th u w s (J + 1)) (th u w s (J + 1)) none (some (q, th u w s (J + 1))) m) S =
      some (.nx (lE v (th u w s J) a2 b2 x2 y2 (some (b, th u w s J - ((1 : Int) : Kd Q) * th u w s (J + 1))) (some (q, th u w s (J + 1))) m2), S) := by
  have hbd := tm_bd hu h.rw h.ne
  have rn := th_rp0 hu h hul (k := J + 1) (by omega)
  have rc := th_rp0 hu h hul (k := J) (by omega)
  have rf := th_rp hu h hul (k := J) (by omega) (i := 1) (Sz.lit (by decide))
  have pn := th_pos hu h (J + 1)
  have hrec := th_rec hu h J
  have hrec2 := th_rec hu h (J + 1)
  obtain ⟨p2, l2⟩ := th_two hu h J
  obtain ⟨p3, l3⟩ := th_two hu h (J + 1)
  have g : th u w s J - ((1 : Int) : Kd Q) * th u w s (J + 1) < th u w s J := by rw [Kd.c1]; grind
  have b0 := hbd J
  have b1 := hbd (J + 1)
  by_cases ht : tm u w J = 1
  · rw [ht, Kd.c1] at hrec
    have ef : th u w s J - ((1 : Int) : Kd Q) * th u w s (J + 1) = th u w s (J + 2) := by rw [Kd.c1]; grind
    have hM : Sz 5 (tm u w (J + 1)) := sz5 (by omega)
    have htl : callF T (n + 5) "times_less" [tp (th u w s (J + 1)), tp (th u w s J - ((1 : Int) : Kd Q) * th u w s (J + 1)), tp (th u w s J), .bl true] S = some (.int (tm u w (J + 1)), S) :=
      c_tl_met rn rf (by rw [ef]; exact p2) (by rw [ef]; grind) (by rw [ef]; grind)
    have c1 := l_hi (S := S) (n := n) (v := v) (a := q) (b := b) (M := tm u w (J + 1)) (U := some (q, th u w s (J + 1))) (W := none) (m := m) rn rf rc h.tld (by rw [ef]; exact l2) hM hb htl
    have c2 := l_lo (S := S) (n := n) (v := v) (a := b) (b := q) (M := tm u w (J + 1)) (U := none) (W := some (q, th u w s (J + 1))) (m := m) rf rn rc h.tld (by rw [ef]; grind) hM hb htl
    rw [upd_t g] at c1 c2
    exact ⟨_, _, _, _, _, _, _, _, _, _, c1, c2⟩
  · have ht2 := c_one_le (Q := Q) (show 1 ≤ tm u w J - 1 by omega)
    rw [Kd.csub, Kd.c1] at ht2
    have hmul : 0 ≤ ((tm u w J : Kd Q) - 1 - 1) * th u w s (J + 1) := by
      by_cases h1 : (tm u w J : Kd Q) - 1 - 1 = 0
      · rw [h1]; grind
      · have := mul_pos' (show 0 < (tm u w J : Kd Q) - 1 - 1 by grind) pn
        grind
    have hM : Sz 5 (tm u w J - 1) := sz5 (by omega)
    have hfn : th u w s (J + 1) < th u w s J - ((1 : Int) : Kd Q) * th u w s (J + 1) := by rw [Kd.c1]; grind
    have htl : callF T (n + 5) "times_less" [tp (th u w s J - ((1 : Int) : Kd Q) * th u w s (J + 1)), tp (th u w s (J + 1)), tp (th u w s J), .bl true] S = some (.int (tm u w J - 1), S) :=
      c_tl_met rf rn pn (by rw [Kd.csub, Kd.c1]; grind) (by rw [Kd.csub, Kd.c1]; grind)
    have c1 := l_lo (S := S) (n := n) (v := v) (a := q) (b := b) (M := tm u w J - 1) (U := some (q, th u w s (J + 1))) (W := none) (m := m) rn rf rc h.tld (by grind) hM hq (by rw [upd_t g]; exact htl)
    have c2 := l_hi (S := S) (n := n) (v := v) (a := b) (b := q) (M := tm u w J - 1) (U := none) (W := some (q, th u w s (J + 1))) (m := m) rf rn rc h.tld hfn hM hq (by rw [upd_t g]; exact htl)
    rw [upd_t g] at c1 c2
    exact ⟨_, _, _, _, _, _, _, _, _, _, c1, c2⟩
theorem l_condS {cf} {u w : List Int} {s v c : Kd Q} {j : Nat} {i : Int} {m : Option D} : evT T cf (.or (.cons (.cmp .is (.var 6) .non) (.cons (.cmp .is (.var 7) .non) .nil))) (stE u w s v c j i none none m) S = some (true, S) := by
  unfold stE
  split
  · exact l_cond
  · exact l_cond
theorem l_long {n K : Nat} {u w : List Int} {s v : Kd Q} (hu : Rw u) (h : Rnd Q w s) (hul : u.length ≤ 12) (hK1 : 1 ≤ K) (hK : K ≤ 8) : ∀ (r j : Nat) (m : Option D), K + 1 - j = r → j ≤ K + 1 →
    ∃ (a b : Int) (x y : Kd Q) (U W : Int × Kd Q) (m' : Option D), exS T (callF T (n + 5)) b_longest_time.tl.tl.hd (stE u w s v (th u w s (K + 1)) j 0 none none m) S = some (.nx (lE v (th u w s (K + 1)) a b x y (some U) (some W) m'), S) ∧
      U.2 + W.2 = th u w s (K + 1) ∧ (if W.1 > U.1 then W.1 else U.1) = (stp (tm u w) K).1 + (stp (tm u w) (K + 1)).1 ∧ Rp Q 400 (tp U.2) U.2 ∧ Rp Q 400 (tp W.2) W.2 := by
  intro r
  induction r with
  | succ r ih =>
    intro j m hr hj
    obtain ⟨a, b, x, y, U, W, m', e, e2⟩ := ih (j + 1) (some (.int (tm u w j - 0))) (by omega) (by omega)
    exact ⟨a, b, x, y, U, W, m', wh_go l_condS (l_iter hu h hul (by omega) (by omega) (by omega) (by have := tm_bd hu h.rw h.ne j; omega)) e, e2⟩
  | zero =>
    intro j m hr hj
    have hj2 : j = K + 1 := by omega
    subst hj2
    have hz := stp_sz (tm_bd hu h.rw h.ne) (K + 1)
    have e3 : (stp (tm u w) (K + 1)).2 = (stp (tm u w) K).1 := rfl
    have hz1 : Sz 50 (stp (tm u w) (K + 1)).1 := hz.1.mono (by omega)
    have hb := stp_bd (tm_bd hu h.rw h.ne) K
    have hzb : Sz 50 ((stp (tm u w) (K + 1)).2 + 0 * (stp (tm u w) (K + 1)).1 + 1 * (stp (tm u w) (K + 1)).1) := by
      rw [Int.zero_mul, Int.add_zero, Int.one_mul]
      exact (hz.2.add hz.1).mono (by omega)
    have e4 : th u w s (K + 1) - ((0 : Int) : Kd Q) * th u w s (K + 1 + 1) = th u w s (K + 1) := by
      rw [Kd.c0]
      grind
    have rn := th_rp0 hu h hul (k := K + 1 + 1) (by omega)
    have rf := th_rp hu h hul (k := K + 1) (by omega) (i := 1) (Sz.lit (by decide))
    obtain ⟨a1, b1, a2, b2, x1, y1, x2, y2, m1, m2, f1, f2⟩ := l_fin2 (S := S) (n := n) (v := v) (m := some (.int 1)) hu h hul (J := K + 1) (by omega) hz1 hzb
    obtain ⟨f3, f4⟩ := l_fin1 (S := S) (n := n) (v := v) (m := m) (b := (stp (tm u w) (K + 1)).2 + 0 * (stp (tm u w) (K + 1)).1) hu h hul (J := K + 1) (by omega) hz1
    unfold stE
    rw [e4]
    rcases Nat.mod_two_eq_zero_or_one (K + 1) with hp | hp
    · rw [if_pos hp]
      refine ⟨a1, b1, x1, y1, _, _, m1, wh_go l_cond f3 (wh_go l_cond f1 (wh_stop l_cond)), ?_, ?_, rn, rf⟩
      · rw [Kd.c1]; grind
      · show (if (stp (tm u w) (K + 1)).2 + 0 * (stp (tm u w) (K + 1)).1 + 1 * (stp (tm u w) (K + 1)).1 > (stp (tm u w) (K + 1)).1 then (stp (tm u w) (K + 1)).2 + 0 * (stp (tm u w) (K + 1)).1 + 1 * (stp (tm u w) (K + 1)).1 else (stp (tm u w) (K + 1)).1) = _
        rw [e3]
        split <;> omega
    · rw [if_neg (by omega)]
      refine ⟨a2, b2, x2, y2, _, _, m2, wh_go l_cond f4 (wh_go l_cond f2 (wh_stop l_cond)), ?_, ?_, rf, rn⟩
      · rw [Kd.c1]; grind
      · show (if (stp (tm u w) (K + 1)).1 > (stp (tm u w) (K + 1)).2 + 0 * (stp (tm u w) (K + 1)).1 + 1 * (stp (tm u w) (K + 1)).1 then (stp (tm u w) (K + 1)).1 else (stp (tm u w) (K + 1)).2 + 0 * (stp (tm u w) (K + 1)).1 + 1 * (stp (tm u w) (K + 1)).1) = _
        rw [e3]
        split <;> omega
theorem th_one {u w : List Int} {s : Kd Q} (h : Rnd Q w s) : th u w s 1 = act u s := by
  show (1 : Kd Q) * xk u w s 0 = _
  rw [xk_zero h]
  grind
theorem c_longest_time {n K : Nat} {u w : List Int} {s : Kd Q} (hu : Rw u) (h : Rnd Q w s) (hul : u.length ≤ 12) (hK1 : 1 ≤ K) (hK : K ≤ 8) :
    callF T (n + 6) "longest_time" [tp (act u s), tp (th u w s (K + 1))] S = some (.int ((stp (tm u w) K).1 + (stp (tm u w) (K + 1)).1), S) := by
  have hv := slope_rp hu h hul
  have rc := th_rp0 hu h hul (k := K + 1) (by omega)
  obtain ⟨t1, e1, k1⟩ := c_surd_turned (S := S) (n := n + 4) hv
  obtain ⟨t2, e2, k2⟩ := c_surd_sum (S := S) (n := n + 2) (rp_i (Q := Q) (n := 0) (B := 2) (k := 1) (Sz.lit (by decide)) (by omega) h.tld) k1 (by omega)
  have e3 : t2 = tp (th u w s 0 - ((1 : Int) : Kd Q) * th u w s 1) := by
    have e : th u w s 0 - ((1 : Int) : Kd Q) * th u w s 1 = ((1 : Int) : Kd Q) + -act u s := by
      rw [th_one h, Kd.c1]
      show (1 : Kd Q) - 1 * act u s = _
      grind
    rw [e]
    exact k2.tp
  rw [e3] at e2
  have x0 : lE (act u s) (th u w s (K + 1)) 1 1 (act u s) (th u w s 0 - ((1 : Int) : Kd Q) * th u w s 1) none none none = stE u w s (act u s) (th u w s (K + 1)) 0 1 none none none := by
    unfold stE
    rw [if_pos rfl, th_one h]
    rfl
  have hrun : ∃ (a b : Int) (x y : Kd Q) (U W : Int × Kd Q) (m' : Option D), exS T (callF T (n + 5)) b_longest_time.tl.tl.hd (lE (act u s) (th u w s (K + 1)) 1 1 (act u s) (th u w s 0 - ((1 : Int) : Kd Q) * th u w s 1) none none none) S = some (.nx (lE (act u s) (th u w s (K + 1)) a b x y (some U) (some W) m'), S) ∧
      U.2 + W.2 = th u w s (K + 1) ∧ (if W.1 > U.1 then W.1 else U.1) = (stp (tm u w) K).1 + (stp (tm u w) (K + 1)).1 ∧ Rp Q 400 (tp U.2) U.2 ∧ Rp Q 400 (tp W.2) W.2 := by
    rw [x0]
    by_cases ht : tm u w 0 = 1
    · have := stE_next (v := act u s) (c := th u w s (K + 1)) (j := 0) (U := none) (W := none) (m := none) hu h
      rw [ht] at this
      rw [this]
      exact l_long hu h hul hK1 hK _ 1 none rfl (by omega)
    · obtain ⟨a, b, x, y, U, W, m', e, e2⟩ := l_long (S := S) (n := n) (v := act u s) hu h hul hK1 hK _ 1 (some (.int (tm u w 0 - 1))) rfl (by omega)
      exact ⟨a, b, x, y, U, W, m', wh_go l_condS (l_iter (j := 0) (i := 1) hu h hul (by omega) (by omega) (by omega) (by have := tm_bd hu h.rw h.ne 0; omega)) e, e2⟩
  obtain ⟨a, b, x, y, U, W, m', f1, f2, f3, f4, f5⟩ := hrun
  obtain ⟨r, g1, g2⟩ := c_surd_sum (S := S) (n := n + 2) f4 f5 (by omega)
  obtain ⟨z, g3, g4⟩ := c_surd_order (S := S) (n := n + 1) g2 rc (by omega)
  have hz : z = 0 := by
    rw [f2] at g4
    rcases g4 with ⟨_, h⟩ | ⟨h, _⟩ | ⟨_, h⟩
    · grind
    · exact h
    · grind
  subst hz
  have y1 : exS T (callF T (n + 5)) b_longest_time.tl.tl.tl.hd (lE (act u s) (th u w s (K + 1)) a b x y (some U) (some W) m') S = some (.nx (lE (act u s) (th u w s (K + 1)) a b x y (some U) (some W) m'), S) :=
    s_if_f (t_of (e_cmp (e_call (e_cons (e_call (e_cons (e_ix (e_var rfl) e_int (ix_tup rfl)) (e_cons (e_ix (e_var rfl) e_int (ix_tup rfl)) e_nil)) g1) (e_cons (e_var rfl) e_nil)) g3) e_int (c_gt_f (by omega)))) ss_nil
  refine callF_pure f_longest_time rfl (exSs_nx (ρ1 := [some (tp (act u s)), some (tp (th u w s (K + 1))), some (.int 1), some (.int 1), some (tp (act u s)), some (tp (th u w s 0 - ((1 : Int) : Kd Q) * th u w s 1)), none, none, none]) (S1 := S) ?_ (exSs_nx (ρ1 := lE (act u s) (th u w s (K + 1)) 1 1 (act u s) (th u w s 0 - ((1 : Int) : Kd Q) * th u w s 1) none none none) (S1 := S) ?_ (exSs_nx f1 (exSs_nx y1 (exSs_rt (s_ret ?_))))))
  · exact s_asg (e_tup (e_cons e_int (e_cons e_int (e_cons (e_var rfl) (e_cons (e_call (e_cons (e_sd e_int) (e_cons (e_call (e_cons (e_var rfl) e_nil) e1) e_nil)) e2) e_nil)))) (len_i rfl)) rfl
  · exact s_asg (e_tup (e_cons e_non (e_cons e_non e_nil)) (len_i rfl)) rfl
  · rw [← f3]
    exact e_bi (e_cons (e_ix (e_var rfl) e_int (ix_tup rfl)) (e_cons (e_ix (e_var rfl) e_int (ix_tup rfl)) e_nil)) rfl
theorem th_half {u w : List Int} {s : Kd Q} (hu : Rw u) (h : Rnd Q w s) {K : Nat} (hK : 1 ≤ K) : 2 * th u w s (K + 1) < 1 := by
  have a := th_le hu h (j := 2) (k := K + 1) (by omega)
  have b := th_rec hu h 0
  have c := th_two hu h 0
  have t1 := c_one_le (Q := Q) (tm_bd hu h.rw h.ne 0).1
  have p := th_pos hu h 1
  have e : th u w s 0 = 1 := rfl
  rw [e] at b
  have : 0 ≤ ((tm u w 0 : Kd Q) - 1) * th u w s 1 := by
    by_cases h1 : (tm u w 0 : Kd Q) - 1 = 0
    · rw [h1]; grind
    · have := mul_pos' (show 0 < (tm u w 0 : Kd Q) - 1 by grind) p
      grind
  simp only [Nat.zero_add] at b c
  grind
theorem c_nearness {n K : Nat} {u w : List Int} {s : Kd Q} (hu : Rw u) (h : Rnd Q w s) (hul : u.length ≤ 12) (hK1 : 1 ≤ K) (hK : K ≤ 8) :
    callF T (n + 5) "nearness" [tp (act u s), .int (stp (tm u w) K).1] S = some (tp (th u w s (K + 1)), S) := by
  have hv := slope_rp hu h hul
  have hz := stp_sz (tm_bd hu h.rw h.ne) K
  have hzp := ptp_sz (tm_bd hu h.rw h.ne) K
  obtain ⟨r1, e1, k1⟩ := c_surd_times (S := S) (n := n + 1) (rp_i (Q := Q) (n := 0) hz.1 (by omega) h.tld) hv (by omega)
  obtain ⟨q, e2, k2, k3⟩ := c_whole_part (S := S) (n := n + 2) k1 (by omega)
  have a := (th_eq hu h K).1
  have p := th_pos hu h (K + 1)
  have hh := th_half hu h hK1
  have hq : q = (if K % 2 = 0 then (ptp (tm u w) K).1 else (ptp (tm u w) K).1 - 1) := by
    unfold sg at a
    split
    · rename_i hp
      rw [if_pos hp] at a
      exact floor_uniq k2 k3 (by grind) (by grind)
    · rename_i hp
      rw [if_neg hp] at a
      refine floor_uniq k2 k3 ?_ ?_
      · rw [Kd.csub, Kd.c1]; grind
      · rw [Kd.csub, Kd.c1]; grind
  have hqz : Sz 45 q := by
    rw [hq]
    split
    · exact hzp.1.mono (by omega)
    · exact (hzp.1.sub (Sz.lit (n := 1) (by decide))).mono (by omega)
  obtain ⟨r2, e3, k4⟩ := c_surd_sum (S := S) (n := n + 1) k1 (rp_i (Q := Q) (n := 0) (k := -q) hqz.neg (by omega) h.tld) (by omega)
  obtain ⟨r3, e4, k5⟩ := c_surd_turned (S := S) (n := n + 3) k4
  obtain ⟨r4, e5, k6⟩ := c_surd_sum (S := S) (n := n + 1) (rp_i (Q := Q) (n := 0) (B := 2) (k := 1) (Sz.lit (by decide)) (by omega) h.tld) k5 (by omega)
  obtain ⟨z, e6, k7⟩ := c_surd_order (S := S) (n := n) k4 k6 (by omega)
  have o := ord_lt k7
  refine callF_pure f_nearness rfl (exSs_nx (s_asg (e_call (e_cons (e_sd (e_var rfl)) (e_cons (e_var rfl) e_nil)) e1) rfl) (exSs_nx (s_asg (e_call (e_cons (e_var rfl) (e_cons (e_sd (e_neg (e_call (e_cons (e_var rfl) e_nil) e2))) e_nil)) e3) rfl) (exSs_nx (s_asg (e_call (e_cons (e_sd e_int) (e_cons (e_call (e_cons (e_var rfl) e_nil) e4) e_nil)) e5) rfl) (exSs_rt (s_ret ?_)))))
  unfold sg at a
  by_cases hp : K % 2 = 0
  · rw [if_pos hp] at a hq
    have e : ((stp (tm u w) K).1 : Kd Q) * act u s + ((-q : Int) : Kd Q) = th u w s (K + 1) := by
      rw [a, hq, Kd.cneg]
      grind
    rw [e] at k4 o k6
    rw [← k4.tp]
    exact e_ite_t (e_cmp (e_call (e_cons (e_var rfl) (e_cons (e_var rfl) e_nil)) e6) e_int (c_lt_t (o.mpr (by rw [Kd.c1]; grind)))) (e_var rfl)
  · rw [if_neg hp] at a hq
    have e : ((stp (tm u w) K).1 : Kd Q) * act u s + ((-q : Int) : Kd Q) = 1 - th u w s (K + 1) := by
      rw [a, hq, Kd.cneg, Kd.csub, Kd.c1]
      grind
    rw [e] at k4 o k6
    have e7 : ((1 : Int) : Kd Q) + -(1 - th u w s (K + 1)) = th u w s (K + 1) := by
      rw [Kd.c1]
      grind
    rw [e7] at k6 o
    rw [← k6.tp]
    exact e_ite_f (e_cmp (e_call (e_cons (e_var rfl) (e_cons (e_var rfl) e_nil)) e6) e_int (c_lt_f (fun k => by have := o.mp k; grind))) (e_var rfl)
theorem c_greatest_repeat {n K : Nat} {u w : List Int} {s : Kd Q} (hu : Rw u) (h : Rnd Q w s) (hul : u.length ≤ 12) (hK1 : 1 ≤ K) (hK : K ≤ 8) :
    callF T (n + 7) "greatest_repeat" [chn u w, .int (stp (tm u w) K).1] S = some (.int ((stp (tm u w) K).1 + ((stp (tm u w) K).1 + (stp (tm u w) (K + 1)).1) - 2), S) := by
  have e1 := (h.slope (S := S) (n := n + 1) hu hul).1
  exact callF_pure f_greatest_repeat rfl (exSs_nx (s_asg (e_call (e_cons (e_var rfl) e_nil) e1) rfl) (exSs_rt (s_ret (e_bin (e_bin (e_var rfl) (e_call (e_cons (e_var rfl) (e_cons (e_call (e_cons (e_var rfl) (e_cons (e_var rfl) e_nil)) (c_nearness (n := n + 1) hu h hul hK1 hK)) e_nil)) (c_longest_time (n := n) hu h hul hK1 hK)) o_add) e_int o_sub))))
end L81
end

section
set_option maxHeartbeats 1000000
namespace L81
open PySem Mn
variable {S : So} {Q : NSq}
local macro_rules
  | `(tactic| keq_rows) => `(tactic| (repeat' (first
      | with_reducible exact e_int | with_reducible exact e_bl | with_reducible exact e_non | with_reducible exact e_str | with_reducible exact e_nil | with_reducible exact s_pass | with_reducible exact eo_none | with_reducible exact o_add | with_reducible exact o_sub | with_reducible exact c_eq | with_reducible exact c_lt | with_reducible exact c_le | with_reducible exact c_gt | with_reducible exact c_ge | with_reducible exact c_ne
      | ((with_reducible refine' ss_nl ?mnh); (case mnh => exact rfl)) | ((with_reducible refine' e_var ?mnh); (case mnh => exact rfl)) | ((with_reducible refine' asg_i ?mnh); (case mnh => exact rfl)) | ((with_reducible refine' at_i ?mnh); (case mnh => exact rfl)) | ((with_reducible refine' ty_i ?mnh); (case mnh => exact rfl)) | ((with_reducible refine' mv_i ?mnh); (case mnh => exact rfl)) | ((with_reducible refine' bi_i ?mnh); (case mnh => exact rfl)) | ((with_reducible refine' e_glob ?mnh); (case mnh => kernel_rfl)) | (with_reducible exact div_lit (by decide)) | ((with_reducible refine' len_i ?mnh); (case mnh => exact rfl))
      | with_reducible refine' exSs_rt (s_ret ?_) | with_reducible refine' exSs_nx (s_asg ?_ ?_) ?_ | with_reducible refine' exSs_nx (s_ex ?_) ?_ | with_reducible refine' exSs_nx (s_put ?_ ?_ ?_ ?_) ?_ | with_reducible refine' t_of ?_ | with_reducible refine' e_bin ?_ ?_ ?_ | with_reducible refine' e_neg ?_ | with_reducible refine' e_cons ?_ ?_ | with_reducible refine' e_tup ?_ ?_ | with_reducible refine' e_lst ?_ ?_ | with_reducible refine' e_ix ?_ ?_ ?_ | with_reducible refine' e_cmp ?_ ?_ ?_ | with_reducible refine' e_not ?_ | with_reducible refine' e_call ?_ ?_ | with_reducible refine' e_bi ?_ ?_ | with_reducible refine' e_me ?_ ?_ ?_ ?_ | with_reducible refine' eo_some ?_ | with_reducible refine' e_sl ?_ ?_ ?_ ?_ | with_reducible refine' e_rev ?_ ?_ | with_reducible refine' ix_tup ?_
      | (with_reducible refine' e_callk ?_ ?_ (by kernel_rfl) rfl ?_)
      | keq_hits
      | with_reducible refine' o_mul ?_ | with_reducible refine' o_fdiv ?_ | with_reducible refine' o_mod ?_)))
  | `(tactic| kas_types) => `(tactic| (repeat' (first
      | exact Sz.id (by assumption) | exact Sz.lit (n := 16) (by decide) | with_reducible refine' Sz.mul ?_ ?_ | with_reducible refine' Sz.add ?_ ?_ | with_reducible refine' Sz.sub ?_ ?_ | with_reducible refine' Sz.neg ?_ | with_reducible refine' Sz.div ?_)))
  | `(tactic| lcg_sub) => `(tactic| ((refine' mul_sz ?mza ?mzb ?mzc); (case mza => kas_types); (case mzb => kas_types); (case mzc => omega)))
theorem l_div {cf} {x y : Option D} : ∀ (k : Nat) (a b : Int), 0 ≤ a → 0 ≤ b → b.toNat = k → exS T cf b__law_divisor.tl.hd [x, y, some (.int a), some (.int b)] S = some (.nx [x, y, some (.int (Int.gcd a b)), some (.int 0)], S) := by
  intro k
  induction k using Nat.strongRecOn with
  | ind k ih =>
    intro a b ha hb hk
    by_cases h0 : b = 0
    · subst h0
      have e : (Int.gcd a 0 : Int) = a := by simp; omega
      rw [e]
      exact wh_stop (t_of (e_cmp (e_var rfl) e_int (c_gt_f (by omega))))
    · have h1 : 0 < b := by omega
      have hm : 0 ≤ a % b := Int.emod_nonneg _ (by omega)
      have hlt : a % b < b := Int.emod_lt_of_pos _ h1
      have e : (Int.gcd a b : Int) = (Int.gcd b (a % b) : Int) := by
        have := Int.gcd_add_mul_left_right b (a % b) (a / b)
        rw [Int.emod_add_mul_ediv] at this
        rw [Int.gcd_comm a b, this]
      rw [e]
      exact wh_go (t_of (e_cmp (e_var rfl) e_int (c_gt_t h1))) (exSs_nx (s_asg (e_tup (e_cons (e_var rfl) (e_cons (e_bin (e_bi (e_cons (e_var rfl) e_nil) rfl) (e_var rfl) (o_mod h1)) e_nil)) (len_i rfl)) rfl) ss_nil) (ih (a % b).toNat (by omega) b (a % b) hb hm rfl)
theorem c_divisor {n : Nat} {a b : Int} : callF T (n + 1) "_law_divisor" [.int a, .int b] S = some (.int (Int.gcd a b), S) := by
  have := l_div (S := S) (cf := callF T n) (x := some (.int a)) (y := some (.int b)) _ _ _ (abs_nn a) (abs_nn b) rfl
  rw [abs_gcd] at this
  exact callF_pure f__law_divisor rfl (exSs_nx (s_asg (e_tup (e_cons (e_bi (e_cons (e_var rfl) e_nil) rfl) (e_cons (e_bi (e_cons (e_var rfl) e_nil) rfl) e_nil)) (len_i rfl)) rfl) (exSs_nx this (exSs_rt (s_ret (e_var rfl)))))
theorem c_low {n : Nat} {p q : Int} (hq : 0 < q) (hz : Sz 8000 q) : callF T (n + 2) "_law_low" [.int p, .int q] S = some (lo p q, S) := by
  have g0 : 0 < Int.gcd p q := Int.gcd_pos_of_ne_zero_right _ (by omega)
  have gz : Sz 8000 (Int.gcd p q : Int) := hz.le (by rw [Int.natAbs_natCast]; exact Int.gcd_le_natAbs_right _ (by omega))
  have gd : divOk (Int.gcd p q : Int) := div_sz (by omega) gz (by omega)
  exact callF_pure f__law_low rfl (exSs_nx (s_asg (e_call (e_cons (e_var rfl) (e_cons (e_var rfl) e_nil)) c_divisor) rfl) (exSs_rt (s_ret (e_tup (e_cons (e_bin (e_var rfl) (e_var rfl) (o_fdiv gd)) (e_cons (e_bin (e_var rfl) (e_var rfl) (o_fdiv gd)) e_nil)) (len_i rfl)))))
theorem l_lroot {cf} {n : Int} (hz : Sz 3000 n) : ∀ (k : Nat) (a b : Int) (t : Option D), (b - a).toNat = k → 0 ≤ a → a < b → b ≤ n + 1 → a * a ≤ n → n < b * b → ∃ r b' t', exS T cf b__law_root.tl.hd [some (.int n), some (.int a), some (.int b), t] S = some (.nx [some (.int n), some (.int r), some b', t'], S) ∧ IsRoot n r := by
  intro k
  induction k using Nat.strongRecOn with
  | ind k ih =>
    intro a b t hk h0 hab hbn h1 h2
    by_cases hs : b - a > 1
    · have hm1 : a < (a + b) / 2 := by omega
      have hm2 : (a + b) / 2 < b := by omega
      have zm : Sz 3001 ((a + b) / 2) := by
        have : Sz 3001 (n + 1) := (hz.add (Sz.lit (n := 1) (by decide))).mono (by omega)
        exact this.le (by omega)
      have c1 : evT T cf (.cmp .gt (.bin .sub (.var 2) (.var 1)) (.int 1)) [some (.int n), some (.int a), some (.int b), t] S = some (true, S) := t_of (e_cmp (e_bin (e_var rfl) (e_var rfl) o_sub) e_int (c_gt_t hs))
      have c2 : ∀ {k : Bool}, decide ((a + b) / 2 * ((a + b) / 2) ≤ n) = k → evT T cf (.cmp .le (.bin .mul (.var 3) (.var 3)) (.var 0)) [some (.int n), some (.int a), some (.int b), some (.int ((a + b) / 2))] S = some (k, S) := fun e => t_of (e_cmp (e_bin (e_var rfl) (e_var rfl) (o_mul (mul_sz zm zm (by omega)))) (e_var rfl) (by rw [← e]; exact c_le))
      by_cases hle : (a + b) / 2 * ((a + b) / 2) ≤ n
      · obtain ⟨r, b', t', e1, e2⟩ := ih (b - (a + b) / 2).toNat (by omega) ((a + b) / 2) b (some (.int ((a + b) / 2))) rfl (by omega) hm2 hbn hle h2
        exact ⟨r, b', t', wh_go c1 (exSs_nx (s_asg (e_bin (e_bin (e_var rfl) (e_var rfl) o_add) e_int (o_fdiv (div_lit (by decide)))) rfl) (exSs_nx (s_if_t (c2 (decide_eq_true hle)) (exSs_nx (s_asg (e_var rfl) rfl) ss_nil)) (ss_nl rfl))) e1, e2⟩
      · obtain ⟨r, b', t', e1, e2⟩ := ih ((a + b) / 2 - a).toNat (by omega) a ((a + b) / 2) (some (.int ((a + b) / 2))) rfl h0 hm1 (by omega) h1 (by omega)
        exact ⟨r, b', t', wh_go c1 (exSs_nx (s_asg (e_bin (e_bin (e_var rfl) (e_var rfl) o_add) e_int (o_fdiv (div_lit (by decide)))) rfl) (exSs_nx (s_if_f (c2 (decide_eq_false hle)) (exSs_nx (s_asg (e_var rfl) rfl) ss_nil)) (ss_nl rfl))) e1, e2⟩
    · have hb : b = a + 1 := by omega
      subst hb
      exact ⟨a, _, t, wh_stop (t_of (e_cmp (e_bin (e_var rfl) (e_var rfl) o_sub) e_int (c_gt_f hs))), h0, h1, h2⟩
theorem c_lroot {m : Nat} {n : Int} (h0 : 0 ≤ n) (hz : Sz 3000 n) : ∃ r, callF T (m + 1) "_law_root" [.int n] S = some (.int r, S) ∧ IsRoot n r := by
  have h2 : n < (n + 1) * (n + 1) := by
    have := Int.mul_nonneg h0 h0
    grind
  obtain ⟨r, b', t', e1, e2⟩ := l_lroot (S := S) (cf := callF T m) hz _ 0 (n + 1) none rfl (by omega) (by omega) (by omega) (by omega) h2
  exact ⟨r, callF_pure f__law_root rfl (exSs_nx (s_asg (e_tup (e_cons e_int (e_cons (e_bin (e_var rfl) e_int o_add) e_nil)) (len_i rfl)) rfl) (exSs_nx e1 (exSs_rt (s_ret (e_var rfl))))), e2⟩
theorem Trial.two {n r s l p l' : Nat} (h : Trial n r s l p) (hl : l = p * p * l') (hl1 : 1 ≤ l') : Trial n (r * p) s l' p := by
  have hd : l' ∣ l := ⟨p * p, by rw [hl, Nat.mul_comm]⟩
  refine ⟨?_, ?_, h.s1, hl1, h.p2, fun q h1 h2 k => h.no q h1 h2 (Nat.dvd_trans k hd), h.sq, fun q h1 h2 k => h.cop q h1 h2 (Nat.dvd_trans k hd)⟩
  · rw [← h.num, hl]
    grind
  · exact Nat.mul_pos h.r1 (by have := h.p2; omega)
theorem Trial.one {n r s l p l' : Nat} (h : Trial n r s l p) (hl : l = p * l') (hn : ¬ p ∣ l') : Trial n r (s * p) l' p := by
  have := h.take (k := 1) (l' := l') (by simpa using hl) hn
  simpa using this
theorem l_bare {cf} {n : Nat} {x : Option D} (hz : Sz 100 (n : Int)) : ∀ (k r s l p : Nat), n + 4 - p + l = k → p ≤ n + 3 → Trial n r s l p → ∃ r' s' l' p' : Nat,
    exS T cf b__law_bare.tl.hd [some (.int n), x, some (.int (r : Int)), some (.int (s : Int)), some (.int (l : Int)), some (.int (p : Int))] S = some (.nx [some (.int n), x, some (.int (r' : Int)), some (.int (s' : Int)), some (.int (l' : Int)), some (.int (p' : Int))], S) ∧ Trial n r' s' l' p' ∧ l' < p' * p' * p' := by
  intro k
  induction k using Nat.strongRecOn with
  | ind k ih =>
    intro r s l p hk hp ht
    obtain ⟨hr, hs, hl, hsl, _⟩ := ht.le
    have z1 : Sz 101 (p : Int) := by
      have : Sz 101 ((n : Int) + 3) := (hz.add (Sz.lit (n := 2) (by decide))).mono (by omega)
      exact this.le (by omega)
    have zr : Sz 100 (r : Int) := nz hz hr
    have zs : Sz 100 (s : Int) := nz hz hs
    have zl : Sz 100 (l : Int) := nz hz hl
    have hp2 := ht.p2
    have cond : evT T cf (.cmp .le (.bin .mul (.bin .mul (.var 5) (.var 5)) (.var 5)) (.var 4)) [some (.int n), x, some (.int (r : Int)), some (.int (s : Int)), some (.int (l : Int)), some (.int (p : Int))] S = some (decide ((p : Int) * p * p ≤ l), S) :=
      t_of (e_cmp (e_bin (e_bin (e_var rfl) (e_var rfl) (o_mul (mul_sz z1 z1 (by omega)))) (e_var rfl) (o_mul (mul_sz (z1.mul z1) z1 (by omega)))) (e_var rfl) c_le)
    have ecast : ((p : Int) * p * p ≤ l) ↔ p * p * p ≤ l := by
      rw [← Int.natCast_mul, ← Int.natCast_mul]
      omega
    by_cases hc : p * p * p ≤ l
    · rw [decide_eq_true (ecast.mpr hc)] at cond
      have hpp : 0 < p * p := Nat.mul_pos (by omega) (by omega)
      have hpl : p ≤ l := by
        have : p * 1 ≤ p * p * p := by
          rw [Nat.mul_assoc]
          exact Nat.mul_le_mul_left p (by have := Nat.mul_le_mul hp2 hp2; omega)
        omega
      have hsq : ((p : Int) * p) = ((p * p : Nat) : Int) := by simp
      have dsq : divOk ((p : Int) * p) := div_sz (by rw [hsq]; omega) (z1.mul z1) (by omega)
      have c1 : ∀ {b : Bool}, decide (l % (p * p) = 0) = b → evT T cf (.cmp .eq (.bin .mod (.bi .int (.cons (.var 4) .nil)) (.bin .mul (.var 5) (.var 5))) (.int 0)) [some (.int n), x, some (.int (r : Int)), some (.int (s : Int)), some (.int (l : Int)), some (.int (p : Int))] S = some (b, S) := fun {b} e => by
        refine t_of (e_cmp (e_bin (e_bi (e_cons (e_var rfl) e_nil) rfl) (e_bin (e_var rfl) (e_var rfl) (o_mul (mul_sz z1 z1 (by omega)))) (o_mod (by rw [hsq]; omega))) e_int ?_)
        rw [c_eq, ← e, hsq]
        congr 1
        rw [decide_eq_decide]
        omega
      by_cases h1 : l % (p * p) = 0
      · obtain ⟨l', hl'⟩ := Nat.dvd_of_mod_eq_zero h1
        have hl1 : 1 ≤ l' := by
          rcases Nat.eq_zero_or_pos l' with e | e
          · rw [e] at hl'; have := ht.l1; omega
          · exact e
        have e1 : (l : Int) / ((p : Int) * p) = (l' : Int) := by
          rw [hsq, hl']
          simp only [Int.natCast_mul]
          rw [← hsq.trans (Int.natCast_mul p p), Int.mul_ediv_cancel_left]
          rw [hsq]
          omega
        have hlt : l' < l := by
          have := Nat.mul_le_mul_right l' (show 2 ≤ p * p by have := Nat.mul_le_mul hp2 hp2; omega)
          omega
        obtain ⟨r', s', l'', p', e2, e3⟩ := ih (n + 4 - p + l') (by omega) (r * p) s l' p rfl hp (ht.two hl' hl1)
        refine ⟨r', s', l'', p', wh_go cond (exSs_nx (s_if_t (c1 (decide_eq_true h1)) (exSs_nx (s_asg (e_tup (e_cons (e_bin (e_var rfl) (e_var rfl) (o_mul (mul_sz zr z1 (by omega)))) (e_cons (e_bin (e_var rfl) (e_bin (e_var rfl) (e_var rfl) (o_mul (mul_sz z1 z1 (by omega)))) (o_fdiv dsq)) e_nil)) (len_i rfl)) rfl) ss_nil)) (ss_nl rfl)) ?_, e3⟩
        rw [e1]
        have : (r : Int) * p = ((r * p : Nat) : Int) := by simp
        rw [this]
        exact e2
      · have c2 : ∀ {b : Bool}, decide (l % p = 0) = b → evT T cf (.cmp .eq (.bin .mod (.bi .int (.cons (.var 4) .nil)) (.var 5)) (.int 0)) [some (.int n), x, some (.int (r : Int)), some (.int (s : Int)), some (.int (l : Int)), some (.int (p : Int))] S = some (b, S) := fun {b} e => by
          refine t_of (e_cmp (e_bin (e_bi (e_cons (e_var rfl) e_nil) rfl) (e_var rfl) (o_mod (by omega))) e_int ?_)
          rw [c_eq, ← e]
          congr 1
          rw [decide_eq_decide]
          omega
        by_cases h2 : l % p = 0
        · obtain ⟨l', hl'⟩ := Nat.dvd_of_mod_eq_zero h2
          have hn : ¬ p ∣ l' := by
            rintro ⟨q, hq⟩
            apply h1
            rw [hl', hq, ← Nat.mul_assoc, Nat.mul_mod_right]
          have e1 : (l : Int) / (p : Int) = (l' : Int) := by
            rw [hl']
            simp only [Int.natCast_mul]
            rw [Int.mul_ediv_cancel_left]
            omega
          have hl1 : 1 ≤ l' := by
            rcases Nat.eq_zero_or_pos l' with e | e
            · rw [e] at hl'; have := ht.l1; omega
            · exact e
          have hlt : l' < l := by
            have := Nat.mul_le_mul_right l' hp2
            omega
          obtain ⟨r', s', l'', p', e2, e3⟩ := ih (n + 4 - p + l') (by omega) r (s * p) l' p rfl hp (ht.one hl' hn)
          refine ⟨r', s', l'', p', wh_go cond (exSs_nx (s_if_f (c1 (decide_eq_false h1)) (exSs_nx (s_if_t (c2 (decide_eq_true h2)) (exSs_nx (s_asg (e_tup (e_cons (e_bin (e_var rfl) (e_var rfl) (o_mul (mul_sz zs z1 (by omega)))) (e_cons (e_bin (e_var rfl) (e_var rfl) (o_fdiv (div_sz (by omega) z1 (by omega)))) e_nil)) (len_i rfl)) rfl) ss_nil)) ss_nil)) (ss_nl rfl)) ?_, e3⟩
          rw [e1]
          have : (s : Int) * p = ((s * p : Nat) : Int) := by simp
          rw [this]
          exact e2
        · obtain ⟨r', s', l'', p', e2, e3⟩ := ih (n + 4 - (p + 1) + l) (by omega) r s l (p + 1) rfl (by omega) (ht.next (fun hd => h2 (Nat.mod_eq_zero_of_dvd hd)))
          exact ⟨r', s', l'', p', wh_go cond (exSs_nx (s_if_f (c1 (decide_eq_false h1)) (exSs_nx (s_if_f (c2 (decide_eq_false h2)) (exSs_nx (s_asg (e_bin (e_var rfl) e_int o_add) rfl) ss_nil)) ss_nil)) (ss_nl rfl)) e2, e3⟩
    · rw [decide_eq_false (fun h => hc (ecast.mp h))] at cond
      exact ⟨r, s, l, p, wh_stop cond, ht, by omega⟩
theorem c_bare {k n : Nat} (h1 : 1 ≤ n) (hz : Sz 100 (n : Int)) : ∃ r s : Nat, callF T (k + 2) "_law_bare" [.int n] S = some (.tup [.int r, .int s], S) ∧ r * r * s = n ∧ Sqf s := by
  obtain ⟨r, s, l, p, e1, ht, hp⟩ := l_bare (S := S) (cf := callF T (k + 1)) (x := none) hz _ 1 1 n 2 rfl (by omega) (Trial.start h1)
  obtain ⟨hr, hs, hl, hsl, _⟩ := ht.le
  have zl : Sz 100 (l : Int) := nz hz hl
  obtain ⟨m, e2, m0, m1, m2⟩ := c_lroot (S := S) (m := k) (n := (l : Int)) (by omega) (zl.mono (by omega))
  obtain ⟨j, rfl⟩ : ∃ j : Nat, m = j := ⟨m.toNat, by omega⟩
  have m1' : j * j ≤ l := by
    rw [← Int.natCast_mul] at m1
    omega
  have m2' : l < (j + 1) * (j + 1) := by
    rw [show ((j : Int) + 1) = ((j + 1 : Nat) : Int) by omega, ← Int.natCast_mul] at m2
    omega
  obtain ⟨d1, d2⟩ := ht.done hp m1' m2'
  have zj : Sz 100 (j : Int) := by
    refine nz hz ?_
    have : j * 1 ≤ j * j ∨ j = 0 := by
      rcases Nat.eq_zero_or_pos j with e | e
      · exact .inr e
      · exact .inl (Nat.mul_le_mul_left j e)
    omega
  have zr : Sz 100 (r : Int) := nz hz hr
  have zs : Sz 100 (s : Int) := nz hz hs
  have c1 : ∀ {b : Bool}, decide (j * j = l) = b → evE T (callF T (k + 1)) (.cmp .eq (.bin .mul (.var 1) (.var 1)) (.var 4)) [some (.int n), some (.int (j : Int)), some (.int (r : Int)), some (.int (s : Int)), some (.int (l : Int)), some (.int (p : Int))] S = some (.bl b, S) := fun {b} e => by
    refine e_cmp (e_bin (e_var rfl) (e_var rfl) (o_mul (mul_sz zj zj (by omega)))) (e_var rfl) ?_
    rw [c_eq, ← e, ← Int.natCast_mul]
    congr 1
    rw [decide_eq_decide]
    omega
  by_cases hj : j * j = l
  · refine ⟨r * j, s, callF_pure f__law_bare rfl (exSs_nx (s_asg (e_tup (e_cons e_int (e_cons e_int (e_cons (e_var rfl) (e_cons e_int e_nil)))) (len_i rfl)) rfl) (exSs_nx e1 (exSs_nx (s_asg (e_call (e_cons (e_var rfl) e_nil) e2) rfl) (exSs_rt (s_ret ?_))))), (d1 hj).1, (d1 hj).2⟩
    rw [Int.natCast_mul]
    exact e_ite_t (c1 (decide_eq_true hj)) (e_tup (e_cons (e_bin (e_var rfl) (e_var rfl) (o_mul (mul_sz zr zj (by omega)))) (e_cons (e_var rfl) e_nil)) (len_i rfl))
  · refine ⟨r, s * l, callF_pure f__law_bare rfl (exSs_nx (s_asg (e_tup (e_cons e_int (e_cons e_int (e_cons (e_var rfl) (e_cons e_int e_nil)))) (len_i rfl)) rfl) (exSs_nx e1 (exSs_nx (s_asg (e_call (e_cons (e_var rfl) e_nil) e2) rfl) (exSs_rt (s_ret ?_))))), (d2 hj).1, (d2 hj).2⟩
    rw [Int.natCast_mul]
    exact e_ite_f (c1 (decide_eq_false hj)) (e_tup (e_cons (e_var rfl) (e_cons (e_bin (e_var rfl) (e_var rfl) (o_mul (mul_sz zs zl (by omega)))) e_nil)) (len_i rfl))
end L81
end

section
set_option maxHeartbeats 1000000
namespace L81
open PySem Mn
variable {S : So} {Q : NSq}
local macro_rules
  | `(tactic| keq_rows) => `(tactic| (repeat' (first
      | with_reducible exact e_int | with_reducible exact e_bl | with_reducible exact e_non | with_reducible exact e_str | with_reducible exact e_nil | with_reducible exact s_pass | with_reducible exact eo_none | with_reducible exact o_add | with_reducible exact o_sub | with_reducible exact c_eq | with_reducible exact c_lt | with_reducible exact c_le | with_reducible exact c_gt | with_reducible exact c_ge | with_reducible exact c_ne
      | ((with_reducible refine' ss_nl ?mnh); (case mnh => exact rfl)) | ((with_reducible refine' e_var ?mnh); (case mnh => exact rfl)) | ((with_reducible refine' asg_i ?mnh); (case mnh => exact rfl)) | ((with_reducible refine' at_i ?mnh); (case mnh => exact rfl)) | ((with_reducible refine' ty_i ?mnh); (case mnh => exact rfl)) | ((with_reducible refine' mv_i ?mnh); (case mnh => exact rfl)) | ((with_reducible refine' bi_i ?mnh); (case mnh => exact rfl)) | ((with_reducible refine' e_glob ?mnh); (case mnh => kernel_rfl)) | (with_reducible exact div_lit (by decide)) | ((with_reducible refine' len_i ?mnh); (case mnh => exact rfl))
      | with_reducible refine' exSs_rt (s_ret ?_) | with_reducible refine' exSs_nx (s_asg ?_ ?_) ?_ | with_reducible refine' exSs_nx (s_ex ?_) ?_ | with_reducible refine' exSs_nx (s_put ?_ ?_ ?_ ?_) ?_ | with_reducible refine' t_of ?_ | with_reducible refine' e_bin ?_ ?_ ?_ | with_reducible refine' e_neg ?_ | with_reducible refine' e_cons ?_ ?_ | with_reducible refine' e_tup ?_ ?_ | with_reducible refine' e_lst ?_ ?_ | with_reducible refine' e_ix ?_ ?_ ?_ | with_reducible refine' e_cmp ?_ ?_ ?_ | with_reducible refine' e_not ?_ | with_reducible refine' e_call ?_ ?_ | with_reducible refine' e_bi ?_ ?_ | with_reducible refine' e_me ?_ ?_ ?_ ?_ | with_reducible refine' eo_some ?_ | with_reducible refine' e_sl ?_ ?_ ?_ ?_ | with_reducible refine' e_rev ?_ ?_ | with_reducible refine' ix_tup ?_
      | (with_reducible refine' e_callk ?_ ?_ (by kernel_rfl) rfl ?_)
      | keq_hits
      | with_reducible refine' o_mul ?_ | with_reducible refine' o_fdiv ?_ | with_reducible refine' o_mod ?_)))
  | `(tactic| kas_types) => `(tactic| (repeat' (first
      | exact Sz.id (by assumption) | exact Sz.lit (n := 16) (by decide) | with_reducible refine' Sz.mul ?_ ?_ | with_reducible refine' Sz.add ?_ ?_ | with_reducible refine' Sz.sub ?_ ?_ | with_reducible refine' Sz.neg ?_ | with_reducible refine' Sz.div ?_)))
  | `(tactic| lcg_sub) => `(tactic| ((refine' mul_sz ?mza ?mzb ?mzc); (case mza => kas_types); (case mzb => kas_types); (case mzc => omega)))
theorem tabF_lin : ∀ (w : List Int) (a b c d : Int), tabF w a b c d = (a * (tab w).1 + b * (tab w).2.2.1, a * (tab w).2.1 + b * (tab w).2.2.2, c * (tab w).1 + d * (tab w).2.2.1, c * (tab w).2.1 + d * (tab w).2.2.2)
  | [], a, b, c, d => by simp [tab, tabF]
  | t :: w, a, b, c, d => by
    rw [tab_cons, tabF_lin w 0 1 1 t]
    simp only [tabF]
    rw [tabF_lin w b (a + b * t) d (c + d * t)]
    simp only [Prod.mk.injEq]
    refine ⟨?_, ?_, ?_, ?_⟩ <;> grind
theorem tab_app (u w : List Int) : tab (u ++ w) = ((tab u).1 * (tab w).1 + (tab u).2.1 * (tab w).2.2.1, (tab u).1 * (tab w).2.1 + (tab u).2.1 * (tab w).2.2.2, (tab u).2.2.1 * (tab w).1 + (tab u).2.2.2 * (tab w).2.2.1, (tab u).2.2.1 * (tab w).2.1 + (tab u).2.2.2 * (tab w).2.2.2) := by
  show tabF (u ++ w) 1 0 0 1 = _
  rw [tabF_app, tabF_lin w]
  rfl
theorem tab_rev : ∀ w : List Int, tab w.reverse = ((tab w).1, (tab w).2.2.1, (tab w).2.1, (tab w).2.2.2)
  | [] => rfl
  | t :: w => by
    have e : tab [t] = (0, 1, 1, t) := by simp [tab, tabF]
    rw [List.reverse_cons, tab_app, tab_rev w, e, tab_cons, tabF_lin w 0 1 1 t]
    simp only [Prod.mk.injEq]
    refine ⟨?_, ?_, ?_, ?_⟩ <;> grind
theorem dsc_rev (w : List Int) : dsc w.reverse = dsc w := by
  unfold dsc
  rw [tab_rev]
  grind
theorem dsc_comm (u w : List Int) : dsc (u ++ w) = dsc (w ++ u) := by
  unfold dsc
  rw [tab_app, tab_app]
  grind
theorem dsc_rot (w : List Int) (i : Nat) : dsc (rot w i) = dsc w := by
  show dsc (w.drop i ++ w.take i) = _
  rw [dsc_comm, List.take_append_drop]
theorem tabF_bd : ∀ (w : List Int) (a b c d B : Int), Rw w → 0 ≤ a → 0 ≤ b → 0 ≤ c → 0 ≤ d → a ≤ B → b ≤ B → c ≤ B → d ≤ B →
    (0 ≤ (tabF w a b c d).1 ∧ 0 ≤ (tabF w a b c d).2.1 ∧ 0 ≤ (tabF w a b c d).2.2.1 ∧ 0 ≤ (tabF w a b c d).2.2.2) ∧ (tabF w a b c d).1 ≤ B * 10 ^ w.length ∧ (tabF w a b c d).2.1 ≤ B * 10 ^ w.length ∧ (tabF w a b c d).2.2.1 ≤ B * 10 ^ w.length ∧ (tabF w a b c d).2.2.2 ≤ B * 10 ^ w.length
  | [], a, b, c, d, B, _, h1, h2, h3, h4, k1, k2, k3, k4 => by simp [tabF]; omega
  | t :: w, a, b, c, d, B, hw, h1, h2, h3, h4, k1, k2, k3, k4 => by
    have ht := hw t List.mem_cons_self
    have e1 : 0 ≤ b * t := Int.mul_nonneg h2 (by omega)
    have e2 : 0 ≤ d * t := Int.mul_nonneg h4 (by omega)
    have e3 : b * t ≤ b * 9 := Int.mul_le_mul_of_nonneg_left ht.2 h2
    have e4 : d * t ≤ d * 9 := Int.mul_le_mul_of_nonneg_left ht.2 h4
    have := tabF_bd w b (a + b * t) d (c + d * t) (B * 10) hw.tl h2 (by omega) h4 (by omega) (by omega) (by omega) (by omega) (by omega)
    simp only [tabF, List.length_cons]
    rw [Int.pow_succ, Int.mul_comm (10 ^ w.length) 10, ← Int.mul_assoc]
    exact this
theorem tab_le {w : List Int} (h : Rw w) (hl : w.length ≤ 6) : (0 ≤ (tab w).1 ∧ 0 ≤ (tab w).2.1 ∧ 0 ≤ (tab w).2.2.1 ∧ 0 ≤ (tab w).2.2.2) ∧ (tab w).1 ≤ 1000000 ∧ (tab w).2.1 ≤ 1000000 ∧ (tab w).2.2.1 ≤ 1000000 ∧ (tab w).2.2.2 ≤ 1000000 := by
  obtain ⟨h0, h1, h2, h3, h4⟩ := tabF_bd w 1 0 0 1 1 h (by omega) (by omega) (by omega) (by omega) (by omega) (by omega) (by omega) (by omega)
  have e : (1 : Int) * 10 ^ w.length ≤ 1000000 := by
    rw [Int.one_mul]
    have e2 : (10 : Int) ^ w.length = ((10 ^ w.length : Nat) : Int) := by simp
    rw [e2]
    have := Nat.pow_le_pow_right (show 0 < 10 by decide) hl
    omega
  show _ ∧ (tabF w 1 0 0 1).1 ≤ _ ∧ _
  exact ⟨h0, by omega, by unfold tab; omega, by unfold tab; omega, by unfold tab; omega⟩
theorem dsc_le {w : List Int} (h : Rw w) (hl : w.length ≤ 6) : dsc w ≤ 10000000000000 := by
  obtain ⟨⟨a1, a2, a3, a4⟩, b1, b2, b3, b4⟩ := tab_le h hl
  unfold dsc
  generalize (tab w).1 = a at *
  generalize (tab w).2.1 = b at *
  generalize (tab w).2.2.1 = c at *
  generalize (tab w).2.2.2 = d at *
  have e1 : b * c ≤ 1000000 * 1000000 := by
    have := Int.mul_le_mul b2 b3 a3 (by omega)
    exact this
  have e2 : (a - d) * (a - d) ≤ 1000000 * 1000000 := by
    by_cases hx : 0 ≤ a - d
    · exact Int.mul_le_mul (by omega) (by omega) hx (by omega)
    · have : (a - d) * (a - d) = (d - a) * (d - a) := by grind
      rw [this]
      exact Int.mul_le_mul (by omega) (by omega) (by omega) (by omega)
  have e3 : 4 * b * c = 4 * (b * c) := by grind
  omega
theorem field_ex {t : Int} {w : List Int} (h : Rw (t :: w)) (hl : (t :: w).length ≤ 6) {m d : Nat} (hd : ((m * m * d : Nat) : Int) = dsc (t :: w)) (hs : Sqf d) : ∃ (Q : NSq) (s : Kd Q), Q.d = d ∧ Rnd Q (t :: w) s ∧ 1 ≤ m := by
  have h4 := (dsc_pos h.ps).2
  have hle := dsc_le h hl
  have hm : 1 ≤ m := by
    rcases Nat.eq_zero_or_pos m with e | e
    · subst e
      simp at hd
      omega
    · exact e
  have hd1 : d ≠ 1 := by
    intro e
    subst e
    have := dsc_ns h.ps (m : Int)
    apply this
    rw [← hd]
    simp
  have hd0 : d ≠ 0 := by
    intro e
    subst e
    simp at hd
    omega
  have hdle : d ≤ m * m * d := by
    have := Nat.mul_le_mul_right d (Nat.mul_le_mul hm hm)
    omega
  let Q : NSq := ⟨d, ns_of_sqf hs hd1 hd0⟩
  have hfix := fix_formula (Q := Q) (t := t) (w := w) (m := m) h.ps hm (by
    rw [← hd]
    show _ = (m : Int) * m * (d : Int)
    simp)
  refine ⟨Q, _, rfl, ⟨h, by simp, by omega, hfix, ?_, hs, ?_⟩, hm⟩
  · exact Own.irr h.ps ⟨m, hm, by rw [← hd]; show _ = (m : Int) * m * (d : Int); simp⟩ hfix
  · show d < 2 ^ 64
    omega
theorem l_table {cf} {R : D} : ∀ (w : List Int) (a b c d : Int) (B : Nat) (t : Option D), Rw w → Sz B a → Sz B b → Sz B c → Sz B d → B + 5 * w.length ≤ 9000 →
    ∃ t', forL none (fun x ρ S => (asgG (.nm 1) x ρ).bind fun ρ => exSs T cf b__law_table.tl.hd.bd ρ S) (w.map D.int) [some R, t, some (.int a), some (.int b), some (.int c), some (.int d)] S =
      some (.nx [some R, t', some (.int (tabF w a b c d).1), some (.int (tabF w a b c d).2.1), some (.int (tabF w a b c d).2.2.1), some (.int (tabF w a b c d).2.2.2)], S)
  | [], a, b, c, d, B, t, _, _, _, _, _, _ => ⟨t, rfl⟩
  | x :: w, a, b, c, d, B, t, hw, za, zb, zc, zd, hB => by
    have zx := hw.sz
    simp only [List.length_cons] at hB
    obtain ⟨t', e⟩ := l_table w b (a + b * x) d (c + d * x) (B + 5) (some (.int x)) hw.tl (zb.mono (by omega)) ((za.add (zb.mul zx)).mono (by omega)) (zd.mono (by omega)) ((zc.add (zd.mul zx)).mono (by omega)) (by omega)
    refine ⟨t', ?_⟩
    rw [List.map_cons, forL_cons_nx (w := none) (ρ1 := [some R, some (.int x), some (.int b), some (.int (a + b * x)), some (.int d), some (.int (c + d * x))]) (S1 := S) ?_ trivial]
    · exact e
    · exact exSs_nx (s_asg (e_tup (e_cons (e_var rfl) (e_cons (e_bin (e_var rfl) (e_bin (e_var rfl) (e_var rfl) (o_mul (mul_sz zb zx (by omega)))) o_add) (e_cons (e_var rfl) (e_cons (e_bin (e_var rfl) (e_bin (e_var rfl) (e_var rfl) (o_mul (mul_sz zd zx (by omega)))) o_add) e_nil)))) (len_i rfl)) rfl) ss_nil
theorem c_table {n : Nat} {w : List Int} (h : Rw w) (hl : w.length ≤ 1000) : callF T (n + 1) "_law_table" [.tup (w.map D.int)] S = some (.tup [.int (tab w).1, .int (tab w).2.1, .int (tab w).2.2.1, .int (tab w).2.2.2], S) := by
  obtain ⟨t', e⟩ := l_table (S := S) (cf := callF T n) (R := .tup (w.map D.int)) w 1 0 0 1 1 none h (Sz.lit (by decide)) (Sz.lit (by decide)) (Sz.lit (by decide)) (Sz.lit (by decide)) (by omega)
  exact callF_pure f__law_table rfl (exSs_nx (s_asg (e_tup (e_cons e_int (e_cons e_int (e_cons e_int (e_cons e_int e_nil)))) (len_i rfl)) rfl) (exSs_nx (s_fr (it_exT (e_var rfl)) (by exact e)) (exSs_rt (s_ret (e_tup (e_cons (e_var rfl) (e_cons (e_var rfl) (e_cons (e_var rfl) (e_cons (e_var rfl) e_nil)))) (len_i rfl))))))
theorem c_lsurd {n B : Nat} {a b c : Int} (hc : 0 < c) (hb : b ≠ 0) (hB : B ≤ 8000) (za : Sz B a) (zb : Sz B b) (zc : Sz B c) (hQ : Tld Q) :
    callF T (n + 2) "_law_surd" [.int a, .int b, .int c, .int (Q.d : Int)] S = some (tp (vl Q a b c), S) ∧ Rp Q B (tp (vl Q a b c)) (vl Q a b c) := by
  obtain ⟨h1, h2, h3, h4, h5⟩ := low_ok (Q := Q) (a := a) (b := b) (c := c) (d := Q.d) hc (.inr rfl)
  rw [if_pos hb] at h1
  generalize hg : (Int.gcd (Int.gcd a b) c : Int) = g at *
  have g0 : 0 < g := by
    rw [← hg]
    have : 0 < Int.gcd (Int.gcd a b) c := Int.gcd_pos_of_ne_zero_right _ (by omega)
    omega
  have gz : Sz B g := zc.le (by
    rw [← hg, Int.natAbs_natCast]
    exact Int.gcd_le_natAbs_right _ (by omega))
  have gd := div_sz g0 gz (by omega)
  have hr : Rp Q B (sd (a / g) (b / g) (c / g) Q.d) (vl Q a b c) := ⟨_, _, _, _, rfl, h1, h2, za.le h3, zb.le h4, zc.le h5, hQ.2⟩
  have e := hr.tp
  rw [← e]
  refine ⟨callF_pure f__law_surd rfl (exSs_nx (s_if_f (t_of (e_cmp (e_var rfl) e_int (c_lt_f (by omega)))) ss_nil) (exSs_nx (ρ1 := [some (.int a), some (.int b), some (.int c), some (.int (Q.d : Int)), some (.int g)]) (S1 := S) ?_ (exSs_rt (s_ret (e_tup (e_cons (e_bin (e_var rfl) (e_var rfl) (o_fdiv gd)) (e_cons (e_bin (e_var rfl) (e_var rfl) (o_fdiv gd)) (e_cons (e_bin (e_var rfl) (e_var rfl) (o_fdiv gd)) (e_cons (e_var rfl) e_nil)))) (len_i rfl)))))), hr⟩
  refine s_asg (d := .int g) ?_ rfl
  rw [← hg]
  exact e_call (e_cons (e_call (e_cons (e_var rfl) (e_cons (e_var rfl) e_nil)) c_divisor) (e_cons (e_var rfl) e_nil)) c_divisor
theorem c_round_slope {n m : Nat} {w : List Int} {s : Kd Q} (h : Rnd Q w s) (hm : 1 ≤ m) (hd : dsc w = (m : Int) * m * (Q.d : Int)) (hl : w.length ≤ 6) : callF T (n + 3) "_law_round_slope" [.tup (w.map D.int), .tup [.int m, .int (Q.d : Int)]] S = some (tp s, S) := by
  have hne := h.ne
  have hrw := h.rw
  have hfix := h.fix
  have htl := h.tld
  obtain ⟨⟨a1, a2, a3, a4⟩, b1, b2, b3, b4⟩ := tab_le hrw hl
  cases w with
  | nil => exact absurd rfl hne
  | cons t w =>
    obtain ⟨p1, p2, p3, p4⟩ := tab_pos hrw.ps
    have e := Fix.uniq hrw.ps hfix (fix_formula (Q := Q) hrw.ps hm hd)
    have zm : Sz 60 (m : Int) := by
      have hle := dsc_le hrw hl
      have hQ1 := Q.one_le
      have : (m : Int) ≤ dsc (t :: w) := by
        rw [hd]
        have e1 : (m : Int) * m * (Q.d : Int) = ((m * m * Q.d : Nat) : Int) := by simp
        rw [e1]
        have := Nat.mul_le_mul (Nat.mul_le_mul_left m hm) hQ1
        omega
      unfold Sz
      omega
    have z1 : Sz 60 (tab (t :: w)).1 := by unfold Sz; omega
    have z3 : Sz 60 (tab (t :: w)).2.2.1 := by unfold Sz; omega
    have z4 : Sz 60 (tab (t :: w)).2.2.2 := by unfold Sz; omega
    have k := (c_lsurd (S := S) (n := n) (B := 63) (a := (tab (t :: w)).1 - (tab (t :: w)).2.2.2) (b := (m : Int)) (c := 2 * (tab (t :: w)).2.2.1) (Q := Q) (by omega) (by omega) (by omega) ((z1.sub z4).mono (by omega)) (zm.mono (by omega)) (((Sz.lit (n := 2) (by decide)).mul z3).mono (by omega)) htl).1
    rw [← e] at k
    exact callF_pure f__law_round_slope rfl (exSs_nx (s_asg (e_call (e_cons (e_var rfl) e_nil) (c_table hrw (by omega))) rfl) (exSs_rt (s_ret (e_call (e_cons (e_bin (e_var rfl) (e_var rfl) o_sub) (e_cons (e_ix (e_var rfl) e_int (ix_tup rfl)) (e_cons (e_bin e_int (e_var rfl) (o_mul (mul_sz (Sz.lit (n := 2) (by decide)) z3 (by omega)))) (e_cons (e_ix (e_var rfl) e_int (ix_tup rfl)) e_nil)))) k))))
theorem c_is_more {n B : Nat} {x y : Kd Q} (hx : Rp Q B (tp x) x) (hy : Rp Q B (tp y) y) (hB : B ≤ 4000) : ∃ k : Bool, callF T (n + 1) "_law_is_more" [tp x, tp y] S = some (.bl k, S) ∧ (k = true ↔ y < x) := by
  obtain ⟨a, b, c, d, e1, n1, v1, za, zb, zc, hQ⟩ := hx
  obtain ⟨a', b', c', d', e2, n2, v2, za', zb', zc', _⟩ := hy
  have p1 := n1.pos
  have p2 := n2.pos
  have zd : Sz 64 d := Nat.lt_of_le_of_lt n1.rad_le hQ
  have zd' : Sz 64 d' := Nat.lt_of_le_of_lt n2.rad_le hQ
  rw [e1, e2]
  have g1 := Kd.cne (Q := Q) (show c ≠ 0 by omega)
  have g2 := Kd.cne (Q := Q) (show c' ≠ 0 by omega)
  have pc : 0 < c * c' := Int.mul_pos p1 p2
  have key : y < x ↔ 0 < vl Q (a * c' - a' * c) (b * c' - b' * c) (c * c') := by
    have : x - y = vl Q (a * c' - a' * c) (b * c' - b' * c) (c * c') := by
      rw [← v1, ← v2]
      unfold vl
      simp only [Kd.csub, Kd.cmul]
      grind
    rw [← this]
    constructor
    · intro h; grind
    · intro h; grind
  rw [key, vl_pos pc]
  have zA : Sz (2 * B + 1) (a * c' - a' * c) := ((za.mul zc').sub (za'.mul zc)).mono (by omega)
  have zB : Sz (2 * B + 1) (b * c' - b' * c) := ((zb.mul zc').sub (zb'.mul zc)).mono (by omega)
  have hmd : (b = 0 ∧ b' = 0) ∨ (if d > d' then d else d') = Q.d := by
    rcases max_d n2 n1 with ⟨h1, h2⟩ | h
    · exact .inl ⟨h2, h1⟩
    · exact .inr h
  have zD : Sz 64 (if d > d' then d else d') := by split <;> assumption
  have hAB : b = 0 ∧ b' = 0 → b * c' - b' * c = 0 := fun ⟨h1, h2⟩ => by rw [h1, h2]; simp
  have x1 : ∀ (w4 : Option D), exSs T (callF T n) b__law_is_more [some (sd a b c d), some (sd a' b' c' d'), none, none, none] S = exSs T (callF T n) b__law_is_more.tl.tl [some (sd a b c d), some (sd a' b' c' d'), some (.int (if d > d' then d else d')), some (.int (a * c' - a' * c)), some (.int (b * c' - b' * c))] S := by
    intro _
    have y1 : exS T (callF T n) b__law_is_more.hd [some (sd a b c d), some (sd a' b' c' d'), none, none, none] S = some (.nx [some (sd a b c d), some (sd a' b' c' d'), none, some (.int (a * c' - a' * c)), some (.int (b * c' - b' * c))], S) :=
      s_asg (e_tup (e_cons (e_bin (e_bin (e_ix (e_var rfl) e_int (ix_tup rfl)) (e_ix (e_var rfl) e_int (ix_tup rfl)) (o_mul (mul_sz za zc' (by omega)))) (e_bin (e_ix (e_var rfl) e_int (ix_tup rfl)) (e_ix (e_var rfl) e_int (ix_tup rfl)) (o_mul (mul_sz za' zc (by omega)))) o_sub) (e_cons (e_bin (e_bin (e_ix (e_var rfl) e_int (ix_tup rfl)) (e_ix (e_var rfl) e_int (ix_tup rfl)) (o_mul (mul_sz zb zc' (by omega)))) (e_bin (e_ix (e_var rfl) e_int (ix_tup rfl)) (e_ix (e_var rfl) e_int (ix_tup rfl)) (o_mul (mul_sz zb' zc (by omega)))) o_sub) e_nil)) (len_i rfl)) rfl
    have y2 : exS T (callF T n) b__law_is_more.tl.hd [some (sd a b c d), some (sd a' b' c' d'), none, some (.int (a * c' - a' * c)), some (.int (b * c' - b' * c))] S = some (.nx [some (sd a b c d), some (sd a' b' c' d'), some (.int (if d > d' then d else d')), some (.int (a * c' - a' * c)), some (.int (b * c' - b' * c))], S) := by
      refine s_asg (d := .int (if d > d' then d else d')) ?_ rfl
      by_cases hd : d > d'
      · rw [if_pos hd]
        exact e_ite_t (e_cmp (e_ix (e_var rfl) e_int (ix_tup rfl)) (e_ix (e_var rfl) e_int (ix_tup rfl)) (c_gt_t hd)) (e_ix (e_var rfl) e_int (ix_tup rfl))
      · rw [if_neg hd]
        exact e_ite_f (e_cmp (e_ix (e_var rfl) e_int (ix_tup rfl)) (e_ix (e_var rfl) e_int (ix_tup rfl)) (c_gt_f hd)) (e_ix (e_var rfl) e_int (ix_tup rfl))
    show exSs T (callF T n) (.cons b__law_is_more.hd (.cons b__law_is_more.tl.hd b__law_is_more.tl.tl)) _ S = _
    simp only [exSs, y1, y2, Option.bind_some]
  have fin : ∀ k : Bool, exSs T (callF T n) b__law_is_more.tl.tl [some (sd a b c d), some (sd a' b' c' d'), some (.int (if d > d' then d else d')), some (.int (a * c' - a' * c)), some (.int (b * c' - b' * c))] S = some (.rt (.bl k), S) → callF T (n + 1) "_law_is_more" [sd a b c d, sd a' b' c' d'] S = some (.bl k, S) := by
    intro k hk
    refine callF_pure f__law_is_more rfl ?_
    rw [← x1 none] at hk
    exact hk
  generalize hA : a * c' - a' * c = A at *
  generalize hBB : b * c' - b' * c = V at *
  generalize hDD : (if d > d' then d else d') = Dd at *
  by_cases hV : V = 0
  · refine ⟨decide (0 < A), fin _ (exSs_rt (s_if_t (t_of (e_cmp (e_var rfl) e_int (c_eq_t hV))) (exSs_rt (s_ret (e_cmp (e_var rfl) e_int c_gt))))), ?_⟩
    rw [decide_eq_true_iff, hV, Kd.c0]
    have : (A : Kd Q) + 0 * rt Q = (A : Kd Q) := by grind
    rw [this, Kd.cpos]
  · have hD : Dd = Q.d := by
      rcases hmd with h | h
      · exact absurd (hAB h) hV
      · exact h
    have rp := rt_pos (Q := Q)
    by_cases h1 : 0 ≤ A ∧ 0 < V
    · refine ⟨true, fin _ (exSs_nx (s_if_f (t_of (e_cmp (e_var rfl) e_int (c_eq_f hV))) ss_nil) (exSs_rt (s_if_t (t_of (e_and_t (e_cmp (e_var rfl) e_int (c_ge_t h1.1)) (e_and1 (e_cmp (e_var rfl) e_int (c_gt_t h1.2))))) (exSs_rt (s_ret e_bl))))), ?_⟩
      have k1 := (Kd.cle (Q := Q)).mpr h1.1
      have k2 := mul_pos' ((Kd.cpos (Q := Q)).mpr h1.2) rp
      rw [Kd.c0] at k1
      exact ⟨fun _ => by grind, fun _ => rfl⟩
    · have g1' : evT T (callF T n) (.and (.cons (.cmp .ge (.var 3) (.int 0)) (.cons (.cmp .gt (.var 4) (.int 0)) .nil))) [some (sd a b c d), some (sd a' b' c' d'), some (.int Dd), some (.int A), some (.int V)] S = some (false, S) := by
        by_cases hA0 : 0 ≤ A
        · exact t_of (e_and_t (e_cmp (e_var rfl) e_int (c_ge_t hA0)) (e_and1 (e_cmp (e_var rfl) e_int (c_gt_f (fun h => h1 ⟨hA0, h⟩)))))
        · exact t_of (e_and_f (e_cmp (e_var rfl) e_int (c_ge_f hA0)))
      by_cases h2 : A ≤ 0 ∧ V < 0
      · refine ⟨false, fin _ (exSs_nx (s_if_f (t_of (e_cmp (e_var rfl) e_int (c_eq_f hV))) ss_nil) (exSs_nx (s_if_f g1' ss_nil) (exSs_rt (s_if_t (t_of (e_and_t (e_cmp (e_var rfl) e_int (c_le_t h2.1)) (e_and1 (e_cmp (e_var rfl) e_int (c_lt_t h2.2))))) (exSs_rt (s_ret e_bl)))))), ?_⟩
        have k1 := (Kd.cle (Q := Q)).mpr h2.1
        have k2 := mul_pos' ((Kd.cpos (Q := Q)).mpr (show 0 < -V by omega)) rp
        rw [Kd.c0] at k1
        rw [Kd.cneg] at k2
        exact ⟨fun h => (Bool.false_ne_true h).elim, fun _ => by grind⟩
      · have g2' : evT T (callF T n) (.and (.cons (.cmp .le (.var 3) (.int 0)) (.cons (.cmp .lt (.var 4) (.int 0)) .nil))) [some (sd a b c d), some (sd a' b' c' d'), some (.int Dd), some (.int A), some (.int V)] S = some (false, S) := by
          by_cases hA0 : A ≤ 0
          · exact t_of (e_and_t (e_cmp (e_var rfl) e_int (c_le_t hA0)) (e_and1 (e_cmp (e_var rfl) e_int (c_lt_f (fun h => h2 ⟨hA0, h⟩)))))
          · exact t_of (e_and_f (e_cmp (e_var rfl) e_int (c_le_f hA0)))
        by_cases hA0 : 0 < A
        · have hV0 : V < 0 := by omega
          obtain ⟨m1, m2⟩ := sgn_mix (Q := Q) hA0 hV0
          refine ⟨decide (V * V * Dd < A * A), fin _ (exSs_nx (s_if_f (t_of (e_cmp (e_var rfl) e_int (c_eq_f hV))) ss_nil) (exSs_nx (s_if_f g1' ss_nil) (exSs_nx (s_if_f g2' ss_nil) (exSs_rt (s_ret (e_ite_t (e_cmp (e_var rfl) e_int (c_gt_t hA0)) (e_cmp (e_bin (e_var rfl) (e_var rfl) (o_mul (mul_sz zA zA (by omega)))) (e_bin (e_bin (e_var rfl) (e_var rfl) (o_mul (mul_sz zB zB (by omega)))) (e_var rfl) (o_mul (mul_sz (zB.mul zB) zD (by omega)))) c_gt))))))), ?_⟩
          rw [decide_eq_true_iff, hD]
          exact ⟨m1, fun h => by
            apply Classical.byContradiction
            intro k
            have := m2 k
            grind⟩
        · have hA1 : A < 0 := by
            rcases Int.lt_trichotomy A 0 with h | h | h
            · exact h
            · exfalso
              subst h
              rcases Int.lt_trichotomy V 0 with h3 | h3 | h3
              · exact h2 ⟨Int.le_refl _, h3⟩
              · exact hV h3
              · exact h1 ⟨Int.le_refl _, h3⟩
            · exact absurd h hA0
          have hV0 : 0 < V := by
            rcases Int.lt_trichotomy V 0 with h3 | h3 | h3
            · exact absurd ⟨by omega, h3⟩ h2
            · exact absurd h3 hV
            · exact h3
          obtain ⟨m1, m2⟩ := sgn_mix (Q := Q) (a := -A) (b := -V) (by omega) (by omega)
          have q1 : -V * -V * (Q.d : Int) = V * V * Dd := by rw [hD, Int.neg_mul_neg]
          have q2 : -A * -A = A * A := Int.neg_mul_neg A A
          rw [q1, q2, Kd.cneg, Kd.cneg] at m1
          rw [q1, q2, Kd.cneg, Kd.cneg] at m2
          refine ⟨decide (A * A < V * V * Dd), fin _ (exSs_nx (s_if_f (t_of (e_cmp (e_var rfl) e_int (c_eq_f hV))) ss_nil) (exSs_nx (s_if_f g1' ss_nil) (exSs_nx (s_if_f g2' ss_nil) (exSs_rt (s_ret (e_ite_f (e_cmp (e_var rfl) e_int (c_gt_f hA0)) (e_cmp (e_bin (e_var rfl) (e_var rfl) (o_mul (mul_sz zA zA (by omega)))) (e_bin (e_bin (e_var rfl) (e_var rfl) (o_mul (mul_sz zB zB (by omega)))) (e_var rfl) (o_mul (mul_sz (zB.mul zB) zD (by omega)))) c_lt))))))), ?_⟩
          rw [decide_eq_true_iff]
          have hirr : A * A ≠ V * V * Dd := by
            intro e
            rw [hD] at e
            have e1 := congrArg Int.natAbs e
            rw [Int.natAbs_mul, Int.natAbs_mul, Int.natAbs_mul, Int.natAbs_natCast] at e1
            have hz : (A : Kd Q) + (V : Kd Q) * rt Q ≠ 0 := by
              intro k
              have k2 : (A : Kd Q) + (V : Kd Q) * rt Q = ((0 : Int) : Kd Q) + ((0 : Int) : Kd Q) * rt Q := by rw [k, Kd.c0]; grind
              exact hV (ab_inj k2).2
            have hz2 : (A : Kd Q) - (V : Kd Q) * rt Q ≠ 0 := by
              intro k
              have k2 : (A : Kd Q) + ((-V : Int) : Kd Q) * rt Q = ((0 : Int) : Kd Q) + ((0 : Int) : Kd Q) * rt Q := by rw [Kd.cneg, Kd.c0]; grind
              have := (ab_inj k2).2
              omega
            have e3 := congrArg (fun z : Int => (z : Kd Q)) e
            simp only [Kd.cmul, natD] at e3
            rw [← rt_sq] at e3
            have : ((A : Kd Q) + (V : Kd Q) * rt Q) * ((A : Kd Q) - (V : Kd Q) * rt Q) = 0 := by grind
            grind
          exact ⟨fun h => by have := m2 (by omega); grind, fun h => by
            apply Classical.byContradiction
            intro k
            have := m1 (by omega)
            grind⟩
end L81
end

section
set_option maxHeartbeats 1000000
namespace L81
open PySem Mn
variable {S : So} {Q : NSq}
local macro_rules
  | `(tactic| keq_rows) => `(tactic| (repeat' (first
      | with_reducible exact e_int | with_reducible exact e_bl | with_reducible exact e_non | with_reducible exact e_str | with_reducible exact e_nil | with_reducible exact s_pass | with_reducible exact eo_none | with_reducible exact o_add | with_reducible exact o_sub | with_reducible exact c_eq | with_reducible exact c_lt | with_reducible exact c_le | with_reducible exact c_gt | with_reducible exact c_ge | with_reducible exact c_ne
      | ((with_reducible refine' ss_nl ?mnh); (case mnh => exact rfl)) | ((with_reducible refine' e_var ?mnh); (case mnh => exact rfl)) | ((with_reducible refine' asg_i ?mnh); (case mnh => exact rfl)) | ((with_reducible refine' at_i ?mnh); (case mnh => exact rfl)) | ((with_reducible refine' ty_i ?mnh); (case mnh => exact rfl)) | ((with_reducible refine' mv_i ?mnh); (case mnh => exact rfl)) | ((with_reducible refine' bi_i ?mnh); (case mnh => exact rfl)) | ((with_reducible refine' e_glob ?mnh); (case mnh => kernel_rfl)) | (with_reducible exact div_lit (by decide)) | ((with_reducible refine' len_i ?mnh); (case mnh => exact rfl))
      | with_reducible refine' exSs_rt (s_ret ?_) | with_reducible refine' exSs_nx (s_asg ?_ ?_) ?_ | with_reducible refine' exSs_nx (s_ex ?_) ?_ | with_reducible refine' exSs_nx (s_put ?_ ?_ ?_ ?_) ?_ | with_reducible refine' t_of ?_ | with_reducible refine' e_bin ?_ ?_ ?_ | with_reducible refine' e_neg ?_ | with_reducible refine' e_cons ?_ ?_ | with_reducible refine' e_tup ?_ ?_ | with_reducible refine' e_lst ?_ ?_ | with_reducible refine' e_ix ?_ ?_ ?_ | with_reducible refine' e_cmp ?_ ?_ ?_ | with_reducible refine' e_not ?_ | with_reducible refine' e_call ?_ ?_ | with_reducible refine' e_bi ?_ ?_ | with_reducible refine' e_me ?_ ?_ ?_ ?_ | with_reducible refine' eo_some ?_ | with_reducible refine' e_sl ?_ ?_ ?_ ?_ | with_reducible refine' e_rev ?_ ?_ | with_reducible refine' ix_tup ?_
      | (with_reducible refine' e_callk ?_ ?_ (by kernel_rfl) rfl ?_)
      | keq_hits
      | with_reducible refine' o_mul ?_ | with_reducible refine' o_fdiv ?_ | with_reducible refine' o_mod ?_)))
  | `(tactic| kas_types) => `(tactic| (repeat' (first
      | exact Sz.id (by assumption) | exact Sz.lit (n := 16) (by decide) | with_reducible refine' Sz.mul ?_ ?_ | with_reducible refine' Sz.add ?_ ?_ | with_reducible refine' Sz.sub ?_ ?_ | with_reducible refine' Sz.neg ?_ | with_reducible refine' Sz.div ?_)))
  | `(tactic| lcg_sub) => `(tactic| ((refine' mul_sz ?mza ?mzb ?mzc); (case mza => kas_types); (case mzb => kas_types); (case mzc => omega)))
theorem l_lterms {cf} {u w : List Int} {k : Nat} (hw : w ≠ []) (hwl : w.length ≤ 100) (hk : k ≤ 500) : ∀ (m t : Nat) (G : So), k - (u.length + t * w.length) = m → u.length + t * w.length ≤ 700 → ∃ (t' : Nat) (G' : So),
    exS T cf b__law_terms.tl.hd [some (chn u w), some (.int (k : Int)), some (.ref S.length)] (S ++ .lst ((u ++ (List.replicate t w).flatten).map D.int) :: G) =
      some (.nx [some (chn u w), some (.int (k : Int)), some (.ref S.length)], S ++ .lst ((u ++ (List.replicate t' w).flatten).map D.int) :: G') ∧ k ≤ u.length + t' * w.length := by
  intro m
  induction m using Nat.strongRecOn with
  | ind m ih =>
    intro t G hm ht
    have hl : 0 < w.length := List.length_pos_iff.mpr hw
    have hlen : ((u ++ (List.replicate t w).flatten).map D.int).length = u.length + t * w.length := by rw [List.length_map, List.length_append, flat_len]
    have hget : (S ++ .lst ((u ++ (List.replicate t w).flatten).map D.int) :: G)[S.length]? = some (.lst ((u ++ (List.replicate t w).flatten).map D.int)) := by simp
    have hcond : evT T cf (.cmp .lt (.bi .len (.cons (.var 2) .nil)) (.var 1)) [some (chn u w), some (.int (k : Int)), some (.ref S.length)] (S ++ .lst ((u ++ (List.replicate t w).flatten).map D.int) :: G) = some (decide (((u.length + t * w.length : Nat) : Int) < (k : Int)), S ++ .lst ((u ++ (List.replicate t w).flatten).map D.int) :: G) := by
      refine t_of (e_cmp (e_bi (e_cons (e_var rfl) e_nil) ?_) (e_var rfl) c_lt)
      simp only [biV, Mn.itemsOf, hget, Option.map_some, hlen]
    by_cases hc : u.length + t * w.length < k
    · rw [decide_eq_true (by omega)] at hcond
      have e1 : (u ++ (List.replicate t w).flatten).map D.int ++ w.map D.int = (u ++ (List.replicate (t + 1) w).flatten).map D.int := by
        rw [List.replicate_succ', List.flatten_append, ← List.map_append, List.append_assoc]
        simp
      have hadd : (t + 1) * w.length = t * w.length + w.length := Nat.succ_mul _ _
      obtain ⟨t', G', f1, f2⟩ := ih (k - (u.length + (t + 1) * w.length)) (by omega) (t + 1) (G ++ [.lst (w.map D.int)]) rfl (by omega)
      refine ⟨t', G', wh_go hcond (exSs_nx (s_ex (d := .non) (e_me (e_var rfl) ?_ (e_cons (e_biN (e_cons (e_ix (e_var rfl) e_int (ix_tup rfl)) e_nil) rfl) e_nil) ?_)) (ss_nl rfl)) f1, f2⟩
      · simp only [meTy, hget]
      · have h1 : (S ++ C.lst ((u ++ (List.replicate t w).flatten).map D.int) :: G ++ [.lst (w.map D.int)])[S.length]? = some (.lst ((u ++ (List.replicate t w).flatten).map D.int)) := by simp
        simp only [meV, h1, get_new]
        rw [if_pos (by rw [hlen, List.length_map, sizeLine_eq]; omega), e1]
        simp
    · rw [decide_eq_false (by omega)] at hcond
      exact ⟨t, G, wh_stop hcond, by omega⟩
theorem c_lterms {n : Nat} {u w : List Int} {k : Nat} (hw : w ≠ []) (hul : u.length ≤ 100) (hwl : w.length ≤ 100) (hk : k ≤ 500) : callF T (n + 1) "_law_terms" [chn u w, .int k] S = some (.ref S.length, S ++ [.lst ((tmL u w k).map D.int)]) := by
  obtain ⟨t, G, e1, e2⟩ := l_lterms (S := S) (cf := callF T n) (u := u) hw hwl hk _ 0 [] rfl (by omega)
  have hlen : ((u ++ (List.replicate t w).flatten).map D.int).length = u.length + t * w.length := by rw [List.length_map, List.length_append, flat_len]
  have hget : (S ++ .lst ((u ++ (List.replicate t w).flatten).map D.int) :: G)[S.length]? = some (.lst ((u ++ (List.replicate t w).flatten).map D.int)) := by simp
  have x1 : exS T (callF T n) b__law_terms.hd [some (chn u w), some (.int (k : Int)), none] S = some (.nx [some (chn u w), some (.int (k : Int)), some (.ref S.length)], S ++ .lst ((u ++ (List.replicate 0 w).flatten).map D.int) :: []) := by
    refine s_asg (e_biN (e_cons (e_ix (e_var rfl) e_int (ix_tup rfl)) e_nil) ?_) rfl
    simp only [biV, Mn.itemsOf, Option.map_some, List.replicate_zero, List.flatten_nil, List.append_nil]
  have x3 : evE T (callF T n) (.sl (.var 2) .none (.some (.var 1))) [some (chn u w), some (.int (k : Int)), some (.ref S.length)] (S ++ .lst ((u ++ (List.replicate t w).flatten).map D.int) :: G) =
      some (.ref (S ++ C.lst ((u ++ (List.replicate t w).flatten).map D.int) :: G).length, S ++ .lst ((u ++ (List.replicate t w).flatten).map D.int) :: G ++ [.lst ((tmL u w k).map D.int)]) := by
    refine e_sl (e_var rfl) eo_none (eo_some (e_var rfl)) ?_
    simp only [slV, Mn.listOf, hget]
    rw [cut_to (by rw [hlen]; omega), ← List.map_take, take_tm hw e2]
  have e9 := callF_of (n := n) (S := S) (ds := [chn u w, .int (k : Int)]) f__law_terms rfl (exSs_nx x1 (exSs_nx e1 (exSs_rt (s_ret x3))))
  rw [e9]
  have e10 := gc_cell (S := S) (E := .lst ((u ++ (List.replicate t w).flatten).map D.int) :: G) (c := .lst ((tmL u w k).map D.int)) (E2 := []) (ints_bel _ _)
  rw [← e10, List.length_append]
theorem it_enumR {cf} {ρ : En} {a : E} {r : Nat} {xs : List D} (h : evE T cf a ρ S = some (.ref r, S)) (hr : S[r]? = some (.lst xs)) : evIt T cf (.enum a) ρ S = some ((enumL 0 xs, some (r, xs)), S) := by
  simp only [evIt, h, Option.bind_some, Mn.itemsOf, hr, Option.map_some, srcOf]
theorem it_exR {cf} {ρ : En} {a : E} {r : Nat} {xs : List D} (h : evE T cf a ρ S = some (.ref r, S)) (hr : S[r]? = some (.lst xs)) : evIt T cf (.ex a) ρ S = some ((xs, some (r, xs)), S) := by
  refine (it_ex h (xs := xs) ?_).trans ?_
  · simp only [Mn.itemsOf, hr]
  · simp only [srcOf, hr]
theorem l_lsteps {n : Nat} {f : Nat → Int} (hf : ∀ i, 1 ≤ f i ∧ f i ≤ 9) {x : D} {W : Option (Nat × List D)} (hW : ∀ E, Walk.stays W (S ++ E)) : ∀ (xs : List Int) (j : Nat) (a : Option D), (∀ i, i < xs.length → xs[i]? = some (f (j + i))) → j + xs.length ≤ 900 →
    ∃ a', forL W (fun x ρ S => (asgG (.nm 1) x ρ).bind fun ρ => exSs T (callF T n) b__law_steps.tl.hd.bd ρ S) (xs.map D.int) [some x, a, some (.ref S.length), some (.int (ptp f j).1), some (.int (stp f j).1), some (.tup [.int (ptp f j).2, .int (stp f j).2])] (S ++ [.lst (frL f j)]) =
      some (.nx [some x, a', some (.ref S.length), some (.int (ptp f (j + xs.length)).1), some (.int (stp f (j + xs.length)).1), some (.tup [.int (ptp f (j + xs.length)).2, .int (stp f (j + xs.length)).2])], S ++ [.lst (frL f (j + xs.length))])
  | [], j, a, _, _ => ⟨a, rfl⟩
  | t :: xs, j, a, h, hl => by
    have ht : t = f j := by simpa using h 0 (by simp)
    simp only [List.length_cons] at hl
    obtain ⟨a', e⟩ := l_lsteps (n := n) (x := x) hf hW xs (j + 1) (some (.int t)) (fun i hi => by
      have := h (i + 1) (by simp; omega)
      rw [List.getElem?_cons_succ] at this
      rw [this, show j + (i + 1) = j + 1 + i by omega]) (by omega)
    refine ⟨a', ?_⟩
    rw [List.map_cons, forL_cons_nx (w := W) (ρ1 := [some x, some (.int t), some (.ref S.length), some (.int (ptp f (j + 1)).1), some (.int (stp f (j + 1)).1), some (.tup [.int (ptp f (j + 1)).2, .int (stp f (j + 1)).2])]) (S1 := S ++ [.lst (frL f (j + 1))]) ?_ (hW _)]
    · rw [List.length_cons, show j + (xs.length + 1) = j + 1 + xs.length by omega]
      exact e
    · subst ht
      have hb := stp_sz hf j
      have hp := ptp_sz hf j
      have h4 : Sz 4 (f j) := sz9 (hf j)
      refine exSs_nx (ρ1 := [some x, some (.int (f j)), some (.ref S.length), some (.int (ptp f (j + 1)).1), some (.int (stp f (j + 1)).1), some (.tup [.int (ptp f (j + 1)).2, .int (stp f (j + 1)).2])]) (S1 := S ++ [.lst (frL f j)]) ?_ (exSs_nx (S1 := S ++ [.lst (frL f (j + 1))]) ?_ ss_nil)
      · exact s_asg (e_tup (e_cons (e_bin (e_bin (e_var rfl) (e_var rfl) (o_mul (mul_sz h4 hp.1 (by omega)))) (e_ix (e_var rfl) e_int (ix_tup rfl)) o_add) (e_cons (e_bin (e_bin (e_var rfl) (e_var rfl) (o_mul (mul_sz h4 hb.1 (by omega)))) (e_ix (e_var rfl) e_int (ix_tup rfl)) o_add) (e_cons (e_tup (e_cons (e_var rfl) (e_cons (e_var rfl) e_nil)) (len_i rfl)) e_nil))) (len_i rfl)) rfl
      · rw [frL_succ]
        refine s_app rfl (e_tup (e_cons (e_var rfl) (e_cons (e_var rfl) e_nil)) (len_i rfl)) ?_
        rw [frL_len]
        omega
theorem c_lsteps {n r k : Nat} {f : Nat → Int} (hf : ∀ i, 1 ≤ f i ∧ f i ≤ 9) {ts : List Int} (hr : S[r]? = some (.lst (ts.map D.int))) (hts : ∀ i, i < k → ts[i]? = some (f i)) (hl : ts.length = k) (hk : k ≤ 500) : callF T (n + 1) "_law_steps" [.ref r] S = some (.ref S.length, S ++ [.lst (frL f k)]) := by
  have hrl : r < S.length := (List.getElem?_eq_some_iff.mp hr).1
  obtain ⟨a', e⟩ := l_lsteps (S := S) (n := n) (x := .ref r) (W := some (r, ts.map D.int)) hf (fun E => by
    show (S ++ E)[r]? = _
    rw [List.getElem?_append_left hrl]
    exact hr) ts 0 none (fun i hi => by rw [Nat.zero_add]; exact hts i (by omega)) (by omega)
  rw [Nat.zero_add, hl] at e
  have x1 : exS T (callF T n) b__law_steps.hd [some (.ref r), none, none, none, none, none] S = some (.nx [some (.ref r), none, some (.ref S.length), some (.int 0), some (.int 1), some (.tup [.int 1, .int 0])], S ++ [.lst [frD f 0]]) :=
    s_asg (e_tup (e_cons (e_lst (e_cons (e_tup (e_cons e_int (e_cons e_int e_nil)) (len_i rfl)) e_nil) (by decide)) (e_cons e_int (e_cons e_int (e_cons (e_tup (e_cons e_int (e_cons e_int e_nil)) (len_i rfl)) e_nil)))) (len_i rfl)) rfl
  have hr2 : (S ++ [C.lst [frD f 0]])[r]? = some (.lst (ts.map D.int)) := by rw [List.getElem?_append_left hrl]; exact hr
  have x2 : exS T (callF T n) b__law_steps.tl.hd [some (.ref r), none, some (.ref S.length), some (.int 0), some (.int 1), some (.tup [.int 1, .int 0])] (S ++ [.lst [frD f 0]]) = some (.nx [some (.ref r), a', some (.ref S.length), some (.int (ptp f k).1), some (.int (stp f k).1), some (.tup [.int (ptp f k).2, .int (stp f k).2])], S ++ [.lst (frL f k)]) :=
    s_fr (it_exR (e_var rfl) hr2) e
  rw [callF_of f__law_steps rfl (exSs_nx x1 (exSs_nx x2 (exSs_rt (s_ret (e_var rfl))))), gc_new]
theorem is_tp {B : Nat} {v : Kd Q} (h : Rp Q B (tp v) v) : cpV .is (tp v) .non S = some false := by
  obtain ⟨a, b, c, d, e, _⟩ := h
  rw [e]
  rfl
noncomputable def em2 : Option (Kd Q) → D
  | none => .non
  | some v => tp v
noncomputable abbrev mE (u w : List Int) (bare : D) (best : Option (Kd Q)) (o4 o5 i a t sl ow k b p q : Option D) : En := [some (chn u w), some bare, some (.tup (w.map D.int)), some (em2 best), o4, o5, i, a, t, sl, ow, k, b, p, q]
theorem bs_parts {w : List Int} {s : Kd Q} (h : Rnd Q w s) : ∃ a b c : Int, tp s = sd a b c Q.d ∧ 0 < c ∧ b ≠ 0 ∧ vl Q a b c = s ∧ Sz 70 a ∧ Sz 70 b ∧ Sz 70 c := by
  obtain ⟨a, b, c, d, e, k1, k2, za, zb, zc, _⟩ := h.rp
  have p := k1.pos
  have hb0 : b ≠ 0 := by
    intro hb
    apply h.irr
    rw [← k2, cj_vl (by omega), hb]
    rfl
  have hd : d = Q.d := by rw [k1.rad, if_neg hb0]
  subst hd
  exact ⟨a, b, c, e, p, hb0, k2, za, zb, zc⟩
theorem l_lim1 {n m0 : Nat} {u w : List Int} {s : Kd Q} (h : Rnd Q w s) (hm : 1 ≤ m0) (hd : dsc w = (m0 : Int) * m0 * (Q.d : Int)) (hl : w.length ≤ 6) {o4 o5 k b p q : Option D} : ∀ (xs : List Int) (i : Nat) (best : Option (Kd Q)) (o6 a t sl ow : Option D), w.drop i = xs → i ≤ w.length → (∀ v, best = some v → Rp Q 500 (tp v) v) →
    ∃ (best' : Option (Kd Q)) (o6' a' t' sl' ow' : Option D), forL none (fun x ρ S => (asgG (.tp [.nm 6, .nm 7]) x ρ).bind fun ρ => exSs T (callF T (n + 4)) b__law_limit.tl.tl.hd.bd ρ S) (enumL i (xs.map D.int)) (mE u w (.tup [.int m0, .int (Q.d : Int)]) best o4 o5 o6 a t sl ow k b p q) S =
      some (.nx (mE u w (.tup [.int m0, .int (Q.d : Int)]) best' o4 o5 o6' a' t' sl' ow' k b p q), S) ∧ (∀ v, best' = some v → Rp Q 500 (tp v) v ∧ (best = some v ∨ ∃ j, j < w.length ∧ v = rvj u w s j)) ∧
      (∀ v, best = some v → ∃ v', best' = some v' ∧ v ≤ v') ∧ (∀ j, i ≤ j → j < w.length → ∃ v', best' = some v' ∧ rvj u w s j ≤ v')
  | [], i, best, o6, a, t, sl, ow, hx, hi, hb => by
    refine ⟨best, o6, a, t, sl, ow, rfl, fun v hv => ⟨hb v hv, .inl hv⟩, fun v hv => ⟨v, hv, by grind⟩, fun j h1 h2 => ?_⟩
    have := congrArg List.length hx
    simp at this
    omega
  | x :: xs, i, best, o6, a, t, sl, ow, hx, hi, hb => by
    have hiw : i < w.length := by
      have := congrArg List.length hx
      simp at this
      omega
    have hx0 : x = w[i] := by
      rw [List.drop_eq_getElem_cons hiw] at hx
      exact (List.cons.inj hx).1.symm
    have hxs : w.drop (i + 1) = xs := by
      rw [List.drop_eq_getElem_cons hiw] at hx
      exact (List.cons.inj hx).2
    have hxb := h.rw x (by rw [hx0]; exact List.getElem_mem _)
    have hbk := h.back i
    have hdb : dsc (rot w i).reverse = (m0 : Int) * m0 * (Q.d : Int) := by rw [dsc_rev, dsc_rot, hd]
    have hlb : (rot w i).reverse.length ≤ 6 := by rw [List.length_reverse, rot_len]; exact hl
    have e1 := c_round_slope (S := S) (n := n + 1) hbk hm hdb hlb
    obtain ⟨A, B, C, f1, f2, f3, f4, za, zb, zc⟩ := bs_parts hbk
    have zx : Sz 4 x := sz9 hxb
    have z2 : Sz 2 2 := Sz.lit (by decide)
    have ev : vl Q (A + (2 + x) * C) B C = rvj u w s i := by
      have hc := Kd.cne (Q := Q) (show C ≠ 0 by omega)
      have e : rvj u w s i = ((2 + x : Int) : Kd Q) + bs w s i := by
        unfold rvj bk
        rw [tm_round hiw, Nat.mod_eq_of_lt hiw, ← hx0]
      rw [e, ← f4]
      unfold vl
      simp only [Kd.cadd, Kd.cmul]
      grind
    obtain ⟨e2, k2⟩ := c_lsurd (S := S) (n := n + 2) (B := 80) (a := A + (2 + x) * C) (b := B) (c := C) f2 f3 (by omega) ((za.add ((z2.add zx).mul zc)).mono (by omega)) (zb.mono (by omega)) (zc.mono (by omega)) h.tld
    rw [ev] at e2 k2
    have k3 : Rp Q 500 (tp (rvj u w s i)) (rvj u w s i) := k2.mono (by omega)
    -- the turned round
    have y1 : exS T (callF T (n + 4)) b__law_limit.tl.tl.hd.bd.hd (mE u w (.tup [.int m0, .int (Q.d : Int)]) best o4 o5 (some (.int (i : Nat))) (some (.int x)) t sl ow k b p q) S =
        some (.nx (mE u w (.tup [.int m0, .int (Q.d : Int)]) best o4 o5 (some (.int (i : Nat))) (some (.int x)) (some (.tup ((rot w i).reverse.map D.int))) sl ow k b p q), S) := by
      have q1 := e_from (S0 := S) (T := T) (cf := callF T (n + 4)) (ρ := mE u w (.tup [.int m0, .int (Q.d : Int)]) best o4 o5 (some (.int (i : Nat))) (some (.int x)) t sl ow k b p q) (a := .var 2) (b := .var 6) (xs := w.map D.int) (i := i) (e_var rfl) (e_var rfl) (by simpa using hi)
      have q2 := e_to (S0 := S) (T := T) (cf := callF T (n + 4)) (ρ := mE u w (.tup [.int m0, .int (Q.d : Int)]) best o4 o5 (some (.int (i : Nat))) (some (.int x)) t sl ow k b p q) (a := .var 2) (b := .var 6) (xs := w.map D.int) (i := i) (e_var rfl) (e_var rfl) (by simpa using hi)
      have q3 := e_bin q1 q2 (o_addT (by simp; omega))
      rw [← List.map_drop, ← List.map_take, ← List.map_append] at q3
      refine s_asg (e_biA (E := [.lst ((rot w i).map D.int)]) (e_cons (e_biN (c := .lst ((rot w i).map D.int)) (e_cons q3 e_nil) ?_) e_nil) ?_ (ints_bel _ _)) rfl
      · simp only [biV, Mn.itemsOf, Option.map_some]
      · simp only [biV, Mn.listOf, get_new, Option.map_some]
        rw [List.map_reverse]
    have y2 : exS T (callF T (n + 4)) b__law_limit.tl.tl.hd.bd.tl.hd (mE u w (.tup [.int m0, .int (Q.d : Int)]) best o4 o5 (some (.int (i : Nat))) (some (.int x)) (some (.tup ((rot w i).reverse.map D.int))) sl ow k b p q) S =
        some (.nx (mE u w (.tup [.int m0, .int (Q.d : Int)]) best o4 o5 (some (.int (i : Nat))) (some (.int x)) (some (.tup ((rot w i).reverse.map D.int))) (some (sd A B C Q.d)) ow k b p q), S) := by
      rw [← f1]
      exact s_asg (e_call (e_cons (e_var rfl) (e_cons (e_var rfl) e_nil)) e1) rfl
    have y3 : exS T (callF T (n + 4)) b__law_limit.tl.tl.hd.bd.tl.tl.hd (mE u w (.tup [.int m0, .int (Q.d : Int)]) best o4 o5 (some (.int (i : Nat))) (some (.int x)) (some (.tup ((rot w i).reverse.map D.int))) (some (sd A B C Q.d)) ow k b p q) S =
        some (.nx (mE u w (.tup [.int m0, .int (Q.d : Int)]) best o4 o5 (some (.int (i : Nat))) (some (.int x)) (some (.tup ((rot w i).reverse.map D.int))) (some (sd A B C Q.d)) (some (tp (rvj u w s i))) k b p q), S) :=
      s_asg (e_call (e_cons (e_bin (e_ix (e_var rfl) e_int (ix_tup rfl)) (e_bin (e_bin e_int (e_var rfl) o_add) (e_ix (e_var rfl) e_int (ix_tup rfl)) (o_mul (mul_sz (z2.add zx) zc (by omega)))) o_add) (e_cons (e_ix (e_var rfl) e_int (ix_tup rfl)) (e_cons (e_ix (e_var rfl) e_int (ix_tup rfl)) (e_cons (e_ix (e_var rfl) e_int (ix_tup rfl)) e_nil)))) e2) rfl
    have y4 : ∃ best1, exS T (callF T (n + 4)) b__law_limit.tl.tl.hd.bd.tl.tl.tl.hd (mE u w (.tup [.int m0, .int (Q.d : Int)]) best o4 o5 (some (.int (i : Nat))) (some (.int x)) (some (.tup ((rot w i).reverse.map D.int))) (some (sd A B C Q.d)) (some (tp (rvj u w s i))) k b p q) S =
        some (.nx (mE u w (.tup [.int m0, .int (Q.d : Int)]) (some best1) o4 o5 (some (.int (i : Nat))) (some (.int x)) (some (.tup ((rot w i).reverse.map D.int))) (some (sd A B C Q.d)) (some (tp (rvj u w s i))) k b p q), S) ∧ Rp Q 500 (tp best1) best1 ∧ (best = some best1 ∨ best1 = rvj u w s i) ∧ rvj u w s i ≤ best1 ∧ (∀ v, best = some v → v ≤ best1) := by
      cases best with
      | none => exact ⟨rvj u w s i, s_if_t (t_of (e_or_t (e_cmp (e_var rfl) e_non rfl))) (exSs_nx (s_asg (e_var rfl) rfl) (ss_nl rfl)), k3, .inr rfl, by grind, fun v hv => by simp at hv⟩
      | some v0 =>
        have k0 := hb v0 rfl
        obtain ⟨kk, g1, g2⟩ := c_is_more (S := S) (n := n + 3) k3 k0 (by omega)
        cases kk with
        | true =>
          have := g2.mp rfl
          exact ⟨rvj u w s i, s_if_t (t_of (e_or_f (e_cmp (e_var rfl) e_non (is_tp k0)) (e_or1 (e_call (e_cons (e_var rfl) (e_cons (e_var rfl) e_nil)) g1)))) (exSs_nx (s_asg (e_var rfl) rfl) (ss_nl rfl)), k3, .inr rfl, by grind, fun v hv => by
            have := Option.some.inj hv
            grind⟩
        | false =>
          have : ¬ v0 < rvj u w s i := fun h => Bool.false_ne_true (g2.mpr h)
          exact ⟨v0, s_if_f (t_of (e_or_f (e_cmp (e_var rfl) e_non (is_tp k0)) (e_or1 (e_call (e_cons (e_var rfl) (e_cons (e_var rfl) e_nil)) g1)))) ss_nil, k0, .inl rfl, by grind, fun v hv => by
            have := Option.some.inj hv
            grind⟩
    obtain ⟨best1, y4, b1, b2, b3, b4⟩ := y4
    obtain ⟨best', o6', a', t', sl', ow', g1, g2, g3, g4⟩ := l_lim1 (n := n) (u := u) h hm hd hl (o4 := o4) (o5 := o5) (k := k) (b := b) (p := p) (q := q) xs (i + 1) (some best1) (some (.int (i : Nat))) (some (.int x)) (some (.tup ((rot w i).reverse.map D.int))) (some (sd A B C Q.d)) (some (tp (rvj u w s i))) hxs (by omega) (fun v hv => by rw [← Option.some.inj hv]; exact b1)
    refine ⟨best', o6', a', t', sl', ow', ?_, ?_, ?_, ?_⟩
    · rw [List.map_cons, enumL_cons, forL_cons_nx (w := none) (ρ1 := mE u w (.tup [.int m0, .int (Q.d : Int)]) (some best1) o4 o5 (some (.int (i : Nat))) (some (.int x)) (some (.tup ((rot w i).reverse.map D.int))) (some (sd A B C Q.d)) (some (tp (rvj u w s i))) k b p q) (S1 := S) (exSs_nx y1 (exSs_nx y2 (exSs_nx y3 (exSs_nx y4 ss_nil)))) trivial]
      exact g1
    · intro v hv
      obtain ⟨r1, r2⟩ := g2 v hv
      refine ⟨r1, ?_⟩
      rcases r2 with r2 | r2
      · have e := Option.some.inj r2
        rcases b2 with b2 | b2
        · exact .inl (by rw [b2, e])
        · exact .inr ⟨i, hiw, by rw [← e, b2]⟩
      · exact .inr r2
    · intro v hv
      obtain ⟨v', r1, r2⟩ := g3 best1 rfl
      have := b4 v hv
      exact ⟨v', r1, by grind⟩
    · intro j h1 h2
      rcases Nat.lt_or_eq_of_le h1 with h3 | h3
      · exact g4 j h3 h2
      · subst h3
        obtain ⟨v', r1, r2⟩ := g3 best1 rfl
        exact ⟨v', r1, by grind⟩
theorem lo_pw {P q : Int} (hq : 0 < q) {B : Nat} (hB : B ≤ 8000) (zP : Sz B P) (zq : Sz B q) (hQ : Tld Q) : ∃ x y : Int, lo P q = .tup [.int x, .int y] ∧ Rp Q B (sd x 0 y 0) (vl Q P 0 q) := by
  have h := low_ok (Q := Q) (a := P) (b := 0) (c := q) (d := 0) hq (.inl rfl)
  have e : Int.gcd (Int.gcd P 0) q = Int.gcd P q := by unfold Int.gcd; simp
  rw [e] at h
  obtain ⟨h1, h2, h3, h4, h5⟩ := h
  rw [if_neg (by simp), Int.zero_ediv] at h1
  rw [Int.zero_ediv] at h2
  refine ⟨_, _, rfl, _, _, _, _, rfl, h1, h2, zP.le h3, Sz.lit (by rw [Int.natAbs_zero]; exact Nat.pow_pos (by decide)), zq.le h5, hQ.2⟩
theorem l_lim2 {n r1 r2 : Nat} {u w : List Int} {bare : D} (hu : Rw u) (hw : Rw w) (h0 : w ≠ []) (hQ : Tld Q) {o6 t sl ow : Option D} (hr2 : S[r2]? = some (.lst (frL (tm u w) 90))) {W : Option (Nat × List D)} (hW : Walk.stays W S) : ∀ (xs : List Int) (j : Nat) (best : Kd Q) (a k b p q : Option D), (∀ i, i < xs.length → xs[i]? = some (tm u w (j + i))) → j + xs.length ≤ 90 → Rp Q 500 (tp best) best →
    ∃ (best' : Kd Q) (a' k' b' p' q' : Option D), forL W (fun x ρ S => (asgG (.tp [.nm 11, .nm 7]) x ρ).bind fun ρ => exSs T (callF T (n + 4)) b__law_limit.tl.tl.tl.tl.tl.hd.bd ρ S) (enumL j (xs.map D.int)) (mE u w bare (some best) (some (.ref r1)) (some (.ref r2)) o6 a t sl ow k b p q) S =
      some (.nx (mE u w bare (some best') (some (.ref r1)) (some (.ref r2)) o6 a' t sl ow k' b' p' q'), S) ∧ Rp Q 500 (tp best') best' ∧ (best' = best ∨ ∃ i, best' = pk Q u w i) ∧ best ≤ best' ∧ (∀ i, j ≤ i → i < j + xs.length → pk Q u w i ≤ best')
  | [], j, best, a, k, b, p, q, _, _, hb => ⟨best, a, k, b, p, q, rfl, hb, .inl rfl, by grind, fun i h1 h2 => by simp at h2; omega⟩
  | x :: xs, j, best, a, k, b, p, q, h, hl, hb => by
    have hx : x = tm u w j := by simpa using h 0 (by simp)
    simp only [List.length_cons] at hl
    have hbd := tm_bd hu hw h0
    have hz := stp_sz hbd j
    have hp1 := (stp_bd hbd j).1
    have zx : Sz 4 x := by rw [hx]; exact sz9 (hbd j)
    have z2 : Sz 2 2 := Sz.lit (by decide)
    have zP : Sz 500 ((2 + x) * (stp (tm u w) j).1 + (stp (tm u w) j).2 - 2) := ((((z2.add zx).mul hz.1).add hz.2).sub z2).mono (by omega)
    obtain ⟨X, Y, e1, e2⟩ := lo_pw (Q := Q) (P := (2 + x) * (stp (tm u w) j).1 + (stp (tm u w) j).2 - 2) (q := (stp (tm u w) j).1) (by omega) (by omega) zP (hz.1.mono (by omega)) hQ
    have ev : vl Q ((2 + x) * (stp (tm u w) j).1 + (stp (tm u w) j).2 - 2) 0 (stp (tm u w) j).1 = pk Q u w j := by
      unfold pk
      rw [← hx, ← pw_vl (by omega)]
      congr 1
      omega
    rw [ev] at e2
    have e3 : sd X 0 Y 0 = tp (pk Q u w j) := e2.tp
    have e4 := c_low (S := S) (n := n + 2) (p := (2 + x) * (stp (tm u w) j).1 + (stp (tm u w) j).2 - 2) (q := (stp (tm u w) j).1) (by omega) (hz.1.mono (by omega))
    rw [e1] at e4
    have k3 : Rp Q 500 (tp (pk Q u w j)) (pk Q u w j) := by rw [← e3]; exact e2
    have hat : ∀ {i : Nat}, i ≤ 90 → ixV (.ref r2) (.int (i : Int)) S = some (frD (tm u w) i, S) := fun {i} hi => ix_ref hr2 (frL_at hi)
    have y1 : exS T (callF T (n + 4)) b__law_limit.tl.tl.tl.tl.tl.hd.bd.hd (mE u w bare (some best) (some (.ref r1)) (some (.ref r2)) o6 (some (.int x)) t sl ow (some (.int (j : Nat))) b p q) S =
        some (.nx (mE u w bare (some best) (some (.ref r1)) (some (.ref r2)) o6 (some (.int x)) t sl ow (some (.int (j : Nat))) (some (.int (stp (tm u w) j).2)) p q), S) := by
      refine s_asg (d := .int (stp (tm u w) j).2) ?_ rfl
      rcases Nat.eq_zero_or_pos j with hj | hj
      · rw [hj]
        exact e_ite_f (e_cmp (e_var rfl) e_int (c_gt_f (by omega))) e_int
      · obtain ⟨j', hj'⟩ : ∃ j', j = j' + 1 := ⟨j - 1, by omega⟩
        have q1 : evE T (callF T (n + 4)) (.ix (.var 5) (.bin .sub (.var 11) (.int 1))) (mE u w bare (some best) (some (.ref r1)) (some (.ref r2)) o6 (some (.int x)) t sl ow (some (.int (j : Nat))) b p q) S = some (frD (tm u w) j', S) := by
          refine e_ix (e_var rfl) (e_bin (e_var rfl) e_int o_sub) ?_
          rw [show ((j : Nat) : Int) - 1 = (j' : Int) by omega]
          exact hat (by omega)
        have q2 : L2.atI [D.int (ptp (tm u w) j').1, .int (stp (tm u w) j').1] 1 = some (.int (stp (tm u w) j).2) := by rw [hj']; rfl
        exact e_ite_t (e_cmp (e_var rfl) e_int (c_gt_t (by omega))) (e_ix q1 e_int (ix_tup q2))
    have y2 : exS T (callF T (n + 4)) b__law_limit.tl.tl.tl.tl.tl.hd.bd.tl.hd (mE u w bare (some best) (some (.ref r1)) (some (.ref r2)) o6 (some (.int x)) t sl ow (some (.int (j : Nat))) (some (.int (stp (tm u w) j).2)) p q) S =
        some (.nx (mE u w bare (some best) (some (.ref r1)) (some (.ref r2)) o6 (some (.int x)) t sl ow (some (.int (j : Nat))) (some (.int (stp (tm u w) j).2)) (some (.int X)) (some (.int Y))), S) :=
      s_asg (e_call (e_cons (e_bin (e_bin (e_bin (e_bin e_int (e_var rfl) o_add) (e_ix (e_ix (e_var rfl) (e_var rfl) (hat (by omega))) e_int (ix_tup rfl)) (o_mul (mul_sz (z2.add zx) hz.1 (by omega)))) (e_var rfl) o_add) e_int o_sub) (e_cons (e_ix (e_ix (e_var rfl) (e_var rfl) (hat (by omega))) e_int (ix_tup rfl)) e_nil)) e4) rfl
    obtain ⟨kk, g1, g2⟩ := c_is_more (S := S) (n := n + 3) k3 hb (by omega)
    have hcall : evE T (callF T (n + 4)) (.call "_law_is_more" (.cons (.tup (.cons (.var 13) (.cons (.int 0) (.cons (.var 14) (.cons (.int 0) .nil))))) (.cons (.var 3) .nil))) (mE u w bare (some best) (some (.ref r1)) (some (.ref r2)) o6 (some (.int x)) t sl ow (some (.int (j : Nat))) (some (.int (stp (tm u w) j).2)) (some (.int X)) (some (.int Y))) S = some (.bl kk, S) := by
      rw [← e3] at g1
      exact e_call (e_cons (e_tup (e_cons (e_var rfl) (e_cons e_int (e_cons (e_var rfl) (e_cons e_int e_nil)))) (len_i rfl)) (e_cons (e_var rfl) e_nil)) g1
    have y3 : ∃ best1, exS T (callF T (n + 4)) b__law_limit.tl.tl.tl.tl.tl.hd.bd.tl.tl.hd (mE u w bare (some best) (some (.ref r1)) (some (.ref r2)) o6 (some (.int x)) t sl ow (some (.int (j : Nat))) (some (.int (stp (tm u w) j).2)) (some (.int X)) (some (.int Y))) S =
        some (.nx (mE u w bare (some best1) (some (.ref r1)) (some (.ref r2)) o6 (some (.int x)) t sl ow (some (.int (j : Nat))) (some (.int (stp (tm u w) j).2)) (some (.int X)) (some (.int Y))), S) ∧ Rp Q 500 (tp best1) best1 ∧ (best1 = best ∨ best1 = pk Q u w j) ∧ best ≤ best1 ∧ pk Q u w j ≤ best1 := by
      cases kk with
      | true =>
        have := g2.mp rfl
        refine ⟨pk Q u w j, s_if_t (t_of hcall) (exSs_nx (s_asg (e_tup (e_cons (e_var rfl) (e_cons e_int (e_cons (e_var rfl) (e_cons e_int e_nil)))) (len_i rfl)) rfl) (ss_nl ?_)), k3, .inr rfl, by grind, by grind⟩
        show _ = [_, _, _, some (tp (pk Q u w j)), _, _, _, _, _, _, _, _, _, _, _]
        rw [← e3]
        rfl
      | false =>
        have : ¬ best < pk Q u w j := fun h => Bool.false_ne_true (g2.mpr h)
        exact ⟨best, s_if_f (t_of hcall) ss_nil, hb, .inl rfl, by grind, by grind⟩
    obtain ⟨best1, y3, b1, b2, b3, b4⟩ := y3
    obtain ⟨best', a', k', b', p', q', g1, g2, g3, g4, g5⟩ := l_lim2 (n := n) (r1 := r1) (r2 := r2) (bare := bare) hu hw h0 hQ (o6 := o6) (t := t) (sl := sl) (ow := ow) hr2 hW xs (j + 1) best1 (some (.int x)) (some (.int (j : Nat))) (some (.int (stp (tm u w) j).2)) (some (.int X)) (some (.int Y)) (fun i hi => by
      have := h (i + 1) (by simp; omega)
      rw [List.getElem?_cons_succ] at this
      rw [this, show j + (i + 1) = j + 1 + i by omega]) (by omega) b1
    refine ⟨best', a', k', b', p', q', ?_, g2, ?_, by grind, ?_⟩
    · rw [List.map_cons, enumL_cons, forL_cons_nx (w := W) (ρ1 := mE u w bare (some best1) (some (.ref r1)) (some (.ref r2)) o6 (some (.int x)) t sl ow (some (.int (j : Nat))) (some (.int (stp (tm u w) j).2)) (some (.int X)) (some (.int Y))) (S1 := S) (exSs_nx y1 (exSs_nx y2 (exSs_nx y3 ss_nil))) hW]
      exact g1
    · rcases g3 with g3 | g3
      · rw [g3]
        rcases b2 with b2 | b2
        · exact .inl b2
        · exact .inr ⟨j, b2⟩
      · exact .inr g3
    · intro i h1 h2
      simp only [List.length_cons] at h2
      rcases Nat.lt_or_eq_of_le h1 with h3 | h3
      · exact g5 i h3 (by omega)
      · subst h3
        grind
end L81
end

section
set_option maxHeartbeats 1000000
namespace L81
open PySem Mn
variable {S : So} {Q : NSq}
local macro_rules
  | `(tactic| keq_rows) => `(tactic| (repeat' (first
      | with_reducible exact e_int | with_reducible exact e_bl | with_reducible exact e_non | with_reducible exact e_str | with_reducible exact e_nil | with_reducible exact s_pass | with_reducible exact eo_none | with_reducible exact o_add | with_reducible exact o_sub | with_reducible exact c_eq | with_reducible exact c_lt | with_reducible exact c_le | with_reducible exact c_gt | with_reducible exact c_ge | with_reducible exact c_ne
      | ((with_reducible refine' ss_nl ?mnh); (case mnh => exact rfl)) | ((with_reducible refine' e_var ?mnh); (case mnh => exact rfl)) | ((with_reducible refine' asg_i ?mnh); (case mnh => exact rfl)) | ((with_reducible refine' at_i ?mnh); (case mnh => exact rfl)) | ((with_reducible refine' ty_i ?mnh); (case mnh => exact rfl)) | ((with_reducible refine' mv_i ?mnh); (case mnh => exact rfl)) | ((with_reducible refine' bi_i ?mnh); (case mnh => exact rfl)) | ((with_reducible refine' e_glob ?mnh); (case mnh => kernel_rfl)) | (with_reducible exact div_lit (by decide)) | ((with_reducible refine' len_i ?mnh); (case mnh => exact rfl))
      | with_reducible refine' exSs_rt (s_ret ?_) | with_reducible refine' exSs_nx (s_asg ?_ ?_) ?_ | with_reducible refine' exSs_nx (s_ex ?_) ?_ | with_reducible refine' exSs_nx (s_put ?_ ?_ ?_ ?_) ?_ | with_reducible refine' t_of ?_ | with_reducible refine' e_bin ?_ ?_ ?_ | with_reducible refine' e_neg ?_ | with_reducible refine' e_cons ?_ ?_ | with_reducible refine' e_tup ?_ ?_ | with_reducible refine' e_lst ?_ ?_ | with_reducible refine' e_ix ?_ ?_ ?_ | with_reducible refine' e_cmp ?_ ?_ ?_ | with_reducible refine' e_not ?_ | with_reducible refine' e_call ?_ ?_ | with_reducible refine' e_bi ?_ ?_ | with_reducible refine' e_me ?_ ?_ ?_ ?_ | with_reducible refine' eo_some ?_ | with_reducible refine' e_sl ?_ ?_ ?_ ?_ | with_reducible refine' e_rev ?_ ?_ | with_reducible refine' ix_tup ?_
      | (with_reducible refine' e_callk ?_ ?_ (by kernel_rfl) rfl ?_)
      | keq_hits
      | with_reducible refine' o_mul ?_ | with_reducible refine' o_fdiv ?_ | with_reducible refine' o_mod ?_)))
  | `(tactic| kas_types) => `(tactic| (repeat' (first
      | exact Sz.id (by assumption) | exact Sz.lit (n := 16) (by decide) | with_reducible refine' Sz.mul ?_ ?_ | with_reducible refine' Sz.add ?_ ?_ | with_reducible refine' Sz.sub ?_ ?_ | with_reducible refine' Sz.neg ?_ | with_reducible refine' Sz.div ?_)))
  | `(tactic| lcg_sub) => `(tactic| ((refine' mul_sz ?mza ?mzb ?mzc); (case mza => kas_types); (case mzb => kas_types); (case mzc => omega)))
theorem enumL_at0 (xs : List D) : enumL 0 xs = enumL 0 xs := rfl
theorem c_llimit {n m0 : Nat} {u w : List Int} {s : Kd Q} (hu : Rw u) (h : Rnd Q w s) (hul : u.length ≤ 8) (hm : 1 ≤ m0) (hd : dsc w = (m0 : Int) * m0 * (Q.d : Int)) (hl : w.length ≤ 6) :
    ∃ m : Kd Q, callF T (n + 5) "_law_limit" [chn u w, .tup [.int m0, .int (Q.d : Int)]] S = some (tp m, S) ∧ Rp Q 500 (tp m) m ∧ Lim Q u w s m := by
  obtain ⟨best, i1, a1, t1, sl1, ow1, f1, f2, f3, f4⟩ := l_lim1 (S := S) (n := n) (u := u) h hm hd hl (o4 := none) (o5 := none) (k := none) (b := none) (p := none) (q := none) w 0 none none none none none none (by simp) (by omega) (fun v hv => by simp at hv)
  have hl0 : 0 < w.length := List.length_pos_iff.mpr h.ne
  obtain ⟨m1, rfl, _⟩ := f4 0 (by omega) hl0
  obtain ⟨k1, k2⟩ := f2 m1 rfl
  have k2' : ∃ j, j < w.length ∧ m1 = rvj u w s j := by
    rcases k2 with k2 | k2
    · simp at k2
    · exact k2
  have hbd := tm_bd hu h.rw h.ne
  have e1 := c_lterms (S := S) (n := n + 3) (u := u) (k := 90) h.ne (by omega) (by omega) (by omega)
  have hr : (S ++ [C.lst ((tmL u w 90).map D.int)])[S.length]? = some (.lst ((tmL u w 90).map D.int)) := get_new
  have e2 := c_lsteps (S := S ++ [C.lst ((tmL u w 90).map D.int)]) (n := n + 3) (k := 90) (f := tm u w) hbd hr (fun i hi => tmL_at hi) (by simp) (by omega)
  have hl1 : (S ++ [C.lst ((tmL u w 90).map D.int)]).length = S.length + 1 := by simp
  rw [hl1] at e2
  generalize hS2 : S ++ [C.lst ((tmL u w 90).map D.int)] ++ [.lst (frL (tm u w) 90)] = S2 at *
  have hr1 : S2[S.length]? = some (.lst ((tmL u w 90).map D.int)) := by rw [← hS2]; simp
  have hr2 : S2[S.length + 1]? = some (.lst (frL (tm u w) 90)) := by
    rw [← hS2, ← hl1]
    exact get_new
  obtain ⟨m2, a2, k2v, b2, p2, q2, g1, g2, g3, g4, g5⟩ := l_lim2 (S := S2) (n := n) (r1 := S.length) (r2 := S.length + 1) (bare := .tup [.int m0, .int (Q.d : Int)]) hu h.rw h.ne h.tld (o6 := i1) (t := t1) (sl := sl1) (ow := ow1) hr2 (W := some (S.length, (tmL u w 90).map D.int)) hr1 (tmL u w 90) 0 m1 a1 none none none none (fun i hi => by
    rw [tmL_at (by simpa using hi), Nat.zero_add]) (by simp) k1
  refine ⟨m2, ?_, g2, ?_⟩
  · have x1 : exS T (callF T (n + 4)) b__law_limit.hd [some (chn u w), some (.tup [.int m0, .int (Q.d : Int)]), none, none, none, none, none, none, none, none, none, none, none, none, none] S = some (.nx [some (chn u w), some (.tup [.int m0, .int (Q.d : Int)]), some (.tup (w.map D.int)), none, none, none, none, none, none, none, none, none, none, none, none], S) :=
      s_asg (e_ix (e_var rfl) e_int (ix_tup rfl)) rfl
    have x2 : exS T (callF T (n + 4)) b__law_limit.tl.hd [some (chn u w), some (.tup [.int m0, .int (Q.d : Int)]), some (.tup (w.map D.int)), none, none, none, none, none, none, none, none, none, none, none, none] S = some (.nx (mE (Q := Q) u w (.tup [.int m0, .int (Q.d : Int)]) none none none none none none none none none none none none), S) :=
      s_asg e_non rfl
    have x3 : exS T (callF T (n + 4)) b__law_limit.tl.tl.hd (mE (Q := Q) u w (.tup [.int m0, .int (Q.d : Int)]) none none none none none none none none none none none none) S = some (.nx (mE u w (.tup [.int m0, .int (Q.d : Int)]) (some m1) none none i1 a1 t1 sl1 ow1 none none none none), S) :=
      s_fr (it_enumT (e_var rfl)) f1
    have x4 : exS T (callF T (n + 4)) b__law_limit.tl.tl.tl.hd (mE u w (.tup [.int m0, .int (Q.d : Int)]) (some m1) none none i1 a1 t1 sl1 ow1 none none none none) S = some (.nx (mE u w (.tup [.int m0, .int (Q.d : Int)]) (some m1) (some (.ref S.length)) none i1 a1 t1 sl1 ow1 none none none none), S ++ [C.lst ((tmL u w 90).map D.int)]) :=
      s_asg (e_call (e_cons (e_var rfl) (e_cons e_int e_nil)) e1) rfl
    have x5 : exS T (callF T (n + 4)) b__law_limit.tl.tl.tl.tl.hd (mE u w (.tup [.int m0, .int (Q.d : Int)]) (some m1) (some (.ref S.length)) none i1 a1 t1 sl1 ow1 none none none none) (S ++ [C.lst ((tmL u w 90).map D.int)]) = some (.nx (mE u w (.tup [.int m0, .int (Q.d : Int)]) (some m1) (some (.ref S.length)) (some (.ref (S.length + 1))) i1 a1 t1 sl1 ow1 none none none none), S2) :=
      s_asg (e_call (e_cons (e_var rfl) e_nil) e2) rfl
    have x6 : exS T (callF T (n + 4)) b__law_limit.tl.tl.tl.tl.tl.hd (mE u w (.tup [.int m0, .int (Q.d : Int)]) (some m1) (some (.ref S.length)) (some (.ref (S.length + 1))) i1 a1 t1 sl1 ow1 none none none none) S2 = some (.nx (mE u w (.tup [.int m0, .int (Q.d : Int)]) (some m2) (some (.ref S.length)) (some (.ref (S.length + 1))) i1 a2 t1 sl1 ow1 k2v b2 p2 q2), S2) :=
      s_fr (it_enumR (e_var rfl) hr1) g1
    have e9 := callF_of (n := n + 4) (S := S) (ds := [chn u w, .tup [.int m0, .int (Q.d : Int)]]) f__law_limit rfl (exSs_nx x1 (exSs_nx x2 (exSs_nx x3 (exSs_nx x4 (exSs_nx x5 (exSs_nx x6 (exSs_rt (s_ret (e_var rfl)))))))))
    rw [e9, ← hS2, List.append_assoc]
    show some (gc S (tp m2) _) = _
    rw [gc_app (g2.bel 0)]
  · refine Lim.of hu h (fun k hk => g5 k (by omega) (by simp; omega)) (fun j hj => ?_) (fun j hj => ?_) ?_
    · have hj8 : j < 8 * u.length := by
        rcases Nat.lt_or_ge j (8 * u.length) with h1 | h1
        · exact h1
        · have := (off_stop hu h j h1).1
          grind
      exact g5 _ (by omega) (by simp; omega)
    · obtain ⟨v', r1, r2⟩ := f4 j (by omega) hj
      have := Option.some.inj r1
      grind
    · rcases g3 with g3 | ⟨i, g3⟩
      · right
        obtain ⟨j, hj, e⟩ := k2'
        exact ⟨j, hj, by rw [g3, e]⟩
      · exact .inl ⟨i, g3⟩
structure Bs where
  A : List Int
  I : List Int
  d : Int
  m : Int
def Bs.so (σ : Bs) (R : So) : So := .lst (σ.A.map D.int) :: .lst (σ.I.map D.int) :: .lst [.ref 1, .int σ.d, .int σ.m] :: R
structure Bs.Ok (σ : Bs) : Prop where
  i : ∀ c ∈ σ.I, 0 ≤ c ∧ c < (10 ^ 57) ^ 7
  l : σ.I.length ≤ 63
  d0 : 0 ≤ σ.d
  d1 : σ.d < (10 ^ 57) ^ 7
  m0 : 0 ≤ σ.m
  m1 : σ.m < 2147483647
abbrev Pl (R : So) : Prop := soBelow 0 R = true
mutual
theorem bel_mono : ∀ {x : D} {n k : Nat}, n ≤ k → x.bel n = true → x.bel k = true
  | .non, _, _, _, _ => rfl
  | .bl _, _, _, _, _ => rfl
  | .int _, _, _, _, _ => rfl
  | .str _, _, _, _, _ => rfl
  | .ref j, n, k, h, h2 => by
    simp only [D.bel, decide_eq_true_iff] at h2 ⊢
    omega
  | .tup xs, n, k, h, h2 => by
    simp only [D.bel] at h2 ⊢
    exact belows_mono h h2
  | .frl xs, n, k, h, h2 => by
    simp only [D.bel] at h2 ⊢
    exact belows_mono h h2
theorem belows_mono : ∀ {xs : List D} {n k : Nat}, n ≤ k → belows n xs = true → belows k xs = true
  | [], _, _, _, _ => rfl
  | x :: xs, n, k, h, h2 => by
    simp only [belows, Bool.and_eq_true] at h2 ⊢
    exact ⟨bel_mono h h2.1, belows_mono h h2.2⟩
end
theorem kv_mono {κ : Type} : ∀ {xs : List (κ × D)} {n k : Nat}, n ≤ k → kvBelows n xs = true → kvBelows k xs = true
  | [], _, _, _, _ => rfl
  | (q, x) :: xs, n, k, h, h2 => by
    simp only [kvBelows, Bool.and_eq_true] at h2 ⊢
    exact ⟨bel_mono h h2.1, kv_mono h h2.2⟩
theorem cbel_mono {c : C} {n k : Nat} (h : n ≤ k) (h2 : c.bel n = true) : c.bel k = true := by
  cases c with
  | lst xs => exact belows_mono h h2
  | dT kvs => exact kv_mono h h2
  | dK kvs => exact kv_mono h h2
theorem so_mono : ∀ {S : So} {n k : Nat}, n ≤ k → soBelow n S = true → soBelow k S = true
  | [], _, _, _, _ => rfl
  | c :: S, n, k, h, h2 => by
    simp only [soBelow, Bool.and_eq_true] at h2 ⊢
    exact ⟨cbel_mono h h2.1, so_mono h h2.2⟩
theorem Pl.app : ∀ {R E : So}, Pl R → Pl E → Pl (R ++ E)
  | [], _, _, h => h
  | c :: R, E, h, h2 => by
    unfold Pl at *
    simp only [List.cons_append, soBelow, Bool.and_eq_true] at h ⊢
    exact ⟨h.1, Pl.app h.2 h2⟩
theorem Pl.one {xs : List D} (h : belows 0 xs = true) : Pl [.lst xs] := by
  show (belows 0 xs && true) = true
  rw [h]
  rfl
theorem Pl.ints (xs : List Int) : Pl [.lst (xs.map D.int)] := Pl.one (ints_bel 0 xs)
variable {σ σ' : Bs} {R E : So}
theorem Bs.len : (σ.so R).length = R.length + 3 := rfl
theorem Bs.app : σ.so R ++ E = σ.so (R ++ E) := rfl
theorem Bs.get {k : Nat} : (σ.so R)[k + 3]? = R[k]? := rfl
theorem Bs.get0 : (σ.so R)[0]? = some (.lst (σ.A.map D.int)) := rfl
theorem Bs.get1 : (σ.so R)[1]? = some (.lst (σ.I.map D.int)) := rfl
theorem Bs.get2 : (σ.so R)[2]? = some (.lst [.ref 1, .int σ.d, .int σ.m]) := rfl
theorem Bs.newG {c : C} : (σ.so (R ++ [c]))[R.length + 3]? = some c := by
  rw [Bs.get]
  simp
theorem Bs.bel (hR : Pl R) : soBelow (R.length + 3) (σ.so R) = true := by
  show (C.bel _ _ && (C.bel _ _ && (C.bel _ _ && soBelow _ R))) = true
  rw [so_mono (Nat.zero_le _) hR]
  have h1 : ∀ xs : List Int, C.bel (R.length + 3) (.lst (xs.map D.int)) = true := fun xs => ints_bel _ xs
  rw [h1, h1]
  have h2 : C.bel (R.length + 3) (.lst [.ref 1, .int σ.d, .int σ.m]) = true := by
    show (decide (1 < R.length + 3) && _) = true
    rw [decide_eq_true (by omega)]
    rfl
  rw [h2]
  rfl
theorem gc_bag {d : D} (hb : d.bel 0 = true) (hR : Pl R) : gc (σ.so R) d (σ'.so (R ++ E)) = (d, σ'.so R) := by
  rw [← Bs.app]
  exact gc_mut hb rfl (Bs.bel hR)
theorem gc_bag0 {d : D} (hb : d.bel 0 = true) (hR : Pl R) : gc (σ.so R) d (σ'.so R) = (d, σ'.so R) := by
  have := gc_bag (σ := σ) (σ' := σ') (E := []) hb hR
  rw [List.append_nil] at this
  exact this
theorem gc_bagC {c : C} {E2 : So} (hc : c.bel 0 = true) (hR : Pl R) : gc (σ.so R) (.ref (R.length + 3 + E.length)) (σ'.so (R ++ E ++ c :: E2)) = (.ref (R.length + 3), σ'.so (R ++ [c])) := by
  have := gc_cellM (S := σ.so R) (S1 := σ'.so R) (E := E) (E2 := E2) (c := c) rfl (Bs.bel hR) hc
  simp only [Bs.app, Bs.len] at this
  exact this
theorem toPy_lints {n r : Nat} {ns : List Int} (h : S[r]? = some (.lst (ns.map D.int))) : toPy (n + 2) S (.ref r) = some (.list (ns.map PyData.int)) := by
  show (match S[r]? with | some (.lst xs) => (xs.mapM (toPy (n + 1) S)).map PyData.list | _ => none) = _
  rw [h]
  simp only [toPy_ints, Option.map_some]
theorem shaped_lst (ns : List Int) : SeqAt.shaped (.list (ns.map PyData.int)) = true := by
  simp [SeqAt.shaped, PyData.canLay0, PyData.depth, canLayAll0_ints, depthAll_ints]
theorem c_neL {a b : Nat} {xs ys : List Int} (h1 : S[a]? = some (.lst (xs.map D.int))) (h2 : S[b]? = some (.lst (ys.map D.int))) : cpV .ne (.ref a) (.ref b) S = some (!decide (xs = ys)) := by
  simp only [cpV, eqO]
  rw [toPy_lints (n := 58) h1, toPy_lints (n := 58) h2]
  simp only
  rw [if_pos ⟨shaped_lst xs, shaped_lst ys⟩]
  simp only [PyData.eqv, eqvAll_ints, Option.map_some]
theorem cell_sz {c : Int} (h0 : 0 ≤ c) (h1 : c < (10 ^ 57) ^ 7) : Sz 1400 c := by
  unfold Sz
  have : ((10 : Int) ^ 57) ^ 7 < 2 ^ 1400 := by decide +kernel
  have e : ((2 : Int) ^ 1400) = ((2 ^ 1400 : Nat) : Int) := by simp
  omega
theorem l_draw {cf} {x f : Option D} : ∀ (k : Nat) (σ : Bs) (G : So) (c : Option D), σ.I.length = k → σ.Ok → ∃ (σ' : Bs) (G' : So) (c' : Option D),
    exS T cf b__law_draw.hd [some (.ref 2), x, c, f] (σ.so G) = some (.nx [some (.ref 2), x, c', f], σ'.so (G ++ G')) ∧ σ'.Ok := by
  intro k
  induction k with
  | zero =>
    intro σ G c hk ok
    have hI : σ.I = [] := List.eq_nil_of_length_eq_zero hk
    by_cases hd : σ.d = 0
    · refine ⟨σ, [.lst []], c, wh_stop (t_of (e_and_t (e_cmp (e_ix (e_var rfl) e_int (ix_ref Bs.get2 rfl)) e_int (c_eq_t hd)) (e_and1 (e_cmp (e_ix (e_var rfl) e_int (ix_ref Bs.get2 rfl)) (e_lst e_nil (len_i rfl)) ?_)))), ok⟩
      have := c_neL (S := σ.so G ++ [.lst []]) (a := 1) (b := (σ.so G).length) (xs := σ.I) (ys := []) rfl get_new
      rw [hI] at this
      exact this
    · exact ⟨σ, [], c, by
        rw [List.append_nil]
        exact wh_stop (t_of (e_and_f (e_cmp (e_ix (e_var rfl) e_int (ix_ref Bs.get2 rfl)) e_int (c_eq_f hd)))), ok⟩
  | succ k ih =>
    intro σ G c hk ok
    by_cases hd : σ.d = 0
    · obtain ⟨J, y, hJ⟩ : ∃ J y, σ.I = J ++ [y] := by
        have hne : σ.I ≠ [] := by
          intro h
          rw [h] at hk
          simp at hk
        exact ⟨σ.I.dropLast, σ.I.getLast hne, (List.dropLast_concat_getLast hne).symm⟩
      have hy := ok.i y (by rw [hJ]; simp)
      have hJl : J.length = k := by
        rw [hJ] at hk
        simpa using hk
      obtain ⟨σ', G', c', e, ok'⟩ := ih ⟨σ.A, J, if y > 10 ^ 9 then y else 0, σ.m⟩ (G ++ [.lst []]) (some (.int y)) hJl ⟨fun c hc => ok.i c (by rw [hJ]; simp [hc]), by show J.length ≤ 63; have := ok.l; rw [hJ] at this; simp at this; omega, by show 0 ≤ (if y > 10 ^ 9 then y else 0); split <;> omega, by show (if y > 10 ^ 9 then y else 0) < _; split; exact hy.2; decide +kernel, ok.m0, ok.m1⟩
      refine ⟨σ', [.lst []] ++ G', c', ?_, ok'⟩
      rw [List.append_assoc] at e
      have y1 : exS T cf b__law_draw.hd.bd.hd [some (.ref 2), x, c, f] (σ.so (G ++ [.lst []])) = some (.nx [some (.ref 2), x, some (.int y), f], Bs.so ⟨σ.A, J, σ.d, σ.m⟩ (G ++ [.lst []])) := by
        refine s_asg (e_me (e_ix (e_var rfl) e_int (ix_ref Bs.get2 rfl)) rfl e_nil ?_) rfl
        simp only [meV, Bs.get1]
        rw [hJ]
        simp only [List.map_append, List.map_cons, List.map_nil, List.length_append, List.length_map, List.length_cons, List.length_nil, Nat.zero_add, Nat.add_sub_cancel, List.dropLast_concat]
        rw [List.getElem?_append_right (by simp)]
        simp
        rfl
      have hcell : evE T cf (.ite (.cmp .gt (.var 2) (.bin .pow (.int 10) (.int 9))) (.var 2) (.int 0)) [some (.ref 2), x, some (.int y), f] (Bs.so ⟨σ.A, J, σ.d, σ.m⟩ (G ++ [.lst []])) = some (.int (if y > 10 ^ 9 then y else 0), Bs.so ⟨σ.A, J, σ.d, σ.m⟩ (G ++ [.lst []])) := by
        by_cases hg : y > 10 ^ 9
        · rw [if_pos hg]
          exact e_ite_t (e_cmp (e_var rfl) (e_bin e_int e_int (o_pow (by decide))) (c_gt_t hg)) (e_var rfl)
        · rw [if_neg hg]
          exact e_ite_f (e_cmp (e_var rfl) (e_bin e_int e_int (o_pow (by decide))) (c_gt_f hg)) e_int
      have y2 : exS T cf b__law_draw.hd.bd.tl.hd [some (.ref 2), x, some (.int y), f] (Bs.so ⟨σ.A, J, σ.d, σ.m⟩ (G ++ [.lst []])) = some (.nx [some (.ref 2), x, some (.int y), f], Bs.so ⟨σ.A, J, if y > 10 ^ 9 then y else 0, σ.m⟩ (G ++ [.lst []])) :=
        s_put hcell (e_var rfl) e_int rfl
      refine wh_go (S1 := σ.so (G ++ [C.lst []])) (t_of (e_and_t (e_cmp (e_ix (e_var rfl) e_int (ix_ref Bs.get2 rfl)) e_int (c_eq_t hd)) (e_and1 (e_cmp (e_ix (e_var rfl) e_int (ix_ref Bs.get2 rfl)) (e_lst e_nil (len_i rfl)) ?_)))) (exSs_nx y1 (exSs_nx y2 ss_nil)) e
      have := c_neL (S := σ.so G ++ [.lst []]) (a := 1) (b := (σ.so G).length) (xs := σ.I) (ys := []) rfl get_new
      have hne : σ.I ≠ [] := by
        rw [hJ]
        simp
      rw [decide_eq_false hne] at this
      exact this
    · exact ⟨σ, [], c, by
        rw [List.append_nil]
        exact wh_stop (t_of (e_and_f (e_cmp (e_ix (e_var rfl) e_int (ix_ref Bs.get2 rfl)) e_int (c_eq_f hd)))), ok⟩
theorem c_draw {n : Nat} {b : Int} (ok : σ.Ok) (hR : Pl R) (hb : 1 ≤ b ∧ b ≤ 1000) : ∃ (r : Int) (σ' : Bs), callF T (n + 1) "_law_draw" [.ref 2, .int b] (σ.so R) = some (.int r, σ'.so R) ∧ σ'.Ok ∧ 0 ≤ r ∧ r < b := by
  obtain ⟨τ, G, c, e, ok'⟩ := l_draw (cf := callF T n) (x := some (.int b)) (f := none) _ σ R none rfl ok
  have zb : Sz 11 b := by unfold Sz; omega
  by_cases hd : 0 < τ.d
  · have hdiv : τ.d / b ≤ τ.d := Int.ediv_le_self _ (by omega)
    have hdiv0 : 0 ≤ τ.d / b := Int.ediv_nonneg (by omega) (by omega)
    refine ⟨τ.d % b, ⟨τ.A, τ.I, τ.d / b, τ.m⟩, ?_, ⟨ok'.i, ok'.l, hdiv0, by show τ.d / b < _; have := ok'.d1; omega, ok'.m0, ok'.m1⟩, Int.emod_nonneg _ (by omega), Int.emod_lt_of_pos _ (by omega)⟩
    have y : exSs T (callF T n) b__law_draw [some (.ref 2), some (.int b), none, none] (σ.so R) = some (.rt (.int (τ.d % b)), Bs.so ⟨τ.A, τ.I, τ.d / b, τ.m⟩ (R ++ G)) :=
      exSs_nx e (exSs_rt (s_if_t (t_of (e_cmp (e_ix (e_var rfl) e_int (ix_ref Bs.get2 rfl)) e_int (c_gt_t hd))) (exSs_nx (s_asg (e_bin (e_bi (e_cons (e_ix (e_var rfl) e_int (ix_ref Bs.get2 rfl)) e_nil) rfl) (e_var rfl) (o_mod (by omega))) rfl)
        (exSs_nx (s_put (e_bin (e_ix (e_var rfl) e_int (ix_ref Bs.get2 rfl)) (e_var rfl) (o_fdiv (div_sz (by omega) zb (by omega)))) (e_var rfl) e_int rfl) (exSs_rt (s_ret (e_var rfl)))))))
    rw [callF_of f__law_draw rfl y, gc_bag rfl hR]
  · have zm : Sz 31 τ.m := by have := ok'.m0; have := ok'.m1; unfold Sz; omega
    have hm0 : 0 ≤ (τ.m * 48271 + 11) % 2147483647 := Int.emod_nonneg _ (by decide)
    have hm1 : (τ.m * 48271 + 11) % 2147483647 < 2147483647 := Int.emod_lt_of_pos _ (by decide)
    have zm2 : Sz 31 ((τ.m * 48271 + 11) % 2147483647) := by unfold Sz; omega
    refine ⟨((τ.m * 48271 + 11) % 2147483647 * ((τ.m * 48271 + 11) % 2147483647) % 2147483629 / 7) % b, ⟨τ.A, τ.I, τ.d, (τ.m * 48271 + 11) % 2147483647⟩, ?_, ⟨ok'.i, ok'.l, ok'.d0, ok'.d1, hm0, hm1⟩, Int.emod_nonneg _ (by omega), Int.emod_lt_of_pos _ (by omega)⟩
    have y : exSs T (callF T n) b__law_draw [some (.ref 2), some (.int b), none, none] (σ.so R) = some (.rt (.int (((τ.m * 48271 + 11) % 2147483647 * ((τ.m * 48271 + 11) % 2147483647) % 2147483629 / 7) % b)), Bs.so ⟨τ.A, τ.I, τ.d, (τ.m * 48271 + 11) % 2147483647⟩ (R ++ G)) :=
      exSs_nx e (exSs_nx (s_if_f (t_of (e_cmp (e_ix (e_var rfl) e_int (ix_ref Bs.get2 rfl)) e_int (c_gt_f hd))) ss_nil)
        (exSs_nx (ρ1 := [some (.ref 2), some (.int b), c, none]) (S1 := Bs.so ⟨τ.A, τ.I, τ.d, (τ.m * 48271 + 11) % 2147483647⟩ (R ++ G)) (s_put (e_bin (e_bi (e_cons (e_bin (e_bin (e_ix (e_var rfl) e_int (ix_ref Bs.get2 rfl)) e_int (o_mul (mul_sz zm (Sz.lit (n := 16) (by decide)) (by omega)))) e_int o_add) e_nil) rfl) e_int (o_mod (by decide))) (e_var rfl) e_int rfl)
          (exSs_rt (s_ret (e_bin (e_bi (e_cons (e_bin (e_bin (e_bi (e_cons (e_bin (e_ix (e_var rfl) e_int (ix_ref Bs.get2 rfl)) (e_ix (e_var rfl) e_int (ix_ref Bs.get2 rfl)) (o_mul (mul_sz zm2 zm2 (by omega)))) e_nil) rfl) e_int (o_mod (by decide))) e_int (o_fdiv (div_lit (by decide)))) e_nil) rfl) (e_var rfl) (o_mod (by omega)))))))
    rw [callF_of f__law_draw rfl y, gc_bag rfl hR]
theorem c_pick {n k : Nat} {xs : List Int} (ok : σ.Ok) (hR : Pl R) (hk : R[k]? = some (.lst (xs.map D.int))) (h0 : xs ≠ []) (hl : xs.length ≤ 100) : ∃ (x : Int) (σ' : Bs), callF T (n + 2) "_law_pick" [.ref 2, .ref (k + 3)] (σ.so R) = some (.int x, σ'.so R) ∧ σ'.Ok ∧ x ∈ xs := by
  have hlen : 0 < xs.length := List.length_pos_iff.mpr h0
  obtain ⟨r, σ', e, ok', r0, r1⟩ := c_draw (n := n) (b := (xs.length : Int)) ok hR ⟨by omega, by omega⟩
  obtain ⟨j, rfl⟩ : ∃ j : Nat, r = j := ⟨r.toNat, by omega⟩
  have hj : j < xs.length := by omega
  have hat : L2.atI (xs.map D.int) (j : Int) = some (.int xs[j]) := by
    rw [at_nat, List.getElem?_map, List.getElem?_eq_getElem hj]
    rfl
  refine ⟨xs[j], σ', ?_, ok', List.getElem_mem _⟩
  have hlen2 : biV .len [.ref (k + 3)] (σ.so R) = some (.int (xs.length : Int), σ.so R) := by
    simp only [biV, Mn.itemsOf, Bs.get, hk, Option.map_some, List.length_map]
  have y : exSs T (callF T (n + 1)) b__law_pick [some (.ref 2), some (.ref (k + 3))] (σ.so R) = some (.rt (.int xs[j]), σ'.so R) :=
    exSs_rt (s_ret (e_ix (e_var rfl) (e_call (e_cons (e_var rfl) (e_cons (e_bi (e_cons (e_var rfl) e_nil) hlen2) e_nil)) e) (ix_ref (Bs.get.trans hk) hat)))
  rw [callF_of f__law_pick rfl y, gc_bag0 rfl hR]
end L81
end

section
set_option maxHeartbeats 1000000
namespace Mn
open PySem PyProof.Rows
def okS (x : Str) : Prop := ∀ c ∈ x.cps.toList, c < 0x110000
theorem okS_strOk {x : Str} (h : okS x) : PyData.strOk x = true := by
  unfold PyData.strOk
  rw [Array.all_eq_true_iff_forall_mem]
  intro c hc
  exact decide_eq_true (h c (Array.mem_toList_iff.mpr hc))
structure Sh (S : So) (k w : Nat) (x : D) (p : PyData) : Prop where
  py : ∀ n, toPy (n + k) S x = some p
  sh : p.showable = true
  nd : p.hasDict = false
  lv : p.leavesShort 152 = true
  dp : p.depth ≤ k
  wt : p.weight ≤ w
  ok : okS p.shown
structure ShL (S : So) (k w : Nat) (xs : List D) (ps : List PyData) : Prop where
  py : ∀ n, xs.mapM (toPy (n + k) S) = some ps
  sh : PyData.showableAll ps = true
  nd : PyData.hasDictAll ps = false
  lv : PyData.leavesShortAll 152 ps = true
  dp : PyData.depthAll ps ≤ k
  wt : PyData.weightAll ps ≤ w
  ok : ∀ t ∈ PyData.shownAll ps, okS t
variable {S : So} {k k' w w' : Nat} {x : D} {xs : List D} {p : PyData} {ps : List PyData}
theorem Sh.mono (h : Sh S k w x p) (hk : k ≤ k') (hw : w ≤ w') : Sh S k' w' x p := ⟨fun n => by
  have := h.py (n + (k' - k))
  rw [show n + (k' - k) + k = n + k' by omega] at this
  exact this, h.sh, h.nd, h.lv, Nat.le_trans h.dp hk, Nat.le_trans h.wt hw, h.ok⟩
theorem ShL.mono (h : ShL S k w xs ps) (hk : k ≤ k') (hw : w ≤ w') : ShL S k' w' xs ps := ⟨fun n => by
  have := h.py (n + (k' - k))
  rw [show n + (k' - k) + k = n + k' by omega] at this
  exact this, h.sh, h.nd, h.lv, Nat.le_trans h.dp hk, Nat.le_trans h.wt hw, h.ok⟩
theorem ShL.nil : ShL S k 0 [] [] := ⟨fun _ => rfl, rfl, rfl, rfl, Nat.zero_le _, Nat.le_refl _, fun t h => absurd h (by simp [PyData.shownAll])⟩
theorem ShL.cons (h : Sh S k w x p) (h2 : ShL S k w' xs ps) : ShL S k (w + 1 + w') (x :: xs) (p :: ps) := by
  refine ⟨fun n => ?_, ?_, ?_, ?_, ?_, ?_, ?_⟩
  · rw [List.mapM_cons, h.py n, h2.py n]
    rfl
  · simp only [PyData.showableAll, h.sh, h2.sh, Bool.and_self]
  · simp only [PyData.hasDictAll, h.nd, h2.nd, Bool.or_self]
  · simp only [PyData.leavesShortAll, h.lv, h2.lv, Bool.and_self]
  · simp only [PyData.depthAll]
    have := h.dp
    have := h2.dp
    omega
  · simp only [PyData.weightAll]
    have := h.wt
    have := h2.wt
    omega
  · intro t ht
    rw [PyData.shownAll_cons, List.mem_cons] at ht
    rcases ht with rfl | ht
    · exact h.ok
    · exact h2.ok t ht
theorem okS_join {ts : List Str} (h : ∀ t ∈ ts, okS t) : okS (Str.join ", " ts) := by
  intro c hc
  rw [mem_join] at hc
  rcases hc with ⟨t, ht, hc⟩ | ⟨_, hc⟩
  · exact h t ht c hc
  · rw [signs_sep] at hc
    simp only [List.mem_cons, List.not_mem_nil, or_false] at hc
    omega
theorem Sh.tup (h : ShL S k w xs ps) : Sh S (k + 1) w (.tup xs) (.tuple ps) := by
  refine ⟨fun n => ?_, h.sh, h.nd, h.lv, ?_, h.wt, ?_⟩
  · show (xs.mapM (toPy (n + k) S)).map PyData.tuple = _
    rw [h.py n]
    rfl
  · simp only [PyData.depth]
    have := h.dp
    omega
  · rw [PyData.shown_tuple]
    intro c hc
    rw [mem_cps_append, mem_cps_append, signs_lparen] at hc
    rcases hc with (hc | hc) | hc
    · simp only [List.mem_cons, List.not_mem_nil, or_false] at hc
      omega
    · exact okS_join h.ok c hc
    · rw [signs_tuple_end] at hc
      split at hc <;> (simp only [List.mem_cons, List.not_mem_nil, or_false] at hc; omega)
theorem Sh.lst {r : Nat} (hr : S[r]? = some (.lst xs)) (h : ShL S k w xs ps) : Sh S (k + 1) w (.ref r) (.list ps) := by
  refine ⟨fun n => ?_, h.sh, h.nd, h.lv, ?_, h.wt, ?_⟩
  · show (match S[r]? with | some (.lst xs) => (xs.mapM (toPy (n + k) S)).map PyData.list | _ => none) = _
    rw [hr]
    simp only [h.py n, Option.map_some]
  · simp only [PyData.depth]
    have := h.dp
    omega
  · rw [PyData.shown_list]
    intro c hc
    rw [mem_cps_append, mem_cps_append, signs_lbrack, signs_rbrack] at hc
    rcases hc with (hc | hc) | hc
    · simp only [List.mem_cons, List.not_mem_nil, or_false] at hc
      omega
    · exact okS_join h.ok c hc
    · simp only [List.mem_cons, List.not_mem_nil, or_false] at hc
      omega
theorem Sh.int {i : Int} (h : Sz 500 i) : Sh S (k + 1) 500 (.int i) (.int i) := by
  have hlog := h.log
  refine ⟨fun n => rfl, ?_, rfl, ?_, Nat.zero_le _, ?_, ?_⟩
  · show decide (i.natAbs.log2 < 1920) = true
    exact decide_eq_true (by omega)
  · show decide ((PyData.shown (.int i)).length ≤ 152) = true
    refine decide_eq_true ?_
    have h1 : i.natAbs < 10 ^ 151 := Nat.lt_trans h (by decide +kernel)
    have e := int_text_length_le10 (k := 151) (by decide) h1
    show (Str.ofString (toString i)).length ≤ 152
    rw [PySem.ofString_length]
    exact e
  · show (if (i == 0) = true then 0 else i.natAbs.log2 + 1) ≤ 500
    split
    · omega
    · rename_i h0
      have h0' : i.natAbs ≠ 0 := by
        intro k
        apply h0
        simp
        omega
      have := (Nat.log2_lt h0').mpr h
      omega
  · intro c hc
    apply Classical.byContradiction
    intro hn
    exact shown_int_free' (k := c) ⟨by omega, by omega⟩ i hc
theorem Sh.bl {b : Bool} : Sh S (k + 1) 0 (.bl b) (.bool b) := by
  refine ⟨fun n => rfl, rfl, rfl, rfl, Nat.zero_le _, Nat.le_refl _, ?_⟩
  intro c hc
  apply Classical.byContradiction
  intro hn
  rw [PyData.shown_bool] at hc
  cases b
  · have e : (Str.ofString "False").cps.toList = [70, 97, 108, 115, 101] := by decide
    have hc : c ∈ (Str.ofString "False").cps.toList := hc
    rw [e] at hc
    simp only [List.mem_cons, List.not_mem_nil, or_false] at hc
    omega
  · have e : (Str.ofString "True").cps.toList = [84, 114, 117, 101] := by decide
    have hc : c ∈ (Str.ofString "True").cps.toList := hc
    rw [e] at hc
    simp only [List.mem_cons, List.not_mem_nil, or_false] at hc
    omega
theorem ShL.ints {ns : List Int} (h : ∀ i ∈ ns, Sz 500 i) : ShL S (k + 1) (501 * ns.length) (ns.map D.int) (ns.map PyData.int) := by
  induction ns with
  | nil => exact ShL.nil
  | cons i ns ih =>
    have := ShL.cons (Sh.int (S := S) (k := k) (h i List.mem_cons_self)) (ih fun j hj => h j (List.mem_cons_of_mem _ hj))
    exact this.mono (Nat.le_refl _) (by rw [List.length_cons]; omega)
theorem Sh.fit (h : Sh S k w x p) (hw : w ≤ 100000) : p.shown.length ≤ 15500000 := by
  have h1 := PyData.shown_le 152 (by decide) p h.lv
  have h2 : (152 + 2) * p.weight ≤ 154 * 100000 := Nat.mul_le_mul_left 154 (Nat.le_trans h.wt hw)
  omega
section
variable {T : Tb} {cf : Str → List D → So → Option (D × So)} {ρ : En} {a : E}
theorem e_repr (h : Sh S k w x p) (hk : k ≤ 60) (hw : w ≤ 100000) (ha : evE T cf a ρ S = some (x, S)) : evE T cf (.bi .repr (.cons a .nil)) ρ S = some (.str p.shown, S) := by
  refine e_bi (e_cons ha e_nil) ?_
  have e := h.py (60 - k)
  rw [show 60 - k + k = 60 by omega] at e
  simp only [biV, e]
  rw [if_pos ⟨h.sh, h.nd, Nat.le_trans h.dp (by omega), by rw [sizeLine_eq]; have := h.fit hw; omega⟩]
theorem toPy_str {n : Nat} {t : Str} : toPy (n + 1) S (.str t) = some (.str t) := rfl
theorem shaped_str {t : Str} (h : okS t) : SeqAt.shaped (.str t) = true := by
  unfold SeqAt.shaped
  simp only [PyData.canLay0, okS_strOk h, PyData.depth, Bool.true_and]
  rfl
theorem c_eqS {s t : Str} (hs : okS s) (ht : okS t) : cpV .eq (.str s) (.str t) S = some (decide (s = t)) := by
  simp only [cpV, eqO]
  rw [toPy_str (n := 59), toPy_str (n := 59)]
  simp only
  rw [if_pos ⟨shaped_str hs, shaped_str ht⟩]
  simp [PyData.eqv, Bool.beq_eq_decide_eq]
theorem c_neS {s t : Str} (hs : okS s) (ht : okS t) : cpV .ne (.str s) (.str t) S = some (!decide (s = t)) := by
  have h := c_eqS (S := S) hs ht
  simp only [cpV] at h ⊢
  rw [h]
  rfl
end
end Mn
end

section
set_option maxHeartbeats 1000000
namespace L81
open PySem Mn
variable {S : So} {Q : NSq} {σ σ' : Bs} {R E : So}
local macro_rules
  | `(tactic| keq_rows) => `(tactic| (repeat' (first
      | with_reducible exact e_int | with_reducible exact e_bl | with_reducible exact e_non | with_reducible exact e_str | with_reducible exact e_nil | with_reducible exact s_pass | with_reducible exact eo_none | with_reducible exact o_add | with_reducible exact o_sub | with_reducible exact c_eq | with_reducible exact c_lt | with_reducible exact c_le | with_reducible exact c_gt | with_reducible exact c_ge | with_reducible exact c_ne
      | ((with_reducible refine' ss_nl ?mnh); (case mnh => exact rfl)) | ((with_reducible refine' e_var ?mnh); (case mnh => exact rfl)) | ((with_reducible refine' asg_i ?mnh); (case mnh => exact rfl)) | ((with_reducible refine' at_i ?mnh); (case mnh => exact rfl)) | ((with_reducible refine' ty_i ?mnh); (case mnh => exact rfl)) | ((with_reducible refine' mv_i ?mnh); (case mnh => exact rfl)) | ((with_reducible refine' bi_i ?mnh); (case mnh => exact rfl)) | ((with_reducible refine' e_glob ?mnh); (case mnh => kernel_rfl)) | (with_reducible exact div_lit (by decide)) | ((with_reducible refine' len_i ?mnh); (case mnh => exact rfl))
      | with_reducible refine' exSs_rt (s_ret ?_) | with_reducible refine' exSs_nx (s_asg ?_ ?_) ?_ | with_reducible refine' exSs_nx (s_ex ?_) ?_ | with_reducible refine' exSs_nx (s_put ?_ ?_ ?_ ?_) ?_ | with_reducible refine' t_of ?_ | with_reducible refine' e_bin ?_ ?_ ?_ | with_reducible refine' e_neg ?_ | with_reducible refine' e_cons ?_ ?_ | with_reducible refine' e_tup ?_ ?_ | with_reducible refine' e_lst ?_ ?_ | with_reducible refine' e_ix ?_ ?_ ?_ | with_reducible refine' e_cmp ?_ ?_ ?_ | with_reducible refine' e_not ?_ | with_reducible refine' e_call ?_ ?_ | with_reducible refine' e_bi ?_ ?_ | with_reducible refine' e_me ?_ ?_ ?_ ?_ | with_reducible refine' eo_some ?_ | with_reducible refine' e_sl ?_ ?_ ?_ ?_ | with_reducible refine' e_rev ?_ ?_ | with_reducible refine' ix_tup ?_
      | (with_reducible refine' e_callk ?_ ?_ (by kernel_rfl) rfl ?_)
      | keq_hits
      | with_reducible refine' o_mul ?_ | with_reducible refine' o_fdiv ?_ | with_reducible refine' o_mod ?_)))
  | `(tactic| kas_types) => `(tactic| (repeat' (first
      | exact Sz.id (by assumption) | exact Sz.lit (n := 16) (by decide) | with_reducible refine' Sz.mul ?_ ?_ | with_reducible refine' Sz.add ?_ ?_ | with_reducible refine' Sz.sub ?_ ?_ | with_reducible refine' Sz.neg ?_ | with_reducible refine' Sz.div ?_)))
  | `(tactic| lcg_sub) => `(tactic| ((refine' mul_sz ?mza ?mzb ?mzc); (case mza => kas_types); (case mzb => kas_types); (case mzc => omega)))
theorem e_lcN {T : Tb} {cf : Str → List D → So → Option (D × So)} {ρ : En} {α : Type} (emb : α → D) (h : α → D) {w : Option (Nat × List D)} {elt : Mn.E} {gt : Gt} {it : It} {own : List Nat} {xs : List α} (hit : evIt T cf it ρ S = some ((xs.map emb, w), S ++ E)) (hw : Walk.stays w (S ++ E)) (hl : xs.length ≤ 100000)
    (hs : ∀ x ∈ xs, ∀ acc, ∃ ρ', asgG gt (emb x) (wipe ρ own) = some ρ' ∧ evE T cf elt ρ' (S ++ E ++ [.lst acc]) = some (h x, S ++ E ++ [.lst acc])) (hb : belows 0 (xs.map h) = true) :
    evE T cf (.lc elt gt it .nil own) ρ S = some (.ref S.length, S ++ [.lst (xs.map h)]) := by
  simp only [evE, hit, Option.bind_some]
  rw [lcL_pure emb (fun x => some (h x)) hw xs [] (by rw [sizeLine_eq]; simp; omega) (fun x hx acc => by
    obtain ⟨ρ', h1, h2⟩ := hs x hx acc
    simp only [h1, evCs, h2, Option.bind_some, Option.map_some, if_true])]
  simp only [Option.map_some, List.nil_append]
  have e : xs.filterMap (fun x => some (h x)) = xs.map h := by
    induction xs with
    | nil => rfl
    | cons x xs ih => simp
  rw [e]
  have := gc_cell (S := S) (E := E) (c := .lst (xs.map h)) (E2 := []) hb
  rw [← this, List.length_append]
theorem cut_all {xs : List D} {i : Nat} (h : xs.length ≤ i) : cut xs none (some (i : Int)) = xs := by
  unfold cut
  rw [HT.sIx_nat, HT.sIx_none, Nat.min_eq_right h]
  simp
theorem gc_keep {S0 S1 : So} {k : Nat} {c : C} (h : S1[k]? = some c) (hc : c.bel 0 = false) : gc S0 (.ref k) S1 = (.ref k, S1) := by
  unfold gc
  split
  · have hb : ¬ ((D.ref k).bel 0 = true) := by simp [D.bel]
    rw [if_neg hb]
    simp only [h]
    rw [if_neg (by rw [hc]; simp)]
  · rfl
theorem l_mix {n : Nat} {W : Option (Nat × List D)} (hW : Walk.stays W S) {a b : Option D} : ∀ (xs : List Int) (m : Int) (c : Option D), 0 ≤ m → m < 2147483647 → ∃ (m' : Int) (c' : Option D),
    forL W (fun x ρ S => (asgG (.nm 3) x ρ).bind fun ρ => exSs T (callF T n) b__law_bag.tl.tl.hd.bd ρ S) (xs.map D.int) [a, b, some (.int m), c] S = some (.nx [a, b, some (.int m'), c'], S) ∧ 0 ≤ m' ∧ m' < 2147483647
  | [], m, c, h0, h1 => ⟨m, c, rfl, h0, h1⟩
  | x :: xs, m, c, h0, h1 => by
    obtain ⟨m', c', e, e2⟩ := l_mix (n := n) hW (a := a) (b := b) xs ((m * 48271 + x % 2147483629 + 7) % 2147483647) (some (.int x)) (Int.emod_nonneg _ (by decide)) (Int.emod_lt_of_pos _ (by decide))
    refine ⟨m', c', ?_, e2⟩
    have zm : Sz 31 m := by unfold Sz; omega
    rw [List.map_cons, forL_cons_nx (w := W) (ρ1 := [a, b, some (.int ((m * 48271 + x % 2147483629 + 7) % 2147483647)), some (.int x)]) (S1 := S) ?_ hW]
    · exact e
    · exact exSs_nx (s_asg (e_bin (e_bi (e_cons (e_bin (e_bin (e_bin (e_var rfl) e_int (o_mul (mul_sz zm (Sz.lit (n := 16) (by decide)) (by omega)))) (e_bin (e_bi (e_cons (e_var rfl) e_nil) rfl) e_int (o_mod (by decide))) o_add) e_int o_add) e_nil) rfl) e_int (o_mod (by decide))) rfl) ss_nil
theorem c_bag {n : Nat} {ns : List Int} (hl : ns.length ≤ 63) : ∃ σ : Bs, callF T (n + 1) "_law_bag" [.frl (ns.map D.int)] [] = some (.ref 2, σ.so []) ∧ σ.Ok := by
  generalize hcs : ns.map (fun c => (if c < 0 then -c else c) % (10 ^ 57) ^ 7) = cs
  have hcl : cs.length ≤ 63 := by rw [← hcs]; simpa using hl
  have hpos : (0 : Int) < (10 ^ 57) ^ 7 := by decide +kernel
  have y1 : evE T (callF T n) (.lc (.bin .mod (.bi .abs (.cons (.bi .int (.cons (.var 3) .nil)) .nil)) (.bin .pow (.bin .pow (.int 10) (.int 57)) (.int 7))) (.nm 3) (.ex (.sl (.var 0) .none (.some (.int 63)))) .nil [3]) [some (.frl (ns.map D.int)), none, none, none] [] = some (.ref 0, [.lst (cs.map D.int)]) := by
    have := e_lcN (S := []) (E := [.lst (ns.map D.int)]) (T := T) (cf := callF T n) (ρ := [some (.frl (ns.map D.int)), none, none, none]) (elt := .bin .mod (.bi .abs (.cons (.bi .int (.cons (.var 3) .nil)) .nil)) (.bin .pow (.bin .pow (.int 10) (.int 57)) (.int 7))) (gt := .nm 3) (own := [3]) D.int (fun c : Int => .int ((if c < 0 then -c else c) % (10 ^ 57) ^ 7)) (xs := ns) (it := .ex (.sl (.var 0) .none (.some (.int 63)))) (w := some (0, ns.map D.int)) ?_ rfl (by omega) ?_ ?_
    · rw [← hcs, List.map_map]
      exact this
    · refine (it_ex (S1 := [.lst (ns.map D.int)]) (x := .ref 0) (xs := ns.map D.int) (e_sl (e_var rfl) eo_none (eo_some e_int) ?_) rfl).trans rfl
      simp only [slV, Mn.listOf]
      rw [show (63 : Int) = ((63 : Nat) : Int) from rfl, cut_all (by simpa using hl)]
      rfl
    · intro c hc acc
      refine ⟨_, rfl, e_bin (e_bi (e_cons (e_bi (e_cons (e_var rfl) e_nil) rfl) e_nil) rfl) (e_bin (e_bin e_int e_int (o_pow (by decide))) e_int (o_pow (by decide +kernel))) (o_mod hpos)⟩
    · have : ns.map (fun c : Int => D.int ((if c < 0 then -c else c) % (10 ^ 57) ^ 7)) = cs.map D.int := by rw [← hcs, List.map_map]; rfl
      rw [this]
      exact ints_bel 0 _
  obtain ⟨m', c', e, m0, m1⟩ := l_mix (S := [.lst (cs.map D.int)]) (n := n) (W := some (0, cs.map D.int)) rfl (a := some (.frl (ns.map D.int))) (b := some (.ref 0)) cs (8101 + 31 * (cs.length : Int)) none (by omega) (by omega)
  refine ⟨⟨cs, cs.reverse, 0, m'⟩, ?_, ⟨?_, by simpa using hcl, Int.le_refl 0, hpos, m0, m1⟩⟩
  · have x2 : exS T (callF T n) b__law_bag.tl.hd [some (.frl (ns.map D.int)), some (.ref 0), none, none] [.lst (cs.map D.int)] = some (.nx [some (.frl (ns.map D.int)), some (.ref 0), some (.int (8101 + 31 * (cs.length : Int))), none], [.lst (cs.map D.int)]) := by
      refine s_asg (e_bin e_int (e_bin e_int (e_bi (e_cons (e_var rfl) e_nil) (d := .int (cs.length : Int)) ?_) (o_mul (mul_sz (Sz.lit (n := 5) (by decide)) (m := 5) (n := 7) (by unfold Sz; omega) (by omega)))) o_add) rfl
      simp only [biV, Mn.itemsOf, List.getElem?_cons_zero, Option.map_some, List.length_map]
    have x3 : exS T (callF T n) b__law_bag.tl.tl.hd [some (.frl (ns.map D.int)), some (.ref 0), some (.int (8101 + 31 * (cs.length : Int))), none] [.lst (cs.map D.int)] = some (.nx [some (.frl (ns.map D.int)), some (.ref 0), some (.int m'), c'], [.lst (cs.map D.int)]) :=
      s_fr (it_exR (e_var rfl) rfl) e
    have y4 : evE T (callF T n) (.bi .lrev (.cons (.bi .list (.cons (.var 1) .nil)) .nil)) [some (.frl (ns.map D.int)), some (.ref 0), some (.int m'), c'] [.lst (cs.map D.int)] = some (.ref 1, [.lst (cs.map D.int), .lst (cs.reverse.map D.int)]) := by
      have q1 : evE T (callF T n) (.bi .list (.cons (.var 1) .nil)) [some (.frl (ns.map D.int)), some (.ref 0), some (.int m'), c'] [.lst (cs.map D.int)] = some (.ref 1, [.lst (cs.map D.int), .lst (cs.map D.int)]) := e_biN (c := .lst (cs.map D.int)) (e_cons (e_var rfl) e_nil) rfl
      simp only [evE, evEs] at q1 ⊢
      rw [q1]
      simp only [Option.bind_some, Option.map_some, biV, Mn.listOf, List.getElem?_cons_succ, List.getElem?_cons_zero]
      have g := gc_cell (S := [.lst (cs.map D.int)]) (E := [.lst (cs.map D.int)]) (c := .lst (cs.map D.int).reverse) (E2 := []) (by rw [← List.map_reverse]; exact ints_bel 0 _)
      rw [List.map_reverse]
      exact congrArg some g
    have x4 : exSs T (callF T n) b__law_bag.tl.tl.tl [some (.frl (ns.map D.int)), some (.ref 0), some (.int m'), c'] [.lst (cs.map D.int)] = some (.rt (.ref 2), Bs.so ⟨cs, cs.reverse, 0, m'⟩ []) :=
      exSs_rt (s_ret (e_lst (e_cons y4 (e_cons e_int (e_cons (e_var rfl) e_nil))) (len_i rfl)))
    rw [callF_of (ds := [.frl (ns.map D.int)]) f__law_bag rfl (exSs_nx (s_asg y1 rfl) (exSs_nx x2 (exSs_nx x3 x4))), gc_keep (k := 2) Bs.get2 rfl]
  · intro c hc
    have hc2 : c ∈ cs := by simpa using hc
    rw [← hcs] at hc2
    obtain ⟨z, _, rfl⟩ := List.mem_map.mp hc2
    exact ⟨Int.emod_nonneg _ (by omega), Int.emod_lt_of_pos _ hpos⟩
theorem Bs.setG {c c' : C} : (σ.so (R ++ [c])).set (R.length + 3) c' = σ.so (R ++ [c']) := by
  show _ :: _ :: _ :: (R ++ [c]).set R.length c' = _
  rw [set_new]
  rfl
theorem l_some {n : Nat} {top : Int} (hR : Pl R) (ht : 1 ≤ top ∧ top ≤ 9) {a b t : Option D} (hb : b = some (.int top)) : ∀ (xs : List D) (σ : Bs) (acc : List Int), σ.Ok → acc.length + xs.length ≤ 1000 → ∃ (σ' : Bs) (out : List Int),
    lcL none (R.length + 3) (fun x S => (asgG (.nm 3) x (wipe [some (.ref 2), a, b, t] [3])).bind fun ρ => (evCs T (callF T (n + 1)) .nil ρ S).bind fun t => if t.1 = true then (evE T (callF T (n + 1)) (.bin .add (.int 1) (.call "_law_draw" (.cons (.var 0) (.cons (.var 2) .nil)))) ρ t.2).map fun q => (some q.1, q.2) else some (none, t.2)) xs (σ.so (R ++ [.lst (acc.map D.int)])) =
      some (σ'.so (R ++ [.lst ((acc ++ out).map D.int)])) ∧ σ'.Ok ∧ out.length = xs.length ∧ ∀ t ∈ out, 1 ≤ t ∧ t ≤ top
  | [], σ, acc, ok, _ => ⟨σ, [], by simp [lcL], ok, rfl, fun t h => absurd h List.not_mem_nil⟩
  | x :: xs, σ, acc, ok, hl => by
    subst hb
    simp only [List.length_cons] at hl
    obtain ⟨r, σ1, e1, ok1, r0, r1⟩ := c_draw (n := n) (b := top) (R := R ++ [.lst (acc.map D.int)]) ok (hR.app (Pl.ints acc)) ⟨ht.1, by omega⟩
    obtain ⟨σ', out, e2, ok', hlen, hout⟩ := l_some (n := n) (a := a) (t := t) hR ht rfl xs σ1 (acc ++ [1 + r]) ok1 (by simp; omega)
    refine ⟨σ', (1 + r) :: out, ?_, ok', by simp [hlen], ?_⟩
    · have q : evE T (callF T (n + 1)) (.bin .add (.int 1) (.call "_law_draw" (.cons (.var 0) (.cons (.var 2) .nil)))) [some (.ref 2), a, some (.int top), some x] (σ.so (R ++ [.lst (acc.map D.int)])) = some (.int (1 + r), σ1.so (R ++ [.lst (acc.map D.int)])) :=
        e_bin e_int (e_call (e_cons (e_var rfl) (e_cons (e_var rfl) e_nil)) e1) o_add
      have q2 : ((asgG (.nm 3) x (wipe [some (.ref 2), a, some (.int top), t] [3])).bind fun ρ => (evCs T (callF T (n + 1)) .nil ρ (σ.so (R ++ [.lst (acc.map D.int)]))).bind fun t => if t.1 = true then (evE T (callF T (n + 1)) (.bin .add (.int 1) (.call "_law_draw" (.cons (.var 0) (.cons (.var 2) .nil)))) ρ t.2).map fun q => (some q.1, q.2) else some (none, t.2)) = some (some (.int (1 + r)), σ1.so (R ++ [.lst (acc.map D.int)])) := by
        show (some [some (.ref 2), a, some (.int top), some x]).bind _ = _
        simp only [Option.bind_some, evCs, if_true, q, Option.map_some]
      simp only [lcL]
      rw [q2]
      simp only [Option.bind_some]
      rw [if_pos (show Walk.stays none _ from trivial)]
      simp only [Bs.newG]
      rw [if_pos (by rw [sizeLine_eq]; simp; omega), Bs.setG]
      have e3 : acc.map D.int ++ [D.int (1 + r)] = (acc ++ [1 + r]).map D.int := by simp
      rw [e3, e2]
      simp
    · intro t ht'
      rcases List.mem_cons.mp ht' with rfl | ht'
      · omega
      · exact hout t ht'
theorem c_some_terms {n : Nat} {most top : Int} (ok : σ.Ok) (hR : Pl R) (hm : 0 ≤ most ∧ most ≤ 8) (ht : 1 ≤ top ∧ top ≤ 9) : ∃ (u : List Int) (σ' : Bs), callF T (n + 2) "_law_some_terms" [.ref 2, .int most, .int top] (σ.so R) = some (.tup (u.map D.int), σ'.so R) ∧ σ'.Ok ∧ u.length ≤ most.toNat ∧ Rw u := by
  obtain ⟨r, σ1, e1, ok1, r0, r1⟩ := c_draw (n := n) (b := most + 1) ok hR (by omega)
  obtain ⟨σ2, out, e2, ok2, hlen, hout⟩ := l_some (n := n) (a := some (.int most)) (b := some (.int top)) (t := none) hR ht rfl (rangeL 0 r.toNat) σ1 [] ok1 (by rw [rangeL_length]; simp; omega)
  rw [rangeL_length] at hlen
  refine ⟨out, σ2, ?_, ok2, by omega, fun t h => by have := hout t h; omega⟩
  have hit : evIt T (callF T (n + 1)) (.range (.cons (.call "_law_draw" (.cons (.var 0) (.cons (.bin .add (.var 1) (.int 1)) .nil))) .nil)) [some (.ref 2), some (.int most), some (.int top), none] (σ.so R) = some ((rangeL 0 r.toNat, none), σ1.so R) :=
    it_range1 (e_call (e_cons (e_var rfl) (e_cons (e_bin (e_var rfl) e_int o_add) e_nil)) e1) r0 (by omega)
  have hlc : evE T (callF T (n + 1)) (.lc (.bin .add (.int 1) (.call "_law_draw" (.cons (.var 0) (.cons (.var 2) .nil)))) (.nm 3) (.range (.cons (.call "_law_draw" (.cons (.var 0) (.cons (.bin .add (.var 1) (.int 1)) .nil))) .nil)) .nil [3]) [some (.ref 2), some (.int most), some (.int top), none] (σ.so R) = some (.ref (R.length + 3), σ2.so (R ++ [.lst (out.map D.int)])) := by
    rw [show ∀ ρ : En, evE T (callF T (n + 1)) (.lc (.bin .add (.int 1) (.call "_law_draw" (.cons (.var 0) (.cons (.var 2) .nil)))) (.nm 3) (.range (.cons (.call "_law_draw" (.cons (.var 0) (.cons (.bin .add (.var 1) (.int 1)) .nil))) .nil)) .nil [3]) ρ (σ.so R) = (evIt T (callF T (n + 1)) (.range (.cons (.call "_law_draw" (.cons (.var 0) (.cons (.bin .add (.var 1) (.int 1)) .nil))) .nil)) ρ (σ.so R)).bind fun r =>
      (lcL r.1.2 r.2.length (fun x S => (asgG (.nm 3) x (wipe ρ [3])).bind fun ρ => (evCs T (callF T (n + 1)) .nil ρ S).bind fun t => if t.1 = true then (evE T (callF T (n + 1)) (.bin .add (.int 1) (.call "_law_draw" (.cons (.var 0) (.cons (.var 2) .nil)))) ρ t.2).map fun q => (some q.1, q.2) else some (none, t.2)) r.1.1 (r.2 ++ [.lst []])).map fun S1 => gc (σ.so R) (.ref r.2.length) S1 from fun ρ => by simp only [evE]]
    rw [hit]
    simp only [Option.bind_some, Bs.len, Bs.app]
    have e2' := e2
    rw [List.map_nil] at e2'
    rw [e2']
    simp only [Option.map_some, List.nil_append]
    have := gc_bagC (σ := σ) (σ' := σ2) (R := R) (E := []) (E2 := []) (c := .lst (out.map D.int)) (ints_bel 0 _) hR
    rw [List.append_nil] at this
    exact congrArg some this
  have y : evE T (callF T (n + 1)) (.bi .tuple (.cons (.lc (.bin .add (.int 1) (.call "_law_draw" (.cons (.var 0) (.cons (.var 2) .nil)))) (.nm 3) (.range (.cons (.call "_law_draw" (.cons (.var 0) (.cons (.bin .add (.var 1) (.int 1)) .nil))) .nil)) .nil [3]) .nil)) [some (.ref 2), some (.int most), some (.int top), none] (σ.so R) = some (.tup (out.map D.int), σ2.so R) := by
    have h1 : evEs T (callF T (n + 1)) (.cons (.lc (.bin .add (.int 1) (.call "_law_draw" (.cons (.var 0) (.cons (.var 2) .nil)))) (.nm 3) (.range (.cons (.call "_law_draw" (.cons (.var 0) (.cons (.bin .add (.var 1) (.int 1)) .nil))) .nil)) .nil [3]) .nil) [some (.ref 2), some (.int most), some (.int top), none] (σ.so R) = some ([.ref (R.length + 3)], σ2.so (R ++ [.lst (out.map D.int)])) := e_cons hlc e_nil
    have h2 : biV .tuple [.ref (R.length + 3)] (σ2.so (R ++ [.lst (out.map D.int)])) = some (.tup (out.map D.int), σ2.so (R ++ [.lst (out.map D.int)])) := by
      simp only [biV, Mn.itemsOf, Bs.newG, Option.map_some]
    rw [show ∀ (es : Es) (ρ : En) (S : So), evE T (callF T (n + 1)) (.bi .tuple es) ρ S = (evEs T (callF T (n + 1)) es ρ S).bind fun r => (biV .tuple r.1 r.2).map fun q => gc S q.1 q.2 from fun es ρ S => by simp only [evE]]
    rw [h1]
    simp only [Option.bind_some, h2, Option.map_some]
    rw [gc_bag (ints_bel 0 _) hR]
  rw [callF_of (ds := [.ref 2, .int most, .int top]) f__law_some_terms rfl (exSs_rt (s_ret y)), gc_bag0 (ints_bel 0 _) hR]
theorem lst_lit {T : Tb} {cf : Str → List D → So → Option (D × So)} {ρ : En} {es : Es} {xs : List Int} (h : evEs T cf es ρ (σ.so R) = some (xs.map D.int, σ.so R)) (hl : xs.length ≤ 1000) : evE T cf (.lst es) ρ (σ.so R) = some (.ref (R.length + 3), σ.so (R ++ [.lst (xs.map D.int)])) :=
  e_lst h (by simpa using hl)
theorem app_at {c : C} : (R ++ [c])[R.length]? = some c := by simp
theorem chn_bel (u w : List Int) : (chn u w).bel 0 = true := by
  show belows 0 [_, _] = true
  simp only [belows, ints_bel, Bool.and_self]
theorem c_chain {n : Nat} {g : Bool} (ok : σ.Ok) (hR : Pl R) : ∃ (u w : List Int) (σ' : Bs), callF T (n + 4) "_law_chain" [.ref 2, .bl g] (σ.so R) = some (chn u w, σ'.so R) ∧ σ'.Ok ∧ Rw u ∧ Rw w ∧ u.length ≤ 8 ∧ w ≠ [] ∧ w.length ≤ 6 := by
  obtain ⟨x1, σ1, e1, ok1, m1⟩ := c_pick (n := n + 1) (xs := [0, 1, 3, 8]) (R := R ++ [.lst ([0, 1, 3, 8].map D.int)]) (k := R.length) ok (hR.app (Pl.ints _)) app_at (by simp) (by simp)
  obtain ⟨x2, σ2, e2, ok2, m2⟩ := c_pick (n := n + 1) (xs := [2, 4, 9]) (R := R ++ [.lst ([0, 1, 3, 8].map D.int)] ++ [.lst ([2, 4, 9].map D.int)]) (k := (R ++ [C.lst ([0, 1, 3, 8].map D.int)]).length) ok1 ((hR.app (Pl.ints _)).app (Pl.ints _)) app_at (by simp) (by simp)
  have b1 : 0 ≤ x1 ∧ x1 ≤ 8 := by simp at m1; omega
  have b2 : 1 ≤ x2 ∧ x2 ≤ 9 := by simp at m2; omega
  generalize hR1 : R ++ [C.lst ([0, 1, 3, 8].map D.int)] = R1 at *
  generalize hR2 : R1 ++ [C.lst ([2, 4, 9].map D.int)] = R2 at *
  have p1 : Pl R1 := by rw [← hR1]; exact hR.app (Pl.ints _)
  have p2 : Pl R2 := by rw [← hR2]; exact p1.app (Pl.ints _)
  obtain ⟨u, σ3, e3, ok3, l3, w3⟩ := c_some_terms (n := n + 1) ok2 p2 b1 b2
  obtain ⟨x4, σ4, e4, ok4, m4⟩ := c_pick (n := n + 1) (xs := [1, 2, 3, 9]) (R := R2 ++ [.lst ([1, 2, 3, 9].map D.int)]) (k := R2.length) ok3 (p2.app (Pl.ints _)) app_at (by simp) (by simp)
  have b4 : 1 ≤ x4 ∧ x4 ≤ 9 := by simp at m4; omega
  generalize hR4 : R2 ++ [C.lst ([1, 2, 3, 9].map D.int)] = R4 at *
  have p4 : Pl R4 := by rw [← hR4]; exact p2.app (Pl.ints _)
  obtain ⟨x5, σ5, e5, ok5, c5, d5⟩ := c_draw (n := n + 2) (b := x4) ok4 p4 (by omega)
  have y1 : exS T (callF T (n + 3)) b__law_chain.hd [some (.ref 2), some (.bl g), none, none, none] (σ.so R) = some (.nx [some (.ref 2), some (.bl g), some (.tup (u.map D.int)), none, none], σ3.so R2) := by
    refine s_asg (e_call (e_cons (e_var rfl) (e_cons (e_call (e_cons (e_var rfl) (e_cons (lst_lit (xs := [0, 1, 3, 8]) (e_cons e_int (e_cons e_int (e_cons e_int (e_cons e_int e_nil)))) (by simp)) e_nil)) (by rw [hR1]; exact e1)) (e_cons (e_call (e_cons (e_var rfl) (e_cons (lst_lit (xs := [2, 4, 9]) (e_cons e_int (e_cons e_int (e_cons e_int e_nil))) (by simp)) e_nil)) (by rw [hR2]; exact e2)) e_nil))) e3) rfl
  have y2 : exS T (callF T (n + 3)) b__law_chain.tl.hd [some (.ref 2), some (.bl g), some (.tup (u.map D.int)), none, none] (σ3.so R2) = some (.nx [some (.ref 2), some (.bl g), some (.tup (u.map D.int)), some (.int x4), none], σ4.so R4) :=
    s_asg (e_call (e_cons (e_var rfl) (e_cons (lst_lit (xs := [1, 2, 3, 9]) (e_cons e_int (e_cons e_int (e_cons e_int (e_cons e_int e_nil)))) (by simp)) e_nil)) (by rw [hR4]; exact e4)) rfl
  have y3 : ∃ (v : List Int) (σ7 : Bs) (E : So), exS T (callF T (n + 3)) b__law_chain.tl.tl.hd [some (.ref 2), some (.bl g), some (.tup (u.map D.int)), some (.int x4), none] (σ4.so R4) = some (.nx [some (.ref 2), some (.bl g), some (.tup (u.map D.int)), some (.int x4), some (.tup (((1 + x5) :: v).map D.int))], σ7.so (R4 ++ E)) ∧ σ7.Ok ∧ v.length ≤ 5 ∧ Rw v := by
    cases g with
    | true =>
      obtain ⟨v, σ7, e7, ok7, l7, w7⟩ := c_some_terms (n := n + 1) (most := 5) ok5 p4 (by omega) b4
      refine ⟨v, σ7, [], ?_, ok7, by simpa using l7, w7⟩
      rw [List.append_nil]
      exact s_asg (e_bin (e_tup (e_cons (e_bin e_int (e_call (e_cons (e_var rfl) (e_cons (e_var rfl) e_nil)) e5) o_add) e_nil) (len_i rfl)) (e_call (e_cons (e_var rfl) (e_cons (e_ite_t (e_var rfl) e_int) (e_cons (e_var rfl) e_nil))) e7) (o_addT (by simp; omega))) rfl
    | false =>
      obtain ⟨x6, σ6, e6, ok6, m6⟩ := c_pick (n := n + 1) (xs := [0, 1, 2]) (R := R4 ++ [.lst ([0, 1, 2].map D.int)]) (k := R4.length) ok5 (p4.app (Pl.ints _)) app_at (by simp) (by simp)
      have b6 : 0 ≤ x6 ∧ x6 ≤ 2 := by simp at m6; omega
      obtain ⟨v, σ7, e7, ok7, l7, w7⟩ := c_some_terms (n := n + 1) (R := R4 ++ [.lst ([0, 1, 2].map D.int)]) ok6 (p4.app (Pl.ints _)) (by omega : 0 ≤ x6 ∧ x6 ≤ 8) b4
      refine ⟨v, σ7, [.lst ([0, 1, 2].map D.int)], ?_, ok7, by omega, w7⟩
      exact s_asg (e_bin (e_tup (e_cons (e_bin e_int (e_call (e_cons (e_var rfl) (e_cons (e_var rfl) e_nil)) e5) o_add) e_nil) (len_i rfl)) (e_call (e_cons (e_var rfl) (e_cons (e_ite_f (e_var rfl) (e_call (e_cons (e_var rfl) (e_cons (lst_lit (xs := [0, 1, 2]) (e_cons e_int (e_cons e_int (e_cons e_int e_nil))) (by simp)) e_nil)) e6)) (e_cons (e_var rfl) e_nil))) e7) (o_addT (by simp; omega))) rfl
  obtain ⟨v, σ7, E, y3, ok7, l7, w7⟩ := y3
  refine ⟨u, (1 + x5) :: v, σ7, ?_, ok7, w3, fun t ht => ?_, by omega, by simp, by simp; omega⟩
  · have y4 : exSs T (callF T (n + 3)) b__law_chain.tl.tl.tl [some (.ref 2), some (.bl g), some (.tup (u.map D.int)), some (.int x4), some (.tup (((1 + x5) :: v).map D.int))] (σ7.so (R4 ++ E)) = some (.rt (chn u ((1 + x5) :: v)), σ7.so (R4 ++ E)) :=
      exSs_rt (s_ret (e_tup (e_cons (e_var rfl) (e_cons (e_var rfl) e_nil)) (len_i rfl)))
    rw [callF_of (ds := [.ref 2, .bl g]) f__law_chain rfl (exSs_nx y1 (exSs_nx y2 (exSs_nx y3 y4))), ← hR4, ← hR2, ← hR1]
    simp only [List.append_assoc]
    rw [gc_bag (chn_bel _ _) hR]
  · rcases List.mem_cons.mp ht with rfl | ht
    · omega
    · exact w7 t ht
end L81
end

section
set_option maxHeartbeats 1000000
namespace L81
open PySem Mn
variable {S : So} {Q : NSq} {σ σ' : Bs} {R E : So}
local macro_rules
  | `(tactic| keq_rows) => `(tactic| (repeat' (first
      | with_reducible exact e_int | with_reducible exact e_bl | with_reducible exact e_non | with_reducible exact e_str | with_reducible exact e_nil | with_reducible exact s_pass | with_reducible exact eo_none | with_reducible exact o_add | with_reducible exact o_sub | with_reducible exact c_eq | with_reducible exact c_lt | with_reducible exact c_le | with_reducible exact c_gt | with_reducible exact c_ge | with_reducible exact c_ne
      | ((with_reducible refine' ss_nl ?mnh); (case mnh => exact rfl)) | ((with_reducible refine' e_var ?mnh); (case mnh => exact rfl)) | ((with_reducible refine' asg_i ?mnh); (case mnh => exact rfl)) | ((with_reducible refine' at_i ?mnh); (case mnh => exact rfl)) | ((with_reducible refine' ty_i ?mnh); (case mnh => exact rfl)) | ((with_reducible refine' mv_i ?mnh); (case mnh => exact rfl)) | ((with_reducible refine' bi_i ?mnh); (case mnh => exact rfl)) | ((with_reducible refine' e_glob ?mnh); (case mnh => kernel_rfl)) | (with_reducible exact div_lit (by decide)) | ((with_reducible refine' len_i ?mnh); (case mnh => exact rfl))
      | with_reducible refine' exSs_rt (s_ret ?_) | with_reducible refine' exSs_nx (s_asg ?_ ?_) ?_ | with_reducible refine' exSs_nx (s_ex ?_) ?_ | with_reducible refine' exSs_nx (s_put ?_ ?_ ?_ ?_) ?_ | with_reducible refine' t_of ?_ | with_reducible refine' e_bin ?_ ?_ ?_ | with_reducible refine' e_neg ?_ | with_reducible refine' e_cons ?_ ?_ | with_reducible refine' e_tup ?_ ?_ | with_reducible refine' e_lst ?_ ?_ | with_reducible refine' e_ix ?_ ?_ ?_ | with_reducible refine' e_cmp ?_ ?_ ?_ | with_reducible refine' e_not ?_ | with_reducible refine' e_call ?_ ?_ | with_reducible refine' e_bi ?_ ?_ | with_reducible refine' e_me ?_ ?_ ?_ ?_ | with_reducible refine' eo_some ?_ | with_reducible refine' e_sl ?_ ?_ ?_ ?_ | with_reducible refine' e_rev ?_ ?_ | with_reducible refine' ix_tup ?_
      | (with_reducible refine' e_callk ?_ ?_ (by kernel_rfl) rfl ?_)
      | keq_hits
      | with_reducible refine' o_mul ?_ | with_reducible refine' o_fdiv ?_ | with_reducible refine' o_mod ?_)))
  | `(tactic| kas_types) => `(tactic| (repeat' (first
      | exact Sz.id (by assumption) | exact Sz.lit (n := 16) (by decide) | with_reducible refine' Sz.mul ?_ ?_ | with_reducible refine' Sz.add ?_ ?_ | with_reducible refine' Sz.sub ?_ ?_ | with_reducible refine' Sz.neg ?_ | with_reducible refine' Sz.div ?_)))
  | `(tactic| lcg_sub) => `(tactic| ((refine' mul_sz ?mza ?mzb ?mzc); (case mza => kas_types); (case mzb => kas_types); (case mzc => omega)))
theorem tm_turn {u w : List Int} {t : Int} (k : Nat) : tm (u ++ [t]) (w ++ [t]) k = tm u (t :: w) k := by
  unfold tm
  rcases Nat.lt_trichotomy k u.length with h | h | h
  · rw [if_pos (by simp; omega), if_pos h, List.getElem?_append_left h]
  · rw [if_pos (by simp; omega), if_neg (by omega), List.getElem?_append_right (by omega), h]
    simp
  · rw [if_neg (by simp; omega), if_neg (by omega)]
    simp only [List.length_append, List.length_cons, List.length_nil, Nat.zero_add]
    have e : k - u.length = k - (u.length + 1) + 1 := by omega
    rw [e]
    generalize k - (u.length + 1) = j
    have hm := Nat.mod_lt j (show 0 < w.length + 1 by omega)
    have e2 : (j + 1) % (w.length + 1) = (j % (w.length + 1) + 1) % (w.length + 1) := by rw [Nat.mod_add_mod]
    rw [e2]
    generalize j % (w.length + 1) = i at *
    rcases Nat.lt_or_ge i w.length with h1 | h1
    · rw [Nat.mod_eq_of_lt (by omega), List.getElem?_append_left h1, List.getElem?_cons_succ]
    · have : i = w.length := by omega
      subst this
      rw [Nat.mod_self, List.getElem?_append_right (by omega)]
      simp
theorem tm_rep {u w : List Int} {r : Nat} (h0 : w ≠ []) (k : Nat) : tm u (List.replicate (r + 1) w).flatten k = tm u w k := by
  unfold tm
  split
  · rfl
  · have hl : 0 < w.length := List.length_pos_iff.mpr h0
    rw [flat_len]
    have hm := Nat.mod_lt (k - u.length) (Nat.mul_pos (Nat.succ_pos r) hl)
    rw [flat_at _ _ hm, Nat.mod_mod_of_dvd _ (Nat.dvd_mul_left _ _)]
theorem rnd_rep {w : List Int} {s : Kd Q} (h : Rnd Q w s) {r : Nat} (hr : (r + 1) * w.length ≤ 12) : Rnd Q (List.replicate (r + 1) w).flatten s := by
  refine ⟨?_, ?_, by rw [flat_len]; exact hr, ⟨h.fix.1, fix_rep h.fix _⟩, h.irr, h.tld⟩
  · intro t ht
    rw [List.mem_flatten] at ht
    obtain ⟨v, hv, ht⟩ := ht
    rw [(List.mem_replicate.mp hv).2] at ht
    exact h.rw t ht
  · intro e
    have := congrArg List.length e
    rw [flat_len, List.length_nil] at this
    have hl : 0 < w.length := List.length_pos_iff.mpr h.ne
    have h2 := Nat.mul_pos (Nat.succ_pos r) hl
    rw [this] at h2
    exact Nat.lt_irrefl 0 h2
theorem l_other {n : Nat} {c m : Option D} {k : Nat → Int} : ∀ (xs : List D) (u w : List Int) (s : Kd Q) (t : Option D), Rw u → Rnd Q w s → u.length ≤ 8 → w.length ≤ 6 → (∀ i, k i = tm u w i) →
    ∃ (u' w' : List Int) (s' : Kd Q) (t' : Option D), forL none (fun x ρ S => (asgG (.nm 2) x ρ).bind fun ρ => exSs T (callF T n) b__law_otherwise.tl.hd.bd ρ S) xs [some (.ref 2), c, t, m, some (.tup (u.map D.int)), some (.tup (w.map D.int))] S =
      some (.nx [some (.ref 2), c, t', m, some (.tup (u'.map D.int)), some (.tup (w'.map D.int))], S) ∧ Rw u' ∧ Rnd Q w' s' ∧ u'.length ≤ 8 ∧ w'.length ≤ 6 ∧ (∀ i, k i = tm u' w' i)
  | [], u, w, s, t, hu, h, h1, h2, h3 => ⟨u, w, s, t, rfl, hu, h, h1, h2, h3⟩
  | x :: xs, u, w, s, t, hu, h, h1, h2, h3 => by
    have hlen : biV .len [.tup (u.map D.int)] S = some (.int u.length, S) := len_map
    by_cases hc : u.length < 8
    · have hne := h.ne
      have hrot := h.rot 1
      cases w with
      | nil => exact absurd rfl hne
      | cons y w =>
        have hy := h.rw y List.mem_cons_self
        obtain ⟨u', w', s', t', e, e2⟩ := l_other (n := n) (c := c) (m := m) (k := k) xs (u ++ [y]) (w ++ [y]) (act ((y :: w).drop 1) s) (some x) (Rw.app.mpr ⟨hu, fun t ht => by simp at ht; rw [ht]; exact hy⟩) hrot (by simp; omega) (by simpa using h2) (fun i => by rw [tm_turn]; exact h3 i)
        refine ⟨u', w', s', t', ?_, e2⟩
        rw [forL_cons_nx (w := none) (ρ1 := [some (.ref 2), c, some x, m, some (.tup ((u ++ [y]).map D.int)), some (.tup ((w ++ [y]).map D.int))]) (S1 := S) ?_ trivial]
        · exact e
        · have ρ0 : En := [some (.ref 2), c, some x, m, some (.tup (u.map D.int)), some (.tup ((y :: w).map D.int))]
          have q1 := e_to (S0 := S) (T := T) (cf := callF T n) (ρ := [some (.ref 2), c, some x, m, some (.tup (u.map D.int)), some (.tup ((y :: w).map D.int))]) (a := .var 5) (b := .int 1) (xs := (y :: w).map D.int) (i := 1) (e_var rfl) e_int (by simp)
          have q2 := e_from (S0 := S) (T := T) (cf := callF T n) (ρ := [some (.ref 2), c, some x, m, some (.tup (u.map D.int)), some (.tup ((y :: w).map D.int))]) (a := .var 5) (b := .int 1) (xs := (y :: w).map D.int) (i := 1) (e_var rfl) e_int (by simp)
          simp only [List.length_cons] at h2
          have r1 : opV .add (.tup (u.map D.int)) (.tup (((y :: w).map D.int).take 1)) S = some (.tup ((u ++ [y]).map D.int), S) := by
            rw [o_addT (by simp; omega)]
            simp
          have r2 : opV .add (.tup (((y :: w).map D.int).drop 1)) (.tup (((y :: w).map D.int).take 1)) S = some (.tup ((w ++ [y]).map D.int), S) := by
            rw [o_addT (by simp; omega)]
            simp
          exact exSs_nx (s_if_t (t_of (e_cmp (e_bi (e_cons (e_var rfl) e_nil) hlen) e_int (c_lt_t (by omega)))) (exSs_nx (s_asg (e_tup (e_cons (e_bin (e_var rfl) q1 r1) (e_cons (e_bin q2 q1 r2) e_nil)) (len_i rfl)) rfl) ss_nil)) (ss_nl rfl)
    · obtain ⟨u', w', s', t', e, e2⟩ := l_other (n := n) (c := c) (m := m) (k := k) xs u w s (some x) hu h h1 h2 h3
      refine ⟨u', w', s', t', ?_, e2⟩
      rw [forL_cons_nx (w := none) (ρ1 := [some (.ref 2), c, some x, m, some (.tup (u.map D.int)), some (.tup (w.map D.int))]) (S1 := S) ?_ trivial]
      · exact e
      · exact exSs_nx (s_if_f (t_of (e_cmp (e_bi (e_cons (e_var rfl) e_nil) hlen) e_int (c_lt_f (by omega)))) ss_nil) (ss_nl rfl)
theorem c_otherwise {n : Nat} {u w : List Int} {s : Kd Q} (ok : σ.Ok) (hR : Pl R) (hu : Rw u) (h : Rnd Q w s) (hul : u.length ≤ 8) (hwl : w.length ≤ 6) : ∃ (u' w' : List Int) (s' : Kd Q) (σ' : Bs),
    callF T (n + 2) "_law_otherwise" [.ref 2, chn u w] (σ.so R) = some (chn u' w', σ'.so R) ∧ σ'.Ok ∧ Rw u' ∧ Rnd Q w' s' ∧ u'.length ≤ 8 ∧ w'.length ≤ 6 ∧ (∀ i, tm u w i = tm u' w' i) := by
  obtain ⟨r, σ1, e1, ok1, r0, r1⟩ := c_draw (n := n) (b := 3) ok hR (by omega)
  obtain ⟨u1, w1, s1, t1, e2, hu1, h1, l1, l2, htm⟩ := l_other (S := σ1.so R) (n := n + 1) (c := some (chn u w)) (m := none) (k := tm u w) (rangeL 0 r.toNat) u w s none hu h hul hwl (fun i => rfl)
  have hl0 : 0 < w1.length := List.length_pos_iff.mpr h1.ne
  have hq0 : 1 ≤ 6 / w1.length := Nat.div_pos (by omega) hl0
  have hq1 : 6 / w1.length * w1.length ≤ 6 := Nat.div_mul_le_self 6 w1.length
  have hq2 : 6 / w1.length ≤ 6 := Nat.div_le_self _ _
  have ecast : (6 : Int) / (w1.length : Int) = ((6 / w1.length : Nat) : Int) := by simp
  obtain ⟨r2, σ2, e3, ok2, r20, r21⟩ := c_draw (n := n) (b := ((6 / w1.length : Nat) : Int)) ok1 hR (by omega)
  obtain ⟨j, rfl⟩ : ∃ j : Nat, r2 = j := ⟨r2.toNat, by omega⟩
  have hj : (j + 1) * w1.length ≤ 6 := by
    have := Nat.mul_le_mul_right w1.length (show j + 1 ≤ 6 / w1.length by omega)
    omega
  refine ⟨u1, (List.replicate (j + 1) w1).flatten, s1, σ2, ?_, ok2, hu1, rnd_rep h1 (by omega), l1, by rw [flat_len]; exact hj, fun i => by rw [htm, tm_rep h1.ne]⟩
  have y1 : exS T (callF T (n + 1)) b__law_otherwise.hd [some (.ref 2), some (chn u w), none, none, none, none] (σ.so R) = some (.nx [some (.ref 2), some (chn u w), none, none, some (.tup (u.map D.int)), some (.tup (w.map D.int))], σ.so R) :=
    s_asg (e_var rfl) rfl
  have y2 : exS T (callF T (n + 1)) b__law_otherwise.tl.hd [some (.ref 2), some (chn u w), none, none, some (.tup (u.map D.int)), some (.tup (w.map D.int))] (σ.so R) = some (.nx [some (.ref 2), some (chn u w), t1, none, some (.tup (u1.map D.int)), some (.tup (w1.map D.int))], σ1.so R) :=
    s_fr (it_range1 (e_call (e_cons (e_var rfl) (e_cons e_int e_nil)) e1) r0 (by omega)) e2
  have y3 : exS T (callF T (n + 1)) b__law_otherwise.tl.tl.hd [some (.ref 2), some (chn u w), t1, none, some (.tup (u1.map D.int)), some (.tup (w1.map D.int))] (σ1.so R) = some (.nx [some (.ref 2), some (chn u w), t1, some (.int ((6 / w1.length : Nat) : Int)), some (.tup (u1.map D.int)), some (.tup (w1.map D.int))], σ1.so R) := by
    refine s_asg (d := .int ((6 / w1.length : Nat) : Int)) ?_ rfl
    rw [← ecast]
    exact e_bin e_int (e_bi (e_cons (e_var rfl) e_nil) len_map) (o_fdiv (div_sz (m := 4) (by omega) (by unfold Sz; omega) (by omega)))
  have r1' : opV .mul (.tup (w1.map D.int)) (.int (1 + (j : Int))) (σ2.so R) = some (.tup (((List.replicate (j + 1) w1).flatten).map D.int), σ2.so R) := by
    rw [o_mulT (i := 1 + (j : Int)) ⟨by omega, by omega, by rw [List.length_map]; omega, by rw [List.length_map]; omega⟩, show (1 + (j : Int)).toNat = j + 1 by omega, map_flat]
  have y4 : exSs T (callF T (n + 1)) b__law_otherwise.tl.tl.tl [some (.ref 2), some (chn u w), t1, some (.int ((6 / w1.length : Nat) : Int)), some (.tup (u1.map D.int)), some (.tup (w1.map D.int))] (σ1.so R) = some (.rt (chn u1 (List.replicate (j + 1) w1).flatten), σ2.so R) :=
    exSs_rt (s_ret (e_tup (e_cons (e_var rfl) (e_cons (e_bin (e_var rfl) (e_bin e_int (e_call (e_cons (e_var rfl) (e_cons (e_var rfl) e_nil)) e3) o_add) r1') e_nil)) (len_i rfl)))
  rw [callF_of (ds := [.ref 2, chn u w]) f__law_otherwise rfl (exSs_nx y1 (exSs_nx y2 (exSs_nx y3 y4))), gc_bag0 (chn_bel _ _) hR]
theorem c_same {n k k' w w' : Nat} {x y : D} {p : PyData} (h1 : Sh S k w x p) (h2 : Sh S k' w' y p) (hk : k ≤ 60) (hk' : k' ≤ 60) (hw : w ≤ 100000) (hw' : w' ≤ 100000) : callF T (n + 1) "_law_same" [x, y] S = some (.bl true, S) := by
  have := c_eqS (S := S) h1.ok h1.ok
  rw [decide_eq_true rfl] at this
  exact callF_pure f__law_same rfl (exSs_rt (s_ret (e_cmp (e_repr h1 hk hw (e_var rfl)) (e_repr h2 hk' hw' (e_var rfl)) this)))
theorem sh_rp {B : Nat} {v : Kd Q} (h : Rp Q B (tp v) v) (hB : B ≤ 500) : ∃ p, ∀ S, Sh S 2 2004 (tp v) p := by
  obtain ⟨a, b, c, d, e, n1, v1, za, zb, zc, hQ⟩ := h
  have zd : Sz 64 d := Nat.lt_of_le_of_lt n1.rad_le hQ
  rw [e]
  exact ⟨_, fun S => (Sh.tup (ShL.cons (Sh.int (k := 0) (za.mono (by omega))) (ShL.cons (Sh.int (zb.mono (by omega))) (ShL.cons (Sh.int (zc.mono (by omega))) (ShL.cons (Sh.int (zd.mono (by omega))) ShL.nil))))).mono (by omega) (by omega)⟩
theorem sh_ints {ns : List Int} (h : ∀ i ∈ ns, Sz 500 i) : Sh S 2 (501 * ns.length) (.tup (ns.map D.int)) (.tuple (ns.map PyData.int)) := Sh.tup (ShL.ints h)
theorem sh_chn {u w : List Int} (hu : Rw u) (hw : Rw w) (h1 : u.length ≤ 8) (h2 : w.length ≤ 6) : Sh S 3 10000 (chn u w) (.tuple [.tuple (u.map PyData.int), .tuple (w.map PyData.int)]) := by
  have s9 : ∀ {v : List Int}, Rw v → ∀ i ∈ v, Sz 500 i := fun hv i hi => (sz9 (hv i hi)).mono (by omega)
  exact (Sh.tup (ShL.cons (sh_ints (s9 hu)) (ShL.cons (sh_ints (s9 hw)) ShL.nil))).mono (by omega) (by omega)
end L81
end

section
set_option maxHeartbeats 1000000
namespace L81
open PySem Mn
variable {S : So} {Q : NSq} {σ σ' : Bs} {R E : So}
local macro_rules
  | `(tactic| keq_rows) => `(tactic| (repeat' (first
      | with_reducible exact e_int | with_reducible exact e_bl | with_reducible exact e_non | with_reducible exact e_str | with_reducible exact e_nil | with_reducible exact s_pass | with_reducible exact eo_none | with_reducible exact o_add | with_reducible exact o_sub | with_reducible exact c_eq | with_reducible exact c_lt | with_reducible exact c_le | with_reducible exact c_gt | with_reducible exact c_ge | with_reducible exact c_ne
      | ((with_reducible refine' ss_nl ?mnh); (case mnh => exact rfl)) | ((with_reducible refine' e_var ?mnh); (case mnh => exact rfl)) | ((with_reducible refine' asg_i ?mnh); (case mnh => exact rfl)) | ((with_reducible refine' at_i ?mnh); (case mnh => exact rfl)) | ((with_reducible refine' ty_i ?mnh); (case mnh => exact rfl)) | ((with_reducible refine' mv_i ?mnh); (case mnh => exact rfl)) | ((with_reducible refine' bi_i ?mnh); (case mnh => exact rfl)) | ((with_reducible refine' e_glob ?mnh); (case mnh => kernel_rfl)) | (with_reducible exact div_lit (by decide)) | ((with_reducible refine' len_i ?mnh); (case mnh => exact rfl))
      | with_reducible refine' exSs_rt (s_ret ?_) | with_reducible refine' exSs_nx (s_asg ?_ ?_) ?_ | with_reducible refine' exSs_nx (s_ex ?_) ?_ | with_reducible refine' exSs_nx (s_put ?_ ?_ ?_ ?_) ?_ | with_reducible refine' t_of ?_ | with_reducible refine' e_bin ?_ ?_ ?_ | with_reducible refine' e_neg ?_ | with_reducible refine' e_cons ?_ ?_ | with_reducible refine' e_tup ?_ ?_ | with_reducible refine' e_lst ?_ ?_ | with_reducible refine' e_ix ?_ ?_ ?_ | with_reducible refine' e_cmp ?_ ?_ ?_ | with_reducible refine' e_not ?_ | with_reducible refine' e_call ?_ ?_ | with_reducible refine' e_bi ?_ ?_ | with_reducible refine' e_me ?_ ?_ ?_ ?_ | with_reducible refine' eo_some ?_ | with_reducible refine' e_sl ?_ ?_ ?_ ?_ | with_reducible refine' e_rev ?_ ?_ | with_reducible refine' ix_tup ?_
      | (with_reducible refine' e_callk ?_ ?_ (by kernel_rfl) rfl ?_)
      | keq_hits
      | with_reducible refine' o_mul ?_ | with_reducible refine' o_fdiv ?_ | with_reducible refine' o_mod ?_)))
  | `(tactic| kas_types) => `(tactic| (repeat' (first
      | exact Sz.id (by assumption) | exact Sz.lit (n := 16) (by decide) | with_reducible refine' Sz.mul ?_ ?_ | with_reducible refine' Sz.add ?_ ?_ | with_reducible refine' Sz.sub ?_ ?_ | with_reducible refine' Sz.neg ?_ | with_reducible refine' Sz.div ?_)))
  | `(tactic| lcg_sub) => `(tactic| ((refine' mul_sz ?mza ?mzb ?mzc); (case mza => kas_types); (case mzb => kas_types); (case mzc => omega)))
theorem slope0 {n : Nat} {w : List Int} {s : Kd Q} (h : Rnd Q w s) : callF T (n + 5) "slope_of" [chn [] w] S = some (tp s, S) := (h.slope (n := n) (u := []) (fun _ k => absurd k List.not_mem_nil) (by simp)).1
theorem tab_c_pos {w : List Int} (hne : w ≠ []) (hps : Ps w) : 0 < (tab w).2.2.1 := by
  cases w with
  | nil => exact absurd rfl hne
  | cons t w => have := (tab_pos hps).2.2.1; omega
theorem c_slopes_right {n m0 : Nat} {w : List Int} {s : Kd Q} (h : Rnd Q w s) (hm : 1 ≤ m0) (hd : dsc w = (m0 : Int) * m0 * (Q.d : Int)) (hl : w.length ≤ 6) :
    callF T (n + 7) "_law_are_slopes_right" [.tup (w.map D.int), .tup [.int m0, .int (Q.d : Int)]] S = some (.bl true, S) := by
  have hv := h.rev
  have hlr : w.reverse.length ≤ 6 := by simpa using hl
  have r1 := h.rp
  have r2 := hv.rp
  obtain ⟨P1, p1⟩ := sh_rp r1 (by omega)
  obtain ⟨P2, p2⟩ := sh_rp r2 (by omega)
  have f1 := fun S => c_round_slope (S := S) (n := n + 3) h hm hd hl
  have f2 := fun S => c_round_slope (S := S) (n := n + 3) hv hm (by rw [dsc_rev]; exact hd) hlr
  have hp := h.fix.1
  -- the lists that are shown
  have t1 : ∀ S, Sh S 3 8100 (.ref S.length) P1 → True := fun _ _ => trivial
  have g1 := fun S => slope0 (S := S) (n := n + 1) h
  have g2 := fun S => slope0 (S := S) (n := n + 1) hv
  have mir := fun S => c_mirrored (S := S) (n := n + 5) (u := []) (w := w)
  have s9 : ∀ {v : List Int}, Rw v → ∀ i ∈ v, Sz 500 i := fun hv i hi => (sz9 (hv i hi)).mono (by omega)
  have rw0 : Rw [] := fun _ k => absurd k List.not_mem_nil
  generalize hs' : -(1 / cj s) = s' at *
  -- 1
  have x1 : exS T (callF T (n + 6)) b__law_are_slopes_right.hd [some (.tup (w.map D.int)), some (.tup [.int m0, .int (Q.d : Int)]), none, none, none, none, none, none, none, none, none, none] S =
      some (.nx [some (.tup (w.map D.int)), some (.tup [.int m0, .int (Q.d : Int)]), none, none, some (chn [] w), some (chn [] w.reverse), none, none, none, none, none, none], S) := by
    refine s_asg (e_tup (e_cons (e_tup (e_cons (e_tup e_nil (len_i rfl)) (e_cons (e_var rfl) e_nil)) (len_i rfl)) (e_cons (e_tup (e_cons (e_tup e_nil (len_i rfl)) (e_cons (e_biA (d := .tup (w.reverse.map D.int)) (E := [.lst (w.map D.int)]) (e_cons (e_biN (c := .lst (w.map D.int)) (e_cons (e_var rfl) e_nil) rfl) e_nil) ?_ (ints_bel _ _)) e_nil)) (len_i rfl)) e_nil)) (len_i rfl)) rfl
    simp only [biV, Mn.listOf, get_new, Option.map_some]
    rw [List.map_reverse]
  have x2 : exS T (callF T (n + 6)) b__law_are_slopes_right.tl.hd [some (.tup (w.map D.int)), some (.tup [.int m0, .int (Q.d : Int)]), none, none, some (chn [] w), some (chn [] w.reverse), none, none, none, none, none, none] S =
      some (.nx [some (.tup (w.map D.int)), some (.tup [.int m0, .int (Q.d : Int)]), none, none, some (chn [] w), some (chn [] w.reverse), some (tp s), some (tp s'), none, none, none, none], S) :=
    s_asg (e_tup (e_cons (e_call (e_cons (e_var rfl) (e_cons (e_var rfl) e_nil)) (f1 S)) (e_cons (e_call (e_cons (e_ix (e_var rfl) e_int (ix_tup rfl)) (e_cons (e_var rfl) e_nil)) (f2 S)) e_nil)) (len_i rfl)) rfl
  have x3 : exS T (callF T (n + 6)) b__law_are_slopes_right.tl.tl.hd [some (.tup (w.map D.int)), some (.tup [.int m0, .int (Q.d : Int)]), none, none, some (chn [] w), some (chn [] w.reverse), some (tp s), some (tp s'), none, none, none, none] S =
      some (.nx [some (.tup (w.map D.int)), some (.tup [.int m0, .int (Q.d : Int)]), some (.ref S.length), none, some (chn [] w), some (chn [] w.reverse), some (tp s), some (tp s'), none, none, none, none], S ++ [.lst [tp s, tp s, tp s', tp s']]) :=
    s_asg (e_lst (e_cons (e_call (e_cons (e_var rfl) e_nil) (g1 S)) (e_cons (e_callk (pm := [0]) e_nil (e_cons (e_var rfl) e_nil) (by kernel_rfl) rfl (g1 S)) (e_cons (e_call (e_cons (e_var rfl) e_nil) (g2 S)) (e_cons (e_call (e_cons (e_call (e_cons (e_var rfl) e_nil) (mir S)) e_nil) (g2 S)) e_nil)))) (len_i rfl)) rfl
  generalize hS1 : S ++ [C.lst [tp s, tp s, tp s', tp s']] = S1 at *
  have hr1 : S1[S.length]? = some (.lst [tp s, tp s, tp s', tp s']) := by rw [← hS1]; exact get_new
  have z4 : ∀ S, ShL S 2 8100 [tp s, tp s, tp s', tp s'] [P1, P1, P2, P2] := fun S => (ShL.cons (p1 S) (ShL.cons (p1 S) (ShL.cons (p2 S) (ShL.cons (p2 S) ShL.nil)))).mono (by omega) (by omega)
  have sm1 : callF T (n + 6) "_law_same" [.ref S.length, .ref S1.length] (S1 ++ [.lst [tp s, tp s, tp s', tp s']]) = some (.bl true, S1 ++ [.lst [tp s, tp s, tp s', tp s']]) := by
    refine c_same (Sh.lst (S := S1 ++ [.lst [tp s, tp s, tp s', tp s']]) (r := S.length) ?_ (z4 _)) (Sh.lst get_new (z4 _)) (by omega) (by omega) (by omega) (by omega)
    rw [List.getElem?_append_left (by rw [← hS1]; simp)]
    exact hr1
  have shc : ∀ S, Sh S 3 10000 (chn [] w.reverse) _ := fun S => sh_chn (S := S) rw0 hv.rw (by simp) hlr
  have hrw := h.rw
  obtain ⟨⟨a1, a2, a3, a4⟩, b1, b2, b3, b4⟩ := tab_le hrw hl
  have htab := fun S => c_table (S := S) (n := n + 5) hrw (by omega : w.length ≤ 1000)
  obtain ⟨X, Y, Z, eq1, eq2, eq3, eq4⟩ := c_slope_equation (S := S1 ++ [.lst [tp s, tp s, tp s', tp s']]) (n := n) h
  -- back and turned
  obtain ⟨o1, e1, k1⟩ := c_other_root (S := S1 ++ [.lst [tp s, tp s, tp s', tp s']]) (n := n + 5) r1
  have hcj : cj s ≠ 0 := by
    intro k
    have k2 := congrArg cj k
    rw [cj_cj] at k2
    have h3 : cj (0 : Kd Q) = 0 := by
      have := cj_int (Q := Q) 0
      rw [Kd.c0] at this
      exact this
    rw [h3] at k2
    grind
  obtain ⟨o2, e2, k2⟩ := c_surd_back (S := S1 ++ [.lst [tp s, tp s, tp s', tp s']]) (n := n + 3) k1 hcj (by omega)
  obtain ⟨o3, e3, k3⟩ := c_surd_turned (S := S1 ++ [.lst [tp s, tp s, tp s', tp s']]) (n := n + 5) k2
  rw [hs'] at k3
  have k4 : o3 = tp s' := k3.tp
  rw [k4] at e3
  have hS2 : ∃ S2, S1 ++ [.lst [tp s, tp s, tp s', tp s']] = S2 := ⟨_, rfl⟩
  obtain ⟨S2, hS2⟩ := hS2
  rw [hS2] at sm1 eq1 e1 e2 e3
  have x4 : exS T (callF T (n + 6)) b__law_are_slopes_right.tl.tl.tl.hd [some (.tup (w.map D.int)), some (.tup [.int m0, .int (Q.d : Int)]), some (.ref S.length), none, some (chn [] w), some (chn [] w.reverse), some (tp s), some (tp s'), none, none, none, none] S1 =
      some (.nx [some (.tup (w.map D.int)), some (.tup [.int m0, .int (Q.d : Int)]), some (.ref S.length), none, some (chn [] w), some (chn [] w.reverse), some (tp s), some (tp s'), none, none, none, none], S2) := by
    have ya : evE T (callF T (n + 6)) (.not (.call "_law_same" (.cons (.var 2) (.cons (.lst (.cons (.var 6) (.cons (.var 6) (.cons (.var 7) (.cons (.var 7) .nil))))) .nil)))) [some (.tup (w.map D.int)), some (.tup [.int m0, .int (Q.d : Int)]), some (.ref S.length), none, some (chn [] w), some (chn [] w.reverse), some (tp s), some (tp s'), none, none, none, none] S1 = some (.bl false, S2) := by
      have q := e_lst (T := T) (cf := callF T (n + 6)) (ρ := [some (.tup (w.map D.int)), some (.tup [.int m0, .int (Q.d : Int)]), some (.ref S.length), none, some (chn [] w), some (chn [] w.reverse), some (tp s), some (tp s'), none, none, none, none]) (S0 := S1) (es := .cons (.var 6) (.cons (.var 6) (.cons (.var 7) (.cons (.var 7) .nil)))) (ds := [tp s, tp s, tp s', tp s']) (e_cons (e_var rfl) (e_cons (e_var rfl) (e_cons (e_var rfl) (e_cons (e_var rfl) e_nil)))) (len_i rfl)
      rw [hS2] at q
      exact e_not (e_call (e_cons (e_var rfl) (e_cons q e_nil)) sm1)
    have yb : evE T (callF T (n + 6)) (.not (.call "_law_same" (.cons (.callk "mirrored_chain" .nil ["chain"] (.cons (.var 4) .nil)) (.cons (.var 5) .nil)))) [some (.tup (w.map D.int)), some (.tup [.int m0, .int (Q.d : Int)]), some (.ref S.length), none, some (chn [] w), some (chn [] w.reverse), some (tp s), some (tp s'), none, none, none, none] S2 = some (.bl false, S2) := by
      have q := c_same (n := n + 5) (shc S2) (shc S2) (by omega) (by omega) (by omega) (by omega)
      exact e_not (e_call (ds := [chn [] w.reverse, chn [] w.reverse]) (e_cons (e_callk (pm := [0]) e_nil (e_cons (e_var rfl) e_nil) (by kernel_rfl) rfl (mir S2)) (e_cons (e_var rfl) e_nil)) q)
    exact s_if_f (t_of (e_or_f ya (e_or1 yb))) ss_nil
  have x5 : exS T (callF T (n + 6)) b__law_are_slopes_right.tl.tl.tl.tl.hd [some (.tup (w.map D.int)), some (.tup [.int m0, .int (Q.d : Int)]), some (.ref S.length), none, some (chn [] w), some (chn [] w.reverse), some (tp s), some (tp s'), none, none, none, none] S2 =
      some (.nx [some (.tup (w.map D.int)), some (.tup [.int m0, .int (Q.d : Int)]), some (.ref S.length), none, some (chn [] w), some (chn [] w.reverse), some (tp s), some (tp s'), none, none, none, none], S2) :=
    s_if_f (t_of (e_not (e_call (e_cons (e_call (e_cons (e_call (e_cons (e_call (e_cons (e_var rfl) e_nil) e1) e_nil) e2) e_nil) e3) (e_cons (e_var rfl) e_nil)) (c_same (p2 _) (p2 _) (by omega) (by omega) (by omega) (by omega))))) ss_nil
  have x6 : exS T (callF T (n + 6)) b__law_are_slopes_right.tl.tl.tl.tl.tl.hd [some (.tup (w.map D.int)), some (.tup [.int m0, .int (Q.d : Int)]), some (.ref S.length), none, some (chn [] w), some (chn [] w.reverse), some (tp s), some (tp s'), none, none, none, none] S2 =
      some (.nx [some (.tup (w.map D.int)), some (.tup [.int m0, .int (Q.d : Int)]), some (.ref S.length), none, some (chn [] w), some (chn [] w.reverse), some (tp s), some (tp s'), some (.int (tab w).1), some (.int (tab w).2.1), some (.int (tab w).2.2.1), some (.int (tab w).2.2.2)], S2) :=
    s_asg (e_call (e_cons (e_var rfl) e_nil) (htab _)) rfl
  -- the equation
  have hc1 : 0 < (tab w).2.2.1 := tab_c_pos h.ne h.rw.ps
  have hquad := h.fix.quad h.rw.ps
  obtain ⟨g, A, B, Cc, q1, q2, q3, q4, q5, q6, q7, q8⟩ := gcd_pos3 (x := (tab w).2.2.1) (y := (tab w).2.2.2 - (tab w).1) (z := -(tab w).2.1) hc1
  have hu : X = A ∧ Y = B ∧ Z = Cc := by
    refine eq_uniq h.irr eq2 q7 eq3 q6 eq4 ?_
    have hg := Kd.cne (Q := Q) (show g ≠ 0 by omega)
    have m1 : ((tab w).2.2.1 : Kd Q) * s * s + (((tab w).2.2.2 - (tab w).1 : Int) : Kd Q) * s + ((-(tab w).2.1 : Int) : Kd Q) = 0 := by
      rw [Kd.csub, Kd.cneg]
      grind
    rw [q3, q4, q5, Kd.cmul, Kd.cmul, Kd.cmul] at m1
    have : (g : Kd Q) * ((A : Kd Q) * s * s + (B : Kd Q) * s + (Cc : Kd Q)) = 0 := by grind
    grind
  obtain ⟨rfl, rfl, rfl⟩ := hu
  have zg : Sz 30 g := by unfold Sz; omega
  have dg : divOk g := div_sz q1 zg (by omega)
  have zX : Sz 40 X := by
    have : X = (tab w).2.2.1 / g := by rw [q3, Int.mul_ediv_cancel_left _ (by omega)]
    rw [this]
    exact Sz.div (by unfold Sz; omega)
  have zY : Sz 40 Y := by
    have : Y = ((tab w).2.2.2 - (tab w).1) / g := by rw [q4, Int.mul_ediv_cancel_left _ (by omega)]
    rw [this]
    exact Sz.div (by unfold Sz; omega)
  have zZ : Sz 40 Z := by
    have : Z = (-(tab w).2.1) / g := by rw [q5, Int.mul_ediv_cancel_left _ (by omega)]
    rw [this]
    exact Sz.div (by unfold Sz; omega)
  have x7 : exS T (callF T (n + 6)) b__law_are_slopes_right.tl.tl.tl.tl.tl.tl.hd [some (.tup (w.map D.int)), some (.tup [.int m0, .int (Q.d : Int)]), some (.ref S.length), none, some (chn [] w), some (chn [] w.reverse), some (tp s), some (tp s'), some (.int (tab w).1), some (.int (tab w).2.1), some (.int (tab w).2.2.1), some (.int (tab w).2.2.2)] S2 =
      some (.nx [some (.tup (w.map D.int)), some (.tup [.int m0, .int (Q.d : Int)]), some (.ref S.length), some (.int g), some (chn [] w), some (chn [] w.reverse), some (tp s), some (tp s'), some (.int (tab w).1), some (.int (tab w).2.1), some (.int (tab w).2.2.1), some (.int (tab w).2.2.2)], S2) := by
    refine s_asg (d := .int g) ?_ rfl
    have : (Int.gcd (Int.gcd (tab w).2.2.1 ((tab w).2.2.2 - (tab w).1)) (tab w).2.1 : Int) = g := by rw [q2, Int.gcd_neg]
    rw [← this]
    exact e_call (e_cons (e_call (e_cons (e_var rfl) (e_cons (e_bin (e_var rfl) (e_var rfl) o_sub) e_nil)) c_divisor) (e_cons (e_var rfl) e_nil)) c_divisor
  have sheq : Sh S2 2 1503 (.tup [.int X, .int Y, .int Z]) _ := (Sh.tup (ShL.cons (Sh.int (k := 0) (zX.mono (by omega))) (ShL.cons (Sh.int (zY.mono (by omega))) (ShL.cons (Sh.int (zZ.mono (by omega))) ShL.nil)))).mono (by omega) (by omega)
  have x8 : exS T (callF T (n + 6)) b__law_are_slopes_right.tl.tl.tl.tl.tl.tl.tl.hd [some (.tup (w.map D.int)), some (.tup [.int m0, .int (Q.d : Int)]), some (.ref S.length), some (.int g), some (chn [] w), some (chn [] w.reverse), some (tp s), some (tp s'), some (.int (tab w).1), some (.int (tab w).2.1), some (.int (tab w).2.2.1), some (.int (tab w).2.2.2)] S2 =
      some (.nx [some (.tup (w.map D.int)), some (.tup [.int m0, .int (Q.d : Int)]), some (.ref S.length), some (.int g), some (chn [] w), some (chn [] w.reverse), some (tp s), some (tp s'), some (.int (tab w).1), some (.int (tab w).2.1), some (.int (tab w).2.2.1), some (.int (tab w).2.2.2)], S2) := by
    have d1 : (tab w).2.2.1 / g = X := by rw [q3, Int.mul_ediv_cancel_left _ (by omega)]
    have d2 : ((tab w).2.2.2 - (tab w).1) / g = Y := by rw [q4, Int.mul_ediv_cancel_left _ (by omega)]
    have d3 : (-(tab w).2.1) / g = Z := by rw [q5, Int.mul_ediv_cancel_left _ (by omega)]
    have y : evE T (callF T (n + 6)) (.tup (.cons (.bin .fdiv (.var 10) (.var 3)) (.cons (.bin .fdiv (.bin .sub (.var 11) (.var 8)) (.var 3)) (.cons (.bin .fdiv (.neg (.var 9)) (.var 3)) .nil)))) [some (.tup (w.map D.int)), some (.tup [.int m0, .int (Q.d : Int)]), some (.ref S.length), some (.int g), some (chn [] w), some (chn [] w.reverse), some (tp s), some (tp s'), some (.int (tab w).1), some (.int (tab w).2.1), some (.int (tab w).2.2.1), some (.int (tab w).2.2.2)] S2 = some (.tup [.int X, .int Y, .int Z], S2) := by
      rw [← d1, ← d2, ← d3]
      exact e_tup (e_cons (e_bin (e_var rfl) (e_var rfl) (o_fdiv dg)) (e_cons (e_bin (e_bin (e_var rfl) (e_var rfl) o_sub) (e_var rfl) (o_fdiv dg)) (e_cons (e_bin (e_neg (e_var rfl)) (e_var rfl) (o_fdiv dg)) e_nil))) (len_i rfl)
    exact s_if_f (t_of (e_not (e_call (e_cons (e_call (e_cons (e_var rfl) e_nil) eq1) (e_cons y e_nil)) (c_same sheq sheq (by omega) (by omega) (by omega) (by omega))))) ss_nil
  -- the end
  obtain ⟨i, J, ht, ec⟩ := c_chain_of (S := S2) (n := n) h
  obtain ⟨rt1, rt2⟩ := told_rnd h ht
  have ec2 : callF T (n + 6) "slope_of" [chn (w.take i) ((w.take J).drop i)] S2 = some (tp s, S2) := by
    have := (rt1.slope (S := S2) (n := n + 1) (u := w.take i) (fun t ht => h.rw t (List.mem_of_mem_take ht)) (by simp; omega)).1
    rw [rt2] at this
    exact this
  obtain ⟨sg, es, ks⟩ := c_surd_sign (S := S2) (n := n + 5) r1 (by omega)
  obtain ⟨wp, ew, kw1, kw2⟩ := c_whole_part (S := S2) (n := n + 4) r1 (by omega)
  have hsg : sg = 1 := by
    rcases ks with ⟨h, _⟩ | ⟨_, h⟩ | ⟨_, h⟩
    · exact h
    · grind
    · grind
  have hlt : s < 1 := by
    have hl : 0 < w.length := List.length_pos_iff.mpr h.ne
    have := (lf_step h (j := w.length - 1) (by omega)).2.2
    rw [show w.length - 1 + 1 = w.length by omega, lf_end] at this
    exact this
  have hwp : wp = 0 := floor_uniq kw1 kw2 (by rw [Kd.c0]; grind) (by rw [Kd.c0]; grind)
  subst hsg
  subst hwp
  have sh10 : ∀ S, ShL S 1 1002 [.int 1, .int 0] _ := fun S => (ShL.cons (Sh.int (k := 0) (Sz.lit (by decide))) (ShL.cons (Sh.int (Sz.lit (by decide))) ShL.nil)).mono (by omega) (by omega)
  have sm2 : callF T (n + 6) "_law_same" [.ref S2.length, .ref (S2 ++ [C.lst [.int 1, .int 0]]).length] (S2 ++ [.lst [.int 1, .int 0]] ++ [.lst [.int 1, .int 0]]) = some (.bl true, S2 ++ [.lst [.int 1, .int 0]] ++ [.lst [.int 1, .int 0]]) := by
    refine c_same (Sh.lst (r := S2.length) ?_ (sh10 _)) (Sh.lst get_new (sh10 _)) (by omega) (by omega) (by omega) (by omega)
    rw [List.getElem?_append_left (by simp)]
    exact get_new
  have x9 : exSs T (callF T (n + 6)) b__law_are_slopes_right.tl.tl.tl.tl.tl.tl.tl.tl [some (.tup (w.map D.int)), some (.tup [.int m0, .int (Q.d : Int)]), some (.ref S.length), some (.int g), some (chn [] w), some (chn [] w.reverse), some (tp s), some (tp s'), some (.int (tab w).1), some (.int (tab w).2.1), some (.int (tab w).2.2.1), some (.int (tab w).2.2.2)] S2 =
      some (.rt (.bl true), S2 ++ [.lst [.int 1, .int 0]] ++ [.lst [.int 1, .int 0]]) :=
    exSs_rt (s_ret (e_and_t (e_call (e_cons (e_call (e_cons (e_call (e_cons (e_var rfl) e_nil) ec) e_nil) ec2) (e_cons (e_var rfl) e_nil)) (c_same (p1 _) (p1 _) (by omega) (by omega) (by omega) (by omega)))
      (e_and1 (e_call (e_cons (e_lst (e_cons (e_call (e_cons (e_var rfl) e_nil) es) (e_cons (e_call (e_cons (e_var rfl) e_nil) ew) e_nil)) (len_i rfl)) (e_cons (e_lst (e_cons e_int (e_cons e_int e_nil)) (len_i rfl)) e_nil)) sm2))))
  rw [callF_of (ds := [.tup (w.map D.int), .tup [.int m0, .int (Q.d : Int)]]) f__law_are_slopes_right rfl (exSs_nx x1 (exSs_nx x2 (exSs_nx x3 (exSs_nx x4 (exSs_nx x5 (exSs_nx x6 (exSs_nx x7 (exSs_nx x8 x9)))))))), ← hS2, ← hS1]
  simp only [List.append_assoc]
  rw [gc_app rfl]
end L81
end

section
set_option maxHeartbeats 1000000
namespace L81
open PySem Mn
variable {S : So} {Q : NSq} {σ σ' : Bs} {R E : So}
local macro_rules
  | `(tactic| keq_rows) => `(tactic| (repeat' (first
      | with_reducible exact e_int | with_reducible exact e_bl | with_reducible exact e_non | with_reducible exact e_str | with_reducible exact e_nil | with_reducible exact s_pass | with_reducible exact eo_none | with_reducible exact o_add | with_reducible exact o_sub | with_reducible exact c_eq | with_reducible exact c_lt | with_reducible exact c_le | with_reducible exact c_gt | with_reducible exact c_ge | with_reducible exact c_ne
      | ((with_reducible refine' ss_nl ?mnh); (case mnh => exact rfl)) | ((with_reducible refine' e_var ?mnh); (case mnh => exact rfl)) | ((with_reducible refine' asg_i ?mnh); (case mnh => exact rfl)) | ((with_reducible refine' at_i ?mnh); (case mnh => exact rfl)) | ((with_reducible refine' ty_i ?mnh); (case mnh => exact rfl)) | ((with_reducible refine' mv_i ?mnh); (case mnh => exact rfl)) | ((with_reducible refine' bi_i ?mnh); (case mnh => exact rfl)) | ((with_reducible refine' e_glob ?mnh); (case mnh => kernel_rfl)) | (with_reducible exact div_lit (by decide)) | ((with_reducible refine' len_i ?mnh); (case mnh => exact rfl))
      | with_reducible refine' exSs_rt (s_ret ?_) | with_reducible refine' exSs_nx (s_asg ?_ ?_) ?_ | with_reducible refine' exSs_nx (s_ex ?_) ?_ | with_reducible refine' exSs_nx (s_put ?_ ?_ ?_ ?_) ?_ | with_reducible refine' t_of ?_ | with_reducible refine' e_bin ?_ ?_ ?_ | with_reducible refine' e_neg ?_ | with_reducible refine' e_cons ?_ ?_ | with_reducible refine' e_tup ?_ ?_ | with_reducible refine' e_lst ?_ ?_ | with_reducible refine' e_ix ?_ ?_ ?_ | with_reducible refine' e_cmp ?_ ?_ ?_ | with_reducible refine' e_not ?_ | with_reducible refine' e_call ?_ ?_ | with_reducible refine' e_bi ?_ ?_ | with_reducible refine' e_me ?_ ?_ ?_ ?_ | with_reducible refine' eo_some ?_ | with_reducible refine' e_sl ?_ ?_ ?_ ?_ | with_reducible refine' e_rev ?_ ?_ | with_reducible refine' ix_tup ?_
      | (with_reducible refine' e_callk ?_ ?_ (by kernel_rfl) rfl ?_)
      | keq_hits
      | with_reducible refine' o_mul ?_ | with_reducible refine' o_fdiv ?_ | with_reducible refine' o_mod ?_)))
  | `(tactic| kas_types) => `(tactic| (repeat' (first
      | exact Sz.id (by assumption) | exact Sz.lit (n := 16) (by decide) | with_reducible refine' Sz.mul ?_ ?_ | with_reducible refine' Sz.add ?_ ?_ | with_reducible refine' Sz.sub ?_ ?_ | with_reducible refine' Sz.neg ?_ | with_reducible refine' Sz.div ?_)))
  | `(tactic| lcg_sub) => `(tactic| ((refine' mul_sz ?mza ?mzb ?mzc); (case mza => kas_types); (case mzb => kas_types); (case mzc => omega)))
theorem sh_lo {p q : Int} {B : Nat} (hp : Sz B p) (hq : Sz B q) (hB : B ≤ 500) : ∃ P, ∀ S, Sh S 2 1002 (lo p q) P :=
  ⟨_, fun S => (Sh.tup (ShL.cons (Sh.int (k := 0) ((Sz.div hp).mono hB)) (ShL.cons (Sh.int ((Sz.div hq).mono hB)) ShL.nil))).mono (by omega) (by omega)⟩
theorem in01 {s : Int} (h : s = 0 ∨ s = 1) : cpV .notin (.int s) (.tup [.int 0, .int 1]) S = some false := by
  rcases h with rfl | rfl <;> rfl
abbrev sE (u w : List Int) (m : D) (r : Nat) (met : Bool) (k due told ord q aft : Option D) : En := [some (.ref 2), some (chn u w), some m, some (.ref r), some (.bl met), k, due, told, ord, q, aft]
theorem l_steps_body {n k r : Nat} {u w : List Int} {s m : Kd Q} {met : Bool} {a b c d e f : Option D} (hu : Rw u) (h : Rnd Q w s) (hul : u.length ≤ 8) (hwl : w.length ≤ 6) (hk : 1 ≤ k ∧ k ≤ 8) (ok : σ.Ok) (hR : Pl R) (hr : R[r]? = some (.lst (frL (tm u w) 12))) (hm : Rp Q 500 (tp m) m) (hlim : Lim Q u w s m) (hmet : met = true → cj m = m) :
    ∃ (met' : Bool) (σ' : Bs) (b' c' d' e' f' : Option D), exSs T (callF T (n + 7)) b__law_are_steps_right.tl.tl.hd.bd (sE u w (tp m) (r + 3) met (some (.int (k : Nat))) b c d e f) (σ.so R) = some (.nx (sE u w (tp m) (r + 3) met' (some (.int (k : Nat))) b' c' d' e' f'), σ'.so R) ∧ σ'.Ok ∧ (met' = true → cj m = m) := by
  have hbd := tm_bd hu h.rw h.ne
  have hz := stp_sz hbd k
  have hz1 := stp_sz hbd (k + 1)
  have hb1 := stp_bd hbd k
  have hz2 : Sz 2 2 := Sz.lit (by decide)
  have hP : Sz 45 ((stp (tm u w) (k + 1)).1 + 2 * (stp (tm u w) k).1 - 2) := (((hz1.1.add (hz2.mul hz.1)).sub hz2)).mono (by omega)
  have hat : ∀ {i : Nat} {τ : Bs}, i ≤ 12 → ixV (.ref (r + 3)) (.int (i : Int)) (τ.so R) = some (frD (tm u w) i, τ.so R) := fun {i τ} hi => ix_ref (Bs.get.trans hr) (frL_at hi)
  generalize hq : (stp (tm u w) k).1 = q at *
  generalize hqa : (stp (tm u w) (k + 1)).1 = qa at *
  have hzq : Sz 45 q := hz.1.mono (by omega)
  obtain ⟨PL, pl⟩ := sh_lo hP hzq (by omega)
  -- 1
  have x1 : exS T (callF T (n + 7)) b__law_are_steps_right.tl.tl.hd.bd.hd (sE u w (tp m) (r + 3) met (some (.int (k : Nat))) b c d e f) (σ.so R) = some (.nx (sE u w (tp m) (r + 3) met (some (.int (k : Nat))) b c d (some (.int q)) (some (.int qa))), σ.so R) := by
    have q1 : evE T (callF T (n + 7)) (.ix (.ix (.var 3) (.var 5)) (.int 1)) (sE u w (tp m) (r + 3) met (some (.int (k : Nat))) b c d e f) (σ.so R) = some (.int q, σ.so R) := by
      rw [← hq]
      exact e_ix (e_ix (e_var rfl) (e_var rfl) (hat (by omega))) e_int (ix_tup rfl)
    have q2 : evE T (callF T (n + 7)) (.ix (.ix (.var 3) (.bin .add (.var 5) (.int 1))) (.int 1)) (sE u w (tp m) (r + 3) met (some (.int (k : Nat))) b c d e f) (σ.so R) = some (.int qa, σ.so R) := by
      rw [← hqa]
      exact e_ix (e_ix (e_var rfl) (e_bin (e_var rfl) e_int o_add) (hat (i := k + 1) (by omega))) e_int (ix_tup rfl)
    exact s_asg (e_tup (e_cons q1 (e_cons q2 e_nil)) (len_i rfl)) rfl
  have x2 : exS T (callF T (n + 7)) b__law_are_steps_right.tl.tl.hd.bd.tl.hd (sE u w (tp m) (r + 3) met (some (.int (k : Nat))) b c d (some (.int q)) (some (.int qa))) (σ.so R) = some (.nx (sE u w (tp m) (r + 3) met (some (.int (k : Nat))) (some (lo (qa + 2 * q - 2) q)) c d (some (.int q)) (some (.int qa))), σ.so R) :=
    s_asg (e_call (e_cons (e_bin (e_bin (e_var rfl) (e_bin e_int (e_var rfl) (o_mul (mul_sz hz2 hzq (by omega)))) o_add) e_int o_sub) (e_cons (e_var rfl) e_nil)) (c_low (n := n + 5) (by omega) (hzq.mono (by omega)))) rfl
  obtain ⟨dr, σ1, e1, ok1, _, _⟩ := c_draw (n := n + 6) (b := 2) ok hR (by omega)
  have hsp : callF T (n + 7) "step_power" [chn u w, .int (k : Nat)] (σ1.so R) = some (lo (qa + 2 * q - 2) q, σ1.so R) := by
    have := c_step_power (S := σ1.so R) (n := n + 4) (k := k) hu h.rw h.ne (by omega)
    unfold st at this
    rw [hq, hqa] at this
    exact this
  have x3 : exS T (callF T (n + 7)) b__law_are_steps_right.tl.tl.hd.bd.tl.tl.hd (sE u w (tp m) (r + 3) met (some (.int (k : Nat))) (some (lo (qa + 2 * q - 2) q)) c d (some (.int q)) (some (.int qa))) (σ.so R) = some (.nx (sE u w (tp m) (r + 3) met (some (.int (k : Nat))) (some (lo (qa + 2 * q - 2) q)) (some (lo (qa + 2 * q - 2) q)) d (some (.int q)) (some (.int qa))), σ1.so R) := by
    refine s_asg (d := lo (qa + 2 * q - 2) q) ?_ rfl
    by_cases hd : dr = 0
    · exact e_ite_t (e_cmp (e_call (e_cons (e_var rfl) (e_cons e_int e_nil)) e1) e_int (c_eq_t hd)) (e_callk (pm := [1, 0]) e_nil (e_cons (e_var rfl) (e_cons (e_var rfl) e_nil)) (by kernel_rfl) rfl hsp)
    · exact e_ite_f (e_cmp (e_call (e_cons (e_var rfl) (e_cons e_int e_nil)) e1) e_int (c_eq_f hd)) (e_call (e_cons (e_var rfl) (e_cons (e_var rfl) e_nil)) hsp)
  have hfr : Sh (σ1.so R) 2 1002 (frD (tm u w) k) _ := (Sh.tup (ShL.cons (Sh.int (k := 0) ((ptp_sz hbd k).1.mono (by omega))) (ShL.cons (Sh.int (by rw [hq]; exact hzq.mono (by omega))) ShL.nil))).mono (by omega) (by omega)
  have x4 : exS T (callF T (n + 7)) b__law_are_steps_right.tl.tl.hd.bd.tl.tl.tl.hd (sE u w (tp m) (r + 3) met (some (.int (k : Nat))) (some (lo (qa + 2 * q - 2) q)) (some (lo (qa + 2 * q - 2) q)) d (some (.int q)) (some (.int qa))) (σ1.so R) = some (.nx (sE u w (tp m) (r + 3) met (some (.int (k : Nat))) (some (lo (qa + 2 * q - 2) q)) (some (lo (qa + 2 * q - 2) q)) d (some (.int q)) (some (.int qa))), σ1.so R) := by
    have q1 := c_same (n := n + 6) (pl (σ1.so R)) (pl (σ1.so R)) (by omega) (by omega) (by omega) (by omega)
    have q2 := c_same (n := n + 6) hfr hfr (by omega) (by omega) (by omega) (by omega)
    exact s_if_f (t_of (e_or_f (e_not (e_call (e_cons (e_var rfl) (e_cons (e_var rfl) e_nil)) q1)) (e_or1 (e_not (e_call (e_cons (e_call (e_cons (e_var rfl) (e_cons (e_var rfl) e_nil)) (c_fraction_at (n := n + 4) hu h.rw h.ne (by omega) (by omega) (by omega))) (e_cons (e_ix (e_var rfl) (e_var rfl) (hat (by omega))) e_nil)) q2))))) ss_nil
  -- the order
  obtain ⟨X, Y, g1, g2⟩ := lo_pw (Q := Q) (P := qa + 2 * q - 2) (q := q) (by omega) (by omega) hP hzq h.tld
  have ev : vl Q (qa + 2 * q - 2) 0 q = pk Q u w k := by
    have e1 : qa = tm u w k * q + (stp (tm u w) k).2 := by rw [← hqa, ← hq]; rfl
    have e5 : qa + 2 * q - 2 = (2 + tm u w k) * q + ((stp (tm u w) k).2 - 2) := by rw [e1]; grind
    unfold pk
    rw [hq, ← pw_vl (by omega), e5]
  rw [ev] at g2
  obtain ⟨so, g3, g4⟩ := c_surd_order (S := σ1.so R) (n := n + 3) hm g2 (by omega)
  have hle := hlim.up k
  have hso : (so = 0 ∨ so = 1) ∧ (so = 0 → cj m = m) := by
    rcases g4 with ⟨h1, _⟩ | ⟨h1, h2⟩ | ⟨_, h2⟩
    · exact ⟨.inr h1, fun h => by omega⟩
    · refine ⟨.inl h1, fun _ => ?_⟩
      have : m = pk Q u w k := by grind
      rw [this]
      exact pk_cj u w k
    · grind
  have x5 : exS T (callF T (n + 7)) b__law_are_steps_right.tl.tl.hd.bd.tl.tl.tl.tl.hd (sE u w (tp m) (r + 3) met (some (.int (k : Nat))) (some (lo (qa + 2 * q - 2) q)) (some (lo (qa + 2 * q - 2) q)) d (some (.int q)) (some (.int qa))) (σ1.so R) = some (.nx (sE u w (tp m) (r + 3) met (some (.int (k : Nat))) (some (lo (qa + 2 * q - 2) q)) (some (lo (qa + 2 * q - 2) q)) (some (.int so)) (some (.int q)) (some (.int qa))), σ1.so R) := by
    rw [g1]
    exact s_asg (e_call (e_cons (e_var rfl) (e_cons (e_tup (e_cons (e_ix (e_var rfl) e_int (ix_tup rfl)) (e_cons e_int (e_cons (e_ix (e_var rfl) e_int (ix_tup rfl)) (e_cons e_int e_nil)))) (len_i rfl)) e_nil)) g3) rfl
  generalize hL : lo (qa + 2 * q - 2) q = L at *
  have x6 : exS T (callF T (n + 7)) b__law_are_steps_right.tl.tl.hd.bd.tl.tl.tl.tl.tl.hd (sE u w (tp m) (r + 3) met (some (.int (k : Nat))) (some L) (some L) (some (.int so)) (some (.int q)) (some (.int qa))) (σ1.so R) = some (.nx (sE u w (tp m) (r + 3) met (some (.int (k : Nat))) (some L) (some L) (some (.int so)) (some (.int q)) (some (.int qa))), σ1.so R) :=
    s_if_f (t_of (e_or_f (e_cmp (e_var rfl) (e_tup (e_cons e_int (e_cons e_int e_nil)) (len_i rfl)) (in01 hso.1)) (e_or1 (e_bi (d := .bl false) (e_cons (e_var rfl) e_nil) (by rfl))))) ss_nil
  have x7 : exS T (callF T (n + 7)) b__law_are_steps_right.tl.tl.hd.bd.tl.tl.tl.tl.tl.tl.hd (sE u w (tp m) (r + 3) met (some (.int (k : Nat))) (some L) (some L) (some (.int so)) (some (.int q)) (some (.int qa))) (σ1.so R) = some (.nx (sE u w (tp m) (r + 3) met (some (.int (k : Nat))) (some L) (some L) (some (.int so)) (some (.int q)) (some (.int qa))), σ1.so R) := by
    by_cases h100 : q ≤ 100
    · have gr := c_greatest_repeat (S := σ1.so R) (n := n) (K := k) hu h (by omega) hk.1 hk.2
      rw [hq, hqa] at gr
      have e9 : q + (q + qa) - 2 = qa + 2 * q - 2 := by omega
      rw [e9] at gr
      have q1 := c_same (S := σ1.so R) (n := n + 6) (Sh.int (k := 0) (hP.mono (by omega))) (Sh.int (k := 0) (hP.mono (by omega))) (by omega) (by omega) (by omega) (by omega)
      exact s_if_f (t_of (e_and_t (e_cmp (e_var rfl) e_int (c_le_t h100)) (e_and1 (e_not (e_call (e_cons (e_call (e_cons (e_var rfl) (e_cons (e_var rfl) e_nil)) gr) (e_cons (e_bin (e_bin (e_var rfl) (e_bin e_int (e_var rfl) (o_mul (mul_sz hz2 hzq (by omega)))) o_add) e_int o_sub) e_nil)) q1))))) ss_nil
    · exact s_if_f (t_of (e_and_f (e_cmp (e_var rfl) e_int (c_le_f h100)))) ss_nil
  have x8 : exS T (callF T (n + 7)) b__law_are_steps_right.tl.tl.hd.bd.tl.tl.tl.tl.tl.tl.tl.hd (sE u w (tp m) (r + 3) met (some (.int (k : Nat))) (some L) (some L) (some (.int so)) (some (.int q)) (some (.int qa))) (σ1.so R) = some (.nx (sE u w (tp m) (r + 3) (met || decide (so = 0)) (some (.int (k : Nat))) (some L) (some L) (some (.int so)) (some (.int q)) (some (.int qa))), σ1.so R) := by
    cases met with
    | true => exact s_asg (e_or_t (e_var rfl)) rfl
    | false =>
      rw [Bool.false_or]
      exact s_asg (e_or_f (e_var rfl) (e_or1 (e_cmp (e_var rfl) e_int c_eq))) rfl
  refine ⟨met || decide (so = 0), σ1, _, _, _, _, _, exSs_nx x1 (exSs_nx x2 (exSs_nx x3 (exSs_nx x4 (exSs_nx x5 (exSs_nx x6 (exSs_nx x7 (exSs_nx x8 ss_nil))))))), ok1, ?_⟩
  intro hx
  rw [Bool.or_eq_true, decide_eq_true_iff] at hx
  rcases hx with hx | hx
  · exact hmet hx
  · exact hso.2 hx
theorem l_steps_loop {n r : Nat} {u w : List Int} {s m : Kd Q} (hu : Rw u) (h : Rnd Q w s) (hul : u.length ≤ 8) (hwl : w.length ≤ 6) (hR : Pl R) (hr : R[r]? = some (.lst (frL (tm u w) 12))) (hm : Rp Q 500 (tp m) m) (hlim : Lim Q u w s m) : ∀ (j k : Nat) (σ : Bs) (met : Bool) (a b c d e f : Option D), 1 ≤ k → k + j ≤ 9 → σ.Ok → (met = true → cj m = m) →
    ∃ (met' : Bool) (σ' : Bs) (a' b' c' d' e' f' : Option D), forL none (fun x ρ S => (asgG (.nm 5) x ρ).bind fun ρ => exSs T (callF T (n + 7)) b__law_are_steps_right.tl.tl.hd.bd ρ S) (rangeL (k : Int) j) (sE u w (tp m) (r + 3) met a b c d e f) (σ.so R) = some (.nx (sE u w (tp m) (r + 3) met' a' b' c' d' e' f'), σ'.so R) ∧ σ'.Ok ∧ (met' = true → cj m = m)
  | 0, k, σ, met, a, b, c, d, e, f, _, _, ok, hmet => ⟨met, σ, a, b, c, d, e, f, rfl, ok, hmet⟩
  | j + 1, k, σ, met, a, b, c, d, e, f, h1, h2, ok, hmet => by
    obtain ⟨met1, σ1, b1, c1, d1, e1, f1, q1, ok1, hm1⟩ := l_steps_body (n := n) (b := b) (c := c) (d := d) (e := e) (f := f) (a := a) hu h hul hwl (k := k) ⟨h1, by omega⟩ ok hR hr hm hlim hmet
    obtain ⟨met', σ', a', b', c', d', e', f', q2, ok', hm'⟩ := l_steps_loop (n := n) hu h hul hwl hR hr hm hlim j (k + 1) σ1 met1 (some (.int (k : Nat))) b1 c1 d1 e1 f1 (by omega) (by omega) ok1 hm1
    refine ⟨met', σ', a', b', c', d', e', f', ?_, ok', hm'⟩
    rw [rangeL_succ, forL_cons_nx (w := none) (ρ1 := sE u w (tp m) (r + 3) met1 (some (.int (k : Nat))) b1 c1 d1 e1 f1) (S1 := σ1.so R) q1 trivial]
    exact q2
theorem c_steps_right {n : Nat} {u w : List Int} {s m : Kd Q} (hu : Rw u) (h : Rnd Q w s) (hul : u.length ≤ 8) (hwl : w.length ≤ 6) (ok : σ.Ok) (hR : Pl R) (hm : Rp Q 500 (tp m) m) (hlim : Lim Q u w s m) :
    ∃ σ' : Bs, callF T (n + 8) "_law_are_steps_right" [.ref 2, chn u w, tp m] (σ.so R) = some (.bl true, σ'.so R) ∧ σ'.Ok := by
  have hbd := tm_bd hu h.rw h.ne
  have e1 := c_lterms (S := σ.so R) (n := n + 6) (u := u) (k := 12) h.ne (by omega) (by omega) (by omega)
  rw [Bs.len, Bs.app] at e1
  have hr : (σ.so (R ++ [C.lst ((tmL u w 12).map D.int)]))[R.length + 3]? = some (.lst ((tmL u w 12).map D.int)) := Bs.newG
  have e2 := c_lsteps (S := σ.so (R ++ [C.lst ((tmL u w 12).map D.int)])) (n := n + 6) (k := 12) (f := tm u w) hbd hr (fun i hi => tmL_at hi) (by simp) (by omega)
  rw [Bs.len, Bs.app] at e2
  generalize hR1 : R ++ [C.lst ((tmL u w 12).map D.int)] = R1 at *
  have hp1 : Pl R1 := by rw [← hR1]; exact hR.app (Pl.ints _)
  have hp2 : Pl (R1 ++ [C.lst (frL (tm u w) 12)]) := hp1.app (Pl.one (frL_bel _ _ _))
  obtain ⟨met, σ1, a, b, c, d, e, f, q1, ok1, hmet⟩ := l_steps_loop (n := n) (r := R1.length) (R := R1 ++ [C.lst (frL (tm u w) 12)]) hu h hul hwl hp2 app_at hm hlim 8 1 σ false none none none none none none (by omega) (by omega) ok (fun h => absurd h Bool.false_ne_true)
  refine ⟨σ1, ?_, ok1⟩
  have x1 : exS T (callF T (n + 7)) b__law_are_steps_right.hd [some (.ref 2), some (chn u w), some (tp m), none, none, none, none, none, none, none, none] (σ.so R) = some (.nx [some (.ref 2), some (chn u w), some (tp m), some (.ref (R1.length + 3)), none, none, none, none, none, none, none], σ.so (R1 ++ [C.lst (frL (tm u w) 12)])) :=
    s_asg (e_call (e_cons (e_call (e_cons (e_var rfl) (e_cons e_int e_nil)) e1) e_nil) e2) rfl
  have x3 : exS T (callF T (n + 7)) b__law_are_steps_right.tl.tl.hd (sE u w (tp m) (R1.length + 3) false none none none none none none) (σ.so (R1 ++ [C.lst (frL (tm u w) 12)])) = some (.nx (sE u w (tp m) (R1.length + 3) met a b c d e f), σ1.so (R1 ++ [C.lst (frL (tm u w) 12)])) :=
    s_fr (it_range2 (i := 1) (j := 9) e_int e_int (by omega)) q1
  obtain ⟨A, B, Cc, Dd, f1, f2, f3, _⟩ := rp_fld hm
  have x4 : exSs T (callF T (n + 7)) b__law_are_steps_right.tl.tl.tl (sE u w (tp m) (R1.length + 3) met a b c d e f) (σ1.so (R1 ++ [C.lst (frL (tm u w) 12)])) = some (.rt (.bl true), σ1.so (R1 ++ [C.lst (frL (tm u w) 12)])) := by
    refine exSs_rt (s_ret ?_)
    cases met with
    | false => exact e_or_t (e_not (k := false) (e_var rfl))
    | true =>
      have hD : Dd = 0 := f3.mpr (hmet rfl)
      rw [f1]
      exact e_or_f (e_not (k := true) (e_var rfl)) (e_or1 (e_cmp (e_ix (e_var rfl) e_int (ix_tup rfl)) e_int (c_eq_t hD)))
  rw [callF_of (ds := [.ref 2, chn u w, tp m]) f__law_are_steps_right rfl (exSs_nx x1 (exSs_nx (s_asg e_bl rfl) (exSs_nx x3 x4))), ← hR1]
  simp only [List.append_assoc]
  rw [gc_bag rfl hR]
end L81
end

section
set_option maxHeartbeats 1000000
namespace L81
open PySem Mn
variable {S : So} {Q : NSq} {σ σ' : Bs} {R E : So}
local macro_rules
  | `(tactic| keq_rows) => `(tactic| (repeat' (first
      | with_reducible exact e_int | with_reducible exact e_bl | with_reducible exact e_non | with_reducible exact e_str | with_reducible exact e_nil | with_reducible exact s_pass | with_reducible exact eo_none | with_reducible exact o_add | with_reducible exact o_sub | with_reducible exact c_eq | with_reducible exact c_lt | with_reducible exact c_le | with_reducible exact c_gt | with_reducible exact c_ge | with_reducible exact c_ne
      | ((with_reducible refine' ss_nl ?mnh); (case mnh => exact rfl)) | ((with_reducible refine' e_var ?mnh); (case mnh => exact rfl)) | ((with_reducible refine' asg_i ?mnh); (case mnh => exact rfl)) | ((with_reducible refine' at_i ?mnh); (case mnh => exact rfl)) | ((with_reducible refine' ty_i ?mnh); (case mnh => exact rfl)) | ((with_reducible refine' mv_i ?mnh); (case mnh => exact rfl)) | ((with_reducible refine' bi_i ?mnh); (case mnh => exact rfl)) | ((with_reducible refine' e_glob ?mnh); (case mnh => kernel_rfl)) | (with_reducible exact div_lit (by decide)) | ((with_reducible refine' len_i ?mnh); (case mnh => exact rfl))
      | with_reducible refine' exSs_rt (s_ret ?_) | with_reducible refine' exSs_nx (s_asg ?_ ?_) ?_ | with_reducible refine' exSs_nx (s_ex ?_) ?_ | with_reducible refine' exSs_nx (s_put ?_ ?_ ?_ ?_) ?_ | with_reducible refine' t_of ?_ | with_reducible refine' e_bin ?_ ?_ ?_ | with_reducible refine' e_neg ?_ | with_reducible refine' e_cons ?_ ?_ | with_reducible refine' e_tup ?_ ?_ | with_reducible refine' e_lst ?_ ?_ | with_reducible refine' e_ix ?_ ?_ ?_ | with_reducible refine' e_cmp ?_ ?_ ?_ | with_reducible refine' e_not ?_ | with_reducible refine' e_call ?_ ?_ | with_reducible refine' e_bi ?_ ?_ | with_reducible refine' e_me ?_ ?_ ?_ ?_ | with_reducible refine' eo_some ?_ | with_reducible refine' e_sl ?_ ?_ ?_ ?_ | with_reducible refine' e_rev ?_ ?_ | with_reducible refine' ix_tup ?_
      | (with_reducible refine' e_callk ?_ ?_ (by kernel_rfl) rfl ?_)
      | keq_hits
      | with_reducible refine' o_mul ?_ | with_reducible refine' o_fdiv ?_ | with_reducible refine' o_mod ?_)))
  | `(tactic| kas_types) => `(tactic| (repeat' (first
      | exact Sz.id (by assumption) | exact Sz.lit (n := 16) (by decide) | with_reducible refine' Sz.mul ?_ ?_ | with_reducible refine' Sz.add ?_ ?_ | with_reducible refine' Sz.sub ?_ ?_ | with_reducible refine' Sz.neg ?_ | with_reducible refine' Sz.div ?_)))
  | `(tactic| lcg_sub) => `(tactic| ((refine' mul_sz ?mza ?mzb ?mzc); (case mza => kas_types); (case mzb => kas_types); (case mzc => omega)))
theorem pl_eq {n : Nat} {u w u' w' : List Int} {s s' m : Kd Q} (hu : Rw u) (hu' : Rw u') (h : Rnd Q w s) (h' : Rnd Q w' s') (hul' : u'.length ≤ 8) (ht : ∀ k, tm u w k = tm u' w' k) (hl : Lim Q u w s m) : callF T (n + 8) "power_limit" [chn u' w'] S = some (tp m, S) := by
  obtain ⟨m', e1, e2, e3⟩ := c_power_limit (S := S) (n := n) hu' h' hul'
  rw [hl.uniq hu hu' h h' ht e3]
  exact e1
theorem lr_eq {n : Nat} {u w u' w' : List Int} {s s' m : Kd Q} (hu : Rw u) (hu' : Rw u') (h : Rnd Q w s) (h' : Rnd Q w' s') (hul' : u'.length ≤ 8) (ht : ∀ k, tm u w k = tm u' w' k) (hl : Lim Q u w s m) : callF T (n + 9) "limit_reached" [chn u' w'] S = some (.bl (decide (cj m = m)), S) := by
  obtain ⟨m', e1, e3⟩ := c_limit_reached (S := S) (n := n) hu' h' hul'
  rw [hl.uniq hu hu' h h' ht e3]
  exact e1
theorem c_eqTp {B B' : Nat} {x y : Kd Q} (hx : Rp Q B (tp x) x) (hy : Rp Q B' (tp y) y) : ∃ b : Bool, cpV .eq (tp x) (tp y) S = some b ∧ (b = true ↔ x = y) := by
  obtain ⟨a, b, c, d, e, k⟩ := hx
  obtain ⟨a', b', c', d', e', k'⟩ := hy
  have hx : Rp Q B (sd a b c d) x := ⟨a, b, c, d, rfl, k⟩
  have hy : Rp Q B' (sd a' b' c' d') y := ⟨a', b', c', d', rfl, k'⟩
  rw [e, e']
  refine ⟨_, c_eq4, ?_⟩
  rw [decide_eq_true_iff]
  constructor
  · intro h
    simp only [List.cons.injEq, and_true] at h
    obtain ⟨rfl, rfl, rfl, rfl⟩ := h
    exact hx.inj hy
  · rintro rfl
    have := hx.uniq hy
    simp only [D.tup.injEq, List.cons.injEq, D.int.injEq, and_true] at this
    rw [this.1, this.2.1, this.2.2.1, this.2.2.2]
theorem bls_bel (bs : List Bool) : belows 0 (bs.map D.bl) = true := belows_of fun x hx => by
  obtain ⟨b, _, rfl⟩ := List.mem_map.mp hx
  rfl
theorem notin_bls {k : Nat} {bs : List Bool} (hk : S[k]? = some (.lst (bs.map D.bl))) (h : true ∈ bs) : cpV .notin (.bl true) (.ref k) S = some false := by
  have h1 : (bs.map D.bl).all flatD = true := by
    rw [List.all_eq_true]
    intro x hx
    obtain ⟨b, _, rfl⟩ := List.mem_map.mp hx
    rfl
  simp only [cpV, Mn.inV, hk]
  rw [if_pos ⟨rfl, h1⟩]
  have h2 : L2.inV (asV (.bl true)) ((bs.map D.bl).map asV) = true := by
    unfold L2.inV
    rw [List.any_eq_true]
    exact ⟨.bl true, by rw [List.map_map]; exact List.mem_map.mpr ⟨true, h, rfl⟩, rfl⟩
  rw [h2]
  rfl
abbrev fE (u w : List Int) (m r : D) (o3 o4 o5 o6 : Option D) (i a t : Option D) (b2 : D) : En := [some (.ref 2), some (chn u w), some b2, o3, o4, o5, o6, some m, some r, i, a, t]
theorem l_found {n : Nat} {u w : List Int} {s m : Kd Q} {b2 : D} {o3 o4 o5 o6 : Option D} (h : Rnd Q w s) (hl : w.length ≤ 6) (hm : Rp Q 500 (tp m) m) : ∀ (xs : List Int) (i : Nat) (bs : List Bool) (o9 o10 o11 : Option D), w.drop i = xs → i ≤ w.length → bs.length ≤ i → ∃ (out : List Bool) (o9' o10' o11' : Option D),
    forL none (fun x ρ S => (asgG (.tp [.nm 9, .nm 10]) x ρ).bind fun ρ => exSs T (callF T (n + 5)) b__law_is_limit_right.tl.tl.tl.tl.tl.tl.hd.bd.tl.hd.bd ρ S) (enumL i (xs.map D.int)) (fE u w (tp m) (.ref S.length) o3 o4 o5 o6 o9 o10 o11 b2) (S ++ [.lst (bs.map D.bl)]) =
      some (.nx (fE u w (tp m) (.ref S.length) o3 o4 o5 o6 o9' o10' o11' b2), S ++ [.lst ((bs ++ out).map D.bl)]) ∧ (∀ j, i ≤ j → j < w.length → m = rvj u w s j → true ∈ out)
  | [], i, bs, o9, o10, o11, hx, hi, _ => by
    refine ⟨[], o9, o10, o11, by rw [List.append_nil]; rfl, fun j h1 h2 => ?_⟩
    have := congrArg List.length hx
    simp at this
    omega
  | x :: xs, i, bs, o9, o10, o11, hx, hi, hbl => by
    have hiw : i < w.length := by
      have := congrArg List.length hx
      simp at this
      omega
    have hx0 : x = w[i] := by
      rw [List.drop_eq_getElem_cons hiw] at hx
      exact (List.cons.inj hx).1.symm
    have hxs : w.drop (i + 1) = xs := by
      rw [List.drop_eq_getElem_cons hiw] at hx
      exact (List.cons.inj hx).2
    have hxb := h.rw x (by rw [hx0]; exact List.getElem_mem _)
    have hbk := h.back i
    have ev : rvj u w s i = rv w s x i := by
      unfold rvj bk rv
      rw [tm_round hiw, Nat.mod_eq_of_lt hiw, ← hx0]
    obtain ⟨e1, e2⟩ := c_rv (S := S ++ [.lst (bs.map D.bl)]) (n := n + 2) (i := i) h (sz9 hxb)
    obtain ⟨b, e3, e4⟩ := c_eqTp (S := S ++ [.lst (bs.map D.bl)]) e2 hm
    obtain ⟨out, o9', o10', o11', f1, f2⟩ := l_found (n := n) (u := u) (b2 := b2) (o3 := o3) (o4 := o4) (o5 := o5) (o6 := o6) h hl hm xs (i + 1) (bs ++ [b]) (some (.int (i : Nat))) (some (.int x)) (some (.tup ((rot w i).reverse.map D.int))) hxs (by omega) (by simp; omega)
    refine ⟨b :: out, o9', o10', o11', ?_, ?_⟩
    · rw [List.map_cons, enumL_cons, forL_cons_nx (w := none) (ρ1 := fE u w (tp m) (.ref S.length) o3 o4 o5 o6 (some (.int (i : Nat))) (some (.int x)) (some (.tup ((rot w i).reverse.map D.int))) b2) (S1 := S ++ [.lst ((bs ++ [b]).map D.bl)]) ?_ trivial]
      · rw [f1]
        simp
      · have hS : ∃ S2, S ++ [.lst (bs.map D.bl)] = S2 := ⟨_, rfl⟩
        have q0 : ∀ {S : So}, evE T (callF T (n + 5)) (.ix (.var 1) (.int 1)) (fE u w (tp m) (.ref S.length) o3 o4 o5 o6 (some (.int (i : Nat))) (some (.int x)) o11 b2) S = some (.tup (w.map D.int), S) := e_ix (e_var rfl) e_int (ix_tup rfl)
        have y1 : exS T (callF T (n + 5)) b__law_is_limit_right.tl.tl.tl.tl.tl.tl.hd.bd.tl.hd.bd.hd (fE u w (tp m) (.ref S.length) o3 o4 o5 o6 (some (.int (i : Nat))) (some (.int x)) o11 b2) (S ++ [.lst (bs.map D.bl)]) =
            some (.nx (fE u w (tp m) (.ref S.length) o3 o4 o5 o6 (some (.int (i : Nat))) (some (.int x)) (some (.tup ((rot w i).reverse.map D.int))) b2), S ++ [.lst (bs.map D.bl)]) := by
          have q1 := e_from (S0 := S ++ [.lst (bs.map D.bl)]) (T := T) (cf := callF T (n + 5)) (ρ := fE u w (tp m) (.ref S.length) o3 o4 o5 o6 (some (.int (i : Nat))) (some (.int x)) o11 b2) (a := .ix (.var 1) (.int 1)) (b := .var 9) (xs := w.map D.int) (i := i) (e_ix (e_var rfl) e_int (ix_tup rfl)) (e_var rfl) (by simpa using hi)
          have q2 := e_to (S0 := S ++ [.lst (bs.map D.bl)]) (T := T) (cf := callF T (n + 5)) (ρ := fE u w (tp m) (.ref S.length) o3 o4 o5 o6 (some (.int (i : Nat))) (some (.int x)) o11 b2) (a := .ix (.var 1) (.int 1)) (b := .var 9) (xs := w.map D.int) (i := i) (e_ix (e_var rfl) e_int (ix_tup rfl)) (e_var rfl) (by simpa using hi)
          have q3 := e_bin q1 q2 (o_addT (by simp; omega))
          rw [← List.map_drop, ← List.map_take, ← List.map_append] at q3
          refine s_asg (e_biA (E := [.lst ((rot w i).map D.int)]) (e_cons (e_biN (c := .lst ((rot w i).map D.int)) (e_cons q3 e_nil) ?_) e_nil) ?_ (ints_bel _ _)) rfl
          · simp only [biV, Mn.itemsOf, Option.map_some]
          · simp only [biV, Mn.listOf, get_new, Option.map_some]
            rw [List.map_reverse]
        refine exSs_nx y1 (exSs_nx ?_ ss_nil)
        have e5 : (bs ++ [b]).map D.bl = bs.map D.bl ++ [.bl b] := by simp
        rw [e5]
        exact s_app rfl (e_cmp (e_call (e_cons (e_sd (e_bin e_int (e_var rfl) o_add)) (e_cons (e_call (e_cons (e_tup (e_cons (e_tup e_nil (len_i rfl)) (e_cons (e_var rfl) e_nil)) (len_i rfl)) e_nil) (slope0 (n := n) hbk)) e_nil)) e1) (e_var rfl) e3) (by simp; omega)
    · intro j h1 h2 h3
      rcases Nat.lt_or_eq_of_le h1 with h4 | h4
      · exact List.mem_cons_of_mem _ (f2 j h4 h2 h3)
      · subst h4
        rw [ev] at h3
        rw [e4.mpr h3.symm]
        exact List.mem_cons_self
theorem sh_bls {bs : List Bool} : ShL S 1 bs.length (bs.map D.bl) (bs.map PyData.bool) := by
  induction bs with
  | nil => exact ShL.nil
  | cons b bs ih => exact (ShL.cons (Sh.bl (k := 0)) ih).mono (Nat.le_refl _) (by rw [List.length_cons]; omega)
theorem Bs.in {k : Nat} {c : C} (h : R[k]? = some c) (E : So) : (σ.so (R ++ E))[k + 3]? = some c := by
  rw [Bs.get, List.getElem?_append_left (List.getElem?_eq_some_iff.mp h).1]
  exact h
theorem c_limit_right {n m0 : Nat} {u w : List Int} {s : Kd Q} (hu : Rw u) (h : Rnd Q w s) (hul : u.length ≤ 8) (hwl : w.length ≤ 6) (hm : 1 ≤ m0) (hd : dsc w = (m0 : Int) * m0 * (Q.d : Int)) (ok : σ.Ok) (hR : Pl R) :
    ∃ σ' : Bs, callF T (n + 10) "_law_is_limit_right" [.ref 2, chn u w, .tup [.int m0, .int (Q.d : Int)]] (σ.so R) = some (.bl true, σ'.so R) ∧ σ'.Ok := by
  obtain ⟨m, e1, e2, e3⟩ := c_llimit (S := σ.so R) (n := n + 4) hu h hul hm hd hwl
  obtain ⟨P, shp⟩ := sh_rp e2 (by omega)
  have shc := fun S => sh_chn (S := S) hu h.rw hul hwl
  generalize hb2 : (D.tup [.int m0, .int (Q.d : Int)]) = b2 at *
  generalize hPc : (PyData.tuple [.tuple (u.map PyData.int), .tuple (w.map PyData.int)]) = Pc at *
  obtain ⟨u', w', s', σ1, f1, ok1, hu', h', hul', hwl', ht⟩ := c_otherwise (n := n + 7) ok hR hu h hul hwl
  have pl0 := fun S => pl_eq (S := S) (n := n + 1) hu hu h h hul (fun _ => rfl) e3
  have pl1 := fun S => pl_eq (S := S) (n := n + 1) hu hu' h h' hul' ht e3
  have lr0 := fun S => lr_eq (S := S) (n := n) hu hu h h hul (fun _ => rfl) e3
  have lr1 := fun S => lr_eq (S := S) (n := n) hu hu' h h' hul' ht e3
  obtain ⟨A, B, Cc, Dd, g1, g2, g3, _⟩ := rp_fld e2
  have hdec : decide (cj m = m) = decide (Dd = 0) := by rw [decide_eq_decide]; exact g3.symm
  rw [hdec] at lr0 lr1
  generalize hbb : decide (Dd = 0) = bb at *
  -- 1, 2
  have x1 : exS T (callF T (n + 9)) b__law_is_limit_right.hd [some (.ref 2), some (chn u w), some b2, none, none, none, none, none, none, none, none, none] (σ.so R) = some (.nx [some (.ref 2), some (chn u w), some b2, none, none, none, some (.str Pc.shown), some (tp m), none, none, none, none], σ.so R) :=
    s_asg (e_tup (e_cons (e_repr (shc _) (by omega) (by omega) (e_var rfl)) (e_cons (e_call (e_cons (e_var rfl) (e_cons (e_var rfl) e_nil)) e1) e_nil)) (len_i rfl)) rfl
  have x2 : exS T (callF T (n + 9)) b__law_is_limit_right.tl.hd [some (.ref 2), some (chn u w), some b2, none, none, none, some (.str Pc.shown), some (tp m), none, none, none, none] (σ.so R) = some (.nx [some (.ref 2), some (chn u w), some b2, some (chn u' w'), none, none, some (.str Pc.shown), some (tp m), none, none, none, none], σ1.so R) :=
    s_asg (e_call (e_cons (e_var rfl) (e_cons (e_var rfl) e_nil)) f1) rfl
  -- 3
  generalize hR1 : R ++ [C.lst [tp m, tp m, tp m, tp m]] = R1
  have hR1' : σ1.so R ++ [C.lst [tp m, tp m, tp m, tp m]] = σ1.so R1 := by rw [Bs.app, hR1]
  have k1 : R1[R.length]? = some (.lst [tp m, tp m, tp m, tp m]) := by rw [← hR1]; exact app_at
  have x3 : exS T (callF T (n + 9)) b__law_is_limit_right.tl.tl.hd [some (.ref 2), some (chn u w), some b2, some (chn u' w'), none, none, some (.str Pc.shown), some (tp m), none, none, none, none] (σ1.so R) = some (.nx [some (.ref 2), some (chn u w), some b2, some (chn u' w'), some (.ref (R.length + 3)), none, some (.str Pc.shown), some (tp m), none, none, none, none], σ1.so R1) := by
    rw [← hR1']
    exact s_asg (e_lst (e_cons (e_call (e_cons (e_var rfl) e_nil) (pl0 _)) (e_cons (e_callk (pm := [0]) e_nil (e_cons (e_var rfl) e_nil) (by kernel_rfl) rfl (pl0 _)) (e_cons (e_call (e_cons (e_var rfl) e_nil) (pl1 _)) (e_cons (e_call (e_cons (e_var rfl) e_nil) (pl0 _)) e_nil)))) (len_i rfl)) rfl
  -- 4
  generalize hR2 : R1 ++ [C.lst [tp m], .lst [tp m, tp m, tp m, tp m]] = R2
  have sh4 : ∀ S, ShL S 2 8100 [tp m, tp m, tp m, tp m] [P, P, P, P] := fun S => (ShL.cons (shp S) (ShL.cons (shp S) (ShL.cons (shp S) (ShL.cons (shp S) ShL.nil)))).mono (by omega) (by omega)
  have k2 : ∀ {τ : Bs}, (τ.so R2)[R.length + 3]? = some (.lst [tp m, tp m, tp m, tp m]) := fun {τ} => by rw [← hR2]; exact Bs.in k1 _
  have k3 : ∀ {τ : Bs}, (τ.so R2)[R1.length + 4]? = some (.lst [tp m, tp m, tp m, tp m]) := fun {τ} => by
    rw [← hR2]
    show (R1 ++ _)[R1.length + 1]? = _
    rw [List.getElem?_append_right (by omega), Nat.add_sub_cancel_left]
    rfl
  have x4 : exS T (callF T (n + 9)) b__law_is_limit_right.tl.tl.tl.hd [some (.ref 2), some (chn u w), some b2, some (chn u' w'), some (.ref (R.length + 3)), none, some (.str Pc.shown), some (tp m), none, none, none, none] (σ1.so R1) = some (.nx [some (.ref 2), some (chn u w), some b2, some (chn u' w'), some (.ref (R.length + 3)), none, some (.str Pc.shown), some (tp m), none, none, none, none], σ1.so R2) := by
    have q1 : evE T (callF T (n + 9)) (.bin .mul (.lst (.cons (.var 7) .nil)) (.int 4)) [some (.ref 2), some (chn u w), some b2, some (chn u' w'), some (.ref (R.length + 3)), none, some (.str Pc.shown), some (tp m), none, none, none, none] (σ1.so R1) = some (.ref (R1.length + 4), σ1.so R2) := by
      refine e_bin (e_lst (e_cons (e_var rfl) e_nil) (len_i rfl)) e_int ((o_mulL (xs := [tp m]) (i := 4) get_new ⟨by decide, by decide, by simp⟩).trans ?_)
      rw [← hR2]
      show some (D.ref ((σ1.so R1 ++ [C.lst [tp m]]).length), _) = _
      rw [List.length_append]
      simp only [Bs.app, Bs.len, List.append_assoc]
      rfl
    have q2 := c_same (S := σ1.so R2) (n := n + 8) (Sh.lst k2 (sh4 _)) (Sh.lst k3 (sh4 _)) (by omega) (by omega) (by omega) (by omega)
    exact s_if_f (t_of (e_not (e_call (e_cons (e_var rfl) (e_cons q1 e_nil)) q2))) ss_nil
  -- 5
  generalize hR3 : R2 ++ [C.lst [.bl bb, .bl bb]] = R3
  have k4 : R3[R2.length]? = some (.lst [.bl bb, .bl bb]) := by rw [← hR3]; exact app_at
  have x5 : exS T (callF T (n + 9)) b__law_is_limit_right.tl.tl.tl.tl.hd [some (.ref 2), some (chn u w), some b2, some (chn u' w'), some (.ref (R.length + 3)), none, some (.str Pc.shown), some (tp m), none, none, none, none] (σ1.so R2) = some (.nx [some (.ref 2), some (chn u w), some b2, some (chn u' w'), some (.ref (R.length + 3)), some (.ref (R2.length + 3)), some (.str Pc.shown), some (tp m), none, none, none, none], σ1.so R3) := by
    have : σ1.so R2 ++ [C.lst [.bl bb, .bl bb]] = σ1.so R3 := by rw [Bs.app, hR3]
    rw [← this]
    exact s_asg (e_lst (e_cons (e_call (e_cons (e_var rfl) e_nil) (lr0 _)) (e_cons (e_callk (pm := [0]) e_nil (e_cons (e_var rfl) e_nil) (by kernel_rfl) rfl (lr1 _)) e_nil)) (len_i rfl)) rfl
  -- 6
  generalize hR4 : R3 ++ [C.lst [.bl bb], .lst [.bl bb, .bl bb]] = R4
  have k5 : ∀ {τ : Bs}, (τ.so R4)[R2.length + 3]? = some (.lst [.bl bb, .bl bb]) := fun {τ} => by rw [← hR4]; exact Bs.in k4 _
  have k6 : ∀ {τ : Bs}, (τ.so R4)[R3.length + 4]? = some (.lst [.bl bb, .bl bb]) := fun {τ} => by
    rw [← hR4]
    show (R3 ++ _)[R3.length + 1]? = _
    rw [List.getElem?_append_right (by omega), Nat.add_sub_cancel_left]
    rfl
  have shb : ∀ S, ShL S 1 2 [.bl bb, .bl bb] _ := fun S => sh_bls (bs := [bb, bb])
  have hdue : ∀ {S : So} {ρ : En}, ρ[7]? = some (some (tp m)) → evE T (callF T (n + 9)) (.ix (.var 7) (.int 3)) ρ S = some (.int Dd, S) := fun {S ρ} hρ => by
    rw [g1] at hρ
    exact e_ix (e_var hρ) e_int (ix_tup rfl)
  have x6 : exS T (callF T (n + 9)) b__law_is_limit_right.tl.tl.tl.tl.tl.hd [some (.ref 2), some (chn u w), some b2, some (chn u' w'), some (.ref (R.length + 3)), some (.ref (R2.length + 3)), some (.str Pc.shown), some (tp m), none, none, none, none] (σ1.so R3) = some (.nx [some (.ref 2), some (chn u w), some b2, some (chn u' w'), some (.ref (R.length + 3)), some (.ref (R2.length + 3)), some (.str Pc.shown), some (tp m), none, none, none, none], σ1.so R4) := by
    have q1 : evE T (callF T (n + 9)) (.bin .mul (.lst (.cons (.cmp .eq (.ix (.var 7) (.int 3)) (.int 0)) .nil)) (.int 2)) [some (.ref 2), some (chn u w), some b2, some (chn u' w'), some (.ref (R.length + 3)), some (.ref (R2.length + 3)), some (.str Pc.shown), some (tp m), none, none, none, none] (σ1.so R3) = some (.ref (R3.length + 4), σ1.so R4) := by
      refine e_bin (e_lst (ds := [.bl bb]) (e_cons (e_cmp (hdue rfl) e_int (by rw [← hbb]; exact c_eq)) e_nil) (len_i rfl)) e_int ((o_mulL (xs := [.bl bb]) (i := 2) get_new ⟨by decide, by decide, by simp⟩).trans ?_)
      rw [← hR4]
      show some (D.ref ((σ1.so R3 ++ [C.lst [.bl bb]]).length), _) = _
      rw [List.length_append]
      simp only [Bs.app, Bs.len, List.append_assoc]
      rfl
    have q2 := c_same (S := σ1.so R4) (n := n + 8) (Sh.lst k5 (shb _)) (Sh.lst k6 (shb _)) (by omega) (by omega) (by omega) (by omega)
    have q3 := c_neS (S := σ1.so R4) (shc (σ1.so R4)).ok (shc (σ1.so R4)).ok
    rw [decide_eq_true rfl] at q3
    exact s_if_f (t_of (e_or_f (e_not (e_call (e_cons (e_var rfl) (e_cons q1 e_nil)) q2)) (e_or1 (e_cmp (e_repr (shc _) (by omega) (by omega) (e_var rfl)) (e_var rfl) q3)))) ss_nil
  have hp1 : Pl R1 := by
    rw [← hR1]
    exact hR.app (Pl.one (by simp only [belows, e2.bel, Bool.and_self]))
  have hp2 : Pl R2 := by
    rw [← hR2]
    refine hp1.app ?_
    show (belows 0 _ && (belows 0 _ && true)) = true
    simp only [belows, e2.bel, Bool.and_self]
  have hp3 : Pl R3 := by rw [← hR3]; exact hp2.app (Pl.one rfl)
  have hp4 : Pl R4 := by rw [← hR4]; exact hp3.app rfl
  -- 7
  have x7 : ∃ (ρ : En) (E : So), exS T (callF T (n + 9)) b__law_is_limit_right.tl.tl.tl.tl.tl.tl.hd [some (.ref 2), some (chn u w), some b2, some (chn u' w'), some (.ref (R.length + 3)), some (.ref (R2.length + 3)), some (.str Pc.shown), some (tp m), none, none, none, none] (σ1.so R4) =
      some (.nx ρ, σ1.so (R4 ++ E)) ∧ Pl E ∧ ρ[0]? = some (some (.ref 2)) ∧ ρ[1]? = some (some (chn u w)) ∧ ρ[7]? = some (some (tp m)) := by
    by_cases hD : 0 < Dd
    · have hone : ∃ j, j < w.length ∧ m = rvj u w s j := by
        rcases e3.one with ⟨k, hk⟩ | hj
        · exfalso
          have : Dd = 0 := g3.mpr (by rw [hk]; exact pk_cj u w k)
          omega
        · exact hj
      obtain ⟨j, hj, hmj⟩ := hone
      obtain ⟨out, o9, o10, o11, q1, q2⟩ := l_found (S := σ1.so R4) (n := n + 4) (u := u) (b2 := b2) (o3 := some (chn u' w')) (o4 := some (.ref (R.length + 3))) (o5 := some (.ref (R2.length + 3))) (o6 := some (.str Pc.shown)) h hwl e2 w 0 [] none none none (by simp) (by omega) (by simp)
      have hin := q2 j (by omega) hj hmj
      rw [List.nil_append] at q1
      refine ⟨fE u w (tp m) (.ref (R4.length + 3)) (some (chn u' w')) (some (.ref (R.length + 3))) (some (.ref (R2.length + 3))) (some (.str Pc.shown)) o9 o10 o11 b2, [.lst (out.map D.bl)], ?_, Pl.one (bls_bel _), rfl, rfl, rfl⟩
      refine s_if_t (t_of (e_cmp (hdue rfl) e_int (c_gt_t hD))) (exSs_nx (s_asg (e_lst e_nil (len_i rfl)) rfl) (exSs_nx (s_fr (it_enumT (e_ix (e_var rfl) e_int (ix_tup rfl))) (by exact q1)) (exSs_nx (s_if_f (t_of (e_cmp e_bl (e_var rfl) (notin_bls (bs := out) ?_ hin))) ss_nil) (ss_nl rfl))))
      exact get_new
    · refine ⟨[some (.ref 2), some (chn u w), some b2, some (chn u' w'), some (.ref (R.length + 3)), some (.ref (R2.length + 3)), some (.str Pc.shown), some (tp m), none, none, none, none], [], ?_, rfl, rfl, rfl, rfl⟩
      rw [List.append_nil]
      exact s_if_f (t_of (e_cmp (hdue rfl) e_int (c_gt_f hD))) ss_nil
  obtain ⟨ρ, E, x7, hpE, r0, r1, r7⟩ := x7
  obtain ⟨σ2, e8, ok2⟩ := c_steps_right (σ := σ1) (R := R4 ++ E) (n := n + 1) hu h hul hwl ok1 (hp4.app hpE) e2 e3
  refine ⟨σ2, ?_, ok2⟩
  have x8 : exSs T (callF T (n + 9)) b__law_is_limit_right.tl.tl.tl.tl.tl.tl.tl ρ (σ1.so (R4 ++ E)) = some (.rt (.bl true), σ2.so (R4 ++ E)) :=
    exSs_rt (s_ret (e_call (e_cons (e_var r0) (e_cons (e_var r1) (e_cons (e_var r7) e_nil))) e8))
  rw [callF_of (ds := [.ref 2, chn u w, b2]) f__law_is_limit_right rfl (exSs_nx x1 (exSs_nx x2 (exSs_nx x3 (exSs_nx x4 (exSs_nx x5 (exSs_nx x6 (exSs_nx x7 x8))))))), ← hR4, ← hR3, ← hR2, ← hR1]
  simp only [List.append_assoc]
  rw [gc_bag rfl hR]
end L81
end

section
set_option maxHeartbeats 1000000
namespace L81
open PySem Mn
variable {S : So} {Q : NSq} {σ σ' : Bs} {R E : So}
local macro_rules
  | `(tactic| keq_rows) => `(tactic| (repeat' (first
      | with_reducible exact e_int | with_reducible exact e_bl | with_reducible exact e_non | with_reducible exact e_str | with_reducible exact e_nil | with_reducible exact s_pass | with_reducible exact eo_none | with_reducible exact o_add | with_reducible exact o_sub | with_reducible exact c_eq | with_reducible exact c_lt | with_reducible exact c_le | with_reducible exact c_gt | with_reducible exact c_ge | with_reducible exact c_ne
      | ((with_reducible refine' ss_nl ?mnh); (case mnh => exact rfl)) | ((with_reducible refine' e_var ?mnh); (case mnh => exact rfl)) | ((with_reducible refine' asg_i ?mnh); (case mnh => exact rfl)) | ((with_reducible refine' at_i ?mnh); (case mnh => exact rfl)) | ((with_reducible refine' ty_i ?mnh); (case mnh => exact rfl)) | ((with_reducible refine' mv_i ?mnh); (case mnh => exact rfl)) | ((with_reducible refine' bi_i ?mnh); (case mnh => exact rfl)) | ((with_reducible refine' e_glob ?mnh); (case mnh => kernel_rfl)) | (with_reducible exact div_lit (by decide)) | ((with_reducible refine' len_i ?mnh); (case mnh => exact rfl))
      | with_reducible refine' exSs_rt (s_ret ?_) | with_reducible refine' exSs_nx (s_asg ?_ ?_) ?_ | with_reducible refine' exSs_nx (s_ex ?_) ?_ | with_reducible refine' exSs_nx (s_put ?_ ?_ ?_ ?_) ?_ | with_reducible refine' t_of ?_ | with_reducible refine' e_bin ?_ ?_ ?_ | with_reducible refine' e_neg ?_ | with_reducible refine' e_cons ?_ ?_ | with_reducible refine' e_tup ?_ ?_ | with_reducible refine' e_lst ?_ ?_ | with_reducible refine' e_ix ?_ ?_ ?_ | with_reducible refine' e_cmp ?_ ?_ ?_ | with_reducible refine' e_not ?_ | with_reducible refine' e_call ?_ ?_ | with_reducible refine' e_bi ?_ ?_ | with_reducible refine' e_me ?_ ?_ ?_ ?_ | with_reducible refine' eo_some ?_ | with_reducible refine' e_sl ?_ ?_ ?_ ?_ | with_reducible refine' e_rev ?_ ?_ | with_reducible refine' ix_tup ?_
      | (with_reducible refine' e_callk ?_ ?_ (by kernel_rfl) rfl ?_)
      | keq_hits
      | with_reducible refine' o_mul ?_ | with_reducible refine' o_fdiv ?_ | with_reducible refine' o_mod ?_)))
  | `(tactic| kas_types) => `(tactic| (repeat' (first
      | exact Sz.id (by assumption) | exact Sz.lit (n := 16) (by decide) | with_reducible refine' Sz.mul ?_ ?_ | with_reducible refine' Sz.add ?_ ?_ | with_reducible refine' Sz.sub ?_ ?_ | with_reducible refine' Sz.neg ?_ | with_reducible refine' Sz.div ?_)))
  | `(tactic| lcg_sub) => `(tactic| ((refine' mul_sz ?mza ?mzb ?mzc); (case mza => kas_types); (case mzb => kas_types); (case mzc => omega)))
theorem sqf5 : Sqf 5 := fun p hp hd => by
  have h2 := hp.1
  have h3 := Nat.le_of_dvd (by decide) hd
  have : p < 3 := by
    rcases Nat.lt_or_ge p 3 with h | h
    · exact h
    · have := Nat.mul_le_mul h h
      omega
  have : p = 2 := by omega
  subst this
  omega
def Q5 : NSq := ⟨5, ns_of_sqf sqf5 (by decide) (by decide)⟩
def s5 : Kd Q5 := vl Q5 (-1) 1 2
theorem rw1 (r : Nat) : Rw (List.replicate r 1) := fun t ht => by
  rw [(List.mem_replicate.mp ht).2]
  omega
theorem fix1 : Fix [1] s5 := by
  have := fix_formula (Q := Q5) (t := 1) (w := []) (m := 1) (fun t ht => by simp at ht; omega) (by decide) (by decide)
  exact this
theorem rnd1 : Rnd Q5 [1] s5 := by
  refine ⟨fun t ht => by simp at ht; omega, by simp, by simp, fix1, ?_, sqf5, by decide⟩
  exact Own.irr (t := 1) (w := []) (fun t ht => by simp at ht; omega) ⟨1, by decide, by decide⟩ fix1
theorem flat1 : ∀ r, (List.replicate r [(1 : Int)]).flatten = List.replicate r 1
  | 0 => rfl
  | r + 1 => by rw [List.replicate_succ, List.flatten_cons, flat1 r, List.replicate_succ]; rfl
theorem rndG {r : Nat} (hr : r + 1 ≤ 12) : Rnd Q5 (List.replicate (r + 1) 1) s5 := by
  have := rnd_rep rnd1 (r := r) (by simpa using hr)
  rw [flat1] at this
  exact this
theorem bsG {r i : Nat} (hr : r + 1 ≤ 12) (hi : i ≤ r + 1) : bs (List.replicate (r + 1) 1) s5 i = s5 := by
  have h := rndG hr
  have hb := h.back i
  have e : (rot (List.replicate (r + 1) (1 : Int)) i).reverse = List.replicate (r + 1) 1 := by
    rw [rot, List.drop_replicate, List.take_replicate, Nat.min_eq_left hi, List.replicate_append_replicate, List.reverse_replicate, show r + 1 - i + i = r + 1 by omega]
  rw [e] at hb
  exact Fix.uniq (rw1 (r + 1)).ps hb.fix h.fix
theorem tmG {r k : Nat} : tm [] (List.replicate (r + 1) 1) k = 1 := by
  unfold tm
  rw [if_neg (by simp)]
  have hm := Nat.mod_lt (k - ([] : List Int).length) (show 0 < (List.replicate (r + 1) (1 : Int)).length by simp)
  rw [List.getElem?_eq_getElem hm]
  simp
theorem limG {r : Nat} (hr : r + 1 ≤ 12) {m : Kd Q5} (hl : Lim Q5 [] (List.replicate (r + 1) 1) s5 m) : tp m = sd 5 1 2 5 ∧ cj m ≠ m := by
  have h := rndG hr
  have hu : Rw [] := fun _ k => absurd k List.not_mem_nil
  have hrv : ∀ j, rvj [] (List.replicate (r + 1) 1) s5 j = 3 + s5 := by
    intro j
    rw [rvj_mod h]
    have hm := Nat.mod_lt j (show 0 < (List.replicate (r + 1) (1 : Int)).length by simp)
    generalize j % (List.replicate (r + 1) (1 : Int)).length = i at *
    unfold rvj bk
    rw [tmG, Nat.mod_eq_of_lt hm, bsG hr (by simp at hm; omega)]
    rfl
  have hm : m = 3 + s5 := by
    rcases hl.one with ⟨k, hk⟩ | ⟨j, _, hj⟩
    · have h1 := hl.rv 0
      rw [hrv] at h1
      have h2 : pk Q5 [] (List.replicate (r + 1) 1) (([] : List Int).length + k) ≤ rvj [] (List.replicate (r + 1) 1) s5 k := by
        refine pk_rvj hu h ?_
        have := (off_stop hu h k (by simp)).1
        grind
      rw [hrv, List.length_nil, Nat.zero_add, ← hk] at h2
      grind
    · rw [hj, hrv]
  have hv : m = vl Q5 5 1 2 := by
    rw [hm]
    unfold s5 vl
    have h2 := Kd.cne (Q := Q5) (show (2 : Int) ≠ 0 by decide)
    have f2 : ((2 : Int) : Kd Q5) = 2 := rfl
    have f5 : ((5 : Int) : Kd Q5) = 5 := rfl
    have f1 : ((-1 : Int) : Kd Q5) = -1 := by rw [Kd.cneg, Kd.c1]
    rw [f2] at h2 ⊢
    rw [f5, f1]
    grind
  have hrp : Rp Q5 10 (sd 5 1 2 5) m := by
    rw [hv]
    exact ⟨5, 1, 2, 5, rfl, ⟨by decide, by decide, by decide⟩, rfl, Sz.lit (by decide), Sz.lit (by decide), Sz.lit (by decide), by decide⟩
  refine ⟨hrp.tp.symm, ?_⟩
  rw [hv, cj_vl (by decide)]
  intro e
  rw [vl_eq (by decide) (by decide)] at e
  omega
theorem l_law {n : Nat} {scr gold : Option D} {gr : Int} : ∀ (j k : Nat) (σ : Bs) (a b c d e f g : Option D), σ.Ok → ∃ (σ' : Bs) (a' b' c' d' e' f' g' : Option D),
    forL none (fun x ρ S => (asgG (.nm 3) x ρ).bind fun ρ => exSs T (callF T (n + 11)) b_law.tl.tl.hd.bd ρ S) (rangeL (k : Int) j) [scr, some (.ref 2), some (.int gr), a, gold, b, c, d, e, f, g] (σ.so []) =
      some (.nx [scr, some (.ref 2), some (.int gr), a', gold, b', c', d', e', f', g'], σ'.so []) ∧ σ'.Ok
  | 0, k, σ, a, b, c, d, e, f, g, ok => ⟨σ, a, b, c, d, e, f, g, rfl, ok⟩
  | j + 1, k, σ, a, b, c, d, e, f, g, ok => by
    obtain ⟨gb, hgb⟩ : ∃ gb : Bool, evE T (callF T (n + 11)) (.and (.cons (.cmp .eq (.var 3) (.int 0)) (.cons (.cmp .eq (.var 2) (.int 0)) .nil))) [scr, some (.ref 2), some (.int gr), some (.int (k : Nat)), gold, b, c, d, e, f, g] (σ.so []) = some (.bl gb, σ.so []) := by
      by_cases h0 : ((k : Nat) : Int) = 0
      · exact ⟨_, e_and_t (e_cmp (e_var rfl) e_int (c_eq_t h0)) (e_and1 (e_cmp (e_var rfl) e_int c_eq))⟩
      · exact ⟨_, e_and_f (e_cmp (e_var rfl) e_int (c_eq_f h0))⟩
    obtain ⟨u, w, σ1, e1, ok1, hu, hw, hul, hne, hwl⟩ := c_chain (n := n + 7) (g := gb) (R := []) ok rfl
    cases w with
    | nil => exact absurd rfl hne
    | cons t w =>
    have h4 := (dsc_pos hw.ps).2
    have hle := dsc_le hw hwl
    obtain ⟨N, hN⟩ : ∃ N : Nat, dsc (t :: w) = N := ⟨(dsc (t :: w)).toNat, by omega⟩
    obtain ⟨m, dd, e2, hmd, hsq⟩ := c_bare (S := σ1.so []) (k := n + 9) (n := N) (by omega) (by unfold Sz; omega)
    obtain ⟨Q, s, hQ, hr, hm1⟩ := field_ex (m := m) (d := dd) hw hwl (by rw [hmd, hN]) hsq
    have hd : dsc (t :: w) = (m : Int) * m * (Q.d : Int) := by
      rw [hN, ← hmd, hQ]
      simp
    have htab := c_table (S := σ1.so []) (n := n + 10) hw (by omega : (t :: w).length ≤ 1000)
    obtain ⟨⟨a1, a2, a3, a4⟩, b1, b2, b3, b4⟩ := tab_le hw hwl
    have z1 : Sz 30 (tab (t :: w)).1 := by unfold Sz; omega
    have z2 : Sz 30 (tab (t :: w)).2.1 := by unfold Sz; omega
    have z3 : Sz 30 (tab (t :: w)).2.2.1 := by unfold Sz; omega
    have z4 : Sz 30 (tab (t :: w)).2.2.2 := by unfold Sz; omega
    have hdn : ((tab (t :: w)).1 - (tab (t :: w)).2.2.2) * ((tab (t :: w)).1 - (tab (t :: w)).2.2.2) + 4 * (tab (t :: w)).2.1 * (tab (t :: w)).2.2.1 = (N : Int) := hN
    rw [← hQ] at e2
    have e3 := c_slopes_right (S := σ1.so []) (n := n + 4) hr hm1 hd hwl
    obtain ⟨σ2, e4, ok2⟩ := c_limit_right (σ := σ1) (R := []) (n := n + 1) hu hr hul hwl hm1 hd ok1 rfl
    obtain ⟨σ', a', b', c', d', e', f', g', e5, ok'⟩ := l_law (n := n) (scr := scr) (gold := gold) (gr := gr) j (k + 1) σ2 (some (.int (k : Nat))) (some (chn u (t :: w))) (some (.tup [.int m, .int (Q.d : Int)])) (some (.int (tab (t :: w)).1)) (some (.int (tab (t :: w)).2.1)) (some (.int (tab (t :: w)).2.2.1)) (some (.int (tab (t :: w)).2.2.2)) ok2
    refine ⟨σ', a', b', c', d', e', f', g', ?_, ok'⟩
    rw [rangeL_succ, forL_cons_nx (w := none) (ρ1 := [scr, some (.ref 2), some (.int gr), some (.int (k : Nat)), gold, some (chn u (t :: w)), some (.tup [.int m, .int (Q.d : Int)]), some (.int (tab (t :: w)).1), some (.int (tab (t :: w)).2.1), some (.int (tab (t :: w)).2.2.1), some (.int (tab (t :: w)).2.2.2)]) (S1 := σ2.so []) ?_ trivial]
    · exact e5
    · have y1 : exS T (callF T (n + 11)) b_law.tl.tl.hd.bd.hd [scr, some (.ref 2), some (.int gr), some (.int (k : Nat)), gold, b, c, d, e, f, g] (σ.so []) = some (.nx [scr, some (.ref 2), some (.int gr), some (.int (k : Nat)), gold, some (chn u (t :: w)), c, d, e, f, g], σ1.so []) :=
        s_asg (e_call (e_cons (e_var rfl) (e_cons hgb e_nil)) e1) rfl
      have y2 : exS T (callF T (n + 11)) b_law.tl.tl.hd.bd.tl.hd [scr, some (.ref 2), some (.int gr), some (.int (k : Nat)), gold, some (chn u (t :: w)), c, d, e, f, g] (σ1.so []) = some (.nx [scr, some (.ref 2), some (.int gr), some (.int (k : Nat)), gold, some (chn u (t :: w)), c, some (.int (tab (t :: w)).1), some (.int (tab (t :: w)).2.1), some (.int (tab (t :: w)).2.2.1), some (.int (tab (t :: w)).2.2.2)], σ1.so []) :=
        s_asg (e_call (ds := [.tup ((t :: w).map D.int)]) (e_cons (e_ix (e_var rfl) e_int (ix_tup rfl)) e_nil) htab) rfl
      have q3 : evE T (callF T (n + 11)) (.bin .add (.bin .mul (.bin .sub (.var 7) (.var 10)) (.bin .sub (.var 7) (.var 10))) (.bin .mul (.bin .mul (.int 4) (.var 8)) (.var 9))) [scr, some (.ref 2), some (.int gr), some (.int (k : Nat)), gold, some (chn u (t :: w)), c, some (.int (tab (t :: w)).1), some (.int (tab (t :: w)).2.1), some (.int (tab (t :: w)).2.2.1), some (.int (tab (t :: w)).2.2.2)] (σ1.so []) = some (.int (N : Int), σ1.so []) := by
        rw [← hdn]
        exact e_bin (e_bin (e_bin (e_var rfl) (e_var rfl) o_sub) (e_bin (e_var rfl) (e_var rfl) o_sub) (o_mul (mul_sz (z1.sub z4) (z1.sub z4) (by omega)))) (e_bin (e_bin e_int (e_var rfl) (o_mul (mul_sz (Sz.lit (n := 3) (by decide)) z2 (by omega)))) (e_var rfl) (o_mul (mul_sz ((Sz.lit (n := 3) (by decide)).mul z2) z3 (by omega)))) o_add
      have y3 : exS T (callF T (n + 11)) b_law.tl.tl.hd.bd.tl.tl.hd [scr, some (.ref 2), some (.int gr), some (.int (k : Nat)), gold, some (chn u (t :: w)), c, some (.int (tab (t :: w)).1), some (.int (tab (t :: w)).2.1), some (.int (tab (t :: w)).2.2.1), some (.int (tab (t :: w)).2.2.2)] (σ1.so []) = some (.nx [scr, some (.ref 2), some (.int gr), some (.int (k : Nat)), gold, some (chn u (t :: w)), some (.tup [.int m, .int (Q.d : Int)]), some (.int (tab (t :: w)).1), some (.int (tab (t :: w)).2.1), some (.int (tab (t :: w)).2.2.1), some (.int (tab (t :: w)).2.2.2)], σ1.so []) :=
        s_asg (e_call (e_cons q3 e_nil) e2) rfl
      have y4 : exS T (callF T (n + 11)) b_law.tl.tl.hd.bd.tl.tl.tl.hd [scr, some (.ref 2), some (.int gr), some (.int (k : Nat)), gold, some (chn u (t :: w)), some (.tup [.int m, .int (Q.d : Int)]), some (.int (tab (t :: w)).1), some (.int (tab (t :: w)).2.1), some (.int (tab (t :: w)).2.2.1), some (.int (tab (t :: w)).2.2.2)] (σ1.so []) = some (.nx [scr, some (.ref 2), some (.int gr), some (.int (k : Nat)), gold, some (chn u (t :: w)), some (.tup [.int m, .int (Q.d : Int)]), some (.int (tab (t :: w)).1), some (.int (tab (t :: w)).2.1), some (.int (tab (t :: w)).2.2.1), some (.int (tab (t :: w)).2.2.2)], σ2.so []) :=
        s_if_f (t_of (e_or_f (e_not (k := true) (e_call (ds := [.tup ((t :: w).map D.int), .tup [.int m, .int (Q.d : Int)]]) (e_cons (e_ix (e_var rfl) e_int (ix_tup rfl)) (e_cons (e_var rfl) e_nil)) e3)) (e_or1 (e_not (k := true) (e_call (e_cons (e_var rfl) (e_cons (e_var rfl) (e_cons (e_var rfl) e_nil))) e4))))) ss_nil
      exact exSs_nx y1 (exSs_nx y2 (exSs_nx y3 (exSs_nx y4 ss_nil)))
theorem main (ns : List Int) (hl : ns.length ≤ 63) : ∃ S', callF T 40 "law" [.frl (ns.map D.int)] [] = some (.bl true, S') := by
  obtain ⟨σ, e1, ok⟩ := c_bag (n := 38) (ns := ns) hl
  obtain ⟨gr, σ1, e2, ok1, _, _⟩ := c_draw (n := 38) (σ := σ) (R := []) (b := 4) ok rfl (by omega)
  obtain ⟨σ2, a', b', c', d', e', f', g', e3, ok2⟩ := l_law (n := 28) (scr := some (.frl (ns.map D.int))) (gold := none) (gr := gr) 3 0 σ1 none none none none none none none ok1
  obtain ⟨r, σ3, e4, ok3, r0, r1⟩ := c_draw (n := 38) (σ := σ2) (R := []) (b := 6) ok2 rfl (by omega)
  obtain ⟨j, rfl⟩ : ∃ j : Nat, r = j := ⟨r.toNat, by omega⟩
  have hu : Rw [] := fun _ k => absurd k List.not_mem_nil
  have hr := rndG (r := j) (by omega)
  obtain ⟨m, f1, f2, f3⟩ := c_power_limit (S := σ3.so []) (n := 31) hu hr (by simp)
  obtain ⟨m', f4, f5⟩ := c_limit_reached (S := σ3.so []) (n := 30) hu hr (by simp)
  rw [(limG (by omega) f3).1] at f1
  rw [decide_eq_false (limG (by omega) f5).2] at f4
  have x1 : exS T (callF T 39) b_law.hd [some (.frl (ns.map D.int)), none, none, none, none, none, none, none, none, none, none] [] = some (.nx [some (.frl (ns.map D.int)), some (.ref 2), none, none, none, none, none, none, none, none, none], σ.so []) :=
    s_asg (e_call (e_cons (e_var rfl) e_nil) e1) rfl
  have x2 : exS T (callF T 39) b_law.tl.hd [some (.frl (ns.map D.int)), some (.ref 2), none, none, none, none, none, none, none, none, none] (σ.so []) = some (.nx [some (.frl (ns.map D.int)), some (.ref 2), some (.int gr), none, none, none, none, none, none, none, none], σ1.so []) :=
    s_asg (e_call (e_cons (e_var rfl) (e_cons e_int e_nil)) e2) rfl
  have x3 : exS T (callF T 39) b_law.tl.tl.hd [some (.frl (ns.map D.int)), some (.ref 2), some (.int gr), none, none, none, none, none, none, none, none] (σ1.so []) = some (.nx [some (.frl (ns.map D.int)), some (.ref 2), some (.int gr), a', none, b', c', d', e', f', g'], σ2.so []) :=
    s_fr (it_range1 e_int (by omega) (by omega)) e3
  have hg : opV .mul (.tup [.int 1]) (.int (1 + (j : Int))) (σ3.so []) = some (.tup ((List.replicate (j + 1) (1 : Int)).map D.int), σ3.so []) := by
    rw [o_mulT (i := 1 + (j : Int)) ⟨by omega, by omega, by simp, by simp⟩, show (1 + (j : Int)).toNat = j + 1 by omega]
    have := map_flat (w := [1]) (j + 1)
    rw [flat1] at this
    rw [← this]
    rfl
  have x4 : exS T (callF T 39) b_law.tl.tl.tl.hd [some (.frl (ns.map D.int)), some (.ref 2), some (.int gr), a', none, b', c', d', e', f', g'] (σ2.so []) = some (.nx [some (.frl (ns.map D.int)), some (.ref 2), some (.int gr), a', some (chn [] (List.replicate (j + 1) 1)), b', c', d', e', f', g'], σ3.so []) :=
    s_asg (e_tup (e_cons (e_tup e_nil (len_i rfl)) (e_cons (e_bin (e_tup (e_cons e_int e_nil) (len_i rfl)) (e_bin e_int (e_call (e_cons (e_var rfl) (e_cons e_int e_nil)) e4) o_add) hg) e_nil)) (len_i rfl)) rfl
  have sh5 : Sh (σ3.so []) 2 2004 (sd 5 1 2 5) _ := (Sh.tup (ShL.cons (Sh.int (k := 0) (Sz.lit (by decide))) (ShL.cons (Sh.int (Sz.lit (by decide))) (ShL.cons (Sh.int (Sz.lit (by decide))) (ShL.cons (Sh.int (Sz.lit (by decide))) ShL.nil))))).mono (by omega) (by omega)
  have q1 := c_same (n := 38) sh5 sh5 (by omega) (by omega) (by omega) (by omega)
  have q2 := c_same (S := σ3.so []) (n := 38) (Sh.bl (k := 0) (b := false)) (Sh.bl (k := 0) (b := false)) (by omega) (by omega) (by omega) (by omega)
  have x5 : exSs T (callF T 39) b_law.tl.tl.tl.tl [some (.frl (ns.map D.int)), some (.ref 2), some (.int gr), a', some (chn [] (List.replicate (j + 1) 1)), b', c', d', e', f', g'] (σ3.so []) = some (.rt (.bl true), σ3.so []) :=
    exSs_rt (s_ret (e_and_t (e_call (e_cons (e_call (e_cons (e_var rfl) e_nil) f1) (e_cons (e_tup (e_cons e_int (e_cons e_int (e_cons e_int (e_cons e_int e_nil)))) (len_i rfl)) e_nil)) q1)
      (e_and1 (e_call (e_cons (e_call (e_cons (e_var rfl) e_nil) f4) (e_cons e_bl e_nil)) q2))))
  have e9 := callF_of (T := T) (n := 39) (S := []) (ds := [.frl (ns.map D.int)]) f_law rfl (exSs_nx x1 (exSs_nx x2 (exSs_nx x3 (exSs_nx x4 x5))))
  have e10 : gc [] (.bl true) (σ3.so []) = (.bl true, []) := gc_dat rfl (.inl rfl)
  rw [e10] at e9
  exact ⟨_, e9⟩
end L81
theorem PySem.Challenge.cw_linecuts_k81_whole_limits_by_chains_holds : PySem.Challenge.rw_linecuts_k81_whole_limits_by_chains.Holds :=
  frame_holds fun ns hl _ => L81.main ns hl
end
